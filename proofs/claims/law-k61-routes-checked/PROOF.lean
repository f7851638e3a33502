import PyProof.Rows.All
import Wide.All
import OpenK.AllK
import Wide.FinOn
import HandS.ForMost
import HandS.Evl
import HandS.Strs
import HandS.IsInst
import HandS.Wide
import HandS.Deep
import HandS.Iter
import HandS.NoneIn
import PyProof.SumAny
import HandS.SortRule
import HandS.Keys
import HandS.Star
import HandS.DictTup
import HandS.Dict
import HandS.DictComp
import KE.DatumOrd
import HandS.SortKw
import HandS.WideMore
import HandS.Comp
import PyProof.DictUpdate
import PyProof.DictTable
import HandS.Style
import PySem.Challenge.RW_insertionorders_k61_routes_checked
set_option Elab.async false
set_option linter.all false
set_option maxRecDepth 100000
set_option maxHeartbeats 4000000
/-! A layer of plain data over the hand layer: what a piece of the program does to plain data (PyData), slot by slot; lists, dicts and sets that a def owns may change. -/
namespace G
open PySem L2

abbrev PD := PyData
def kD : Key → PD
  | .inl i => .int i
  | .inr x => .str x

/-! ### data that is shared: it never changes -/
/-- a tuple, with nothing but its items -/
def TupX (H : Hp) (a : Addr) (xs : List V) : Prop := ∃ od : Obj, od.dict = none ∧ H a = some (.frz od (.tup xs))
theorem TupX.sq {K : PySem.W.Frag} {H : Hp} {a : Addr} {xs : List V} : TupX H a xs → SqT K H a xs := fun ⟨od, _, h⟩ => .inl (.inr ⟨od, h⟩)
mutual
inductive Sh (K : PySem.W.Frag) (H : Hp) : V → PD → Prop
  | non : Sh K H .non .none
  | bl (b : Bool) : Sh K H (.bl b) (.bool b)
  | int (i : Int) : Sh K H (.int i) (.int i)
  | str (x : Str) : Sh K H (.str x) (.str x)
  | lst {a : Addr} {xs : List V} {ds : List PD} : SqL K H a xs → ShA K H xs ds → Sh K H (.ref a) (.list ds)
  | tup {a : Addr} {xs : List V} {ds : List PD} : TupX H a xs → ShA K H xs ds → Sh K H (.ref a) (.tuple ds)
  | dic {a : Addr} {od : Obj} {ws : List (Key × V)} {kvs : List (Key × PD)} : H a = some (.frz od (.dK ws)) → ShK K H ws kvs → Sh K H (.ref a) (.dict (kvs.map fun p => (kD p.1, p.2)))
inductive ShA (K : PySem.W.Frag) (H : Hp) : List V → List PD → Prop
  | nil : ShA K H [] []
  | cons {v : V} {vs : List V} {d : PD} {ds : List PD} : Sh K H v d → ShA K H vs ds → ShA K H (v :: vs) (d :: ds)
inductive ShK (K : PySem.W.Frag) (H : Hp) : List (Key × V) → List (Key × PD) → Prop
  | nil : ShK K H [] []
  | cons {k : Key} {v : V} {d : PD} {ws : List (Key × V)} {kvs : List (Key × PD)} : Sh K H v d → ShK K H ws kvs → ShK K H ((k, v) :: ws) ((k, d) :: kvs)
end

/-- what is read at H is read at H' -/
structure Le (K : PySem.W.Frag) (H H' : Hp) : Prop where
  l : ∀ a xs, SqL K H a xs → SqL K H' a xs
  t : ∀ a xs, TupX H a xs → TupX H' a xs
  d : ∀ a od ws, H a = some (.frz od (.dK ws)) → H' a = some (.frz od (.dK ws))
abbrev Ex := Evl.Ex
theorem Le.of {K : PySem.W.Frag} {H H' : Hp} (e : Ex H H') : Le K H H' := ⟨fun _ _ h => Evl.ex_l e h, fun a _ ⟨od, hd, h⟩ => ⟨od, hd, e a _ h⟩, fun a _ _ h => e a _ h⟩
section
variable {K : PySem.W.Frag} {H H' : Hp}
theorem Sh.le (e : Le K H H') {v : V} {d : PD} (h : Sh K H v d) : Sh K H' v d :=
  Sh.rec (motive_1 := fun v d _ => Sh K H' v d) (motive_2 := fun xs ds _ => ShA K H' xs ds) (motive_3 := fun ws kvs _ => ShK K H' ws kvs)
    .non .bl .int .str (fun h _ ih => .lst (e.l _ _ h) ih) (fun h _ ih => .tup (e.t _ _ h) ih) (fun h _ ih => .dic (e.d _ _ _ h) ih) .nil (fun _ _ a b => .cons a b) .nil (fun _ _ a b => .cons a b) h
theorem ShA.le (e : Le K H H') {xs : List V} {ds : List PD} (h : ShA K H xs ds) : ShA K H' xs ds :=
  ShA.rec (motive_1 := fun v d _ => Sh K H' v d) (motive_2 := fun xs ds _ => ShA K H' xs ds) (motive_3 := fun ws kvs _ => ShK K H' ws kvs)
    .non .bl .int .str (fun h _ ih => .lst (e.l _ _ h) ih) (fun h _ ih => .tup (e.t _ _ h) ih) (fun h _ ih => .dic (e.d _ _ _ h) ih) .nil (fun _ _ a b => .cons a b) .nil (fun _ _ a b => .cons a b) h
theorem ShK.le (e : Le K H H') {ws : List (Key × V)} {kvs : List (Key × PD)} (h : ShK K H ws kvs) : ShK K H' ws kvs :=
  ShK.rec (motive_1 := fun v d _ => Sh K H' v d) (motive_2 := fun xs ds _ => ShA K H' xs ds) (motive_3 := fun ws kvs _ => ShK K H' ws kvs)
    .non .bl .int .str (fun h _ ih => .lst (e.l _ _ h) ih) (fun h _ ih => .tup (e.t _ _ h) ih) (fun h _ ih => .dic (e.d _ _ _ h) ih) .nil (fun _ _ a b => .cons a b) .nil (fun _ _ a b => .cons a b) h
theorem Sh.mono (e : Ex H H') {v : V} {d : PD} (h : Sh K H v d) : Sh K H' v d := h.le (.of e)
theorem ShA.mono (e : Ex H H') {xs : List V} {ds : List PD} (h : ShA K H xs ds) : ShA K H' xs ds := h.le (.of e)
theorem ShK.mono (e : Ex H H') {ws : List (Key × V)} {kvs : List (Key × PD)} (h : ShK K H ws kvs) : ShK K H' ws kvs := h.le (.of e)
theorem ShA.length : ∀ {xs : List V} {ds : List PD}, ShA K H xs ds → xs.length = ds.length
  | _, _, .nil => rfl
  | _, _, .cons _ t => congrArg (· + 1) t.length
theorem ShA.get : ∀ {xs : List V} {ds : List PD} {i : Nat} {d : PD}, ShA K H xs ds → ds[i]? = some d → ∃ v, xs[i]? = some v ∧ Sh K H v d
  | _, _, _, _, .nil, e => by simp at e
  | _, _, 0, d, .cons h _, e => by simp at e; subst e; exact ⟨_, rfl, h⟩
  | _, _, i + 1, d, .cons _ t, e => by
    obtain ⟨v, h1, h2⟩ := ShA.get (i := i) (d := d) t (by simpa using e)
    exact ⟨v, by simpa using h1, h2⟩
theorem ShA.get' : ∀ {xs : List V} {ds : List PD} {i : Nat} {v : V}, ShA K H xs ds → xs[i]? = some v → ∃ d, ds[i]? = some d ∧ Sh K H v d
  | _, _, _, _, .nil, e => by simp at e
  | _, _, 0, d, .cons h _, e => by simp at e; subst e; exact ⟨_, rfl, h⟩
  | _, _, i + 1, v, .cons _ t, e => by
    obtain ⟨d, h1, h2⟩ := ShA.get' (i := i) (v := v) t (by simpa using e)
    exact ⟨d, by simpa using h1, h2⟩
theorem ShA.append : ∀ {xs ys : List V} {ds es : List PD}, ShA K H xs ds → ShA K H ys es → ShA K H (xs ++ ys) (ds ++ es)
  | _, _, _, _, .nil, s => s
  | _, _, _, _, .cons r t, s => .cons r (t.append s)
theorem ShA.set : ∀ {xs : List V} {ds : List PD} {v : V} {d : PD} (i : Nat), ShA K H xs ds → Sh K H v d → ShA K H (xs.set i v) (ds.set i d)
  | _, _, _, _, _, .nil, _ => .nil
  | _, _, _, _, 0, .cons _ t, r => .cons r t
  | _, _, _, _, i + 1, .cons h t, r => .cons h (t.set i r)
theorem ShA.take : ∀ {xs : List V} {ds : List PD} (n : Nat), ShA K H xs ds → ShA K H (xs.take n) (ds.take n)
  | _, _, 0, _ => .nil
  | _, _, _ + 1, .nil => .nil
  | _, _, n + 1, .cons r t => .cons r (t.take n)
theorem ShA.drop : ∀ {xs : List V} {ds : List PD} (n : Nat), ShA K H xs ds → ShA K H (xs.drop n) (ds.drop n)
  | _, _, 0, r => r
  | _, _, _ + 1, .nil => .nil
  | _, _, n + 1, .cons _ t => t.drop n
theorem ShA.eraseIdx : ∀ {xs : List V} {ds : List PD} (i : Nat), ShA K H xs ds → ShA K H (xs.eraseIdx i) (ds.eraseIdx i)
  | _, _, _, .nil => .nil
  | _, _, 0, .cons _ t => t
  | _, _, i + 1, .cons h t => .cons h (t.eraseIdx i)
theorem ShA.reverse {xs : List V} {ds : List PD} (h : ShA K H xs ds) : ShA K H xs.reverse ds.reverse := by
  induction xs generalizing ds with
  | nil => cases h; exact .nil
  | cons x xs ih => cases h with | cons a b => rw [List.reverse_cons, List.reverse_cons]; exact (ih b).append (.cons a .nil)
theorem ShA.dropLast {xs : List V} {ds : List PD} (h : ShA K H xs ds) : ShA K H xs.dropLast ds.dropLast := by
  rw [List.dropLast_eq_take, List.dropLast_eq_take, h.length]; exact h.take _
theorem ShA.ints : ∀ {ns : List Int} {xs : List V}, ShA K H xs (ns.map PyData.int) → xs = ns.map V.int
  | [], _, .nil => rfl
  | n :: ns, _, .cons h t => by cases h; rw [ShA.ints t]; rfl
theorem ShA.of_ints : ∀ (ns : List Int), ShA K H (ns.map V.int) (ns.map PyData.int)
  | [] => .nil
  | n :: ns => .cons (.int n) (ShA.of_ints ns)
theorem ShK.length : ∀ {ws : List (Key × V)} {kvs : List (Key × PD)}, ShK K H ws kvs → ws.length = kvs.length
  | _, _, .nil => rfl
  | _, _, .cons _ t => congrArg (· + 1) t.length
theorem ShK.keys : ∀ {ws : List (Key × V)} {kvs : List (Key × PD)}, ShK K H ws kvs → ws.map (·.1) = kvs.map (·.1)
  | _, _, .nil => rfl
  | _, _, .cons _ t => congrArg (_ :: ·) t.keys
end

/-! ### slots -/
/-- a thing that a def owns -/
inductive Ob where
  | lst (ds : List PD) | tup (ds : List PD) | dic (kvs : List (Key × PD)) | set (xs : List Int)
/-- a slot: without a value; shared data; a thing of one's own (a tag: the argument's place whose thing it is) -/
inductive Sl where
  | no | sh (d : PD) | own (t : Option Nat) (o : Ob)
abbrev Sto := List Sl
def Ob.pd : Ob → Option PD
  | .lst ds => some (.list ds)
  | .tup ds => some (.tuple ds)
  | .dic kvs => some (.dict (kvs.map fun p => (kD p.1, p.2)))
  | .set _ => none
def Sl.pd : Sl → Option PD
  | .no => none
  | .sh d => some d
  | .own _ o => o.pd
def ObR (K : PySem.W.Frag) (w : World) (R H : Hp) (p : Addr) : Ob → Prop
  | .lst ds => ∃ xs, H p = some (.lst xs) ∧ ShA K R xs ds
  | .tup ds => ∃ xs, TupX H p xs ∧ ShA K R xs ds
  | .dic kvs => ∃ ws, H p = some (.dK ws) ∧ ShK K R ws kvs
  | .set xs => H p = some (SetO w p (fun i => decide (i ∈ xs)) xs.length) ∧ xs.Nodup
/-- the entry of a def: what was shared, what was there, the things handed in to be changed -/
structure Fr where
  R0 : Hp
  H0 : Hp
  I : Nat → Option Addr
def Own (σ : St) (Γ : Sto) (a : Addr) : Prop := ∃ (i : Nat) (t : Option Nat) (o : Ob), Γ[i]? = some (.own t o) ∧ σ[i]? = some (some (.ref a))
def TagOk (F : Fr) (p : Addr) : Option Nat → Prop
  | none => F.H0 p = none
  | some k => F.I k = some p
structure Abs (K : PySem.W.Frag) (w : World) (F : Fr) (σ : St) (Γ : Sto) (R H : Hp) : Prop where
  len : Γ.length = σ.length
  sh : ∀ (i : Nat) (d : PD), Γ[i]? = some (.sh d) → ∃ v, σ[i]? = some (some v) ∧ Sh K R v d
  own : ∀ (i : Nat) (t : Option Nat) (o : Ob), Γ[i]? = some (.own t o) → ∃ p, σ[i]? = some (some (.ref p)) ∧ R p = none ∧ TagOk F p t ∧ ObR K w R H p o
  dis : ∀ (i j : Nat) (t u : Option Nat) (o q : Ob) (p : Addr), Γ[i]? = some (.own t o) → Γ[j]? = some (.own u q) → σ[i]? = some (some (.ref p)) → σ[j]? = some (some (.ref p)) → i = j
  rh : Ex R H
  r0 : Ex F.R0 R
  sep : ∀ a o, F.H0 a = some o → F.R0 a = none → R a = none
  frm : ∀ a o, F.H0 a = some o → (∀ k, F.I k ≠ some a) → H a = some o
  kee : ∀ a, H a = none → F.H0 a = none
/-- from one state to a later one, the slots' addresses as they are -/
structure Step (σ : St) (Γ : Sto) (R H : Hp) (Γ' : Sto) (R' H' : Hp) : Prop where
  ex : Ex R R'
  fr : ∀ a o, H a = some o → R a = none → ¬ Own σ Γ a → H' a = some o ∧ R' a = none
  own : ∀ a, Own σ Γ' a → Own σ Γ a
  vis : ∀ (i : Nat) (s : Sl), Γ[i]? = some s → s ≠ .no → ∃ s', Γ'[i]? = some s' ∧ s' ≠ .no
  kee : ∀ a, H' a = none → H a = none
section
variable {K : PySem.W.Frag} {w : World} {F : Fr} {σ : St} {Γ Γ1 Γ2 : Sto} {R R1 R2 H H1 H2 : Hp}
theorem Step.refl (σ : St) (Γ : Sto) (R H : Hp) : Step σ Γ R H Γ R H := ⟨Evl.Ex.refl R, fun _ _ h r _ => ⟨h, r⟩, fun _ h => h, fun i s h n => ⟨s, h, n⟩, fun _ h => h⟩
theorem Step.trans (a : Step σ Γ R H Γ1 R1 H1) (b : Step σ Γ1 R1 H1 Γ2 R2 H2) : Step σ Γ R H Γ2 R2 H2 where
  ex := Evl.Ex.trans a.ex b.ex
  fr := fun x o h r n => by
    obtain ⟨h1, r1⟩ := a.fr x o h r n
    exact b.fr x o h1 r1 fun q => n (a.own x q)
  own := fun x h => a.own x (b.own x h)
  vis := fun i s h n => by
    obtain ⟨s1, h1, n1⟩ := a.vis i s h n
    exact b.vis i s1 h1 n1
  kee := fun x h => a.kee x (b.kee x h)
def Ob.isDic : Ob → Bool
  | .dic _ => true
  | _ => false
theorem ObR.monoR {p : Addr} (e : Ex R R1) (hH : ∀ o, H p = some o → H1 p = some o) : ∀ {o : Ob}, ObR K w R H p o → ObR K w R1 H1 p o
  | .lst _, ⟨xs, h, s⟩ => ⟨xs, hH _ h, s.mono e⟩
  | .tup _, ⟨xs, ⟨od, hd, h⟩, s⟩ => ⟨xs, ⟨od, hd, hH _ h⟩, s.mono e⟩
  | .dic _, ⟨xs, h, s⟩ => ⟨xs, hH _ h, s.mono e⟩
  | .set _, ⟨h, s⟩ => ⟨hH _ h, s⟩
theorem ObR.there {p : Addr} : ∀ {o : Ob}, ObR K w R H p o → ∃ ho, H p = some ho
  | .lst _, ⟨_, h, _⟩ => ⟨_, h⟩
  | .tup _, ⟨_, ⟨_, _, h⟩, _⟩ => ⟨_, h⟩
  | .dic _, ⟨_, h, _⟩ => ⟨_, h⟩
  | .set _, ⟨h, _⟩ => ⟨_, h⟩
theorem Abs.fresh0 (a : Abs K w F σ Γ R H) {p : Addr} (h : H p = none) : F.H0 p = none := a.kee p h
theorem Abs.notOwn (a : Abs K w F σ Γ R H) {p : Addr} (h : H p = none) : ¬ Own σ Γ p := fun ⟨i, t, o, g, s⟩ => by
  obtain ⟨q, hq, _, _, ho⟩ := a.own i t o g
  rw [s] at hq
  cases hq
  obtain ⟨x, hx⟩ := ho.there
  rw [h] at hx
  cases hx
theorem Abs.freshR (a : Abs K w F σ Γ R H) {p : Addr} (h : H p = none) : R p = none := Evl.fresh_back a.rh h
/-- a new object -/
theorem Abs.new (a : Abs K w F σ Γ R H) {p : Addr} (h : H p = none) (ho : HO) : Abs K w F σ Γ R (upd H p ho) ∧ Step σ Γ R H Γ R (upd H p ho) := by
  have same : ∀ b o, H b = some o → upd H p ho b = some o := fun b o e => by rw [upd_ne (ne_of_none e h)]; exact e
  have kee : ∀ b, upd H p ho b = none → H b = none := fun b e => by
    by_cases hb : b = p
    · subst hb; exact h
    · rwa [upd_ne hb] at e
  refine ⟨⟨a.len, a.sh, fun i t o g => ?_, a.dis, Evl.Ex.trans a.rh (Evl.Ex.new h), a.r0, a.sep, fun b o e n => same b o (a.frm b o e n), fun b e => a.kee b (kee b e)⟩, ⟨Evl.Ex.refl R, fun b o e r _ => ⟨same b o e, r⟩, fun _ q => q, fun i s g n => ⟨s, g, n⟩, kee⟩⟩
  obtain ⟨q, hq, r, t', ob⟩ := a.own i t o g
  exact ⟨q, hq, r, t', ob.monoR (Evl.Ex.refl R) (same q)⟩
theorem get_set {α : Type} {l : List α} {i j : Nat} {x y : α} (h : (l.set i x)[j]? = some y) : (i = j ∧ y = x) ∨ (i ≠ j ∧ l[j]? = some y) := by
  by_cases e : i = j
  · subst e
    by_cases hi : i < l.length
    · rw [List.getElem?_set_self hi] at h; exact .inl ⟨rfl, (Option.some.inj h).symm⟩
    · rw [List.getElem?_eq_none (by simpa using hi)] at h; cases h
  · rw [List.getElem?_set_ne e] at h; exact .inr ⟨e, h⟩
theorem set_get {α : Type} {l : List α} {i : Nat} {x y : α} (h : l[i]? = some y) : (l.set i x)[i]? = some x := List.getElem?_set_self (List.getElem?_eq_some_iff.mp h).1
/-- a thing of one's own is changed -/
theorem Abs.mut (a : Abs K w F σ Γ R H) {i : Nat} {t : Option Nat} {o o' : Ob} {p : Addr} {ho : HO} (g : Γ[i]? = some (.own t o)) (s : σ[i]? = some (some (.ref p))) (ob : ObR K w R (upd H p ho) p o') :
    Abs K w F σ (Γ.set i (.own t o')) R (upd H p ho) ∧ Step σ Γ R H (Γ.set i (.own t o')) R (upd H p ho) := by
  obtain ⟨q, hq, rp, tg, ob0⟩ := a.own i t o g
  rw [s] at hq; cases hq
  have ro : ∀ b, R b ≠ none → b ≠ p := fun b h e => h (e ▸ rp)
  have own' : ∀ (j : Nat) (u : Option Nat) (x : Ob), (Γ.set i (.own t o'))[j]? = some (.own u x) → ∃ y, Γ[j]? = some (.own u y) := fun j u x e => by
    rcases get_set e with ⟨rfl, z⟩ | ⟨_, z⟩
    · cases z; exact ⟨_, g⟩
    · exact ⟨_, z⟩
  refine ⟨⟨by rw [List.length_set]; exact a.len, fun j d e => ?_, fun j u x e => ?_, fun j k u v x y q e1 e2 => ?_, fun b o e => ?_, a.r0, a.sep, fun b o e n => ?_, fun b e => ?_⟩, ⟨Evl.Ex.refl R, fun b o e r n => ?_, fun b ⟨j, u, x, e1, e2⟩ => ?_, fun j s' e n => ?_, fun b e => ?_⟩⟩
  · rcases get_set e with ⟨_, z⟩ | ⟨_, z⟩
    · cases z
    · exact a.sh j d z
  · rcases get_set e with ⟨rfl, z⟩ | ⟨ne, z⟩
    · cases z; exact ⟨p, s, rp, tg, ob⟩
    · obtain ⟨q, h1, h2, h3, h4⟩ := a.own j u x z
      refine ⟨q, h1, h2, h3, h4.monoR (Evl.Ex.refl R) fun o y => ?_⟩
      rw [upd_ne]
      · exact y
      · rintro rfl
        exact ne (a.dis i j t u _ _ q g z s h1)
  · obtain ⟨_, e1⟩ := own' j u x e1
    obtain ⟨_, e2⟩ := own' k v y e2
    exact a.dis j k u v _ _ q e1 e2
  · rw [upd_ne (ro b (by rw [e]; intro z; cases z))]; exact a.rh b o e
  · rw [upd_ne]
    · exact a.frm b o e n
    · rintro rfl
      cases t with
      | none => have z : F.H0 b = none := tg
                rw [z] at e; cases e
      | some k => exact n k tg
  · refine a.kee b ?_
    by_cases hb : b = p
    · subst hb; rw [upd_same] at e; cases e
    · rwa [upd_ne hb] at e
  · refine ⟨?_, r⟩
    rw [upd_ne]
    · exact e
    · rintro rfl; exact n ⟨i, t, _, g, s⟩
  · obtain ⟨_, e1⟩ := own' j u x e1
    exact ⟨j, u, _, e1, e2⟩
  · by_cases hj : i = j
    · subst hj; exact ⟨_, set_get e, by intro z; cases z⟩
    · exact ⟨s', by rw [List.getElem?_set_ne hj]; exact e, n⟩
  · by_cases hb : b = p
    · subst hb; rw [upd_same] at e; cases e
    · rwa [upd_ne hb] at e
/-- a thing on the way is shared from now on -/
theorem Abs.share (a : Abs K w F σ Γ R H) {p : Addr} {ho : HO} (h : H p = some ho) (rp : R p = none) (h0 : F.H0 p = none) (n : ¬ Own σ Γ p) {Γb : Sto} {Rb Hb : Hp} (hb : Hb p = none) (st : Step σ Γb Rb Hb Γ R H) :
    Abs K w F σ Γ (upd R p ho) H ∧ Step σ Γb Rb Hb Γ (upd R p ho) H := by
  have e : Ex R (upd R p ho) := Evl.Ex.new rp
  refine ⟨⟨a.len, fun i d g => ?_, fun i t o g => ?_, a.dis, fun b o z => ?_, Evl.Ex.trans a.r0 e, fun b o z r => ?_, a.frm, a.kee⟩, ⟨Evl.Ex.trans st.ex e, fun b o z r no => ?_, st.own, st.vis, st.kee⟩⟩
  · obtain ⟨v, h1, h2⟩ := a.sh i d g
    exact ⟨v, h1, h2.mono e⟩
  · obtain ⟨q, h1, h2, h3, h4⟩ := a.own i t o g
    refine ⟨q, h1, ?_, h3, h4.monoR e fun _ z => z⟩
    rw [upd_ne]
    · exact h2
    · rintro rfl; exact n ⟨i, t, o, g, h1⟩
  · by_cases hbp : b = p
    · subst hbp; rw [upd_same] at z; cases z; exact h
    · rw [upd_ne hbp] at z; exact a.rh b o z
  · rw [upd_ne]
    · exact a.sep b o z r
    · rintro rfl; rw [h0] at z; cases z
  · obtain ⟨h1, r1⟩ := st.fr b o z r no
    refine ⟨h1, ?_⟩
    rw [upd_ne]
    · exact r1
    · rintro rfl; rw [hb] at z; cases z
theorem own_set_sh {i : Nat} {d : PD} {a : Addr} (h : Own σ (Γ.set i (.sh d)) a) : Own σ Γ a := by
  obtain ⟨j, t, o, g, s⟩ := h
  rcases get_set g with ⟨_, e⟩ | ⟨_, e⟩
  · cases e
  · exact ⟨j, t, o, e, s⟩
/-- a thing of one's own is shared from now on -/
theorem Abs.freeze (a : Abs K w F σ Γ R H) {i : Nat} {o : Ob} {d : PD} {p : Addr} {ho : HO} (g : Γ[i]? = some (.own none o)) (s : σ[i]? = some (some (.ref p))) (h : H p = some ho) (hd : Sh K (upd R p ho) (.ref p) d) :
    Abs K w F σ (Γ.set i (.sh d)) (upd R p ho) H ∧ Step σ Γ R H (Γ.set i (.sh d)) (upd R p ho) H := by
  obtain ⟨q, hq, rp, tg, ob0⟩ := a.own i none o g
  rw [s] at hq; cases hq
  have h0 : F.H0 p = none := tg
  have e : Ex R (upd R p ho) := Evl.Ex.new rp
  refine ⟨⟨by rw [List.length_set]; exact a.len, fun j d' g' => ?_, fun j t o g' => ?_, fun j k t u x y q g1 g2 => ?_, fun b o z => ?_, Evl.Ex.trans a.r0 e, fun b o z r => ?_, a.frm, a.kee⟩, ⟨e, fun b o z r no => ?_, fun b q => own_set_sh q, fun j s' g' n => ?_, fun _ z => z⟩⟩
  · rcases get_set g' with ⟨rfl, z⟩ | ⟨_, z⟩
    · cases z; exact ⟨_, s, hd⟩
    · obtain ⟨v, h1, h2⟩ := a.sh j d' z
      exact ⟨v, h1, h2.mono e⟩
  · rcases get_set g' with ⟨_, z⟩ | ⟨ne, z⟩
    · cases z
    · obtain ⟨q, h1, h2, h3, h4⟩ := a.own j t o z
      refine ⟨q, h1, ?_, h3, h4.monoR e fun _ z => z⟩
      rw [upd_ne]
      · exact h2
      · rintro rfl; exact ne (a.dis i j none t _ _ q g z s h1)
  · rcases get_set g1 with ⟨_, z⟩ | ⟨_, z1⟩
    · cases z
    · rcases get_set g2 with ⟨_, z⟩ | ⟨_, z2⟩
      · cases z
      · exact a.dis j k t u x y q z1 z2
  · by_cases hbp : b = p
    · subst hbp; rw [upd_same] at z; cases z; exact h
    · rw [upd_ne hbp] at z; exact a.rh b o z
  · rw [upd_ne]
    · exact a.sep b o z r
    · rintro rfl; rw [h0] at z; cases z
  · refine ⟨z, ?_⟩
    rw [upd_ne]
    · exact r
    · rintro rfl; exact no ⟨i, none, _, g, s⟩
  · by_cases hj : i = j
    · subst hj; exact ⟨_, set_get g', by intro z; cases z⟩
    · exact ⟨s', by rw [List.getElem?_set_ne hj]; exact g', n⟩
/-- a thing of one's own is locked and shared from now on -/
theorem Abs.freezeL (a : Abs K w F σ Γ R H) {i : Nat} {o : Ob} {d : PD} {p : Addr} {ho : HO} (g : Γ[i]? = some (.own none o)) (s : σ[i]? = some (some (.ref p))) (hd : Sh K (upd R p ho) (.ref p) d) :
    Abs K w F σ (Γ.set i (.sh d)) (upd R p ho) (upd H p ho) ∧ Step σ Γ R H (Γ.set i (.sh d)) (upd R p ho) (upd H p ho) := by
  obtain ⟨q, hq, rp, tg, ob0⟩ := a.own i none o g
  rw [s] at hq; cases hq
  have h0 : F.H0 p = none := tg
  have e : Ex R (upd R p ho) := Evl.Ex.new rp
  have kee : ∀ b, upd H p ho b = none → H b = none := fun b z => by
    by_cases hb : b = p
    · subst hb; rw [upd_same] at z; cases z
    · rwa [upd_ne hb] at z
  refine ⟨⟨by rw [List.length_set]; exact a.len, fun j d' g' => ?_, fun j t o g' => ?_, fun j k t u x y q g1 g2 => ?_, fun b o z => ?_, Evl.Ex.trans a.r0 e, fun b o z r => ?_, fun b o z r => ?_, fun b z => a.kee b (kee b z)⟩, ⟨e, fun b o z r no => ?_, fun b q => own_set_sh q, fun j s' g' n => ?_, kee⟩⟩
  · rcases get_set g' with ⟨rfl, z⟩ | ⟨_, z⟩
    · cases z; exact ⟨_, s, hd⟩
    · obtain ⟨v, h1, h2⟩ := a.sh j d' z
      exact ⟨v, h1, h2.mono e⟩
  · rcases get_set g' with ⟨_, z⟩ | ⟨ne, z⟩
    · cases z
    · obtain ⟨q, h1, h2, h3, h4⟩ := a.own j t o z
      have nq : q ≠ p := by rintro rfl; exact ne (a.dis i j none t _ _ q g z s h1)
      exact ⟨q, h1, by rw [upd_ne nq]; exact h2, h3, h4.monoR e fun _ z => by rw [upd_ne nq]; exact z⟩
  · rcases get_set g1 with ⟨_, z⟩ | ⟨_, z1⟩
    · cases z
    · rcases get_set g2 with ⟨_, z⟩ | ⟨_, z2⟩
      · cases z
      · exact a.dis j k t u x y q z1 z2
  · by_cases hbp : b = p
    · subst hbp; rw [upd_same] at z ⊢; exact z
    · rw [upd_ne hbp] at z ⊢; exact a.rh b o z
  · rw [upd_ne]
    · exact a.sep b o z r
    · rintro rfl; rw [h0] at z; cases z
  · rw [upd_ne]
    · exact a.frm b o z r
    · rintro rfl; rw [h0] at z; cases z
  · have nb : b ≠ p := by rintro rfl; exact no ⟨i, none, _, g, s⟩
    rw [upd_ne nb, upd_ne nb]
    exact ⟨z, r⟩
  · by_cases hj : i = j
    · subst hj; exact ⟨_, set_get g', by intro z; cases z⟩
    · exact ⟨s', by rw [List.getElem?_set_ne hj]; exact g', n⟩
/-- a new thing is locked and shared -/
theorem Abs.shareL (a : Abs K w F σ Γ R H) {p : Addr} {ho : HO} (rp : R p = none) (h0 : F.H0 p = none) (n : ¬ Own σ Γ p) {Γb : Sto} {Rb Hb : Hp} (hb : Hb p = none) (st : Step σ Γb Rb Hb Γ R H) :
    Abs K w F σ Γ (upd R p ho) (upd H p ho) ∧ Step σ Γb Rb Hb Γ (upd R p ho) (upd H p ho) := by
  have e : Ex R (upd R p ho) := Evl.Ex.new rp
  have kee : ∀ b, upd H p ho b = none → H b = none := fun b z => by
    by_cases hb : b = p
    · subst hb; rw [upd_same] at z; cases z
    · rwa [upd_ne hb] at z
  refine ⟨⟨a.len, fun i d g => ?_, fun i t o g => ?_, a.dis, fun b o z => ?_, Evl.Ex.trans a.r0 e, fun b o z r => ?_, fun b o z r => ?_, fun b z => a.kee b (kee b z)⟩, ⟨Evl.Ex.trans st.ex e, fun b o z r no => ?_, st.own, st.vis, fun b z => st.kee b (kee b z)⟩⟩
  · obtain ⟨v, h1, h2⟩ := a.sh i d g
    exact ⟨v, h1, h2.mono e⟩
  · obtain ⟨q, h1, h2, h3, h4⟩ := a.own i t o g
    have nq : q ≠ p := by rintro rfl; exact n ⟨i, t, o, g, h1⟩
    exact ⟨q, h1, by rw [upd_ne nq]; exact h2, h3, h4.monoR e fun _ z => by rw [upd_ne nq]; exact z⟩
  · by_cases hbp : b = p
    · subst hbp; rw [upd_same] at z ⊢; exact z
    · rw [upd_ne hbp] at z ⊢; exact a.rh b o z
  · rw [upd_ne]
    · exact a.sep b o z r
    · rintro rfl; rw [h0] at z; cases z
  · rw [upd_ne]
    · exact a.frm b o z r
    · rintro rfl; rw [h0] at z; cases z
  · obtain ⟨h1, r1⟩ := st.fr b o z r no
    have nb : b ≠ p := by rintro rfl; rw [hb] at z; cases z
    rw [upd_ne nb, upd_ne nb]
    exact ⟨h1, r1⟩
/-- a slot gets shared data -/
theorem Abs.setSh (a : Abs K w F σ Γ R H) {i : Nat} {v : V} {d : PD} (hv : Sh K R v d) : Abs K w F (σ.set i (some v)) (Γ.set i (.sh d)) R H := by
  refine ⟨by rw [List.length_set, List.length_set]; exact a.len, fun j d' g => ?_, fun j t o g => ?_, fun j k t u x y q g1 g2 s1 s2 => ?_, a.rh, a.r0, a.sep, a.frm, a.kee⟩
  · rcases get_set g with ⟨rfl, z⟩ | ⟨ne, z⟩
    · cases z
      have hi : i < σ.length := by
        have := (List.getElem?_eq_some_iff.mp g).1
        rw [List.length_set] at this
        rw [← a.len]; exact this
      exact ⟨v, List.getElem?_set_self hi, hv⟩
    · rw [List.getElem?_set_ne ne]; exact a.sh j d' z
  · rcases get_set g with ⟨rfl, z⟩ | ⟨ne, z⟩
    · cases z
    · rw [List.getElem?_set_ne ne]; exact a.own j t o z
  · rcases get_set g1 with ⟨_, z⟩ | ⟨n1, z1⟩
    · cases z
    · rcases get_set g2 with ⟨_, z⟩ | ⟨n2, z2⟩
      · cases z
      · rw [List.getElem?_set_ne n1] at s1
        rw [List.getElem?_set_ne n2] at s2
        exact a.dis j k t u x y q z1 z2 s1 s2
/-- a slot gets a thing of its own -/
theorem Abs.setOwn (a : Abs K w F σ Γ R H) {i : Nat} {p : Addr} {o : Ob} (rp : R p = none) (h0 : F.H0 p = none) (n : ¬ Own σ Γ p) (ob : ObR K w R H p o) : Abs K w F (σ.set i (some (.ref p))) (Γ.set i (.own none o)) R H := by
  refine ⟨by rw [List.length_set, List.length_set]; exact a.len, fun j d' g => ?_, fun j t o' g => ?_, fun j k t u x y q g1 g2 s1 s2 => ?_, a.rh, a.r0, a.sep, a.frm, a.kee⟩
  · rcases get_set g with ⟨rfl, z⟩ | ⟨ne, z⟩
    · cases z
    · rw [List.getElem?_set_ne ne]; exact a.sh j d' z
  · rcases get_set g with ⟨rfl, z⟩ | ⟨ne, z⟩
    · cases z
      have hi : i < σ.length := by
        have := (List.getElem?_eq_some_iff.mp g).1
        rw [List.length_set] at this
        rw [← a.len]; exact this
      exact ⟨p, List.getElem?_set_self hi, rp, h0, ob⟩
    · rw [List.getElem?_set_ne ne]; exact a.own j t o' z
  · rcases get_set g1 with ⟨e1, z1⟩ | ⟨n1, z1⟩
    · rcases get_set g2 with ⟨e2, z2⟩ | ⟨n2, z2⟩
      · exact e1.symm.trans e2
      · subst e1
        rw [List.getElem?_set_ne n2] at s2
        rcases get_set s1 with ⟨_, z⟩ | ⟨z, _⟩
        · cases z; exact absurd ⟨k, u, y, z2, s2⟩ n
        · exact absurd rfl z
    · rcases get_set g2 with ⟨e2, z2⟩ | ⟨n2, z2⟩
      · subst e2
        rw [List.getElem?_set_ne n1] at s1
        rcases get_set s2 with ⟨_, z⟩ | ⟨z, _⟩
        · cases z; exact absurd ⟨j, t, x, z1, s1⟩ n
        · exact absurd rfl z
      · rw [List.getElem?_set_ne n1] at s1
        rw [List.getElem?_set_ne n2] at s2
        exact a.dis j k t u x y q z1 z2 s1 s2
/-- a slot is forgotten -/
theorem Abs.forget (a : Abs K w F σ Γ R H) (i : Nat) (x : Option V) : Abs K w F (σ.set i x) (Γ.set i .no) R H := by
  refine ⟨by rw [List.length_set, List.length_set]; exact a.len, fun j d' g => ?_, fun j t o' g => ?_, fun j k t u x y q g1 g2 s1 s2 => ?_, a.rh, a.r0, a.sep, a.frm, a.kee⟩
  · rcases get_set g with ⟨rfl, z⟩ | ⟨ne, z⟩
    · cases z
    · rw [List.getElem?_set_ne ne]; exact a.sh j d' z
  · rcases get_set g with ⟨rfl, z⟩ | ⟨ne, z⟩
    · cases z
    · rw [List.getElem?_set_ne ne]; exact a.own j t o' z
  · rcases get_set g1 with ⟨_, z⟩ | ⟨n1, z1⟩
    · cases z
    · rcases get_set g2 with ⟨_, z⟩ | ⟨n2, z2⟩
      · cases z
      · rw [List.getElem?_set_ne n1] at s1
        rw [List.getElem?_set_ne n2] at s2
        exact a.dis j k t u x y q z1 z2 s1 s2
end
end G

namespace G
open PySem L2

/-! ### results -/
structure Exn where
  cls : Str
  fld : Option (Str × PD)
inductive Res (α : Type) where
  | bad | ok (a : α) (Γ : Sto) | exc (e : Exn) (Γ : Sto)
def Res.bind {α β : Type} (m : Res α) (k : α → Sto → Res β) : Res β := match m with
  | .bad => .bad
  | .ok a Γ => k a Γ
  | .exc e Γ => .exc e Γ
def oret {α : Type} (Γ : Sto) : Option α → Res α
  | none => .bad
  | some a => .ok a Γ
/-- a value: shared data, a new thing, the thing of a slot -/
inductive AV where
  | sh (d : PD) | own (o : Ob) | var (i : Nat)
abbrev Ev := Sto → Res AV
abbrev WX := Exn → Sto → St → Hp → Hp → Prop
def VR (K : PySem.W.Frag) (w : World) (F : Fr) (Hb : Hp) (σ : St) (Γ : Sto) (R H : Hp) (v : V) : AV → Prop
  | .sh d => Sh K R v d
  | .own o => ∃ p, v = .ref p ∧ Hb p = none ∧ F.H0 p = none ∧ R p = none ∧ ¬ Own σ Γ p ∧ ObR K w R H p o
  | .var i => σ[i]? = some (some v) ∧ ∃ s, Γ[i]? = some s ∧ s ≠ .no

def Post {α : Type} (K : PySem.W.Frag) (w : World) (F : Fr) (Wx : WX) (σ : St) (Γ : Sto) (R H : Hp) (P : α → Sto → Hp → Hp → Prop) : Res α → Prop
  | .bad => False
  | .ok a Γ' => ∀ R' H', Abs K w F σ Γ' R' H' → Step σ Γ R H Γ' R' H' → P a Γ' R' H'
  | .exc e Γ' => ∀ R' H', Abs K w F σ Γ' R' H' → Wx e Γ' σ R' H'
section
variable {K : PySem.W.Frag} {w : World} {F : Fr} {Wx : WX} {σ : St} {Γ Γ1 Γ2 : Sto} {R R1 R2 H H1 H2 Hb : Hp} {α β : Type} {v : V} {a : AV}
theorem Post.split {P : β → Sto → Hp → Hp → Prop} {m : Res α} {k : α → Sto → Res β} (h : Post K w F Wx σ Γ R H P (m.bind k)) : Post K w F Wx σ Γ R H (fun a Γ1 R1 H1 => Post K w F Wx σ Γ R H P (k a Γ1)) m := by
  cases m with
  | bad => exact h
  | ok a Γ1 => intro R1 H1 _ _; exact h
  | exc e Γ1 => exact h
theorem Post.mono {P P' : α → Sto → Hp → Hp → Prop} {m : Res α} (h : Post K w F Wx σ Γ R H P m) (f : ∀ a Γ1 R1 H1, Abs K w F σ Γ1 R1 H1 → Step σ Γ R H Γ1 R1 H1 → P a Γ1 R1 H1 → P' a Γ1 R1 H1) : Post K w F Wx σ Γ R H P' m := by
  cases m with
  | bad => exact h
  | ok a Γ1 => exact fun R1 H1 A S => f a Γ1 R1 H1 A S (h R1 H1 A S)
  | exc e Γ1 => exact h
theorem Post.shift {P : α → Sto → Hp → Hp → Prop} {m : Res α} (st : Step σ Γ R H Γ1 R1 H1) (h : Post K w F Wx σ Γ R H P m) : Post K w F Wx σ Γ1 R1 H1 P m := by
  cases m with
  | bad => exact h
  | ok a Γ2 => exact fun R2 H2 A S => h R2 H2 A (st.trans S)
  | exc e Γ2 => exact h
theorem Post.at {P : α → Sto → Hp → Hp → Prop} {a : α} (h : Post K w F Wx σ Γ R H P (.ok a Γ1)) {R1 H1 : Hp} (A : Abs K w F σ Γ1 R1 H1) (S : Step σ Γ R H Γ1 R1 H1) : P a Γ1 R1 H1 := h R1 H1 A S
theorem VR.keep (st : Step σ Γ1 R1 H1 Γ2 R2 H2) : ∀ {a : AV}, VR K w F Hb σ Γ1 R1 H1 v a → VR K w F Hb σ Γ2 R2 H2 v a
  | .sh _, h => Sh.mono st.ex h
  | .own _, ⟨p, h1, h2, h3, h4, h5, h6⟩ => by
    obtain ⟨ho, hh⟩ := h6.there
    obtain ⟨e, r⟩ := st.fr p ho hh h4 h5
    exact ⟨p, h1, h2, h3, r, fun q => h5 (st.own p q), h6.monoR st.ex fun o z => by rw [hh] at z; cases z; exact e⟩
  | .var i, ⟨h1, s, h2, h3⟩ => ⟨h1, st.vis i s h2 h3⟩
theorem VR.base {Hc : Hp} (kee : ∀ p, Hb p = none → Hc p = none) : ∀ {a : AV}, VR K w F Hb σ Γ R H v a → VR K w F Hc σ Γ R H v a
  | .sh _, h => h
  | .own _, ⟨p, h1, h2, h⟩ => ⟨p, h1, kee p h2, h⟩
  | .var _, h => h

/-! ### what may be read -/
def peek (Γ : Sto) : AV → Option PD
  | .sh d => some d
  | .own o => o.pd
  | .var i => (Γ[i]?).bind Sl.pd
/-- the thing itself stands at H, what it holds is shared -/
inductive Bo (K : PySem.W.Frag) (R H : Hp) : V → PD → Prop
  | sh {v : V} {d : PD} : Sh K R v d → Bo K R H v d
  | lst {a : Addr} {xs : List V} {ds : List PD} : H a = some (.lst xs) → ShA K R xs ds → Bo K R H (.ref a) (.list ds)
  | tup {a : Addr} {xs : List V} {ds : List PD} : TupX H a xs → ShA K R xs ds → Bo K R H (.ref a) (.tuple ds)
  | dic {a : Addr} {ws : List (Key × V)} {kvs : List (Key × PD)} : H a = some (.dK ws) → ShK K R ws kvs → Bo K R H (.ref a) (.dict (kvs.map fun p => (kD p.1, p.2)))
theorem ObR.bo {p : Addr} : ∀ {o : Ob} {d : PD}, ObR K w R H p o → o.pd = some d → Bo K R H (.ref p) d
  | .lst _, _, ⟨_, h, s⟩, e => by cases e; exact .lst h s
  | .tup _, _, ⟨_, h, s⟩, e => by cases e; exact .tup h s
  | .dic _, _, ⟨_, h, s⟩, e => by cases e; exact .dic h s
  | .set _, _, _, e => nomatch e
theorem ObR.toSh {p : Addr} {ho : HO} (e : Ex R R1) (h1 : R1 p = some ho) (hh : H p = some ho) : ∀ {o : Ob} {d : PD}, ObR K w R H p o → o.pd = some d → o.isDic = false → Sh K R1 (.ref p) d
  | .lst _, _, ⟨_, h, s⟩, z, _ => by cases z; rw [hh] at h; cases h; exact .lst (.inl (.inl h1)) (s.mono e)
  | .tup _, _, ⟨_, ⟨od, hd, h⟩, s⟩, z, _ => by cases z; rw [hh] at h; cases h; exact .tup ⟨od, hd, h1⟩ (s.mono e)
  | .dic _, _, _, _, n => nomatch n
  | .set _, _, _, z, _ => nomatch z
theorem peek_bo {d : PD} (A : Abs K w F σ Γ R H) : ∀ {a : AV}, VR K w F Hb σ Γ R H v a → peek Γ a = some d → Bo K R H v d
  | .sh _, h, e => by cases e; exact .sh h
  | .own _, ⟨p, h1, _, _, _, _, h6⟩, e => by subst h1; exact h6.bo e
  | .var i, ⟨h1, s, h2, h3⟩, e => by
    have e : (Γ[i]?).bind Sl.pd = some d := e
    rw [h2] at e
    cases s with
    | no => cases e
    | sh d' =>
      cases e
      obtain ⟨v', g, q⟩ := A.sh i d h2
      rw [h1] at g; cases g
      exact .sh q
    | own t o =>
      obtain ⟨p, g, _, _, ob⟩ := A.own i t o h2
      rw [h1] at g; cases g
      exact ob.bo e
theorem Bo.full {d : PD} (e : Ex R H) (hn : ∀ kv, d ≠ .dict kv) (h : Bo K R H v d) : Sh K H v d := by
  cases h with
  | sh h => exact h.mono e
  | lst h s => exact .lst (.inl (.inl h)) (s.mono e)
  | tup h s => exact .tup h (s.mono e)
  | dic h s => exact absurd rfl (hn _)
theorem Bo.list {ds : List PD} (e : Ex R H) (h : Bo K R H v (.list ds)) : ∃ a xs, v = .ref a ∧ SqL K H a xs ∧ ShA K R xs ds := by
  cases h with
  | sh h => cases h with | lst h s => exact ⟨_, _, rfl, Evl.ex_l e h, s⟩
  | lst h s => exact ⟨_, _, rfl, .inl (.inl h), s⟩
theorem Bo.tuple {ds : List PD} (e : Ex R H) (h : Bo K R H v (.tuple ds)) : ∃ a xs, v = .ref a ∧ SqT K H a xs ∧ ShA K R xs ds := by
  cases h with
  | sh h => cases h with | tup h s => exact ⟨_, _, rfl, Evl.ex_t e h.sq, s⟩
  | tup h s => exact ⟨_, _, rfl, h.sq, s⟩
theorem Bo.tupleX {ds : List PD} (e : Ex R H) (h : Bo K R H v (.tuple ds)) : ∃ a xs, v = .ref a ∧ TupX H a xs ∧ ShA K R xs ds := by
  cases h with
  | sh h => cases h with | tup h s => exact ⟨_, _, rfl, let ⟨od, hd, h⟩ := h; ⟨od, hd, e _ _ h⟩, s⟩
  | tup h s => exact ⟨_, _, rfl, h, s⟩
theorem Bo.dict {ds : List (PD × PD)} (e : Ex R H) (h : Bo K R H v (.dict ds)) : ∃ (a : Addr) (ws : List (Key × V)) (kvs : List (Key × PD)), v = .ref a ∧ Rd H a (.dK ws) ∧ ShK K R ws kvs ∧ ds = kvs.map fun p => (kD p.1, p.2) := by
  cases h with
  | sh h => cases h with | dic h s => exact ⟨_, _, _, rfl, .inr ⟨_, e _ _ h⟩, s, rfl⟩
  | dic h s => exact ⟨_, _, _, rfl, .inl h, s, rfl⟩
theorem Bo.int {i : Int} (h : Bo K R H v (.int i)) : v = .int i := by cases h with | sh h => cases h; rfl
theorem Bo.bool {b : Bool} (h : Bo K R H v (.bool b)) : v = .bl b := by cases h with | sh h => cases h; rfl
theorem Bo.str {x : Str} (h : Bo K R H v (.str x)) : v = .str x := by cases h with | sh h => cases h; rfl
theorem Bo.none (h : Bo K R H v .none) : v = .non := by cases h with | sh h => cases h; rfl
theorem Bo.isNone {d : PD} (h : Bo K R H v d) : decide (v = .non) = (match d with | .none => true | _ => false) := by
  cases h with
  | sh h => cases h <;> rfl
  | lst h s => rfl
  | tup h s => rfl
  | dic h s => rfl

/-! ### handing on: shared from now on -/
def frz (Γ : Sto) : AV → Option (PD × Sto)
  | .sh d => some (d, Γ)
  | .own o => o.pd.map fun d => (d, Γ)
  | .var i => match Γ[i]? with
    | some (.sh d) => some (d, Γ)
    | some (.own none o) => o.pd.map fun d => (d, Γ.set i (.sh d))
    | _ => none
def dicA (Γ : Sto) : AV → Bool
  | .sh _ => false
  | .own o => o.isDic
  | .var i => match Γ[i]? with
    | some (.own _ o) => o.isDic
    | _ => false
theorem frz_ok {d : PD} {Γb : Sto} {Rb : Hp} (A : Abs K w F σ Γ1 R1 H1) (S : Step σ Γb Rb Hb Γ1 R1 H1) : ∀ {a : AV}, VR K w F Hb σ Γ1 R1 H1 v a → frz Γ1 a = some (d, Γ2) → dicA Γ1 a = false → ∃ R2, Abs K w F σ Γ2 R2 H1 ∧ Step σ Γb Rb Hb Γ2 R2 H1 ∧ Sh K R2 v d
  | .sh _, h, e, _ => by cases e; exact ⟨R1, A, S, h⟩
  | .own o, ⟨p, h1, h2, h3, h4, h5, h6⟩, e, nd => by
    subst h1
    have e : o.pd.map (fun d => (d, Γ1)) = some (d, Γ2) := e
    obtain ⟨ho, hh⟩ := h6.there
    cases z : o.pd with
    | none => rw [z] at e; cases e
    | some d' =>
      rw [z] at e; cases e
      obtain ⟨A2, S2⟩ := A.share hh h4 h3 h5 h2 S
      exact ⟨_, A2, S2, h6.toSh (Evl.Ex.new h4) upd_same hh z nd⟩
  | .var i, ⟨h1, s, h2, h3⟩, e, nd => by
    unfold frz at e
    simp only [h2] at e
    cases s with
    | no => cases e
    | sh d' =>
      cases e
      obtain ⟨v', g, q⟩ := A.sh i d h2
      rw [h1] at g; cases g
      exact ⟨R1, A, S, q⟩
    | own t o =>
      cases t with
      | some k => cases e
      | none =>
        obtain ⟨p, g, rp, tg, ob⟩ := A.own i none o h2
        rw [h1] at g; cases g
        obtain ⟨ho, hh⟩ := ob.there
        cases z : o.pd with
        | none => simp only [z] at e; cases e
        | some d' =>
          simp only [z] at e; cases e
          have q := ob.toSh (R1 := upd R1 p ho) (Evl.Ex.new rp) upd_same hh z (by unfold dicA at nd; simp only [h2] at nd; exact nd)
          obtain ⟨A2, S2⟩ := A.freeze h2 h1 hh q
          exact ⟨_, A2, S.trans S2, q⟩
/-- a dict of one's own is locked when it is handed on -/
theorem frz_dic {d : PD} {Γb : Sto} {Rb : Hp} (A : Abs K w F σ Γ1 R1 H1) (S : Step σ Γb Rb Hb Γ1 R1 H1) : ∀ {a : AV}, VR K w F Hb σ Γ1 R1 H1 v a → frz Γ1 a = some (d, Γ2) → dicA Γ1 a = true →
    ∃ p u, H1 p = some u ∧ Mut (some u) ∧ ∀ od, ∃ R2, Abs K w F σ Γ2 R2 (upd H1 p (.frz od u)) ∧ Step σ Γb Rb Hb Γ2 R2 (upd H1 p (.frz od u)) ∧ Sh K R2 v d
  | .sh _, _, _, nd => nomatch nd
  | .own o, ⟨p, h1, h2, h3, h4, h5, h6⟩, e, nd => by
    subst h1
    cases o with
    | dic kvs =>
      have e : some (PyData.dict (kvs.map fun p => (kD p.1, p.2)), Γ1) = some (d, Γ2) := e
      cases e
      obtain ⟨ws, hh, sk⟩ := h6
      refine ⟨p, _, hh, trivial, fun od => ?_⟩
      obtain ⟨A2, S2⟩ := A.shareL (ho := .frz od (.dK ws)) h4 h3 h5 h2 S
      exact ⟨_, A2, S2, .dic upd_same (sk.mono (Evl.Ex.new h4))⟩
    | _ => cases nd
  | .var i, ⟨h1, s, h2, h3⟩, e, nd => by
    unfold frz at e
    unfold dicA at nd
    simp only [h2] at e nd
    cases s with
    | no => cases nd
    | sh d' => cases nd
    | own t o =>
      cases t with
      | some k => cases e
      | none =>
        obtain ⟨p, g, rp, tg, ob⟩ := A.own i none o h2
        rw [h1] at g; cases g
        cases o with
        | dic kvs =>
          have e : some (PyData.dict (kvs.map fun p => (kD p.1, p.2)), Γ1.set i (.sh (PyData.dict (kvs.map fun p => (kD p.1, p.2))))) = some (d, Γ2) := e
          cases e
          obtain ⟨ws, hh, sk⟩ := ob
          refine ⟨p, _, hh, trivial, fun od => ?_⟩
          have q : Sh K (upd R1 p (.frz od (.dK ws))) (.ref p) (.dict (kvs.map fun p => (kD p.1, p.2))) := .dic upd_same (sk.mono (Evl.Ex.new rp))
          obtain ⟨A2, S2⟩ := A.freezeL h2 h1 q
          exact ⟨_, A2, S.trans S2, q⟩
        | _ => cases nd
end

/-! ### readings over data -/
section
variable (K : PySem.W.Frag) (w : World) (F : Fr) (Wx : WX)
def TV (f : Sto → Res AV) : TE := fun σ H Q => ∃ Γ R, Abs K w F σ Γ R H ∧ Post K w F Wx σ Γ R H (fun a Γ' R' H' => ∀ v, VR K w F H σ Γ' R' H' v a → Q v H') (f Γ)
def TD (f : Sto → Res PD) : TE := fun σ H Q => ∃ Γ R, Abs K w F σ Γ R H ∧ Post K w F Wx σ Γ R H (fun d Γ' R' H' => ∀ v, Sh K R' v d → Q v H') (f Γ)
def TB (f : Sto → Res Bool) : TT := fun σ H Q => ∃ Γ R, Abs K w F σ Γ R H ∧ Post K w F Wx σ Γ R H (fun b Γ' R' H' => Q b H') (f Γ)
/-- one argument: shared, or the thing of a slot as it is -/
def ArgV (σ : St) (Γ : Sto) (R : Hp) (v : V) : AV → Prop
  | .sh d => Sh K R v d
  | .own _ => False
  | .var i => σ[i]? = some (some v) ∧ ∃ s, Γ[i]? = some s ∧ s ≠ .no
def ArgsV (σ : St) (Γ : Sto) (R : Hp) : List V → List AV → Prop
  | [], [] => True
  | v :: vs, a :: as => ArgV K σ Γ R v a ∧ ArgsV σ Γ R vs as
  | _, _ => False
def TA' (f : Sto → Res (List AV)) : TA := fun σ H Q => ∃ Γ R, Abs K w F σ Γ R H ∧ Post K w F Wx σ Γ R H (fun as Γ' R' H' => ∀ vs, ArgsV K σ Γ' R' vs as → Q vs H') (f Γ)
end
section
variable {K : PySem.W.Frag} {w : World} {F : Fr} {Wx : WX} {σ : St} {Γ Γ1 Γ2 : Sto} {R R1 R2 H H1 H2 Hb : Hp}
theorem ArgV.keep {v : V} (st : Step σ Γ1 R1 H1 Γ2 R2 H2) : ∀ {a : AV}, ArgV K σ Γ1 R1 v a → ArgV K σ Γ2 R2 v a
  | .sh _, h => Sh.mono st.ex h
  | .own _, h => h
  | .var i, ⟨h1, s, h2, h3⟩ => ⟨h1, st.vis i s h2 h3⟩
theorem ArgsV.keep (st : Step σ Γ1 R1 H1 Γ2 R2 H2) : ∀ {vs : List V} {as : List AV}, ArgsV K σ Γ1 R1 vs as → ArgsV K σ Γ2 R2 vs as
  | [], [], _ => trivial
  | _ :: _, _ :: _, h => ⟨h.1.keep st, ArgsV.keep st h.2⟩
  | [], _ :: _, h => h
  | _ :: _, [], h => h
theorem ArgsV.length : ∀ {vs : List V} {as : List AV}, ArgsV K σ Γ R vs as → vs.length = as.length
  | [], [], _ => rfl
  | _ :: _, _ :: _, h => congrArg (· + 1) (ArgsV.length h.2)
  | [], _ :: _, h => h.elim
  | _ :: _, [], h => h.elim
theorem ArgsV.get : ∀ {vs : List V} {as : List AV} {k : Nat} {a : AV}, ArgsV K σ Γ R vs as → as[k]? = some a → ∃ v, vs[k]? = some v ∧ ArgV K σ Γ R v a
  | [], [], _, _, _, e => by simp at e
  | _ :: _, _ :: _, 0, a, h, e => by simp at e; subst e; exact ⟨_, rfl, h.1⟩
  | _ :: _, _ :: _, k + 1, a, h, e => by
    obtain ⟨v, h1, h2⟩ := ArgsV.get (k := k) h.2 (by simpa using e)
    exact ⟨v, by simpa using h1, h2⟩
  | [], _ :: _, _, _, h, _ => h.elim
  | _ :: _, [], _, _, h, _ => h.elim
end

theorem _root_.L2.PE.mono {X : Cx} {e : Expr} {t t' : TE} (h : PE X e t) (m : ∀ σ H Q, t' σ H Q → t σ H Q) : PE X e t' := ⟨fun pins s σ H Q I q => h.run pins s σ H Q I (m σ H Q q)⟩
theorem _root_.L2.PT.mono {X : Cx} {e : Expr} {t t' : TT} (h : PT X e t) (m : ∀ σ H Q, t' σ H Q → t σ H Q) : PT X e t' := ⟨fun pins s σ H Q I q => h.run pins s σ H Q I (m σ H Q q)⟩
theorem _root_.L2.PW.mono {X : Cx} {e : Expr} {t t' : TT} (h : PW X e t) (m : ∀ σ H Q, t' σ H Q → t σ H Q) : PW X e t' := ⟨fun wh pins s σ H Q I q => h.run wh pins s σ H Q I (m σ H Q q)⟩
theorem _root_.L2.PA.mono {X : Cx} {e : List Expr} {t t' : TA} (h : PA X e t) (m : ∀ σ H Q, t' σ H Q → t σ H Q) : PA X e t' := ⟨fun pos pins s σ H Q I q => h.run pos pins s σ H Q I (m σ H Q q)⟩
theorem _root_.L2.PS.mono {X : Cx} {e : Stmt} {t t' : TS} (h : PS X e t) (m : ∀ D σ H, t' D σ H → t D σ H) : PS X e t' := ⟨fun pins s σ H D I q => h.run pins s σ H D I (m D σ H q)⟩
theorem _root_.L2.PSs.mono {X : Cx} {e : List Stmt} {t t' : TS} (h : PSs X e t) (m : ∀ D σ H, t' D σ H → t D σ H) : PSs X e t' := ⟨fun pins s σ H D I q => h.run pins s σ H D I (m D σ H q)⟩
def Vx (X : Cx) (Wx : WX) (e : Expr) (f : Sto → Res AV) : Prop := ∀ F, PE X e (TV X.K X.w F Wx f)
def Dx (X : Cx) (Wx : WX) (e : Expr) (f : Sto → Res PD) : Prop := ∀ F, PE X e (TD X.K X.w F Wx f)
def Bx (X : Cx) (Wx : WX) (e : Expr) (f : Sto → Res Bool) : Prop := ∀ F, PT X e (TB X.K X.w F Wx f)
def Wwx (X : Cx) (Wx : WX) (e : Expr) (f : Sto → Res Bool) : Prop := ∀ F, PW X e (TB X.K X.w F Wx f)
def Ax (X : Cx) (Wx : WX) (es : List Expr) (f : Sto → Res (List AV)) : Prop := ∀ F, PA X es (TA' X.K X.w F Wx f)

/-! ### operations on what may be read -/
def op1 (fa : Ev) (g : PD → Option AV) : Ev := fun Γ => (fa Γ).bind fun a Γ1 => oret Γ1 ((peek Γ1 a).bind g)
def op2 (fa fb : Ev) (g : PD → PD → Option AV) : Ev := fun Γ => (fa Γ).bind fun a Γ1 => (fb Γ1).bind fun b Γ2 => oret Γ2 ((peek Γ2 a).bind fun d => (peek Γ2 b).bind fun e => g d e)
/-- what an operation gives: shared data as things stand, or a new thing -/
def RR (K : PySem.W.Frag) (w : World) (R H : Hp) (v : V) (H' : Hp) : AV → Prop
  | .sh d => Sh K R v d ∧ H' = H
  | .own o => ∃ p ho, v = .ref p ∧ H p = none ∧ H' = upd H p ho ∧ ObR K w R H' p o
  | .var _ => False
def Ok2 (K : PySem.W.Frag) (w : World) (r : L2.R2) (g : PD → PD → Option AV) : Prop :=
  ∀ R H x y d e s, Ex R H → Bo K R H x d → Bo K R H y e → g d e = some s → ∀ Q : VK, (∀ v H', RR K w R H v H' s → Q v H') → r x y H Q
def Ok1 (K : PySem.W.Frag) (w : World) (r : V → Hp → VK → Prop) (g : PD → Option AV) : Prop :=
  ∀ R H x d s, Ex R H → Bo K R H x d → g d = some s → ∀ Q : VK, (∀ v H', RR K w R H v H' s → Q v H') → r x H Q
section
variable {K : PySem.W.Frag} {w : World} {F : Fr} {Wx : WX} {σ : St} {Γ Γ1 Γ2 : Sto} {R R1 R2 H H1 H2 Hb : Hp}
theorem RR.post {v : V} {H' : Hp} {s : AV} {P : V → Hp → Prop} (A : Abs K w F σ Γ1 R1 H1) (S : Step σ Γ R H Γ1 R1 H1) (h : RR K w R1 H1 v H' s)
    (k : ∀ R' H', Abs K w F σ Γ1 R' H' → Step σ Γ R H Γ1 R' H' → ∀ v, VR K w F H σ Γ1 R' H' v s → P v H') : P v H' := by
  cases s with
  | sh d => obtain ⟨h, rfl⟩ := h; exact k R1 _ A S v h
  | own o =>
    obtain ⟨p, ho, rfl, hp, rfl, ob⟩ := h
    obtain ⟨A2, S2⟩ := A.new hp ho
    exact k R1 _ A2 (S.trans S2) _ ⟨p, rfl, S.kee p hp, A.fresh0 hp, A.freshR hp, A.notOwn hp, ob⟩
  | var i => exact h.elim
theorem top2 {r : L2.R2} {g : PD → PD → Option AV} {fa fb : Ev} {Q : VK} (hr : Ok2 K w r g) (h : TV K w F Wx (op2 fa fb g) σ H Q) : tOp r (TV K w F Wx fa) (TV K w F Wx fb) σ H Q := by
  obtain ⟨Γ, R, A, h⟩ := h
  refine ⟨Γ, R, A, h.split.mono fun a Γ1 R1 H1 A1 S1 h1 x hx => ?_⟩
  refine ⟨Γ1, R1, A1, (h1.split.shift S1).mono fun b Γ2 R2 H2 A2 S2 h2 y hy => ?_⟩
  have hx2 := hx.keep S2
  cases ea : peek Γ2 a with
  | none => rw [ea] at h2; exact h2.elim
  | some d =>
    cases eb : peek Γ2 b with
    | none => rw [ea, eb] at h2; exact h2.elim
    | some e =>
      rw [ea, eb] at h2
      have h2 : Post K w F Wx σ Γ R H _ (oret Γ2 (g d e)) := h2
      cases eg : g d e with
      | none => rw [eg] at h2; exact h2.elim
      | some s =>
        rw [eg] at h2
        refine hr R2 H2 x y d e s A2.rh (peek_bo A2 hx2 ea) (peek_bo A2 hy eb) eg Q fun v H' hv => ?_
        exact hv.post A2 (S1.trans S2) h2
theorem top1 {r : V → Hp → VK → Prop} {g : PD → Option AV} {fa : Ev} {Q : VK} (hr : Ok1 K w r g) (h : TV K w F Wx (op1 fa g) σ H Q) : tUn r (TV K w F Wx fa) σ H Q := by
  obtain ⟨Γ, R, A, h⟩ := h
  refine ⟨Γ, R, A, h.split.mono fun a Γ1 R1 H1 A1 S1 h1 x hx => ?_⟩
  cases ea : peek Γ1 a with
  | none => rw [ea] at h1; exact h1.elim
  | some d =>
    rw [ea] at h1
    have h1 : Post K w F Wx σ Γ R H _ (oret Γ1 (g d)) := h1
    cases eg : g d with
    | none => rw [eg] at h1; exact h1.elim
    | some s =>
      rw [eg] at h1
      refine hr R1 H1 x d s A1.rh (peek_bo A1 hx ea) eg Q fun v H' hv => ?_
      exact hv.post A1 S1 h1
end
section
variable {X : Cx} {Wx : WX} {a b c e : Expr} {fa fb fc : Ev} {pos : Pos} {op : Operator}
theorem v_op {r : L2.R2} {g : PD → PD → Option AV} (ho : OpR X (binaryOp op) r) (hr : Ok2 X.K X.w r g) (ha : Vx X Wx a fa) (hb : Vx X Wx b fb) : Vx X Wx (.BinOp a op b pos) (op2 fa fb g) :=
  fun F => (pe_op ho (ha F) (hb F)).mono fun _ _ _ h => top2 hr h
theorem v_un {uop : UnaryOp} {r : V → Hp → VK → Prop} {g : PD → Option AV} (ho : UnR X (unaryOp uop) r) (hr : Ok1 X.K X.w r g) (ha : Vx X Wx a fa) : Vx X Wx (.UnaryOp uop a pos) (op1 fa g) :=
  fun F => (pe_un ho (ha F)).mono fun _ _ _ h => top1 hr h
theorem v_cmp {cop : CmpOp} {r : L2.R2} {g : PD → PD → Option AV} (ho : OpR X (compareOp cop) r) (hr : Ok2 X.K X.w r g) (ha : Vx X Wx a fa) (hb : Vx X Wx b fb) (hm : behindInMarks cop b = false) : Vx X Wx (.Compare a [cop] [b] pos) (op2 fa fb g) :=
  fun F => (pe_cmpR ho (ha F) (hb F) hm).mono fun _ _ _ h => top2 hr h
theorem v_ix {r : L2.R2} {g : PD → PD → Option AV} (ho : IxR X r) (hr : Ok2 X.K X.w r g) (ha : Vx X Wx a fa) (hb : Vx X Wx b fb) (hs : PlainIx b) : Vx X Wx (.Subscript a b pos) (op2 fa fb g) :=
  fun F => (pe_ix ho (ha F) (hb F) hs).mono fun _ _ _ h => top2 hr h

/-! ### names, constants -/
def rdv (i : Nat) : Ev := fun Γ => match Γ[i]? with
  | some (.sh d) => .ok (.sh d) Γ
  | some (.own _ _) => .ok (.var i) Γ
  | _ => .bad
theorem v_name (i : Nat) {x : Str} (hN : X.N[i]? = some x := by rfl) (hv : Vis X.env.scope x := by first | exact Or.inl rfl | exact Or.inr (Or.inl rfl) | exact Or.inr (Or.inr rfl)) (hd : (x == ("__debug__" : Str)) = false := by decide)
    (hcd : (x == ("__classdict__" : Str)) = false := by decide) : Vx X Wx (.Name x pos) (rdv i) := fun F => (pe_var hN hv hd hcd).mono fun σ H Q h => by
  obtain ⟨Γ, R, A, h⟩ := h
  unfold rdv at h
  cases e : Γ[i]? with
  | none => simp only [e] at h; exact h.elim
  | some s =>
    cases s with
    | no => simp only [e] at h; exact h.elim
    | sh d =>
      simp only [e] at h
      obtain ⟨v, h1, h2⟩ := A.sh i d e
      exact ⟨v, h1, h.at A (.refl _ _ _ _) v h2⟩
    | own t o =>
      simp only [e] at h
      obtain ⟨p, h1, _⟩ := A.own i t o e
      exact ⟨_, h1, h.at A (.refl _ _ _ _) _ ⟨h1, _, e, by intro z; cases z⟩⟩
def cst (d : PD) : Ev := fun Γ => .ok (.sh d) Γ
theorem v_const {v : V} {d : PD} (h : PE X e (tC v)) (hv : ∀ R, Sh X.K R v d) : Vx X Wx e (cst d) := fun F => h.mono fun σ H Q h => by
  obtain ⟨Γ, R, A, h⟩ := h
  exact h.at A (.refl _ _ _ _) v (hv R)
theorem v_int {i j pos} : Vx X Wx (.Constant (.int i) j pos) (cst (.int i)) := v_const pe_int fun _ => .int i
theorem v_bl {b j pos} : Vx X Wx (.Constant (.bool b) j pos) (cst (.bool b)) := v_const pe_bl fun _ => .bl b
theorem v_non {j pos} : Vx X Wx (.Constant .none j pos) (cst .none) := v_const pe_non fun _ => .non
theorem v_str {x j pos} : Vx X Wx (.Constant (.str x) j pos) (cst (.str x)) := v_const pe_str fun _ => .str x
theorem v_glob {x : Str} {v : V} {u : Value} {d : PD} (hg : Gl X x) (hm : X.mg x = some u) (r : RelV v u) (hv : ∀ R, Sh X.K R v d) (hd : (x == ("__debug__" : Str)) = false := by decide) : Vx X Wx (.Name x pos) (cst d) := v_const (pe_glob hg hm r hd) hv

/-! ### shared on handing on -/
def shr (f : Ev) : Sto → Res PD := fun Γ => (f Γ).bind fun a Γ1 => match frz Γ1 a with
  | none => .bad
  | some (d, Γ2) => .ok d Γ2
theorem pe_lk {X : Cx} {e : Expr} {t : TE} (h : PE X e t) : PE X e (fun σ H Q => t σ H fun x H1 => Q x H1 ∨ ∃ d u, H1 d = some u ∧ Mut (some u) ∧ ∀ od, Q x (upd H1 d (.frz od u))) := by
  refine ⟨fun pins s σ H Q I hq => ?_⟩
  refine thn (h.run pins s σ H _ I hq) fun v s1 ⟨x, H1, I1, r, q⟩ => ?_
  rcases q with q | ⟨d, u, hd, mu, q⟩
  · exact ⟨x, H1, I1, r, q⟩
  · obtain ⟨od, I2⟩ := I1.lock hd mu
    exact ⟨x, _, I2, r, q od⟩
theorem d_of (h : Vx X Wx e fa) : Dx X Wx e (shr fa) := fun F => (pe_lk (h F)).mono fun σ H Q h => by
  obtain ⟨Γ, R, A, h⟩ := h
  refine ⟨Γ, R, A, h.split.mono fun a Γ1 R1 H1 A1 S1 h1 v hv => ?_⟩
  cases e : frz Γ1 a with
  | none => simp only [e] at h1; exact h1.elim
  | some q =>
    obtain ⟨d, Γ2⟩ := q
    simp only [e] at h1
    cases nd : dicA Γ1 a with
    | false =>
      obtain ⟨R2, A2, S2, hs⟩ := frz_ok A1 S1 hv e nd
      exact .inl (h1.at A2 S2 v hs)
    | true =>
      obtain ⟨p, u, hp, mu, k⟩ := frz_dic A1 S1 hv e nd
      refine .inr ⟨p, u, hp, mu, fun od => ?_⟩
      obtain ⟨R2, A2, S2, hs⟩ := k od
      exact h1.at A2 S2 v hs
/-- the value of a shared expression -/
def sv (f : Sto → Res PD) : Ev := fun Γ => (f Γ).bind fun d Γ1 => .ok (.sh d) Γ1
theorem v_of {f : Sto → Res PD} (h : Dx X Wx e f) : Vx X Wx e (sv f) := fun F => (h F).mono fun σ H Q h => by
  obtain ⟨Γ, R, A, h⟩ := h
  exact ⟨Γ, R, A, h.split.mono fun d Γ1 R1 H1 A1 S1 h1 v hv => h1.at A1 S1 v hv⟩

/-! ### argument lists -/
def args0 : Sto → Res (List AV) := fun Γ => .ok [] Γ
def argS (f : Ev) (g : Sto → Res (List AV)) : Sto → Res (List AV) := fun Γ => (shr f Γ).bind fun d Γ1 => (g Γ1).bind fun as Γ2 => .ok (.sh d :: as) Γ2
/-- an argument that the callee may change: the thing of the slot i -/
def argO (i : Nat) (g : Sto → Res (List AV)) : Sto → Res (List AV) := fun Γ => match Γ[i]? with
  | some (.own _ _) => (g Γ).bind fun as Γ2 => .ok (.var i :: as) Γ2
  | _ => .bad
theorem a_nil : Ax X Wx [] args0 := fun F => pa_nil.mono fun σ H Q h => by
  obtain ⟨Γ, R, A, h⟩ := h
  exact h.at A (.refl _ _ _ _) [] trivial
theorem a_sh {es : List Expr} {g : Sto → Res (List AV)} (ha : Vx X Wx e fa) (hr : Ax X Wx es g) (hs : starEach (e :: es) X.env = (false, eval e X.env) :: starEach es X.env := by rfl) : Ax X Wx (e :: es) (argS fa g) :=
  fun F => (pa_cons (d_of ha F) (hr F) hs).mono fun σ H Q h => by
    obtain ⟨Γ, R, A, h⟩ := h
    refine ⟨Γ, R, A, h.split.mono fun d Γ1 R1 H1 A1 S1 h1 v hv => ?_⟩
    refine ⟨Γ1, R1, A1, (h1.split.shift S1).mono fun as Γ2 R2 H2 A2 S2 h2 vs hvs => ?_⟩
    exact h2.at A2 (S1.trans S2) _ ⟨Sh.mono S2.ex hv, hvs⟩
theorem a_own {es : List Expr} {g : Sto → Res (List AV)} (i : Nat) {x : Str} (hr : Ax X Wx es g) (hN : X.N[i]? = some x := by rfl) (hv : Vis X.env.scope x := by first | exact Or.inl rfl | exact Or.inr (Or.inl rfl) | exact Or.inr (Or.inr rfl)) (hd : (x == ("__debug__" : Str)) = false := by decide)
    (hcd : (x == ("__classdict__" : Str)) = false := by decide) (hs : starEach (.Name x pos :: es) X.env = (false, eval (.Name x pos) X.env) :: starEach es X.env := by rfl) : Ax X Wx (.Name x pos :: es) (argO i g) :=
  fun F => (pa_cons (pe_var hN hv hd hcd) (hr F) hs).mono fun σ H Q h => by
    obtain ⟨Γ, R, A, h⟩ := h
    unfold argO at h
    cases e : Γ[i]? with
    | none => simp only [e] at h; exact h.elim
    | some s =>
      cases s with
      | no => simp only [e] at h; exact h.elim
      | sh d => simp only [e] at h; exact h.elim
      | own t o =>
        simp only [e] at h
        obtain ⟨p, h1, _⟩ := A.own i t o e
        refine ⟨_, h1, Γ, R, A, h.split.mono fun as Γ2 R2 H2 A2 S2 h2 vs hvs => ?_⟩
        exact h2.at A2 S2 _ ⟨⟨h1, S2.vis i _ e (by intro z; cases z)⟩, hvs⟩

/-! ### displays -/
def avD : List AV → Option (List PD)
  | [] => some []
  | .sh d :: r => (avD r).map (d :: ·)
  | _ :: _ => none
theorem ArgsV.shA {K : PySem.W.Frag} {σ : St} {Γ : Sto} {R : Hp} : ∀ {vs : List V} {as : List AV} {ds : List PD}, ArgsV K σ Γ R vs as → avD as = some ds → ShA K R vs ds
  | [], [], _, _, e => by cases e; exact .nil
  | v :: vs, .sh d :: as, ds, h, e => by
    cases z : avD as with
    | none => simp only [avD, z] at e; cases e
    | some q =>
      simp only [avD, z] at e; cases e
      exact .cons h.1 (h.2.shA z)
  | _ :: _, .own _ :: _, _, h, _ => h.1.elim
  | _ :: _, .var _ :: _, _, _, e => nomatch e
  | [], _ :: _, _, h, _ => h.elim
  | _ :: _, [], _, h, _ => h.elim
def lim : Nat := 100000
theorem lim_le {n : Nat} (h : n ≤ lim) : n ≤ sizeLine := Nat.le_trans h (by decide)
theorem lim_lt {n : Nat} (h : n < lim) : n < sizeLine := Nat.lt_of_lt_of_le h (by decide)
def dspL (f : Sto → Res (List AV)) : Ev := fun Γ => (f Γ).bind fun as Γ1 => oret Γ1 ((avD as).bind fun ds => if ds.length ≤ lim then some (AV.own (Ob.lst ds)) else none)
def dspT (f : Sto → Res (List AV)) : Ev := fun Γ => (f Γ).bind fun as Γ1 => oret Γ1 ((avD as).bind fun ds => if ds.length ≤ lim then some (AV.own (Ob.tup ds)) else none)
theorem v_lst {es : List Expr} {f : Sto → Res (List AV)} (h : Ax X Wx es f) : Vx X Wx (.List es pos) (dspL f) := fun F => (pe_lst (h F)).mono fun σ H Q h => by
  obtain ⟨Γ, R, A, h⟩ := h
  refine ⟨Γ, R, A, h.split.mono fun as Γ1 R1 H1 A1 S1 h1 vs hvs => ?_⟩
  cases e : avD as with
  | none => rw [e] at h1; exact h1.elim
  | some ds =>
    rw [e] at h1
    have h1 : Post X.K X.w F Wx σ Γ R H _ (oret Γ1 (if ds.length ≤ lim then some (AV.own (Ob.lst ds)) else none)) := h1
    have hA := hvs.shA e
    by_cases hl : ds.length ≤ lim
    · rw [if_pos hl] at h1
      refine ⟨lim_le (by rw [hA.length]; exact hl), fun p hp => ?_⟩
      exact RR.post (P := Q) A1 S1 (v := .ref p) (s := .own (.lst ds)) ⟨p, _, rfl, hp, rfl, vs, upd_same, hA⟩ h1
    · rw [if_neg hl] at h1; exact h1.elim
/-- (e, ..): a new tuple, with nothing but its items -/
def tTupX (t : TA) : TE := fun σ H Q => t σ H fun xs H1 => xs.length ≤ sizeLine ∧ ∀ p od, od.dict = none → H1 p = none → Q (.ref p) (upd H1 p (.frz od (.tup xs)))
open PySem.Spec PyProof.Rows in
theorem pe_tupX {X : Cx} {es : List Expr} {pos : Pos} {t : TA} {x1} (h : PA X es t) : PE X (.Tuple es x1 pos) (tTupX t) := by
  refine ⟨fun pins s σ H Q I hq => ?_⟩
  refine wpAny_Tuple_spliced (thn (h.run pos pins s σ H _ I hq) fun us s1 ⟨xs, H1, I1, r, z, q⟩ => ⟨by rw [← r.length]; exact z, ?_⟩)
  have hf := I1.hok.fresh (Nat.le_refl s1.heap.objs.size)
  have hg := Heap.get?_push_size s1.heap (o := { cls := .type "tuple", data := .seq us.toArray }) rfl
  exact ⟨.ref s1.heap.objs.size, _, I1.laid (t' := s1.toks) (o := .frz { cls := .type "tuple", data := .seq us.toArray } (.tup xs)) (fun b u e => Heap.get?_push_of_some _ e) (Nat.le_refl _) ⟨hg, z, us, r, ⟨_, hg, rfl, _, rfl⟩⟩, rfl, q _ _ rfl hf⟩
theorem v_tup {es : List Expr} {x1} {f : Sto → Res (List AV)} (h : Ax X Wx es f) : Vx X Wx (.Tuple es x1 pos) (dspT f) := fun F => (pe_tupX (h F)).mono fun σ H Q h => by
  obtain ⟨Γ, R, A, h⟩ := h
  refine ⟨Γ, R, A, h.split.mono fun as Γ1 R1 H1 A1 S1 h1 vs hvs => ?_⟩
  cases e : avD as with
  | none => rw [e] at h1; exact h1.elim
  | some ds =>
    rw [e] at h1
    have h1 : Post X.K X.w F Wx σ Γ R H _ (oret Γ1 (if ds.length ≤ lim then some (AV.own (Ob.tup ds)) else none)) := h1
    have hA := hvs.shA e
    by_cases hl : ds.length ≤ lim
    · rw [if_pos hl] at h1
      refine ⟨lim_le (by rw [hA.length]; exact hl), fun p od hd hp => ?_⟩
      exact RR.post (P := Q) A1 S1 (v := .ref p) (s := .own (.tup ds)) ⟨p, _, rfl, hp, rfl, vs, ⟨od, hd, upd_same⟩, hA⟩ h1
    · rw [if_neg hl] at h1; exact h1.elim
def dic0 : Ev := fun Γ => .ok (.own (.dic [])) Γ
theorem v_dic0 : Vx X Wx (.Dict [] [] pos) dic0 := fun F => pe_dnewK.mono fun σ H Q h => by
  obtain ⟨Γ, R, A, h⟩ := h
  intro p hp
  exact RR.post (P := Q) A (.refl _ _ _ _) (v := .ref p) (s := .own (.dic [])) ⟨p, _, rfl, hp, rfl, [], upd_same, .nil⟩ h

/-! ### built-ins called with one or two arguments that are read -/
theorem v_call1 {call : Expr} {r : List V → Hp → VK → Prop} {g : PD → Option AV} (hc : ∀ {t : TA}, PA X [a] t → PE X call (tCB r t)) (hr : Ok1 X.K X.w (fun x => r [x]) g) (ha : Vx X Wx a fa)
    (hs : starEach [a] X.env = (false, eval a X.env) :: starEach [] X.env := by rfl) : Vx X Wx call (op1 fa g) :=
  fun F => (hc (pa_cons (ha F) pa_nil hs)).mono fun _ _ _ h => top1 hr h
theorem v_call2 {call : Expr} {r : List V → Hp → VK → Prop} {g : PD → PD → Option AV} (hc : ∀ {t : TA}, PA X [a, b] t → PE X call (tCB r t)) (hr : Ok2 X.K X.w (fun x y => r [x, y]) g) (ha : Vx X Wx a fa) (hb : Vx X Wx b fb)
    (hs : starEach [a, b] X.env = (false, eval a X.env) :: starEach [b] X.env := by rfl) (hs2 : starEach [b] X.env = (false, eval b X.env) :: starEach [] X.env := by rfl) : Vx X Wx call (op2 fa fb g) :=
  fun F => (hc (pa_cons (ha F) (pa_cons (hb F) pa_nil hs2) hs)).mono fun _ _ _ h => top2 hr h
end
end G

namespace G
open PySem L2

/-! ### tests -/
def tst (f : Ev) : Sto → Res Bool := fun Γ => (f Γ).bind fun a Γ1 => match a with
  | .sh (.bool b) => .ok b Γ1
  | _ => .bad
def truD : PD → Option Bool
  | .none => some false
  | .bool b => some b
  | .int i => some (i != 0)
  | .str x => if x.length ≤ sizeLine then some ((x.length : Int) != 0) else none
  | .list ds => some (!ds.isEmpty)
  | .tuple ds => some (!ds.isEmpty)
  | .dict _ => none
def tru (f : Ev) : Sto → Res Bool := fun Γ => (f Γ).bind fun a Γ1 => oret Γ1 ((peek Γ1 a).bind truD)
def bAnd (f g : Sto → Res Bool) : Sto → Res Bool := fun Γ => (f Γ).bind fun b Γ1 => if b then g Γ1 else .ok false Γ1
def bOr (f g : Sto → Res Bool) : Sto → Res Bool := fun Γ => (f Γ).bind fun b Γ1 => if b then .ok true Γ1 else g Γ1
def bNot (f : Sto → Res Bool) : Sto → Res Bool := fun Γ => (f Γ).bind fun b Γ1 => .ok (!b) Γ1
def vAnd (f g : Ev) : Ev := fun Γ => (f Γ).bind fun a Γ1 => match a with
  | .sh (.bool true) => g Γ1
  | .sh (.bool false) => .ok (.sh (.bool false)) Γ1
  | _ => .bad
def vOr (f g : Ev) : Ev := fun Γ => (f Γ).bind fun a Γ1 => match a with
  | .sh (.bool true) => .ok (.sh (.bool true)) Γ1
  | .sh (.bool false) => g Γ1
  | _ => .bad
def vNot (f : Ev) : Ev := fun Γ => (f Γ).bind fun a Γ1 => match a with
  | .sh (.bool b) => .ok (.sh (.bool (!b))) Γ1
  | _ => .bad
def vIf (c : Sto → Res Bool) (f g : Ev) : Ev := fun Γ => (c Γ).bind fun b Γ1 => if b then f Γ1 else g Γ1
/-- a < b < c -/
def chn (fa fb fc : Ev) (g g' : PD → PD → Option Bool) : Ev := fun Γ => (fa Γ).bind fun a Γ1 => (fb Γ1).bind fun b Γ2 =>
  match (peek Γ2 a).bind fun d => (peek Γ2 b).bind fun e => g d e with
  | none => .bad
  | some false => .ok (.sh (.bool false)) Γ2
  | some true => (fc Γ2).bind fun c Γ3 => oret Γ3 ((peek Γ3 b).bind fun d => (peek Γ3 c).bind fun e => (g' d e).map fun k => .sh (.bool k))
section
variable {K : PySem.W.Frag} {w : World} {F : Fr} {Wx : WX} {σ : St} {Γ Γ1 Γ2 : Sto} {R H Hb : Hp}
theorem tst_ok {f : Ev} {Q : Bool → Hp → Prop} (h : TB K w F Wx (tst f) σ H Q) : TV K w F Wx f σ H fun x H' => ∃ k, x = .bl k ∧ Q k H' := by
  obtain ⟨Γ, R, A, h⟩ := h
  refine ⟨Γ, R, A, h.split.mono fun a Γ1 R1 H1 A1 S1 h1 v hv => ?_⟩
  cases a with
  | sh d =>
    cases d with
    | bool b =>
      have e : v = .bl b := by
        have q : Sh K R1 v (.bool b) := hv
        cases q; rfl
      exact ⟨b, e, h1.at A1 S1⟩
    | _ => exact h1.elim
  | own o => exact h1.elim
  | var i => exact h1.elim
theorem truD_ok {d : PD} {v : V} {k : Bool} (e : Ex R H) (h : Bo K R H v d) (hk : truD d = some k) : TruV K v H k := by
  cases d with
  | none => rw [h.none]; cases hk; rfl
  | bool b => rw [h.bool]; cases hk; rfl
  | int i => rw [h.int]; cases hk; rfl
  | str x =>
    rw [h.str]
    have hk : (if x.length ≤ sizeLine then some ((x.length : Int) != 0) else none) = some k := hk
    by_cases hl : x.length ≤ sizeLine
    · rw [if_pos hl] at hk; cases hk; exact ⟨hl, rfl⟩
    · rw [if_neg hl] at hk; cases hk
  | list ds =>
    obtain ⟨a, xs, rfl, hq, hs⟩ := h.list e
    cases hk
    refine .inl ⟨xs, hq, ?_⟩
    cases hs <;> rfl
  | tuple ds =>
    obtain ⟨a, xs, rfl, hq, hs⟩ := h.tuple e
    cases hk
    refine .inr (.inl ⟨xs, hq, ?_⟩)
    cases hs <;> rfl
  | dict kvs => cases hk
end
section
variable {X : Cx} {Wx : WX} {a b c e : Expr} {fa fb fc : Ev} {pos : Pos} {ta tb tc : Sto → Res Bool} {rest : List Expr}
/-- an expression that gives True or False -/
theorem b_val (h : Vx X Wx e fa) (he : ∀ whole, isTrue e X.env whole = (do let v ← whole; standAt e.pos; holding [v] (truthy v)) := by intro _; rfl) : Bx X Wx e (tst fa) := fun F => (pt_val (h F) he).mono fun _ _ _ h => tst_ok h
theorem b_tru (h : Vx X Wx e fa) (he : ∀ whole, isTrue e X.env whole = (do let v ← whole; standAt e.pos; holding [v] (truthy v)) := by intro _; rfl) : Bx X Wx e (tru fa) := fun F => (pt_truth (h F) he).mono fun σ H Q h => by
  obtain ⟨Γ, R, A, h⟩ := h
  refine ⟨Γ, R, A, h.split.mono fun a Γ1 R1 H1 A1 S1 h1 v hv => ?_⟩
  cases ea : peek Γ1 a with
  | none => rw [ea] at h1; exact h1.elim
  | some d =>
    rw [ea] at h1
    have h1 : Post X.K X.w F Wx σ Γ R H _ (oret Γ1 (truD d)) := h1
    cases ek : truD d with
    | none => rw [ek] at h1; exact h1.elim
    | some k =>
      rw [ek] at h1
      exact ⟨k, truD_ok A1.rh (peek_bo A1 hv ea) ek, h1.at A1 S1⟩
theorem b_cmp {cop : CmpOp} {r : L2.R2} {g : PD → PD → Option AV} (ho : OpR X (compareOp cop) r) (hr : Ok2 X.K X.w r g) (ha : Vx X Wx a fa) (hb : Vx X Wx b fb) (hm : behindInMarks cop b = false) : Bx X Wx (.Compare a [cop] [b] pos) (tst (op2 fa fb g)) :=
  fun F => (pt_cmpR ho (ha F) (hb F) hm).mono fun σ H Q h => top2 hr (tst_ok h)
theorem tB_and {K : PySem.W.Frag} {w : World} {F : Fr} {σ : St} {H : Hp} {Q : Bool → Hp → Prop} (h : TB K w F Wx (bAnd ta tb) σ H Q) : tAnd (TB K w F Wx ta) (TB K w F Wx tb) σ H Q := by
  obtain ⟨Γ, R, A, h⟩ := h
  refine ⟨Γ, R, A, h.split.mono fun k Γ1 R1 H1 A1 S1 h1 => ?_⟩
  cases k with
  | true => exact iteT ⟨Γ1, R1, A1, h1.shift S1⟩
  | false => exact iteF (h1.at A1 S1)
theorem tB_or {K : PySem.W.Frag} {w : World} {F : Fr} {σ : St} {H : Hp} {Q : Bool → Hp → Prop} (h : TB K w F Wx (bOr ta tb) σ H Q) : tOr (TB K w F Wx ta) (TB K w F Wx tb) σ H Q := by
  obtain ⟨Γ, R, A, h⟩ := h
  refine ⟨Γ, R, A, h.split.mono fun k Γ1 R1 H1 A1 S1 h1 => ?_⟩
  cases k with
  | true => exact iteT (h1.at A1 S1)
  | false => exact iteF ⟨Γ1, R1, A1, h1.shift S1⟩
theorem w_and1 (ha : Bx X Wx a ta) : Wwx X Wx (.BoolOp .And [a] pos) ta := fun F => pw_and1 (ha F)
theorem w_or1 (ha : Bx X Wx a ta) : Wwx X Wx (.BoolOp .Or [a] pos) ta := fun F => pw_or1 (ha F)
theorem w_and (ha : Bx X Wx a ta) (hb : Wwx X Wx (.BoolOp .And (b :: rest) pos) tb) : Wwx X Wx (.BoolOp .And (a :: b :: rest) pos) (bAnd ta tb) := fun F => (pw_and (ha F) (hb F)).mono fun _ _ _ h => tB_and h
theorem w_or (ha : Bx X Wx a ta) (hb : Wwx X Wx (.BoolOp .Or (b :: rest) pos) tb) : Wwx X Wx (.BoolOp .Or (a :: b :: rest) pos) (bOr ta tb) := fun F => (pw_or (ha F) (hb F)).mono fun _ _ _ h => tB_or h
theorem b_w (h : Wwx X Wx e ta) : Bx X Wx e ta := fun F => (h F).pt
theorem b_not (ha : Bx X Wx a ta) : Bx X Wx (.UnaryOp .Not a pos) (bNot ta) := fun F => (pt_not (ha F)).mono fun σ H Q h => by
  obtain ⟨Γ, R, A, h⟩ := h
  exact ⟨Γ, R, A, h.split.mono fun k Γ1 R1 H1 A1 S1 h1 => h1.at A1 S1⟩
theorem v_one {op} (h : Vx X Wx a fa) : Vx X Wx (.BoolOp op [a] pos) fa := fun F => pe_one (h F)
theorem v_and (ha : Vx X Wx a fa) (hb : Vx X Wx (.BoolOp .And (b :: rest) pos) fb) : Vx X Wx (.BoolOp .And (a :: b :: rest) pos) (vAnd fa fb) := fun F => (pe_and (ha F) (hb F)).mono fun σ H Q h => by
  obtain ⟨Γ, R, A, h⟩ := h
  refine ⟨Γ, R, A, h.split.mono fun a Γ1 R1 H1 A1 S1 h1 v hv => ?_⟩
  cases a with
  | sh d =>
    cases d with
    | bool k =>
      have e : v = .bl k := by
        have q : Sh X.K R1 v (.bool k) := hv
        cases q; rfl
      refine ⟨k, e, ?_⟩
      cases k with
      | true => exact iteT ⟨Γ1, R1, A1, (h1.shift S1).mono fun a2 Γ2 R2 H2 A2 S2 h2 v2 hv2 => h2 v2 (hv2.base S1.kee)⟩
      | false => exact iteF (h1.at A1 S1 _ (.bl false))
    | _ => exact h1.elim
  | own o => exact h1.elim
  | var i => exact h1.elim
theorem v_or (ha : Vx X Wx a fa) (hb : Vx X Wx (.BoolOp .Or (b :: rest) pos) fb) : Vx X Wx (.BoolOp .Or (a :: b :: rest) pos) (vOr fa fb) := fun F => (pe_or (ha F) (hb F)).mono fun σ H Q h => by
  obtain ⟨Γ, R, A, h⟩ := h
  refine ⟨Γ, R, A, h.split.mono fun a Γ1 R1 H1 A1 S1 h1 v hv => ?_⟩
  cases a with
  | sh d =>
    cases d with
    | bool k =>
      have e : v = .bl k := by
        have q : Sh X.K R1 v (.bool k) := hv
        cases q; rfl
      refine ⟨k, e, ?_⟩
      cases k with
      | false => exact iteF ⟨Γ1, R1, A1, (h1.shift S1).mono fun a2 Γ2 R2 H2 A2 S2 h2 v2 hv2 => h2 v2 (hv2.base S1.kee)⟩
      | true => exact iteT (h1.at A1 S1 _ (.bl true))
    | _ => exact h1.elim
  | own o => exact h1.elim
  | var i => exact h1.elim
theorem v_not (ha : Vx X Wx a fa) : Vx X Wx (.UnaryOp .Not a pos) (vNot fa) := fun F => (pe_not (ha F)).mono fun σ H Q h => by
  obtain ⟨Γ, R, A, h⟩ := h
  refine ⟨Γ, R, A, h.split.mono fun a Γ1 R1 H1 A1 S1 h1 v hv => ?_⟩
  cases a with
  | sh d =>
    cases d with
    | bool k =>
      have e : v = .bl k := by
        have q : Sh X.K R1 v (.bool k) := hv
        cases q; rfl
      exact ⟨k, e, h1.at A1 S1 _ (.bl (!k))⟩
    | _ => exact h1.elim
  | own o => exact h1.elim
  | var i => exact h1.elim
theorem v_if (hc : Bx X Wx c tc) (ha : Vx X Wx a fa) (hb : Vx X Wx b fb) : Vx X Wx (.IfExp c a b pos) (vIf tc fa fb) := fun F => (pe_ifExp (hc F) (ha F) (hb F)).mono fun σ H Q h => by
  obtain ⟨Γ, R, A, h⟩ := h
  refine ⟨Γ, R, A, h.split.mono fun k Γ1 R1 H1 A1 S1 h1 => ?_⟩
  cases k with
  | true => exact iteT ⟨Γ1, R1, A1, (h1.shift S1).mono fun a2 Γ2 R2 H2 A2 S2 h2 v2 hv2 => h2 v2 (hv2.base S1.kee)⟩
  | false => exact iteF ⟨Γ1, R1, A1, (h1.shift S1).mono fun a2 Γ2 R2 H2 A2 S2 h2 v2 hv2 => h2 v2 (hv2.base S1.kee)⟩
/-- a comparison's rule that gives a bool as things stand -/
def OkB (K : PySem.W.Frag) (r : L2.R2) (g : PD → PD → Option Bool) : Prop :=
  ∀ R H x y d e k, Ex R H → Bo K R H x d → Bo K R H y e → g d e = some k → ∀ Q : VK, Q (.bl k) H → r x y H Q
def gB (g : PD → PD → Option Bool) : PD → PD → Option AV := fun d e => (g d e).map fun k => .sh (.bool k)
theorem OkB.ok2 {K : PySem.W.Frag} {w : World} {r : L2.R2} {g : PD → PD → Option Bool} (h : OkB K r g) : Ok2 K w r (gB g) := fun R H x y d e s hx hd he hg Q q => by
  cases z : g d e with
  | none => simp only [gB, z] at hg; cases hg
  | some k =>
    simp only [gB, z] at hg; cases hg
    exact h R H x y d e k hx hd he z Q (q _ _ ⟨.bl k, rfl⟩)
theorem tChain_ok {K : PySem.W.Frag} {w : World} {F : Fr} {r r' : L2.R2} {g g' : PD → PD → Option Bool} (hr : OkB K r g) (hr' : OkB K r' g') {σ : St} {H : Hp} {Q : VK} (h : TV K w F Wx (chn fa fb fc g g') σ H Q) : tChain r r' (TV K w F Wx fa) (TV K w F Wx fb) (TV K w F Wx fc) σ H Q := by
  obtain ⟨Γ, R, A, h⟩ := h
  refine ⟨Γ, R, A, h.split.mono fun a Γ1 R1 H1 A1 S1 h1 x hx => ?_⟩
  refine ⟨Γ1, R1, A1, (h1.split.shift S1).mono fun b Γ2 R2 H2 A2 S2 h2 y hy => ?_⟩
  have hx2 := hx.keep S2
  cases ea : peek Γ2 a with
  | none => rw [ea] at h2; exact h2.elim
  | some d =>
    cases eb : peek Γ2 b with
    | none => rw [ea, eb] at h2; exact h2.elim
    | some e =>
      rw [ea, eb] at h2
      simp only [Option.bind_some] at h2
      cases eg : g d e with
      | none => rw [eg] at h2; exact h2.elim
      | some k =>
        rw [eg] at h2
        refine hr R2 H2 x y d e k A2.rh (peek_bo A2 hx2 ea) (peek_bo A2 hy eb) eg _ ⟨k, rfl, ?_⟩
        cases k with
        | false => exact iteF (h2.at A2 (S1.trans S2) _ (.bl false))
        | true =>
          refine iteT ⟨Γ2, R2, A2, (h2.split.shift (S1.trans S2)).mono fun c Γ3 R3 H3 A3 S3 h3 z hz => ?_⟩
          have hy3 := hy.keep S3
          cases ec : peek Γ3 b with
          | none => rw [ec] at h3; exact h3.elim
          | some d' =>
            cases ed : peek Γ3 c with
            | none => rw [ec, ed] at h3; exact h3.elim
            | some e' =>
              rw [ec, ed] at h3
              have h3 : Post K w F Wx σ Γ R H _ (oret Γ3 ((g' d' e').map fun k => AV.sh (PyData.bool k))) := h3
              cases ek : g' d' e' with
              | none => rw [ek] at h3; exact h3.elim
              | some k' =>
                rw [ek] at h3
                exact hr' R3 H3 y z d' e' k' A3.rh (peek_bo A3 hy3 ec) (peek_bo A3 hz ed) ek _ (h3.at A3 ((S1.trans S2).trans S3) _ (.bl k'))
theorem v_chain {op op' : CmpOp} {r r' : L2.R2} {g g' : PD → PD → Option Bool} (ho : OpR X (compareOp op) r) (ho' : OpR X (compareOp op') r') (hr : OkB X.K r g) (hr' : OkB X.K r' g') (ha : Vx X Wx a fa) (hb : Vx X Wx b fb) (hc : Vx X Wx c fc)
    (hm : lastMarks [op, op'] [b, c] = false := by with_unfolding_all rfl) : Vx X Wx (.Compare a [op, op'] [b, c] pos) (chn fa fb fc g g') := fun F => (pe_chain ho ho' (ha F) (hb F) (hc F) hm).mono fun _ _ _ h => tChain_ok hr hr' h
theorem b_chain {op op' : CmpOp} {r r' : L2.R2} {g g' : PD → PD → Option Bool} (ho : OpR X (compareOp op) r) (ho' : OpR X (compareOp op') r') (hr : OkB X.K r g) (hr' : OkB X.K r' g') (ha : Vx X Wx a fa) (hb : Vx X Wx b fb) (hc : Vx X Wx c fc)
    (hm : lastMarks [op, op'] [b, c] = false := by with_unfolding_all rfl) : Bx X Wx (.Compare a [op, op'] [b, c] pos) (tst (chn fa fb fc g g')) := fun F => (pt_chain ho ho' (ha F) (hb F) (hc F) hm).mono fun _ _ _ h => tChain_ok hr hr' (tst_ok h)
end

/-! ### statements -/
inductive RS where
  | bad | nx (Γ : Sto) | rt (a : AV) (Γ : Sto) | bk (Γ : Sto) | ct (Γ : Sto) | exc (e : Exn) (Γ : Sto)
abbrev Sd := Sto → RS
def PostS (K : PySem.W.Frag) (w : World) (F : Fr) (Wx : WX) (D : Ends) : RS → Prop
  | .bad => False
  | .nx Γ => ∀ σ R H, Abs K w F σ Γ R H → D.nx σ H
  | .rt a Γ => ∀ σ v R H, Abs K w F σ Γ R H → VR K w F F.H0 σ Γ R H v a → D.rt v H
  | .bk Γ => ∀ σ R H, Abs K w F σ Γ R H → D.bk σ H
  | .ct Γ => ∀ σ R H, Abs K w F σ Γ R H → D.ct σ H
  | .exc e Γ => ∀ σ R H, Abs K w F σ Γ R H → Wx e Γ σ R H
def TSt (K : PySem.W.Frag) (w : World) (F : Fr) (Wx : WX) (f : Sd) : TS := fun D σ H => ∃ Γ R, Abs K w F σ Γ R H ∧ PostS K w F Wx D (f Γ)
def Sx (X : Cx) (Wx : WX) (st : Stmt) (f : Sd) : Prop := ∀ F, PS X st (TSt X.K X.w F Wx f)
def SSx (X : Cx) (Wx : WX) (sts : List Stmt) (f : Sd) : Prop := ∀ F, PSs X sts (TSt X.K X.w F Wx f)
def Res.st {α : Type} (m : Res α) (k : α → Sto → RS) : RS := match m with
  | .bad => .bad
  | .ok a Γ => k a Γ
  | .exc e Γ => .exc e Γ
def sk : Sd := fun Γ => .nx Γ
def sq (f g : Sd) : Sd := fun Γ => match f Γ with
  | .nx Γ1 => g Γ1
  | r => r
def drp (f : Ev) : Sd := fun Γ => (f Γ).st fun _ Γ1 => .nx Γ1
def ret (f : Ev) : Sd := fun Γ => (f Γ).st fun a Γ1 => .rt a Γ1
def retN : Sd := fun Γ => .rt (.sh .none) Γ
def iff (c : Sto → Res Bool) (f g : Sd) : Sd := fun Γ => (c Γ).st fun b Γ1 => if b then f Γ1 else g Γ1
def never : Sd := fun _ => .bad
section
variable {K : PySem.W.Frag} {w : World} {F : Fr} {Wx : WX} {σ : St} {Γ Γ1 Γ2 : Sto} {R R1 R2 H H1 H2 Hb : Hp} {D : Ends}
theorem PostS.split {α : Type} {m : Res α} {k : α → Sto → RS} (A : Abs K w F σ Γ R H) (h : PostS K w F Wx D (m.st k)) : Post K w F Wx σ Γ R H (fun a Γ1 R1 H1 => PostS K w F Wx D (k a Γ1)) m := by
  cases m with
  | bad => exact h
  | ok a Γ1 => intro R1 H1 _ _; exact h
  | exc e Γ1 => exact fun R' H' A => h σ R' H' A
theorem st_if {c : Sto → Res Bool} {f g : Sd} (h : TSt K w F Wx (iff c f g) D σ H) : tIfS (TB K w F Wx c) (TSt K w F Wx f) (TSt K w F Wx g) D σ H := by
  obtain ⟨Γ, R, A, h⟩ := h
  refine ⟨Γ, R, A, (h.split A).mono fun k Γ1 R1 H1 A1 S1 h1 => ?_⟩
  cases k with
  | true => exact iteT ⟨Γ1, R1, A1, h1⟩
  | false => exact iteF ⟨Γ1, R1, A1, h1⟩
theorem st_seq' {f g : Sd} (h : TSt K w F Wx (sq f g) D σ H) : tSeq (TSt K w F Wx f) (TSt K w F Wx g) D σ H := by
  obtain ⟨Γ, R, A, h⟩ := h
  refine ⟨Γ, R, A, ?_⟩
  unfold sq at h
  cases e : f Γ with
  | nx Γ1 =>
    rw [e] at h
    intro σ' R' H' A'
    exact ⟨Γ1, R', A', h⟩
  | bad => rw [e] at h; exact h
  | rt a Γ1 => rw [e] at h; exact h
  | bk Γ1 => rw [e] at h; exact h
  | ct Γ1 => rw [e] at h; exact h
  | exc x Γ1 => rw [e] at h; exact h
end
section
variable {X : Cx} {Wx : WX} {e c : Expr} {fa : Ev} {pos : Pos} {tc : Sto → Res Bool} {f g : Sd} {st : Stmt} {sts : List Stmt}
theorem ss_nil : SSx X Wx [] sk := fun F => pss_nil.mono fun D σ H h => by
  obtain ⟨Γ, R, A, h⟩ := h
  exact h σ R H A
theorem ss_cons (h : Sx X Wx st f) (hr : SSx X Wx sts g) : SSx X Wx (st :: sts) (sq f g) := fun F => (pss_cons (h F) (hr F)).mono fun _ _ _ h => st_seq' h
theorem ss_one (h : Sx X Wx st f) : SSx X Wx [st] f := fun F => pss_one (h F)
theorem s_never : Sx X Wx st never := fun F => ps_never.mono fun D σ H ⟨_, _, _, h⟩ => h.elim
theorem ss_never : SSx X Wx sts never := fun F => pss_never.mono fun D σ H ⟨_, _, _, h⟩ => h.elim
theorem s_pass : Sx X Wx (.Pass pos) sk := fun F => ps_pass.mono fun D σ H ⟨Γ, R, A, h⟩ => h σ R H A
theorem s_break : Sx X Wx (.Break pos) (fun Γ => .bk Γ) := fun F => ps_break.mono fun D σ H ⟨Γ, R, A, h⟩ => h σ R H A
theorem s_continue : Sx X Wx (.Continue pos) (fun Γ => .ct Γ) := fun F => ps_continue.mono fun D σ H ⟨Γ, R, A, h⟩ => h σ R H A
theorem s_expr (he : Vx X Wx e fa) (hs : swapsWith e none pos.line X.env = pure false := by rfl) : Sx X Wx (.Expr e pos) (drp fa) := fun F => (ps_expr (he F) hs).mono fun D σ H ⟨Γ, R, A, h⟩ =>
  ⟨Γ, R, A, (h.split A).mono fun a Γ1 R1 H1 A1 S1 h1 v hv => h1 σ R1 H1 A1⟩
theorem s_ret (he : Vx X Wx e fa) : Sx X Wx (.Return (some e) pos) (ret fa) := fun F => (ps_ret (he F)).mono fun D σ H ⟨Γ, R, A, h⟩ =>
  ⟨Γ, R, A, (h.split A).mono fun a Γ1 R1 H1 A1 S1 h1 v hv => h1 σ v R1 H1 A1 (hv.base fun p hp => A.kee p hp)⟩
theorem s_retN : Sx X Wx (.Return none pos) retN := fun F => ps_retN.mono fun D σ H ⟨Γ, R, A, h⟩ => h σ .non R H A .non
theorem s_if {a b : List Stmt} (hc : Bx X Wx c tc) (ha : SSx X Wx a f) (hb : SSx X Wx b g) : Sx X Wx (.If c a b pos) (iff tc f g) := fun F => (ps_if (hc F) (ha F) (hb F)).mono fun _ _ _ h => st_if h
end

/-! ### stores -/
def asgAV (i : Nat) (a : AV) (Γ : Sto) : Option Sto := match a with
  | .sh d => some (Γ.set i (.sh d))
  | .own (.tup ds) => some (Γ.set i (.sh (.tuple ds)))
  | .own o => some (Γ.set i (.own none o))
  | .var j => if dicA Γ (.var j) then none else (frz Γ (.var j)).map fun q => q.2.set i (.sh q.1)
def onx : Option Sto → RS
  | none => .bad
  | some Γ => .nx Γ
def asg (i : Nat) (f : Ev) : Sd := fun Γ => (f Γ).st fun a Γ1 => onx (asgAV i a Γ1)
section
variable {K : PySem.W.Frag} {w : World} {F : Fr} {Wx : WX} {σ : St} {Γ Γ1 Γ2 : Sto} {R R1 R2 H H1 H2 Hb : Hp} {D : Ends}
theorem asgAV_ok {i : Nat} {v : V} {Γb : Sto} {Rb : Hp} (A : Abs K w F σ Γ1 R1 H1) (S : Step σ Γb Rb Hb Γ1 R1 H1) {a : AV} (hv : VR K w F Hb σ Γ1 R1 H1 v a) (e : asgAV i a Γ1 = some Γ2) : ∃ R2, Abs K w F (σ.set i (some v)) Γ2 R2 H1 := by
  cases a with
  | sh d => cases e; exact ⟨R1, A.setSh hv⟩
  | own o =>
    obtain ⟨p, rfl, h2, h3, h4, h5, h6⟩ := id hv
    cases o with
    | tup ds =>
      cases e
      obtain ⟨R2, A2, S2, s2⟩ := frz_ok (d := .tuple ds) (Γ2 := Γ1) A S hv rfl rfl
      exact ⟨R2, A2.setSh s2⟩
    | lst ds => cases e; exact ⟨R1, A.setOwn h4 h3 h5 h6⟩
    | dic ds => cases e; exact ⟨R1, A.setOwn h4 h3 h5 h6⟩
    | set ds => cases e; exact ⟨R1, A.setOwn h4 h3 h5 h6⟩
  | var j =>
    have e : (if dicA Γ1 (.var j) then none else (frz Γ1 (.var j)).map (fun q => q.2.set i (.sh q.1))) = some Γ2 := e
    cases nd : dicA Γ1 (.var j) with
    | true => rw [nd] at e; cases e
    | false =>
    rw [nd] at e
    have e : (frz Γ1 (.var j)).map (fun q => q.2.set i (.sh q.1)) = some Γ2 := e
    cases z : frz Γ1 (.var j) with
    | none => rw [z] at e; cases e
    | some q =>
      obtain ⟨d, Γ3⟩ := q
      rw [z] at e; cases e
      obtain ⟨R2, A2, S2, s2⟩ := frz_ok A S hv z nd
      exact ⟨R2, A2.setSh s2⟩
end
section
variable {X : Cx} {Wx : WX} {e c : Expr} {fa : Ev} {pos pos' : Pos}
theorem asg_rd {F : Fr} {i : Nat} {D : Ends} {σ : St} {H : Hp} (h : TSt X.K X.w F Wx (asg i fa) D σ H) : tAsg (TV X.K X.w F Wx fa) (gName i) D σ H := by
  obtain ⟨Γ, R, A, h⟩ := h
  refine ⟨Γ, R, A, (h.split A).mono fun a Γ1 R1 H1 A1 S1 h1 v hv => ?_⟩
  cases z : asgAV i a Γ1 with
  | none => rw [z] at h1; exact h1.elim
  | some Γ2 =>
    rw [z] at h1
    obtain ⟨R2, A2⟩ := asgAV_ok A1 S1 hv z
    exact h1 _ R2 H1 A2
theorem s_asg {i : Nat} {x : Str} (hN : X.N.Nodup) (hi : X.N[i]? = some x) (hx : Loc X.env.scope x) (he : Vx X Wx e fa) (hs : swapsWith e (some (.Name x pos')) pos.line X.env = pure false := by rfl) (hf : X.fn x = true ∨ X.env.scope.names.lookup x = some .local := by first | exact .inl rfl | exact .inr rfl | assumption) :
    Sx X Wx (.Assign [.Name x pos'] e pos) (asg i fa) := fun F => (ps_set hN hi hx (he F) hs hf).mono fun _ _ _ h => asg_rd h
end
/-- x op= e -/
def aug (i : Nat) (f : Ev) (g : PD → PD → Option AV) : Sd := fun Γ => match Γ[i]? with
  | some (.sh d) => (f Γ).st fun a Γ1 => match (peek Γ1 a).bind fun e => g d e with
    | some (.sh r) => .nx (Γ1.set i (.sh r))
    | _ => .bad
  | _ => .bad
section
variable {X : Cx} {Wx : WX} {e c : Expr} {fa : Ev} {pos pos' : Pos}
theorem s_aug {i : Nat} {x : Str} {op : Operator} {ti : TIp} {g : PD → PD → Option AV} (hN : X.N.Nodup) (hi : X.N[i]? = some x) (hx : Loc X.env.scope x) (he : Vx X Wx e fa) (ho : PIp X op ti) (hr : Ok2 X.K X.w ti g) (hf : X.fn x = true ∨ X.env.scope.names.lookup x = some .local := by first | exact .inl rfl | exact .inr rfl | assumption) :
    Sx X Wx (.AugAssign (.Name x pos') op e pos) (aug i fa g) := fun F => (ps_aug hN hi hx (he F) ho hf).mono fun D σ H h => by
  obtain ⟨Γ, R, A, h⟩ := h
  unfold aug at h
  cases e0 : Γ[i]? with
  | none => simp only [e0] at h; exact h.elim
  | some s =>
    cases s with
    | no => simp only [e0] at h; exact h.elim
    | own t o => simp only [e0] at h; exact h.elim
    | sh d =>
      simp only [e0] at h
      obtain ⟨v, h1, h2⟩ := A.sh i d e0
      refine ⟨v, h1, Γ, R, A, (h.split A).mono fun a Γ1 R1 H1 A1 S1 h3 y hy => ?_⟩
      cases ea : peek Γ1 a with
      | none => rw [ea] at h3; exact h3.elim
      | some d2 =>
        rw [ea] at h3
        simp only [Option.bind_some] at h3
        cases eg : g d d2 with
        | none => rw [eg] at h3; exact h3.elim
        | some r =>
          rw [eg] at h3
          cases r with
          | sh r =>
            refine hr R1 H1 v y d d2 (.sh r) A1.rh (.sh (Sh.mono S1.ex h2)) (peek_bo A1 hy ea) eg _ fun z H2 hz => ?_
            obtain ⟨hz, rfl⟩ := hz
            exact h3 _ R1 _ (A1.setSh hz)
          | own o => exact h3.elim
          | var j => exact h3.elim
end
end G

namespace G
open PySem L2

/-! ### what is walked: a list of data -/
/-- shared data, or a passing tuple of shared data -/
def Lo (K : PySem.W.Frag) (R H : Hp) (v : V) (d : PD) : Prop := Sh K R v d ∨ ∃ a xs ds, v = .ref a ∧ d = .tuple ds ∧ H a = some (.tup xs) ∧ ShA K R xs ds
def LoF (fl : Bool) (K : PySem.W.Frag) (R H : Hp) (v : V) (d : PD) : Prop := match fl with
  | true => Lo K R H v d
  | false => Sh K R v d
theorem LoF.of {fl : Bool} {K : PySem.W.Frag} {R H : Hp} {v : V} {d : PD} (h : Sh K R v d) : LoF fl K R H v d := by
  cases fl with
  | true => exact .inl h
  | false => exact h
theorem LoF.lo {fl : Bool} {K : PySem.W.Frag} {R H : Hp} {v : V} {d : PD} (h : LoF fl K R H v d) : Lo K R H v d := by
  cases fl with
  | true => exact h
  | false => exact .inl h
structure ItOk (fl : Bool) (K : PySem.W.Frag) (w : World) (R0 : Hp) (J : It) (ds : List PD) : Prop where
  stop : ∀ R H i, Ex R0 R → Ex R H → ds.length ≤ i → J.stop i H
  go : ∀ R H i d, Ex R0 R → Ex R H → ds[i]? = some d → J.go i H
  yld : ∀ R H i d x H', Ex R0 R → Ex R H → ds[i]? = some d → J.yld i H x H' → (Sh K R x d ∧ H' = H) ∨ ∃ p ho, H p = none ∧ H' = upd H p ho ∧ LoF fl K R H' x d
def TIt (fl : Bool) (K : PySem.W.Frag) (w : World) (F : Fr) (Wx : WX) (f : Sto → Res (List PD)) : TI := fun σ H Rq => ∃ Γ R, Abs K w F σ Γ R H ∧ Post K w F Wx σ Γ R H (fun ds Γ' R' H' => ∀ J, ItOk fl K w R' J ds → Rq J H') (f Γ)
def Ix (fl : Bool) (X : Cx) (Wx : WX) (tg e : Expr) (f : Sto → Res (List PD)) : Prop := ∀ F, PI X tg e (TIt fl X.K X.w F Wx f)
theorem _root_.L2.PI.mono {X : Cx} {tg e : Expr} {t t' : TI} (h : PI X tg e t) (m : ∀ σ H Q, t' σ H Q → t σ H Q) : PI X tg e t' := ⟨fun pins s σ H Q I q => h.run pins s σ H Q I (m σ H Q q)⟩
/-- the items of a list, a tuple that is walked -/
def itL (f : Ev) : Sto → Res (List PD) := fun Γ => (shr f Γ).bind fun d Γ1 => match d with
  | .list ds => .ok ds Γ1
  | _ => .bad
def itT (f : Ev) : Sto → Res (List PD) := fun Γ => (shr f Γ).bind fun d Γ1 => match d with
  | .tuple ds => .ok ds Γ1
  | _ => .bad
def rangeD (lo : Int) (n : Nat) : List PD := (List.range n).map fun (i : Nat) => PyData.int (lo + (i : Int))
noncomputable def big (i : Int) : Bool := @decide (-(2 ^ 62) ≤ i ∧ i < 2 ^ 62) (Classical.propDecidable _)
noncomputable def itR1 (f : Ev) : Sto → Res (List PD) := fun Γ => (f Γ).bind fun a Γ1 => match peek Γ1 a with
  | some (.int j) => if big j then .ok (rangeD 0 j.toNat) Γ1 else .bad
  | _ => .bad
noncomputable def itR2 (f g : Ev) : Sto → Res (List PD) := fun Γ => (f Γ).bind fun a Γ1 => (g Γ1).bind fun b Γ2 => match peek Γ2 a, peek Γ2 b with
  | some (.int i), some (.int j) => if big i && big j then .ok (rangeD i (j - i).toNat) Γ2 else .bad
  | _, _ => .bad
def enumD (ds : List PD) : List PD := ds.mapIdx fun i d => PyData.tuple [PyData.int (i : Int), d]
section
variable {K : PySem.W.Frag} {w : World} {R0 : Hp}
theorem it_list {a : Addr} {xs : List V} {ds : List PD} (h : SqL K R0 a xs) (s : ShA K R0 xs ds) : ItOk false K w R0 (Itl K a) ds where
  stop := fun R H i e1 e2 hi => ⟨xs, Evl.ex_l (Evl.Ex.trans e1 e2) h, by rw [s.length]; exact hi⟩
  go := fun R H i d e1 e2 hd => by
    obtain ⟨v, h1, h2⟩ := s.get hd
    exact ⟨xs, v, Evl.ex_l (Evl.Ex.trans e1 e2) h, h1⟩
  yld := fun R H i d x H' e1 e2 hd hy => by
    obtain ⟨rfl, hy⟩ := hy
    obtain ⟨v, h1, h2⟩ := s.get hd
    have z := hy xs (Evl.ex_l (Evl.Ex.trans e1 e2) h)
    rw [h1] at z; cases z
    exact .inl ⟨h2.mono e1, rfl⟩
theorem it_tup {a : Addr} {xs : List V} {ds : List PD} (h : SqT K R0 a xs) (s : ShA K R0 xs ds) : ItOk false K w R0 (Itt K a) ds where
  stop := fun R H i e1 e2 hi => ⟨xs, Evl.ex_t (Evl.Ex.trans e1 e2) h, by rw [s.length]; exact hi⟩
  go := fun R H i d e1 e2 hd => by
    obtain ⟨v, h1, h2⟩ := s.get hd
    exact ⟨xs, v, Evl.ex_t (Evl.Ex.trans e1 e2) h, h1⟩
  yld := fun R H i d x H' e1 e2 hd hy => by
    obtain ⟨rfl, hy⟩ := hy
    obtain ⟨v, h1, h2⟩ := s.get hd
    have z := hy xs (Evl.ex_t (Evl.Ex.trans e1 e2) h)
    rw [h1] at z; cases z
    exact .inl ⟨h2.mono e1, rfl⟩
theorem rangeD_get {lo : Int} {n i : Nat} {d : PD} (h : (rangeD lo n)[i]? = some d) : i < n ∧ d = .int (lo + (i : Int)) := by
  unfold rangeD at h
  rw [List.getElem?_map] at h
  by_cases hi : i < n
  · rw [List.getElem?_range hi] at h; cases h; exact ⟨hi, rfl⟩
  · rw [List.getElem?_eq_none (by simpa using hi)] at h; cases h
theorem it_range {lo : Int} {n : Nat} : ItOk false K w R0 (Itr lo n) (rangeD lo n) where
  stop := fun R H i _ _ hi => by
    have hi : (rangeD lo n).length ≤ i := hi
    unfold rangeD at hi
    rw [List.length_map, List.length_range] at hi
    exact hi
  go := fun R H i d _ _ hd => (rangeD_get hd).1
  yld := fun R H i d x H' _ _ hd hy => by
    obtain ⟨rfl, rfl⟩ := hy
    obtain ⟨_, rfl⟩ := rangeD_get hd
    exact .inl ⟨.int _, rfl⟩
end
section
variable {X : Cx} {Wx : WX} {a b e tg : Expr} {fa fb : Ev} {p pos : Pos}
theorem i_list (h : Vx X Wx e fa) : Ix false X Wx tg e (itL fa) := fun F => (pi_list (d_of h F)).mono fun σ H Q ⟨Γ, R, A, h⟩ => by
  refine ⟨Γ, R, A, h.split.mono fun d Γ1 R1 H1 A1 S1 h1 v hv => ?_⟩
  cases d with
  | list ds =>
    cases hv with
    | lst hq hs => exact ⟨_, rfl, ⟨_, Evl.ex_l A1.rh hq⟩, h1.at A1 S1 _ (it_list hq hs)⟩
  | _ => exact h1.elim
theorem i_tup (h : Vx X Wx e fa) : Ix false X Wx tg e (itT fa) := fun F => (pi_tup (d_of h F)).mono fun σ H Q ⟨Γ, R, A, h⟩ => by
  refine ⟨Γ, R, A, h.split.mono fun d Γ1 R1 H1 A1 S1 h1 v hv => ?_⟩
  cases d with
  | tuple ds =>
    cases hv with
    | tup hq hs => exact ⟨_, rfl, ⟨_, Evl.ex_t A1.rh hq.sq⟩, h1.at A1 S1 _ (it_tup hq.sq hs)⟩
  | _ => exact h1.elim
theorem big_lt {i : Int} (h : big i = true) : -(2 ^ 62) ≤ i ∧ i < 2 ^ 62 := by
  exact @of_decide_eq_true _ (Classical.propDecidable _) h
theorem i_range1 (hg : Gl X "range") (hm : X.mg "range" = none) (ha : Vx X Wx a fa) (hs : starEach [a] X.env = [(false, eval a X.env)] := by rfl) (hs' : starEach [a] X.env = (false, eval a X.env) :: starEach [] X.env := by rfl) :
    Ix false X Wx tg (.Call (.Name "range" p) [a] [] pos) (itR1 fa) := fun F => (pi_range1 hg hm (pa_cons (ha F) pa_nil hs') hs).mono fun σ H Q ⟨Γ, R, A, h⟩ => by
  refine ⟨Γ, R, A, h.split.mono fun a Γ1 R1 H1 A1 S1 h1 v hv => ?_⟩
  cases ea : peek Γ1 a with
  | none => simp only [ea] at h1; exact h1.elim
  | some d =>
    simp only [ea] at h1
    cases d with
    | int j =>
      simp only at h1
      have e := (peek_bo A1 hv ea).int
      subst e
      cases eb : big j with
      | false => rw [eb] at h1; exact h1.elim
      | true =>
        rw [eb] at h1
        obtain ⟨b1, b2⟩ := big_lt eb
        exact ⟨j, rfl, b1, b2, h1.at A1 S1 _ it_range⟩
    | _ => exact h1.elim
theorem i_range2 (hg : Gl X "range") (hm : X.mg "range" = none) (ha : Vx X Wx a fa) (hb : Vx X Wx b fb) (hs : starEach [a, b] X.env = [(false, eval a X.env), (false, eval b X.env)] := by rfl) (hs2 : starEach [b] X.env = [(false, eval b X.env)] := by rfl)
    (hs' : starEach [a, b] X.env = (false, eval a X.env) :: starEach [b] X.env := by rfl) (hs2' : starEach [b] X.env = (false, eval b X.env) :: starEach [] X.env := by rfl) :
    Ix false X Wx tg (.Call (.Name "range" p) [a, b] [] pos) (itR2 fa fb) := fun F => (pi_range2 hg hm (pa_cons (ha F) (pa_cons (hb F) pa_nil hs2') hs') hs hs2).mono fun σ H Q ⟨Γ, R, A, h⟩ => by
  refine ⟨Γ, R, A, h.split.mono fun a Γ1 R1 H1 A1 S1 h1 v hv => ?_⟩
  refine ⟨Γ1, R1, A1, (h1.split.shift S1).mono fun b Γ2 R2 H2 A2 S2 h2 y hy => ?_⟩
  have hv2 := hv.keep S2
  cases ea : peek Γ2 a with
  | none => simp only [ea] at h2; exact h2.elim
  | some d =>
    cases eb : peek Γ2 b with
    | none => simp only [ea, eb] at h2; cases d <;> exact h2.elim
    | some d2 =>
      simp only [ea, eb] at h2
      cases d with
      | int i =>
        cases d2 with
        | int j =>
          simp only at h2
          have e := (peek_bo A2 hv2 ea).int
          subst e
          have e := (peek_bo A2 hy eb).int
          subst e
          cases ec : big i && big j with
          | false => rw [ec] at h2; exact h2.elim
          | true =>
            rw [ec] at h2
            rw [Bool.and_eq_true] at ec
            obtain ⟨b1, b2⟩ := big_lt ec.1
            obtain ⟨b3, b4⟩ := big_lt ec.2
            exact ⟨i, j, rfl, ⟨b1, b2, b3, b4⟩, h2.at A2 (S1.trans S2) _ it_range⟩
        | _ => exact h2.elim
      | _ => exact h2.elim
end
/-- enumerate(a list) -/
def itE (f : Ev) : Sto → Res (List PD) := fun Γ => (shr f Γ).bind fun d Γ1 => match d with
  | .list ds => .ok (enumD ds) Γ1
  | _ => .bad

/-! ### targets -/
structure Gx (fl : Bool) (X : Cx) (tg : Expr) (js : List Nat) (g : TG) (t : PD → Sto → Option Sto) : Prop where
  pg : PG X tg g
  ok : ∀ (F : Fr) (σ : St) (Γ Γ' : Sto) (R H : Hp) (v : V) (d : PD) (Q : St → Hp → Prop), Abs X.K X.w F σ Γ R H → LoF fl X.K R H v d → t d Γ = some Γ' →
    (∀ σ', Abs X.K X.w F σ' Γ' R H → σ'.length = σ.length → (∀ i, i ∉ js → σ'[i]? = σ[i]?) → (∀ i, i ∉ js → Γ'[i]? = Γ[i]?) → (∀ i ∈ js, ∀ t o, Γ'[i]? ≠ some (.own t o)) → Q σ' H) → g v σ H Q
def tNm (j : Nat) : PD → Sto → Option Sto := fun d Γ => some (Γ.set j (.sh d))
def tTp : List Nat → List PD → Sto → Option Sto
  | [], [], Γ => some Γ
  | j :: js, d :: ds, Γ => tTp js ds (Γ.set j (.sh d))
  | _, _, _ => none
def tTup (js : List Nat) : PD → Sto → Option Sto := fun d Γ => match d with
  | .tuple ds => tTp js ds Γ
  | .list ds => tTp js ds Γ
  | _ => none
/-- (a, b, ..) = a tuple or a list of that length -/
def gTL (K : PySem.W.Frag) (n : Nat) (t : TGs) : TG := fun v σ H Q => gTup K n t v σ H Q ∨ gUnl K n t v σ H Q
section
variable {X : Cx} {pos : Pos}
theorem pg_tl {es : List Expr} {k : Nat} {t : TGs} {n : Nat} (hc : X.calm = true) (h : PGs X es t)
    (hn : (assignEach es X.env).length = n := by rfl) (hst : (assignEach es X.env).findIdx? (·.1) = none := by rfl) : PG X (.Tuple es k pos) (gTL X.K n t) :=
  ⟨fun pins s σ H v u Q I r hw => hw.elim (fun hw => (pg_tup hc h hn hst).run pins s σ H v u Q I r hw) fun hw => (pg_unl hc h hn hst).run pins s σ H v u Q I r hw⟩
theorem g_name {i : Nat} {x : Str} (hN : X.N.Nodup) (hi : X.N[i]? = some x) (hx : Loc X.env.scope x) (hf : X.fn x = true ∨ X.env.scope.names.lookup x = some .local := by first | exact .inl rfl | exact .inr rfl | assumption) : Gx false X (.Name x pos) [i] (gName i) (tNm i) where
  pg := pg_name hN hi hx hf
  ok := fun F σ Γ Γ' R H v d Q A hv e q => by
    cases e
    refine q _ (A.setSh hv) (List.length_set ..) (fun j hj => List.getElem?_set_ne (by rintro rfl; exact hj (List.mem_singleton.mpr rfl))) (fun j hj => List.getElem?_set_ne (by rintro rfl; exact hj (List.mem_singleton.mpr rfl))) fun j hj t o z => ?_
    rw [List.mem_singleton] at hj; subst hj
    rcases get_set z with ⟨_, z⟩ | ⟨z, _⟩
    · cases z
    · exact z rfl
/-- the names of a tuple target -/
structure Gsx (X : Cx) (tgs : List Expr) (js : List Nat) (g : TGs) : Prop where
  pg : PGs X tgs g
  ok : ∀ (F : Fr) (σ : St) (Γ Γ' : Sto) (R H : Hp) (vs : List V) (ds : List PD) (Q : St → Hp → Prop), Abs X.K X.w F σ Γ R H → ShA X.K R vs ds → tTp js ds Γ = some Γ' →
    (∀ σ', Abs X.K X.w F σ' Γ' R H → σ'.length = σ.length → (∀ i, i ∉ js → σ'[i]? = σ[i]?) → (∀ i, i ∉ js → Γ'[i]? = Γ[i]?) → (∀ i, (i ∈ js ∨ ∀ t o, Γ[i]? ≠ some (.own t o)) → ∀ t o, Γ'[i]? ≠ some (.own t o)) → Q σ' H) → g vs σ H Q
theorem gs_nil : Gsx X [] [] gNil where
  pg := pgs_nil
  ok := fun F σ Γ Γ' R H vs ds Q A hv e q => by
    cases ds with
    | nil =>
      cases hv; cases e
      exact ⟨rfl, q σ A rfl (fun _ _ => rfl) (fun _ _ => rfl) fun i h => h.elim (fun z => by simp at z) fun z => z⟩
    | cons d ds => cases e
theorem gs_cons {i : Nat} {x : Str} {es : List Expr} {js : List Nat} {u : TGs} (hN : X.N.Nodup) (hi : X.N[i]? = some x) (hx : Loc X.env.scope x) (h2 : Gsx X es js u) (hf : X.fn x = true ∨ X.env.scope.names.lookup x = some .local := by first | exact .inl rfl | exact .inr rfl | assumption)
    (hs : (assignEach (.Name x pos :: es) X.env).map (·.2) = assign (.Name x pos) X.env :: (assignEach es X.env).map (·.2) := by rfl) : Gsx X (.Name x pos :: es) (i :: js) (gCons (gName i) u) where
  pg := pgs_cons (pg_name hN hi hx hf) h2.pg hs
  ok := fun F σ Γ Γ' R H vs ds Q A hv e q => by
    cases ds with
    | nil => cases e
    | cons d ds =>
      cases hv with
      | cons hv hr =>
        refine ⟨_, _, rfl, ?_⟩
        refine h2.ok F _ _ Γ' R H _ ds Q (A.setSh (i := i) hv) hr e fun σ' A' l1 o1 o2 n1 => ?_
        refine q σ' A' (l1.trans (List.length_set ..)) (fun j hj => ?_) (fun j hj => ?_) fun j hj => ?_
        · rw [List.mem_cons, not_or] at hj
          rw [o1 j hj.2, List.getElem?_set_ne (Ne.symm hj.1)]
        · rw [List.mem_cons, not_or] at hj
          rw [o2 j hj.2, List.getElem?_set_ne (Ne.symm hj.1)]
        · refine n1 j ?_
          rcases hj with hj | hj
          · rcases List.mem_cons.mp hj with rfl | hj
            · refine .inr fun t o z => ?_
              rcases get_set z with ⟨_, z⟩ | ⟨z, _⟩
              · cases z
              · exact z rfl
            · exact .inl hj
          · refine .inr fun t o z => ?_
            rcases get_set z with ⟨_, z⟩ | ⟨_, z⟩
            · cases z
            · exact hj t o z
theorem tTp_len : ∀ {js : List Nat} {ds : List PD} {Γ Γ' : Sto}, tTp js ds Γ = some Γ' → ds.length = js.length
  | [], [], _, _, _ => rfl
  | _ :: _, _ :: _, _, _, e => congrArg (· + 1) (tTp_len e)
  | [], _ :: _, _, _, e => nomatch e
  | _ :: _, [], _, _, e => nomatch e
theorem g_tup {fl : Bool} {es : List Expr} {k : Nat} {js : List Nat} {g : TGs} (hc : X.calm = true) (h : Gsx X es js g) (hn : (assignEach es X.env).length = js.length := by rfl) (hst : (assignEach es X.env).findIdx? (·.1) = none := by rfl) :
    Gx fl X (.Tuple es k pos) js (gTL X.K js.length g) (tTup js) where
  pg := pg_tl hc h.pg hn hst
  ok := fun F σ Γ Γ' R H v d Q A hv e q => by
    cases d with
    | tuple ds =>
      rcases hv.lo with hv | ⟨a, xs, ds', rfl, e0, hq, hs⟩
      · cases hv with
        | tup hq hs => exact .inl ⟨_, _, rfl, Evl.ex_t A.rh hq.sq, hs.length.trans (tTp_len e), h.ok F σ Γ Γ' R H _ ds Q A hs e fun σ' A' l o1 o2 n => q σ' A' l o1 o2 fun i hi => n i (.inl hi)⟩
      · cases e0
        exact .inl ⟨_, _, rfl, .inl (.inl hq), hs.length.trans (tTp_len e), h.ok F σ Γ Γ' R H _ ds Q A hs e fun σ' A' l o1 o2 n => q σ' A' l o1 o2 fun i hi => n i (.inl hi)⟩
    | list ds =>
      rcases hv.lo with hv | ⟨a, xs, ds', rfl, e0, hq, hs⟩
      · cases hv with
        | lst hq hs => exact .inr ⟨_, _, rfl, Evl.ex_l A.rh hq, hs.length.trans (tTp_len e), h.ok F σ Γ Γ' R H _ ds Q A hs e fun σ' A' l o1 o2 n => q σ' A' l o1 o2 fun i hi => n i (.inl hi)⟩
      · cases e0
    | _ => cases e
end

/-! ### for -/
def forD (t : PD → Sto → Option Sto) (b : Sd) : List PD → Sd
  | [], Γ => .nx Γ
  | d :: ds, Γ => match t d Γ with
    | none => .bad
    | some Γ1 => match b Γ1 with
      | .nx Γ2 => forD t b ds Γ2
      | .ct Γ2 => forD t b ds Γ2
      | .bk Γ2 => .nx Γ2
      | r => r
def for_ (f : Sto → Res (List PD)) (t : PD → Sto → Option Sto) (b : Sd) : Sd := fun Γ => (f Γ).st fun ds Γ1 => forD t b ds Γ1
section
variable {K : PySem.W.Frag} {w : World} {F : Fr} {Wx : WX} {σ : St} {Γ Γ1 Γ2 : Sto} {R R1 R2 H H1 H2 Hb : Hp} {D : Ends}
theorem Abs.sub (A : Abs K w F σ Γ R H) : Abs K w { F with R0 := R } σ Γ R H := ⟨A.len, A.sh, A.own, A.dis, A.rh, Evl.Ex.refl R, fun _ _ _ h => h, A.frm, A.kee⟩
theorem Abs.sup (A : Abs K w F σ Γ R H) {σ' : St} {Γ' : Sto} {R' H' : Hp} (B : Abs K w { F with R0 := R } σ' Γ' R' H') : Abs K w F σ' Γ' R' H' :=
  ⟨B.len, B.sh, B.own, B.dis, B.rh, Evl.Ex.trans A.r0 B.r0, fun a o h r => B.sep a o h (A.sep a o h r), B.frm, B.kee⟩
theorem PostS.sup (A : Abs K w F σ Γ R H) {r : RS} (h : PostS K w F Wx D r) : PostS K w { F with R0 := R } Wx D r := by
  cases r with
  | bad => exact h
  | nx Γ1 => exact fun σ' R' H' B => h σ' R' H' (A.sup B)
  | rt a Γ1 => exact fun σ' v R' H' B q => h σ' v R' H' (A.sup B) (by cases a <;> exact q)
  | bk Γ1 => exact fun σ' R' H' B => h σ' R' H' (A.sup B)
  | ct Γ1 => exact fun σ' R' H' B => h σ' R' H' (A.sup B)
  | exc e Γ1 => exact fun σ' R' H' B => h σ' R' H' (A.sup B)
end
theorem drop_at {α : Type} {l : List α} {i : Nat} {x : α} (h : l[i]? = some x) : l.drop i = x :: l.drop (i + 1) := by
  obtain ⟨hi, e⟩ := List.getElem?_eq_some_iff.mp h
  rw [List.drop_eq_getElem_cons hi, e]
section
variable {X : Cx} {Wx : WX} {iter tg : Expr} {fi : Sto → Res (List PD)} {t : PD → Sto → Option Sto} {js : List Nat} {g : TG} {b : Sd} {body : List Stmt} {pos : Pos}
theorem s_for {fl : Bool} (hp : PassesOwn (model X.prog X.w) X.A X.env X.xe) (hc : X.calm = true) (hi : Ix fl X Wx tg iter fi) (hg : Gx fl X tg js g t) (hb : SSx X Wx body b)
    (hs : ∀ x, foldedSetIterable iter X.env x = pure x := by intro _; rfl) : Sx X Wx (.For tg iter body [] pos) (for_ fi t b) := by
  intro F
  -- the body is read with what is shared when the loop begins
  refine ⟨fun pins s σ H D I h => ?_⟩
  obtain ⟨Γ, R, A, h⟩ := h
  -- the iterator comes; then the walk
  have main : ∀ R1, PS X (.For tg iter body [] pos) (tFor (TIt fl X.K X.w F Wx fi) g (TSt X.K X.w { F with R0 := R1 } Wx b)) := fun R1 => ps_for hp hc (hi F) hg.pg (hb _) hs
  -- the loop with a body that is read for any such R1
  have hbAll : PSs X body (fun D σ H => ∃ R1, TSt X.K X.w { F with R0 := R1 } Wx b D σ H) := ⟨fun pins s σ H D I ⟨R1, q⟩ => (hb { F with R0 := R1 }).run pins s σ H D I q⟩
  refine (ps_for hp hc (hi F) hg.pg hbAll hs).run pins s σ H D I ?_
  refine ⟨Γ, R, A, (h.split A).mono fun ds Γ1 R1 H1 A1 S1 h1 J hJ => ?_⟩
  refine ⟨fun i m σ' H' => m = ds.length - i ∧ i ≤ ds.length ∧ ∃ Γ' R', Abs X.K X.w { F with R0 := R1 } σ' Γ' R' H' ∧ PostS X.K X.w F Wx D (forD t b (ds.drop i) Γ'), ⟨ds.length, by simp, Nat.zero_le _, Γ1, R1, A1.sub, h1⟩, ?_⟩
  rintro i m σ' H' ⟨rfl, hi', Γ', R', A', h'⟩
  by_cases hlt : i < ds.length
  · have hd : ds[i]? = some ds[i] := List.getElem?_eq_getElem hlt
    rw [drop_at hd] at h'
    refine .inr ⟨hJ.go R' H' i _ A'.r0 A'.rh hd, fun σ2 H2 => ∃ Γ2 R2, Abs X.K X.w { F with R0 := R1 } σ2 Γ2 R2 H2 ∧ PostS X.K X.w F Wx D (forD t b (ds.drop (i + 1)) Γ2), fun σ2 H2 ⟨Γ2, R2, B, q⟩ => ⟨ds.length - (i + 1), by omega, rfl, hlt, Γ2, R2, B, q⟩, fun x Hx y => ?_⟩
    -- the item as shared data, or a passing tuple of such
    have item : ∃ R3, Abs X.K X.w { F with R0 := R1 } σ' Γ' R3 Hx ∧ LoF fl X.K R3 Hx x ds[i] := by
      rcases hJ.yld R' H' i _ x Hx A'.r0 A'.rh hd y with ⟨q1, rfl⟩ | ⟨p, hob, hp', rfl, q1⟩
      · exact ⟨R', A', .of q1⟩
      · exact ⟨R', (A'.new hp' hob).1, q1⟩
    obtain ⟨R3, A3, s3⟩ := item
    unfold forD at h'
    cases et : t ds[i] Γ' with
    | none => rw [et] at h'; exact h'.elim
    | some Γ3 =>
      rw [et] at h'
      refine hg.ok _ σ' Γ' Γ3 R3 Hx x _ _ A3 s3 et fun σ4 A4 _ _ _ _ => ?_
      refine ⟨R1, Γ3, R3, A4, ?_⟩
      simp only at h'
      cases eb : b Γ3 with
      | bad => rw [eb] at h'; exact h'.elim
      | nx Γ5 => rw [eb] at h'; exact fun σ5 R5 H5 A5 => ⟨Γ5, R5, A5, h'⟩
      | ct Γ5 => rw [eb] at h'; exact fun σ5 R5 H5 A5 => ⟨Γ5, R5, A5, h'⟩
      | bk Γ5 => rw [eb] at h'; exact fun σ5 R5 H5 A5 => h' σ5 R5 H5 (A1.sup A5)
      | rt a Γ5 => rw [eb] at h'; exact PostS.sup A1 h'
      | exc e Γ5 => rw [eb] at h'; exact PostS.sup A1 h'
  · have e : i = ds.length := by omega
    subst e
    rw [List.drop_length] at h'
    exact .inl ⟨hJ.stop R' H' _ A'.r0 A'.rh (Nat.le_refl _), h' σ' R' H' (A1.sup A')⟩

/-! ### while -/
def whileD (c : Sto → Res Bool) (b : Sd) : Nat → Sd
  | 0, _ => .bad
  | n + 1, Γ => (c Γ).st fun k Γ1 => if k then (match b Γ1 with
    | .nx Γ2 => whileD c b n Γ2
    | .ct Γ2 => whileD c b n Γ2
    | .bk Γ2 => .nx Γ2
    | r => r) else .nx Γ1
theorem whileD_mono {c : Sto → Res Bool} {b : Sd} : ∀ {n : Nat} {Γ : Sto}, whileD c b n Γ ≠ .bad → ∀ m, n ≤ m → whileD c b m Γ = whileD c b n Γ
  | 0, _, h, _, _ => absurd rfl h
  | n + 1, Γ, h, 0, hm => by omega
  | n + 1, Γ, h, m + 1, hm => by
    unfold whileD at h ⊢
    cases ec : c Γ with
    | bad => rfl
    | exc e Γ1 => rfl
    | ok k Γ1 =>
      rw [ec] at h
      cases k with
      | false => rfl
      | true =>
        simp only [Res.st, if_true] at h ⊢
        cases eb : b Γ1 with
        | nx Γ2 => simp only [eb] at h ⊢; exact whileD_mono h m (by omega)
        | ct Γ2 => simp only [eb] at h ⊢; exact whileD_mono h m (by omega)
        | bad => rfl
        | bk Γ2 => rfl
        | rt a Γ2 => rfl
        | exc e Γ2 => rfl
open Classical in
noncomputable def whl (c : Sto → Res Bool) (b : Sd) : Sd := fun Γ => if h : ∃ n, whileD c b n Γ ≠ .bad then whileD c b (Classical.choose h) Γ else .bad
theorem whl_of {c : Sto → Res Bool} {b : Sd} {Γ : Sto} {n : Nat} {r : RS} (h : whileD c b n Γ = r) (hr : r ≠ .bad) : whl c b Γ = r := by
  have hx : ∃ n, whileD c b n Γ ≠ .bad := ⟨n, by rw [h]; exact hr⟩
  unfold whl
  rw [dif_pos hx]
  have h1 := Classical.choose_spec hx
  have h2 := whileD_mono h1 (max n (Classical.choose hx)) (Nat.le_max_right _ _)
  have h3 := whileD_mono (n := n) (by rw [h]; exact hr) (max n (Classical.choose hx)) (Nat.le_max_left _ _)
  rw [← h2, h3, h]
theorem s_while {c : Expr} {tc : Sto → Res Bool} (hp : PassesOwn (model X.prog X.w) X.A X.env X.xe) (hc : Bx X Wx c tc) (hb : SSx X Wx body b) : Sx X Wx (.While c body [] pos) (whl tc b) := fun F => (ps_while hp (hc F) (hb F)).mono fun D σ H ⟨Γ, R, A, h⟩ => by
  have hx : ∃ n, PostS X.K X.w F Wx D (whileD tc b n Γ) := by
    unfold whl at h
    by_cases hx : ∃ n, whileD tc b n Γ ≠ .bad
    · rw [dif_pos hx] at h; exact ⟨_, h⟩
    · rw [dif_neg hx] at h; exact h.elim
  obtain ⟨n, h⟩ := hx
  refine ⟨fun m σ' H' => ∃ Γ' R', Abs X.K X.w F σ' Γ' R' H' ∧ PostS X.K X.w F Wx D (whileD tc b m Γ'), ⟨n, Γ, R, A, h⟩, ?_⟩
  rintro m σ' H' ⟨Γ', R', A', h'⟩
  cases m with
  | zero => exact h'.elim
  | succ m =>
    unfold whileD at h'
    refine ⟨Γ', R', A', (h'.split A').mono fun k Γ1 R1 H1 A1 S1 h1 => ?_⟩
    cases k with
    | false => exact iteF (h1 σ' R1 H1 A1)
    | true =>
      refine iteT ⟨fun σ2 H2 => ∃ Γ2 R2, Abs X.K X.w F σ2 Γ2 R2 H2 ∧ PostS X.K X.w F Wx D (whileD tc b m Γ2), fun σ2 H2 q => ⟨m, Nat.lt_succ_self m, q⟩, Γ1, R1, A1, ?_⟩
      have h1 : PostS X.K X.w F Wx D (match b Γ1 with
        | .nx Γ2 => whileD tc b m Γ2
        | .ct Γ2 => whileD tc b m Γ2
        | .bk Γ2 => .nx Γ2
        | r => r) := h1
      cases eb : b Γ1 with
      | bad => rw [eb] at h1; exact h1.elim
      | nx Γ5 => rw [eb] at h1; exact fun σ5 R5 H5 A5 => ⟨Γ5, R5, A5, h1⟩
      | ct Γ5 => rw [eb] at h1; exact fun σ5 R5 H5 A5 => ⟨Γ5, R5, A5, h1⟩
      | bk Γ5 => rw [eb] at h1; exact h1
      | rt a Γ5 => rw [eb] at h1; exact h1
      | exc e Γ5 => rw [eb] at h1; exact h1
end
end G

/-! defs whose promise holds where no repr is under way (so that they may call repr of nested data). The proofs follow HandS.Call's fn_of, run_fn, pe_call and HandS.Ends' law_call. -/
namespace G
open PySem L2 PySem.Spec PyProof.Rows

structure RoomG (k : Nat) (A : Around) : Prop where
  r : Room k A
  g : A.guards = some []
theorem RoomG.mono {j k : Nat} {A : Around} (x : RoomG k A) (h : j ≤ k) : RoomG j A := ⟨x.r.mono h, x.g⟩
theorem hu1 {k : Nat} {A : Around} (x : RoomG k A) : A.units + 1 < cLine := hu_of x.r
structure FnOkG (P : Program) (w : World) (K : PySem.W.Frag) (mg : Str → Option Value) (base : Heap) (CX : CXT) (k : Nat) (f : Addr) (fd : FuncData) (ps : List Str) (sp : Sp) : Prop where
  len : ∀ vs H Q E, sp vs H Q E → vs.length = ps.length
  run : ∀ {A : Around} {outer : List Env} {s : Shared} {H : Hp} {args : Args} {us : List Value} {vs : List V} {Q : VK} {E : XK}, RoomG k A → Env0 P w K mg base A outer s H → BindsTo s fd args (ps.zip us) → Vals vs us → sp vs H Q E →
    codeAny (model P w) A (.call (.ref f) args) (CR CX outer P w H s Q E) s
section
variable {CX : CXT} {P : Program} {w : World} {K : PySem.W.Frag} {mg : Str → Option Value} {base : Heap} {k : Nat}
theorem okG {x qual : Str} {st : Stmt} {f : Addr} {fd : FuncData} {N ps : List Str} {sp : Sp} (F : Fun K x qual st f fd) (S : FnScope N ps (defScope st)) (len : ∀ vs H Q E, sp vs H Q E → vs.length = ps.length)
    (hbody : ∀ (cdv : Value) (A : Around) (outer : List Env) (s : Shared) (H : Hp) (vs : List V) (Q : VK) (E : XK), RoomG k (A.deeper (envOfC qual (defScope st) s.heap.objs.size f cdv)) → sp vs H Q E →
      ∃ t, PSs (cxOf CX P w K mg base N qual (defScope st) f cdv A outer s H E) (defBody st) t ∧ t { nx := fun _ H' => Q .non H', rt := Q } (L2.start N vs) H) : FnOkG P w K mg base CX (k + 1) f fd ps sp := by
  obtain ⟨oc, od, kV, doc, pm, an, cdv, ct, osl, rfl, lk, hcd⟩ := F.ex
  refine ⟨len, fun {A outer s H args us vs Q E} room e0 hb r promise => ?_⟩
  have there : ∀ b o, base.get? b = some o → s.heap.get? b = some o := fun b o e => (e0.bs b o e).1
  have KX : K.In s.heap := e0.mod.kin.keeps there
  have kinds : ∀ y ∈ ps.zip us, (defScope st).names.lookup y.1 = some .local ∨ ((defScope st).names.lookup y.1 = some .cell ∧ ((cellsFrom (s.heap.objs.size + 1) (defScope st).names []).lookup y.1).isSome = true) := fun ⟨n, v⟩ hy =>
    (S.par n (List.of_mem_zip hy).1).imp id fun q => ⟨q, PySem.W.cellsFrom_some _ _ _ (.inl q)⟩
  refine codeAny_call_function room.r.depth (KX _ _ lk) rfl S.co S.gen rfl (PySem.W.codeRec_of KX hcd) (hb _ _ _ _ ?_)
  refine wpAny_newFunctionEnv_cells S.kind kinds fun env he s1 x => ?_
  subst he
  refine ⟨(e0.mod.nolimit.keeps there).keeps x.toInCall.keep, codeAny_func ?_⟩
  obtain ⟨t, ht, q0⟩ := hbody cdv A outer s H vs Q E ⟨room.r.deeper _, room.g⟩ promise
  refine wpAny_mono (ht.run [] s1 (L2.start N vs) H _ (inv_start S room.r.hd e0 (len _ _ _ _ promise) r x) q0) (fun fl s' hs => ?_) fun _ _ h => h
  cases fl with
  | ret u => exact let ⟨v, _, H', J, rv, q⟩ := hs; ⟨v, H', J.os, J.bare, J.base, J.hok, rv, q⟩
  | next => exact let ⟨_, H', J, q⟩ := hs; ⟨V.non, H', J.os, J.bare, J.base, J.hok, (rfl : Value.none = Value.none), q⟩
  | brk => exact let ⟨_, _, _, q⟩ := hs; False.elim q
  | cont => exact let ⟨_, _, _, q⟩ := hs; False.elim q
end
section
variable {X : Cx} {CX : CXT} {k : Nat} {f : Addr} {fd : FuncData} {ps : List Str} {sp : Sp} {dvs : List V} {ds : List Value} {E : XK} {x : Str} {p pos : Pos} {e : Expr} {es : List Expr} {t : TA}
theorem runG {pins : List (Addr × Obj)} {σ : L2.St} {H : Hp} {s : Shared} {Q : VK} {us : List Value} {vs : List V} (F : FnOkG X.prog X.w X.K X.mg X.base CX k f fd ps sp) (room : RoomG k X.A) (hb : Binds X.K fd ps ds) (hd : Vals dvs ds) (hx : Passes CX X E)
    (I : Inv X pins σ H s) (r : Vals vs us) (h : sp (vs ++ dvs) H Q E) : wpAny (model X.prog X.w) X.A (call (.ref f) us) (EP X pins σ Q) X.xe s := by
  have all := r.append hd
  have count : (us ++ ds).length = ps.length := all.length.symm.trans (F.len _ _ _ _ h)
  refine wpAny_call (codeAny_mono (F.run (args := ⟨us, []⟩) room I.env0 (hb s us I.kIn count) all h) fun r s' hq => ?_)
  match r, hq with
  | .error e, hq => exact hx pins σ H s e s' I hq
  | .ok (.ret u), hq => exact I.after hq
  | .ok .next, hq => exact False.elim hq
  | .ok .brk, hq => exact False.elim hq
  | .ok .cont, hq => exact False.elim hq
theorem callG (F : FnOkG X.prog X.w X.K X.mg X.base CX k f fd ps sp) (room : RoomG k X.A) (hg : Gl X x) (hm : X.mg x = some (.ref f)) (hk : PySem.W.keepIn X.K (.ref f) = true) (hb : Binds X.K fd ps ds) (hd : Vals dvs ds) (hx : Passes CX X E)
    (ha : PA X (e :: es) t) (hdb : (x == ("__debug__" : Str)) = false := by decide) (he : starEach (e :: es) X.env = (false, eval e X.env) :: starEach es X.env := by rfl) (hpl : (backTo pos (starEach es X.env)).any (·.1) = false := by rfl) :
    PE X (.Call (.Name x p) (e :: es) [] pos) (tCall sp dvs E t) :=
  ⟨fun pins s σ H Q I h => wpAny_Call_Name_kw (ld_glob I hg hm (PySem.W.callWith_K (h₀ := X.base) I.ok.mod.kin hk (thn (ha.run pos pins s σ H _ I h) fun us s1 ⟨vs, H1, I1, r, q⟩ => ⟨I1.kIn, runG F room hb hd hx I1 r q⟩) he hpl) hdb)⟩
theorem callG0 (F : FnOkG X.prog X.w X.K X.mg X.base CX k f fd ps sp) (room : RoomG k X.A) (hg : Gl X x) (hm : X.mg x = some (.ref f)) (hk : PySem.W.keepIn X.K (.ref f) = true) (hb : Binds X.K fd ps ds) (hd : Vals dvs ds) (hx : Passes CX X E)
    (hdb : (x == ("__debug__" : Str)) = false := by decide) : PE X (.Call (.Name x p) [] [] pos) (tCall sp dvs E tNil) :=
  ⟨fun pins s σ H Q I h => wpAny_Call_Name_kw (ld_glob I hg hm (PySem.W.callWith_K0 I.kIn hk (runG (us := []) F room hb hd hx I .nil h)) hdb)⟩
end

/-! ### the law's end -/
theorem lawG {P : Program} {w : World} {K : PySem.W.Frag} {mg mb : Str → Option Value} {CX : CXT} {k : Nat} {fa a : Addr} {fd : FuncData} {x : Str} {sp : Sp} {s₁ : Shared} {vs : List Value} {ns : List Int}
    (KX : K.In s₁.heap) (hns : s₁.heap.Ns mainGlobals mg) (hb : s₁.heap.Ns builtinsNs mb) (hbb : ∀ x : Str, x ≠ "__name__" → mb x = bootBuiltins x) (hlim : s₁.heap.NoLimit) (hg : s₁.gens = #[])
    (ha : s₁.heap.get? a = some { cls := .type "list", data := .seq vs.toArray }) (hi : IntsAre vs ns) (hl : ns.length ≤ sizeLine) (room : RoomG k callerA)
    (F : ∀ base : Heap, K.In base → base.Ns mainGlobals mg → FnOkG P w K mg base CX k fa fd [x] sp) (hbind : ∀ (s : Shared) (u : Value), BindsTo s fd ⟨[u], []⟩ [(x, u)])
    (hsp : ∀ H : Hp, Only H → SqL K H a (ns.map V.int) → sp [.ref a] H (fun v _ => v = .bl true) fun _ _ _ => False)
    (hCX : ∀ H e s', CX [] H s₁ (fun _ _ _ => False) e s' → False) :
    codeAny (model P w) callerA (.call (.ref fa) ⟨[.ref a], []⟩) (fun r s' => r = .ok (.ret (.bool true)) ∧ OldK s₁.heap s'.heap ∧ s'.os = s₁.os ∧ AllBare s'.gens) s₁ := by
  have rv := vals_ints hi
  -- H tracks nothing but the script
  have core : ∀ H : Hp, Only H → SqL K H a (ns.map V.int) → HOk P w H s₁.heap → (∀ b u, H b = some u → b = a ∧ K.lookup a = none) →
      codeAny (model P w) callerA (.call (.ref fa) ⟨[.ref a], []⟩) (fun r s' => r = .ok (.ret (.bool true)) ∧ OldK s₁.heap s'.heap ∧ s'.os = s₁.os ∧ AllBare s'.gens) s₁ := by
    intro H only hS hok hA
    have names : ∀ {b : Addr} {m : Str → Option Value}, s₁.heap.Ns b m → (hidT s₁.heap H).Ns b m := fun {b m} ⟨o, es, ep, e, d, r⟩ => by
      refine ⟨o, es, ep, hidT_get e ?_, d, r⟩
      cases q : H b with
      | none => rfl
      | some u =>
        rw [(hA b u q).1, ha] at e
        cases e
        exact nomatch (show Data.seq vs.toArray _ = Data.dict es ep from d)
    have hK : K.In (hidT s₁.heap H) := fun b o e => by
      refine hidT_get (KX b o e) ?_
      cases q : H b with
      | none => rfl
      | some u =>
        obtain ⟨rfl, z⟩ := hA b u q
        rw [z] at e
        cases e
    have e0 : Env0 P w K mg (hidT s₁.heap H) callerA [] s₁ H := ⟨rfl, ⟨hK, names hns, ⟨mb, names hb, hbb⟩, let ⟨mc, h1, h2⟩ := hlim; ⟨mc, names h1, h2⟩⟩, fun b o e => of_hidT e, Nat.le_of_eq (hidT_size _ _), trivial, fun b hb => absurd (show b ∈ ([] : List Addr) from hb) (by simp), hok, .of_eq hg⟩
    refine codeAny_mono ((F _ hK (names hns)).run (args := ⟨[.ref a], []⟩) (vs := [.ref a]) (us := [.ref a]) room e0 (hbind s₁ (.ref a)) (.cons rfl .nil) (hsp H only hS)) fun r s' h => ?_
    match r, h with
    | .error e, h => exact (hCX H e s' h).elim
    | .ok .next, h => exact False.elim h
    | .ok .brk, h => exact False.elim h
    | .ok .cont, h => exact False.elim h
    | .ok (.ret u), ⟨v, H', os, bare, un, hok', r', q⟩ =>
      obtain rfl : v = .bl true := q
      obtain rfl : u = Value.bool true := r'
      refine ⟨rfl, OldK.of_keep fun b o e => ?_, os, bare⟩
      rcases only b with z | ⟨ob, xs, z⟩
      · exact un.keep b o e z (fun z => absurd (show b ∈ ([] : List Addr) from z) (by simp)) (by simp)
      · have was := (hok b _ z).1
        rw [e] at was
        cases was
        exact (hok' b _ (un.frzs b _ _ z)).1
  cases known : K.lookup a with
  | some o =>
    have e := KX a o known
    rw [ha] at e
    cases e
    exact core (fun _ => none) (fun _ => .inl rfl) (.inr ⟨_, vs.toArray, _, known, rfl, rfl, rfl, by rw [List.size_toArray, hi.length]; exact hl, by simpa using rv⟩) (fun _ _ z => nomatch z) (fun _ _ z => nomatch z)
  | none =>
    have one : ∀ {b : Addr} {u : HO}, (if b = a then some (HO.frz { cls := .type "list", data := .seq vs.toArray } (.lst (ns.map V.int))) else none) = some u → b = a ∧ u = .frz { cls := .type "list", data := .seq vs.toArray } (.lst (ns.map V.int)) := fun {b u} z => by
      by_cases h : b = a
      · rw [if_pos h] at z; cases z; exact ⟨h, rfl⟩
      · rw [if_neg h] at z; cases z
    refine core (fun b => if b = a then some (.frz { cls := .type "list", data := .seq vs.toArray } (.lst (ns.map V.int))) else none) (fun b => ?_) (.inl (.inr ⟨{ cls := .type "list", data := .seq vs.toArray }, if_pos rfl⟩)) (fun b u z => ?_) (fun b u z => ⟨(one z).1, known⟩)
    · by_cases h : b = a
      · exact .inr ⟨_, _, if_pos h⟩
      · exact .inl (if_neg h)
    · obtain ⟨rfl, rfl⟩ := one z
      exact ⟨ha, by rw [List.length_map]; exact hl, vs, _, rv, ha⟩
theorem walkG {l : PySem.W.OpenLaw} {n k : Nat} {q : Program} {loose : List Str} {XP : (Str → Option Value) → Heap → Prop} {YP : World → Heap → Prop} {d : DefRec} {K : Params → PySem.W.Frag} {CX : World → CXT} {sp : World → Sp} {x : Str}
    (hn : l.most = some n) (hn2 : n ≤ sizeLine) (hdf : d.params.defaults = []) (hr : Room k callerA)
    (hY : ∀ (w : World) (h : Heap), YP w h → (K w.params).In h)
    (F : ∀ (w : World) (mg : Str → Option Value) (fa : Addr) (h : Heap), (K w.params).In h → h.Ns mainGlobals mg → mg d.name = some (.ref fa) →
      ∃ fd : FuncData, (∀ (s : Shared) (u : Value), BindsTo s fd ⟨[u], []⟩ [(x, u)]) ∧
        ∀ base : Heap, (K w.params).In base → base.Ns mainGlobals mg → FnOkG l.prog w (K w.params) mg base (CX w) k fa fd [x] (sp w))
    (hsp : ∀ (w : World) (H : Hp) (a : Addr) (ns : List Int), ns.length ≤ n → Only H → SqL (K w.params) H a (ns.map V.int) → sp w [.ref a] H (fun v _ => v = .bl true) fun _ _ _ => False)
    (hCX : ∀ (w : World) (H : Hp) (s : Shared) (e : Value) (s' : Shared), CX w [] H s (fun _ _ _ => False) e s' → False) :
    PySem.W.WalkO q loose XP YP l.row.toRowW d [] (fun f vs => PySem.call f vs) :=
  Att.attach_call hn hdf fun w s₀ s₁ mg mb fa o pm cd doc a vs ns G Y ho hd hcd hmg hobj hints hlen hg =>
    let ⟨_, hb, hF⟩ := F w mg fa _ (hY w _ Y) G.T.g hmg
    lawG (hY w _ Y) G.T.g G.T.b G.T.builtins G.T.nolimit hg hobj hints (Nat.le_trans hlen hn2) ⟨hr, rfl⟩ hF hb (fun H hO hS => hsp w H a ns hlen hO hS) fun H e s' => hCX w H s₁ e s'
end G

namespace G
open PySem L2

/-! ### what a def is worth: from its arguments to its value, and what becomes of the things handed in to be changed -/
inductive Out where
  | bad | ok (a : AV) (outs : List (Option Ob)) | exc (e : Exn) (outs : List (Option Ob))
structure ArgR (K : PySem.W.Frag) (w : World) (R H : Hp) (I : Nat → Option Addr) (vs : List V) (args : List Sl) : Prop where
  len : vs.length = args.length
  rh : Ex R H
  sh : ∀ (k : Nat) (d : PD), args[k]? = some (.sh d) → ∃ v, vs[k]? = some v ∧ Sh K R v d
  own : ∀ (k : Nat) (t : Option Nat) (o : Ob), args[k]? = some (.own t o) → t = some k ∧ ∃ p, vs[k]? = some (.ref p) ∧ I k = some p ∧ R p = none ∧ ObR K w R H p o
  dis : ∀ (j k : Nat) (p : Addr), I j = some p → I k = some p → j = k
  cov : ∀ (k : Nat) (p : Addr), I k = some p → ∃ t o, args[k]? = some (.own t o)
  nono : ∀ k : Nat, args[k]? ≠ some .no
structure Fin (R H : Hp) (I : Nat → Option Addr) (R' H' : Hp) : Prop where
  ex : Ex R R'
  rh : Ex R' H'
  sep : ∀ a o, H a = some o → R a = none → R' a = none
  frm : ∀ a o, H a = some o → (∀ k, I k ≠ some a) → H' a = some o
  kee : ∀ a, H' a = none → H a = none
def RetV (K : PySem.W.Frag) (w : World) (H R' H' : Hp) (v : V) : AV → Prop
  | .sh d => Sh K R' v d
  | .own o => ∃ p, v = .ref p ∧ H p = none ∧ R' p = none ∧ ObR K w R' H' p o
  | .var _ => False
def OutsR (K : PySem.W.Frag) (w : World) (I : Nat → Option Addr) (R' H' : Hp) (outs : List (Option Ob)) : Prop := ∀ (k : Nat) (o : Ob), outs[k]? = some (some o) → ∃ p, I k = some p ∧ R' p = none ∧ ObR K w R' H' p o
def PostF (K : PySem.W.Frag) (w : World) (R H : Hp) (I : Nat → Option Addr) (Q : VK) : Out → Prop
  | .bad => False
  | .ok a outs => ∀ v R' H', Fin R H I R' H' → RetV K w H R' H' v a → OutsR K w I R' H' outs → Q v H'
  | .exc _ _ => False
/-- the promise of a def that raises nothing -/
def spF (K : PySem.W.Frag) (w : World) (f : List Sl → Out) : Sp := fun vs H Q _ => ∃ (R : Hp) (I : Nat → Option Addr) (args : List Sl), ArgR K w R H I vs args ∧ PostF K w R H I Q (f args)

def outsOf (Γ : Sto) : Nat → List Sl → Option (List (Option Ob))
  | _, [] => some []
  | k, .own _ _ :: r => match Γ[k]? with
    | some (.own (some j) o) => if j = k then (outsOf Γ (k + 1) r).map (some o :: ·) else none
    | _ => none
  | k, _ :: r => (outsOf Γ (k + 1) r).map (none :: ·)
theorem outsOf_get {Γ : Sto} : ∀ {args : List Sl} {k0 : Nat} {outs : List (Option Ob)}, outsOf Γ k0 args = some outs →
    (∀ (k : Nat) (o : Ob), outs[k]? = some (some o) → ∃ t o', args[k]? = some (.own t o') ∧ Γ[k0 + k]? = some (.own (some (k0 + k)) o)) ∧ (∀ (k : Nat) (t : Option Nat) (o : Ob), args[k]? = some (.own t o) → ∃ o', outs[k]? = some (some o')) ∧ outs.length = args.length
  | [], k0, outs, e => by
    cases e
    exact ⟨fun k o h => by simp at h, fun k t o h => by simp at h, rfl⟩
  | s :: r, k0, outs, e => by
    have step : ∀ (x : Option Ob) (q : List (Option Ob)), outsOf Γ (k0 + 1) r = some q → outs = x :: q → (∀ o, x = some o → ∃ t o', s = .own t o' ∧ Γ[k0]? = some (.own (some k0) o)) → (∀ t o, s = .own t o → ∃ o', x = some o') →
        (∀ (k : Nat) (o : Ob), outs[k]? = some (some o) → ∃ t o', (s :: r)[k]? = some (.own t o') ∧ Γ[k0 + k]? = some (.own (some (k0 + k)) o)) ∧ (∀ (k : Nat) (t : Option Nat) (o : Ob), (s :: r)[k]? = some (.own t o) → ∃ o', outs[k]? = some (some o')) ∧ outs.length = (s :: r).length := by
      rintro x q hq rfl h1 h2
      obtain ⟨a, b, c⟩ := outsOf_get hq
      refine ⟨fun k o h => ?_, fun k t o h => ?_, by simp [c]⟩
      · cases k with
        | zero =>
          simp at h
          obtain ⟨t, o', e1, e2⟩ := h1 o h
          exact ⟨t, o', by simp [e1], by simpa using e2⟩
        | succ k =>
          obtain ⟨t, o', e1, e2⟩ := a k o (by simpa using h)
          refine ⟨t, o', by simpa using e1, ?_⟩
          have z : k0 + 1 + k = k0 + (k + 1) := by omega
          rw [z] at e2
          exact e2
      · cases k with
        | zero =>
          simp at h
          obtain ⟨o', e1⟩ := h2 t o h
          exact ⟨o', by simp [e1]⟩
        | succ k =>
          obtain ⟨o', e1⟩ := b k t o (by simpa using h)
          exact ⟨o', by simpa using e1⟩
    cases s with
    | no =>
      unfold outsOf at e
      cases z : outsOf Γ (k0 + 1) r with
      | none => rw [z] at e; cases e
      | some q => rw [z] at e; cases e; exact step none q z rfl (fun o h => nomatch h) (fun t o h => nomatch h)
    | sh d =>
      unfold outsOf at e
      cases z : outsOf Γ (k0 + 1) r with
      | none => rw [z] at e; cases e
      | some q => rw [z] at e; cases e; exact step none q z rfl (fun o h => nomatch h) (fun t o h => nomatch h)
    | own t0 o0 =>
      unfold outsOf at e
      cases g : Γ[k0]? with
      | none => simp only [g] at e; cases e
      | some s =>
        cases s with
        | no => simp only [g] at e; cases e
        | sh d => simp only [g] at e; cases e
        | own t o =>
          cases t with
          | none => simp only [g] at e; cases e
          | some j =>
            simp only [g] at e
            by_cases hj : j = k0
            · subst hj
              rw [if_pos rfl] at e
              cases z : outsOf Γ (j + 1) r with
              | none => rw [z] at e; cases e
              | some q =>
                rw [z] at e; cases e
                exact step (some o) q z rfl (fun o' h => by cases h; exact ⟨t0, o0, rfl, g⟩) fun t' o' _ => ⟨o, rfl⟩
            · rw [if_neg hj] at e; cases e
/-- the value handed back: what it is outside -/
def retA (Γ : Sto) : AV → Option AV
  | .sh d => some (.sh d)
  | .own (.tup ds) => some (.sh (.tuple ds))
  | .own o => some (.own o)
  | .var i => match Γ[i]? with
    | some (.sh d) => some (.sh d)
    | some (.own none o) => some (.own o)
    | _ => none
def endF (args : List Sl) (a : AV) (Γ : Sto) : Out := match retA Γ a, outsOf Γ 0 args with
  | some b, some outs => .ok b outs
  | _, _ => .bad
def fD (n : Nat) (body : Sd) (args : List Sl) : Out := match body (args ++ List.replicate (n - args.length) .no) with
  | .nx Γ => endF args (.sh .none) Γ
  | .rt a Γ => endF args a Γ
  | .exc e Γ => match outsOf Γ 0 args with
    | some outs => .exc e outs
    | none => .bad
  | _ => .bad
def Wx0 : WX := fun _ _ _ _ _ => False
section
variable {K : PySem.W.Frag} {w : World} {F : Fr} {σ : St} {Γ : Sto} {R R' H H' : Hp}
theorem Abs.fin {I : Nat → Option Addr} (A : Abs K w ⟨R, H, I⟩ σ Γ R' H') : Fin R H I R' H' := ⟨A.r0, A.rh, A.sep, A.frm, A.kee⟩
theorem ret_ok {I : Nat → Option Addr} {vs : List V} {args : List Sl} {a b : AV} {outs : List (Option Ob)} {v : V} (hA : ArgR K w R H I vs args) (A : Abs K w ⟨R, H, I⟩ σ Γ R' H') (hv : VR K w ⟨R, H, I⟩ H σ Γ R' H' v a) (hr : retA Γ a = some b) (ho : outsOf Γ 0 args = some outs) :
    ∃ R2, Fin R H I R2 H' ∧ RetV K w H R2 H' v b ∧ OutsR K w I R2 H' outs := by
  have outs' : ∀ {R2 : Hp} {Γ2 : Sto}, Abs K w ⟨R, H, I⟩ σ Γ2 R2 H' → (∀ (k t : Nat) (o : Ob), Γ[k]? = some (Sl.own (some t) o) → Γ2[k]? = some (Sl.own (some t) o)) → OutsR K w I R2 H' outs := fun A2 same k o e => by
    obtain ⟨_, _, _, h2⟩ := (outsOf_get ho).1 k o e
    rw [Nat.zero_add] at h2
    obtain ⟨p, _, rp, tg, ob⟩ := A2.own k _ o (same _ _ _ h2)
    exact ⟨p, tg, rp, ob⟩
  cases a with
  | sh d => cases hr; exact ⟨R', A.fin, hv, outs' A fun _ _ _ h => h⟩
  | own o =>
    obtain ⟨p, rfl, h2, h3, h4, h5, h6⟩ := id hv
    have keep : ∀ o', o = o' → b = .own o' → ∃ R2, Fin R H I R2 H' ∧ RetV K w H R2 H' (.ref p) b ∧ OutsR K w I R2 H' outs := by
      rintro o' rfl rfl
      exact ⟨R', A.fin, ⟨p, rfl, h2, h4, h6⟩, outs' A fun _ _ _ h => h⟩
    cases o with
    | tup ds =>
      cases hr
      obtain ⟨ho', hh⟩ := h6.there
      obtain ⟨A2, S2⟩ := A.share hh h4 h3 h5 (Γb := Γ) (Rb := R') (Hb := fun _ => none) rfl ⟨Evl.Ex.refl _, fun _ _ z _ _ => (nomatch z), fun _ z => z, fun i s g n => ⟨s, g, n⟩, fun _ _ => rfl⟩
      exact ⟨_, A2.fin, h6.toSh (Evl.Ex.new h4) upd_same hh rfl rfl, outs' A2 fun _ _ _ h => h⟩
    | lst ds => cases hr; exact keep _ rfl rfl
    | dic ds => cases hr; exact keep _ rfl rfl
    | set ds => cases hr; exact keep _ rfl rfl
  | var i =>
    obtain ⟨h1, s, h2, h3⟩ := hv
    unfold retA at hr
    simp only [h2] at hr
    cases s with
    | no => cases hr
    | sh d =>
      cases hr
      obtain ⟨v', g, q⟩ := A.sh i d h2
      rw [h1] at g; cases g
      exact ⟨R', A.fin, q, outs' A fun _ _ _ h => h⟩
    | own t o =>
      cases t with
      | some k => cases hr
      | none =>
        cases hr
        obtain ⟨p, g, rp, tg, ob⟩ := A.own i none o h2
        rw [h1] at g; cases g
        exact ⟨R', A.fin, ⟨p, rfl, tg, rp, ob⟩, outs' A fun _ _ _ h => h⟩
theorem abs_start {N : List Str} {vs : List V} {args : List Sl} {I : Nat → Option Addr} (hA : ArgR K w R H I vs args) (hl : vs.length ≤ N.length) : Abs K w ⟨R, H, I⟩ (L2.start N vs) (args ++ List.replicate (N.length - args.length) .no) R H := by
  have hlen := hA.len
  have ga : ∀ {k : Nat} {s : Sl}, s ≠ .no → (args ++ List.replicate (N.length - args.length) Sl.no)[k]? = some s → args[k]? = some s := fun {k s} hn e => by
    by_cases hk : k < args.length
    · rwa [List.getElem?_append_left hk] at e
    · rw [List.getElem?_append_right (by omega)] at e
      rw [List.getElem?_replicate] at e
      split at e
      · cases e; exact absurd rfl hn
      · cases e
  have gv : ∀ {k : Nat} {v : V}, vs[k]? = some v → (L2.start N vs)[k]? = some (some v) := fun {k v} e => by
    unfold L2.start
    have hk : k < vs.length := (List.getElem?_eq_some_iff.mp e).1
    rw [List.getElem?_append_left (by simpa using hk), List.getElem?_map, e]
    rfl
  refine ⟨?_, fun k d e => ?_, fun k t o e => ?_, fun j k t u o q p e1 e2 s1 s2 => ?_, hA.rh, Evl.Ex.refl R, fun _ _ _ h => h, fun _ _ h _ => h, fun _ h => h⟩
  · unfold L2.start
    simp only [List.length_append, List.length_map, List.length_replicate]
    omega
  · obtain ⟨v, h1, h2⟩ := hA.sh k d (ga (by intro z; cases z) e)
    exact ⟨v, gv h1, h2⟩
  · obtain ⟨rfl, p, h1, h2, h3, h4⟩ := hA.own k t o (ga (by intro z; cases z) e)
    exact ⟨p, gv h1, h3, h2, h4⟩
  · obtain ⟨_, p1, h1, h2, _⟩ := hA.own j t o (ga (by intro z; cases z) e1)
    obtain ⟨_, p2, h3, h4, _⟩ := hA.own k u q (ga (by intro z; cases z) e2)
    rw [gv h1] at s1; cases s1
    rw [gv h3] at s2; cases s2
    exact hA.dis j k _ h2 h4
end
section
variable {P : Program} {w : World} {K : PySem.W.Frag} {mg : Str → Option Value} {base : Heap}
/-- THE RULE for a def that raises nothing -/
theorem fn0 {x qual : Str} {st : Stmt} {f : Addr} {fd : FuncData} {N ps : List Str} {k : Nat} (F : Fun K x qual st f fd) (S : FnScope N ps (defScope st)) (body : Sd) (hl : ps.length ≤ N.length)
    (hb : ∀ (cdv : Value) (A : Around) (outer : List Env) (s : Shared) (H : Hp) (E : XK), RoomG k (A.deeper (PyProof.Rows.envOfC qual (defScope st) s.heap.objs.size f cdv)) → SSx (cxOf CX0 P w K mg base N qual (defScope st) f cdv A outer s H E).nox Wx0 (defBody st) body) :
    FnOkG P w K mg base CX0 (k + 1) f fd ps (fun vs H Q E => vs.length = ps.length ∧ spF K w (fD N.length body) vs H Q E) := by
  refine okG F S (fun vs H Q E h => h.1) (fun cdv A outer s H vs Q E hr h => ?_)
  obtain ⟨hlen, R, I, args, hA, h⟩ := h
  refine ⟨_, (hb cdv A outer s H E hr ⟨R, H, I⟩).nox, args ++ List.replicate (N.length - args.length) Sl.no, R, (show Abs K w ⟨R, H, I⟩ (L2.start N vs) _ R H from abs_start (N := N) hA (by omega)), ?_⟩
  show PostS K w ⟨R, H, I⟩ Wx0 _ _
  unfold fD at h
  have fin : ∀ (a : AV) (Γ : Sto), PostF K w R H I Q (endF args a Γ) → ∀ σ v R' H', Abs K w ⟨R, H, I⟩ σ Γ R' H' → VR K w ⟨R, H, I⟩ H σ Γ R' H' v a → Q v H' := fun a Γ h σ v R' H' A hv => by
    unfold endF at h
    cases e1 : retA Γ a with
    | none => simp only [e1] at h; exact h.elim
    | some b =>
      cases e2 : outsOf Γ 0 args with
      | none => simp only [e1, e2] at h; exact h.elim
      | some outs =>
        simp only [e1, e2] at h
        obtain ⟨R2, f2, r2, o2⟩ := ret_ok hA A hv e1 e2
        exact h v R2 H' f2 r2 o2
  cases e : body (args ++ List.replicate (N.length - args.length) .no) with
  | bad => rw [e] at h; exact h.elim
  | nx Γ => rw [e] at h; exact fun σ R' H' A => fin (.sh .none) Γ h σ .non R' H' A .non
  | rt a Γ => rw [e] at h; exact fun σ v R' H' A hv => fin a Γ h σ v R' H' A hv
  | bk Γ => rw [e] at h; exact h.elim
  | ct Γ => rw [e] at h; exact h.elim
  | exc x Γ =>
    rw [e] at h
    simp only at h
    cases e2 : outsOf Γ 0 args with
    | none => rw [e2] at h; exact h.elim
    | some outs => rw [e2] at h; exact h.elim
end

/-! ### calls -/
def mkArgs (Γ : Sto) : Nat → List AV → Option (List Sl)
  | _, [] => some []
  | k, .sh d :: r => (mkArgs Γ (k + 1) r).map (.sh d :: ·)
  | k, .var i :: r => match Γ[i]? with
    | some (.own _ o) => (mkArgs Γ (k + 1) r).map (.own (some k) o :: ·)
    | _ => none
  | _, .own _ :: _ => none
def ndV : List AV → List Nat → Bool
  | [], _ => true
  | .var i :: r, l => !l.contains i && ndV r (i :: l)
  | _ :: r, l => ndV r l
def setOb (Γ : Sto) (i : Nat) (o : Ob) : Sto := match Γ[i]? with
  | some (.own t _) => Γ.set i (.own t o)
  | _ => Γ
def putO : List AV → List (Option Ob) → Sto → Sto
  | .var i :: as, some o :: os, Γ => putO as os (setOb Γ i o)
  | _ :: as, _ :: os, Γ => putO as os Γ
  | _, _, Γ => Γ
def callD (f : List Sl → Out) (fa : Sto → Res (List AV)) : Ev := fun Γ => (fa Γ).bind fun as Γ1 => if ndV as [] then (match mkArgs Γ1 0 as with
  | none => .bad
  | some args => match f args with
    | .ok a outs => .ok a (putO as outs Γ1)
    | _ => .bad) else .bad
theorem mkArgs_get {Γ : Sto} : ∀ {as : List AV} {k0 : Nat} {args : List Sl}, mkArgs Γ k0 as = some args → args.length = as.length ∧
    ∀ (k : Nat) (s : Sl), args[k]? = some s → (∃ d, s = .sh d ∧ as[k]? = some (.sh d)) ∨ ∃ i t o, s = .own (some (k0 + k)) o ∧ as[k]? = some (AV.var i) ∧ Γ[i]? = some (Sl.own t o)
  | [], k0, args, e => by cases e; exact ⟨rfl, fun k s h => by simp at h⟩
  | a :: r, k0, args, e => by
    have step : ∀ (s : Sl) (q : List Sl), mkArgs Γ (k0 + 1) r = some q → args = s :: q → ((∃ d, s = .sh d ∧ a = .sh d) ∨ ∃ i t o, s = .own (some k0) o ∧ a = .var i ∧ Γ[i]? = some (Sl.own t o)) →
        args.length = (a :: r).length ∧ ∀ (k : Nat) (s : Sl), args[k]? = some s → (∃ d, s = .sh d ∧ (a :: r)[k]? = some (.sh d)) ∨ ∃ i t o, s = .own (some (k0 + k)) o ∧ (a :: r)[k]? = some (AV.var i) ∧ Γ[i]? = some (Sl.own t o) := by
      rintro s q hq rfl h
      obtain ⟨l, g⟩ := mkArgs_get hq
      refine ⟨by simp [l], fun k s' e => ?_⟩
      cases k with
      | zero =>
        simp at e; subst e
        rcases h with ⟨d, e1, e2⟩ | ⟨i, t, o, e1, e2, e3⟩
        · exact .inl ⟨d, e1, by simp [e2]⟩
        · exact .inr ⟨i, t, o, by simpa using e1, by simp [e2], e3⟩
      | succ k =>
        rcases g k s' (by simpa using e) with ⟨d, e1, e2⟩ | ⟨i, t, o, e1, e2, e3⟩
        · exact .inl ⟨d, e1, by simpa using e2⟩
        · refine .inr ⟨i, t, o, ?_, by simpa using e2, e3⟩
          have z : k0 + 1 + k = k0 + (k + 1) := by omega
          rw [z] at e1
          exact e1
    cases a with
    | sh d =>
      unfold mkArgs at e
      cases z : mkArgs Γ (k0 + 1) r with
      | none => rw [z] at e; cases e
      | some q => rw [z] at e; cases e; exact step _ q z rfl (.inl ⟨d, rfl, rfl⟩)
    | own o => cases e
    | var i =>
      unfold mkArgs at e
      cases g : Γ[i]? with
      | none => simp only [g] at e; cases e
      | some s =>
        cases s with
        | no => simp only [g] at e; cases e
        | sh d => simp only [g] at e; cases e
        | own t o =>
          simp only [g] at e
          cases z : mkArgs Γ (k0 + 1) r with
          | none => rw [z] at e; cases e
          | some q => rw [z] at e; cases e; exact step _ q z rfl (.inr ⟨i, t, o, rfl, rfl, g⟩)
theorem ndV_get : ∀ {as : List AV} {l : List Nat}, ndV as l = true → (∀ (k i : Nat), as[k]? = some (AV.var i) → i ∉ l) ∧ ∀ (j k i : Nat), as[j]? = some (AV.var i) → as[k]? = some (AV.var i) → j = k
  | [], l, _ => ⟨fun k i h => by simp at h, fun j k i h => by simp at h⟩
  | a :: r, l, h => by
    have plain : ndV r l = true → (∀ i, a ≠ .var i) → (∀ (k i : Nat), (a :: r)[k]? = some (AV.var i) → i ∉ l) ∧ ∀ (j k i : Nat), (a :: r)[j]? = some (AV.var i) → (a :: r)[k]? = some (AV.var i) → j = k := fun h hn => by
      obtain ⟨h1, h2⟩ := ndV_get h
      refine ⟨fun k i e => ?_, fun j k i e1 e2 => ?_⟩
      · cases k with
        | zero => simp at e; exact absurd e (hn i)
        | succ k => exact h1 k i (by simpa using e)
      · cases j with
        | zero => simp at e1; exact absurd e1 (hn i)
        | succ j =>
          cases k with
          | zero => simp at e2; exact absurd e2 (hn i)
          | succ k => exact congrArg (· + 1) (h2 j k i (by simpa using e1) (by simpa using e2))
    cases a with
    | sh d => exact plain h fun i z => by cases z
    | own o => exact plain h fun i z => by cases z
    | var i0 =>
      have h : (!l.contains i0 && ndV r (i0 :: l)) = true := h
      rw [Bool.and_eq_true] at h
      obtain ⟨h1, h2⟩ := ndV_get h.2
      have n0 : i0 ∉ l := by simpa using h.1
      refine ⟨fun k i e => ?_, fun j k i e1 e2 => ?_⟩
      · cases k with
        | zero => simp at e; subst e; exact n0
        | succ k => exact fun z => h1 k i (by simpa using e) (List.mem_cons_of_mem _ z)
      · cases j with
        | zero =>
          simp at e1; subst e1
          cases k with
          | zero => rfl
          | succ k => exact absurd List.mem_cons_self (h1 k i0 (by simpa using e2))
        | succ j =>
          cases k with
          | zero => simp at e2; subst e2; exact absurd List.mem_cons_self (h1 j i0 (by simpa using e1))
          | succ k => exact congrArg (· + 1) (h2 j k i (by simpa using e1) (by simpa using e2))
theorem setOb_get {Γ : Sto} {i j : Nat} {o : Ob} {s : Sl} (h : (setOb Γ i o)[j]? = some s) : (i = j ∧ ∃ t o0, Γ[j]? = some (Sl.own t o0) ∧ s = Sl.own t o) ∨ (Γ[j]? = some s ∧ (i = j → ∀ t o0, Γ[j]? ≠ some (Sl.own t o0))) := by
  unfold setOb at h
  cases g : Γ[i]? with
  | none =>
    simp only [g] at h
    exact .inr ⟨h, fun e t o0 z => by subst e; rw [g] at z; cases z⟩
  | some x =>
    cases x with
    | no => simp only [g] at h; exact .inr ⟨h, fun e t o0 z => by subst e; rw [g] at z; cases z⟩
    | sh d => simp only [g] at h; exact .inr ⟨h, fun e t o0 z => by subst e; rw [g] at z; cases z⟩
    | own t o0 =>
      simp only [g] at h
      rcases get_set h with ⟨rfl, rfl⟩ | ⟨ne, h⟩
      · exact .inl ⟨rfl, t, o0, g, rfl⟩
      · exact .inr ⟨h, fun e => absurd e ne⟩
theorem putO_get : ∀ {as : List AV} {outs : List (Option Ob)} {Γ : Sto} {i : Nat} {s : Sl}, (putO as outs Γ)[i]? = some s →
    (∃ (k : Nat) (t : Option Nat) (o o0 : Ob), as[k]? = some (AV.var i) ∧ outs[k]? = some (some o) ∧ Γ[i]? = some (Sl.own t o0) ∧ s = Sl.own t o) ∨ (Γ[i]? = some s ∧ ∀ (k : Nat) (o : Ob) (t : Option Nat) (o0 : Ob), as[k]? = some (AV.var i) → outs[k]? = some (some o) → Γ[i]? ≠ some (Sl.own t o0))
  | [], outs, Γ, i, s, h => by
    have h : Γ[i]? = some s := by cases outs <;> exact h
    exact .inr ⟨h, fun k o t o0 e => by simp at e⟩
  | a :: as, [], Γ, i, s, h => by
    have h : Γ[i]? = some s := by cases a <;> exact h
    exact .inr ⟨h, fun k o t o0 _ e => by simp at e⟩
  | a :: as, x :: os, Γ, i, s, h => by
    have skip : (putO as os Γ)[i]? = some s → (∀ j o, a = .var j → x ≠ some o) → (∃ (k : Nat) (t : Option Nat) (o o0 : Ob), (a :: as)[k]? = some (AV.var i) ∧ (x :: os)[k]? = some (some o) ∧ Γ[i]? = some (Sl.own t o0) ∧ s = Sl.own t o) ∨ (Γ[i]? = some s ∧ ∀ (k : Nat) (o : Ob) (t : Option Nat) (o0 : Ob), (a :: as)[k]? = some (AV.var i) → (x :: os)[k]? = some (some o) → Γ[i]? ≠ some (Sl.own t o0)) := fun h hn => by
      rcases putO_get h with ⟨k, t, o, o0, e1, e2, e3, e4⟩ | ⟨e1, e2⟩
      · exact .inl ⟨k + 1, t, o, o0, by simpa using e1, by simpa using e2, e3, e4⟩
      · refine .inr ⟨e1, fun k o t o0 z1 z2 => ?_⟩
        cases k with
        | zero => simp at z1 z2; exact absurd z2 (hn i o z1)
        | succ k => exact e2 k o t o0 (by simpa using z1) (by simpa using z2)
    cases a with
    | sh d => exact skip (by cases x <;> exact h) fun j o z => nomatch z
    | own q => exact skip (by cases x <;> exact h) fun j o z => nomatch z
    | var j =>
      cases x with
      | none => exact skip h fun _ _ _ z => nomatch z
      | some ob =>
        have h : (putO as os (setOb Γ j ob))[i]? = some s := h
        rcases putO_get h with ⟨k, t, o, o0, e1, e2, e3, e4⟩ | ⟨e1, e2⟩
        · rcases setOb_get e3 with ⟨_, t', o1, g, z⟩ | ⟨g, _⟩
          · cases z; exact .inl ⟨k + 1, t, o, o1, by simpa using e1, by simpa using e2, g, e4⟩
          · exact .inl ⟨k + 1, t, o, o0, by simpa using e1, by simpa using e2, g, e4⟩
        · rcases setOb_get e1 with ⟨rfl, t, o0, g, rfl⟩ | ⟨g, hn⟩
          · exact .inl ⟨0, t, ob, o0, rfl, rfl, g, rfl⟩
          · refine .inr ⟨g, fun k o t o0 z1 z2 => ?_⟩
            cases k with
            | zero =>
              simp at z1
              exact hn z1 t o0
            | succ k =>
              intro gz
              by_cases hj : j = i
              · exact hn hj t o0 gz
              · refine e2 k o t o0 (by simpa using z1) (by simpa using z2) ?_
                unfold setOb
                split
                · rw [List.getElem?_set_ne hj]; exact gz
                · exact gz
theorem putO_len : ∀ (as : List AV) (outs : List (Option Ob)) (Γ : Sto), (putO as outs Γ).length = Γ.length
  | [], outs, Γ => by cases outs <;> rfl
  | a :: as, [], Γ => by cases a <;> rfl
  | a :: as, x :: os, Γ => by
    cases a with
    | sh d => cases x <;> exact putO_len as os Γ
    | own q => cases x <;> exact putO_len as os Γ
    | var j =>
      cases x with
      | none => exact putO_len as os Γ
      | some ob =>
        refine (putO_len as os (setOb Γ j ob)).trans ?_
        unfold setOb
        split
        · exact List.length_set ..
        · rfl
section
variable {K : PySem.W.Frag} {w : World} {F : Fr} {Wx : WX} {σ : St} {Γ Γ1 Γ2 : Sto} {R R1 R2 H H1 H2 Hb : Hp}
/-- where the i-th argument's thing stands -/
def inA (σ : St) (as : List AV) (k : Nat) : Option Addr := match as[k]? with
  | some (.var i) => match σ[i]? with
    | some (some (.ref p)) => some p
    | _ => none
  | _ => none
theorem inA_var {as : List AV} {k : Nat} {p : Addr} (h : inA σ as k = some p) : ∃ i, as[k]? = some (AV.var i) ∧ σ[i]? = some (some (V.ref p)) := by
  unfold inA at h
  cases e : as[k]? with
  | none => simp only [e] at h; cases h
  | some a =>
    cases a with
    | sh d => simp only [e] at h; cases h
    | own o => simp only [e] at h; cases h
    | var i =>
      simp only [e] at h
      cases g : σ[i]? with
      | none => simp only [g] at h; cases h
      | some x =>
        cases x with
        | none => simp only [g] at h; cases h
        | some v =>
          cases v with
          | ref q => simp only [g] at h; cases h; exact ⟨i, rfl, g⟩
          | _ => simp only [g] at h; cases h
theorem argR_of (A : Abs K w F σ Γ R H) {vs : List V} {as : List AV} {args : List Sl} (hvs : ArgsV K σ Γ R vs as) (hm : mkArgs Γ 0 as = some args) (hn : ndV as [] = true) : ArgR K w R H (inA σ as) vs args := by
  obtain ⟨hl, hg⟩ := mkArgs_get hm
  have own : ∀ {i : Nat} {t : Option Nat} {o : Ob}, Γ[i]? = some (Sl.own t o) → ∃ p, σ[i]? = some (some (V.ref p)) ∧ R p = none ∧ ObR K w R H p o := fun h => by
    obtain ⟨p, h1, h2, _, h3⟩ := A.own _ _ _ h
    exact ⟨p, h1, h2, h3⟩
  refine ⟨hvs.length.trans hl.symm, A.rh, fun k d e => ?_, fun k t o e => ?_, fun j k p e1 e2 => ?_, fun k p e => ?_, fun k e => ?_⟩
  · rcases hg k _ e with ⟨d', z, h1⟩ | ⟨i, t, o, z, _⟩
    · cases z
      obtain ⟨v, g1, g2⟩ := hvs.get h1
      exact ⟨v, g1, g2⟩
    · cases z
  · rcases hg k _ e with ⟨d', z, _⟩ | ⟨i, t', o', z, h1, h2⟩
    · cases z
    · cases z
      rw [Nat.zero_add]
      obtain ⟨p, g1, g2, g3⟩ := own h2
      obtain ⟨v, g4, g5, _⟩ := hvs.get h1
      rw [g1] at g5; cases g5
      refine ⟨rfl, p, g4, ?_, g2, g3⟩
      unfold inA
      simp only [h1, g1]
  · obtain ⟨i, h1, h2⟩ := inA_var e1
    obtain ⟨i', h3, h4⟩ := inA_var e2
    have hk : ∀ {k i : Nat}, as[k]? = some (AV.var i) → ∃ t o, Γ[i]? = some (Sl.own t o) := fun {k i} h => by
      have hk : k < args.length := by rw [hl]; exact (List.getElem?_eq_some_iff.mp h).1
      rcases hg k _ (List.getElem?_eq_getElem hk) with ⟨d, _, z⟩ | ⟨i', t, o, _, z, g⟩
      · rw [h] at z; cases z
      · rw [h] at z; cases z; exact ⟨t, o, g⟩
    obtain ⟨t1, o1, g1⟩ := hk h1
    obtain ⟨t2, o2, g2⟩ := hk h3
    have e : i = i' := A.dis i i' t1 t2 o1 o2 p g1 g2 h2 h4
    subst e
    exact (ndV_get hn).2 j k i h1 h3
  · obtain ⟨i, h1, h2⟩ := inA_var e
    have hk : k < args.length := by rw [hl]; exact (List.getElem?_eq_some_iff.mp h1).1
    rcases hg k _ (List.getElem?_eq_getElem hk) with ⟨d, _, z⟩ | ⟨i', t, o, z, _⟩
    · rw [h1] at z; cases z
    · exact ⟨_, o, (List.getElem?_eq_getElem hk).trans (congrArg some z)⟩
  · rcases hg k _ e with ⟨d, z, _⟩ | ⟨i, t, o, z, _⟩ <;> cases z
/-- behind the call -/
theorem abs_after (A : Abs K w F σ Γ R H) {as : List AV} {args : List Sl} {outs : List (Option Ob)} (hm : mkArgs Γ 0 as = some args) (f : Fin R H (inA σ as) R1 H1) (ho : OutsR K w (inA σ as) R1 H1 outs) (hc : ∀ (k : Nat) (t : Option Nat) (o : Ob), args[k]? = some (Sl.own t o) → ∃ o', outs[k]? = some (some o')) :
    Abs K w F σ (putO as outs Γ) R1 H1 ∧ Step σ Γ R H (putO as outs Γ) R1 H1 := by
  obtain ⟨hl, hg⟩ := mkArgs_get hm
  have own : ∀ {i : Nat} {t : Option Nat} {o : Ob}, (putO as outs Γ)[i]? = some (Sl.own t o) → ∃ o0, Γ[i]? = some (Sl.own t o0) := fun h => by
    rcases putO_get h with ⟨k, t', o', o0, _, _, g, z⟩ | ⟨g, _⟩
    · cases z; exact ⟨o0, g⟩
    · exact ⟨_, g⟩
  have inOwn : ∀ a, (∃ k, inA σ as k = some a) → Own σ Γ a := fun a ⟨k, e⟩ => by
    obtain ⟨i, h1, h2⟩ := inA_var e
    have hk : k < args.length := by rw [hl]; exact (List.getElem?_eq_some_iff.mp h1).1
    rcases hg k _ (List.getElem?_eq_getElem hk) with ⟨d, _, z⟩ | ⟨i', t, o, _, z, g⟩
    · rw [h1] at z; cases z
    · rw [h1] at z; cases z; exact ⟨i, t, o, g, h2⟩
  refine ⟨⟨(putO_len as outs Γ).trans A.len, fun i d e => ?_, fun i t o e => ?_, fun i j t u o q p e1 e2 s1 s2 => ?_, f.rh, Evl.Ex.trans A.r0 f.ex, fun a o h r => ?_, fun a o h n => ?_, fun a h => A.kee a (f.kee a h)⟩, ⟨f.ex, fun a o h r n => ⟨f.frm a o h fun k e => n (inOwn a ⟨k, e⟩), f.sep a o h r⟩, fun a ⟨i, t, o, e, s⟩ => ?_, fun i s e n => ?_, f.kee⟩⟩
  · rcases putO_get e with ⟨k, t', o', o0, _, _, g, z⟩ | ⟨g, _⟩
    · cases z
    · obtain ⟨v, h1, h2⟩ := A.sh i d g
      exact ⟨v, h1, h2.mono f.ex⟩
  · rcases putO_get e with ⟨k, t', o', o0, h1, h2, g, z⟩ | ⟨g, hn⟩
    · cases z
      obtain ⟨p, g1, g2, g3, g4⟩ := A.own i t o0 g
      obtain ⟨q, q1, q2, q3⟩ := ho k o h2
      obtain ⟨i', z1, z2⟩ := inA_var q1
      rw [h1] at z1; cases z1
      rw [g1] at z2; cases z2
      exact ⟨p, g1, q2, g3, q3⟩
    · obtain ⟨p, g1, g2, g3, g4⟩ := A.own i t o g
      obtain ⟨x, hx⟩ := g4.there
      refine ⟨p, g1, f.sep p x hx g2, g3, g4.monoR f.ex fun y hy => f.frm p y hy fun k e => ?_⟩
      obtain ⟨i', z1, z2⟩ := inA_var e
      have hk : k < args.length := by rw [hl]; exact (List.getElem?_eq_some_iff.mp z1).1
      rcases hg k _ (List.getElem?_eq_getElem hk) with ⟨d, _, z⟩ | ⟨i2, t2, o2, zz, z, gg⟩
      · rw [z1] at z; cases z
      · rw [z1] at z; cases z
        have e2 : i = i' := A.dis i i' t t2 o o2 p g gg g1 z2
        subst e2
        obtain ⟨o', ho'⟩ := hc k (some (0 + k)) o2 ((List.getElem?_eq_getElem hk).trans (congrArg some zz))
        exact hn k o' t o z1 ho' g
  · obtain ⟨_, g1⟩ := own e1
    obtain ⟨_, g2⟩ := own e2
    exact A.dis i j t u _ _ p g1 g2 s1 s2
  · have h1 := A.sep a o h r
    cases hH : H a with
    | none =>
      have := A.kee a hH
      rw [this] at h; cases h
    | some o' => exact f.sep a o' hH h1
  · refine f.frm a o (A.frm a o h n) fun k e => ?_
    obtain ⟨i, t, o', g, s⟩ := inOwn a ⟨k, e⟩
    obtain ⟨p, g1, _, g3, _⟩ := A.own i t o' g
    rw [s] at g1; cases g1
    cases t with
    | none => have z : F.H0 a = none := g3
              rw [z] at h; cases h
    | some j => exact n j g3
  · obtain ⟨o0, g⟩ := own e
    exact ⟨i, t, o0, g, s⟩
  · cases e2 : (putO as outs Γ)[i]? with
    | none =>
      have h1 := (List.getElem?_eq_none_iff.mp e2)
      rw [putO_len] at h1
      rw [List.getElem?_eq_none h1] at e
      cases e
    | some s' =>
      refine ⟨s', rfl, ?_⟩
      rcases putO_get e2 with ⟨k, t', o', o0, _, _, g, rfl⟩ | ⟨g, _⟩
      · intro z; cases z
      · rw [g] at e; cases e; exact n
end
theorem endF_outs {args : List Sl} {a b : AV} {Γ : Sto} {outs : List (Option Ob)} (h : endF args a Γ = .ok b outs) : outsOf Γ 0 args = some outs := by
  unfold endF at h
  cases e1 : retA Γ a with
  | none => simp only [e1] at h; cases h
  | some b' =>
    cases e2 : outsOf Γ 0 args with
    | none => simp only [e1, e2] at h; cases h
    | some o => simp only [e1, e2] at h; cases h; rfl
theorem fD_outs {n : Nat} {body : Sd} {args : List Sl} {a : AV} {outs : List (Option Ob)} (h : fD n body args = .ok a outs) : ∀ (k : Nat) (t : Option Nat) (o : Ob), args[k]? = some (Sl.own t o) → ∃ o', outs[k]? = some (some o') := by
  unfold fD at h
  cases e : body (args ++ List.replicate (n - args.length) .no) with
  | bad => rw [e] at h; cases h
  | nx Γ => rw [e] at h; exact (outsOf_get (endF_outs h)).2.1
  | rt b Γ => rw [e] at h; exact (outsOf_get (endF_outs h)).2.1
  | bk Γ => rw [e] at h; cases h
  | ct Γ => rw [e] at h; cases h
  | exc x Γ =>
    rw [e] at h
    simp only at h
    cases e2 : outsOf Γ 0 args with
    | none => rw [e2] at h; cases h
    | some o => rw [e2] at h; cases h
section
variable {X : Cx} {Wx : WX} {fa : Sto → Res (List AV)} {pos : Pos}
/-- the call of a def that raises nothing, with its arguments given by position -/
theorem v_call {call : Expr} {es : List Expr} {n m : Nat} {body : Sd} {f : List Sl → Out} (hf : f = fD n body) (hc : ∀ {t : TA}, PA X es t → PE X call (tCall (fun vs H Q E => vs.length = m ∧ spF X.K X.w f vs H Q E) [] E0 t)) (hm : es.length = m) (ha : Ax X Wx es fa)
    (hla : ∀ Γ as Γ1, fa Γ = .ok as Γ1 → as.length = es.length) : Vx X Wx call (callD f fa) := fun F => (hc (ha F)).mono fun σ H Q h => by
  subst hf
  obtain ⟨Γ, R, A, h⟩ := h
  refine ⟨Γ, R, A, ?_⟩
  unfold callD at h
  cases ef : fa Γ with
  | bad => rw [ef] at h; exact h.elim
  | exc e Γ1 => rw [ef] at h; exact h
  | ok as Γ1 =>
    have hlen := hla _ _ _ ef
    rw [ef] at h
    simp only [Res.bind] at h
    intro R1 H1 A1 S1 vs hvs
    cases hn : ndV as [] with
    | false => rw [hn] at h; exact h.elim
    | true =>
      rw [hn] at h
      simp only [if_true] at h
      cases hm' : mkArgs Γ1 0 as with
      | none => simp only [hm'] at h; exact h.elim
      | some args =>
        simp only [hm'] at h
        refine ⟨by rw [List.append_nil, hvs.length, hlen, hm], ?_⟩
        refine ⟨R1, inA σ as, args, by rw [List.append_nil]; exact argR_of A1 hvs hm' hn, ?_⟩
        cases eo : fD n body args with
        | bad => simp only [eo] at h; exact h.elim
        | exc e o => simp only [eo] at h; exact h.elim
        | ok a outs =>
          simp only [eo] at h
          intro v R' H' f r o
          obtain ⟨A2, S2⟩ := abs_after A1 hm' f o (fD_outs eo)
          refine h.at A2 (S1.trans S2) v ?_
          cases a with
          | sh d => exact r
          | own ob =>
            obtain ⟨p, rfl, h1, h2, h3⟩ := r
            refine ⟨p, rfl, S1.kee p h1, A1.fresh0 h1, h2, fun q => ?_, h3⟩
            exact A1.notOwn h1 (S2.own p q)
          | var i => exact r.elim
/-- without arguments -/
theorem v_call0 {call : Expr} {n : Nat} {body : Sd} {f : List Sl → Out} (hf : f = fD n body) (hc : PE X call (tCall (fun vs H Q E => vs.length = 0 ∧ spF X.K X.w f vs H Q E) [] E0 tNil)) : Vx X Wx call (callD f args0) := fun F => hc.mono fun σ H Q h => by
  subst hf
  obtain ⟨Γ, R, A, h⟩ := h
  have h : Post X.K X.w F Wx σ Γ R H _ (match fD n body [] with
    | .ok a outs => .ok a (putO [] outs Γ)
    | _ => .bad) := h
  refine ⟨rfl, R, inA σ [], [], argR_of A (vs := []) (as := []) trivial rfl rfl, ?_⟩
  cases eo : fD n body [] with
  | bad => rw [eo] at h; exact h.elim
  | exc e o => rw [eo] at h; exact h.elim
  | ok a outs =>
    rw [eo] at h
    intro v R' H' f r o
    obtain ⟨A2, S2⟩ := abs_after A (as := []) rfl f o (fD_outs eo)
    refine h.at A2 S2 v ?_
    cases a with
    | sh d => exact r
    | own ob =>
      obtain ⟨p, rfl, h1, h2, h3⟩ := r
      exact ⟨p, rfl, h1, A.fresh0 h1, h2, fun q => A.notOwn h1 (S2.own p q), h3⟩
    | var i => exact r.elim
theorem la0 : ∀ Γ as Γ1, args0 Γ = .ok as Γ1 → as.length = 0 := fun Γ as Γ1 h => by cases h; rfl
theorem laS {f : Ev} {g : Sto → Res (List AV)} {n : Nat} (h : ∀ Γ as Γ1, g Γ = .ok as Γ1 → as.length = n) : ∀ Γ as Γ1, argS f g Γ = .ok as Γ1 → as.length = n + 1 := fun Γ as Γ1 e => by
  unfold argS at e
  cases e1 : shr f Γ with
  | bad => rw [e1] at e; cases e
  | exc x Γ2 => rw [e1] at e; cases e
  | ok d Γ2 =>
    rw [e1] at e
    simp only [Res.bind] at e
    cases e2 : g Γ2 with
    | bad => rw [e2] at e; cases e
    | exc x Γ3 => rw [e2] at e; cases e
    | ok as' Γ3 => rw [e2] at e; cases e; exact congrArg (· + 1) (h _ _ _ e2)
theorem laO {i : Nat} {g : Sto → Res (List AV)} {n : Nat} (h : ∀ Γ as Γ1, g Γ = .ok as Γ1 → as.length = n) : ∀ Γ as Γ1, argO i g Γ = .ok as Γ1 → as.length = n + 1 := fun Γ as Γ1 e => by
  unfold argO at e
  cases e1 : Γ[i]? with
  | none => simp only [e1] at e; cases e
  | some s =>
    cases s with
    | no => simp only [e1] at e; cases e
    | sh d => simp only [e1] at e; cases e
    | own t o =>
      simp only [e1] at e
      cases e2 : g Γ with
      | bad => rw [e2] at e; cases e
      | exc x Γ3 => rw [e2] at e; cases e
      | ok as' Γ3 => rw [e2] at e; cases e; exact congrArg (· + 1) (h _ _ _ e2)
end
end G

namespace G
open PySem L2

/-! ### slots forgotten for a while -/
def wipeG (Γ : Sto) : List Nat → Sto
  | [] => Γ
  | v :: vs => (wipeG Γ vs).set v .no
def rst (Γ1 Γe : Sto) : List Nat → Sto
  | [] => Γe
  | v :: vs => match Γ1[v]? with
    | some s => (rst Γ1 Γe vs).set v s
    | none => rst Γ1 Γe vs
def noOwnAt (Γ : Sto) (vs : List Nat) : Bool := vs.all fun i => match Γ[i]? with
  | some (.own _ _) => false
  | _ => true
theorem set_map_get {α : Type} (l : List α) (v i : Nat) (x : α) : (l.set v x)[i]? = if i = v then (l[i]?).map (fun _ => x) else l[i]? := by
  by_cases h : i = v
  · subst h
    rw [if_pos rfl]
    by_cases hi : i < l.length
    · rw [List.getElem?_set_self hi, List.getElem?_eq_getElem hi]; rfl
    · rw [List.getElem?_eq_none (by simpa using hi), List.getElem?_eq_none (by omega)]; rfl
  · rw [if_neg h, List.getElem?_set_ne (Ne.symm h)]
theorem wipe_get (σ : St) (i : Nat) : ∀ vs : List Nat, (L2.wipe σ vs)[i]? = if i ∈ vs then (σ[i]?).map (fun _ => none) else σ[i]?
  | [] => by simp [L2.wipe]
  | v :: vs => by
    unfold L2.wipe
    rw [set_map_get, wipe_get σ i vs]
    by_cases h : i = v
    · subst h
      rw [if_pos rfl, if_pos List.mem_cons_self]
      split
      · rw [Option.map_map]; rfl
      · rfl
    · rw [if_neg h]
      by_cases h2 : i ∈ vs
      · rw [if_pos h2, if_pos (List.mem_cons_of_mem _ h2)]
      · rw [if_neg h2, if_neg (by simp [h, h2])]
theorem wipeG_get (Γ : Sto) (i : Nat) : ∀ vs : List Nat, (wipeG Γ vs)[i]? = if i ∈ vs then (Γ[i]?).map (fun _ => Sl.no) else Γ[i]?
  | [] => by simp [wipeG]
  | v :: vs => by
    unfold wipeG
    rw [set_map_get, wipeG_get Γ i vs]
    by_cases h : i = v
    · subst h
      rw [if_pos rfl, if_pos List.mem_cons_self]
      split
      · rw [Option.map_map]; rfl
      · rfl
    · rw [if_neg h]
      by_cases h2 : i ∈ vs
      · rw [if_pos h2, if_pos (List.mem_cons_of_mem _ h2)]
      · rw [if_neg h2, if_neg (by simp [h, h2])]
theorem wipeG_len (Γ : Sto) : ∀ vs : List Nat, (wipeG Γ vs).length = Γ.length
  | [] => rfl
  | v :: vs => by unfold wipeG; rw [List.length_set, wipeG_len Γ vs]
theorem rst_len (Γ1 Γe : Sto) : ∀ vs : List Nat, (rst Γ1 Γe vs).length = Γe.length
  | [] => rfl
  | v :: vs => by
    unfold rst
    split
    · rw [List.length_set, rst_len Γ1 Γe vs]
    · exact rst_len Γ1 Γe vs
theorem rst_get {Γ1 Γe : Sto} (hl : Γ1.length = Γe.length) (i : Nat) : ∀ vs : List Nat, (rst Γ1 Γe vs)[i]? = if i ∈ vs then Γ1[i]? else Γe[i]?
  | [] => by simp [rst]
  | v :: vs => by
    unfold rst
    have ih := rst_get hl i vs
    cases e : Γ1[v]? with
    | none =>
      simp only [ih]
      by_cases h : i = v
      · subst h
        have h1 : Γe[i]? = none := List.getElem?_eq_none (by rw [← hl]; exact List.getElem?_eq_none_iff.mp e)
        rw [e, h1]; simp
      · by_cases h2 : i ∈ vs
        · rw [if_pos h2, if_pos (List.mem_cons_of_mem _ h2)]
        · rw [if_neg h2, if_neg (by simp [h, h2])]
    | some s =>
      simp only [set_map_get, ih]
      by_cases h : i = v
      · subst h
        rw [if_pos rfl, if_pos List.mem_cons_self, e]
        have hi : i < Γe.length := by rw [← hl]; exact (List.getElem?_eq_some_iff.mp e).1
        split
        · rfl
        · rw [List.getElem?_eq_getElem hi]; rfl
      · rw [if_neg h]
        by_cases h2 : i ∈ vs
        · rw [if_pos h2, if_pos (List.mem_cons_of_mem _ h2)]
        · rw [if_neg h2, if_neg (by simp [h, h2])]
section
variable {K : PySem.W.Frag} {w : World} {F : Fr} {Wx : WX} {σ σ' : St} {Γ Γ1 Γ2 : Sto} {R R1 R2 H H1 H2 Hb : Hp}
theorem Abs.wipe (A : Abs K w F σ Γ R H) : ∀ vs : List Nat, Abs K w F (L2.wipe σ vs) (wipeG Γ vs) R H
  | [] => A
  | v :: vs => (A.wipe vs).forget v none
/-- a thing on the way is changed -/
theorem Abs.tmp (A : Abs K w F σ Γ R H) {p : Addr} (rp : R p = none) (h0 : F.H0 p = none) (n : ¬ Own σ Γ p) (ho : HO) : Abs K w F σ Γ R (upd H p ho) := by
  refine ⟨A.len, A.sh, fun i t o g => ?_, A.dis, fun b o z => ?_, A.r0, A.sep, fun b o z k => ?_, fun b z => ?_⟩
  · obtain ⟨q, h1, h2, h3, h4⟩ := A.own i t o g
    refine ⟨q, h1, h2, h3, h4.monoR (Evl.Ex.refl R) fun o z => ?_⟩
    rw [upd_ne]
    · exact z
    · rintro rfl; exact n ⟨i, t, _, g, h1⟩
  · rw [upd_ne]
    · exact A.rh b o z
    · rintro rfl; rw [rp] at z; cases z
  · rw [upd_ne]
    · exact A.frm b o z k
    · rintro rfl; rw [h0] at z; cases z
  · by_cases hb : b = p
    · subst hb; exact h0
    · rw [upd_ne hb] at z; exact A.kee b z
theorem Step.tmp (S : Step σ Γ R H Γ1 R1 H1) {p : Addr} (hp : H p = none) (ho : HO) : Step σ Γ R H Γ1 R1 (upd H1 p ho) :=
  ⟨S.ex, fun a o h r n => by
    obtain ⟨h1, h2⟩ := S.fr a o h r n
    exact ⟨by rw [upd_ne (ne_of_none h hp)]; exact h1, h2⟩, S.own, S.vis, fun a h => by
    by_cases ha : a = p
    · subst ha; exact hp
    · rw [upd_ne ha] at h; exact S.kee a h⟩
/-- the same step, seen with some slots forgotten -/
theorem Step.wiped (vs : List Nat) (S : Step σ Γ1 R1 H1 Γ2 R2 H2) (hn : ∀ i ∈ vs, ∀ t o, Γ1[i]? ≠ some (.own t o)) : Step (L2.wipe σ vs) (wipeG Γ1 vs) R1 H1 (wipeG Γ2 vs) R2 H2 := by
  have o1 : ∀ {Γ : Sto} {a : Addr}, Own (L2.wipe σ vs) (wipeG Γ vs) a → Own σ Γ a := fun ⟨i, t, o, g, s⟩ => by
    rw [wipeG_get] at g
    rw [wipe_get] at s
    by_cases hi : i ∈ vs
    · rw [if_pos hi] at s
      cases e : σ[i]? with
      | none => rw [e] at s; cases s
      | some x => rw [e] at s; cases s
    · rw [if_neg hi] at g s; exact ⟨i, t, o, g, s⟩
  have o2 : ∀ {a : Addr}, Own σ Γ1 a → Own (L2.wipe σ vs) (wipeG Γ1 vs) a := fun ⟨i, t, o, g, s⟩ => by
    have hi : i ∉ vs := fun h => hn i h t o g
    exact ⟨i, t, o, by rw [wipeG_get, if_neg hi]; exact g, by rw [wipe_get, if_neg hi]; exact s⟩
  refine ⟨S.ex, fun a o h r n => S.fr a o h r fun q => n (o2 q), fun a q => o2 (S.own a (o1 q)), fun i s g n => ?_, S.kee⟩
  rw [wipeG_get] at g
  by_cases hi : i ∈ vs
  · rw [if_pos hi] at g
    cases e : Γ1[i]? with
    | none => rw [e] at g; cases g
    | some x => rw [e] at g; cases g; exact absurd rfl n
  · rw [if_neg hi] at g
    obtain ⟨s', g', n'⟩ := S.vis i s g n
    exact ⟨s', by rw [wipeG_get, if_neg hi]; exact g', n'⟩
end

/-! ### list comprehensions -/
def nox {α : Type} : Res α → Res α
  | .ok a Γ => .ok a Γ
  | _ => .bad
def lcL (t : PD → Sto → Option Sto) (c : Sto → Res Bool) (e : Sto → Res PD) (vs : List Nat) : List PD → List PD → Sto → Res (List PD)
  | [], acc, Γ => .ok acc Γ
  | d :: ds, acc, Γ => match t d Γ with
    | none => .bad
    | some Γ1 => (nox (c Γ1)).bind fun b Γ2 => if b then (nox (e Γ2)).bind fun v Γ3 => if acc.length < lim then lcL t c e vs ds (acc ++ [v]) (wipeG Γ3 vs) else .bad
      else lcL t c e vs ds acc (wipeG Γ2 vs)
def lc (fi : Sto → Res (List PD)) (vs : List Nat) (t : PD → Sto → Option Sto) (c : Sto → Res Bool) (e : Sto → Res PD) : Ev := fun Γ => (fi Γ).bind fun ds Γ1 => if noOwnAt Γ1 vs then (lcL t c e vs ds [] (wipeG Γ1 vs)).bind fun acc Γe => .ok (.own (.lst acc)) (rst Γ1 Γe vs) else .bad
def yes : Sto → Res Bool := fun Γ => .ok true Γ
def Tsx (X : Cx) (Wx : WX) (ifs : List Expr) (f : Sto → Res Bool) : Prop := ∀ F, PTs X ifs (TB X.K X.w F Wx f)
theorem ts_nil {X : Cx} {Wx : WX} : Tsx X Wx [] yes := fun F => ⟨fun pins s σ H Q I ⟨Γ, R, A, h⟩ => pts_nil.run pins s σ H Q I (h.at A (.refl _ _ _ _))⟩
theorem ts_one {X : Cx} {Wx : WX} {c : Expr} {f : Sto → Res Bool} (h : Bx X Wx c f) : Tsx X Wx [c] f := fun F => pts_one (h F)
section
variable {X : Cx} {Wx : WX} {elt tg iter : Expr} {ifs : List Expr} {fi : Sto → Res (List PD)} {t : PD → Sto → Option Sto} {js vs : List Nat} {g : TG} {fc : Sto → Res Bool} {fe : Sto → Res PD}
theorem tLc_ok {fl : Bool} {F : Fr} {σ : St} {H : Hp} {Q : VK} (hjs : ∀ j ∈ js, j ∈ vs)
    (hg : ∀ (F : Fr) (σ : St) (Γ Γ' : Sto) (R H : Hp) (v : V) (d : PD) (Q : St → Hp → Prop), Abs X.K X.w F σ Γ R H → LoF fl X.K R H v d → t d Γ = some Γ' →
      (∀ σ', Abs X.K X.w F σ' Γ' R H → σ'.length = σ.length → (∀ i, i ∉ js → σ'[i]? = σ[i]?) → (∀ i, i ∉ js → Γ'[i]? = Γ[i]?) → (∀ i ∈ js, ∀ t o, Γ'[i]? ≠ some (.own t o)) → Q σ' H) → g v σ H Q)
    (h : TV X.K X.w F Wx (lc fi vs t fc fe) σ H Q) :
    tLc (TIt fl X.K X.w F Wx fi) g (fun σ H Q => ∃ R1, TB X.K X.w { F with R0 := R1 } Wx0 fc σ H Q) (fun σ H Q => ∃ R1, TD X.K X.w { F with R0 := R1 } Wx0 fe σ H Q) vs σ H Q := by
  obtain ⟨Γ, R, A, h⟩ := h
  refine ⟨Γ, R, A, h.split.mono fun ds Γ1 R1 H1 A1 S1 h1 J hJ D hD => ?_⟩
  cases hno : noOwnAt Γ1 vs with
  | false => rw [hno] at h1; exact h1.elim
  | true =>
    rw [hno] at h1
    simp only [if_true] at h1
    have hno' : ∀ i ∈ vs, ∀ t o, Γ1[i]? ≠ some (.own t o) := fun i hi t o e => by
      have := List.all_eq_true.mp hno i hi
      simp only [e] at this
      cases this
    have AW := A1.sub.wipe vs
    have hF0 : F.H0 D = none := A1.fresh0 hD
    refine ⟨fun i m H' => m = ds.length - i ∧ i ≤ ds.length ∧ ∃ Γ' R' acc xs, Abs X.K X.w { F with R0 := R1 } (L2.wipe σ vs) Γ' R' H' ∧ Step (L2.wipe σ vs) (wipeG Γ1 vs) R1 H1 Γ' R' H' ∧ H' D = some (.lst xs) ∧ ShA X.K R' xs acc ∧ R' D = none ∧
      (∀ i ∈ vs, ∀ s, Γ'[i]? = some s → s = .no) ∧ Post X.K X.w F Wx σ Γ R H (fun a Γ' R' H' => ∀ v, VR X.K X.w F H σ Γ' R' H' v a → Q v H') ((lcL t fc fe vs (ds.drop i) acc Γ').bind fun acc Γe => .ok (.own (.lst acc)) (rst Γ1 Γe vs)), ⟨ds.length, by simp, Nat.zero_le _, wipeG Γ1 vs, R1, [], [], ?_⟩, ?_⟩
    · obtain ⟨B, T⟩ := AW.new hD (.lst [])
      refine ⟨B, T, upd_same, .nil, A1.freshR hD, fun i hi s e => ?_, h1⟩
      rw [wipeG_get, if_pos hi] at e
      cases z : Γ1[i]? with
      | none => rw [z] at e; cases e
      | some x => rw [z] at e; cases e; rfl
    · rintro i m H' ⟨rfl, hi, Γ', R', acc, xs, A', S', hDl, hxs, rD, hwp, h'⟩
      have hl' : Γ'.length = Γ1.length := by
        have e1 := A'.len
        rw [L2.wipe_length] at e1
        exact e1.trans A1.len.symm
      have nOwnD : ∀ {Γx : Sto} {Rx Hx : Hp}, Step (L2.wipe σ vs) (wipeG Γ1 vs) R1 H1 Γx Rx Hx → ¬ Own (L2.wipe σ vs) Γx D := fun S q => AW.notOwn hD (S.own D q)
      by_cases hlt : i < ds.length
      · have hd : ds[i]? = some ds[i] := List.getElem?_eq_getElem hlt
        rw [drop_at hd] at h'
        refine .inr ⟨hJ.go R' H' i _ A'.r0 A'.rh hd, fun H2 => ∃ Γ2 R2 acc xs, Abs X.K X.w { F with R0 := R1 } (L2.wipe σ vs) Γ2 R2 H2 ∧ Step (L2.wipe σ vs) (wipeG Γ1 vs) R1 H1 Γ2 R2 H2 ∧ H2 D = some (.lst xs) ∧ ShA X.K R2 xs acc ∧ R2 D = none ∧
          (∀ i ∈ vs, ∀ s, Γ2[i]? = some s → s = .no) ∧ Post X.K X.w F Wx σ Γ R H (fun a Γ' R' H' => ∀ v, VR X.K X.w F H σ Γ' R' H' v a → Q v H') ((lcL t fc fe vs (ds.drop (i + 1)) acc Γ2).bind fun acc Γe => .ok (.own (.lst acc)) (rst Γ1 Γe vs)),
          fun H2 ⟨Γ2, R2, acc, xs, q⟩ => ⟨ds.length - (i + 1), by omega, rfl, hlt, Γ2, R2, acc, xs, q⟩, fun x Hx y => ?_⟩
        have item : ∃ R3, Abs X.K X.w { F with R0 := R1 } (L2.wipe σ vs) Γ' R3 Hx ∧ LoF fl X.K R3 Hx x ds[i] ∧ Step (L2.wipe σ vs) Γ' R' H' Γ' R3 Hx := by
          rcases hJ.yld R' H' i _ x Hx A'.r0 A'.rh hd y with ⟨q1, rfl⟩ | ⟨p, hob, hp', rfl, q1⟩
          · exact ⟨R', A', .of q1, .refl _ _ _ _⟩
          · obtain ⟨A3, S3⟩ := A'.new hp' hob
            exact ⟨R', A3, q1, S3⟩
        obtain ⟨R3, A3, s3, S3⟩ := item
        unfold lcL at h'
        cases et : t ds[i] Γ' with
        | none => simp only [et] at h'; exact h'.elim
        | some Γt =>
          simp only [et] at h'
          refine hg _ _ Γ' Γt R3 Hx x _ _ A3 s3 et fun σ2 A4 l4 o4 p4 n4 => ?_
          have eW : L2.wipe σ2 vs = L2.wipe σ vs := by
            apply List.ext_getElem?
            intro k
            rw [wipe_get, wipe_get]
            by_cases hk : k ∈ vs
            · rw [if_pos hk, if_pos hk]
              have hlen : σ2.length = σ.length := l4.trans (L2.wipe_length σ vs)
              by_cases hk2 : k < σ.length
              · rw [List.getElem?_eq_getElem hk2, List.getElem?_eq_getElem (by omega)]; rfl
              · rw [List.getElem?_eq_none (by omega), List.getElem?_eq_none (by omega)]
            · rw [if_neg hk, if_neg hk, o4 k fun z => hk (hjs k z), wipe_get, if_neg hk]
          have eG : wipeG Γt vs = Γ' := by
            apply List.ext_getElem?
            intro k
            rw [wipeG_get]
            by_cases hk : k ∈ vs
            · rw [if_pos hk]
              have hlen : Γt.length = Γ'.length := by
                have e1 := A4.len
                have e2 := A3.len
                omega
              by_cases hk2 : k < Γ'.length
              · rw [List.getElem?_eq_getElem hk2, List.getElem?_eq_getElem (by omega)]
                show some Sl.no = some Γ'[k]
                rw [hwp k hk _ (List.getElem?_eq_getElem hk2)]
              · rw [List.getElem?_eq_none (by omega), List.getElem?_eq_none (by omega)]; rfl
            · rw [if_neg hk, p4 k fun z => hk (hjs k z)]
          have hnt : ∀ k ∈ vs, ∀ t o, Γt[k]? ≠ some (.own t o) := fun k hk t o z => by
            by_cases hj : k ∈ js
            · exact n4 k hj t o z
            · rw [p4 k hj] at z
              have := hwp k hk _ z
              cases this
          -- a turn's step, seen from outside
          have out : ∀ {Γ5 : Sto} {R5 H5 : Hp}, Step σ2 Γt R3 Hx Γ5 R5 H5 → Step (L2.wipe σ vs) (wipeG Γ1 vs) R1 H1 (wipeG Γ5 vs) R5 H5 ∧ H5 D = some (.lst xs) ∧ R5 D = none ∧ Ex R' R5 := fun {Γ5 R5 H5} S5 => by
            have S6 := S5.wiped vs hnt
            rw [eW, eG] at S6
            have S7 := S3.trans S6
            obtain ⟨d1, d2⟩ := S7.fr D _ hDl rD (nOwnD S')
            exact ⟨S'.trans S7, d1, d2, S7.ex⟩
          have wp5 : ∀ (Γ5 : Sto), ∀ i ∈ vs, ∀ s, (wipeG Γ5 vs)[i]? = some s → s = .no := fun Γ5 i hi s e => by
            rw [wipeG_get, if_pos hi] at e
            cases z : Γ5[i]? with
            | none => rw [z] at e; cases e
            | some x => rw [z] at e; cases e; rfl
          refine ⟨eW, R1, Γt, R3, A4, ?_⟩
          cases ec : fc Γt with
          | bad => rw [ec] at h'; exact h'.elim
          | exc e Γe => rw [ec] at h'; exact h'.elim
          | ok b Γ5 =>
            rw [ec] at h'
            intro R5 H5 A5 S5
            obtain ⟨T5, d5, r5, x5⟩ := out S5
            cases b with
            | false =>
              refine iteF ⟨wipeG Γ5 vs, R5, acc, xs, ?_, T5, d5, hxs.mono x5, r5, wp5 Γ5, h'⟩
              have := A5.wipe vs
              rw [eW] at this
              exact this
            | true =>
              refine iteT ⟨R1, Γ5, R5, A5, ?_⟩
              have h' : Post X.K X.w F Wx σ Γ R H _ (((nox (fe Γ5)).bind fun v Γ3 => if acc.length < lim then lcL t fc fe vs (ds.drop (i + 1)) (acc ++ [v]) (wipeG Γ3 vs) else .bad).bind fun acc Γe => Res.ok (AV.own (Ob.lst acc)) (rst Γ1 Γe vs)) := h'
              cases ee : fe Γ5 with
              | bad => rw [ee] at h'; exact h'.elim
              | exc e Γe => rw [ee] at h'; exact h'.elim
              | ok v Γ6 =>
                rw [ee] at h'
                have h' : Post X.K X.w F Wx σ Γ R H _ ((if acc.length < lim then lcL t fc fe vs (ds.drop (i + 1)) (acc ++ [v]) (wipeG Γ6 vs) else .bad).bind fun acc Γe => Res.ok (AV.own (Ob.lst acc)) (rst Γ1 Γe vs)) := h'
                by_cases hz : acc.length < lim
                · rw [if_pos hz] at h'
                  intro R6 H6 A6 S6 yv hyv
                  obtain ⟨T6, d6, r6, x6⟩ := out (S5.trans S6)
                  refine ⟨xs, d6, lim_lt (by rw [hxs.length]; exact hz), wipeG Γ6 vs, R6, acc ++ [v], xs ++ [yv], ?_, T6.tmp hD _, upd_same, (hxs.mono x6).append (.cons hyv .nil), r6, wp5 Γ6, h'⟩
                  have := A6.wipe vs
                  rw [eW] at this
                  exact this.tmp r6 hF0 (nOwnD T6) _
                · rw [if_neg hz] at h'; exact h'.elim
      · have e : i = ds.length := by omega
        subst e
        refine .inl ⟨hJ.stop R' H' _ A'.r0 A'.rh (Nat.le_refl _), ?_⟩
        rw [List.drop_length] at h'
        have hgt := rst_get (Γ1 := Γ1) (Γe := Γ') hl'.symm
        have ow : ∀ {k : Nat} {tt : Option Nat} {o : Ob}, (rst Γ1 Γ' vs)[k]? = some (.own tt o) → k ∉ vs ∧ Γ'[k]? = some (.own tt o) := fun {k tt o} e => by
          rw [hgt k vs] at e
          by_cases hk : k ∈ vs
          · rw [if_pos hk] at e; exact absurd e (hno' k hk tt o)
          · rw [if_neg hk] at e; exact ⟨hk, e⟩
        have ow2 : ∀ {a : Addr}, Own σ (rst Γ1 Γ' vs) a → Own (L2.wipe σ vs) Γ' a := fun ⟨k, tt, o, g1, s1⟩ => by
          obtain ⟨hk, g2⟩ := ow g1
          exact ⟨k, tt, o, g2, by rw [wipe_get, if_neg hk]; exact s1⟩
        have ow3 : ∀ {a : Addr}, Own (L2.wipe σ vs) (wipeG Γ1 vs) a → Own σ Γ1 a := fun ⟨k, tt, o, g1, s1⟩ => by
          rw [wipeG_get] at g1
          rw [wipe_get] at s1
          by_cases hk : k ∈ vs
          · rw [if_pos hk] at g1
            cases e : Γ1[k]? with
            | none => rw [e] at g1; cases g1
            | some x => rw [e] at g1; cases g1
          · rw [if_neg hk] at g1 s1; exact ⟨k, tt, o, g1, s1⟩
        have A2 : Abs X.K X.w F σ (rst Γ1 Γ' vs) R' H' := by
          refine A1.sup ⟨(rst_len Γ1 Γ' vs).trans (hl'.trans A1.len), fun k d e => ?_, fun k tt o e => ?_, fun j k tt u o q p e1 e2 s1 s2 => ?_, A'.rh, A'.r0, A'.sep, A'.frm, A'.kee⟩
          · rw [hgt k vs] at e
            by_cases hk : k ∈ vs
            · rw [if_pos hk] at e
              obtain ⟨v, g1, g2⟩ := A1.sh k d e
              exact ⟨v, g1, g2.mono A'.r0⟩
            · rw [if_neg hk] at e
              obtain ⟨v, g1, g2⟩ := A'.sh k d e
              rw [wipe_get, if_neg hk] at g1
              exact ⟨v, g1, g2⟩
          · obtain ⟨hk, g1⟩ := ow e
            obtain ⟨p, g2, g3⟩ := A'.own k tt o g1
            rw [wipe_get, if_neg hk] at g2
            exact ⟨p, g2, g3⟩
          · obtain ⟨hk1, g1⟩ := ow e1
            obtain ⟨hk2, g2⟩ := ow e2
            exact A'.dis j k tt u o q p g1 g2 (by rw [wipe_get, if_neg hk1]; exact s1) (by rw [wipe_get, if_neg hk2]; exact s2)
        have S2 : Step σ Γ1 R1 H1 (rst Γ1 Γ' vs) R' H' := by
          refine ⟨S'.ex, fun a o q r n => S'.fr a o q r fun z => n (ow3 z), fun a q => ow3 (S'.own a (ow2 q)), fun k s g1 n => ?_, S'.kee⟩
          by_cases hk : k ∈ vs
          · exact ⟨s, by rw [hgt k vs, if_pos hk]; exact g1, n⟩
          · obtain ⟨s', g2, n2⟩ := S'.vis k s (by rw [wipeG_get, if_neg hk]; exact g1) n
            exact ⟨s', by rw [hgt k vs, if_neg hk]; exact g2, n2⟩
        refine h'.at A2 (S1.trans S2) _ ⟨D, rfl, S1.kee D hD, hF0, rD, fun q => nOwnD S' (ow2 q), xs, hDl, hxs⟩
theorem v_lc {fl : Bool} {scope : Scope} {own : List (Str × Nat)} {pos : Pos} (hc : X.calm = true) (hN : X.N.Nodup) (hi : Ix fl X Wx tg iter fi) (ok : BlkOk X.N X.env.scope scope own) (hjs : ∀ j ∈ js, j ∈ own.map (·.2))
    (hg : ∀ (s : Shared) (H : Hp) (C : Addr) (cl : List (Str × Addr)) (fp : List Addr), Gx fl (X.blk s H scope (compEnvC scope cl C X.env) fp) tg js g t)
    (ht : ∀ (s : Shared) (H : Hp) (C : Addr) (cl : List (Str × Addr)) (fp : List Addr), Tsx (X.blk s H scope (compEnvC scope cl C X.env) fp) Wx0 ifs fc)
    (he : ∀ (s : Shared) (H : Hp) (C : Addr) (cl : List (Str × Addr)) (fp : List Addr), Dx (X.blk s H scope (compEnvC scope cl C X.env) fp) Wx0 elt fe)
    (hs : ∀ x, foldedSetIterable iter X.env x = pure x := by intro _; rfl) : Vx X Wx (.ListComp elt [⟨tg, iter, ifs, 0⟩] scope pos) (lc fi (own.map (·.2)) t fc fe) := fun F =>
  (pe_lc (te := fun σ H Q => ∃ R1, TD X.K X.w { F with R0 := R1 } Wx0 fe σ H Q) (tt := fun σ H Q => ∃ R1, TB X.K X.w { F with R0 := R1 } Wx0 fc σ H Q) hc hN (hi F) ok (fun s H C cl fp => (hg s H C cl fp).pg)
    (fun s H C cl fp => ⟨fun pins s' σ H' Q I ⟨R1, q⟩ => (ht s H C cl fp { F with R0 := R1 }).run pins s' σ H' Q I q⟩) (fun s H C cl fp => ⟨fun pins s' σ H' Q I ⟨R1, q⟩ => (he s H C cl fp { F with R0 := R1 }).run pins s' σ H' Q I q⟩) hs).mono
    fun σ H Q h => tLc_ok hjs (fun F σ Γ Γ' R H v d Q => (hg X.s_0 X.H_0 (0 : Nat) [] []).ok F σ Γ Γ' R H v d Q) h
theorem s_lc {fl : Bool} {i : Nat} {y : Str} {py : Pos} {scope : Scope} {own : List (Str × Nat)} {pos spos : Pos} (hc : X.calm = true) (hN : X.N.Nodup) (hy : X.N[i]? = some y) (hyl : X.env.scope.names.lookup y = some .local)
    (hsw : swapsWith (.ListComp elt [⟨tg, iter, ifs, 0⟩] scope pos) (some (.Name y py)) spos.line X.env = pure true) (hi : Ix fl X Wx tg iter fi) (ok : BlkOk X.N X.env.scope scope own) (hjs : ∀ j ∈ js, j ∈ own.map (·.2))
    (hg : ∀ (s : Shared) (H : Hp) (C : Addr) (cl : List (Str × Addr)) (fp : List Addr), Gx fl (X.blk s H scope (compEnvC scope cl C X.env) fp) tg js g t)
    (ht : ∀ (s : Shared) (H : Hp) (C : Addr) (cl : List (Str × Addr)) (fp : List Addr), Tsx (X.blk s H scope (compEnvC scope cl C X.env) fp) Wx0 ifs fc)
    (he : ∀ (s : Shared) (H : Hp) (C : Addr) (cl : List (Str × Addr)) (fp : List Addr), Dx (X.blk s H scope (compEnvC scope cl C X.env) fp) Wx0 elt fe)
    (hs : ∀ x, foldedSetIterable iter X.env x = pure x := by intro _; rfl) : Sx X Wx (.Assign [.Name y py] (.ListComp elt [⟨tg, iter, ifs, 0⟩] scope pos) spos) (asg i (lc fi (own.map (·.2)) t fc fe)) := fun F =>
  (ps_setLc (te := fun σ H Q => ∃ R1, TD X.K X.w { F with R0 := R1 } Wx0 fe σ H Q) (tt := fun σ H Q => ∃ R1, TB X.K X.w { F with R0 := R1 } Wx0 fc σ H Q) hc hN hy hyl hsw (hi F) ok (fun s H C cl fp => (hg s H C cl fp).pg)
    (fun s H C cl fp => ⟨fun pins s' σ H' Q I ⟨R1, q⟩ => (ht s H C cl fp { F with R0 := R1 }).run pins s' σ H' Q I q⟩) (fun s H C cl fp => ⟨fun pins s' σ H' Q I ⟨R1, q⟩ => (he s H C cl fp { F with R0 := R1 }).run pins s' σ H' Q I q⟩) hs).mono
    fun D σ H h => tLc_ok hjs (fun F σ Γ Γ' R H v d Q => (hg X.s_0 X.H_0 (0 : Nat) [] []).ok F σ Γ Γ' R H v d Q) (asg_rd h)
end
end G

namespace G
open PySem L2

/-! ### numbers, texts, lists: + - * // % ** -/
def OkMul (i j : Int) : Prop := (-(2 ^ 64) < j ∧ j < 2 ^ 64) ∨ (-(2 ^ 64) < i ∧ i < 2 ^ 64) ∨ i.natAbs.log2 + j.natAbs.log2 < 1000000
noncomputable def okMul (i j : Int) : Bool := @decide (OkMul i j) (Classical.propDecidable _)
noncomputable def okDiv (j : Int) : Bool := @decide (0 < j ∧ j.natAbs.log2 < 9000) (Classical.propDecidable _)
def gAdd : PD → PD → Option AV
  | .int i, .int j => some (.sh (.int (i + j)))
  | .list a, .list b => if a.length + b.length ≤ lim then some (.own (.lst (a ++ b))) else none
  | .str a, .str b => if a.length + b.length ≤ sizeLine then some (.sh (.str (a ++ b))) else none
  | _, _ => none
def gSub : PD → PD → Option AV
  | .int i, .int j => some (.sh (.int (i - j)))
  | _, _ => none
noncomputable def gMul : PD → PD → Option AV
  | .int i, .int j => if okMul i j then some (.sh (.int (i * j))) else none
  | .list ds, .int j => if big j && decide (ds.length * j.toNat ≤ lim) then some (.own (.lst (List.replicate j.toNat ds).flatten)) else none
  | _, _ => none
noncomputable def gDiv : PD → PD → Option AV
  | .int i, .int j => if okDiv j then some (.sh (.int (i / j))) else none
  | _, _ => none
def gMod : PD → PD → Option AV
  | .int i, .int j => if decide (0 < j) then some (.sh (.int (i % j))) else none
  | _, _ => none
def gPow : PD → PD → Option AV
  | .int i, .int j => if decide (0 ≤ j) && decide (j ≤ 1000000) && decide (i.natAbs < 2 ^ 64) then some (.sh (.int (i ^ j.toNat))) else none
  | _, _ => none
def gNeg : PD → Option AV
  | .int i => some (.sh (.int (-i)))
  | _ => none
section
variable {X : Cx}
/-- list + list, wherever they stand -/
def rCatS (K : PySem.W.Frag) : L2.R2 := fun x y H Q => ∃ l b xs zs, x = .ref l ∧ y = .ref b ∧ SqL K H l xs ∧ SqL K H b zs ∧ xs.length + zs.length ≤ sizeLine ∧ ∀ p, H p = none → Q (.ref p) (upd H p (.lst (xs ++ zs)))
theorem op_catS : OpR X (binaryOp .Add) (rCatS X.K) := by
  intro pins s σ H x y v u Q I rx ry h
  obtain ⟨l, b, xs, zs, rfl, rfl, hH, hB, hz, q⟩ := h
  cases rx
  cases ry
  obtain ⟨its, r, ⟨⟨cls, dd, data, sl⟩, n, e, c, _, d⟩, z⟩ := I.list hH
  obtain ⟨its2, r2, ⟨⟨cls2, dd2, data2, sl2⟩, n2, e2, c2, _, d2⟩, z2⟩ := I.list hB
  have h1 := r.length
  have h2 := r2.length
  simp only at c d c2 d2
  subst c d c2 d2
  refine concat_meets ⟨_, e, rfl⟩ ⟨_, e2, rfl⟩ noFill_list_add seq_list_add PySem.F.slot_list_add PySem.F.entry_list_add (PySem.F.args_list_add_2 _ _) (PyProof.Rows.list_addW l b its.toArray its2.toArray n n2 dd dd2 sl sl2 (by simp only [List.size_toArray]; omega)) ⟨e, e2, ?_⟩
  have ea : its.toArray ++ its2.toArray = (its ++ its2).toArray := by simp
  rw [ea]
  exact ⟨.ref _, _, I.lnew (t' := s.toks) (r.append r2) (by rw [List.length_append]; omega), rfl, q _ I.fresh⟩
def rAddA (K : PySem.W.Frag) : L2.R2 := fun x y H Q => (rI0 (fun i j => .int (i + j)) x y H Q) ∨ (rCatS K x y H Q) ∨ (∃ i j, x = .str i ∧ y = .str j ∧ i.length + j.length ≤ sizeLine ∧ Q (.str (i ++ j)) H)
theorem o_add : OpR X (binaryOp .Add) (rAddA X.K) := op_add.or (op_catS.or op_add_str)
theorem k_add {w : World} : Ok2 X.K w (rAddA X.K) gAdd := fun R H x y d e s hx hd he hg Q q => by
  unfold gAdd at hg
  split at hg
  · cases hg; exact .inl ⟨_, _, hd.int, he.int, q _ _ ⟨.int _, rfl⟩⟩
  · rename_i a b
    by_cases hz : a.length + b.length ≤ lim
    · rw [if_pos hz] at hg; cases hg
      obtain ⟨p, xs, rfl, h1, s1⟩ := hd.list hx
      obtain ⟨p2, ys, rfl, h2, s2⟩ := he.list hx
      exact .inr (.inl ⟨p, p2, xs, ys, rfl, rfl, h1, h2, lim_le (by rw [s1.length, s2.length]; exact hz), fun l hl => q _ _ ⟨l, _, rfl, hl, rfl, _, upd_same, s1.append s2⟩⟩)
    · rw [if_neg hz] at hg; cases hg
  · rename_i a b
    by_cases hz : a.length + b.length ≤ sizeLine
    · rw [if_pos hz] at hg; cases hg
      exact .inr (.inr ⟨_, _, hd.str, he.str, hz, q _ _ ⟨.str _, rfl⟩⟩)
    · rw [if_neg hz] at hg; cases hg
  · cases hg
theorem k_sub {w : World} : Ok2 X.K w (rI0 fun i j => .int (i - j)) gSub := fun R H x y d e s hx hd he hg Q q => by
  unfold gSub at hg
  split at hg
  · cases hg; exact ⟨_, _, hd.int, he.int, q _ _ ⟨.int _, rfl⟩⟩
  · cases hg
section
open PySem.Spec
theorem int_rmul_listW (a : Int) (t : Tok) (l : Addr) (items : Array Value) (n : Nat) (dd : Option Addr) (sl : Array (Option Value)) :
    Meets (Builtin.«int.__rmul__» ⟨[.int a t, .ref l], []⟩) (fun _ R s => s.heap.get? l = some { cls := .type "list", dict := dd, data := .seq items n, slots := sl } ∧ R (.ok (.ret Value.notImplemented)) s) :=
  .of_wp fun prog w A R s h => by obtain ⟨hp, g, d, tk, os⟩ := s; obtain ⟨hl, h⟩ := h; wp_walk using wpAny_loadPart' hl; exact ⟨_, rfl, h⟩
theorem list_mulW (l : Addr) (items : Array Value) (n : Nat) (dd : Option Addr) (sl : Array (Option Value)) (x : Int) (u : Tok) (c0 : ¬ (!Builtin.List.listFitsIndex x) = true) (c1 : ¬ items.size * x.toNat > (2 ^ 63 - 1) / 8) (c2 : ¬ Builtin.List.listTooLong (items.size * x.toNat) = true) :
    Meets (Builtin.«list.__mul__» ⟨[.ref l, .int x u], []⟩) (fun _ R s => s.heap.get? l = some { cls := .type "list", dict := dd, data := .seq items n, slots := sl } ∧
      R (.ok (.ret (Value.ref s.heap.objs.size))) { s with heap := s.heap.push { cls := Value.type "list", data := Data.seq (List.foldl (fun x1 x2 => x1 ++ x2) #[] (List.replicate (if items.isEmpty = true then 0 else x.toNat) items)) }, toks := s.toks }) :=
  .of_wp fun prog w A R s h => by
    obtain ⟨hp, g, d, tk, os⟩ := s
    obtain ⟨hl, h⟩ := h
    have hsz := AutoListH.joined_fits (items := items) c2
    wp_walk using wpAny_loadPart' hl; refine wpAny_ite_false (decide_eq_false (Nat.not_lt.mpr hsz)) ?_; wp_walk using wpAny_loadPart' hl; exact ⟨_, rfl, h⟩
/-- list * int, wherever it stands -/
def rRepS (K : PySem.W.Frag) : L2.R2 := fun x y H Q => ∃ l k xs, x = .ref l ∧ y = .int k ∧ SqL K H l xs ∧ -(2 ^ 63) ≤ k ∧ k < 2 ^ 63 ∧ xs.length * k.toNat ≤ sizeLine ∧
  ∀ p, H p = none → Q (.ref p) (upd H p (.lst (List.replicate k.toNat xs).flatten))
theorem op_repS : OpR X (binaryOp .Mult) (rRepS X.K) := by
  intro pins s σ H x y v u Q I rx ry h
  obtain ⟨l, k, xs, rfl, rfl, hH, h1, h2, hz, q⟩ := h
  cases rx
  obtain ⟨t, rfl⟩ := ry
  obtain ⟨its, r, ⟨⟨cls, dd, data, sl⟩, n, e, c, _, d⟩, z⟩ := I.list hH
  have hl := r.length
  simp only at c d
  subst c d
  have hlen : its.toArray.size * k.toNat ≤ sizeLine := by rw [List.size_toArray, ← hl]; exact hz
  have hcap : ¬ its.toArray.size * k.toNat > (2 ^ 63 - 1) / 8 := by
    have : (sizeLine : Nat) ≤ (2 ^ 63 - 1) / 8 := by decide
    omega
  have hfit : ¬ (!Builtin.List.listFitsIndex k) = true := by
    rw [fitsIndex_both h1 h2]
    exact Bool.false_ne_true
  have hlong : ¬ Builtin.List.listTooLong (its.toArray.size * k.toNat) = true := by
    rw [notLongL hlen]
    exact Bool.false_ne_true
  have hnew : List.foldl (fun x1 x2 => x1 ++ x2) #[] (List.replicate (if its.toArray.isEmpty = true then 0 else k.toNat) its.toArray) = (List.replicate k.toNat its).flatten.toArray := by
    have f0 : ∀ m : Nat, List.foldl (fun x1 x2 => x1 ++ x2) #[] (List.replicate m its.toArray) = (List.replicate m its).flatten.toArray := fun m => by
      have := foldl_rep its m []
      rw [List.nil_append] at this
      exact this
    rw [f0]
    cases its with
    | nil => simp
    | cons a r' => rw [if_neg (by simp)]
  refine wpAny_binaryOp_repeat_ref (T := "list") (U := "int") (by decide) ⟨_, e, rfl⟩ (fun s' => typeIs_int s' k t) noFill_list_mul F.fills_int_mul F.slot_int_rmul repeat_list F.slot_int_index.lookup
    (call_meets F.slot_int_rmul (typeIs_int s k t) F.entry_int_rmul (F.args_int_rmul_2 _ _) (int_rmul_listW k t l its.toArray n dd sl)
      ⟨e, rfl, ⟨_, e, rfl⟩, call_meets F.slot_list_mul ⟨_, e, rfl⟩ F.entry_list_mul (F.args_list_mul_2 _ _) (list_mulW l its.toArray n dd sl k t hfit hcap hlong) ⟨e, ?_⟩⟩)
  rw [hnew]
  exact ⟨.ref _, _, I.lnew (t' := s.toks) (r.rep k.toNat) (by rw [PyProof.Rows.lm_len_rep_flat, Nat.mul_comm]; exact hz), rfl, q _ I.fresh⟩
end
def rMulA (K : PySem.W.Frag) : L2.R2 := fun x y H Q => rI CMul (fun i j => .int (i * j)) x y H Q ∨ rI CMulW (fun i j => .int (i * j)) x y H Q ∨ rRepS K x y H Q
theorem o_mul : OpR X (binaryOp .Mult) (rMulA X.K) := op_mul.or (op_mulW.or op_repS)
theorem ShA.rep {K : PySem.W.Frag} {R : Hp} {xs : List V} {ds : List PD} (s : ShA K R xs ds) : ∀ n : Nat, ShA K R (List.replicate n xs).flatten (List.replicate n ds).flatten
  | 0 => .nil
  | n + 1 => by
    rw [List.replicate_succ, List.replicate_succ, List.flatten_cons, List.flatten_cons]
    exact s.append (ShA.rep s n)
theorem k_mul {w : World} : Ok2 X.K w (rMulA X.K) gMul := fun R H x y d e s hx hd he hg Q q => by
  unfold gMul at hg
  split at hg
  · rename_i i j
    cases ho : okMul i j with
    | false => rw [ho] at hg; cases hg
    | true =>
      rw [ho] at hg; cases hg
      have q' := q (.int (i * j)) H ⟨.int _, rfl⟩
      have ho : OkMul i j := @of_decide_eq_true _ (Classical.propDecidable _) ho
      rcases ho with h | h | h
      · exact .inl ⟨i, j, hd.int, he.int, .inr h, q'⟩
      · exact .inl ⟨i, j, hd.int, he.int, .inl h, q'⟩
      · exact .inr (.inl ⟨i, j, hd.int, he.int, h, q'⟩)
  · rename_i ds j
    by_cases hc : big j = true ∧ ds.length * j.toNat ≤ lim
    · rw [if_pos (by simp [hc])] at hg; cases hg
      obtain ⟨p, xs, rfl, h1, s1⟩ := hd.list hx
      have hb := big_lt hc.1
      exact .inr (.inr ⟨p, j, xs, rfl, he.int, h1, by omega, by omega, lim_le (by rw [s1.length]; exact hc.2), fun l hl => q _ _ ⟨l, _, rfl, hl, rfl, _, upd_same, s1.rep _⟩⟩)
    · rw [if_neg (by simpa using hc)] at hg; cases hg
  · cases hg
theorem k_div {w : World} : Ok2 X.K w (rI CDivW fun i j => .int (i / j)) gDiv := fun R H x y d e s hx hd he hg Q q => by
  unfold gDiv at hg
  split at hg
  · rename_i i j
    cases ho : okDiv j with
    | false => rw [ho] at hg; cases hg
    | true =>
      rw [ho] at hg; cases hg
      have ho : 0 < j ∧ j.natAbs.log2 < 9000 := @of_decide_eq_true _ (Classical.propDecidable _) ho
      exact ⟨i, j, hd.int, he.int, ho, q (.int (i / j)) H ⟨.int _, rfl⟩⟩
  · cases hg
theorem k_mod {w : World} : Ok2 X.K w (rI (fun _ j => 0 < j) fun i j => .int (i % j)) gMod := fun R H x y d e s hx hd he hg Q q => by
  unfold gMod at hg
  split at hg
  · rename_i i j
    by_cases ho : 0 < j
    · rw [decide_eq_true ho] at hg; cases hg
      exact ⟨i, j, hd.int, he.int, ho, q (.int (i % j)) H ⟨.int _, rfl⟩⟩
    · rw [decide_eq_false ho] at hg; cases hg
  · cases hg
theorem k_pow {w : World} : Ok2 X.K w (rI CPow fun i j => .int (i ^ j.toNat)) gPow := fun R H x y d e s hx hd he hg Q q => by
  unfold gPow at hg
  split at hg
  · rename_i i j
    cases ho : decide (0 ≤ j) && decide (j ≤ 1000000) && decide (i.natAbs < 2 ^ 64) with
    | false => rw [ho] at hg; cases hg
    | true =>
      rw [ho] at hg; cases hg
      simp only [Bool.and_eq_true, decide_eq_true_eq] at ho
      exact ⟨i, j, hd.int, he.int, ⟨ho.1.1, ho.1.2, ho.2⟩, q (.int (i ^ j.toNat)) H ⟨.int _, rfl⟩⟩
  · cases hg
theorem k_neg {w : World} : Ok1 X.K w (rU fun i => .int (-i)) gNeg := fun R H x d s hx hd hg Q q => by
  unfold gNeg at hg
  split at hg
  · cases hg; exact ⟨_, hd.int, q _ _ ⟨.int _, rfl⟩⟩
  · cases hg

/-! ### comparisons -/
def gLt : PD → PD → Option Bool
  | .int i, .int j => some (decide (i < j))
  | _, _ => none
def gLe : PD → PD → Option Bool
  | .int i, .int j => some (decide (i ≤ j))
  | _, _ => none
def gGt : PD → PD → Option Bool
  | .int i, .int j => some (decide (j < i))
  | _, _ => none
def gGe : PD → PD → Option Bool
  | .int i, .int j => some (decide (j ≤ i))
  | _, _ => none
def gEq : PD → PD → Option Bool
  | .str x, .str y => some (decide (x = y))
  | d, e => if SeqAt.shaped d && SeqAt.shaped e then some (PyData.eqv d e) else none
def gNe : PD → PD → Option Bool
  | .str x, .str y => some (!decide (x = y))
  | d, e => if SeqAt.shaped d && SeqAt.shaped e then some (!PyData.eqv d e) else none
def isN : PD → Bool
  | .none => true
  | _ => false
def isB (b : Bool) : PD → Bool
  | .bool a => decide (a = b)
  | _ => false
def gIs : PD → PD → Option Bool
  | d, .none => some (isN d)
  | d, .bool b => some (isB b d)
  | _, _ => none
def gIsNot : PD → PD → Option Bool
  | d, .none => some (!isN d)
  | d, .bool b => some (!isB b d)
  | _, _ => none
theorem k_lt : OkB X.K (rI0 fun i j => .bl (decide (i < j))) gLt := fun R H x y d e k hx hd he hg Q q => by
  unfold gLt at hg
  split at hg
  · cases hg; exact ⟨_, _, hd.int, he.int, q⟩
  · cases hg
theorem k_le : OkB X.K (rI0 fun i j => .bl (decide (i ≤ j))) gLe := fun R H x y d e k hx hd he hg Q q => by
  unfold gLe at hg
  split at hg
  · cases hg; exact ⟨_, _, hd.int, he.int, q⟩
  · cases hg
theorem k_gt : OkB X.K (rI0 fun i j => .bl (decide (j < i))) gGt := fun R H x y d e k hx hd he hg Q q => by
  unfold gGt at hg
  split at hg
  · cases hg; exact ⟨_, _, hd.int, he.int, q⟩
  · cases hg
theorem k_ge : OkB X.K (rI0 fun i j => .bl (decide (j ≤ i))) gGe := fun R H x y d e k hx hd he hg Q q => by
  unfold gGe at hg
  split at hg
  · cases hg; exact ⟨_, _, hd.int, he.int, q⟩
  · cases hg
/-- data without dicts -/
theorem Sh.dp {K : PySem.W.Frag} {H : Hp} {v : V} {d : PD} (h : Sh K H v d) (c : d.canLay0 = true) : Dp K H v d :=
  Sh.rec (motive_1 := fun v d _ => d.canLay0 = true → Dp K H v d) (motive_2 := fun xs ds _ => PyData.canLayAll0 ds = true → DpAll K H xs ds) (motive_3 := fun _ _ _ => True)
    (fun _ => .non) (fun b _ => .bl b) (fun i _ => .int i) (fun x _ => .str x) (fun h _ ih c => .lst h (ih (by simpa [PyData.canLay0] using c))) (fun h _ ih c => .tup h.sq (ih (by simpa [PyData.canLay0] using c)))
    (fun _ _ _ c => by simp [PyData.canLay0] at c) (fun _ => .nil) (fun _ _ a b c => by
      simp only [PyData.canLayAll0, Bool.and_eq_true] at c
      exact .cons (a c.1) (b c.2)) trivial (fun _ _ _ _ => trivial) h c
theorem shaped_lay {d : PD} (h : SeqAt.shaped d = true) : d.canLay0 = true := SeqAt.canLay_of_shaped h
theorem noDic {d : PD} (h : d.canLay0 = true) : ∀ kv, d ≠ .dict kv := fun kv e => by
  subst e
  simp [PyData.canLay0] at h
def rEqA (K : PySem.W.Frag) : L2.R2 := fun x y H Q => rEqD K x y H Q ∨ rEq x y H Q
def rNeA (K : PySem.W.Frag) : L2.R2 := fun x y H Q => rNeD K x y H Q ∨ rNe x y H Q
theorem o_eq (hu : X.A.units + 64 < cLine) : OpR X (compareOp .Eq) (rEqA X.K) := (op_eqD hu).or op_eq
theorem o_ne (hu : X.A.units + 64 < cLine) : OpR X (compareOp .NotEq) (rNeA X.K) := (op_neD hu).or op_ne
theorem k_eq : OkB X.K (rEqA X.K) gEq := fun R H x y d e k hx hd he hg Q q => by
  unfold gEq at hg
  split at hg
  · rename_i a b
    cases hg
    rw [hd.str, he.str]
    refine .inr ⟨rfl, ?_⟩
    have e : decide (V.str a = V.str b) = decide (a = b) := decide_eq_decide.mpr ⟨fun z => by cases z; rfl, fun z => by rw [z]⟩
    rw [e]
    exact q
  refine .inl ?_
  cases hs : SeqAt.shaped d && SeqAt.shaped e with
  | false => rw [hs] at hg; cases hg
  | true =>
    rw [hs] at hg; cases hg
    rw [Bool.and_eq_true] at hs
    exact ⟨d, e, (hd.full hx (noDic (shaped_lay hs.1))).dp (shaped_lay hs.1), (he.full hx (noDic (shaped_lay hs.2))).dp (shaped_lay hs.2), hs.1, hs.2, q⟩
theorem k_ne : OkB X.K (rNeA X.K) gNe := fun R H x y d e k hx hd he hg Q q => by
  unfold gNe at hg
  split at hg
  · rename_i a b
    cases hg
    rw [hd.str, he.str]
    refine .inr ⟨rfl, ?_⟩
    have e : decide (V.str a = V.str b) = decide (a = b) := decide_eq_decide.mpr ⟨fun z => by cases z; rfl, fun z => by rw [z]⟩
    rw [e]
    exact q
  refine .inl ?_
  cases hs : SeqAt.shaped d && SeqAt.shaped e with
  | false => rw [hs] at hg; cases hg
  | true =>
    rw [hs] at hg; cases hg
    rw [Bool.and_eq_true] at hs
    exact ⟨d, e, (hd.full hx (noDic (shaped_lay hs.1))).dp (shaped_lay hs.1), (he.full hx (noDic (shaped_lay hs.2))).dp (shaped_lay hs.2), hs.1, hs.2, q⟩
theorem bo_isN {K : PySem.W.Frag} {R H : Hp} {v : V} {d : PD} (h : Bo K R H v d) : decide (v = .non) = isN d := by
  rw [h.isNone]
  cases d <;> rfl
theorem bo_isB {K : PySem.W.Frag} {R H : Hp} {v : V} {d : PD} {b : Bool} (h : Bo K R H v d) : decide (v = .bl b) = isB b d := by
  cases h with
  | sh h => cases h <;> simp [isB]
  | _ => simp [isB]
open PySem.Spec in
theorem op_isBl : OpR X (compareOp .Is) (fun x y H Q => ∃ b, y = .bl b ∧ Q (.bl (decide (x = .bl b))) H) := by
  intro pins s σ H x y v u Q I rx ry h
  obtain ⟨b, rfl, q⟩ := h
  cases ry
  cases x with
  | bl c =>
    cases rx
    by_cases e : c = b
    · subst e
      exact wpAny_is_self rfl ⟨.bl true, H, I, rfl, by simpa using q⟩
    · exact wpAny_is_other rfl (fun z => e (Value.bool.inj z)) ⟨.bl false, H, I, rfl, by simpa [e] using q⟩
  | non => cases rx; exact wpAny_is_other rfl (fun z => nomatch z) ⟨.bl false, H, I, rfl, by simpa using q⟩
  | ref a => cases rx; exact wpAny_is_other rfl (fun z => nomatch z) ⟨.bl false, H, I, rfl, by simpa using q⟩
  | ty n => cases rx; exact wpAny_is_other rfl (fun z => nomatch z) ⟨.bl false, H, I, rfl, by simpa using q⟩
  | int i => obtain ⟨t, rfl⟩ := rx; exact wpAny_is_other rfl (fun z => nomatch z) ⟨.bl false, H, I, rfl, by simpa using q⟩
  | str i => obtain ⟨t, rfl⟩ := rx; exact wpAny_is_other rfl (fun z => nomatch z) ⟨.bl false, H, I, rfl, by simpa using q⟩
  | byt i => obtain ⟨t, rfl⟩ := rx; exact wpAny_is_other rfl (fun z => nomatch z) ⟨.bl false, H, I, rfl, by simpa using q⟩
  | flt i => obtain ⟨t, rfl⟩ := rx; exact wpAny_is_other rfl (fun z => nomatch z) ⟨.bl false, H, I, rfl, by simpa using q⟩
open PySem.Spec in
theorem op_isNotBl : OpR X (compareOp .IsNot) (fun x y H Q => ∃ b, y = .bl b ∧ Q (.bl (!decide (x = .bl b))) H) := by
  intro pins s σ H x y v u Q I rx ry h
  obtain ⟨b, rfl, q⟩ := h
  cases ry
  cases x with
  | bl c =>
    cases rx
    by_cases e : c = b
    · subst e
      exact wpAny_isNot_self rfl ⟨.bl false, H, I, rfl, by simpa using q⟩
    · exact wpAny_isNot_other rfl (fun z => e (Value.bool.inj z)) ⟨.bl true, H, I, rfl, by simpa [e] using q⟩
  | non => cases rx; exact wpAny_isNot_other rfl (fun z => nomatch z) ⟨.bl true, H, I, rfl, by simpa using q⟩
  | ref a => cases rx; exact wpAny_isNot_other rfl (fun z => nomatch z) ⟨.bl true, H, I, rfl, by simpa using q⟩
  | ty n => cases rx; exact wpAny_isNot_other rfl (fun z => nomatch z) ⟨.bl true, H, I, rfl, by simpa using q⟩
  | int i => obtain ⟨t, rfl⟩ := rx; exact wpAny_isNot_other rfl (fun z => nomatch z) ⟨.bl true, H, I, rfl, by simpa using q⟩
  | str i => obtain ⟨t, rfl⟩ := rx; exact wpAny_isNot_other rfl (fun z => nomatch z) ⟨.bl true, H, I, rfl, by simpa using q⟩
  | byt i => obtain ⟨t, rfl⟩ := rx; exact wpAny_isNot_other rfl (fun z => nomatch z) ⟨.bl true, H, I, rfl, by simpa using q⟩
  | flt i => obtain ⟨t, rfl⟩ := rx; exact wpAny_isNot_other rfl (fun z => nomatch z) ⟨.bl true, H, I, rfl, by simpa using q⟩
theorem o_is : OpR X (compareOp .Is) (fun x y H Q => (y = .non ∧ Q (.bl (decide (x = .non))) H) ∨ ∃ b, y = .bl b ∧ Q (.bl (decide (x = .bl b))) H) := op_isN.or op_isBl
theorem o_isNot : OpR X (compareOp .IsNot) (fun x y H Q => (y = .non ∧ Q (.bl (!decide (x = .non))) H) ∨ ∃ b, y = .bl b ∧ Q (.bl (!decide (x = .bl b))) H) := op_notN.or op_isNotBl
theorem k_is : OkB X.K (fun x y H Q => (y = .non ∧ Q (.bl (decide (x = .non))) H) ∨ ∃ b, y = .bl b ∧ Q (.bl (decide (x = .bl b))) H) gIs := fun R H x y d e k hx hd he hg Q q => by
  unfold gIs at hg
  split at hg
  · cases hg; exact .inl ⟨he.none, by rw [bo_isN hd]; exact q⟩
  · rename_i b
    cases hg; exact .inr ⟨b, he.bool, by rw [bo_isB hd]; exact q⟩
  · cases hg
theorem k_isNot : OkB X.K (fun x y H Q => (y = .non ∧ Q (.bl (!decide (x = .non))) H) ∨ ∃ b, y = .bl b ∧ Q (.bl (!decide (x = .bl b))) H) gIsNot := fun R H x y d e k hx hd he hg Q q => by
  unfold gIsNot at hg
  split at hg
  · cases hg; exact .inl ⟨he.none, by rw [bo_isN hd]; exact q⟩
  · rename_i b
    cases hg; exact .inr ⟨b, he.bool, by rw [bo_isB hd]; exact q⟩
  · cases hg

/-! ### in, index: lists, tuples, dicts -/
def keyD : PD → Option Key
  | .int i => some (.inl i)
  | .str x => some (.inr x)
  | _ => none
def keyEq : PD → PD → Bool
  | .int i, .int j => decide (i = j)
  | .str x, .str y => decide (x = y)
  | _, _ => false
def lookD (kvs : List (PD × PD)) (k : PD) : Option PD := (kvs.find? fun p => keyEq p.1 k).map (·.2)
theorem keyD_inv {d : PD} {k : Key} (h : keyD d = some k) : d = kD k := by
  cases d <;> first | (cases h; rfl) | cases h
theorem keyEq_k (a b : Key) : keyEq (kD a) (kD b) = decide (a = b) := by
  cases a with
  | inl i =>
    cases b with
    | inl j => exact decide_eq_decide.mpr ⟨fun h => h ▸ rfl, fun h => Sum.inl.inj h⟩
    | inr y => exact (decide_eq_false fun h => nomatch h).symm
  | inr x =>
    cases b with
    | inl j => exact (decide_eq_false fun h => nomatch h).symm
    | inr y => exact decide_eq_decide.mpr ⟨fun h => h ▸ rfl, fun h => Sum.inr.inj h⟩
theorem lookD_k {K : PySem.W.Frag} {R : Hp} {k : Key} : ∀ {ws : List (Key × V)} {kvs : List (Key × PD)}, ShK K R ws kvs →
    (∃ v d, valV ws k = some v ∧ lookD (kvs.map fun p => (kD p.1, p.2)) (kD k) = some d ∧ Sh K R v d) ∨ (valV ws k = none ∧ lookD (kvs.map fun p => (kD p.1, p.2)) (kD k) = none)
  | _, _, .nil => .inr ⟨rfl, rfl⟩
  | _, _, .cons (k := k') (v := v) (d := d) (ws := ws) (kvs := kvs) h t => by
    by_cases e : k' = k
    · subst e
      refine .inl ⟨v, d, valV_pos rfl, ?_, h⟩
      simp [lookD, List.find?_cons, keyEq_k]
    · have e1 : valV ((k', v) :: ws) k = valV ws k := valV_neg e
      have e2 : lookD (((k', d) :: kvs).map fun p => (kD p.1, p.2)) (kD k) = lookD (kvs.map fun p => (kD p.1, p.2)) (kD k) := by
        simp [lookD, List.find?_cons, keyEq_k, e]
      rw [e1, e2]
      exact lookD_k t
def rIxD : L2.R2 := fun x y H Q => ∃ a v, x = .ref a ∧ DGet H a y (some v) ∧ Q v H
open PyProof.Rows PySem.Spec in
theorem ix_dict (hu : X.A.units + 1 < cLine) : IxR X rIxD := by
  intro value slice pins s σ H x y v0 u Q I rx ry h hs
  obtain ⟨a, v, rfl, g, q⟩ := h
  cases rx
  have hT := dict_typeIs I g
  have h2 : wpAny (model X.prog X.w) X.A (getItem (.ref a) u) (EP X pins σ Q) X.xe s := d_getItem hu I g ry fun w2 s' I' r => ⟨v, H, I', r, q⟩
  unfold subscriptTail
  refine wpAny_bind ?_
  rw [getitemInPython_of_ne hT.not_modules]
  refine wpAny_bind (wpAny_specialOf hT PySem.F.slot_dict_getitem.lookup ?_)
  have fin : wpAny (model X.prog X.w) X.A (subscripted slice false (.ref a) u) (fun r s₃ => wpAny (model X.prog X.w) X.A (letTemporaryGo value (.ref a) r >>= fun _ => pure r) (EP X pins σ Q) X.xe s₃) X.xe s := by
    rw [hs]
    exact wpAny_operating (wpAny_mono h2 (fun r s₃ h₃ => wpAny_bind (wpAny_letTemporaryGo (wpAny_pure h₃))) fun _ _ x => x)
  first
    | exact wpAny_pure (wpAny_bind fin)
    | exact wpAny_bind (wpAny_pure (wpAny_bind fin))
    | exact wpAny_bind fin
def rIxA (K : PySem.W.Frag) : L2.R2 := fun x y H Q => rIx K x y H Q ∨ rIxD x y H Q
theorem o_ix (hu : X.A.units + 1 < cLine) : IxR X (rIxA X.K) := ix_seq.or (ix_dict hu)
def gIx : PD → PD → Option AV
  | .list ds, .int i => (atI ds i).map .sh
  | .tuple ds, .int i => (atI ds i).map .sh
  | .str x, .int i => if x.length ≤ sizeLine then (atI x.cps.toList i).map fun c => .sh (.str ⟨#[c]⟩) else none
  | .dict kvs, k => match keyD k with
    | some _ => (lookD kvs k).map .sh
    | none => none
  | _, _ => none
theorem ShA.atI {K : PySem.W.Frag} {R : Hp} {xs : List V} {ds : List PD} {i : Int} {d : PD} (s : ShA K R xs ds) (h : L2.atI ds i = some d) : ∃ v, L2.atI xs i = some v ∧ Sh K R v d := by
  unfold L2.atI at h ⊢
  rw [s.length]
  cases e : ixN ds.length i with
  | none => rw [e] at h; cases h
  | some j => rw [e] at h; exact s.get h
theorem DGet.rd {H : Hp} {a : Addr} {kvs : List (Key × V)} {k : Key} (e : Rd H a (.dK kvs)) : DGet H a (kV k) (valV kvs k) := .inl ⟨kvs, k, e, rfl, rfl⟩
theorem bo_key {K : PySem.W.Frag} {R H : Hp} {v : V} {d : PD} {k : Key} (h : Bo K R H v d) (e : keyD d = some k) : v = kV k ∧ d = kD k := by
  have e2 := keyD_inv e
  subst e2
  cases k with
  | inl i => exact ⟨h.int, rfl⟩
  | inr x => exact ⟨h.str, rfl⟩
theorem k_ix {w : World} : Ok2 X.K w (rIxA X.K) gIx := fun R H x y d e s hx hd he hg Q q => by
  unfold gIx at hg
  split at hg
  · rename_i ds i
    cases z : atI ds i with
    | none => rw [z] at hg; cases hg
    | some r =>
      rw [z] at hg; cases hg
      obtain ⟨p, xs, rfl, h1, s1⟩ := hd.list hx
      obtain ⟨v, h2, s2⟩ := s1.atI z
      exact .inl (.inl ⟨p, xs, i, v, rfl, he.int, h1, h2, q _ _ ⟨s2, rfl⟩⟩)
  · rename_i ds i
    cases z : atI ds i with
    | none => rw [z] at hg; cases hg
    | some r =>
      rw [z] at hg; cases hg
      obtain ⟨p, xs, rfl, h1, s1⟩ := hd.tuple hx
      obtain ⟨v, h2, s2⟩ := s1.atI z
      exact .inl (.inr (.inl ⟨p, xs, i, v, rfl, he.int, h1, h2, q _ _ ⟨s2, rfl⟩⟩))
  · rename_i x i
    by_cases hl : x.length ≤ sizeLine
    · rw [if_pos hl] at hg
      cases z : atI x.cps.toList i with
      | none => rw [z] at hg; cases hg
      | some c => rw [z] at hg; cases hg; exact .inl (.inr (.inr ⟨x, i, c, hd.str, he.int, hl, z, q _ _ ⟨.str _, rfl⟩⟩))
    · rw [if_neg hl] at hg; cases hg
  · rename_i kvs k
    cases z : keyD e with
    | none => rw [z] at hg; cases hg
    | some key =>
      rw [z] at hg
      obtain ⟨rfl, ek⟩ := bo_key he z
      subst ek
      obtain ⟨a, ws, kvs', rfl, hr, sk, rfl⟩ := hd.dict hx
      rcases lookD_k (k := key) sk with ⟨v, d', h1, h2, h3⟩ | ⟨h1, h2⟩
      · simp only [h2] at hg
        cases hg
        have g := DGet.rd (k := key) hr
        rw [h1] at g
        exact .inr ⟨a, v, rfl, g, q _ _ ⟨h3, rfl⟩⟩
      · simp only [h2] at hg
        cases hg
  · cases hg
def rInD' (neg : Bool) : L2.R2 := fun x y H Q => ∃ a o, y = .ref a ∧ DGet H a x o ∧ Q (.bl (if neg then !o.isSome else o.isSome)) H
theorem op_inDict (hu : X.A.units + 1 < cLine) : OpR X (compareOp .In) (rInD' false) := by
  intro pins s σ H x y v u Q I rx ry h
  obtain ⟨a, o, rfl, g, q⟩ := h
  cases ry
  exact d_in hu I g rx fun s' I' => ⟨.bl o.isSome, H, I', rfl, q⟩
theorem op_notInDict (hu : X.A.units + 1 < cLine) : OpR X (compareOp .NotIn) (rInD' true) := by
  intro pins s σ H x y v u Q I rx ry h
  obtain ⟨a, o, rfl, g, q⟩ := h
  cases ry
  exact d_notIn hu I g rx fun s' I' => ⟨.bl (!o.isSome), H, I', rfl, q⟩
/-- in a tuple -/
def rInT (K : PySem.W.Frag) (neg : Bool) : L2.R2 := fun x y H Q => ∃ d ds, Dp K H x d ∧ Dp K H y (.tuple ds) ∧ SeqAt.shaped d = true ∧ SeqAt.shaped (.tuple ds) = true ∧ Q (.bl (if neg then !(ds.any fun z => PyData.eqv z d) else ds.any fun z => PyData.eqv z d)) H
theorem op_inT (hu : X.A.units + 65 < cLine) : OpR X (compareOp .In) (rInT X.K false) := by
  intro pins s σ H x y v u Q I rx ry ⟨d, ds, hd, he, sd, se, q⟩
  obtain ⟨as, r1⟩ := Dp.reads I d x v hd rx
  obtain ⟨bs, r2⟩ := Dp.reads I (.tuple ds) y u he ry
  exact SeqAt.in_tuple_reads r2 r1 (SeqAt.canLay_of_shaped se) (SeqAt.canLay_of_shaped sd) (PyProof.Rows.room_in_shaped sd hu) ⟨.bl _, H, I, rfl, q⟩
theorem op_notInT (hu : X.A.units + 65 < cLine) : OpR X (compareOp .NotIn) (rInT X.K true) := by
  intro pins s σ H x y v u Q I rx ry ⟨d, ds, hd, he, sd, se, q⟩
  obtain ⟨as, r1⟩ := Dp.reads I d x v hd rx
  obtain ⟨bs, r2⟩ := Dp.reads I (.tuple ds) y u he ry
  exact SeqAt.notIn_tuple_reads r2 r1 (SeqAt.canLay_of_shaped se) (SeqAt.canLay_of_shaped sd) (PyProof.Rows.room_in_shaped sd hu) ⟨.bl _, H, I, rfl, q⟩
def rInA (K : PySem.W.Frag) : L2.R2 := fun x y H Q => rInD K x y H Q ∨ rInT K false x y H Q ∨ rInD' false x y H Q ∨ (∃ i j, x = .str i ∧ y = .str j ∧ Q (.bl (!(Builtin.Str.occurrences j i 0 j.length 1).isEmpty)) H)
def rNotInA (K : PySem.W.Frag) : L2.R2 := fun x y H Q => rNotInD K x y H Q ∨ rInT K true x y H Q ∨ rInD' true x y H Q
theorem o_in (hu : X.A.units + 65 < cLine) : OpR X (compareOp .In) (rInA X.K) := (op_inD hu).or ((op_inT hu).or ((op_inDict (by omega)).or op_in_str))
theorem o_notIn (hu : X.A.units + 65 < cLine) : OpR X (compareOp .NotIn) (rNotInA X.K) := (op_notInD hu).or ((op_notInT hu).or (op_notInDict (by omega)))
def gIn : PD → PD → Option Bool
  | d, .list ds => if SeqAt.shaped d && SeqAt.shaped (.list ds) then some (ds.any fun z => PyData.eqv z d) else none
  | d, .tuple ds => if SeqAt.shaped d && SeqAt.shaped (.tuple ds) then some (ds.any fun z => PyData.eqv z d) else none
  | k, .dict kvs => match keyD k with
    | some _ => some (lookD kvs k).isSome
    | none => none
  | .str x, .str y => some (!(Builtin.Str.occurrences y x 0 y.length 1).isEmpty)
  | _, _ => none
def gNotIn : PD → PD → Option Bool
  | d, .list ds => if SeqAt.shaped d && SeqAt.shaped (.list ds) then some (!ds.any fun z => PyData.eqv z d) else none
  | d, .tuple ds => if SeqAt.shaped d && SeqAt.shaped (.tuple ds) then some (!ds.any fun z => PyData.eqv z d) else none
  | k, .dict kvs => match keyD k with
    | some _ => some (!(lookD kvs k).isSome)
    | none => none
  | _, _ => none
theorem k_in : OkB X.K (rInA X.K) gIn := fun R H x y d e k hx hd he hg Q q => by
  unfold gIn at hg
  split at hg
  · rename_i ds
    cases hs : SeqAt.shaped d && SeqAt.shaped (.list ds) with
    | false => rw [hs] at hg; cases hg
    | true =>
      rw [hs] at hg; cases hg
      rw [Bool.and_eq_true] at hs
      exact .inl ⟨d, ds, (hd.full hx (noDic (shaped_lay hs.1))).dp (shaped_lay hs.1), (he.full hx (noDic (shaped_lay hs.2))).dp (shaped_lay hs.2), hs.1, hs.2, q⟩
  · rename_i ds
    cases hs : SeqAt.shaped d && SeqAt.shaped (.tuple ds) with
    | false => rw [hs] at hg; cases hg
    | true =>
      rw [hs] at hg; cases hg
      rw [Bool.and_eq_true] at hs
      exact .inr (.inl ⟨d, ds, (hd.full hx (noDic (shaped_lay hs.1))).dp (shaped_lay hs.1), (he.full hx (noDic (shaped_lay hs.2))).dp (shaped_lay hs.2), hs.1, hs.2, q⟩)
  · rename_i kvs
    cases z : keyD d with
    | none => rw [z] at hg; cases hg
    | some key =>
      rw [z] at hg
      obtain ⟨rfl, ek⟩ := bo_key hd z
      subst ek
      obtain ⟨a, ws, kvs', rfl, hr, sk, rfl⟩ := he.dict hx
      cases hg
      refine .inr (.inr (.inl ⟨a, valV ws key, rfl, DGet.rd hr, ?_⟩))
      rcases lookD_k (k := key) sk with ⟨v, d', h1, h2, h3⟩ | ⟨h1, h2⟩
      · rw [h2] at q; rw [h1]; exact q
      · rw [h2] at q; rw [h1]; exact q
  · cases hg; exact .inr (.inr (.inr ⟨_, _, hd.str, he.str, q⟩))
  · cases hg
theorem k_notIn : OkB X.K (rNotInA X.K) gNotIn := fun R H x y d e k hx hd he hg Q q => by
  unfold gNotIn at hg
  split at hg
  · rename_i ds
    cases hs : SeqAt.shaped d && SeqAt.shaped (.list ds) with
    | false => rw [hs] at hg; cases hg
    | true =>
      rw [hs] at hg; cases hg
      rw [Bool.and_eq_true] at hs
      exact .inl ⟨d, ds, (hd.full hx (noDic (shaped_lay hs.1))).dp (shaped_lay hs.1), (he.full hx (noDic (shaped_lay hs.2))).dp (shaped_lay hs.2), hs.1, hs.2, q⟩
  · rename_i ds
    cases hs : SeqAt.shaped d && SeqAt.shaped (.tuple ds) with
    | false => rw [hs] at hg; cases hg
    | true =>
      rw [hs] at hg; cases hg
      rw [Bool.and_eq_true] at hs
      exact .inr (.inl ⟨d, ds, (hd.full hx (noDic (shaped_lay hs.1))).dp (shaped_lay hs.1), (he.full hx (noDic (shaped_lay hs.2))).dp (shaped_lay hs.2), hs.1, hs.2, q⟩)
  · rename_i kvs
    cases z : keyD d with
    | none => rw [z] at hg; cases hg
    | some key =>
      rw [z] at hg
      obtain ⟨rfl, ek⟩ := bo_key hd z
      subst ek
      obtain ⟨a, ws, kvs', rfl, hr, sk, rfl⟩ := he.dict hx
      cases hg
      refine .inr (.inr ⟨a, valV ws key, rfl, DGet.rd hr, ?_⟩)
      rcases lookD_k (k := key) sk with ⟨v, d', h1, h2, h3⟩ | ⟨h1, h2⟩
      · rw [h2] at q; rw [h1]; exact q
      · rw [h2] at q; rw [h1]; exact q
  · cases hg

/-! ### built-ins of one argument -/
def gLen : PD → Option AV
  | .list ds => some (.sh (.int (ds.length : Int)))
  | .tuple ds => some (.sh (.int (ds.length : Int)))
  | .str x => if x.length ≤ sizeLine then some (.sh (.int (x.length : Int))) else none
  | .dict kvs => some (.sh (.int (kvs.length : Int)))
  | _ => none
def rLenA (K : PySem.W.Frag) : List V → Hp → VK → Prop := fun xs H Q => (∃ y n, xs = [y] ∧ LenV K y H n ∧ Q (.int (n : Int)) H) ∨ ∃ a kvs, xs = [.ref a] ∧ Rd H a (.dK kvs) ∧ Q (.int (kvs.length : Int)) H
theorem call_lenA : CallR X (.builtin "len") (rLenA X.K) := by
  intro pins s σ H xs us Q I r h
  rcases h with h | ⟨a, kvs, rfl, e, q⟩
  · exact call_len pins s σ H xs us Q I r h
  · obtain ⟨u, rfl, rx⟩ := vals1 r
    cases rx
    exact d_len I e fun t s' I' => ⟨.int kvs.length, H, I', ⟨t, rfl⟩, q⟩
theorem k_len {w : World} : Ok1 X.K w (fun x => rLenA X.K [x]) gLen := fun R H x d s hx hd hg Q q => by
  unfold gLen at hg
  split at hg
  · cases hg
    obtain ⟨p, xs, rfl, h1, s1⟩ := hd.list hx
    exact .inl ⟨_, xs.length, rfl, .inl ⟨xs, h1, rfl⟩, by rw [s1.length]; exact q _ _ ⟨.int _, rfl⟩⟩
  · cases hg
    obtain ⟨p, xs, rfl, h1, s1⟩ := hd.tuple hx
    exact .inl ⟨_, xs.length, rfl, .inr ⟨xs, h1, rfl⟩, by rw [s1.length]; exact q _ _ ⟨.int _, rfl⟩⟩
  · rename_i y
    by_cases hl : y.length ≤ sizeLine
    · rw [if_pos hl] at hg; cases hg
      exact .inl ⟨_, y.length, rfl, by rw [hd.str]; exact ⟨hl, rfl⟩, q _ _ ⟨.int _, rfl⟩⟩
    · rw [if_neg hl] at hg; cases hg
  · cases hg
    obtain ⟨a, ws, kvs', rfl, hr, sk, rfl⟩ := hd.dict hx
    refine .inr ⟨a, ws, rfl, hr, ?_⟩
    have := q (.int (kvs'.length : Int)) H
    rw [sk.length]
    rw [List.length_map] at q
    exact q _ _ ⟨.int _, rfl⟩
  · cases hg
def gAbs : PD → Option AV
  | .int i => some (.sh (.int (if i < 0 then -i else i)))
  | _ => none
theorem k_abs {w : World} : Ok1 X.K w (fun x H Q => ∃ i, [x] = [.int i] ∧ Q (.int (if i < 0 then -i else i)) H) gAbs := fun R H x d s hx hd hg Q q => by
  unfold gAbs at hg
  split at hg
  · cases hg; exact ⟨_, by rw [hd.int], q _ _ ⟨.int _, rfl⟩⟩
  · cases hg
def gInt : PD → Option AV
  | .int i => some (.sh (.int i))
  | .bool b => some (.sh (.int (if b then 1 else 0)))
  | _ => none
theorem k_int {w : World} : Ok1 X.K w (fun x H Q => (∃ i, [x] = [.int i] ∧ Q (.int i) H) ∨ ∃ k, [x] = [.bl k] ∧ Q (.int (if k then 1 else 0)) H) gInt := fun R H x d s hx hd hg Q q => by
  unfold gInt at hg
  split at hg
  · cases hg; exact .inl ⟨_, by rw [hd.int], q _ _ ⟨.int _, rfl⟩⟩
  · cases hg; exact .inr ⟨_, by rw [hd.bool], q _ _ ⟨.int _, rfl⟩⟩
  · cases hg
def gList : PD → Option AV
  | .list ds => some (.own (.lst ds))
  | .tuple ds => some (.own (.lst ds))
  | _ => none
theorem k_list {w : World} : Ok1 X.K w (fun x H Q => ∃ p ys, [x] = [.ref p] ∧ (SqL X.K H p ys ∨ SqT X.K H p ys) ∧ ∀ l, H l = none → Q (.ref l) (upd H l (.lst ys))) gList := fun R H x d s hx hd hg Q q => by
  unfold gList at hg
  split at hg
  · cases hg
    obtain ⟨p, xs, rfl, h1, s1⟩ := hd.list hx
    exact ⟨p, xs, rfl, .inl h1, fun l hl => q _ _ ⟨l, _, rfl, hl, rfl, _, upd_same, s1⟩⟩
  · cases hg
    obtain ⟨p, xs, rfl, h1, s1⟩ := hd.tuple hx
    exact ⟨p, xs, rfl, .inr h1, fun l hl => q _ _ ⟨l, _, rfl, hl, rfl, _, upd_same, s1⟩⟩
  · cases hg
def gMax : PD → PD → Option AV
  | .int i, .int j => some (.sh (.int (if j > i then j else i)))
  | _, _ => none
def gMin : PD → PD → Option AV
  | .int i, .int j => some (.sh (.int (if j < i then j else i)))
  | _, _ => none
theorem k_max {w : World} : Ok2 X.K w (fun x y H Q => ∃ i j, [x, y] = [.int i, .int j] ∧ Q (.int (if j > i then j else i)) H) gMax := fun R H x y d e s hx hd he hg Q q => by
  unfold gMax at hg
  split at hg
  · cases hg; exact ⟨_, _, by rw [hd.int, he.int], q _ _ ⟨.int _, rfl⟩⟩
  · cases hg
theorem k_min {w : World} : Ok2 X.K w (fun x y H Q => ∃ i j, [x, y] = [.int i, .int j] ∧ Q (.int (if j < i then j else i)) H) gMin := fun R H x y d e s hx hd he hg Q q => by
  unfold gMin at hg
  split at hg
  · cases hg; exact ⟨_, _, by rw [hd.int, he.int], q _ _ ⟨.int _, rfl⟩⟩
  · cases hg
end

/-! ### isinstance(x, T), T a built-in type -/
def tyN : PD → String
  | .none => "NoneType"
  | .bool _ => "bool"
  | .int _ => "int"
  | .str _ => "str"
  | .list _ => "list"
  | .tuple _ => "tuple"
  | .dict _ => "dict"
def gIsi (T : String) : PD → Option AV := fun d => (kitB (tyN d) T).map fun b => .sh (.bool b)
section
variable {X : Cx} {Wx : WX}
theorem bo_ty {K : PySem.W.Frag} {R H : Hp} {v : V} {d : PD} (e : Ex R H) (h : Bo K R H v d) : TyX K H v (.type (tyN d)) := by
  cases d with
  | none => rw [h.none]; exact .base .non
  | bool b => rw [h.bool]; exact .base (.bl b)
  | int i => rw [h.int]; exact .base (.int i)
  | str x => rw [h.str]; exact .base (.str x)
  | list ds =>
    obtain ⟨a, xs, rfl, (h1 | ⟨o, h1⟩) | ⟨o, its, n, h1, h2, _⟩, _⟩ := h.list e
    · exact .base (.lst h1)
    · exact .base (.frz h1)
    · exact .kList h1 h2
  | tuple ds =>
    obtain ⟨a, xs, rfl, (h1 | ⟨o, h1⟩) | ⟨o, its, n, h1, h2, _⟩, _⟩ := h.tuple e
    · exact .base (.tup h1)
    · exact .fTuple h1
    · exact .kTuple h1 h2
  | dict kvs =>
    obtain ⟨a, ws, kvs', rfl, h1 | ⟨o, h1⟩, _, _⟩ := h.dict e
    · exact .base (.dK h1)
    · exact .fDict h1
theorem k_isi {w : World} {T : String} : Ok1 X.K w (fun x H Q => rIsi X.K [x, .ty T] H Q) (gIsi T) := fun R H x d s hx hd hg Q q => by
  unfold gIsi at hg
  cases z : kitB (tyN d) T with
  | none => rw [z] at hg; cases hg
  | some b =>
    rw [z] at hg; cases hg
    exact ⟨x, .ty T, _, .type T, b, rfl, .ty T, bo_ty hx hd, kit_ty z, q _ _ ⟨.bl b, rfl⟩⟩
theorem v_isi {call a c : Expr} {fa : Ev} {T : String} (hc : ∀ {t : TA}, PA X [a, c] t → PE X call (tCB (rIsi X.K) t)) (ht : PE X c (tC (.ty T))) (ha : Vx X Wx a fa)
    (hs : starEach [a, c] X.env = (false, eval a X.env) :: starEach [c] X.env := by rfl) (hs2 : starEach [c] X.env = (false, eval c X.env) :: starEach [] X.env := by rfl) : Vx X Wx call (op1 fa (gIsi T)) :=
  fun F => (hc (pa_cons (ha F) (pa_cons ht pa_nil hs2) hs)).mono fun σ H Q h => top1 (r := fun x H Q => rIsi X.K [x, .ty T] H Q) k_isi h
end

/-! ### slices -/
def cutD (xs : List PD) (lo hi : Option Int) : List PD := (xs.drop (HT.sIx xs.length 0 lo)).take (HT.sIx xs.length xs.length hi - HT.sIx xs.length 0 lo)
def prt (f : Option Ev) : Sto → Res (Option Int) := fun Γ => match f with
  | none => .ok none Γ
  | some f => (f Γ).bind fun a Γ1 => match peek Γ1 a with
    | some (.int i) => .ok (some i) Γ1
    | _ => .bad
def slc (f : Ev) (lo hi : Option Ev) : Ev := fun Γ => (f Γ).bind fun a Γ1 => (prt lo Γ1).bind fun l Γ2 => (prt hi Γ2).bind fun h Γ3 => match peek Γ3 a with
  | some (.list ds) => .ok (.own (.lst (cutD ds l h))) Γ3
  | _ => .bad
section
variable {X : Cx} {Wx : WX} {e : Expr} {fa : Ev}
def Px (X : Cx) (Wx : WX) (e : Option Expr) (f : Option Ev) : Prop := ∀ F, PO X e (fun σ H Q => ∃ Γ R, Abs X.K X.w F σ Γ R H ∧ Post X.K X.w F Wx σ Γ R H (fun o Γ' R' H' => Q o H') (prt f Γ))
theorem p_none : Px X Wx none none := fun F => ⟨fun pins s σ H Q I ⟨Γ, R, A, h⟩ => po_none.run pins s σ H Q I (h.at A (.refl _ _ _ _))⟩
theorem p_some (h : Vx X Wx e fa) : Px X Wx (some e) (some fa) := fun F => ⟨fun pins s σ H Q I ⟨Γ, R, A, q⟩ => (po_some (h F)).run pins s σ H Q I (by
  refine ⟨Γ, R, A, Post.mono (Post.split q) fun a Γ1 R1 H1 A1 S1 h1 v hv => ?_⟩
  cases ea : peek Γ1 a with
  | none => simp only [ea] at h1; exact h1.elim
  | some d =>
    simp only [ea] at h1
    cases d with
    | int i => exact ⟨i, (peek_bo A1 hv ea).int, h1.at A1 S1⟩
    | _ => exact h1.elim)⟩
theorem cut_sh {K : PySem.W.Frag} {R : Hp} {xs : List V} {ds : List PD} (s : ShA K R xs ds) (lo hi : Option Int) : ShA K R (cutV xs lo hi) (cutD ds lo hi) := by
  unfold cutV cutD
  rw [s.length]
  exact (s.drop _).take _
theorem v_slc {lo hi : Option Expr} {fl fh : Option Ev} {p2 pos : Pos} (he : Vx X Wx e fa) (hl : Px X Wx lo fl) (hh : Px X Wx hi fh) : Vx X Wx (.Subscript e (.Slice lo hi none p2) pos) (slc fa fl fh) := fun F =>
  (pe_slice sl_list (he F) (hl F) (hh F)).mono fun σ H Q h => by
    obtain ⟨Γ, R, A, h⟩ := h
    refine ⟨Γ, R, A, h.split.mono fun a Γ1 R1 H1 A1 S1 h1 v hv => ?_⟩
    refine ⟨Γ1, R1, A1, (h1.split.shift S1).mono fun l Γ2 R2 H2 A2 S2 h2 => ?_⟩
    refine ⟨Γ2, R2, A2, (h2.split.shift (S1.trans S2)).mono fun u Γ3 R3 H3 A3 S3 h3 => ?_⟩
    have hv3 := (hv.keep S2).keep S3
    cases ea : peek Γ3 a with
    | none => simp only [ea] at h3; exact h3.elim
    | some d =>
      simp only [ea] at h3
      cases d with
      | list ds =>
        obtain ⟨p, xs, rfl, hq, hs⟩ := (peek_bo A3 hv3 ea).list A3.rh
        refine ⟨p, xs, rfl, hq, fun q hq' => ?_⟩
        exact RR.post (P := Q) A3 ((S1.trans S2).trans S3) (v := .ref q) (s := .own (.lst (cutD ds l u))) ⟨q, _, rfl, hq', rfl, _, upd_same, cut_sh hs l u⟩ h3
      | _ => exact h3.elim
end

/-! ### changes of a thing of one's own -/
/-- x.m(e), x in slot i: the thing becomes another, and a value comes -/
def mut1 (i : Nat) (f : Ev) (g : Ob → PD → Option (PD × Ob)) : Ev := fun Γ => match Γ[i]? with
  | some (.own _ (.lst _)) => (shr f Γ).bind fun d Γ1 => match Γ1[i]? with
    | some (.own t o) => match g o d with
      | some (r, o') => .ok (.sh r) (Γ1.set i (.own t o'))
      | none => .bad
    | _ => .bad
  | _ => .bad
def mut0 (i : Nat) (g : Ob → Option (PD × Ob)) : Ev := fun Γ => match Γ[i]? with
  | some (.own t (.lst ds)) => match g (.lst ds) with
    | some (r, o') => .ok (.sh r) (Γ.set i (.own t o'))
    | none => .bad
  | _ => .bad
def MOk1 (K : PySem.W.Frag) (w : World) (r : V → List V → Hp → VK → Prop) (g : Ob → PD → Option (PD × Ob)) : Prop :=
  ∀ R H p o y d z o', Ex R H → ObR K w R H p o → Sh K R y d → g o d = some (z, o') → ∀ Q : VK, (∀ v ho, Sh K R v z → ObR K w R (upd H p ho) p o' → Q v (upd H p ho)) → r (.ref p) [y] H Q
def MOk0 (K : PySem.W.Frag) (w : World) (r : V → List V → Hp → VK → Prop) (g : Ob → Option (PD × Ob)) : Prop :=
  ∀ R H p o z o', Ex R H → ObR K w R H p o → g o = some (z, o') → ∀ Q : VK, (∀ v ho, Sh K R v z → ObR K w R (upd H p ho) p o' → Q v (upd H p ho)) → r (.ref p) [] H Q
def gApp : Ob → PD → Option (PD × Ob)
  | .lst ds, d => if ds.length < lim then some (.none, .lst (ds ++ [d])) else none
  | _, _ => none
noncomputable def gPopAt : Ob → PD → Option (PD × Ob)
  | .lst ds, .int i => if big i then (match ixN ds.length i with
    | some k => match ds[k]? with
      | some d => some (d, .lst (ds.eraseIdx k))
      | none => none
    | none => none) else none
  | _, _ => none
def gPop : Ob → Option (PD × Ob)
  | .lst ds => match ds[ds.length - 1]? with
    | some d => some (d, .lst ds.dropLast)
    | none => none
  | _ => none
def gClear : Ob → Option (PD × Ob)
  | .lst _ => some (.none, .lst [])
  | _ => none
section
variable {X : Cx} {Wx : WX} {e : Expr} {fa : Ev}
theorem k_app {K : PySem.W.Frag} {w : World} : MOk1 K w rAppend gApp := fun R H p o y d z o' hx ho hy hg Q q => by
  unfold gApp at hg
  split at hg
  · rename_i ds
    by_cases hl : ds.length < lim
    · rw [if_pos hl] at hg; cases hg
      obtain ⟨xs, h1, s1⟩ := ho
      exact ⟨p, xs, y, rfl, rfl, h1, lim_lt (by rw [s1.length]; exact hl), q _ _ .non ⟨_, upd_same, s1.append (.cons hy .nil)⟩⟩
    · rw [if_neg hl] at hg; cases hg
  · cases hg
theorem k_popAt {K : PySem.W.Frag} {w : World} : MOk1 K w rPopAt gPopAt := fun R H p o y d z o' hx ho hy hg Q q => by
  unfold gPopAt at hg
  split at hg
  · rename_i ds i
    cases hb : big i with
    | false => rw [hb] at hg; cases hg
    | true =>
      rw [hb] at hg
      simp only [if_true] at hg
      obtain ⟨b1, b2⟩ := big_lt hb
      cases hk : ixN ds.length i with
      | none => rw [hk] at hg; cases hg
      | some k =>
        rw [hk] at hg
        simp only at hg
        cases hd : ds[k]? with
        | none => rw [hd] at hg; cases hg
        | some d =>
          rw [hd] at hg; cases hg
          obtain ⟨xs, h1, s1⟩ := ho
          obtain ⟨v, h2, s2⟩ := s1.get hd
          cases hy
          have hs := (ixN_seq hk).1
          rw [← s1.length] at hs
          exact ⟨p, xs, i, k, v, rfl, rfl, h1, by omega, by omega, hs, h2, q _ _ s2 ⟨_, upd_same, s1.eraseIdx k⟩⟩
  · cases hg
theorem k_pop {K : PySem.W.Frag} {w : World} : MOk0 K w rPop gPop := fun R H p o z o' hx ho hg Q q => by
  unfold gPop at hg
  split at hg
  · rename_i ds
    cases hd : ds[ds.length - 1]? with
    | none => rw [hd] at hg; cases hg
    | some d =>
      rw [hd] at hg; cases hg
      obtain ⟨xs, h1, s1⟩ := ho
      obtain ⟨v, h2, s2⟩ := s1.get hd
      exact ⟨p, xs, v, rfl, rfl, h1, by rw [s1.length]; exact h2, q _ _ s2 ⟨_, upd_same, s1.dropLast⟩⟩
  · cases hg
theorem k_clear {K : PySem.W.Frag} {w : World} : MOk0 K w rClear gClear := fun R H p o z o' hx ho hg Q q => by
  unfold gClear at hg
  split at hg
  · cases hg
    obtain ⟨xs, h1, s1⟩ := ho
    exact ⟨p, xs, rfl, rfl, h1, q _ _ .non ⟨[], upd_same, .nil⟩⟩
  · cases hg
theorem v_mut1 (i : Nat) {call a : Expr} {r : V → List V → Hp → VK → Prop} {g : Ob → PD → Option (PD × Ob)} (hc : ∀ {t : TA}, PA X [a] t → PE X call (tBM X.K "list" r (tVar i) t)) (hr : MOk1 X.K X.w r g) (ha : Vx X Wx a fa)
    (hs : starEach [a] X.env = (false, eval a X.env) :: starEach [] X.env := by rfl) : Vx X Wx call (mut1 i fa g) := fun F => (hc (pa_cons (d_of ha F) pa_nil hs)).mono fun σ H Q h => by
  obtain ⟨Γ, R, A, h⟩ := h
  unfold mut1 at h
  cases e0 : Γ[i]? with
  | none => simp only [e0] at h; exact h.elim
  | some s =>
    cases s with
    | no => simp only [e0] at h; exact h.elim
    | sh d => simp only [e0] at h; exact h.elim
    | own t o =>
      cases o with
      | lst ds =>
        simp only [e0] at h
        obtain ⟨p, h1, rp, tg, xs, hx, sx⟩ := A.own i t _ e0
        refine ⟨.ref p, h1, .inl ⟨rfl, xs, .inl (.inl hx)⟩, Γ, R, A, h.split.mono fun d Γ1 R1 H1 A1 S1 h2 v hv => ?_⟩
        cases e1 : Γ1[i]? with
        | none => simp only [e1] at h2; exact h2.elim
        | some s1 =>
          cases s1 with
          | no => simp only [e1] at h2; exact h2.elim
          | sh d => simp only [e1] at h2; exact h2.elim
          | own t1 o1 =>
            simp only [e1] at h2
            obtain ⟨p1, g1, rp1, tg1, ob1⟩ := A1.own i t1 o1 e1
            rw [h1] at g1; cases g1
            cases eg : g o1 d with
            | none => simp only [eg] at h2; exact h2.elim
            | some ro =>
              obtain ⟨rz, o'⟩ := ro
              simp only [eg] at h2
              refine hr R1 H1 p o1 v d rz o' A1.rh ob1 hv eg Q fun z ho hz ob' => ?_
              obtain ⟨A2, S2⟩ := A1.mut e1 h1 ob'
              exact h2.at A2 (S1.trans S2) z hz
      | _ => simp only [e0] at h; exact h.elim
theorem v_mut0 (i : Nat) {call : Expr} {r : V → List V → Hp → VK → Prop} {g : Ob → Option (PD × Ob)} (hc : PE X call (tBM0 X.K "list" r (tVar i))) (hr : MOk0 X.K X.w r g) : Vx X Wx call (mut0 i g) := fun F => hc.mono fun σ H Q h => by
  obtain ⟨Γ, R, A, h⟩ := h
  unfold mut0 at h
  cases e0 : Γ[i]? with
  | none => simp only [e0] at h; exact h.elim
  | some s =>
    cases s with
    | no => simp only [e0] at h; exact h.elim
    | sh d => simp only [e0] at h; exact h.elim
    | own t o =>
      cases o with
      | lst ds =>
        simp only [e0] at h
        obtain ⟨p, h1, rp, tg, xs, hx, sx⟩ := A.own i t _ e0
        refine ⟨.ref p, h1, .inl ⟨rfl, xs, .inl (.inl hx)⟩, ?_⟩
        cases eg : g (.lst ds) with
        | none => simp only [eg] at h; exact h.elim
        | some ro =>
          obtain ⟨rz, o'⟩ := ro
          simp only [eg] at h
          refine hr R H p (.lst ds) rz o' A.rh ⟨xs, hx, sx⟩ eg Q fun z ho hz ob' => ?_
          obtain ⟨A2, S2⟩ := A.mut e0 h1 ob'
          exact h.at A2 S2 z hz
      | _ => simp only [e0] at h; exact h.elim
end
/-- x[k] = e: a list's place, a dict's key -/
def gSet : Ob → PD → PD → Option Ob
  | .lst ds, .int k, d => (ixN ds.length k).map fun j => .lst (ds.set j d)
  | .dic kvs, k, d => match keyD k with
    | some key => if kvs.length < lim then some (.dic (putP kvs key d)) else none
    | none => none
  | _, _, _ => none
where putP (kvs : List (Key × PD)) (k : Key) (d : PD) : List (Key × PD) := if kvs.any fun kv => decide (kv.1 = k) then kvs.map fun kv => if kv.1 = k then (kv.1, d) else kv else kvs ++ [(k, d)]
def stI (i : Nat) (fi fv : Ev) : Sd := fun Γ => (shr fv Γ).st fun d Γ1 => match Γ1[i]? with
  | some (.own _ _) => (fi Γ1).st fun a Γ2 => match peek Γ2 a, Γ2[i]? with
    | some k, some (.own t o) => match gSet o k d with
      | some o' => .nx (Γ2.set i (.own t o'))
      | none => .bad
    | _, _ => .bad
  | _ => .bad
end G

namespace G
open PySem L2

theorem hu64 {k : Nat} {A : Around} (hr : RoomG k A) : A.units + 64 < cLine := hr.r.units
theorem hu65 {k : Nat} {A : Around} (hr : RoomG k A) : A.units + 65 < cLine := by have := hr.r.un; omega

/-! ### x[k] = e -/
def rSetA : TSet := fun o i v H Q => rSetL o i v H Q ∨ ∃ a H4, o = .ref a ∧ DPut H a i v H4 ∧ Q H4
section
variable {X : Cx} {Wx : WX} {e ix : Expr} {fv fi : Ev}
theorem set_any (hu : X.A.units + 1 < cLine) : PSet X rSetA := by
  intro pins s σ H o i v ov iv u Q I ro ri rv h
  rcases h with h | ⟨a, H4, rfl, g, q⟩
  · exact set_list pins s σ H o i v ov iv u Q I ro ri rv h
  · cases ro
    exact d_setItem hu I g ri rv fun s' I' => ⟨H4, I', q⟩
theorem shk_map {K : PySem.W.Frag} {R : Hp} {k : Key} {v : V} {d : PD} : ∀ {ws : List (Key × V)} {kvs : List (Key × PD)}, ShK K R ws kvs → Sh K R v d → ShK K R (ws.map fun kv => if kv.1 = k then (kv.1, v) else kv) (kvs.map fun kv => if kv.1 = k then (kv.1, d) else kv)
  | _, _, .nil, _ => .nil
  | _, _, .cons (k := k') h t, hv => by
    simp only [List.map_cons]
    by_cases e : k' = k
    · rw [if_pos e, if_pos e]; exact .cons hv (shk_map t hv)
    · rw [if_neg e, if_neg e]; exact .cons h (shk_map t hv)
theorem shk_snoc {K : PySem.W.Frag} {R : Hp} {k : Key} {v : V} {d : PD} : ∀ {ws : List (Key × V)} {kvs : List (Key × PD)}, ShK K R ws kvs → Sh K R v d → ShK K R (ws ++ [(k, v)]) (kvs ++ [(k, d)])
  | _, _, .nil, hv => .cons hv .nil
  | _, _, .cons h t, hv => .cons h (shk_snoc t hv)
theorem putP_k {K : PySem.W.Frag} {R : Hp} {k : Key} {v : V} {d : PD} {ws : List (Key × V)} {kvs : List (Key × PD)} (h : ShK K R ws kvs) (hv : Sh K R v d) : ShK K R (putK ws k v) (gSet.putP kvs k d) := by
  have hk := h.keys
  have hany : (ws.any fun kv => decide (kv.1 = k)) = (kvs.any fun kv => decide (kv.1 = k)) := by
    have : ∀ {α : Type} (l : List (Key × α)), (l.any fun kv => decide (kv.1 = k)) = ((l.map (·.1)).any fun x => decide (x = k)) := fun l => by rw [List.any_map]; rfl
    rw [this, this, hk]
  unfold putK gSet.putP
  rw [hany]
  cases (kvs.any fun kv => decide (kv.1 = k)) with
  | true => exact shk_map h hv
  | false => exact shk_snoc h hv
theorem s_sub (i : Nat) {x : Str} {p1 p2 pos : Pos} (hu : X.A.units + 1 < cLine) (hi : Vx X Wx ix fi) (hv : Vx X Wx e fv) (hN : X.N[i]? = some x := by rfl) (hvis : Vis X.env.scope x := by first | exact Or.inl rfl | exact Or.inr (Or.inl rfl) | exact Or.inr (Or.inr rfl)) (hd : (x == ("__debug__" : Str)) = false := by decide)
    (hcd : (x == ("__classdict__" : Str)) = false := by decide)
    (ha : ∀ v, assign (.Subscript (.Name x p1) ix p2) X.env v = (do
      let ov ← holding [v] (eval (.Name x p1) X.env)
      let iv ← holding [v, ov] (eval ix X.env)
      standAt p2
      holding [v, ov, iv] (setItem ov iv v)
      release [v, ov, iv] []) := by intro _; rfl) (hs : swapsWithSole [.Subscript (.Name x p1) ix p2] e pos.line X.env = pure false := by rfl) (hw : swappedStores [.Subscript (.Name x p1) ix p2] e X.env = pure none := by rfl)
    (h1 : (assignEach [.Subscript (.Name x p1) ix p2] X.env).map (·.2) = [assign (.Subscript (.Name x p1) ix p2) X.env] := by rfl) : Sx X Wx (.Assign [.Subscript (.Name x p1) ix p2] e pos) (stI i fi fv) := fun F =>
  (ps_asg (d_of hv F) (pg_sub (pe_var hN hvis hd hcd) (hi F) (set_any hu) ha) hs hw h1).mono fun D σ H ⟨Γ, R, A, h⟩ => by
    refine ⟨Γ, R, A, (h.split A).mono fun d Γ1 R1 H1 A1 S1 h1 v hv => ?_⟩
    cases e0 : Γ1[i]? with
    | none => simp only [e0] at h1; exact h1.elim
    | some s =>
      cases s with
      | no => simp only [e0] at h1; exact h1.elim
      | sh d => simp only [e0] at h1; exact h1.elim
      | own t o =>
        simp only [e0] at h1
        obtain ⟨p, g1, rp, tg, ob⟩ := A1.own i t o e0
        refine ⟨.ref p, g1, Γ1, R1, A1, (h1.split A1).mono fun a Γ2 R2 H2 A2 S2 h2 y hy => ?_⟩
        cases ea : peek Γ2 a with
        | none => simp only [ea] at h2; exact h2.elim
        | some k =>
          cases e2 : Γ2[i]? with
          | none => simp only [ea, e2] at h2; exact h2.elim
          | some s2 =>
            cases s2 with
            | no => simp only [ea, e2] at h2; exact h2.elim
            | sh d => simp only [ea, e2] at h2; exact h2.elim
            | own t2 o2 =>
              simp only [ea, e2] at h2
              obtain ⟨p2, g2, rp2, tg2, ob2⟩ := A2.own i t2 o2 e2
              rw [g1] at g2; cases g2
              cases eg : gSet o2 k d with
              | none => simp only [eg] at h2; exact h2.elim
              | some o' =>
                simp only [eg] at h2
                have hk := peek_bo A2 hy ea
                have hv2 : Sh X.K R2 v d := Sh.mono S2.ex hv
                unfold gSet at eg
                split at eg
                · rename_i ds k'
                  obtain ⟨xs, hx, sx⟩ := ob2
                  cases ej : ixN ds.length k' with
                  | none => rw [ej] at eg; cases eg
                  | some j =>
                    rw [ej] at eg; cases eg
                    refine .inl ⟨p, xs, k', j, rfl, hk.int, hx, by rw [sx.length]; exact ej, ?_⟩
                    obtain ⟨A3, _⟩ := A2.mut (o' := .lst (ds.set j d)) (ho := .lst (xs.set j v)) e2 g1 ⟨_, upd_same, sx.set j hv2⟩
                    exact h2 σ R2 _ A3
                · rename_i k' kvs
                  cases ek : keyD k with
                  | none => rw [ek] at eg; cases eg
                  | some key =>
                    rw [ek] at eg
                    by_cases hl : kvs.length < lim
                    · simp only [if_pos hl] at eg; cases eg
                      obtain ⟨ws, hx, sx⟩ := ob2
                      obtain ⟨rfl, _⟩ := bo_key hk ek
                      refine .inr ⟨p, _, rfl, DPut.k hx (lim_lt (by rw [sx.length]; exact hl)), ?_⟩
                      obtain ⟨A3, _⟩ := A2.mut (o' := .dic (gSet.putP kvs key d)) (ho := .dK (putK ws key v)) e2 g1 ⟨_, upd_same, putP_k sx hv2⟩
                      exact h2 σ R2 _ A3
                    · simp only [if_neg hl] at eg; cases eg
                · cases eg
end

/-! ### sets of ints -/
def set0 : Ev := fun Γ => .ok (.own (.set [])) Γ
def sAdd (i : Nat) (f : Ev) : Ev := fun Γ => match Γ[i]? with
  | some (.own _ (.set _)) => (shr f Γ).bind fun d Γ1 => match d, Γ1[i]? with
    | .int k, some (.own t (.set xs)) => if xs.length + 1 < 4000 then .ok (.sh .none) (Γ1.set i (.own t (.set (if decide (k ∈ xs) then xs else xs ++ [k])))) else .bad
    | _, _ => .bad
  | _ => .bad
def inS (neg : Bool) (f : Ev) (i : Nat) : Ev := fun Γ => (f Γ).bind fun a Γ1 => match peek Γ1 a, Γ1[i]? with
  | some (.int k), some (.own _ (.set xs)) => .ok (.sh (.bool (if neg then !decide (k ∈ xs) else decide (k ∈ xs)))) Γ1
  | _, _ => .bad
section
variable {X : Cx} {Wx : WX} {e a : Expr} {fa : Ev} {pos : Pos}
theorem v_set0 {call : Expr} (h : PE X call (fun σ H Q => rSet0 X.w [] H Q)) : Vx X Wx call set0 := fun F => h.mono fun σ H Q ⟨Γ, R, A, h⟩ => by
  refine ⟨rfl, fun p hp => ?_⟩
  refine RR.post (P := Q) A (.refl _ _ _ _) (v := .ref p) (s := .own (.set [])) ⟨p, _, rfl, hp, rfl, ?_, List.nodup_nil⟩ h
  rw [upd_same]
  show some (SetO X.w p (fun _ => false) 0) = some (SetO X.w p (fun i => decide (i ∈ ([] : List Int))) 0)
  congr 2
theorem lim_scan {n : Nat} (h : n < 4000) : n < scanBound := Nat.lt_of_lt_of_le h (by decide)
theorem v_sadd (i : Nat) {call : Expr} (hc : ∀ {t : TA}, PA X [a] t → PE X call (tSAdd X.w (tVar i) t)) (ha : Vx X Wx a fa) (hs : starEach [a] X.env = (false, eval a X.env) :: starEach [] X.env := by rfl) : Vx X Wx call (sAdd i fa) := fun F =>
  (hc (pa_cons (d_of ha F) pa_nil hs)).mono fun σ H Q ⟨Γ, R, A, h⟩ => by
    unfold sAdd at h
    cases e0 : Γ[i]? with
    | none => simp only [e0] at h; exact h.elim
    | some s =>
      cases s with
      | no => simp only [e0] at h; exact h.elim
      | sh d => simp only [e0] at h; exact h.elim
      | own t o =>
        cases o with
        | set xs =>
          simp only [e0] at h
          obtain ⟨p, g1, rp, tg, hx, nx⟩ := A.own i t _ e0
          refine ⟨.ref p, g1, ⟨p, _, _, rfl, hx⟩, Γ, R, A, h.split.mono fun d Γ1 R1 H1 A1 S1 h1 v hv => ?_⟩
          cases d with
          | int k =>
            cases e1 : Γ1[i]? with
            | none => simp only [e1] at h1; exact h1.elim
            | some s1 =>
              cases s1 with
              | no => simp only [e1] at h1; exact h1.elim
              | sh d => simp only [e1] at h1; exact h1.elim
              | own t1 o1 =>
                cases o1 with
                | set ys =>
                  simp only [e1] at h1
                  by_cases hl : ys.length + 1 < 4000
                  · rw [if_pos hl] at h1
                    obtain ⟨p1, g2, rp1, tg1, hy, ny⟩ := A1.own i t1 _ e1
                    rw [g1] at g2; cases g2
                    cases hv
                    refine ⟨p, k, _, _, rfl, rfl, hy, lim_scan hl, ?_⟩
                    have eo : SetO X.w p (fun j => decide (j ∈ ys) || decide (j = k)) (if decide (k ∈ ys) = true then ys.length else ys.length + 1) = SetO X.w p (fun j => decide (j ∈ (if decide (k ∈ ys) then ys else ys ++ [k]))) (if decide (k ∈ ys) then ys else ys ++ [k]).length := by
                      by_cases hk : k ∈ ys
                      · rw [decide_eq_true hk]
                        simp only [if_true]
                        congr 1
                        funext j
                        by_cases hj : j = k
                        · subst hj; simp [hk]
                        · simp [hj]
                      · rw [decide_eq_false hk]
                        simp only [Bool.false_eq_true, if_false, List.length_append, List.length_singleton]
                        congr 1
                        funext j
                        simp
                    have nd : (if decide (k ∈ ys) then ys else ys ++ [k]).Nodup := by
                      by_cases hk : k ∈ ys
                      · rw [decide_eq_true hk]; exact ny
                      · rw [decide_eq_false hk]
                        simp only [Bool.false_eq_true, if_false]
                        rw [List.nodup_append]
                        exact ⟨ny, by simp, fun a ha b hb e => by
                          rw [List.mem_singleton] at hb; subst hb; subst e; exact hk ha⟩
                    obtain ⟨A2, S2⟩ := A1.mut (o' := .set (if decide (k ∈ ys) then ys else ys ++ [k])) (ho := SetO X.w p (fun j => decide (j ∈ ys) || decide (j = k)) (if decide (k ∈ ys) = true then ys.length else ys.length + 1)) e1 g1 ⟨by rw [upd_same, eo], nd⟩
                    exact h1.at A2 (S1.trans S2) .non .non
                  · rw [if_neg hl] at h1; exact h1.elim
                | _ => simp only [e1] at h1; exact h1.elim
          | _ => exact h1.elim
        | _ => simp only [e0] at h; exact h.elim
theorem inS_ok {K : PySem.W.Frag} {w : World} {F : Fr} {σ : St} {H : Hp} {Q : VK} {i : Nat} {neg : Bool} {r : L2.R2} (hr : ∀ k a (S : Int → Bool) n H (Q : VK), H a = some (SetO w a S n) → Q (.bl (if neg then !S k else S k)) H → r (.int k) (.ref a) H Q) (h : TV K w F Wx (inS neg fa i) σ H Q) :
    tOp r (TV K w F Wx fa) (tVar i) σ H Q := by
  obtain ⟨Γ, R, A, h⟩ := h
  refine ⟨Γ, R, A, h.split.mono fun a Γ1 R1 H1 A1 S1 h1 x hx => ?_⟩
  cases ea : peek Γ1 a with
  | none => simp only [ea] at h1; exact h1.elim
  | some d =>
    cases d with
    | int k =>
      cases e1 : Γ1[i]? with
      | none => simp only [ea, e1] at h1; exact h1.elim
      | some s1 =>
        cases s1 with
        | no => simp only [ea, e1] at h1; exact h1.elim
        | sh d => simp only [ea, e1] at h1; exact h1.elim
        | own t1 o1 =>
          cases o1 with
          | set ys =>
            simp only [ea, e1] at h1
            obtain ⟨p1, g2, rp1, tg1, hy, ny⟩ := A1.own i t1 _ e1
            rw [(peek_bo A1 hx ea).int]
            exact ⟨_, g2, hr k p1 _ _ H1 Q hy (h1.at A1 S1 _ (.bl _))⟩
          | _ => simp only [ea, e1] at h1; exact h1.elim
    | _ => simp only [ea] at h1; exact h1.elim
theorem v_inS (i : Nat) {x : Str} {p1 : Pos} (ha : Vx X Wx a fa) (hN : X.N[i]? = some x := by rfl) (hvis : Vis X.env.scope x := by first | exact Or.inl rfl | exact Or.inr (Or.inl rfl) | exact Or.inr (Or.inr rfl)) (hd : (x == ("__debug__" : Str)) = false := by decide)
    (hcd : (x == ("__classdict__" : Str)) = false := by decide) (hm : behindInMarks .In (.Name x p1) = false := by rfl) : Vx X Wx (.Compare a [.In] [.Name x p1] pos) (inS false fa i) := fun F =>
  (pe_cmpR or_sin (ha F) (pe_var hN hvis hd hcd) hm).mono fun σ H Q h => inS_ok (neg := false) (fun k a S n H Q h q => ⟨k, a, S, n, rfl, rfl, h, q⟩) h
theorem b_inS (i : Nat) {x : Str} {p1 : Pos} (ha : Vx X Wx a fa) (hN : X.N[i]? = some x := by rfl) (hvis : Vis X.env.scope x := by first | exact Or.inl rfl | exact Or.inr (Or.inl rfl) | exact Or.inr (Or.inr rfl)) (hd : (x == ("__debug__" : Str)) = false := by decide)
    (hcd : (x == ("__classdict__" : Str)) = false := by decide) (hm : behindInMarks .In (.Name x p1) = false := by rfl) : Bx X Wx (.Compare a [.In] [.Name x p1] pos) (tst (inS false fa i)) := fun F =>
  (pt_cmpR or_sin (ha F) (pe_var hN hvis hd hcd) hm).mono fun σ H Q h => inS_ok (neg := false) (fun k a S n H Q h q => ⟨k, a, S, n, rfl, rfl, h, q⟩) (tst_ok h)
theorem b_notInS (i : Nat) {x : Str} {p1 : Pos} (ha : Vx X Wx a fa) (hN : X.N[i]? = some x := by rfl) (hvis : Vis X.env.scope x := by first | exact Or.inl rfl | exact Or.inr (Or.inl rfl) | exact Or.inr (Or.inr rfl)) (hd : (x == ("__debug__" : Str)) = false := by decide)
    (hcd : (x == ("__classdict__" : Str)) = false := by decide) (hm : behindInMarks .NotIn (.Name x p1) = false := by rfl) : Bx X Wx (.Compare a [.NotIn] [.Name x p1] pos) (tst (inS true fa i)) := fun F =>
  (pt_cmpR or_snotin (ha F) (pe_var hN hvis hd hcd) hm).mono fun σ H Q h => inS_ok (neg := true) (fun k a S n H Q h q => ⟨k, a, S, n, rfl, rfl, h, q⟩) (tst_ok h)
end

/-! ### enumerate, zip -/
def zipD : List PD → List PD → List PD
  | d :: ds, e :: es => .tuple [d, e] :: zipD ds es
  | _, _ => []
def itZ (f g : Ev) : Sto → Res (List PD) := fun Γ => (shr f Γ).bind fun d Γ1 => (shr g Γ1).bind fun e Γ2 => match d, e with
  | .list ds, .list es => .ok (zipD ds es) Γ2
  | _, _ => .bad
section
variable {K : PySem.W.Frag} {w : World} {R0 : Hp}
theorem enumD_get {ds : List PD} {i : Nat} {d : PD} (h : (enumD ds)[i]? = some d) : ∃ x, ds[i]? = some x ∧ d = .tuple [.int (i : Int), x] := by
  unfold enumD at h
  rw [List.getElem?_mapIdx] at h
  cases e : ds[i]? with
  | none => rw [e] at h; cases h
  | some x => rw [e] at h; cases h; exact ⟨x, rfl, rfl⟩
theorem enumD_len (ds : List PD) : (enumD ds).length = ds.length := by unfold enumD; rw [List.length_mapIdx]
theorem it_enum {a : Addr} {xs : List V} {ds : List PD} (h : SqL K R0 a xs) (s : ShA K R0 xs ds) : ItOk true K w R0 (Ite K a) (enumD ds) where
  stop := fun R H i e1 e2 hi => ⟨xs, Evl.ex_l (Evl.Ex.trans e1 e2) h, by rw [s.length]; rw [enumD_len] at hi; exact hi⟩
  go := fun R H i d e1 e2 hd => by
    obtain ⟨x, hx, _⟩ := enumD_get hd
    obtain ⟨v, h1, h2⟩ := s.get hx
    exact ⟨xs, v, Evl.ex_l (Evl.Ex.trans e1 e2) h, h1⟩
  yld := fun R H i d x H' e1 e2 hd hy => by
    obtain ⟨T, v, rfl, hT, rfl, hy⟩ := hy
    obtain ⟨x, hx, rfl⟩ := enumD_get hd
    obtain ⟨v', h1, h2⟩ := s.get hx
    have z := hy xs (Evl.ex_l (Evl.Ex.trans e1 e2) h)
    rw [h1] at z; cases z
    exact .inr ⟨T, _, hT, rfl, .inr ⟨T, _, _, rfl, rfl, upd_same, .cons (.int _) (.cons (h2.mono e1) .nil)⟩⟩
theorem zipD_get : ∀ {ds es : List PD} {i : Nat} {d : PD}, (zipD ds es)[i]? = some d → ∃ x y, ds[i]? = some x ∧ es[i]? = some y ∧ d = .tuple [x, y]
  | [], _, i, d, h => by simp [zipD] at h
  | _ :: _, [], i, d, h => by simp [zipD] at h
  | x :: ds, y :: es, 0, d, h => by simp [zipD] at h; exact ⟨x, y, rfl, rfl, h.symm⟩
  | x :: ds, y :: es, i + 1, d, h => by
    obtain ⟨a, b, h1, h2, h3⟩ := zipD_get (ds := ds) (es := es) (i := i) (by simpa [zipD] using h)
    exact ⟨a, b, by simpa using h1, by simpa using h2, h3⟩
theorem zipD_len : ∀ {ds es : List PD} {i : Nat}, (zipD ds es).length ≤ i → ds.length ≤ i ∨ es.length ≤ i
  | [], _, i, _ => .inl (by simp)
  | _ :: _, [], i, _ => .inr (by simp)
  | x :: ds, y :: es, 0, h => by simp [zipD] at h
  | x :: ds, y :: es, i + 1, h => by
    rcases zipD_len (ds := ds) (es := es) (i := i) (by simpa [zipD] using h) with z | z
    · exact .inl (by simpa using z)
    · exact .inr (by simpa using z)
theorem it_zip {a b : Addr} {xs ys : List V} {ds es : List PD} (h : SqL K R0 a xs) (s : ShA K R0 xs ds) (h' : SqL K R0 b ys) (s' : ShA K R0 ys es) : ItOk true K w R0 (Itz K a b) (zipD ds es) where
  stop := fun R H i e1 e2 hi => ⟨xs, ys, Evl.ex_l (Evl.Ex.trans e1 e2) h, Evl.ex_l (Evl.Ex.trans e1 e2) h', by rw [s.length, s'.length]; exact zipD_len hi⟩
  go := fun R H i d e1 e2 hd => by
    obtain ⟨x, y, hx, hy, _⟩ := zipD_get hd
    obtain ⟨v, h1, _⟩ := s.get hx
    obtain ⟨u, h2, _⟩ := s'.get hy
    exact ⟨xs, ys, v, u, Evl.ex_l (Evl.Ex.trans e1 e2) h, Evl.ex_l (Evl.Ex.trans e1 e2) h', h1, h2⟩
  yld := fun R H i d x H' e1 e2 hd hy => by
    obtain ⟨T, v, u, rfl, hT, rfl, hv, hu⟩ := hy
    obtain ⟨x, y, hx, hy, rfl⟩ := zipD_get hd
    obtain ⟨v', h1, g1⟩ := s.get hx
    obtain ⟨u', h2, g2⟩ := s'.get hy
    have z := hv xs (Evl.ex_l (Evl.Ex.trans e1 e2) h)
    rw [h1] at z; cases z
    have z := hu ys (Evl.ex_l (Evl.Ex.trans e1 e2) h')
    rw [h2] at z; cases z
    exact .inr ⟨T, _, hT, rfl, .inr ⟨T, _, _, rfl, rfl, upd_same, .cons (g1.mono e1) (.cons (g2.mono e1) .nil)⟩⟩
end
section
variable {X : Cx} {Wx : WX} {e e2 : Expr} {fa fb : Ev} {p pos tpos : Pos} {elts : List Expr} {kk : Nat}
theorem i_enum (hg : Gl X "enumerate") (hm : X.mg "enumerate" = none) (h : Vx X Wx e fa) (hs : starEach [e] X.env = [(false, eval e X.env)] := by rfl) (hs' : starEach [e] X.env = (false, eval e X.env) :: starEach [] X.env := by rfl) :
    Ix true X Wx (.Tuple elts kk tpos) (.Call (.Name "enumerate" p) [e] [] pos) (itE fa) := fun F => (pi_enum hg hm (pa_cons (d_of h F) pa_nil hs') hs).mono fun σ H Q ⟨Γ, R, A, h⟩ => by
  refine ⟨Γ, R, A, h.split.mono fun d Γ1 R1 H1 A1 S1 h1 v hv => ?_⟩
  cases d with
  | list ds =>
    cases hv with
    | lst hq hs => exact ⟨_, _, rfl, Evl.ex_l A1.rh hq, h1.at A1 S1 _ (it_enum hq hs)⟩
  | _ => exact h1.elim
theorem i_zip (hg : Gl X "zip") (hm : X.mg "zip" = none) (ha : Vx X Wx e fa) (hb : Vx X Wx e2 fb) (hs : starEach [e, e2] X.env = (false, eval e X.env) :: starEach [e2] X.env := by rfl) (hpl : (backTo pos (starEach [e2] X.env)).any (·.1) = false := by rfl)
    (hs2' : starEach [e2] X.env = (false, eval e2 X.env) :: starEach [] X.env := by rfl) :
    Ix true X Wx (.Tuple elts kk tpos) (.Call (.Name "zip" p) [e, e2] [] pos) (itZ fa fb) := fun F => (pi_zip hg hm (pa_cons (d_of ha F) (pa_cons (d_of hb F) pa_nil hs2') hs) hs hpl).mono fun σ H Q ⟨Γ, R, A, h⟩ => by
  refine ⟨Γ, R, A, h.split.mono fun d Γ1 R1 H1 A1 S1 h1 v hv => ?_⟩
  refine ⟨Γ1, R1, A1, (h1.split.shift S1).mono fun d2 Γ2 R2 H2 A2 S2 h2 u hu => ?_⟩
  cases d with
  | list ds =>
    cases d2 with
    | list es =>
      have hv2 := Sh.mono S2.ex hv
      cases hv2 with
      | lst hq hs =>
        cases hu with
        | lst hq' hs' => exact ⟨_, _, _, _, rfl, Evl.ex_l A2.rh hq, Evl.ex_l A2.rh hq', h2.at A2 (S1.trans S2) _ (it_zip hq hs hq' hs')⟩
    | _ => exact h2.elim
  | _ => exact h2.elim
end
end G

namespace G
open PySem L2

/-! ### repr of data without dicts -/
def gRepr (d : PD) : Option AV := if d.canLay0 && !d.hasDict && d.showable && decide (d.depth ≤ 60) && decide (d.shown.length + 64 ≤ sizeLine) then some (.sh (.str d.shown)) else none
section
variable {X : Cx}
def rRepr (K : PySem.W.Frag) : List V → Hp → VK → Prop := fun xs H Q => ∃ v d, xs = [v] ∧ Dp K H v d ∧ d.hasDict = false ∧ d.showable = true ∧ d.depth ≤ 60 ∧ d.shown.length + 64 ≤ sizeLine ∧ Q (.str d.shown) H
theorem cr_repr (hg : X.A.guards = some []) (hu : X.A.units + 65 < cLine) : CallR X (.builtin "repr") (rRepr X.K) := by
  intro pins s σ H xs us Q I r h
  obtain ⟨v, d, rfl, hf, hn, hs, hd, hl, q⟩ := h
  obtain ⟨u, rfl, r1⟩ := vals1 r
  obtain ⟨as, hr⟩ := Dp.reads I d v u hf r1
  cases hr with
  | none => exact PySem.P.repr_of_none ⟨.str _, H, I.tok _, ⟨_, rfl⟩, q⟩
  | bool b => exact PySem.P.repr_of_bool ⟨.str _, H, I.tok _, ⟨_, rfl⟩, q⟩
  | int i t => exact PySem.P.repr_of_int (by simpa [PyData.showable] using hs) ⟨.str _, H, I.tok _, ⟨_, rfl⟩, q⟩
  | str x t => exact PySem.P.repr_of_str ⟨.str _, H, I.tok _, ⟨_, rfl⟩, q⟩ (hsz := by have z : (PyData.str x).shown.length = (reprText x).length := rfl; omega)
  | list h1 h2 h3 h4 => exact repr_of_reads' (.list h1 h2 h3 h4) hs (fun z => by rw [hn] at z; cases z) hg (by omega) (fun _ _ e => e) (fun h' u tk hk => ⟨.str _, H, I.kept hk, ⟨_, rfl⟩, q⟩) (by omega)
  | tuple h1 h2 h3 h4 => exact repr_of_reads' (.tuple h1 h2 h3 h4) hs (fun z => by rw [hn] at z; cases z) hg (by omega) (fun _ _ e => e) (fun h' u tk hk => ⟨.str _, H, I.kept hk, ⟨_, rfl⟩, q⟩) (by omega)
  | dict h1 h2 h3 h4 h5 => simp [PyData.hasDict] at hn
theorem k_repr {w : World} : Ok1 X.K w (fun x => rRepr X.K [x]) gRepr := fun R H x d s hx hd hg Q q => by
  unfold gRepr at hg
  split at hg
  · rename_i hc
    simp only [Bool.and_eq_true, decide_eq_true_eq, Bool.not_eq_true'] at hc
    cases hg
    exact ⟨x, d, rfl, (hd.full hx (noDic hc.1.1.1.1)).dp hc.1.1.1.1, hc.1.1.1.2, hc.1.1.2, hc.1.2, hc.2, q _ _ ⟨.str _, rfl⟩⟩
  · cases hg
end
def repB (b : Bool) : Str := if b then "True" else "False"
@[simp] theorem gRepr_b (b : Bool) : gRepr (.bool b) = some (.sh (.str (repB b))) := by
  cases b <;> rfl

/-! ### sum, sorted, min, max of a list -/
section
open PySem.Spec
def bI (b : Bool) : Int := if b then 1 else 0
theorem preSum_bools (f : Nat → Bool) : ∀ n, 0 ≤ preSum (fun i => bI (f i)) n ∧ preSum (fun i => bI (f i)) n ≤ n
  | 0 => ⟨Int.le_refl _, Int.le_refl _⟩
  | n + 1 => by
    have := preSum_bools f n
    show 0 ≤ preSum (fun i => bI (f i)) n + bI (f n) ∧ preSum (fun i => bI (f i)) n + bI (f n) ≤ ((n + 1 : Nat) : Int)
    have h : 0 ≤ bI (f n) ∧ bI (f n) ≤ 1 := by unfold bI; split <;> decide
    omega
section
variable {prog : Program} {w : World} {A : Around} {R : Result → Shared → Prop} {I : Addr} {fp wr : List Addr} {n : Nat} {P : Nat → Value → Prop} {St : Nat → Heap → Prop}
theorem sum_loopB (W : Walks prog w A.in1 I fp wr n P St) (f : Nat → Bool) (hval : ∀ i v, P i v → v = .bool (f i)) (hn : n ≤ sizeLine) (S : Addr) (hSf : S ∉ fp) :
    ∀ (k i : Nat) (s : Shared) (tA : Tok) (c : Nat), n - i = k → i ≤ n → St i s.heap → s.heap.get? S = some { cls := .type "list", dict := none, data := .seq #[.int (preSum (fun i => bI (f i)) i) tA] c, slots := #[] } →
    (∀ h' tk t', (∀ b o, b ∉ S :: wr → s.heap.get? b = some o → h'.get? b = some o) → R (.ok (.ret (.int (preSum (fun i => bI (f i)) n) t'))) { s with heap := h', toks := tk }) → codeAny (model prog w) A (.builtin "sum.loop" ⟨[.ref I, .ref S, rawInt 0, rawInt 0], []⟩) R s := by
  have hSw : S ∉ wr := fun h => hSf (W.sub _ h)
  intro k
  induction k with
  | zero =>
    intro i s tA c hk hi hst hS hR
    have hin : i = n := by omega
    subst hin
    refine codeAny_builtin F.entry_sum_loop ?_
    rw [Around.under_plainId F.plain_sum_loop _]
    show wpAny _ A.in1 (seqItems? (.ref S) >>= _) _ _ s
    refine wpAny_bind (wpAny_seqItems hS rfl ?_)
    show wpAny _ A.in1 (tryCatch (pyNext (.ref I)) _ >>= _) _ _ s
    refine wpAny_bind (wpAny_tryCatch (W.done s _ _ hst fun h' tk hm => ?_))
    exact wpAny_pure (hR h' tk tA fun b o hb e => hm b o (fun h => hb (List.mem_cons_of_mem _ h)) e)
  | succ k ih =>
    intro i s tA c hk hi hst hS hR
    have hlt : i < n := by omega
    refine codeAny_builtin F.entry_sum_loop ?_
    rw [Around.under_plainId F.plain_sum_loop _]
    show wpAny _ A.in1 (seqItems? (.ref S) >>= _) _ _ s
    refine wpAny_bind (wpAny_seqItems hS rfl ?_)
    show wpAny _ A.in1 (tryCatch (pyNext (.ref I)) _ >>= _) _ _ s
    refine wpAny_bind (wpAny_tryCatch (W.item i s _ _ hlt hst fun v h' tk hP hst' hm => ?_))
    obtain rfl := hval i v hP
    have hS' := hm S _ hSw hS
    have h1 := preSum_bools f i
    have h3 : 0 ≤ bI (f i) ∧ bI (f i) ≤ 1 := by unfold bI; split <;> decide
    have hn' : n ≤ 1000000000000 := Nat.le_trans hn (by decide)
    have hc : ((decide (-(2 ^ 63) ≤ bI (f i)) && decide (bI (f i) < 2 ^ 63)) && (decide (-(2 ^ 63) ≤ preSum (fun i => bI (f i)) i + bI (f i)) && decide (preSum (fun i => bI (f i)) i + bI (f i) < 2 ^ 63))) = true := by
      simp only [Bool.and_eq_true, decide_eq_true_eq]
      refine ⟨⟨?_, ?_⟩, ?_, ?_⟩ <;> omega
    show wpAny _ A.in1 (if (_ : Bool) = true then (mkInt (preSum (fun i => bI (f i)) i + bI (f i)) >>= _) else _) _ _ _
    refine wpAny_ite_true (decide_eq_true hc) ?_
    refine wpAny_bind (wpAny_mkInt ?_)
    show wpAny _ A.in1 (updateSeq S (fun _ => #[.int (preSum (fun i => bI (f i)) i + bI (f i)) tk]) >>= _) _ _ _
    refine wpAny_bind ?_
    refine wpAny_updateSeq hS' rfl (wpAny_pure ⟨plainId_quiet F.plain_sum_loop _, ih (i + 1) _ tk _ (by omega) hlt ?_ (Heap.get?_update_self _ hS' rfl) fun h'' tk' t'' hm'' => ?_⟩)
    · exact W.frame _ _ _ hst' fun b hb o e => (Heap.get?_update_other _ _ (fun h : S = b => hSf (by rw [h]; exact hb))).trans e
    · refine hR h'' tk' t'' fun b o hb e => hm'' b o hb ?_
      have hb1 : b ≠ S := fun h => hb (h ▸ List.mem_cons_self)
      have hb2 : b ∉ wr := fun h => hb (List.mem_cons_of_mem _ h)
      exact (Heap.get?_update_other _ _ (Ne.symm hb1)).trans (hm b o hb2 e)
end
section
variable {prog : Program} {w : World} {A : Around} {E : Value → Shared → Prop} {s : Shared}
theorem call_sum_bools {l : Addr} {items : Array Value} {f : Nat → Bool} {Q : Value → Shared → Prop} (hh : A.handled = none) (hl : s.heap.IsList l items) (hf : ∀ (i : Nat) (v : Value), items[i]? = some v → v = .bool (f i)) (hn : items.size ≤ sizeLine)
    (h : ∀ h' tk t', (∀ b o, s.heap.get? b = some o → h'.get? b = some o) → Q (.int (preSum (fun i => bI (f i)) items.size) t') { s with heap := h', toks := tk }) :
    wpAny (model prog w) A (call (.builtin "sum") [.ref l]) Q E s := by
  have hlt : l < s.heap.objs.size := by obtain ⟨_, e, _⟩ := hl; exact Heap.lt_size e
  refine call_function_tree F.kind_sum F.plain_sum F.entry_sum (F.args_sum1 _) ?_
  unfold Builtin.«sum»
  simp only [List.length_cons, List.length_nil]
  rw [if_neg (by decide)]
  refine wpAny_bind (wpAny_of_eq (show Builtin.Builtins.bindParams "sum" ["start"] 0 { } = pure [none] from rfl) ?_)
  refine wpAny_bind (wpAny_pyIter_list hl ?_)
  have hst : (s.heap.push { cls := .type "list_iterator", data := .fields #[.ref l, .int 0 0] }).IsListIter s.heap.objs.size l 0 ∧ (s.heap.push { cls := .type "list_iterator", data := .fields #[.ref l, .int 0 0] }).IsList l items := ⟨⟨_, Heap.get?_push_size _ rfl, rfl, rfl⟩, hl.push _⟩
  refine wpAny_bind (wpAny_mkInt ?_)
  refine wpAny_bind (wpAny_pure ?_)
  simp only [List.forIn_cons, List.forIn_nil]
  refine wpAny_bind (wpAny_bind (wpAny_bind (wpAny_isInstance (T := "int") (b := false) (typeIs_int _ _ _) sub_int_str ?_)))
  simp only [Bool.false_eq_true, if_false]
  refine wpAny_pure (wpAny_bind (wpAny_bind (wpAny_isInstance (T := "int") (b := false) (typeIs_int _ _ _) sub_int_bytes ?_)))
  simp only [Bool.false_eq_true, if_false]
  refine wpAny_pure (wpAny_bind (wpAny_bind (wpAny_isInstance (T := "int") (b := false) (typeIs_int _ _ _) sub_int_bytearray ?_)))
  simp only [Bool.false_eq_true, if_false]
  refine wpAny_pure (wpAny_pure ?_)
  refine wpAny_bind (wpAny_newObj_type ?_)
  have hsz : (s.heap.push { cls := .type "list_iterator", data := .fields #[.ref l, .int 0 0] }).objs.size = s.heap.objs.size + 1 := Heap.size_push ..
  have hSf : (s.heap.push { cls := .type "list_iterator", data := .fields #[.ref l, .int 0 0] }).objs.size ∉ [s.heap.objs.size, l] := by
    rw [hsz]
    intro hm
    rcases List.mem_cons.mp hm with h | h
    · exact Nat.succ_ne_self _ h
    · rw [List.mem_singleton] at h
      exact Nat.ne_of_lt (Nat.lt_succ_of_lt hlt) h.symm
  have W := Walks.list (prog := prog) (w := w) (A := A.in1) hh s.heap.objs.size l (Nat.ne_of_lt hlt) items
  refine wpAny_pure ⟨plainId_quiet F.plain_sum_loop _, sum_loopB W f (fun i v hv => hf i v hv) hn _ hSf items.size 0 _ s.toks 0 rfl (Nat.zero_le _)
    (W.frame 0 _ _ hst fun b _ o e => Heap.get?_push_of_some _ e) (Heap.get?_push_size _ rfl) fun h' tk t' hm => ?_⟩
  refine h h' tk t' fun b o e => ?_
  have hb : b < s.heap.objs.size := Heap.lt_size e
  refine hm b o (fun hmem => ?_) (Heap.get?_push_of_some _ (Heap.get?_push_of_some _ e))
  rcases List.mem_cons.mp hmem with h | h
  · rw [h, hsz] at hb
    exact Nat.not_succ_lt_self hb
  · rw [List.mem_singleton] at h
    exact Nat.ne_of_lt hb h
end
end
def allI : List PD → Option (List Int)
  | [] => some []
  | .int i :: ds => (allI ds).map (i :: ·)
  | _ => none
def allB : List PD → Option (List Bool)
  | [] => some []
  | .bool i :: ds => (allB ds).map (i :: ·)
  | _ => none
theorem allI_eq : ∀ {ds : List PD} {ns : List Int}, allI ds = some ns → ds = ns.map PyData.int
  | [], _, h => by cases h; rfl
  | .int i :: ds, _, h => by
    obtain ⟨ms, e, rfl⟩ := Option.map_eq_some_iff.mp h
    rw [allI_eq e]; rfl
  | .none :: _, _, h => nomatch h
  | .bool _ :: _, _, h => nomatch h
  | .str _ :: _, _, h => nomatch h
  | .list _ :: _, _, h => nomatch h
  | .tuple _ :: _, _, h => nomatch h
  | .dict _ :: _, _, h => nomatch h
theorem allB_eq : ∀ {ds : List PD} {ns : List Bool}, allB ds = some ns → ds = ns.map PyData.bool
  | [], _, h => by cases h; rfl
  | .bool i :: ds, _, h => by
    obtain ⟨ms, e, rfl⟩ := Option.map_eq_some_iff.mp h
    rw [allB_eq e]; rfl
  | .none :: _, _, h => nomatch h
  | .int _ :: _, _, h => nomatch h
  | .str _ :: _, _, h => nomatch h
  | .list _ :: _, _, h => nomatch h
  | .tuple _ :: _, _, h => nomatch h
  | .dict _ :: _, _, h => nomatch h
@[simp] theorem allI_ints : ∀ ns : List Int, allI (ns.map PyData.int) = some ns
  | [] => rfl
  | n :: ns => by
    show (allI (ns.map PyData.int)).map (n :: ·) = _
    rw [allI_ints ns]; rfl
@[simp] theorem allB_bools : ∀ ns : List Bool, allB (ns.map PyData.bool) = some ns
  | [] => rfl
  | n :: ns => by
    show (allB (ns.map PyData.bool)).map (n :: ·) = _
    rw [allB_bools ns]; rfl
theorem sh_ints {K : PySem.W.Frag} {R : Hp} : ∀ {ns : List Int} {xs : List V}, ShA K R xs (ns.map PyData.int) → xs = ns.map V.int
  | [], _, h => by cases h; rfl
  | n :: ns, _, h => by
    cases h with
    | cons h t => cases h; rw [sh_ints t]; rfl
theorem sh_bools {K : PySem.W.Frag} {R : Hp} : ∀ {ns : List Bool} {xs : List V}, ShA K R xs (ns.map PyData.bool) → xs = ns.map V.bl
  | [], _, h => by cases h; rfl
  | n :: ns, _, h => by
    cases h with
    | cons h t => cases h; rw [sh_bools t]; rfl
theorem preSum_map (bs : List Bool) : ∀ n, n ≤ bs.length → preSum (fun i => bI (bs.getD i false)) n = ((bs.take n).map bI).sum
  | 0, _ => rfl
  | n + 1, h => by
    show preSum (fun i => bI (bs.getD i false)) n + bI (bs.getD n false) = _
    rw [preSum_map bs n (by omega), List.take_add_one, List.getElem?_eq_getElem (by omega), List.map_append, List.sum_append]
    simp [List.getD_eq_getElem?_getD, List.getElem?_eq_getElem (show n < bs.length by omega)]
section
variable {X : Cx}
def rSumA (K : PySem.W.Frag) : List V → Hp → VK → Prop := fun vs H Q => rSum K vs H Q ∨ ∃ (a : Addr) (bs : List Bool), vs = [V.ref a] ∧ SqL K H a (bs.map V.bl) ∧ Q (.int (bs.map bI).sum) H
theorem cr_sumA (hc : X.calm = true) : CallR X (.builtin "sum") (rSumA X.K) := by
  intro pins s σ H vs us Q I r h
  rcases h with h | ⟨a, bs, rfl, hs, q⟩
  · exact cr_sum hc pins s σ H vs us Q I r h
  · obtain ⟨its, rv, hl, hz⟩ := I.list hs
    rw [Vals.ref1 r]
    have ei := Vals.bls rv
    subst ei
    refine call_sum_bools (f := fun i => bs.getD i false) (I.ok.hd hc) hl.isList (fun i v hv => ?_) ?_ fun h' tk t' hk => ⟨.int _, H, I.kept hk, ⟨_, rfl⟩, ?_⟩
    · rw [List.getElem?_toArray, List.getElem?_map] at hv
      obtain ⟨b, hb, rfl⟩ := Option.map_eq_some_iff.mp hv
      rw [List.getD_eq_getElem?_getD, hb]
      rfl
    · simpa using hz
    · have := preSum_map bs bs.length (Nat.le_refl _)
      rw [List.take_length] at this
      simp only [List.size_toArray, List.length_map]
      rw [this]
      exact q
def gSum : PD → Option AV
  | .list ds => match allI ds with
    | some ns => some (.sh (.int ns.sum))
    | none => match allB ds with
      | some bs => some (.sh (.int (bs.map bI).sum))
      | none => none
  | _ => none
theorem k_sum {w : World} : Ok1 X.K w (fun x => rSumA X.K [x]) gSum := fun R H x d s hx hd hg Q q => by
  unfold gSum at hg
  split at hg
  · rename_i ds
    obtain ⟨p, xs, rfl, h1, s1⟩ := hd.list hx
    split at hg
    · rename_i ns e
      cases hg
      rw [allI_eq e] at s1
      rw [sh_ints s1] at h1
      exact .inl ⟨p, ns, rfl, h1, q _ _ ⟨.int _, rfl⟩⟩
    · split at hg
      · rename_i bs e
        cases hg
        rw [allB_eq e] at s1
        rw [sh_bools s1] at h1
        exact .inr ⟨p, bs, rfl, h1, q _ _ ⟨.int _, rfl⟩⟩
      · cases hg
  · cases hg
def sortI (ns : List Int) : List Int := ns.mergeSort fun a b => decide (a ≤ b)
theorem sortI_perm (ns : List Int) : (sortI ns).Perm ns := List.mergeSort_perm _ _
theorem sortI_asc (ns : List Int) : (sortI ns).Pairwise (· ≤ ·) := by
  have := List.pairwise_mergeSort (le := fun a b : Int => decide (a ≤ b)) (fun a b c h1 h2 => by simp at *; omega) (fun a b => by simp; omega) ns
  exact this.imp fun h => by simpa using h
theorem sortI_uniq {ns ms : List Int} (p : ms.Perm ns) (h : ms.Pairwise (· ≤ ·)) : ms = sortI ns :=
  List.Perm.eq_of_pairwise (fun a b _ _ h1 h2 => by omega) h (sortI_asc ns) (p.trans (sortI_perm ns).symm)
def gSorted : PD → Option AV
  | .list ds => match allI ds with
    | some ns => if ns.length < 64 then some (.own (.lst ((sortI ns).map PyData.int))) else none
    | none => none
  | _ => none
theorem k_sorted {w : World} : Ok1 X.K w (fun x => rSorted X.K [x]) gSorted := fun R H x d s hx hd hg Q q => by
  unfold gSorted at hg
  split at hg
  · rename_i ds
    obtain ⟨p, xs, rfl, h1, s1⟩ := hd.list hx
    split at hg
    · rename_i ns e
      split at hg
      · rename_i hl
        cases hg
        rw [allI_eq e] at s1
        rw [sh_ints s1] at h1
        refine ⟨p, ns, rfl, h1, hl, fun ns' l pp pw hp => q _ _ ⟨l, _, rfl, hp, rfl, _, upd_same, ?_⟩⟩
        rw [sortI_uniq pp pw]
        exact ShA.of_ints _
      · cases hg
    · cases hg
  · cases hg
def gMax1 : PD → Option AV
  | .list ds => match allI ds with
    | some ns => ns.max?.map fun m => .sh (.int m)
    | none => none
  | _ => none
def gMin1 : PD → Option AV
  | .list ds => match allI ds with
    | some ns => ns.min?.map fun m => .sh (.int m)
    | none => none
  | _ => none
theorem k_max1 {w : World} : Ok1 X.K w (fun x => rMax X.K [x]) gMax1 := fun R H x d s hx hd hg Q q => by
  unfold gMax1 at hg
  split at hg
  · rename_i ds
    obtain ⟨p, xs, rfl, h1, s1⟩ := hd.list hx
    split at hg
    · rename_i ns e
      obtain ⟨m, hm, rfl⟩ := Option.map_eq_some_iff.mp hg
      rw [allI_eq e] at s1
      rw [sh_ints s1] at h1
      have hne : ns ≠ [] := by rintro rfl; cases hm
      refine ⟨p, ns, rfl, h1, List.length_pos_iff.mpr hne, fun m' h2 h3 => ?_⟩
      have : ns.max? = some m' := List.max?_eq_some_iff.mpr ⟨h2, h3⟩
      rw [this] at hm; cases hm
      exact q _ _ ⟨.int _, rfl⟩
    · cases hg
  · cases hg
theorem k_min1 {w : World} : Ok1 X.K w (fun x => rMin X.K [x]) gMin1 := fun R H x d s hx hd hg Q q => by
  unfold gMin1 at hg
  split at hg
  · rename_i ds
    obtain ⟨p, xs, rfl, h1, s1⟩ := hd.list hx
    split at hg
    · rename_i ns e
      obtain ⟨m, hm, rfl⟩ := Option.map_eq_some_iff.mp hg
      rw [allI_eq e] at s1
      rw [sh_ints s1] at h1
      have hne : ns ≠ [] := by rintro rfl; cases hm
      refine ⟨p, ns, rfl, h1, List.length_pos_iff.mpr hne, fun m' h2 h3 => ?_⟩
      have : ns.min? = some m' := List.min?_eq_some_iff.mpr ⟨h2, h3⟩
      rw [this] at hm; cases hm
      exact q _ _ ⟨.int _, rfl⟩
    · cases hg
  · cases hg
end
@[simp] theorem gSum_ints (ns : List Int) : gSum (.list (ns.map PyData.int)) = some (.sh (.int ns.sum)) := by
  show (match allI (ns.map PyData.int) with
    | some ns => some (AV.sh (.int ns.sum))
    | none => match allB (ns.map PyData.int) with
      | some bs => some (AV.sh (.int (bs.map bI).sum))
      | none => none) = _
  rw [allI_ints]
theorem bools_ints {bs : List Bool} {ns : List Int} (h : allI (bs.map PyData.bool) = some ns) : bs = [] := by
  cases bs with
  | nil => rfl
  | cons b bs => cases h
@[simp] theorem gSum_bools (bs : List Bool) : gSum (.list (bs.map PyData.bool)) = some (.sh (.int (bs.map bI).sum)) := by
  cases bs with
  | nil => rfl
  | cons b bs =>
    show (match allB ((b :: bs).map PyData.bool) with
      | some bs => some (AV.sh (.int (bs.map bI).sum))
      | none => none) = _
    rw [allB_bools]
@[simp] theorem gSorted_ints (ns : List Int) : gSorted (.list (ns.map PyData.int)) = if ns.length < 64 then some (.own (.lst ((sortI ns).map PyData.int))) else none := by
  show (match allI (ns.map PyData.int) with
    | some ns => if ns.length < 64 then some (AV.own (.lst ((sortI ns).map PyData.int))) else none
    | none => none) = _
  rw [allI_ints]
@[simp] theorem gMax1_ints (ns : List Int) : gMax1 (.list (ns.map PyData.int)) = ns.max?.map fun m => .sh (.int m) := by
  show (match allI (ns.map PyData.int) with
    | some ns => ns.max?.map fun m => AV.sh (.int m)
    | none => none) = _
  rw [allI_ints]
@[simp] theorem gMin1_ints (ns : List Int) : gMin1 (.list (ns.map PyData.int)) = ns.min?.map fun m => .sh (.int m) := by
  show (match allI (ns.map PyData.int) with
    | some ns => ns.min?.map fun m => AV.sh (.int m)
    | none => none) = _
  rw [allI_ints]
end G

namespace G
open PySem L2 PySem.Spec PyProof.Rows PySem.W

/-! ### sorted(xs), xs tuples of an int and something: by the ints, then by the second ints -/
def PairK (h : Heap) (v : Value) (x : Int) (y : Value) : Prop := ∃ a o t n, v = .ref a ∧ h.get? a = some o ∧ o.cls = .type "tuple" ∧ o.data = .seq #[.int x t, y] n
def rkI (h : Heap) (v : Value) : Int := match v with
  | .ref a => match h.get? a with
    | some o => match o.data with
      | .seq its _ => match its.toList with
        | .int x _ :: _ => x
        | _ => 0
      | _ => 0
    | none => 0
  | _ => 0
theorem PairK.rk {h : Heap} {v : Value} {x : Int} {y : Value} (p : PairK h v x y) : rkI h v = x := by
  obtain ⟨a, o, t, n, rfl, ho, hc, hd⟩ := p
  unfold rkI
  simp only [ho, hd]
theorem PairK.keeps {h h' : Heap} {v : Value} {x : Int} {y : Value} (p : PairK h v x y) (k : ∀ b o, h.get? b = some o → o.cls = .type "tuple" → h'.get? b = some o) : PairK h' v x y := by
  obtain ⟨a, o, t, n, e, ho, hc, hd⟩ := p
  exact ⟨a, o, t, n, e, k _ _ ho hc, hc, hd⟩
theorem firstsK {h : Heap} : ∀ {vs : List Value}, (∀ v ∈ vs, ∃ x y, PairK h v x y) → ∃ fs : List Value, PySem.W.KatTups h vs fs ∧ fs.length = vs.length ∧ ∀ f ∈ fs, ∃ x t, f = Value.int x t
  | [], _ => ⟨[], PySem.W.KatTups.nil, rfl, fun _ hm => by simp at hm⟩
  | v :: vs, hp => by
    obtain ⟨fs, h1, h2, h3⟩ := firstsK (vs := vs) fun v' hm => hp v' (List.mem_cons_of_mem _ hm)
    obtain ⟨x, y, a, o, t, n, e, ho, hc, hd⟩ := hp v (List.mem_cons_self ..)
    subst e
    refine ⟨.int x t :: fs, PySem.W.KatTups.cons ho hc hd rfl h1, by rw [List.length_cons, List.length_cons, h2], fun f hm => ?_⟩
    rcases List.mem_cons.mp hm with rfl | hm
    · exact ⟨x, t, rfl⟩
    · exact h3 f hm
/-- k tells the ints of such a tuple -/
def KeyQ (h : Heap) (vs : List Value) (k : Value → Int × Int) : Prop := (∀ v ∈ vs, ∃ y, PairK h v (k v).1 y) ∧
  ∀ v ∈ vs, ∀ u ∈ vs, (k v).1 = (k u).1 → v = u ∨ ((∃ t, PairK h v (k v).1 (.int (k v).2 t)) ∧ ∃ t, PairK h u (k u).1 (.int (k u).2 t))
section
variable {prog : Program} {w : World} {A : Around} {E : Value → Shared → Prop} {s : Shared}
theorem cmpQ {vs : List Value} {k : Value → Int × Int} (hk : KeyQ s.heap vs k) : SrtO.Cmp prog w A s (tuples' true) (fun p => p.1 ∈ vs) (SrtO.lt2 fun v u => SrtO.lexB (k v) (k u)) := by
  intro p q hm hm'
  show wpAny (model prog w) A (keyLt' (tuples' true) p.1 q.1) (fun r s' => s' = s ∧ r = SrtO.lexB (k p.1) (k q.1)) (fun _ _ => False) s
  have hm : p.1 ∈ vs := hm
  have hm' : q.1 ∈ vs := hm'
  by_cases e : (k p.1).1 = (k q.1).1
  · rcases hk.2 _ hm _ hm' e with hv | ⟨⟨t, h1⟩, ⟨t', h2⟩⟩
    · obtain ⟨y, a, o, t, n, e1, ho, hc, hd⟩ := hk.1 _ hm
      have no : SrtO.lexB (k p.1) (k q.1) = false := by
        rw [hv]
        exact SrtO.lexB_no.mpr (by omega)
      rw [no, ← hv, e1]
      refine PySem.W.kat_lt ho hd ho hd ?_
      show PySem.W.KatLex prog w A true (decide (2 < 2)) _ [(.int (k p.1).1 t, .int (k p.1).1 t), (y, y)] 0 s
      refine PySem.W.kat_cons (SeqAt.EqAt.int_int _ t _ t prog w _ _ ?_)
      refine PySem.W.kat_go (fun _ => ?_) (fun e0 => absurd e0 (by simp))
      refine PySem.W.kat_yes (PySem.W.kat_cons (SeqAt.EqAt.same y prog w _ _ ?_))
      exact PySem.W.kat_go (fun _ => PySem.W.kat_yes (PySem.W.kat_nil ⟨rfl, rfl⟩)) (fun e0 => absurd e0 (by simp))
    · unfold SrtO.lexB
      rw [if_pos e]
      obtain ⟨a, o, t1, n, e1, ho, hc, hd⟩ := h1
      obtain ⟨a', o', t1', n', e2, ho', hc', hd'⟩ := h2
      generalize (k p.1).1 = x at *
      generalize (k q.1).1 = x' at *
      generalize (k p.1).2 = y at *
      generalize (k q.1).2 = y' at *
      subst e
      rw [e1, e2]
      refine PySem.W.kat_lt ho hd ho' hd' ?_
      show PySem.W.KatLex prog w A true (decide (2 < 2)) _ [(.int x t1, .int x t1'), (.int y t, .int y' t')] 0 s
      refine PySem.W.kat_cons (SeqAt.EqAt.int_int x t1 x t1' prog w _ _ ?_)
      refine PySem.W.kat_go (fun _ => ?_) (fun e0 => absurd e0 (by simp))
      refine PySem.W.kat_yes (PySem.W.kat_cons (SeqAt.EqAt.int_int _ t _ t' prog w _ _ ?_))
      refine PySem.W.kat_go (fun e2 => ?_) (fun e2 => ?_)
      · have ey : y = y' := by simpa using e2
        exact PySem.W.kat_yes (PySem.W.kat_nil ⟨rfl, by rw [ey]; exact (decide_eq_false (Int.lt_irrefl _)).symm⟩)
      · exact PySem.W.kat_no (PySem.W.kat_one _ _ (PyProof.Rows.lt_int ⟨rfl, rfl⟩))
  · unfold SrtO.lexB
    rw [if_neg e]
    obtain ⟨y, a, o, t, n, e1, ho, hc, hd⟩ := hk.1 _ hm
    obtain ⟨y', a', o', t', n', e2, ho', hc', hd'⟩ := hk.1 _ hm'
    rw [e1, e2]
    rw [e1] at e hd
    rw [e2] at e hd'
    refine PySem.W.kat_lt ho hd ho' hd' ?_
    show PySem.W.KatLex prog w A true (decide (2 < 2)) _ [(.int (k (.ref a)).1 t, .int (k (.ref a')).1 t'), (y, y')] 0 s
    refine PySem.W.kat_cons (SeqAt.EqAt.int_int _ t _ t' prog w _ _ ?_)
    refine PySem.W.kat_go (fun e0 => absurd (by simpa using e0) e) (fun e0 => ?_)
    exact PySem.W.kat_no (oneLt_int ⟨rfl, rfl⟩)
theorem sortableQ {a : Addr} {vs : List Value} {k : Value → Int × Int} (h0 : 0 < vs.length) (hk : KeyQ s.heap vs k) (ha : ∀ o, s.heap.get? a = some o → o.cls ≠ .type "tuple") : SrtO.SortableO prog w A s a vs fun v u => SrtO.lexB (k v) (k u) := by
  intro h' keep
  have kp : ∀ b o, s.heap.get? b = some o → o.cls = .type "tuple" → h'.get? b = some o := fun b o e c => keep b o (fun z => by subst z; exact ha o e c) e
  have hk' : KeyQ h' vs k := ⟨fun v hm => by
    obtain ⟨y, hp⟩ := hk.1 v hm
    exact ⟨y, hp.keeps kp⟩, fun v hv u hu e => by
    rcases hk.2 v hv u hu e with h | ⟨⟨t, h1⟩, ⟨t', h2⟩⟩
    · exact .inl h
    · exact .inr ⟨⟨t, h1.keeps kp⟩, ⟨t', h2.keeps kp⟩⟩⟩
  obtain ⟨fs, h1, h2, h3⟩ := firstsK (h := h') (vs := vs) fun v hm => by
    obtain ⟨y, hp⟩ := hk'.1 v hm
    exact ⟨_, y, hp⟩
  refine ⟨tuples' true, fun Q E hq => ?_, cmpQ hk'⟩
  refine PySem.W.kat_kind (T := .type "int") h1 (by omega) (fun f hm => ?_) (by rfl) ?_
  · obtain ⟨x, t, rfl⟩ := h3 f hm
    exact PySem.W.Looks.now
  · have e : (Value.type "int" != Value.type "tuple") = true := by first | decide +kernel | rfl | decide
    rw [e]
    exact hq
theorem sorted_Q {l : Addr} {vs : List Value} {k : Value → Int × Int} {Q : Value → Shared → Prop} (hl : s.heap.IsList l vs.toArray) (hz : vs.length ≤ sizeLine) (hk : KeyQ s.heap vs k)
    (h : ∀ (h' : Heap) (d : Addr) (out : List Value), SrtO.Srtd (fun v u => SrtO.lexB (k v) (k u)) out → SrtO.Stb (fun v u => SrtO.lexB (k v) (k u)) out vs → (∀ b o, s.heap.get? b = some o → h'.get? b = some o) → s.heap.objs.size ≤ d → (∃ n, h'.get? d = some (seqObj "list" out.toArray n)) → Q (.ref d) { s with heap := h' }) :
    wpAny (model prog w) A (call (.builtin "sorted") [.ref l]) Q E s := by
  refine SrtO.sorted_ord (SrtO.swo_lex k) hl hz (fun h2 h₁ a ha kk => ?_) fun out hs hb => ?_
  · have kp : ∀ b o, s.heap.get? b = some o → o.cls = .type "tuple" → h₁.get? b = some o := fun b o e _ => (kk b o e).2
    refine sortableQ (s := { s with heap := h₁ }) (by omega) ⟨fun v hm => ?_, fun v hv u hu e => ?_⟩ fun o e => ?_
    · obtain ⟨y, hp⟩ := hk.1 v hm
      exact ⟨y, hp.keeps kp⟩
    · rcases hk.2 v hv u hu e with h | ⟨⟨t, h1⟩, ⟨t', h2⟩⟩
      · exact .inl h
      · exact .inr ⟨⟨t, h1.keeps kp⟩, ⟨t', h2.keeps kp⟩⟩
    · have e' : some o = some (seqObj "list" vs.toArray 0) := e.symm.trans ha
      cases e'
      intro c
      exact absurd (Value.type.inj c) (by decide)
  · exact h _ _ out hs hb (fun b o e => sortedAll_old e) (Nat.le_succ _) (sortedAll_at s.heap vs out.toArray)
end
/-- the ints of such a tuple, told by the heap -/
def kVq (H : Hp) : V → Int × Int
  | .ref t => match H t with
    | some (.frz _ (.tup [.int i, .int j])) => (i, j)
    | some (.frz _ (.tup [.int i, _])) => (i, 0)
    | _ => (0, 0)
  | _ => (0, 0)
def secI (H : Hp) (x : V) : Prop := ∃ t od i j, x = .ref t ∧ H t = some (.frz od (.tup [.int i, .int j]))
theorem kVq_1 {H : Hp} {t : Addr} {od : Obj} {i : Int} {v : V} (h : H t = some (.frz od (.tup [.int i, v]))) : (kVq H (.ref t)).1 = i := by
  unfold kVq
  simp only [h]
  cases v <;> rfl
theorem kVq_2 {H : Hp} {t : Addr} {od : Obj} {i j : Int} (h : H t = some (.frz od (.tup [.int i, .int j]))) : kVq H (.ref t) = (i, j) := by
  unfold kVq
  simp only [h]
def rSortedQ (K : PySem.W.Frag) : List V → Hp → VK → Prop := fun vs H Q => ∃ (a : Addr) (xs : List V), vs = [V.ref a] ∧ SqL K H a xs ∧ (∀ x ∈ xs, ∃ t od i v, x = V.ref t ∧ H t = some (.frz od (.tup [.int i, v]))) ∧
  (∀ x ∈ xs, ∀ y ∈ xs, (kVq H x).1 = (kVq H y).1 → x = y ∨ (secI H x ∧ secI H y)) ∧ ∀ ys p, SrtO.Srtd (ltP (kVq H)) ys → SrtO.Stb (ltP (kVq H)) ys xs → H p = none → Q (.ref p) (upd H p (.lst ys))
section
variable {X : Cx}
theorem cr_sortedQ : CallR X (.builtin "sorted") (rSortedQ X.K) := by
  intro pins s σ H vs us Q I r h
  obtain ⟨a, xs, rfl, hs, hx, hxy, q⟩ := h
  obtain ⟨its, rv, hl, hz⟩ := I.list hs
  obtain ⟨u, rfl, ru⟩ := vals1 r
  obtain rfl : u = Value.ref a := ru
  obtain ⟨e1, e2⟩ := refs_back rv fun x m => by
    obtain ⟨t, _, _, _, e, _⟩ := hx x m
    exact ⟨t, e⟩
  have pk : ∀ t : Addr, Value.ref t ∈ its → ∃ y, PairK s.heap (.ref t) (kVq H (.ref t)).1 y := fun t hv => by
    have hm : V.ref t ∈ xs := by rw [e1]; exact List.mem_map.mpr ⟨_, hv, rfl⟩
    obtain ⟨t', od, i, v, e, ht⟩ := hx _ hm
    cases e
    obtain ⟨hg, _, its2, r2, o, ho, hc, n, hd⟩ := I.hok _ _ ht
    obtain ⟨u1, u2, rfl, ri, rj⟩ := vals2 r2
    obtain ⟨t1, rfl⟩ := ri
    rw [kVq_1 ht]
    exact ⟨u2, t, o, t1, n, rfl, ho, hc, hd⟩
  have pi : ∀ t : Addr, secI H (.ref t) → ∃ tk, PairK s.heap (.ref t) (kVq H (.ref t)).1 (.int (kVq H (.ref t)).2 tk) := fun t hs => by
    obtain ⟨t', od, i, j, e, ht⟩ := hs
    cases e
    obtain ⟨hg, _, its2, r2, o, ho, hc, n, hd⟩ := I.hok _ _ ht
    obtain ⟨u1, u2, rfl, ri, rj⟩ := vals2 r2
    obtain ⟨t1, rfl⟩ := ri
    obtain ⟨t2, rfl⟩ := rj
    rw [kVq_2 ht]
    exact ⟨t2, t, o, t1, n, rfl, ho, hc, hd⟩
  refine sorted_Q (k := fun u => kVq H (backV u)) hl.isList (by rw [← rv.length]; exact hz) ⟨fun v hv => ?_, fun v hv u hu e => ?_⟩ fun h' d out h1 h2 kp hd hn => ?_
  · obtain ⟨t, rfl⟩ := e2 v hv
    exact pk t hv
  · obtain ⟨t, rfl⟩ := e2 v hv
    obtain ⟨t', rfl⟩ := e2 u hu
    have hm : V.ref t ∈ xs := by rw [e1]; exact List.mem_map.mpr ⟨_, hv, rfl⟩
    have hm' : V.ref t' ∈ xs := by rw [e1]; exact List.mem_map.mpr ⟨_, hu, rfl⟩
    rcases hxy _ hm _ hm' e with h | ⟨h1, h2⟩
    · cases h; exact .inl rfl
    · exact .inr ⟨pi t h1, pi t' h2⟩
  · have h3 : ∀ u ∈ out, ∃ a, u = Value.ref a := fun u hu => e2 u (h2.perm.mem_iff.mp hu)
    obtain ⟨n, hn⟩ := hn
    have hb : SrtO.Stb (ltP (kVq H)) (out.map backV) xs := by
      rw [e1]
      exact SrtO.Stb.map (ltP_swo (kVq H)) backV h2
    refine ⟨.ref d, upd H d (.lst (out.map backV)), I.laid (t' := s.toks) kp hd ⟨?_, out, n, vals_back h3, hn⟩, rfl, q _ d (SrtO.srtd_map h1) hb (I.hok.fresh hd)⟩
    rw [hb.len]
    exact hz
end
/-! ### as data -/
def pairsL : List PD → Option (List (Int × PD))
  | [] => some []
  | .tuple [.int i, d] :: r => (pairsL r).map ((i, d) :: ·)
  | _ => none
def isI : PD → Bool
  | .int _ => true
  | _ => false
def keyP (p : Int × PD) : Int × Int := (p.1, match p.2 with | .int j => j | _ => 0)
/-- pairs with one first int have second ints -/
def okQ : List (Int × PD) → Bool
  | [] => true
  | p :: r => (r.all fun q => !decide (p.1 = q.1) || (isI p.2 && isI q.2)) && okQ r
def tupQ (p : Int × PD) : PD := .tuple [.int p.1, p.2]
def insQ (x : Int × PD) : List (Int × PD) → List (Int × PD)
  | [] => [x]
  | y :: ys => if SrtO.lexB (keyP y) (keyP x) then y :: insQ x ys else x :: y :: ys
def sortQ : List (Int × PD) → List (Int × PD)
  | [] => []
  | x :: xs => insQ x (sortQ xs)
theorem insQ_perm (x : Int × PD) : ∀ l, (insQ x l).Perm (x :: l)
  | [] => .refl _
  | y :: l => by
    unfold insQ
    split
    · exact ((insQ_perm x l).cons y).trans (List.Perm.swap x y l)
    · exact .refl _
theorem sortQ_perm : ∀ l, (sortQ l).Perm l
  | [] => .refl _
  | x :: l => (insQ_perm x _).trans ((sortQ_perm l).cons x)
abbrev leQ (p q : Int × PD) : Prop := SrtO.lexB (keyP q) (keyP p) = false
theorem leQ_trans {p q r : Int × PD} (h1 : leQ p q) (h2 : leQ q r) : leQ p r := by
  have a := SrtO.lexB_no.mp h1
  have b := SrtO.lexB_no.mp h2
  exact SrtO.lexB_no.mpr (by omega)
theorem insQ_srt (x : Int × PD) : ∀ l : List (Int × PD), l.Pairwise leQ → (insQ x l).Pairwise leQ
  | [], _ => List.pairwise_singleton _ _
  | y :: l, h => by
    obtain ⟨h1, h2⟩ := List.pairwise_cons.mp h
    unfold insQ
    split
    · rename_i hc
      refine List.pairwise_cons.mpr ⟨fun z hz => ?_, insQ_srt x l h2⟩
      rcases List.mem_cons.mp ((insQ_perm x l).mem_iff.mp hz) with rfl | hz
      · have a := SrtO.lexB_iff.mp hc
        exact SrtO.lexB_no.mpr (by omega)
      · exact h1 z hz
    · rename_i hc
      have hc : leQ x y := by cases hb : SrtO.lexB (keyP y) (keyP x) with
        | true => exact absurd hb hc
        | false => exact hb
      refine List.pairwise_cons.mpr ⟨fun z hz => ?_, h⟩
      rcases List.mem_cons.mp hz with rfl | hz
      · exact hc
      · exact leQ_trans hc (h1 z hz)
theorem sortQ_srt : ∀ l : List (Int × PD), (sortQ l).Pairwise leQ
  | [] => .nil
  | x :: l => insQ_srt x _ (sortQ_srt l)
theorem okQ_eq : ∀ {l : List (Int × PD)}, okQ l = true → ∀ p ∈ l, ∀ q ∈ l, p.1 = q.1 → p = q ∨ (isI p.2 = true ∧ isI q.2 = true)
  | [], _, p, hp, _, _, _ => nomatch hp
  | x :: l, h, p, hp, q, hq, e => by
    unfold okQ at h
    rw [Bool.and_eq_true, List.all_eq_true] at h
    obtain ⟨h1, h2⟩ := h
    rcases List.mem_cons.mp hp with rfl | hp'
    · rcases List.mem_cons.mp hq with rfl | hq'
      · exact .inl rfl
      · have := h1 q hq'
        simp [e] at this
        exact .inr this
    · rcases List.mem_cons.mp hq with rfl | hq'
      · have := h1 p hp'
        simp [e] at this
        exact .inr ⟨this.2, this.1⟩
      · exact okQ_eq h2 p hp' q hq' e
theorem okQ_key {l : List (Int × PD)} (h : okQ l = true) {p q : Int × PD} (hp : p ∈ l) (hq : q ∈ l) (e : keyP p = keyP q) : p = q := by
  have e1 : p.1 = q.1 := congrArg (·.1) e
  rcases okQ_eq h p hp q hq e1 with h | ⟨h1, h2⟩
  · exact h
  · obtain ⟨i, d⟩ := p
    obtain ⟨j, d'⟩ := q
    cases d <;> try cases h1
    cases d' <;> try cases h2
    have e2 := congrArg (·.2) e
    cases e1
    cases e2
    rfl
theorem sortQ_uniq : ∀ {l m : List (Int × PD)}, l.Perm m → (∀ p ∈ l, ∀ q ∈ l, keyP p = keyP q → p = q) → l.Pairwise leQ → m.Pairwise leQ → l = m
  | [], m, h, _, _, _ => (List.Perm.eq_nil h.symm).symm
  | x :: l, [], h, _, _, _ => absurd h.length_eq (by simp)
  | x :: l, y :: m, h, hk, hl, hm => by
    obtain ⟨l1, l2⟩ := List.pairwise_cons.mp hl
    obtain ⟨m1, m2⟩ := List.pairwise_cons.mp hm
    have hy : y ∈ x :: l := h.mem_iff.mpr (List.mem_cons_self ..)
    have hx : x ∈ y :: m := h.mem_iff.mp (List.mem_cons_self ..)
    have a : leQ x y := by
      rcases List.mem_cons.mp hy with rfl | hy
      · exact SrtO.lexB_no.mpr (by omega)
      · exact l1 y hy
    have b : leQ y x := by
      rcases List.mem_cons.mp hx with rfl | hx
      · exact SrtO.lexB_no.mpr (by omega)
      · exact m1 x hx
    have e : keyP x = keyP y := by
      have a := SrtO.lexB_no.mp a
      have b := SrtO.lexB_no.mp b
      have e1 : (keyP x).1 = (keyP y).1 := by omega
      have e2 : (keyP x).2 = (keyP y).2 := by omega
      exact Prod.ext e1 e2
    have exy := hk x (List.mem_cons_self ..) y hy e
    subst exy
    rw [sortQ_uniq h.cons_inv (fun p hp q hq => hk p (List.mem_cons_of_mem _ hp) q (List.mem_cons_of_mem _ hq)) l2 m2]
def gSortQ (ds : List PD) : Option AV := match pairsL ds with
  | some ps => if okQ ps then some (.own (.lst ((sortQ ps).map tupQ))) else none
  | none => none
/-- a shared pair -/
theorem sh_pair {K : PySem.W.Frag} {R : Hp} {x : V} {i : Int} {d : PD} (h : Sh K R x (.tuple [.int i, d])) : ∃ t od v, od.dict = none ∧ x = .ref t ∧ R t = some (.frz od (.tup [.int i, v])) ∧ Sh K R v d := by
  cases h with
  | tup ht hs =>
    obtain ⟨od, h0, h1⟩ := ht
    cases hs with
    | cons a b =>
      cases a
      cases b with
      | cons c e =>
        cases e
        exact ⟨_, od, _, h0, rfl, h1, c⟩
theorem kV_key {K : PySem.W.Frag} {R H : Hp} (e : Ex R H) {x : V} {p : Int × PD} (h : Sh K R x (tupQ p)) : kVq H x = keyP p := by
  obtain ⟨t, od, v, _, rfl, h1, h2⟩ := sh_pair h
  have h1 := e _ _ h1
  obtain ⟨i, d⟩ := p
  cases h2 <;> simp [kVq, h1, keyP]
theorem pairsL_sh {K : PySem.W.Frag} {R : Hp} : ∀ {xs : List V} {ds : List PD} {ps : List (Int × PD)}, ShA K R xs ds → pairsL ds = some ps → ds = ps.map tupQ ∧ xs.length = ps.length ∧ ∀ z ∈ xs.zip ps, Sh K R z.1 (tupQ z.2)
  | _, _, ps, .nil, h => by cases h; exact ⟨rfl, rfl, fun _ h => nomatch h⟩
  | _, _, ps, .cons (d := d) (ds := ds) (vs := vs) hv t, h => by
    unfold pairsL at h
    split at h
    · rename_i heq; cases heq
    · rename_i i d' r heq
      cases heq
      obtain ⟨qs, e, rfl⟩ := Option.map_eq_some_iff.mp h
      obtain ⟨h1, h2, h3⟩ := pairsL_sh t e
      refine ⟨by rw [h1]; rfl, by rw [List.length_cons, List.length_cons, h2], fun z hz => ?_⟩
      rcases List.mem_cons.mp hz with rfl | hz
      · exact hv
      · exact h3 z hz
    · cases h
theorem shA_zip {K : PySem.W.Frag} {R : Hp} {α : Type} {f : α → V} {g : α → PD} : ∀ {zs : List α}, (∀ z ∈ zs, Sh K R (f z) (g z)) → ShA K R (zs.map f) (zs.map g)
  | [], _ => .nil
  | z :: zs, h => .cons (h z (List.mem_cons_self ..)) (shA_zip fun z' hz => h z' (List.mem_cons_of_mem _ hz))
section
variable {X : Cx}
theorem k_sortedQ {R H : Hp} {x : V} {ds : List PD} {s : AV} (e : Ex R H) {p0 : Addr} {xs : List V} (hx : x = .ref p0) (h1 : SqL X.K H p0 xs) (s1 : ShA X.K R xs ds) (hg : gSortQ ds = some s) (Q : VK)
    (q : ∀ l ps (ys : List V), s = .own (.lst ps) → H l = none → ShA X.K R ys ps → Q (.ref l) (upd H l (.lst ys))) : rSortedQ X.K [x] H Q := by
  unfold gSortQ at hg
  split at hg
  · rename_i ps hps
    split at hg
    · rename_i hok
      cases hg
      obtain ⟨rfl, hlen, hz⟩ := pairsL_sh s1 hps
      have mem : ∀ x ∈ xs, ∃ p, (x, p) ∈ xs.zip ps := fun x hx => by
        obtain ⟨i, hi⟩ := List.mem_iff_getElem?.mp hx
        have : i < ps.length := by rw [← hlen]; exact (List.getElem?_eq_some_iff.mp hi).1
        exact ⟨ps[i], List.mem_iff_getElem?.mpr ⟨i, List.getElem?_zip_eq_some.mpr ⟨hi, List.getElem?_eq_getElem this⟩⟩⟩
      subst hx
      refine ⟨p0, xs, rfl, h1, fun x hx => ?_, fun x hx y hy exy => ?_, fun ys p hs hb hp => ?_⟩
      · obtain ⟨p, hp⟩ := mem x hx
        obtain ⟨t, od, v, _, h1, h2, _⟩ := sh_pair (hz _ hp)
        exact ⟨t, od, p.1, v, h1, e _ _ h2⟩
      · obtain ⟨i, hi⟩ := List.mem_iff_getElem?.mp hx
        obtain ⟨j, hj⟩ := List.mem_iff_getElem?.mp hy
        by_cases hij : i = j
        · subst hij
          rw [hi] at hj
          cases hj
          exact .inl rfl
        · have gi : ∃ p, ps[i]? = some p := ⟨_, List.getElem?_eq_getElem (by rw [← hlen]; exact (List.getElem?_eq_some_iff.mp hi).1)⟩
          have gj : ∃ p, ps[j]? = some p := ⟨_, List.getElem?_eq_getElem (by rw [← hlen]; exact (List.getElem?_eq_some_iff.mp hj).1)⟩
          obtain ⟨p, hp⟩ := gi
          obtain ⟨q', hq⟩ := gj
          have zp := hz (x, p) (List.mem_iff_getElem?.mpr ⟨i, List.getElem?_zip_eq_some.mpr ⟨hi, hp⟩⟩)
          have zq := hz (y, q') (List.mem_iff_getElem?.mpr ⟨j, List.getElem?_zip_eq_some.mpr ⟨hj, hq⟩⟩)
          rw [kV_key e zp, kV_key e zq] at exy
          have okij : ∀ {l : List (Int × PD)} {i j : Nat} {p q : Int × PD}, okQ l = true → i < j → l[i]? = some p → l[j]? = some q → p.1 = q.1 → isI p.2 = true ∧ isI q.2 = true := by
            intro l
            induction l with
            | nil => intro i j p q _ _ h _ _; cases h
            | cons x l ih =>
              intro i j p q hk hij hp hq e
              unfold okQ at hk
              rw [Bool.and_eq_true, List.all_eq_true] at hk
              cases i with
              | zero =>
                cases hp
                cases j with
                | zero => omega
                | succ j =>
                  have := hk.1 q (List.mem_of_getElem? (by simpa using hq))
                  simpa [e] using this
              | succ i =>
                cases j with
                | zero => omega
                | succ j => exact ih (i := i) (j := j) hk.2 (by omega) (by simpa using hp) (by simpa using hq) e
          have both : isI p.2 = true ∧ isI q'.2 = true := by
            rcases Nat.lt_or_gt_of_ne hij with h | h
            · exact okij hok h hp hq exy
            · exact (okij hok h hq hp exy.symm).symm
          have sec : ∀ {x : V} {p : Int × PD}, Sh X.K R x (tupQ p) → isI p.2 = true → secI H x := fun {x p} h hi => by
            obtain ⟨t, od, v, _, h1, h2, h3⟩ := sh_pair h
            obtain ⟨i, d⟩ := p
            cases d <;> try cases hi
            cases h3
            exact ⟨t, od, i, _, h1, e _ _ h2⟩
          exact .inr ⟨sec zp both.1, sec zq both.2⟩
      · obtain ⟨zs, pz, ez⟩ := L2.perm_lift (fun z : V × Int × PD => z.1) hb.perm (xs.zip ps) (List.map_fst_zip (by rw [hlen]; exact Nat.le_refl _))
        have hperm : (zs.map (·.2)).Perm ps := by
          have e := pz.map (·.2)
          have m2 : (xs.zip ps).map (·.2) = ps := List.map_snd_zip (by rw [hlen]; exact Nat.le_refl _)
          rw [m2] at e
          exact e
        have hsz : ∀ z ∈ zs, Sh X.K R z.1 (tupQ z.2) := fun z h => hz z (pz.mem_iff.mp h)
        have hsort : (zs.map (·.2)).Pairwise leQ := by
          have hs : ys.Pairwise fun x y => ltP (kVq H) y x = false := hs
          rw [← ez, List.pairwise_map] at hs
          rw [List.pairwise_map]
          refine List.Pairwise.imp_of_mem (fun {x y} hx hy h => ?_) hs
          have h : SrtO.lexB (kVq H y.1) (kVq H x.1) = false := h
          rw [kV_key e (hsz x hx), kV_key e (hsz y hy)] at h
          exact h
        have hu : zs.map (·.2) = sortQ ps := sortQ_uniq (hperm.trans (sortQ_perm ps).symm) (fun p hp q hq e => okQ_key hok (hperm.mem_iff.mp hp) (hperm.mem_iff.mp hq) e) hsort (sortQ_srt ps)
        refine q p _ ys rfl hp ?_
        rw [← hu, ← ez, List.map_map]
        exact shA_zip hsz
    · cases hg
  · cases hg
end
end G

namespace G
open PySem L2

/-! ### [*a, x, *b] -/
def argX (f : Ev) (g : Sto → Res (List AV)) : Sto → Res (List AV) := fun Γ => (f Γ).bind fun a Γ1 => match peek Γ1 a with
  | some (.list ds) => (g Γ1).bind fun as Γ2 => .ok (ds.map AV.sh ++ as) Γ2
  | some (.tuple ds) => (g Γ1).bind fun as Γ2 => .ok (ds.map AV.sh ++ as) Γ2
  | _ => .bad
theorem argsV_app {K : PySem.W.Frag} {σ : St} {Γ : Sto} {R : Hp} {vs : List V} {as : List AV} (h : ArgsV K σ Γ R vs as) : ∀ {xs : List V} {ds : List PD}, ShA K R xs ds → ArgsV K σ Γ R (xs ++ vs) (ds.map AV.sh ++ as)
  | _, _, .nil => h
  | _, _, .cons a t => ⟨a, argsV_app h t⟩
section
variable {X : Cx} {Wx : WX} {e : Expr} {fa : Ev} {p : Pos}
theorem a_star {es : List Expr} {g : Sto → Res (List AV)} (ha : Vx X Wx e fa) (hr : Ax X Wx es g) (hs : starEach (.Starred e p :: es) X.env = (true, eval e X.env) :: starEach es X.env := by rfl) : Ax X Wx (.Starred e p :: es) (argX fa g) :=
  fun F => (StX.pa_star (ha F) (hr F) hs).mono fun σ H Q h => by
    obtain ⟨Γ, R, A, h⟩ := h
    refine ⟨Γ, R, A, h.split.mono fun a Γ1 R1 H1 A1 S1 h1 v hv => ?_⟩
    have go : ∀ (l : Addr) (xs : List V) (ds : List PD), v = .ref l → (SqT X.K H1 l xs ∨ SqL X.K H1 l xs) → ShA X.K R1 xs ds → Post X.K X.w F Wx σ Γ R H (fun as Γ' R' H' => ∀ vs, ArgsV X.K σ Γ' R' vs as → Q vs H') ((g Γ1).bind fun as Γ2 => .ok (ds.map AV.sh ++ as) Γ2) →
        ∃ a xs, v = .ref a ∧ (SqT X.K H1 a xs ∨ SqL X.K H1 a xs) ∧ (TA' X.K X.w F Wx g) σ H1 fun vs H2 => Q (xs ++ vs) H2 := by
      intro l xs ds e1 e2 e3 h1
      refine ⟨l, xs, e1, e2, Γ1, R1, A1, (h1.split.shift S1).mono fun as Γ2 R2 H2 A2 S2 h2 vs hvs => ?_⟩
      exact h2.at A2 (S1.trans S2) _ (argsV_app hvs (e3.mono S2.ex))
    cases ea : peek Γ1 a with
    | none => rw [ea] at h1; exact h1.elim
    | some d =>
      rw [ea] at h1
      have hb := peek_bo A1 hv ea
      cases d with
      | list ds =>
        obtain ⟨l, xs, e1, e2, e3⟩ := hb.list A1.rh
        exact go l xs ds e1 (.inr e2) e3 h1
      | tuple ds =>
        obtain ⟨l, xs, e1, e2, e3⟩ := hb.tuple A1.rh
        exact go l xs ds e1 (.inl e2) e3 h1
      | _ => exact h1.elim
end

/-! ### a, b = x, y -/
def asgP (i j : Nat) (fa : Sto → Res (List AV)) : Sd := fun Γ => (fa Γ).st fun as Γ1 => match as with
  | [.sh d, .sh e] => .nx ((Γ1.set i (.sh d)).set j (.sh e))
  | _ => .bad
section
variable {X : Cx} {Wx : WX} {a b : Expr} {fa : Sto → Res (List AV)} {px py pt pos : Pos}
theorem s_par {i j : Nat} {x y : Str} {kt k2 pt2} (hc : X.calm = true) (hN : X.N.Nodup) (hi : X.N[i]? = some x) (hj : X.N[j]? = some y) (hij : i ≠ j)
    (hx : X.env.scope.names.lookup x = some .local) (hy : X.env.scope.names.lookup y = some .local) (ha : Ax X Wx [a, b] fa)
    (hw : swappedStores [.Tuple [.Name x px, .Name y py] kt pt] (.Tuple [a, b] k2 pt2) X.env = pure (some [x, y]) := by rfl)
    (hs : swapsWithSole [.Tuple [.Name x px, .Name y py] kt pt] (.Tuple [a, b] k2 pt2) pos.line X.env = pure false := by rfl) :
    Sx X Wx (.Assign [.Tuple [.Name x px, .Name y py] kt pt] (.Tuple [a, b] k2 pt2) pos) (asgP i j fa) := fun F => (ps_par hc hN hi hj hij hx hy (ha F) hw hs).mono fun D σ H h => by
  obtain ⟨Γ, R, A, h⟩ := h
  refine ⟨Γ, R, A, (h.split A).mono fun as Γ1 R1 H1 A1 S1 h1 vs hvs => ?_⟩
  match as, vs, hvs, h1 with
  | [.sh d, .sh e], [v, w], hvs, h1 =>
    have A2 := A1.setSh (i := i) hvs.1
    have A3 := A2.setSh (i := j) hvs.2.1
    exact ⟨v, w, rfl, h1 _ R1 H1 A3⟩
  | [], _, _, h1 => exact h1.elim
  | [.own _], _, _, h1 => exact h1.elim
  | [.sh _], _, _, h1 => exact h1.elim
  | [.var _], _, _, h1 => exact h1.elim
  | .own _ :: _ :: _, _, _, h1 => exact h1.elim
  | .var _ :: _ :: _, _, _, h1 => exact h1.elim
  | .sh _ :: .own _ :: _, _, _, h1 => exact h1.elim
  | .sh _ :: .var _ :: _, _, _, h1 => exact h1.elim
  | .sh _ :: .sh _ :: _ :: _, _, _, h1 => exact h1.elim
  | [.sh _, .sh _], [], hvs, _ => exact hvs.elim
  | [.sh _, .sh _], [_], hvs, _ => exact hvs.2.elim
  | [.sh _, .sh _], _ :: _ :: _ :: _, hvs, _ => exact hvs.2.2.elim
end

/-! ### tuple(xs), sorted(d) -/
def gTuple : PD → Option AV
  | .list ds => some (.own (.tup ds))
  | _ => none
section
variable {X : Cx}
open PySem.Spec PyProof.Rows in
/-- tuple(xs): a new tuple, with nothing but its items -/
theorem call_tupleX : CallR X (.type "tuple") (fun xs H Q => ∃ p ys, xs = [.ref p] ∧ SqL X.K H p ys ∧ ∀ l od, od.dict = none → H l = none → Q (.ref l) (upd H l (.frz od (.tup ys)))) := by
  intro pins s σ H xs us Q I r h
  obtain ⟨p, ys, rfl, hq, q⟩ := h
  obtain ⟨u, rfl, rx⟩ := vals1 r
  cases rx
  obtain ⟨its, r', pl, hz⟩ := I.list hq
  have hlen := r'.length
  refine call_tuple_list pl.isList (fun h' kp => ?_) (by simp only [List.size_toArray] <;> omega)
  have I1 : Inv X pins σ H { s with heap := h' } := I.kept (t' := s.toks) kp
  have hg := Heap.get?_push_size h' (o := { cls := .type "tuple", data := .seq its.toArray }) rfl
  exact ⟨.ref h'.objs.size, _, I1.laid (t' := s.toks) (o := .frz { cls := .type "tuple", data := .seq its.toArray } (.tup ys)) (fun b o e => Heap.get?_push_of_some _ e) (Nat.le_refl _) ⟨hg, hz, its, r', ⟨_, hg, rfl, _, rfl⟩⟩, rfl, q _ _ rfl (I1.hok.fresh (Nat.le_refl _))⟩
theorem k_tuple {w : World} : Ok1 X.K w (fun x H Q => ∃ p ys, [x] = [V.ref p] ∧ SqL X.K H p ys ∧ ∀ l od, od.dict = none → H l = none → Q (.ref l) (upd H l (.frz od (.tup ys)))) gTuple := fun R H x d s hx hd hg Q q => by
  unfold gTuple at hg
  split at hg
  · rename_i ds
    cases hg
    obtain ⟨p, xs, rfl, h1, s1⟩ := hd.list hx
    exact ⟨p, xs, rfl, h1, fun l od hd hl => q _ _ ⟨l, _, rfl, hl, rfl, _, ⟨od, hd, upd_same⟩, s1⟩⟩
  · cases hg
/-- the int keys of a dict -/
def keysI : List (PD × PD) → Option (List Int)
  | [] => some []
  | (.int i, _) :: ds => (keysI ds).map (i :: ·)
  | _ => none
theorem keysI_eq {K : PySem.W.Frag} {R : Hp} : ∀ {ws : List (Key × V)} {kvs : List (Key × PD)} {ns : List Int}, ShK K R ws kvs → keysI (kvs.map fun p => (kD p.1, p.2)) = some ns → ws.map (·.1) = ns.map Sum.inl
  | _, _, _, .nil, h => by cases h; rfl
  | _, _, ns, .cons (k := k) (kvs := kvs) (ws := ws) hv t, h => by
    cases k with
    | inl i =>
      obtain ⟨ms, e, rfl⟩ := Option.map_eq_some_iff.mp (show (keysI (kvs.map fun p => (kD p.1, p.2))).map (i :: ·) = some ns from h)
      rw [List.map_cons, List.map_cons, keysI_eq t e]
    | inr x => exact nomatch (show (none : Option (List Int)) = some ns from h)
def rSortedA (K : PySem.W.Frag) : List V → Hp → VK → Prop := fun xs H Q => rSorted K xs H Q ∨ rSortedQ K xs H Q ∨ ∃ (a : Addr) (kvs : List (Key × V)) (ks : List Int), xs = [.ref a] ∧ Rd H a (.dK kvs) ∧ kvs.map (·.1) = ks.map Sum.inl ∧ ks.length < 64 ∧
  ∀ (ys : List Int) (p : Addr), ys.Perm ks → ys.Pairwise (· ≤ ·) → H p = none → Q (.ref p) (upd H p (.lst (ys.map V.int)))
theorem cr_sortedA (hc : X.calm = true) : CallR X (.builtin "sorted") (rSortedA X.K) := by
  intro pins s σ H xs us Q I r h
  rcases h with h | h | h
  · exact cr_sorted pins s σ H xs us Q I r h
  · exact cr_sortedQ pins s σ H xs us Q I r h
  · exact call_sortedDI hc pins s σ H xs us Q I r h
def gSortedA : PD → Option AV
  | .list ds => match gSorted (.list ds) with
    | some r => some r
    | none => gSortQ ds
  | .dict kvs => match keysI kvs with
    | some ns => if ns.length < 64 then some (.own (.lst ((sortI ns).map PyData.int))) else none
    | none => none
  | _ => none
theorem k_sortedA {w : World} : Ok1 X.K w (fun x => rSortedA X.K [x]) gSortedA := fun R H x d s hx hd hg Q q => by
  unfold gSortedA at hg
  split at hg
  · split at hg
    · rename_i e
      cases hg
      exact .inl (k_sorted R H x _ s hx hd e Q q)
    · obtain ⟨p, xs, e, h1, s1⟩ := hd.list hx
      exact .inr (.inl (k_sortedQ hx e h1 s1 hg Q fun l ps ys e1 hl hs => q _ _ (by subst e1; exact ⟨l, _, rfl, hl, rfl, _, upd_same, hs⟩)))
  · rename_i kvs
    obtain ⟨a, ws, kvs', rfl, hr, sk, rfl⟩ := hd.dict hx
    split at hg
    · rename_i ns e
      split at hg
      · rename_i hl
        cases hg
        refine .inr (.inr ⟨a, ws, ns, rfl, hr, keysI_eq sk e, hl, fun ys l pp pw hp => q _ _ ⟨l, _, rfl, hp, rfl, _, upd_same, ?_⟩⟩)
        rw [sortI_uniq pp pw]
        exact ShA.of_ints _
      · cases hg
    · cases hg
  · cases hg
end
theorem keysI_map (f : Int → PD) : ∀ ns : List Int, keysI (ns.map fun k => (PyData.int k, f k)) = some ns
  | [] => rfl
  | n :: ns => by
    show (keysI (ns.map fun k => (PyData.int k, f k))).map (n :: ·) = _
    rw [keysI_map f ns]
    rfl
@[simp] theorem gSortedA_ints (ns : List Int) : gSortedA (.list (ns.map PyData.int)) = if ns.length < 64 then some (.own (.lst ((sortI ns).map PyData.int))) else none := by
  show (match gSorted (.list (ns.map PyData.int)) with
    | some r => some r
    | none => gSortQ (ns.map PyData.int)) = _
  rw [gSorted_ints]
  by_cases h : ns.length < 64
  · rw [if_pos h]
  · rw [if_neg h]
    cases ns with
    | nil => exact absurd (by decide) h
    | cons n ns => rfl
theorem gSortedA_dict (f : Int → PD) (ns : List Int) : gSortedA (.dict (ns.map fun k => (PyData.int k, f k))) = if ns.length < 64 then some (.own (.lst ((sortI ns).map PyData.int))) else none := by
  show (match keysI (ns.map fun k => (PyData.int k, f k)) with
    | some ns => if ns.length < 64 then some (AV.own (.lst ((sortI ns).map PyData.int))) else none
    | none => none) = _
  rw [keysI_map]
@[simp] theorem gTuple_l (ds : List PD) : gTuple (.list ds) = some (.own (.tup ds)) := (rfl)
end G
namespace G
open PySem L2
/-! ### (a, b) = e -/
def asgT (f : Ev) (t : PD → Sto → Option Sto) : Sd := fun Γ => (shr f Γ).st fun d Γ1 => onx (t d Γ1)
section
variable {X : Cx} {Wx : WX} {e tg : Expr} {fa : Ev} {pos : Pos} {js : List Nat} {g : TG} {t : PD → Sto → Option Sto}
theorem s_asgT (he : Vx X Wx e fa) (hg : Gx false X tg js g t) (hs : swapsWithSole [tg] e pos.line X.env = pure false := by rfl) (hw : swappedStores [tg] e X.env = pure none := by rfl)
    (h1 : (assignEach [tg] X.env).map (·.2) = [assign tg X.env] := by rfl) : Sx X Wx (.Assign [tg] e pos) (asgT fa t) := fun F => (ps_asg (d_of he F) hg.pg hs hw h1).mono fun D σ H h => by
  obtain ⟨Γ, R, A, h⟩ := h
  refine ⟨Γ, R, A, (h.split A).mono fun d Γ1 R1 H1 A1 S1 h1 v hv => ?_⟩
  cases z : t d Γ1 with
  | none => rw [z] at h1; exact h1.elim
  | some Γ2 =>
    rw [z] at h1
    exact hg.ok F σ Γ1 Γ2 R1 H1 v d _ A1 hv z fun σ' A' _ _ _ _ => h1 σ' R1 H1 A'
end
@[simp] theorem asgT_ap {Γ : Sto} (f : Ev) (t : PD → Sto → Option Sto) : asgT f t Γ = (shr f Γ).st fun d Γ1 => onx (t d Γ1) := (rfl)
@[simp] theorem asgP_ap {Γ : Sto} (i j : Nat) (fa : Sto → Res (List AV)) : asgP i j fa Γ = (fa Γ).st fun as Γ1 => match as with
  | [.sh d, .sh e] => .nx ((Γ1.set i (.sh d)).set j (.sh e))
  | _ => .bad := (rfl)
@[simp] theorem argX_ap {Γ : Sto} (f : Ev) (g : Sto → Res (List AV)) : argX f g Γ = (f Γ).bind fun a Γ1 => match peek Γ1 a with
  | some (.list ds) => (g Γ1).bind fun as Γ2 => .ok (ds.map AV.sh ++ as) Γ2
  | some (.tuple ds) => (g Γ1).bind fun as Γ2 => .ok (ds.map AV.sh ++ as) Γ2
  | _ => .bad := (rfl)
theorem avD_app : ∀ (ds : List PD) (as : List AV), avD (ds.map AV.sh ++ as) = (avD as).map (ds ++ ·)
  | [], as => by cases h : avD as <;> simp [h]
  | d :: ds, as => by
    show (avD (ds.map AV.sh ++ as)).map (d :: ·) = _
    rw [avD_app ds as, Option.map_map]
    rfl
end G

namespace G
open PySem L2

/-! ### walks over a shared dict -/
def itDI (f : Ev) : Sto → Res (List PD) := fun Γ => (shr f Γ).bind fun d Γ1 => match d with
  | .dict kvs => .ok (kvs.map fun p => PyData.tuple [p.1, p.2]) Γ1
  | _ => .bad
def itDV (f : Ev) : Sto → Res (List PD) := fun Γ => (shr f Γ).bind fun d Γ1 => match d with
  | .dict kvs => .ok (kvs.map (·.2)) Γ1
  | _ => .bad
def itDK (f : Ev) : Sto → Res (List PD) := fun Γ => (shr f Γ).bind fun d Γ1 => match d with
  | .dict kvs => .ok (kvs.map (·.1)) Γ1
  | _ => .bad
theorem shk_get {K : PySem.W.Frag} {R : Hp} : ∀ {ws : List (Key × V)} {kvs : List (Key × PD)} {i : Nat}, ShK K R ws kvs → ws.length = kvs.length ∧ ∀ k d, kvs[i]? = some (k, d) → ∃ v, ws[i]? = some (k, v) ∧ Sh K R v d
  | _, _, i, .nil => ⟨rfl, fun k d h => by simp at h⟩
  | _, _, 0, .cons h t => ⟨congrArg (· + 1) (shk_get (i := 0) t).1, fun k d e => by simp at e; obtain ⟨rfl, rfl⟩ := e; exact ⟨_, rfl, h⟩⟩
  | _, _, i + 1, .cons h t => ⟨congrArg (· + 1) (shk_get (i := 0) t).1, fun k d e => (shk_get (i := i) t).2 k d (by simpa using e)⟩
theorem sh_key {K : PySem.W.Frag} {R : Hp} (k : Key) : Sh K R (kV k) (kD k) := by
  cases k with
  | inl i => exact .int i
  | inr x => exact .str x
section
variable {K : PySem.W.Frag} {w : World} {R0 : Hp} {a : Addr} {od : Obj} {ws : List (Key × V)} {kvs : List (Key × PD)}
theorem kv_at {i : Nat} {α : Type} {f : PD × PD → α} {d : α} (h : ((kvs.map fun p => (kD p.1, p.2)).map f)[i]? = some d) : ∃ k x, kvs[i]? = some (k, x) ∧ d = f (kD k, x) := by
  rw [List.getElem?_map, List.getElem?_map] at h
  cases e : kvs[i]? with
  | none => rw [e] at h; cases h
  | some p => rw [e] at h; cases h; exact ⟨p.1, p.2, rfl, rfl⟩
theorem it_items (h : R0 a = some (.frz od (.dK ws))) (s : ShK K R0 ws kvs) : ItOk true K w R0 (Iti a od ws) ((kvs.map fun p => (kD p.1, p.2)).map fun p => PyData.tuple [p.1, p.2]) where
  stop := fun R H i e1 e2 hi => ⟨e2 _ _ (e1 _ _ h), by rw [List.length_map, List.length_map] at hi; rw [(shk_get (i := 0) s).1]; exact hi⟩
  go := fun R H i d e1 e2 hd => by
    obtain ⟨k, x, h1, _⟩ := kv_at hd
    obtain ⟨v, h2, _⟩ := (shk_get s).2 k x h1
    exact ⟨e2 _ _ (e1 _ _ h), (List.getElem?_eq_some_iff.mp h2).1⟩
  yld := fun R H i d x H' e1 e2 hd hy => by
    obtain ⟨T, k, v, hkv, rfl, hT, rfl⟩ := hy
    obtain ⟨k', x, h1, rfl⟩ := kv_at hd
    obtain ⟨v', h2, h3⟩ := (shk_get s).2 k' x h1
    rw [hkv] at h2; cases h2
    exact .inr ⟨T, _, hT, rfl, .inr ⟨T, _, _, rfl, rfl, upd_same, .cons (sh_key k) (.cons (h3.mono e1) .nil)⟩⟩
theorem it_vals (h : R0 a = some (.frz od (.dK ws))) (s : ShK K R0 ws kvs) : ItOk false K w R0 (Itd a od ws) ((kvs.map fun p => (kD p.1, p.2)).map (·.2)) where
  stop := fun R H i e1 e2 hi => ⟨e2 _ _ (e1 _ _ h), by rw [List.length_map, List.length_map] at hi; rw [(shk_get (i := 0) s).1]; exact hi⟩
  go := fun R H i d e1 e2 hd => by
    obtain ⟨k, x, h1, _⟩ := kv_at hd
    obtain ⟨v, h2, _⟩ := (shk_get s).2 k x h1
    exact ⟨e2 _ _ (e1 _ _ h), (List.getElem?_eq_some_iff.mp h2).1⟩
  yld := fun R H i d x H' e1 e2 hd hy => by
    obtain ⟨rfl, k, hkv⟩ := hy
    obtain ⟨k', z, h1, e⟩ := kv_at hd
    subst e
    obtain ⟨v', h2, h3⟩ := (shk_get s).2 k' _ h1
    rw [hkv] at h2; cases h2
    exact .inl ⟨h3.mono e1, rfl⟩
theorem it_keys (h : R0 a = some (.frz od (.dK ws))) (s : ShK K R0 ws kvs) : ItOk false K w R0 (Itk a od ws) ((kvs.map fun p => (kD p.1, p.2)).map (·.1)) where
  stop := fun R H i e1 e2 hi => ⟨e2 _ _ (e1 _ _ h), by rw [List.length_map, List.length_map] at hi; rw [(shk_get (i := 0) s).1]; exact hi⟩
  go := fun R H i d e1 e2 hd => by
    obtain ⟨k, x, h1, _⟩ := kv_at hd
    obtain ⟨v, h2, _⟩ := (shk_get s).2 k x h1
    exact ⟨e2 _ _ (e1 _ _ h), (List.getElem?_eq_some_iff.mp h2).1⟩
  yld := fun R H i d x H' e1 e2 hd hy => by
    obtain ⟨rfl, k, v, hkv, rfl⟩ := hy
    obtain ⟨k', z, h1, e⟩ := kv_at hd
    subst e
    obtain ⟨v', h2, h3⟩ := (shk_get s).2 k' _ h1
    rw [hkv] at h2; cases h2
    exact .inl ⟨sh_key k, rfl⟩
end
section
variable {X : Cx} {Wx : WX} {e tg : Expr} {fa : Ev} {apos cpos tpos : Pos} {elts : List Expr} {kk : Nat}
theorem i_items (h : Vx X Wx e fa) (hbase : attributeBase e "items" X.env (eval e X.env) = eval e X.env := by rfl) (hline : (apos.endLine == cpos.line) = true := by rfl) :
    Ix true X Wx (.Tuple elts kk tpos) (.Call (.Attribute e "items" apos) [] [] cpos) (itDI fa) := fun F => (pi_items (d_of h F) hbase hline).mono fun σ H Q ⟨Γ, R, A, h⟩ => by
  refine ⟨Γ, R, A, h.split.mono fun d Γ1 R1 H1 A1 S1 h1 v hv => ?_⟩
  cases d with
  | dict ds =>
    cases hv with
    | dic hq hs => exact ⟨_, _, _, rfl, A1.rh _ _ hq, h1.at A1 S1 _ (it_items hq hs)⟩
  | _ => exact h1.elim
theorem i_values (h : Vx X Wx e fa) (hbase : attributeBase e "values" X.env (eval e X.env) = eval e X.env := by rfl) (hline : (apos.endLine == cpos.line) = true := by rfl) :
    Ix false X Wx tg (.Call (.Attribute e "values" apos) [] [] cpos) (itDV fa) := fun F => (pi_values (d_of h F) hbase hline).mono fun σ H Q ⟨Γ, R, A, h⟩ => by
  refine ⟨Γ, R, A, h.split.mono fun d Γ1 R1 H1 A1 S1 h1 v hv => ?_⟩
  cases d with
  | dict ds =>
    cases hv with
    | dic hq hs => exact ⟨_, _, _, rfl, A1.rh _ _ hq, h1.at A1 S1 _ (it_vals hq hs)⟩
  | _ => exact h1.elim
theorem i_keys (h : Vx X Wx e fa) : Ix false X Wx tg e (itDK fa) := fun F => (pi_keys (d_of h F)).mono fun σ H Q ⟨Γ, R, A, h⟩ => by
  refine ⟨Γ, R, A, h.split.mono fun d Γ1 R1 H1 A1 S1 h1 v hv => ?_⟩
  cases d with
  | dict ds =>
    cases hv with
    | dic hq hs => exact ⟨_, _, rfl, .inl ⟨_, A1.rh _ _ hq, h1.at A1 S1 _ (it_keys hq hs)⟩⟩
  | _ => exact h1.elim
end
end G
namespace G
open PySem L2
section
variable {Γ : Sto}
@[simp] theorem itDI_ap (f : Ev) : itDI f Γ = (shr f Γ).bind fun d Γ1 => match d with
  | .dict kvs => .ok (kvs.map fun p => PyData.tuple [p.1, p.2]) Γ1
  | _ => .bad := (rfl)
@[simp] theorem itDV_ap (f : Ev) : itDV f Γ = (shr f Γ).bind fun d Γ1 => match d with
  | .dict kvs => .ok (kvs.map (·.2)) Γ1
  | _ => .bad := (rfl)
@[simp] theorem itDK_ap (f : Ev) : itDK f Γ = (shr f Γ).bind fun d Γ1 => match d with
  | .dict kvs => .ok (kvs.map (·.1)) Γ1
  | _ => .bad := (rfl)
end
end G

namespace G
open PySem L2 PySem.Spec PyProof.Rows PySem.W

/-! ### sorted(d.items()), int keys -/
section
variable {prog : Program} {w : World} {A : Around} {E : Value → Shared → Prop} {s : Shared}
theorem kind_ii {vs : List Value} (h2 : 2 ≤ vs.length) (x : ∀ v ∈ vs, ∃ k y, PairK s.heap v k y) (hdis : ∀ v ∈ vs, ∀ u ∈ vs, rkI s.heap v = rkI s.heap u → v = u) (Q : SortKind → Shared → Prop)
    (h : ∀ κ, TS.Cmp prog w A s κ (pairsOf vs) (fun v => rkI s.heap v) → Q κ s) : wpAny (model prog w) A (keyKind' vs.toArray) Q E s := by
  obtain ⟨fs, k, hl, hi⟩ := firstsK x
  refine kat_kind (T := Value.type "int") k (by omega) (fun f hf => ?_) rfl (h _ ?_)
  · obtain ⟨x, t, rfl⟩ := hi f hf
    exact PySem.W.Looks.now
  · have hb : (Value.type "int" != Value.type "tuple") = true := by first | decide +kernel | rfl | decide
    rw [hb]
    intro p q hp hq Q' E' hQ
    rw [pairsOf_toList] at hp hq
    have mp := (mem_zip_self hp).2
    have mq := (mem_zip_self hq).2
    obtain ⟨i, y, py⟩ := x _ mp
    obtain ⟨j, z, pz⟩ := x _ mq
    have hd := hdis _ mp _ mq
    rw [py.rk, pz.rk] at hd
    have hQ : Q' (decide (rkI s.heap p.1 < rkI s.heap q.1)) s := hQ
    rw [py.rk, pz.rk] at hQ
    obtain ⟨a, o, t, n, e1, ho, hc, hdt⟩ := py
    obtain ⟨a', o', t', n', e2, ho', hc', hdt'⟩ := pz
    have same : i = j → y = z := fun e => by
      have hpq := hd e
      rw [e1, e2] at hpq
      cases hpq
      rw [ho] at ho'; cases ho'
      rw [hdt] at hdt'
      cases hdt'
      rfl
    rw [e1, e2]
    refine kat_lt ho hdt ho' hdt' ?_
    show KatLex prog w A true (decide (2 < 2)) Q' [(.int i t, .int j t'), (y, z)] 0 s
    refine kat_cons (SeqAt.EqAt.int_int i t j t' prog w _ _ ?_)
    refine kat_go (fun e0 => ?_) (fun e0 => ?_)
    · have e : i = j := by simpa using e0
      have hyz := same e
      subst hyz
      have fin : Q' false s := by
        have z : decide (i < j) = false := decide_eq_false (by omega)
        rw [z] at hQ; exact hQ
      refine kat_yes (kat_cons (SeqAt.EqAt.same y prog w _ _ ?_))
      exact kat_go (fun _ => kat_yes (kat_nil fin)) (fun e0 => absurd e0 (by simp))
    · exact kat_no (oneLt_int hQ)
end
end G
namespace G
open PySem L2 PySem.Spec PyProof.Rows PySem.W L2.DX
section
variable {X : Cx}
def rItemsK : V → List V → Hp → VK → Prop := fun x xs H Q => ∃ (a : Addr) (o : Obj) (kvs : List (Key × V)), x = .ref a ∧ xs = [] ∧ H a = some (.frz o (.dK kvs)) ∧ ∀ p, H p = none → Q (.ref p) (upd H p (itemsO p a))
theorem mt_itemsK : MtR X "dict.items" rItemsK := by
  intro pins s σ H x xs v us Q I rx rxs h
  obtain ⟨a, o, kvs, rfl, rfl, ha, q⟩ := h
  cases rx
  cases rxs
  obtain ⟨hs, hgd, hx, es, ep, vs, hdt, hsz, kv, hm⟩ := I.frzK ha
  refine DT.callItems (es := es) (ep := ep) hs ⟨o, hgd, hx, hdt⟩ ?_
  have hf : H s.heap.objs.size = none := I.hok.fresh (Nat.le_refl _)
  exact ⟨.ref s.heap.objs.size, upd H s.heap.objs.size (itemsO s.heap.objs.size a), I.laid (t' := s.toks) (fun b u e => Heap.get?_push_of_some _ e) (Nat.le_refl _) (itemsO_ok (Heap.get?_push_size _ rfl)), rfl, q _ hf⟩
end
end G
namespace G
open PySem L2 PySem.Spec PyProof.Rows PySem.W L2.DX
/-- things already laid are tracked -/
theorem takeX {X : Cx} {pins : List (Addr × Obj)} {σ : L2.St} {H0 : Hp} {s : Shared} {h' : Heap} {tk : Nat} {P : Addr → HO → Prop} (I0 : Inv X pins σ H0 s) : ∀ (L : List Addr) (H1 : Hp), Inv X pins σ H1 { s with heap := h', toks := tk } → L.Nodup →
    (∀ a ∈ L, s.heap.objs.size ≤ a ∧ H1 a = none ∧ ∃ o, P a o ∧ ∀ H2, ObjOk X.prog X.w H2 h' a o) →
    ∃ H2, Inv X pins σ H2 { s with heap := h', toks := tk } ∧ (∀ b o, H1 b = some o → H2 b = some o) ∧ ∀ a ∈ L, ∃ o, P a o ∧ H2 a = some o
  | [], H1, I1, _, _ => ⟨H1, I1, fun _ _ e => e, fun _ h => nomatch h⟩
  | a :: L, H1, I1, hn, h => by
    obtain ⟨low, free, o, hP, ok⟩ := h a (List.mem_cons_self ..)
    rw [List.nodup_cons] at hn
    obtain ⟨H2, I3, g, q⟩ := takeX I0 L (upd H1 a o) (I1.take (h' := h') (t' := tk) (fun _ _ _ e => e) (I0.fpOk low free) (ok _)) hn.2 fun c hc => by
      obtain ⟨c1, c2, c3⟩ := h c (List.mem_cons_of_mem _ hc)
      exact ⟨c1, by rw [upd_ne (show c ≠ a from fun z => hn.1 (by rw [← z]; exact hc))]; exact c2, c3⟩
    refine ⟨H2, I3, fun b u e => g b u (by rw [upd_ne (ne_of_none e free)]; exact e), fun c hc => ?_⟩
    rcases List.mem_cons.mp hc with rfl | hc
    · exact ⟨o, hP, g _ _ upd_same⟩
    · exact q c hc
abbrev entI (e : Int × V) : L2.Key × V := (Sum.inl e.1, e.2)
def rSortItK : List V → Hp → VK → Prop := fun vs H Q => ∃ (p a : Addr) (od : Obj) (ks : List (Int × V)), vs = [.ref p] ∧ H p = some (itemsO p a) ∧ H a = some (.frz od (.dK (ks.map entI))) ∧ ks.length < 64 ∧
  ∀ (H' : Hp) (l : Addr) (ps : List (Addr × Int × V)), (∀ b o, H b = some o → H' b = some o) → (ps.map (·.2)).Perm ks → (ps.map (·.2)).Pairwise (fun e f => e.1 ≤ f.1) → H l = none → H' l = some (.lst (ps.map fun z => V.ref z.1)) →
    (∀ z ∈ ps, H z.1 = none ∧ z.1 ≠ l ∧ ∃ oz : Obj, oz.dict = none ∧ H' z.1 = some (.frz oz (.tup [.int z.2.1, z.2.2]))) → (ks.map (·.1)).Nodup → Q (.ref l) H'
theorem ent_nodup : ∀ {ks : List (Int × V)}, ((ks.map entI).map (·.1)).Nodup → (ks.map (·.1)).Nodup := fun {ks} h => by
  rw [List.map_map] at h
  have e : ((fun x : L2.Key × V => x.1) ∘ entI) = (Sum.inl ∘ fun x : Int × V => x.1) := rfl
  rw [e, ← List.map_map] at h
  have : ∀ {l : List Int}, (l.map (Sum.inl : Int → L2.Key)).Nodup → l.Nodup := fun {l} h => by
    induction l with
    | nil => exact .nil
    | cons x xs ih =>
      rw [List.map_cons, List.nodup_cons] at h
      rw [List.nodup_cons]
      exact ⟨fun m => h.1 (List.mem_map.mpr ⟨x, m, rfl⟩), ih h.2⟩
  exact this h
section
variable {X : Cx}
theorem cr_sortedItK (hc : X.calm = true) (hu : X.A.units + 64 < cLine) : CallR X (.builtin "sorted") rSortItK := by
  intro pins s σ H xs us Q I r h
  obtain ⟨p, a, od, ks, rfl, hp, ha, h64, q⟩ := h
  obtain rfl := Vals.ref1 r
  have view : s.heap.IsItemsView p a := (show ObjOk X.prog X.w H s.heap p (itemsO p a) from I.hok p _ hp).1
  obtain ⟨hs, hgd, hx, es, ep, vs, hdt, hsz, kv, hm⟩ := I.frzK ha
  obtain ⟨o', es', ho', hx', hdt', hkeys, hpr, hnd⟩ := id hm
  have eo : o' = od := Option.some.inj (ho'.symm.trans hgd)
  subst eo
  obtain ⟨rfl, _⟩ : es' = es ∧ ep = ep := by
    rw [hdt] at hdt'
    injection hdt' with h1 h2
    exact ⟨h1.symm, rfl⟩
  have lvs : vs.length = ks.length := by
    have e : (ks.map entI).length = vs.length := Paired.length kv
    rw [List.length_map] at e
    exact e.symm
  have les : es'.size = ks.length := by rw [hsz, List.length_map]
  have hnk : (ks.map (·.1)).Nodup := by
    apply ent_nodup
    have e : (ks.map entI).map (·.1) = vs.map (·.1) := by
      have : ∀ {l₁ : List (L2.Key × V)} {l₂ : List (L2.Key × Value)}, KV l₁ l₂ → l₁.map (·.1) = l₂.map (·.1) := fun h => by
        unfold KV at h
        induction h with
        | nil => rfl
        | cons r t ih => simp only [List.map_cons, r.1, ih]
      exact this kv
    rw [e]
    exact hnd
  have hh : X.A.handled = none := I.ok.hd hc
  refine DT.sortedI (es := es') (ep := ep) hh view ⟨o', hgd, hx, hdt⟩ (by rw [sizeLine_eq]; omega) fun h' tk as hk hlt hl hG => ?_
  have lak : as.length = ks.length := by omega
  have nd : as.Nodup := List.Pairwise.imp (fun h => Nat.ne_of_lt h) hG.rise
  -- the pairs that were made
  have pr : ∀ (j : Nat) (b : Addr), as[j]? = some b → ∃ (e : Int × V) (t : Tok) (u : Value), ks[j]? = some e ∧ RelV e.2 u ∧ h'.get? b = some { cls := .type "tuple", data := .seq #[Value.int e.1 t, u] } := by
    intro j b hj
    obtain ⟨en, he, hg⟩ := hG.pairs j b hj
    have hjl : j < ks.length := by
      have := (List.getElem?_eq_some_iff.mp hj).1
      omega
    have hkj : ks[j]? = some ks[j] := List.getElem?_eq_getElem hjl
    obtain ⟨u, hvj, ru⟩ := kv_get kv (i := j) (k := Sum.inl ks[j].1) (v := ks[j].2) (by rw [List.getElem?_map, hkj]; rfl)
    obtain ⟨hkey, hval⟩ := hpr.get? (e := en) (by rw [Array.getElem?_toList]; exact he) hvj
    obtain ⟨t, ht⟩ := relV_key (show keyIs (Sum.inl ks[j].1) en.key = true from hkey)
    refine ⟨ks[j], t, u, hkj, ru, ?_⟩
    rw [hg, ht, hval]
  -- the heap of the sort
  have hob : (h'.push { cls := .type "list", data := .seq (as.map Value.ref).toArray }).get? h'.objs.size = some (seqObj "list" (as.map Value.ref).toArray 0) := Heap.get?_push_size _ rfl
  have kb : ∀ b o, s.heap.get? b = some o → (h'.push { cls := .type "list", data := .seq (as.map Value.ref).toArray }).get? b = some o := fun b o e => Heap.get?_push_of_some _ (hk b o e)
  have ne0 : ∀ b o, h'.get? b = some o → b ≠ h'.objs.size := fun b o e => Nat.ne_of_lt (Heap.lt_size e)
  generalize hh2 : h'.push { cls := .type "list", data := .seq (as.map Value.ref).toArray } = h2 at hob kb ⊢
  have ka : ∀ b o, h'.get? b = some o → h2.get? b = some o := fun b o e => by rw [← hh2]; exact Heap.get?_push_of_some _ e
  have pin : ∀ (j : Nat) (b : Addr), as[j]? = some b → ∃ (e : Int × V) (u : Value), ks[j]? = some e ∧ PairK (TS.midHeap h2 h'.objs.size (as.map Value.ref)) (.ref b) e.1 u := by
    intro j b hj
    obtain ⟨e, t, u, he, _, hg⟩ := pr j b hj
    exact ⟨e, u, he, b, _, t, 0, rfl, TS.midHeap_old (ne0 _ _ hg) (ka _ _ hg), rfl, rfl⟩
  have tx : ∀ (j : Nat) (b : Addr) (e : Int × V), as[j]? = some b → ks[j]? = some e → rkI (TS.midHeap h2 h'.objs.size (as.map Value.ref)) (.ref b) = e.1 := by
    intro j b e hj he
    obtain ⟨e', u, he', hp'⟩ := pin j b hj
    have ee : e' = e := Option.some.inj (he'.symm.trans he)
    rw [← ee]
    exact hp'.rk
  have at_ : ∀ v ∈ as.map Value.ref, ∃ (j : Nat) (b : Addr) (e : Int × V), v = .ref b ∧ as[j]? = some b ∧ ks[j]? = some e := by
    intro v hv'
    obtain ⟨b, hb, rfl⟩ := List.mem_map.mp hv'
    obtain ⟨j, hj⟩ := List.mem_iff_getElem?.mp hb
    obtain ⟨e, _, _, he, _⟩ := pr j b hj
    exact ⟨j, b, e, rfl, hj, he⟩
  refine wpAny_call_entry PyProof.Rows.slot_list_sort ⟨_, hob, rfl⟩ PyProof.Rows.entry_list_sort
    (SK.plain_sort (s := { s with heap := h2, toks := tk }) (r := fun v => rkI (TS.midHeap h2 h'.objs.size (as.map Value.ref)) v) hob (by rw [List.length_map]; omega) (fun h2' Qk hQk => ?_) fun ps out o1 o2 o3 => ⟨.none, rfl, ?_⟩) (PyProof.Rows.args_list_sort _)
  · refine kind_ii (s := { s with heap := TS.midHeap h2 h'.objs.size (as.map Value.ref), toks := tk }) h2' (fun v hv' => ?_) (fun v hv' u hu' er => ?_) Qk hQk
    · obtain ⟨j, b, e, rfl, hj, he⟩ := at_ v hv'
      obtain ⟨e', u, _, hp'⟩ := pin j b hj
      exact ⟨e'.1, u, hp'⟩
    · obtain ⟨j, b, e, rfl, hj, he⟩ := at_ v hv'
      obtain ⟨j2, b2, e2, rfl, hj2, he2⟩ := at_ u hu'
      have er : rkI (TS.midHeap h2 h'.objs.size (as.map Value.ref)) (.ref b) = rkI (TS.midHeap h2 h'.objs.size (as.map Value.ref)) (.ref b2) := er
      rw [tx j b e hj he, tx j2 b2 e2 hj2 he2] at er
      have h1 : (ks.map (·.1))[j]? = some e.1 := by rw [List.getElem?_map, he]; rfl
      have h2 : (ks.map (·.1))[j2]? = some e2.1 := by rw [List.getElem?_map, he2]; rfl
      have ejj : j = j2 := (List.getElem?_inj (List.getElem?_eq_some_iff.mp h1).1 hnk).mp (h1.trans (by rw [h2, er]))
      subst ejj
      rw [hj] at hj2
      cases hj2
      rfl
  · show EP X pins σ Q (.ref h'.objs.size) { s with heap := sortedHeap h2 h'.objs.size (as.map Value.ref) out, toks := tk }
    obtain ⟨zs, pz, ez⟩ := perm_lift (fun z : Addr × Int × V => (Value.ref z.1, Value.ref z.1)) o2 (as.zip ks) (zip_self Value.ref as ks lak)
    have idx : ∀ z ∈ zs, ∃ j : Nat, as[j]? = some z.1 ∧ ks[j]? = some z.2 := by
      intro z' hz'
      obtain ⟨j, hj⟩ := List.mem_iff_getElem?.mp (pz.mem_iff.mp hz')
      exact ⟨j, List.getElem?_zip_eq_some.mp hj⟩
    have hout : out.toList = zs.map fun z => Value.ref z.1 := by
      rw [o1, ← ez, List.map_map]
      all_goals rfl
    have hperm : (zs.map (·.2)).Perm ks := by
      have e := pz.map (·.2)
      have m2 : (as.zip ks).map (·.2) = ks := List.map_snd_zip (by rw [lak]; exact Nat.le_refl _)
      rw [m2] at e
      exact e
    have hsort : (zs.map (·.2)).Pairwise (fun e f => e.1 ≤ f.1) := by
      rw [← ez, List.pairwise_map] at o3
      rw [List.pairwise_map]
      refine List.Pairwise.imp_of_mem (fun {x y} hx hy h => ?_) o3
      obtain ⟨j, j1, j2⟩ := idx x hx
      obtain ⟨i, i1, i2⟩ := idx y hy
      have h' : rkI (TS.midHeap h2 h'.objs.size (as.map Value.ref)) (.ref x.1) ≤ rkI (TS.midHeap h2 h'.objs.size (as.map Value.ref)) (.ref y.1) := h
      rw [tx j _ _ j1 j2, tx i _ _ i1 i2] at h'
      exact h'
    -- behind the sort
    have kF : ∀ b o, b ≠ h'.objs.size → h2.get? b = some o → (sortedHeap h2 h'.objs.size (as.map Value.ref) out).get? b = some o := fun b o hb e => (PyProof.Rows.sortedHeap_old hb (Heap.lt_size e)).trans e
    have kS : ∀ b o, s.heap.get? b = some o → (sortedHeap h2 h'.objs.size (as.map Value.ref) out).get? b = some o := fun b o e => kF b o (ne0 _ _ (hk b o e)) (kb b o e)
    obtain ⟨eF, heF⟩ := PyProof.Rows.sortedHeap_at (vs := as.map Value.ref) (out := out) hob
    have I1 : Inv X pins σ H { s with heap := sortedHeap h2 h'.objs.size (as.map Value.ref) out, toks := tk } := I.kept (t' := tk) kS
    have hn0 : H h'.objs.size = none := I.hok.fresh (Nat.le_of_lt hlt)
    have hlen : (zs.map fun z => V.ref z.1).length ≤ sizeLine := by
      have e := hperm.length_eq
      rw [List.length_map] at e
      rw [List.length_map, sizeLine_eq]
      omega
    have rv : Vals (zs.map fun z => V.ref z.1) out.toList := by
      rw [hout]
      exact vals_maps (fun z : Addr × Int × V => V.ref z.1) (fun z => Value.ref z.1) zs fun _ _ => rfl
    have I2 : Inv X pins σ (upd H h'.objs.size (.lst (zs.map fun z => V.ref z.1))) { s with heap := sortedHeap h2 h'.objs.size (as.map Value.ref) out, toks := tk } :=
      I1.take (h' := sortedHeap h2 h'.objs.size (as.map Value.ref) out) (t' := tk) (fun b ob _ e => e) (I.fpOk (Nat.le_of_lt hlt) hn0) ⟨hlen, out.toList, eF, rv, heF⟩
    obtain ⟨H2, I3, g, qt⟩ := takeX (P := fun b o => H b = none ∧ ∃ (j : Nat) (e : Int × V) (oz : Obj), as[j]? = some b ∧ ks[j]? = some e ∧ oz.dict = none ∧ o = .frz oz (.tup [.int e.1, e.2])) I as _ I2 nd fun b hb => by
      obtain ⟨j, hj⟩ := List.mem_iff_getElem?.mp hb
      obtain ⟨e, t, u, he, ru, hg⟩ := pr j b hj
      have low : s.heap.objs.size ≤ b := Nat.le_of_lt (hG.above b hb)
      have hg' := kF _ _ (ne0 _ _ hg) (ka _ _ hg)
      refine ⟨low, ?_, _, ⟨I.hok.fresh low, j, e, _, hj, he, rfl, rfl⟩, fun H3 => ⟨hg', (by rw [sizeLine_eq]; show 2 ≤ 16777216; omega), [Value.int e.1 t, u], .cons ⟨t, rfl⟩ (.cons ru .nil), ⟨_, hg', rfl, 0, rfl⟩⟩⟩
      rw [upd_ne (ne0 _ _ hg)]
      exact I.hok.fresh low
    have gr : ∀ b o, H b = some o → H2 b = some o := fun b o e => g b o (by rw [upd_ne (ne_of_none e hn0)]; exact e)
    refine ⟨.ref h'.objs.size, H2, I3, rfl, q H2 h'.objs.size zs gr hperm hsort hn0 (g _ _ upd_same) (fun z' hz' => ?_) hnk⟩
    obtain ⟨i, i1, i2⟩ := idx z' hz'
    obtain ⟨vs, ⟨hb, j, e, oz, j1, j2, hdz, ev⟩, hH⟩ := qt z'.1 (List.mem_of_getElem? i1)
    have eij : i = j := (List.getElem?_inj (List.getElem?_eq_some_iff.mp i1).1 nd).mp (i1.trans j1.symm)
    subst eij
    have ee : e = z'.2 := Option.some.inj (j2.symm.trans i2)
    rw [ev, ee] at hH
    obtain ⟨_, _, _, _, _, hg⟩ := pr i _ i1
    exact ⟨hb, ne0 _ _ hg, oz, hdz, hH⟩
end
end G
namespace G
open PySem L2
/-! ### all that is new is shared -/
section
variable {K : PySem.W.Frag} {w : World} {F : Fr} {σ : St} {Γ : Sto} {R H H' : Hp}
open Classical in
/-- all that is new is shared but the thing at p -/
noncomputable def newR1 (p : Addr) (R H H' : Hp) : Hp := fun a => if H a = none ∧ a ≠ p then H' a else R a
theorem Abs.grow1 (A : Abs K w F σ Γ R H) (e : Ex H H') {p : Addr} (hp : H p = none) : Abs K w F σ Γ (newR1 p R H H') H' ∧ Step σ Γ R H Γ (newR1 p R H H') H' ∧ Ex R (newR1 p R H H') ∧ newR1 p R H H' p = none ∧ ∀ a o, H a = none → a ≠ p → H' a = some o → newR1 p R H H' a = some o := by
  have kee : ∀ b, H' b = none → H b = none := fun b z => by
    cases hb : H b with
    | none => rfl
    | some o => rw [e b o hb] at z; cases z
  have old : ∀ {a : Addr} {o : HO}, H a = some o → newR1 p R H H' a = R a := fun h => if_neg (by rw [h]; intro z; cases z.1)
  have new : ∀ {a : Addr}, H a = none → a ≠ p → newR1 p R H H' a = H' a := fun h n => if_pos ⟨h, n⟩
  have atp : newR1 p R H H' p = none := by
    have z : newR1 p R H H' p = R p := if_neg fun z => z.2 rfl
    rw [z]; exact A.freshR hp
  have exR : Ex R (newR1 p R H H') := fun b o z => (old (A.rh b o z)).trans z
  refine ⟨⟨A.len, fun i d g => ?_, fun i t o g => ?_, A.dis, fun b o z => ?_, Evl.Ex.trans A.r0 exR, fun b o z r => ?_, fun b o z n => e b o (A.frm b o z n), fun b z => A.kee b (kee b z)⟩, ⟨exR, fun b o z r no => ⟨e b o z, by rw [old z]; exact r⟩, fun _ q => q, fun i s g n => ⟨s, g, n⟩, kee⟩, exR, atp, fun a o h n z => by rw [new h n]; exact z⟩
  · obtain ⟨v, h1, h2⟩ := A.sh i d g
    exact ⟨v, h1, h2.mono exR⟩
  · obtain ⟨q, h1, h2, h3, h4⟩ := A.own i t o g
    obtain ⟨ho, hh⟩ := h4.there
    exact ⟨q, h1, by rw [old hh]; exact h2, h3, h4.monoR exR fun o z => e q o z⟩
  · by_cases hb : H b = none
    · by_cases hbp : b = p
      · subst hbp; rw [atp] at z; cases z
      · rw [new hb hbp] at z; exact z
    · obtain ⟨o', hb'⟩ := Option.ne_none_iff_exists'.mp hb
      rw [old hb'] at z
      exact e b o (A.rh b o z)
  · by_cases hb : H b = none
    · rw [A.kee b hb] at z; cases z
    · obtain ⟨o', hb'⟩ := Option.ne_none_iff_exists'.mp hb
      rw [old hb']
      exact A.sep b o z r
end

/-! ### the expression sorted(d.items()) -/
/-- pairs by their first ints -/
def insP (x : Int × PD) : List (Int × PD) → List (Int × PD)
  | [] => [x]
  | y :: ys => if x.1 ≤ y.1 then x :: y :: ys else y :: insP x ys
def sortP : List (Int × PD) → List (Int × PD)
  | [] => []
  | x :: xs => insP x (sortP xs)
theorem insP_perm (x : Int × PD) : ∀ l, (insP x l).Perm (x :: l)
  | [] => .refl _
  | y :: ys => by
    unfold insP
    split
    · exact .refl _
    · exact ((insP_perm x ys).cons y).trans (.swap x y ys)
theorem sortP_perm : ∀ l, (sortP l).Perm l
  | [] => .refl _
  | x :: xs => (insP_perm x _).trans ((sortP_perm xs).cons x)
theorem insP_srt (x : Int × PD) : ∀ l : List (Int × PD), l.Pairwise (fun a b => a.1 ≤ b.1) → (insP x l).Pairwise (fun a b => a.1 ≤ b.1)
  | [], _ => by simp [insP]
  | y :: ys, h => by
    unfold insP
    rw [List.pairwise_cons] at h
    split
    · rename_i hxy
      rw [List.pairwise_cons, List.pairwise_cons]
      refine ⟨fun z hz => ?_, h⟩
      rcases List.mem_cons.mp hz with rfl | hz
      · exact hxy
      · exact Int.le_trans hxy (h.1 z hz)
    · rename_i hxy
      rw [List.pairwise_cons]
      refine ⟨fun z hz => ?_, insP_srt x ys h.2⟩
      rcases List.mem_cons.mp ((insP_perm x ys).mem_iff.mp hz) with rfl | hz
      · omega
      · exact h.1 z hz
theorem sortP_srt : ∀ l : List (Int × PD), (sortP l).Pairwise (fun a b => a.1 ≤ b.1)
  | [] => .nil
  | x :: xs => insP_srt x _ (sortP_srt xs)
theorem srtP_uniq : ∀ {l m : List (Int × PD)}, l.Perm m → (l.map (·.1)).Nodup → l.Pairwise (fun a b => a.1 ≤ b.1) → m.Pairwise (fun a b => a.1 ≤ b.1) → l = m
  | [], m, p, _, _, _ => by
    have := p.length_eq
    cases m with
    | nil => rfl
    | cons x xs => simp at this
  | x :: xs, [], p, _, _, _ => by have := p.length_eq; simp at this
  | x :: xs, y :: ys, p, n, h1, h2 => by
    have hxy : x = y := by
      have mx : x ∈ y :: ys := p.mem_iff.mp (List.mem_cons_self ..)
      have my : y ∈ x :: xs := p.mem_iff.mpr (List.mem_cons_self ..)
      rw [List.pairwise_cons] at h1 h2
      rcases List.mem_cons.mp mx with e | mx
      · exact e
      · rcases List.mem_cons.mp my with e | my
        · exact e.symm
        · have a1 := h2.1 x mx
          have a2 := h1.1 y my
          have e : x.1 = y.1 := by omega
          rw [List.map_cons, List.nodup_cons] at n
          exact absurd (List.mem_map.mpr ⟨y, my, e.symm⟩) n.1
    subst hxy
    rw [List.pairwise_cons] at h1 h2
    rw [List.map_cons, List.nodup_cons] at n
    rw [srtP_uniq p.cons_inv n.2 h1.2 h2.2]
def pairsI : List (PD × PD) → Option (List (Int × PD))
  | [] => some []
  | (.int i, d) :: r => (pairsI r).map ((i, d) :: ·)
  | _ => none
def tupP (p : Int × PD) : PD := .tuple [.int p.1, p.2]
def srtD (f : Ev) : Ev := fun Γ => (shr f Γ).bind fun d Γ1 => match d with
  | .dict kvs => match pairsI kvs with
    | some ps => if ps.length < 64 then .ok (.own (.lst ((sortP ps).map tupP))) Γ1 else .bad
    | none => .bad
  | _ => .bad
theorem shk_pairs {K : PySem.W.Frag} {R : Hp} : ∀ {ws : List (L2.Key × V)} {kvs : List (L2.Key × PD)} {ps : List (Int × PD)}, ShK K R ws kvs → pairsI (kvs.map fun p => (kD p.1, p.2)) = some ps →
    ∃ ks : List (Int × V), ws = ks.map entI ∧ ks.length = ps.length ∧ ∀ (j : Nat) (e : Int × V), ks[j]? = some e → ∃ p : Int × PD, ps[j]? = some p ∧ p.1 = e.1 ∧ Sh K R e.2 p.2
  | _, _, ps, .nil, e => by cases e; exact ⟨[], rfl, rfl, fun j e h => by simp at h⟩
  | _, _, ps, .cons (k := k) (v := v) (d := d) (kvs := kvs) h t, e => by
    cases k with
    | inr x => cases e
    | inl i =>
      have e : (pairsI (kvs.map fun p => (kD p.1, p.2))).map ((i, d) :: ·) = some ps := e
      cases z : pairsI (kvs.map fun p => (kD p.1, p.2)) with
      | none => rw [z] at e; cases e
      | some qs =>
        rw [z] at e; cases e
        obtain ⟨ks, e1, e2, e3⟩ := shk_pairs t z
        refine ⟨(i, v) :: ks, by rw [e1]; rfl, by simp [e2], fun j x hx => ?_⟩
        cases j with
        | zero => simp at hx; subst hx; exact ⟨(i, d), rfl, rfl, h⟩
        | succ j => obtain ⟨p, h1, h2⟩ := e3 j x (by simpa using hx); exact ⟨p, by simpa using h1, h2⟩
end G
namespace G
open PySem L2 PySem.Spec PyProof.Rows L2.DX
def tItemsK (td : TE) : TE := fun σ H Q => td σ H fun x H1 => ∃ d o kvs, x = .ref d ∧ H1 d = some (.frz o (.dK kvs)) ∧ ∀ p, H1 p = none → Q (.ref p) (upd H1 p (itemsO p d))
section
variable {X : Cx} {e : Expr} {td : TE} {apos cpos : Pos}
theorem pe_itemsK (he : PE X e td) (hbase : attributeBase e "items" X.env (eval e X.env) = eval e X.env := by rfl) (hline : (apos.endLine == cpos.line) = true := by rfl) : PE X (.Call (.Attribute e "items" apos) [] [] cpos) (tItemsK td) := by
  refine ⟨fun pins s σ H Q I h => ?_⟩
  refine wpAny_Call_method (T := "dict") (id := "dict.items") hbase rfl hline F.plainAttrs_dict F.slot_dict_items F.type_dict_items (thn (he.run pins s σ H _ I h) fun u s1 ⟨x, H1, I1, rx, d, o, kvs, ex, hd, q⟩ => ?_)
  subst ex
  obtain rfl : u = Value.ref d := rx
  obtain ⟨hs, hgd, hx, es, ep, vs, hdt, hsz, kv, hm⟩ := I1.frzK hd
  refine ⟨hm.dictOf.typeIs, hm.dictOf.mapOf.noDict, ?_⟩
  exact Calls.callWith_builtin rfl (PySem.evalArgs_none (mt_itemsK pins s1 σ H1 (.ref d) [] (.ref d) [] Q I1 rfl .nil ⟨d, o, kvs, rfl, rfl, hd, q⟩))
end
section
variable {X : Cx} {Wx : WX} {e call : Expr} {fa : Ev} {apos cpos : Pos}
theorem ps_of_ks {K : PySem.W.Frag} {R : Hp} {ks : List (Int × V)} {ps : List (Int × PD)} (hl : ks.length = ps.length) (h : ∀ (j : Nat) (e : Int × V), ks[j]? = some e → ∃ p : Int × PD, ps[j]? = some p ∧ p.1 = e.1 ∧ Sh K R e.2 p.2) :
    ∀ {zs : List (Addr × Int × V)}, (zs.map (·.2)).Perm ks → ∃ qs : List (Int × PD), qs.Perm ps ∧ qs.length = zs.length ∧ ∀ (j : Nat) (z : Addr × Int × V), zs[j]? = some z → ∃ p, qs[j]? = some p ∧ p.1 = z.2.1 ∧ Sh K R z.2.2 p.2 := by
  intro zs hp
  have m1 : (ks.zip ps).map (·.1) = ks := List.map_fst_zip (by omega)
  obtain ⟨ws, pw, ew⟩ := perm_lift (fun z : (Int × V) × (Int × PD) => z.1) hp (ks.zip ps) m1
  refine ⟨ws.map (·.2), ?_, ?_, fun j z hz => ?_⟩
  · have e := pw.map (·.2)
    have m2 : (ks.zip ps).map (·.2) = ps := List.map_snd_zip (by omega)
    rw [m2] at e
    exact e
  · have e := congrArg List.length ew
    rw [List.length_map, List.length_map] at e
    rw [List.length_map]; exact e
  · have e1 : (ws.map (·.1))[j]? = some z.2 := by rw [ew, List.getElem?_map, hz]; rfl
    rw [List.getElem?_map] at e1
    cases hw : ws[j]? with
    | none => rw [hw] at e1; cases e1
    | some y =>
      rw [hw] at e1
      have e1 : y.1 = z.2 := by simpa using e1
      obtain ⟨i, hi⟩ := List.mem_iff_getElem?.mp (pw.mem_iff.mp (List.mem_of_getElem? hw))
      obtain ⟨i1, i2⟩ := List.getElem?_zip_eq_some.mp hi
      obtain ⟨p, h1, h2, h3⟩ := h i _ i1
      rw [i2] at h1; cases h1
      exact ⟨y.2, by rw [List.getElem?_map, hw]; rfl, by rw [h2, e1], by rw [← e1]; exact h3⟩
theorem Abs.notOwn' {K : PySem.W.Frag} {w : World} {F : Fr} {σ : L2.St} {Γ Γ' : Sto} {R R' H H' : Hp} {p : Addr} (A' : Abs K w F σ Γ' R' H') (h : H p = none) (S : Step σ Γ R H Γ' R' H') (A : Abs K w F σ Γ R H) : ¬ Own σ Γ' p := fun q => A.notOwn h (S.own p q)
theorem shA_of {K : PySem.W.Frag} {R : Hp} : ∀ {xs : List V} {ds : List PD}, xs.length = ds.length → (∀ (j : Nat) (v : V) (d : PD), xs[j]? = some v → ds[j]? = some d → Sh K R v d) → ShA K R xs ds
  | [], [], _, _ => .nil
  | x :: xs, d :: ds, hl, h => .cons (h 0 x d rfl rfl) (shA_of (by simpa using hl) fun j v e h1 h2 => h (j + 1) v e (by simpa using h1) (by simpa using h2))
  | [], _ :: _, hl, _ => by simp at hl
  | _ :: _, [], hl, _ => by simp at hl
theorem v_srtD (hc : ∀ {t : TA}, PA X [.Call (.Attribute e "items" apos) [] [] cpos] t → PE X call (tCB rSortItK t)) (ha : Vx X Wx e fa) (hbase : attributeBase e "items" X.env (eval e X.env) = eval e X.env := by rfl) (hline : (apos.endLine == cpos.line) = true := by rfl)
    (hs : starEach [.Call (.Attribute e "items" apos) [] [] cpos] X.env = (false, eval (.Call (.Attribute e "items" apos) [] [] cpos) X.env) :: starEach [] X.env := by rfl) : Vx X Wx call (srtD fa) := fun F =>
  (hc (pa_cons (pe_itemsK (d_of ha F) hbase hline) pa_nil hs)).mono fun σ H Q ⟨Γ, R, A, h⟩ => by
    refine ⟨Γ, R, A, h.split.mono fun d Γ1 R1 H1 A1 S1 h1 v hv => ?_⟩
    cases d with
    | dict ds =>
      cases hv with
      | dic hq hk =>
        rename_i a od ws kvs
        simp only at h1
        cases z : pairsI (kvs.map fun p => (kD p.1, p.2)) with
        | none => simp only [z] at h1; exact h1.elim
        | some ps =>
          simp only [z] at h1
          by_cases hl : ps.length < 64
          · rw [if_pos hl] at h1
            obtain ⟨ks, rfl, hl2, hks⟩ := shk_pairs hk z
            refine ⟨a, od, _, rfl, A1.rh _ _ hq, fun p hp => ?_⟩
            obtain ⟨A2, S2⟩ := A1.new hp (itemsO p a)
            have np : a ≠ p := by
              rintro rfl
              rw [A1.rh _ _ hq] at hp; cases hp
            refine ⟨p, a, od, ks, rfl, upd_same, by rw [upd_ne np]; exact A1.rh _ _ hq, by omega, fun H' l zs gr hperm hsort hl0 hL hz hnk => ?_⟩
            obtain ⟨A3, S3, e3, r3, n3⟩ := A2.grow1 gr hl0
            obtain ⟨qs, pq, lq, gq⟩ := ps_of_ks hl2 hks hperm
            -- the sorted pairs
            have sorted : qs.Pairwise (fun a b => a.1 ≤ b.1) := by
              rw [List.pairwise_iff_getElem] at hsort ⊢
              intro i j hi hj hij
              have hzi : zs[i]? = some zs[i] := List.getElem?_eq_getElem (by omega)
              have hzj : zs[j]? = some zs[j] := List.getElem?_eq_getElem (by omega)
              obtain ⟨p1, a1, a2, _⟩ := gq i _ hzi
              obtain ⟨p2, b1, b2, _⟩ := gq j _ hzj
              have c1 : qs[i] = p1 := by rw [List.getElem?_eq_getElem hi] at a1; exact Option.some.inj a1
              have c2 : qs[j] = p2 := by rw [List.getElem?_eq_getElem hj] at b1; exact Option.some.inj b1
              have := hsort i j (by rw [List.length_map]; omega) (by rw [List.length_map]; omega) hij
              rw [List.getElem_map, List.getElem_map] at this
              rw [c1, c2, a2, b2]; exact this
            have hnq : (qs.map (·.1)).Nodup := by
              have e : ks.map (·.1) = ps.map (·.1) := by
                apply List.ext_getElem?
                intro j
                rw [List.getElem?_map, List.getElem?_map]
                cases hj : ks[j]? with
                | none =>
                  rw [List.getElem?_eq_none_iff] at hj
                  rw [List.getElem?_eq_none (by omega)]; rfl
                | some e =>
                  obtain ⟨p, h1, h2, _⟩ := hks j e hj
                  rw [h1]; simp [h2]
              rw [e] at hnk
              exact ((pq.map (·.1)).nodup_iff).mpr hnk
            have eq : qs = sortP ps := srtP_uniq (pq.trans (sortP_perm ps).symm) hnq sorted (sortP_srt ps)
            subst eq
            refine h1.at A3 (S1.trans (S2.trans S3)) _ ⟨l, rfl, ?_, A2.fresh0 hl0, r3, A3.notOwn' hl0 S3 A2, zs.map fun z => V.ref z.1, hL, ?_⟩
            · exact S1.kee l (S2.kee l hl0)
            · apply shA_of
              · rw [List.length_map, List.length_map]; exact lq.symm
              · intro j v d hv hd
                rw [List.getElem?_map] at hv hd
                cases hzj : zs[j]? with
                | none => rw [hzj] at hv; cases hv
                | some y =>
                  rw [hzj] at hv; cases hv
                  obtain ⟨p, p1, p2, p3⟩ := gq j y hzj
                  rw [p1] at hd; cases hd
                  obtain ⟨y1, y2, oz, y3, y4⟩ := hz y (List.mem_of_getElem? hzj)
                  refine .tup ⟨oz, y3, n3 _ _ y1 y2 y4⟩ (.cons ?_ (.cons ?_ .nil))
                  · rw [p2]; exact .int _
                  · exact Sh.mono (Evl.Ex.trans S2.ex e3) p3
          · rw [if_neg hl] at h1; exact h1.elim
    | _ => exact h1.elim
end
end G
namespace G
open PySem L2
@[simp] theorem srtD_ap {Γ : Sto} (f : Ev) : srtD f Γ = (shr f Γ).bind fun d Γ1 => match d with
  | .dict kvs => match pairsI kvs with
    | some ps => if ps.length < 64 then .ok (.own (.lst ((sortP ps).map tupP))) Γ1 else .bad
    | none => .bad
  | _ => .bad := (rfl)
end G

namespace G
open PySem L2 PySem.Spec PyProof.Rows

/-! ### dict(a tuple of pairs) -/
theorem tuple_keys_none : typeLookup (.type "tuple") "keys" = pure none := am_miss_of_fast (by first | decide +kernel | rfl)
section
variable {prog : Program} {w : World} {A : Around} {E : Value → Shared → Prop}
/-- a tuple has no attribute 'keys' -/
theorem miss_tup {s : Shared} {a : Addr} {o : Obj} {xs : Array Value} {k : Nat} {Q : Option Value → Shared → Prop} (hx : s.heap.get? a = some o) (hc : o.cls = .type "tuple") (hdat : o.data = .seq xs k) (hd : o.dict = none) (hA : A.handled = none)
    (h : ∀ h' tk, (∀ b ob, s.heap.get? b = some ob → h'.get? b = some ob) → Q none { s with heap := h', toks := tk }) : wpAny (model prog w) A (getAttr? (.ref a) "keys") Q E s := by
  obtain ⟨c, dct, dat, sl⟩ := o
  simp only at hc hdat hd
  subst hc hdat hd
  obtain ⟨hp, g, d, tk, os⟩ := s
  have hT : ∀ tk', (⟨hp, g, d, tk', os⟩ : Shared).TypeIs (.ref a) "tuple" := fun _ => ⟨_, hx, rfl⟩
  have gone := tuple_keys_none
  have plain : (["__module__", "__name__", "__qualname__", "__doc__", "__annotations__"] : List Str).contains "keys" = false := by decide +kernel
  have short : ("keys" : Str).length + 100 ≤ sizeLine := by first | size_fits | decide +kernel
  have f1 := sub_AttributeError
  have f3 := PySem.F.slot_tuple_getattribute.lookup
  have f4 := PySem.F.slot_tuple_getattribute.bind (.ref a)
  have f5 := am_tuple_getattr_none
  unfold getAttr? getAttrBy? getAttrBy
  repeat (any_goals (first | assumption | exact hT _ | ((with_reducible show wpAny _ _ (call (Value.builtin "tuple.__getattribute__") _ _) _ _ _); refine call_meets PySem.F.slot_tuple_getattribute (hT _) am_entry_tuple_getattribute (PySem.F.args_tuple_getattribute_2 _ _) (meets_getattribute_miss_tuple a xs k sl "keys" _ gone plain short) ⟨hx, hA, fun h' tk' e hx' => ?_⟩) | wp_step))
  obtain ⟨t', u', he⟩ := hx'.there
  show wpAny _ _ (getattributeRaised _ _ _ _ _ _ _) _ _ _
  unfold getattributeRaised
  repeat (any_goals (first | assumption | wp_step))
  all_goals first | exact h _ _ hx'.keeps | (dsimp only; repeat (any_goals (first | assumption | exact h _ _ hx'.keeps | wp_step)))

/-- the walk over the pairs of a tuple -/
theorem upd_loopT {R : Result → Shared → Prop} {S I l : Addr} {items : Array Value} {res : Value} (hh : A.handled = none) (hlI : l ≠ I) (hSI : S ≠ I) (hSl : S ≠ l) :
    ∀ (rest : List (Key × Value)) (i : Nat) (acc : List (Key × Value)) (ix : Int) (t : Tok) (s : Shared), items.size = i + rest.length → acc.length + rest.length ≤ sizeLine →
      (∀ (j : Nat) (q : Key × Value), rest[j]? = some q → ∃ (b : Addr) (u : Value), items[i + j]? = some (.ref b) ∧ b ≠ S ∧ b ≠ I ∧ IsTup s.heap b #[u, q.2] ∧ keyIs q.1 u = true) →
      s.heap.IsTupleIter I l i → s.heap.IsTuple l items → s.heap.DictOf (mixKind prog w) S acc →
      (∀ h' tk, h'.DictOf (mixKind prog w) S (merged acc rest) → (∀ b o, b ≠ S → b ≠ I → s.heap.get? b = some o → h'.get? b = some o) → R (.ok (.ret res)) { s with heap := h', toks := tk }) →
      codeAny (model prog w) A (.builtin "dict.update.loop" ⟨[.ref S, .ref I, .int ix t, res], []⟩) R s
  | [], i, acc, ix, t, s, hsz, hln, ht, hit, hl, hm, hR => by
    refine codeAny_builtin ud_entry ?_
    rw [Around.under_plainId ud_plain _]
    show wpAny _ A.in1 (pyNext (.ref I) >>= _) _ _ s
    refine wpAny_bind (wpAny_pyNext_tuple_end (A := A.in1) hh hit hl (by first | exact Array.getElem?_eq_none (Nat.le_of_eq hsz) | (simp at hsz; simp; omega)) fun h' he => ?_)
    show wpAny _ A.in1 (Builtin.Dict.addKeywords S [] >>= _) _ _ _
    exact wpAny_bind (wpAny_pure (wpAny_pure (hR h' s.toks (hm.extBut he hSI) fun b o _ hb e => he b o hb e)))
  | q :: rest, i, acc, ix, t, s, hsz, hln, ht, hit, hl, hm, hR => by
    obtain ⟨b, u, hb, hbS, hbI, htup, hk⟩ := ht 0 q rfl
    rw [List.length_cons] at hsz hln
    refine codeAny_builtin ud_entry ?_
    rw [Around.under_plainId ud_plain _]
    show wpAny _ A.in1 (pyNext (.ref I) >>= _) _ _ s
    refine wpAny_bind (wpAny_pyNext_tuple_item (x := .ref b) hit hl (by simpa using hb) fun h1 hit1 hs1 => ?_)
    have ht1 : IsTup h1 b #[u, q.2] := htup.extBut hs1.extBut hbI
    have hl1 : h1.IsTuple l items := hl.extBut hs1.extBut hlI
    have hm1 : h1.DictOf (mixKind prog w) S acc := hm.extBut hs1.extBut hSI
    obtain ⟨o, ho, hc, n, hd⟩ := id ht1
    show wpAny _ A.in1 (holding [Value.ref b] _ >>= _) _ _ _
    refine wpAny_bind (wpAny_holding (wpAny_bind (wpAny_tryCatch ?_)))
    unfold Builtin.Dict.pairItems
    refine wpAny_bind (wpAny_typeOf (T := "tuple") ⟨o, ho, hc⟩ ?_)
    rw [if_pos (by first | decide | rfl | simp)]
    refine wpAny_bind (wpAny_seqItems ho hd (wpAny_pure ?_))
    show wpAny _ A.in1 (holding [u, q.2] (dictSet S u q.2)) _ _ _
    refine wpAny_holding (wpAny_dictSet_pairs (knd := mixKind prog w) (k := q.1) hk hm1 (fun h2 hm2 hs2 => ?_) (by omega))
    refine wpAny_pure ⟨plainId_quiet ud_plain _, upd_loopT (items := items) hh hlI hSI hSl rest (i + 1) (stored acc q.1 q.2) (ix + 1) 0 _ (show items.size = i + 1 + rest.length by omega) ?_ (fun j q' e => ?_) ?_ ?_ hm2 fun h' tk hd' k => ?_⟩
    · have z := stored_length_le acc q.1 q.2
      omega
    · obtain ⟨b', u', hb', hbS', hbI', htup', hk'⟩ := ht (j + 1) q' (by simpa using e)
      refine ⟨b', u', ?_, hbS', hbI', (htup'.extBut hs1.extBut hbI').extBut hs2.extBut hbS', hk'⟩
      rw [show i + 1 + j = i + (j + 1) by omega]
      exact hb'
    · exact hit1.extBut hs2.extBut (Ne.symm hSI)
    · exact hl1.extBut hs2.extBut (Ne.symm hSl)
    · exact hR h' tk hd' fun c oc h3 h4 e => k c oc h3 h4 (hs2.extBut c oc h3 (hs1.extBut c oc h4 e))
/-- dict(t) of a tuple of pairs -/
theorem call_dict_tup {s : Shared} {l : Addr} {ol : Obj} {items : Array Value} {n : Nat} {prs : List (Key × Value)} {Q : Value → Shared → Prop} (hh : A.handled = none) (hl : s.heap.get? l = some ol) (hc : ol.cls = .type "tuple") (hd : ol.dict = none)
    (hdat : ol.data = .seq items n) (hsz : items.size = prs.length) (hln : prs.length ≤ sizeLine)
    (ht : ∀ (j : Nat) (q : Key × Value), prs[j]? = some q → ∃ (b : Addr) (u : Value), items[j]? = some (.ref b) ∧ IsTup s.heap b #[u, q.2] ∧ keyIs q.1 u = true)
    (h : ∀ h' tk, h'.DictOf (mixKind prog w) s.heap.objs.size (merged [] prs) → (∀ b o, s.heap.get? b = some o → h'.get? b = some o) → Q (.ref s.heap.objs.size) { s with heap := h', toks := tk }) :
    wpAny (model prog w) A (call (.type "dict") [.ref l]) Q E s := by
  refine callType_codes (Q₁ := fun obj s₁ => obj = .ref s.heap.objs.size ∧ s₁ = { s with heap := s.heap.push { cls := .type "dict", data := .dict #[] } }) PySem.F.kt_called_dict (PySem.F.kt_typeCall_dict_1 _) PySem.F.entry_dict_init (kt_code_dict_new _ ⟨rfl, rfl⟩) ?_
  rintro obj s₁ ⟨rfl, rfl⟩
  have new := Heap.DictOf.new (knd := mixKind prog w) s.heap
  have k0 : ∀ b o, s.heap.get? b = some o → (s.heap.push { cls := .type "dict", data := .dict #[] }).get? b = some o := fun b o e => Heap.get?_push_of_some _ e
  refine ⟨new.typeIs, PySem.F.args_dict_init_2 _ _, ?_⟩
  unfold Builtin.«dict.__init__»
  refine wpAny_bind ?_
  unfold Builtin.Dict.selfAndRest
  refine wpAny_bind (wpAny_notOrdered_dict new.typeIs ?_)
  show wpAny _ _ (pure (s.heap.objs.size, [Value.ref l])) _ _ _
  refine wpAny_pure ?_
  show wpAny _ _ (Builtin.Dict.updateFrom "dict.__init__" s.heap.objs.size (.ref l) [] .none) _ _ _
  unfold Builtin.Dict.updateFrom
  refine wpAny_bind (wpAny_typeOf (T := "tuple") ⟨ol, k0 _ _ hl, hc⟩ ?_)
  rw [if_pos (by first | decide | rfl | simp)]
  refine wpAny_bind (miss_tup (k0 _ _ hl) hc hdat hd hh fun h1 tk1 hk1 => ?_)
  rw [if_pos (show (none : Option Value).isNone = true from rfl)]
  refine wpAny_bind (wpAny_rule ?_)
  have hl1 : h1.IsTuple l items := ⟨ol, hk1 _ _ (k0 _ _ hl), hc, n, hdat⟩
  have big : s.heap.objs.size < h1.objs.size := Heap.lt_size (hk1 _ _ (Heap.get?_push_size s.heap (o := { cls := .type "dict", data := .dict #[] }) rfl))
  refine wpAny_bind (wpAny_pyIter_tuple hl1 ?_)
  have k2 : ∀ b o, h1.get? b = some o → (h1.push { cls := .type "tuple_iterator", data := .fields #[.ref l, .int 0 0] }).get? b = some o := fun b o e => Heap.get?_push_of_some _ e
  have low : l < s.heap.objs.size := Heap.lt_size hl
  have key := upd_loopT (prog := prog) (w := w) (A := A.in1) (R := wants (fun r s₂ => r = .none ∧ Q (.ref s.heap.objs.size) s₂) E) (S := s.heap.objs.size) (I := h1.objs.size) (l := l) (items := items) (res := Value.none) hh
    (Nat.ne_of_lt (Nat.lt_trans low big)) (Nat.ne_of_lt big) (Nat.ne_of_gt low) prs 0 [] 0 0
    { s with heap := h1.push { cls := .type "tuple_iterator", data := .fields #[.ref l, .int 0 0] }, toks := tk1 } (by rw [hsz, Nat.zero_add]) (by rw [List.length_nil, Nat.zero_add]; exact hln)
    (fun j q e => by
      obtain ⟨b, u, e1, e2, e3⟩ := ht j q e
      have hb : b < s.heap.objs.size := e2.lt
      exact ⟨b, u, by rw [Nat.zero_add]; exact e1, Nat.ne_of_lt hb, Nat.ne_of_lt (Nat.lt_trans hb big), e2.keeps fun c o z => k2 _ _ (hk1 _ _ (k0 _ _ z)), e3⟩)
    ⟨_, Heap.get?_push_size _ rfl, rfl, rfl⟩ (hl1.push _) ((new.at fun o e => hk1 _ _ e).at fun o e => k2 _ _ e)
    (fun h' tk hd' k => ⟨rfl, h h' tk hd' fun b o e => k b o (Nat.ne_of_lt (Heap.lt_size e)) (Nat.ne_of_lt (Nat.lt_trans (Heap.lt_size e) big)) (k2 _ _ (hk1 _ _ (k0 _ _ e)))⟩)
  first
    | exact wpAny_pure ⟨plainId_quiet ud_plain _, key⟩
    | exact wpAny_bind (wpAny_pure (wpAny_pure ⟨plainId_quiet ud_plain _, key⟩))
end
section
variable {X : Cx}
def rDictT (K : PySem.W.Frag) : List V → Hp → VK → Prop := fun xs H Q => ∃ (a : Addr) (ps : List Addr) (kvs : List (Key × V)), xs = [.ref a] ∧ TupX H a (ps.map V.ref) ∧ Paired (fun p kv => SqT K H p [kV kv.1, kv.2]) ps kvs ∧
    ∀ p, H p = none → Q (.ref p) (upd H p (.dK (mergeK [] kvs)))
theorem call_dictT (hcalm : X.calm = true) : CallR X (.type "dict") (rDictT X.K) := by
  intro pins s σ H xs us Q I r q
  obtain ⟨a, ps, kvs, ex, ⟨od, hod, hq⟩, hp, q⟩ := q
  subst ex
  obtain ⟨u, eu, rx⟩ := vals1 r
  subst eu
  cases rx
  obtain ⟨ho, hz, its, rv, o', ho', hc', n', hd'⟩ := (show ObjOk X.prog X.w H s.heap a (.frz od (.tup (ps.map V.ref))) from I.hok a _ hq)
  rw [ho] at ho'; cases ho'
  have ei := refs_at rv
  subst ei
  rw [List.length_map] at hz
  obtain ⟨prs, rel, hl, hpr⟩ := pairs_of I hp
  refine call_dict_tup (prs := prs) (I.ok.hd hcalm) ho hc' hod hd' (by simp [hl]) (by rw [hl]; exact hz) (fun j q' e => ?_) fun h' tk hd' k => ?_
  · obtain ⟨b, u, e1, e2, e3⟩ := hpr j q' e
    exact ⟨b, u, by simp [e1], e2, e3⟩
  · have hm : (s.heap.objs.size == sysModules) = false := beq_eq_false_iff_ne.mpr (Nat.ne_of_gt I.big)
    have hlen : (mergeK [] kvs).length ≤ sizeLine := by
      refine Nat.le_trans (length_mergeK kvs []) ?_
      rw [List.length_nil, Nat.zero_add, rel.length, hl]
      exact hz
    exact ⟨.ref s.heap.objs.size, upd H s.heap.objs.size (.dK (mergeK [] kvs)), I.laid (t' := tk) k (Nat.le_refl _) (show ObjOk X.prog X.w _ _ _ (.dK (mergeK [] kvs)) from ⟨hlen, hm, merged [] prs, KV.merge rel .nil, hd'⟩), rfl, q _ (I.hok.fresh (Nat.le_refl _))⟩
end
/-- pairs of keys and data -/
def pairsK : List PD → Option (List (Key × PD))
  | [] => some []
  | .tuple [k, d] :: r => match keyD k with
    | some key => (pairsK r).map ((key, d) :: ·)
    | none => none
  | _ => none
def mergeP (kvs more : List (Key × PD)) : List (Key × PD) := more.foldl (fun acc kv => gSet.putP acc kv.1 kv.2) kvs
theorem mergeP_k {K : PySem.W.Frag} {R : Hp} : ∀ {ws : List (Key × V)} {kvs : List (Key × PD)} {as : List (Key × V)} {bs : List (Key × PD)}, ShK K R ws kvs → ShK K R as bs → ShK K R (mergeK as ws) (mergeP bs kvs)
  | _, _, _, _, .nil, h => h
  | _, _, as, bs, .cons (k := k) (v := v) (d := d) (ws := ws) (kvs := kvs) hv t, h => by
    show ShK K R (mergeK (putK as k v) ws) (mergeP (gSet.putP bs k d) kvs)
    exact mergeP_k t (putP_k h hv)
theorem pairsK_sh {K : PySem.W.Frag} {R H : Hp} (e : Ex R H) : ∀ {xs : List V} {ds : List PD} {kvs : List (Key × PD)}, ShA K R xs ds → pairsK ds = some kvs →
    ∃ (ps : List Addr) (ws : List (Key × V)), xs = ps.map V.ref ∧ Paired (fun p kv => SqT K H p [kV kv.1, kv.2]) ps ws ∧ ShK K R ws kvs
  | _, _, kvs, .nil, h => by cases h; exact ⟨[], [], rfl, .nil, .nil⟩
  | _, _, kvs, .cons (v := v) (d := d) (vs := vs) (ds := ds) hv t, h => by
    match d, hv, h with
    | .tuple [k, d'], hv, h =>
      have h : (match keyD k with | some key => (pairsK ds).map ((key, d') :: ·) | none => none) = some kvs := h
      cases ek : keyD k with
      | none => rw [ek] at h; cases h
      | some key =>
        rw [ek] at h
        cases er : pairsK ds with
        | none => simp only [er] at h; cases h
        | some kvs' =>
          simp only [er] at h; cases h
          obtain ⟨ps, ws, rfl, h2, h3⟩ := pairsK_sh e t er
          cases hv with
          | tup hq hs =>
            rename_i a xs
            cases hs with
            | cons hk hs =>
              rename_i vk vs1
              cases hs with
              | cons hd hs =>
                rename_i vd vs2
                cases hs
                obtain ⟨rfl, _⟩ := bo_key (.sh hk : Bo K R H _ _) ek
                exact ⟨a :: ps, (key, vd) :: ws, rfl, .cons (Evl.ex_t e hq.sq) h2, .cons hd h3⟩
    | .tuple [], _, h => cases h
    | .tuple [_], _, h => cases h
    | .tuple (_ :: _ :: _ :: _), _, h => cases h
    | .none, _, h => cases h
    | .bool _, _, h => cases h
    | .int _, _, h => cases h
    | .str _, _, h => cases h
    | .list _, _, h => cases h
    | .dict _, _, h => cases h
def gDictT : PD → Option AV
  | .tuple ds => (pairsK ds).map fun kvs => .own (.dic (mergeP [] kvs))
  | _ => none
theorem k_dictT {X : Cx} {w : World} : Ok1 X.K w (fun x => rDictT X.K [x]) gDictT := fun R H x d s hx hd hg Q q => by
  unfold gDictT at hg
  split at hg
  · rename_i ds
    cases z : pairsK ds with
    | none => rw [z] at hg; cases hg
    | some kvs =>
      rw [z] at hg; cases hg
      obtain ⟨a, xs, rfl, h1, s1⟩ := hd.tupleX hx
      obtain ⟨ps, ws, rfl, h2, h3⟩ := pairsK_sh hx s1 z
      exact ⟨a, ps, ws, rfl, h1, h2, fun p hp => q _ _ ⟨p, _, rfl, hp, rfl, _, upd_same, mergeP_k h3 .nil⟩⟩
  · cases hg
@[simp] theorem gDictT_t (ds : List PD) : gDictT (.tuple ds) = (pairsK ds).map fun kvs => .own (.dic (mergeP [] kvs)) := (rfl)
end G

namespace G
open PySem L2

/-! ### dict comprehensions -/
def dcP {β : Type} (acc : List (Key × PD)) (kd v : PD) (k : List (Key × PD) → Res β) : Res β := match keyD kd with
  | some x => if acc.length < lim then k (gSet.putP acc x v) else .bad
  | none => .bad
def dcL (t : PD → Sto → Option Sto) (c : Sto → Res Bool) (fk fe : Sto → Res PD) (vs : List Nat) : List PD → List (Key × PD) → Sto → Res (List (Key × PD))
  | [], acc, Γ => .ok acc Γ
  | d :: ds, acc, Γ => match t d Γ with
    | none => .bad
    | some Γ1 => (nox (c Γ1)).bind fun b Γ2 => if b then (nox (fk Γ2)).bind fun kd Γ3 => (nox (fe Γ3)).bind fun v Γ4 => dcP acc kd v fun acc' => dcL t c fk fe vs ds acc' (wipeG Γ4 vs)
      else dcL t c fk fe vs ds acc (wipeG Γ2 vs)
def dc (fi : Sto → Res (List PD)) (vs : List Nat) (t : PD → Sto → Option Sto) (c : Sto → Res Bool) (fk fe : Sto → Res PD) : Ev := fun Γ => (fi Γ).bind fun ds Γ1 => if noOwnAt Γ1 vs then (dcL t c fk fe vs ds [] (wipeG Γ1 vs)).bind fun acc Γe => .ok (.own (.dic acc)) (rst Γ1 Γe vs) else .bad
theorem sh_keyV {K : PySem.W.Frag} {R : Hp} {v : V} {d : PD} {k : Key} (h : Sh K R v d) (e : keyD d = some k) : v = kV k := by
  cases d <;> first | (cases e; done) | (cases e; cases h; rfl)
section
variable {X : Cx} {Wx : WX} {kx elt tg iter : Expr} {ifs : List Expr} {fi : Sto → Res (List PD)} {t : PD → Sto → Option Sto} {js vs : List Nat} {g : TG} {fc : Sto → Res Bool} {fk fe : Sto → Res PD}
theorem tDc_ok {fl : Bool} {F : Fr} {σ : St} {H : Hp} {Q : VK} (hjs : ∀ j ∈ js, j ∈ vs)
    (hg : ∀ (F : Fr) (σ : St) (Γ Γ' : Sto) (R H : Hp) (v : V) (d : PD) (Q : St → Hp → Prop), Abs X.K X.w F σ Γ R H → LoF fl X.K R H v d → t d Γ = some Γ' →
      (∀ σ', Abs X.K X.w F σ' Γ' R H → σ'.length = σ.length → (∀ i, i ∉ js → σ'[i]? = σ[i]?) → (∀ i, i ∉ js → Γ'[i]? = Γ[i]?) → (∀ i ∈ js, ∀ t o, Γ'[i]? ≠ some (.own t o)) → Q σ' H) → g v σ H Q)
    (h : TV X.K X.w F Wx (dc fi vs t fc fk fe) σ H Q) :
    tDc (TIt fl X.K X.w F Wx fi) g (fun σ H Q => ∃ R1, TB X.K X.w { F with R0 := R1 } Wx0 fc σ H Q) (fun σ H Q => ∃ R1, TD X.K X.w { F with R0 := R1 } Wx0 fk σ H Q) (fun σ H Q => ∃ R1, TD X.K X.w { F with R0 := R1 } Wx0 fe σ H Q) vs σ H Q := by
  obtain ⟨Γ, R, A, h⟩ := h
  refine ⟨Γ, R, A, h.split.mono fun ds Γ1 R1 H1 A1 S1 h1 J hJ D hD => ?_⟩
  cases hno : noOwnAt Γ1 vs with
  | false => rw [hno] at h1; exact h1.elim
  | true =>
    rw [hno] at h1
    simp only [if_true] at h1
    have hno' : ∀ i ∈ vs, ∀ t o, Γ1[i]? ≠ some (.own t o) := fun i hi t o e => by
      have := List.all_eq_true.mp hno i hi
      simp only [e] at this
      cases this
    have AW := A1.sub.wipe vs
    have hF0 : F.H0 D = none := A1.fresh0 hD
    refine ⟨fun i m H' => m = ds.length - i ∧ i ≤ ds.length ∧ ∃ Γ' R' acc xs, Abs X.K X.w { F with R0 := R1 } (L2.wipe σ vs) Γ' R' H' ∧ Step (L2.wipe σ vs) (wipeG Γ1 vs) R1 H1 Γ' R' H' ∧ H' D = some (.dK xs) ∧ ShK X.K R' xs acc ∧ R' D = none ∧
      (∀ i ∈ vs, ∀ s, Γ'[i]? = some s → s = .no) ∧ Post X.K X.w F Wx σ Γ R H (fun a Γ' R' H' => ∀ v, VR X.K X.w F H σ Γ' R' H' v a → Q v H') ((dcL t fc fk fe vs (ds.drop i) acc Γ').bind fun acc Γe => .ok (.own (.dic acc)) (rst Γ1 Γe vs)), ⟨ds.length, by simp, Nat.zero_le _, wipeG Γ1 vs, R1, [], [], ?_⟩, ?_⟩
    · obtain ⟨B, T⟩ := AW.new hD (.dK [])
      refine ⟨B, T, upd_same, .nil, A1.freshR hD, fun i hi s e => ?_, h1⟩
      rw [wipeG_get, if_pos hi] at e
      cases z : Γ1[i]? with
      | none => rw [z] at e; cases e
      | some x => rw [z] at e; cases e; rfl
    · rintro i m H' ⟨rfl, hi, Γ', R', acc, xs, A', S', hDl, hxs, rD, hwp, h'⟩
      have hl' : Γ'.length = Γ1.length := by
        have e1 := A'.len
        rw [L2.wipe_length] at e1
        exact e1.trans A1.len.symm
      have nOwnD : ∀ {Γx : Sto} {Rx Hx : Hp}, Step (L2.wipe σ vs) (wipeG Γ1 vs) R1 H1 Γx Rx Hx → ¬ Own (L2.wipe σ vs) Γx D := fun S q => AW.notOwn hD (S.own D q)
      by_cases hlt : i < ds.length
      · have hd : ds[i]? = some ds[i] := List.getElem?_eq_getElem hlt
        rw [drop_at hd] at h'
        refine .inr ⟨hJ.go R' H' i _ A'.r0 A'.rh hd, fun H2 => ∃ Γ2 R2 acc xs, Abs X.K X.w { F with R0 := R1 } (L2.wipe σ vs) Γ2 R2 H2 ∧ Step (L2.wipe σ vs) (wipeG Γ1 vs) R1 H1 Γ2 R2 H2 ∧ H2 D = some (.dK xs) ∧ ShK X.K R2 xs acc ∧ R2 D = none ∧
          (∀ i ∈ vs, ∀ s, Γ2[i]? = some s → s = .no) ∧ Post X.K X.w F Wx σ Γ R H (fun a Γ' R' H' => ∀ v, VR X.K X.w F H σ Γ' R' H' v a → Q v H') ((dcL t fc fk fe vs (ds.drop (i + 1)) acc Γ2).bind fun acc Γe => .ok (.own (.dic acc)) (rst Γ1 Γe vs)),
          fun H2 ⟨Γ2, R2, acc, xs, q⟩ => ⟨ds.length - (i + 1), by omega, rfl, hlt, Γ2, R2, acc, xs, q⟩, fun x Hx y => ?_⟩
        have item : ∃ R3, Abs X.K X.w { F with R0 := R1 } (L2.wipe σ vs) Γ' R3 Hx ∧ LoF fl X.K R3 Hx x ds[i] ∧ Step (L2.wipe σ vs) Γ' R' H' Γ' R3 Hx := by
          rcases hJ.yld R' H' i _ x Hx A'.r0 A'.rh hd y with ⟨q1, rfl⟩ | ⟨p, hob, hp', rfl, q1⟩
          · exact ⟨R', A', .of q1, .refl _ _ _ _⟩
          · obtain ⟨A3, S3⟩ := A'.new hp' hob
            exact ⟨R', A3, q1, S3⟩
        obtain ⟨R3, A3, s3, S3⟩ := item
        unfold dcL at h'
        cases et : t ds[i] Γ' with
        | none => simp only [et] at h'; exact h'.elim
        | some Γt =>
          simp only [et] at h'
          refine hg _ _ Γ' Γt R3 Hx x _ _ A3 s3 et fun σ2 A4 l4 o4 p4 n4 => ?_
          have eW : L2.wipe σ2 vs = L2.wipe σ vs := by
            apply List.ext_getElem?
            intro k
            rw [wipe_get, wipe_get]
            by_cases hk : k ∈ vs
            · rw [if_pos hk, if_pos hk]
              have hlen : σ2.length = σ.length := l4.trans (L2.wipe_length σ vs)
              by_cases hk2 : k < σ.length
              · rw [List.getElem?_eq_getElem hk2, List.getElem?_eq_getElem (by omega)]; rfl
              · rw [List.getElem?_eq_none (by omega), List.getElem?_eq_none (by omega)]
            · rw [if_neg hk, if_neg hk, o4 k fun z => hk (hjs k z), wipe_get, if_neg hk]
          have eG : wipeG Γt vs = Γ' := by
            apply List.ext_getElem?
            intro k
            rw [wipeG_get]
            by_cases hk : k ∈ vs
            · rw [if_pos hk]
              have hlen : Γt.length = Γ'.length := by
                have e1 := A4.len
                have e2 := A3.len
                omega
              by_cases hk2 : k < Γ'.length
              · rw [List.getElem?_eq_getElem hk2, List.getElem?_eq_getElem (by omega)]
                show some Sl.no = some Γ'[k]
                rw [hwp k hk _ (List.getElem?_eq_getElem hk2)]
              · rw [List.getElem?_eq_none (by omega), List.getElem?_eq_none (by omega)]; rfl
            · rw [if_neg hk, p4 k fun z => hk (hjs k z)]
          have hnt : ∀ k ∈ vs, ∀ t o, Γt[k]? ≠ some (.own t o) := fun k hk t o z => by
            by_cases hj : k ∈ js
            · exact n4 k hj t o z
            · rw [p4 k hj] at z
              have := hwp k hk _ z
              cases this
          -- a turn's step, seen from outside
          have out : ∀ {Γ5 : Sto} {R5 H5 : Hp}, Step σ2 Γt R3 Hx Γ5 R5 H5 → Step (L2.wipe σ vs) (wipeG Γ1 vs) R1 H1 (wipeG Γ5 vs) R5 H5 ∧ H5 D = some (.dK xs) ∧ R5 D = none ∧ Ex R' R5 := fun {Γ5 R5 H5} S5 => by
            have S6 := S5.wiped vs hnt
            rw [eW, eG] at S6
            have S7 := S3.trans S6
            obtain ⟨d1, d2⟩ := S7.fr D _ hDl rD (nOwnD S')
            exact ⟨S'.trans S7, d1, d2, S7.ex⟩
          have wp5 : ∀ (Γ5 : Sto), ∀ i ∈ vs, ∀ s, (wipeG Γ5 vs)[i]? = some s → s = .no := fun Γ5 i hi s e => by
            rw [wipeG_get, if_pos hi] at e
            cases z : Γ5[i]? with
            | none => rw [z] at e; cases e
            | some x => rw [z] at e; cases e; rfl
          refine ⟨eW, R1, Γt, R3, A4, ?_⟩
          cases ec : fc Γt with
          | bad => rw [ec] at h'; exact h'.elim
          | exc e Γe => rw [ec] at h'; exact h'.elim
          | ok b Γ5 =>
            rw [ec] at h'
            intro R5 H5 A5 S5
            obtain ⟨T5, d5, r5, x5⟩ := out S5
            cases b with
            | false =>
              refine iteF ⟨wipeG Γ5 vs, R5, acc, xs, ?_, T5, d5, hxs.mono x5, r5, wp5 Γ5, h'⟩
              have := A5.wipe vs
              rw [eW] at this
              exact this
            | true =>
              refine iteT ⟨R1, Γ5, R5, A5, ?_⟩
              have h' : Post X.K X.w F Wx σ Γ R H _ (((nox (fk Γ5)).bind fun kd Γ3 => (nox (fe Γ3)).bind fun v Γ4 => dcP acc kd v (fun acc' => dcL t fc fk fe vs (ds.drop (i + 1)) acc' (wipeG Γ4 vs))).bind fun acc Γe => Res.ok (AV.own (Ob.dic acc)) (rst Γ1 Γe vs)) := h'
              cases ek : fk Γ5 with
              | bad => rw [ek] at h'; exact h'.elim
              | exc e Γe => rw [ek] at h'; exact h'.elim
              | ok kd Γ6 =>
                rw [ek] at h'
                have h' : Post X.K X.w F Wx σ Γ R H _ (((nox (fe Γ6)).bind fun v Γ4 => dcP acc kd v (fun acc' => dcL t fc fk fe vs (ds.drop (i + 1)) acc' (wipeG Γ4 vs))).bind fun acc Γe => Res.ok (AV.own (Ob.dic acc)) (rst Γ1 Γe vs)) := h'
                intro R6 H6 A6 S6 yk hyk
                refine ⟨R1, Γ6, R6, A6, ?_⟩
                cases ee : fe Γ6 with
                | bad => rw [ee] at h'; exact h'.elim
                | exc e Γe => rw [ee] at h'; exact h'.elim
                | ok v Γ7 =>
                  rw [ee] at h'
                  have h' : Post X.K X.w F Wx σ Γ R H _ ((dcP acc kd v (fun acc' => dcL t fc fk fe vs (ds.drop (i + 1)) acc' (wipeG Γ7 vs))).bind fun acc Γe => Res.ok (AV.own (Ob.dic acc)) (rst Γ1 Γe vs)) := h'
                  unfold dcP at h'
                  cases ekd : keyD kd with
                  | none => rw [ekd] at h'; exact h'.elim
                  | some k =>
                    simp only [ekd] at h'
                    by_cases hz : acc.length < lim
                    · rw [if_pos hz] at h'
                      intro R7 H7 A7 S7 yv hyv
                      obtain ⟨T6, d6, r6, x6⟩ := out ((S5.trans S6).trans S7)
                      refine ⟨xs, k, sh_keyV hyk ekd, d6, lim_lt (by rw [hxs.length]; exact hz), wipeG Γ7 vs, R7, gSet.putP acc k v, putK xs k yv, ?_, T6.tmp hD _, upd_same, putP_k (hxs.mono x6) hyv, r6, wp5 Γ7, h'⟩
                      have := A7.wipe vs
                      rw [eW] at this
                      exact this.tmp r6 hF0 (nOwnD T6) _
                    · rw [if_neg hz] at h'; exact h'.elim
      · have e : i = ds.length := by omega
        subst e
        refine .inl ⟨hJ.stop R' H' _ A'.r0 A'.rh (Nat.le_refl _), ?_⟩
        rw [List.drop_length] at h'
        have hgt := rst_get (Γ1 := Γ1) (Γe := Γ') hl'.symm
        have ow : ∀ {k : Nat} {tt : Option Nat} {o : Ob}, (rst Γ1 Γ' vs)[k]? = some (.own tt o) → k ∉ vs ∧ Γ'[k]? = some (.own tt o) := fun {k tt o} e => by
          rw [hgt k vs] at e
          by_cases hk : k ∈ vs
          · rw [if_pos hk] at e; exact absurd e (hno' k hk tt o)
          · rw [if_neg hk] at e; exact ⟨hk, e⟩
        have ow2 : ∀ {a : Addr}, Own σ (rst Γ1 Γ' vs) a → Own (L2.wipe σ vs) Γ' a := fun ⟨k, tt, o, g1, s1⟩ => by
          obtain ⟨hk, g2⟩ := ow g1
          exact ⟨k, tt, o, g2, by rw [wipe_get, if_neg hk]; exact s1⟩
        have ow3 : ∀ {a : Addr}, Own (L2.wipe σ vs) (wipeG Γ1 vs) a → Own σ Γ1 a := fun ⟨k, tt, o, g1, s1⟩ => by
          rw [wipeG_get] at g1
          rw [wipe_get] at s1
          by_cases hk : k ∈ vs
          · rw [if_pos hk] at g1
            cases e : Γ1[k]? with
            | none => rw [e] at g1; cases g1
            | some x => rw [e] at g1; cases g1
          · rw [if_neg hk] at g1 s1; exact ⟨k, tt, o, g1, s1⟩
        have A2 : Abs X.K X.w F σ (rst Γ1 Γ' vs) R' H' := by
          refine A1.sup ⟨(rst_len Γ1 Γ' vs).trans (hl'.trans A1.len), fun k d e => ?_, fun k tt o e => ?_, fun j k tt u o q p e1 e2 s1 s2 => ?_, A'.rh, A'.r0, A'.sep, A'.frm, A'.kee⟩
          · rw [hgt k vs] at e
            by_cases hk : k ∈ vs
            · rw [if_pos hk] at e
              obtain ⟨v, g1, g2⟩ := A1.sh k d e
              exact ⟨v, g1, g2.mono A'.r0⟩
            · rw [if_neg hk] at e
              obtain ⟨v, g1, g2⟩ := A'.sh k d e
              rw [wipe_get, if_neg hk] at g1
              exact ⟨v, g1, g2⟩
          · obtain ⟨hk, g1⟩ := ow e
            obtain ⟨p, g2, g3⟩ := A'.own k tt o g1
            rw [wipe_get, if_neg hk] at g2
            exact ⟨p, g2, g3⟩
          · obtain ⟨hk1, g1⟩ := ow e1
            obtain ⟨hk2, g2⟩ := ow e2
            exact A'.dis j k tt u o q p g1 g2 (by rw [wipe_get, if_neg hk1]; exact s1) (by rw [wipe_get, if_neg hk2]; exact s2)
        have S2 : Step σ Γ1 R1 H1 (rst Γ1 Γ' vs) R' H' := by
          refine ⟨S'.ex, fun a o q r n => S'.fr a o q r fun z => n (ow3 z), fun a q => ow3 (S'.own a (ow2 q)), fun k s g1 n => ?_, S'.kee⟩
          by_cases hk : k ∈ vs
          · exact ⟨s, by rw [hgt k vs, if_pos hk]; exact g1, n⟩
          · obtain ⟨s', g2, n2⟩ := S'.vis k s (by rw [wipeG_get, if_neg hk]; exact g1) n
            exact ⟨s', by rw [hgt k vs, if_neg hk]; exact g2, n2⟩
        refine h'.at A2 (S1.trans S2) _ ⟨D, rfl, S1.kee D hD, hF0, rD, fun q => nOwnD S' (ow2 q), xs, hDl, hxs⟩
theorem v_dc {fl : Bool} {scope : Scope} {own : List (Str × Nat)} {pos : Pos} (hc : X.calm = true) (hN : X.N.Nodup) (hi : Ix fl X Wx tg iter fi) (ok : BlkOk X.N X.env.scope scope own) (hjs : ∀ j ∈ js, j ∈ own.map (·.2))
    (hg : ∀ (s : Shared) (H : Hp) (C : Addr) (cl : List (Str × Addr)) (fp : List Addr), Gx fl (X.blk s H scope (compEnvC scope cl C X.env) fp) tg js g t)
    (ht : ∀ (s : Shared) (H : Hp) (C : Addr) (cl : List (Str × Addr)) (fp : List Addr), Tsx (X.blk s H scope (compEnvC scope cl C X.env) fp) Wx0 ifs fc)
    (hk : ∀ (s : Shared) (H : Hp) (C : Addr) (cl : List (Str × Addr)) (fp : List Addr), Dx (X.blk s H scope (compEnvC scope cl C X.env) fp) Wx0 kx fk)
    (he : ∀ (s : Shared) (H : Hp) (C : Addr) (cl : List (Str × Addr)) (fp : List Addr), Dx (X.blk s H scope (compEnvC scope cl C X.env) fp) Wx0 elt fe)
    (hs : ∀ x, foldedSetIterable iter X.env x = pure x := by intro _; rfl) : Vx X Wx (.DictComp kx elt [⟨tg, iter, ifs, 0⟩] scope pos) (dc fi (own.map (·.2)) t fc fk fe) := fun F =>
  (pe_dc (tk := fun σ H Q => ∃ R1, TD X.K X.w { F with R0 := R1 } Wx0 fk σ H Q) (tv := fun σ H Q => ∃ R1, TD X.K X.w { F with R0 := R1 } Wx0 fe σ H Q) (tt := fun σ H Q => ∃ R1, TB X.K X.w { F with R0 := R1 } Wx0 fc σ H Q) hc hN (hi F) ok (fun s H C cl fp => (hg s H C cl fp).pg)
    (fun s H C cl fp => ⟨fun pins s' σ H' Q I ⟨R1, q⟩ => (ht s H C cl fp { F with R0 := R1 }).run pins s' σ H' Q I q⟩) (fun s H C cl fp => ⟨fun pins s' σ H' Q I ⟨R1, q⟩ => (hk s H C cl fp { F with R0 := R1 }).run pins s' σ H' Q I q⟩) (fun s H C cl fp => ⟨fun pins s' σ H' Q I ⟨R1, q⟩ => (he s H C cl fp { F with R0 := R1 }).run pins s' σ H' Q I q⟩) hs).mono
    fun σ H Q h => tDc_ok hjs (fun F σ Γ Γ' R H v d Q => (hg X.s_0 X.H_0 (0 : Nat) [] []).ok F σ Γ Γ' R H v d Q) h
end
end G

namespace G
open PySem L2 PySem.Spec PyProof.Rows PySem.W

/-! ### max(xs, default=an int) -/
def rMaxDf (K : PySem.W.Frag) : List V → List V → Hp → VK → Prop := fun xs zs H Q => ∃ (a : Addr) (ns : List Int) (d : V), xs = [.ref a] ∧ zs = [d] ∧ SqL K H a (ns.map V.int) ∧ (ns = [] → Q d H) ∧ ∀ m, ns.max? = some m → Q (.int m) H
theorem holdInts {h : Heap} : ∀ {ns : List Int} {us : List Value}, Vals (ns.map V.int) us → HoldAll (α := Int) h us ns
  | [], _, .nil => ⟨[], .nil⟩
  | n :: ns, _, .cons r t => by
    obtain ⟨tk, rfl⟩ := r
    obtain ⟨as, h⟩ := holdInts (h := h) t
    exact ⟨_, .cons (Reads.int n tk) h⟩
theorem maxOf_int (y : Int) (ys : List Int) : (y :: ys).max? = some (maxOf y ys) := by
  rw [List.max?_cons']
  congr 1
  unfold maxOf
  induction ys generalizing y with
  | nil => rfl
  | cons z ys ih =>
    rw [List.foldl_cons, List.foldl_cons, ← ih]
    congr 1
    show max y z = if decide (y < z) = true then z else y
    by_cases h : y < z
    · rw [if_pos (decide_eq_true h)]; omega
    · rw [if_neg (by simpa using h)]; omega
section
variable {X : Cx}
theorem cr_maxDf (hc : X.calm = true) (hu : X.A.units + 64 < cLine) : CallRK X (.builtin "max") [Str.ofString "default"] (rMaxDf X.K) := by
  intro pins s σ H xs zs us ws Q I r r2 h
  obtain ⟨a, ns, d, rfl, rfl, hs, h0, h1⟩ := h
  obtain ⟨its, rv, hl, _⟩ := I.list hs
  obtain ⟨u, rfl, ru⟩ := vals1 r
  obtain rfl : u = Value.ref a := ru
  obtain ⟨dv, rfl, rd⟩ := vals1 r2
  refine max_list_datum_default (α := Int) (I.ok.hd hc) hl.isList (by simpa using holdInts rv) (by show X.A.units + 1 + 0 < cLine; omega) (fun e h' tk k => ⟨d, H, I.kept k, rd, h0 e⟩) fun y ys i v h' tk e _ hv k => ?_
  obtain ⟨bs, hv⟩ := hv
  have hv : Reads h' v (.int (maxOf y ys)) bs := hv
  cases hv
  exact ⟨.int (maxOf y ys), H, I.kept k, ⟨_, rfl⟩, h1 _ (by rw [e]; exact maxOf_int y ys)⟩
/-- max(xs, default=d) -/
def gMaxDf (i : Int) : PD → Option AV
  | .list ds => match allI ds with
    | some ns => some (.sh (.int (ns.max?.getD i)))
    | none => none
  | _ => none
theorem k_maxDf {w : World} (i : Int) : Ok1 X.K w (fun x H Q => rMaxDf X.K [x] [.int i] H Q) (gMaxDf i) := fun R H x d s hx hd hg Q q => by
  unfold gMaxDf at hg
  split at hg
  · rename_i ds
    obtain ⟨p, xs, rfl, h1, s1⟩ := hd.list hx
    split at hg
    · rename_i ns e
      cases hg
      rw [allI_eq e] at s1
      rw [sh_ints s1] at h1
      refine ⟨p, ns, .int i, rfl, rfl, h1, fun e => q _ _ ?_, fun m hm => q _ _ ?_⟩
      · subst e
        exact ⟨.int i, rfl⟩
      · rw [hm]
        exact ⟨.int m, rfl⟩
    · cases hg
  · cases hg
end
section
variable {X : Cx} {Wx : WX} {call a : Expr} {fa : Ev}
theorem v_maxDf {i : Int} (hc : ∀ {t : TA}, PA X [a] t → PE X call (tCKw (rMaxDf X.K) t (tCons (tC (.int i)) tNil))) (ha : Vx X Wx a fa)
    (hs : starEach [a] X.env = (false, eval a X.env) :: starEach [] X.env := by rfl) : Vx X Wx call (op1 fa (gMaxDf i)) :=
  v_call1 (r := fun xs H Q => rMaxDf X.K xs [.int i] H Q) (fun h => hc h) (k_maxDf i) ha hs
end
@[simp] theorem gMaxDf_ints (i : Int) (ns : List Int) : gMaxDf i (.list (ns.map PyData.int)) = some (.sh (.int (ns.max?.getD i))) := by
  show (match allI (ns.map PyData.int) with
    | some ns => some (AV.sh (.int (ns.max?.getD i)))
    | none => none) = _
  rw [allI_ints]
end G

namespace G
open PySem L2

/-! ### x += e, x *= e, of ints -/
def gAddI : PD → PD → Option AV
  | .int i, .int j => some (.sh (.int (i + j)))
  | _, _ => none
noncomputable def gMulI : PD → PD → Option AV
  | .int i, .int j => if okMul i j then some (.sh (.int (i * j))) else none
  | _, _ => none
section
variable {X : Cx}
theorem k_iadd {w : World} : Ok2 X.K w (rI0 fun i j => .int (i + j)) gAddI := fun R H x y d e s hx hd he hg Q q => by
  unfold gAddI at hg
  split at hg
  · cases hg; exact ⟨_, _, hd.int, he.int, q _ _ ⟨.int _, rfl⟩⟩
  · cases hg
theorem iop_mulW : OpR X (inplaceOp .Mult) (rI CMulW fun i j => .int (i * j)) := opI fun _ _ _ _ _ _ _ hc q => PyProof.Rows.imul_int q hc.ok
theorem iop_mulA : OpR X (inplaceOp .Mult) (fun x y H Q => rI CMul (fun i j => .int (i * j)) x y H Q ∨ rI CMulW (fun i j => .int (i * j)) x y H Q) := iop_mul.or iop_mulW
theorem k_imul {w : World} : Ok2 X.K w (fun x y H Q => rI CMul (fun i j => .int (i * j)) x y H Q ∨ rI CMulW (fun i j => .int (i * j)) x y H Q) gMulI := fun R H x y d e s hx hd he hg Q q => by
  unfold gMulI at hg
  split at hg
  · rename_i i j
    cases ho : okMul i j with
    | false => rw [ho] at hg; cases hg
    | true =>
      rw [ho] at hg; cases hg
      have q' := q (.int (i * j)) H ⟨.int _, rfl⟩
      have ho : OkMul i j := @of_decide_eq_true _ (Classical.propDecidable _) ho
      rcases ho with h | h | h
      · exact .inl ⟨i, j, hd.int, he.int, .inr h, q'⟩
      · exact .inl ⟨i, j, hd.int, he.int, .inl h, q'⟩
      · exact .inr ⟨i, j, hd.int, he.int, h, q'⟩
  · cases hg
end
@[simp] theorem gAddI_i (i j : Int) : gAddI (.int i) (.int j) = some (.sh (.int (i + j))) := (rfl)
@[simp] theorem gMulI_i (i j : Int) : gMulI (.int i) (.int j) = if okMul i j then some (.sh (.int (i * j))) else none := (rfl)
end G

namespace G
open PySem L2

/-! ### list comprehensions with two fors -/
/-- the heap without the thing at p -/
def delH (H : Hp) (p : Addr) : Hp := fun a => if a = p then none else H a
theorem delH_same {H : Hp} {p : Addr} : delH H p p = none := if_pos rfl
theorem delH_ne {H : Hp} {p a : Addr} (h : a ≠ p) : delH H p a = H a := if_neg h
theorem Step.del {σ : St} {Γ Γ1 : Sto} {R R1 H H1 : Hp} (S : Step σ Γ R H Γ1 R1 H1) {p : Addr} (hp : H p = none) : Step σ Γ R H Γ1 R1 (delH H1 p) :=
  ⟨S.ex, fun a o h r n => by
    obtain ⟨h1, h2⟩ := S.fr a o h r n
    exact ⟨by rw [delH_ne (ne_of_none h hp)]; exact h1, h2⟩, S.own, S.vis, fun a h => by
    by_cases ha : a = p
    · subst ha; exact hp
    · rw [delH_ne ha] at h; exact S.kee a h⟩
theorem step_del (σ : St) (Γ : Sto) (R H : Hp) (p : Addr) : Step σ Γ R (delH H p) Γ R H :=
  ⟨Evl.Ex.refl R, fun a o h r n => ⟨by
    by_cases ha : a = p
    · subst ha; rw [delH_same] at h; cases h
    · rwa [delH_ne ha] at h, r⟩, fun a h => h, fun i s h n => ⟨s, h, n⟩, fun a h => by
    by_cases ha : a = p
    · subst ha; exact delH_same
    · rw [delH_ne ha]; exact h⟩
theorem own_wipe {σ : St} {Γ : Sto} {vs : List Nat} {a : Addr} (h : Own (L2.wipe σ vs) (wipeG Γ vs) a) : Own σ Γ a := by
  obtain ⟨k, tt, o, g1, s1⟩ := h
  rw [wipeG_get] at g1
  rw [wipe_get] at s1
  by_cases hk : k ∈ vs
  · rw [if_pos hk] at g1
    cases e : Γ[k]? with
    | none => rw [e] at g1; cases g1
    | some x => rw [e] at g1; cases g1
  · rw [if_neg hk] at g1 s1; exact ⟨k, tt, o, g1, s1⟩
theorem wipeG_twice {Γ : Sto} {vs1 vs : List Nat} (h : ∀ i ∈ vs1, i ∈ vs) : wipeG (wipeG Γ vs1) vs = wipeG Γ vs := by
  apply List.ext_getElem?
  intro k
  rw [wipeG_get, wipeG_get, wipeG_get]
  by_cases hk : k ∈ vs
  · rw [if_pos hk, if_pos hk]
    split
    · rw [Option.map_map]; rfl
    · rfl
  · rw [if_neg hk, if_neg hk, if_neg fun z => hk (h k z)]
theorem wipe_twice {σ : St} {vs1 vs : List Nat} (h : ∀ i ∈ vs1, i ∈ vs) : L2.wipe (L2.wipe σ vs1) vs = L2.wipe σ vs := by
  apply List.ext_getElem?
  intro k
  rw [wipe_get, wipe_get, wipe_get]
  by_cases hk : k ∈ vs
  · rw [if_pos hk, if_pos hk]
    split
    · rw [Option.map_map]; rfl
    · rfl
  · rw [if_neg hk, if_neg hk, if_neg fun z => hk (h k z)]
def lcEnd (r : Res (List PD)) (P : List PD → Sto → Prop) : Prop := match r with
  | .ok acc Γ => P acc Γ
  | _ => False
section
variable {X : Cx} {Wx : WX} {elt tg iter tg1 iter1 : Expr} {ifs ifs1 : List Expr} {fi fi1 : Sto → Res (List PD)} {t t1 : PD → Sto → Option Sto} {js vs js1 vs1 : List Nat} {g g1 : TG} {fc fc1 : Sto → Res Bool} {fe : Sto → Res PD}
theorem inner_ok {fl : Bool} {F : Fr} {σ : St} {Γ1 : Sto} {R1 H1 : Hp} {J : It} {ds acc0 : List PD} {xs0 : List V} {D : Addr} {Nx : Hp → Prop} {P : List PD → Sto → Prop} (hjs : ∀ j ∈ js, j ∈ vs)
    (hg : ∀ (F : Fr) (σ : St) (Γ Γ' : Sto) (R H : Hp) (v : V) (d : PD) (Q : St → Hp → Prop), Abs X.K X.w F σ Γ R H → LoF fl X.K R H v d → t d Γ = some Γ' →
      (∀ σ', Abs X.K X.w F σ' Γ' R H → σ'.length = σ.length → (∀ i, i ∉ js → σ'[i]? = σ[i]?) → (∀ i, i ∉ js → Γ'[i]? = Γ[i]?) → (∀ i ∈ js, ∀ t o, Γ'[i]? ≠ some (.own t o)) → Q σ' H) → g v σ H Q)
    (A1 : Abs X.K X.w F σ Γ1 R1 H1) (hJ : ItOk fl X.K X.w R1 J ds) (hD : H1 D = some (.lst xs0)) (hxs0 : ShA X.K R1 xs0 acc0) (rD0 : R1 D = none) (nD : ¬ Own σ Γ1 D) (hF0 : F.H0 D = none)
    (hP : ∀ acc' Γ4, P acc' Γ4 → ∀ R' H' xs, Abs X.K X.w { F with R0 := R1 } (L2.wipe σ vs) Γ4 R' H' → Step (L2.wipe σ vs) (wipeG Γ1 vs) R1 (delH H1 D) Γ4 R' H' → H' D = some (.lst xs) → ShA X.K R' xs acc' → R' D = none → Nx H')
    (h : lcEnd (lcL t fc fe vs ds acc0 (wipeG Γ1 vs)) P) :
    ∃ W : Nat → Nat → Hp → Prop, (∃ m, W 0 m H1) ∧ ∀ i m H, W i m H → (J.stop i H ∧ Nx H) ∨ (J.go i H ∧ ∃ Nx1 : Hp → Prop, (∀ H', Nx1 H' → ∃ m', m' < m ∧ W (i + 1) m' H') ∧ ∀ x H', J.yld i H x H' → g x (L2.wipe σ vs) H' fun σ2 H2 => L2.wipe σ2 vs = L2.wipe σ vs ∧ (∃ R1, TB X.K X.w { F with R0 := R1 } Wx0 fc σ2 H2 fun b H3 =>
      if b = true then (∃ R1, TD X.K X.w { F with R0 := R1 } Wx0 fe σ2 H3 fun y H7 => ∃ acc, H7 D = some (.lst acc) ∧ acc.length < sizeLine ∧ Nx1 (upd H7 D (.lst (acc ++ [y])))) else Nx1 H3)) := by
    have AW := A1.sub.wipe vs
    have nW : ¬ Own (L2.wipe σ vs) (wipeG Γ1 vs) D := fun q => nD (own_wipe q)
    refine ⟨fun i m H' => m = ds.length - i ∧ i ≤ ds.length ∧ ∃ Γ' R' acc xs, Abs X.K X.w { F with R0 := R1 } (L2.wipe σ vs) Γ' R' H' ∧ Step (L2.wipe σ vs) (wipeG Γ1 vs) R1 (delH H1 D) Γ' R' H' ∧ H' D = some (.lst xs) ∧ ShA X.K R' xs acc ∧ R' D = none ∧
      (∀ i ∈ vs, ∀ s, Γ'[i]? = some s → s = .no) ∧ lcEnd (lcL t fc fe vs (ds.drop i) acc Γ') P, ⟨ds.length, by simp, Nat.zero_le _, wipeG Γ1 vs, R1, acc0, xs0, ?_⟩, ?_⟩
    · refine ⟨AW, step_del _ _ _ _ _, hD, hxs0, rD0, fun i hi s e => ?_, h⟩
      rw [wipeG_get, if_pos hi] at e
      cases z : Γ1[i]? with
      | none => rw [z] at e; cases e
      | some x => rw [z] at e; cases e; rfl
    · rintro i m H' ⟨rfl, hi, Γ', R', acc, xs, A', S', hDl, hxs, rD, hwp, h'⟩
      have hl' : Γ'.length = Γ1.length := by
        have e1 := A'.len
        rw [L2.wipe_length] at e1
        exact e1.trans A1.len.symm
      have nOwnD : ∀ {Γx : Sto} {Rx Hx : Hp}, Step (L2.wipe σ vs) (wipeG Γ1 vs) R1 (delH H1 D) Γx Rx Hx → ¬ Own (L2.wipe σ vs) Γx D := fun S q => nW (S.own D q)
      by_cases hlt : i < ds.length
      · have hd : ds[i]? = some ds[i] := List.getElem?_eq_getElem hlt
        rw [drop_at hd] at h'
        refine .inr ⟨hJ.go R' H' i _ A'.r0 A'.rh hd, fun H2 => ∃ Γ2 R2 acc xs, Abs X.K X.w { F with R0 := R1 } (L2.wipe σ vs) Γ2 R2 H2 ∧ Step (L2.wipe σ vs) (wipeG Γ1 vs) R1 (delH H1 D) Γ2 R2 H2 ∧ H2 D = some (.lst xs) ∧ ShA X.K R2 xs acc ∧ R2 D = none ∧
          (∀ i ∈ vs, ∀ s, Γ2[i]? = some s → s = .no) ∧ lcEnd (lcL t fc fe vs (ds.drop (i + 1)) acc Γ2) P,
          fun H2 ⟨Γ2, R2, acc, xs, q⟩ => ⟨ds.length - (i + 1), by omega, rfl, hlt, Γ2, R2, acc, xs, q⟩, fun x Hx y => ?_⟩
        have item : ∃ R3, Abs X.K X.w { F with R0 := R1 } (L2.wipe σ vs) Γ' R3 Hx ∧ LoF fl X.K R3 Hx x ds[i] ∧ Step (L2.wipe σ vs) Γ' R' H' Γ' R3 Hx := by
          rcases hJ.yld R' H' i _ x Hx A'.r0 A'.rh hd y with ⟨q1, rfl⟩ | ⟨p, hob, hp', rfl, q1⟩
          · exact ⟨R', A', .of q1, .refl _ _ _ _⟩
          · obtain ⟨A3, S3⟩ := A'.new hp' hob
            exact ⟨R', A3, q1, S3⟩
        obtain ⟨R3, A3, s3, S3⟩ := item
        unfold lcL at h'
        cases et : t ds[i] Γ' with
        | none => simp only [et] at h'; exact h'.elim
        | some Γt =>
          simp only [et] at h'
          refine hg _ _ Γ' Γt R3 Hx x _ _ A3 s3 et fun σ2 A4 l4 o4 p4 n4 => ?_
          have eW : L2.wipe σ2 vs = L2.wipe σ vs := by
            apply List.ext_getElem?
            intro k
            rw [wipe_get, wipe_get]
            by_cases hk : k ∈ vs
            · rw [if_pos hk, if_pos hk]
              have hlen : σ2.length = σ.length := l4.trans (L2.wipe_length σ vs)
              by_cases hk2 : k < σ.length
              · rw [List.getElem?_eq_getElem hk2, List.getElem?_eq_getElem (by omega)]; rfl
              · rw [List.getElem?_eq_none (by omega), List.getElem?_eq_none (by omega)]
            · rw [if_neg hk, if_neg hk, o4 k fun z => hk (hjs k z), wipe_get, if_neg hk]
          have eG : wipeG Γt vs = Γ' := by
            apply List.ext_getElem?
            intro k
            rw [wipeG_get]
            by_cases hk : k ∈ vs
            · rw [if_pos hk]
              have hlen : Γt.length = Γ'.length := by
                have e1 := A4.len
                have e2 := A3.len
                omega
              by_cases hk2 : k < Γ'.length
              · rw [List.getElem?_eq_getElem hk2, List.getElem?_eq_getElem (by omega)]
                show some Sl.no = some Γ'[k]
                rw [hwp k hk _ (List.getElem?_eq_getElem hk2)]
              · rw [List.getElem?_eq_none (by omega), List.getElem?_eq_none (by omega)]; rfl
            · rw [if_neg hk, p4 k fun z => hk (hjs k z)]
          have hnt : ∀ k ∈ vs, ∀ t o, Γt[k]? ≠ some (.own t o) := fun k hk t o z => by
            by_cases hj : k ∈ js
            · exact n4 k hj t o z
            · rw [p4 k hj] at z
              have := hwp k hk _ z
              cases this
          -- a turn's step, seen from outside
          have out : ∀ {Γ5 : Sto} {R5 H5 : Hp}, Step σ2 Γt R3 Hx Γ5 R5 H5 → Step (L2.wipe σ vs) (wipeG Γ1 vs) R1 (delH H1 D) (wipeG Γ5 vs) R5 H5 ∧ H5 D = some (.lst xs) ∧ R5 D = none ∧ Ex R' R5 := fun {Γ5 R5 H5} S5 => by
            have S6 := S5.wiped vs hnt
            rw [eW, eG] at S6
            have S7 := S3.trans S6
            obtain ⟨d1, d2⟩ := S7.fr D _ hDl rD (nOwnD S')
            exact ⟨S'.trans S7, d1, d2, S7.ex⟩
          have wp5 : ∀ (Γ5 : Sto), ∀ i ∈ vs, ∀ s, (wipeG Γ5 vs)[i]? = some s → s = .no := fun Γ5 i hi s e => by
            rw [wipeG_get, if_pos hi] at e
            cases z : Γ5[i]? with
            | none => rw [z] at e; cases e
            | some x => rw [z] at e; cases e; rfl
          refine ⟨eW, R1, Γt, R3, A4, ?_⟩
          cases ec : fc Γt with
          | bad => rw [ec] at h'; exact h'.elim
          | exc e Γe => rw [ec] at h'; exact h'.elim
          | ok b Γ5 =>
            rw [ec] at h'
            intro R5 H5 A5 S5
            obtain ⟨T5, d5, r5, x5⟩ := out S5
            cases b with
            | false =>
              refine iteF ⟨wipeG Γ5 vs, R5, acc, xs, ?_, T5, d5, hxs.mono x5, r5, wp5 Γ5, h'⟩
              have := A5.wipe vs
              rw [eW] at this
              exact this
            | true =>
              refine iteT ⟨R1, Γ5, R5, A5, ?_⟩
              have h' : lcEnd ((nox (fe Γ5)).bind fun v Γ3 => if acc.length < lim then lcL t fc fe vs (ds.drop (i + 1)) (acc ++ [v]) (wipeG Γ3 vs) else .bad) P := h'
              cases ee : fe Γ5 with
              | bad => rw [ee] at h'; exact h'.elim
              | exc e Γe => rw [ee] at h'; exact h'.elim
              | ok v Γ6 =>
                rw [ee] at h'
                have h' : lcEnd (if acc.length < lim then lcL t fc fe vs (ds.drop (i + 1)) (acc ++ [v]) (wipeG Γ6 vs) else .bad) P := h'
                by_cases hz : acc.length < lim
                · rw [if_pos hz] at h'
                  intro R6 H6 A6 S6 yv hyv
                  obtain ⟨T6, d6, r6, x6⟩ := out (S5.trans S6)
                  refine ⟨xs, d6, lim_lt (by rw [hxs.length]; exact hz), wipeG Γ6 vs, R6, acc ++ [v], xs ++ [yv], ?_, T6.tmp delH_same _, upd_same, (hxs.mono x6).append (.cons hyv .nil), r6, wp5 Γ6, h'⟩
                  have := A6.wipe vs
                  rw [eW] at this
                  exact this.tmp r6 hF0 (nOwnD T6) _
                · rw [if_neg hz] at h'; exact h'.elim
      · have e : i = ds.length := by omega
        subst e
        rw [List.drop_length] at h'
        exact .inl ⟨hJ.stop R' H' _ A'.r0 A'.rh (Nat.le_refl _), hP acc Γ' h' R' H' xs A' S' hDl hxs rD⟩
def lc2L (t : PD → Sto → Option Sto) (c : Sto → Res Bool) (fi1 : Sto → Res (List PD)) (vs1 : List Nat) (t1 : PD → Sto → Option Sto) (c1 : Sto → Res Bool) (e : Sto → Res PD) (vs : List Nat) : List PD → List PD → Sto → Res (List PD)
  | [], acc, Γ => .ok acc Γ
  | d :: ds, acc, Γ => match t d Γ with
    | none => .bad
    | some Γ1 => (nox (c Γ1)).bind fun b Γ2 => if b then (nox (fi1 Γ2)).bind fun ds1 Γ3 => if noOwnAt Γ3 vs then (lcL t1 c1 e vs1 ds1 acc (wipeG Γ3 vs1)).bind fun acc' Γ4 => lc2L t c fi1 vs1 t1 c1 e vs ds acc' (wipeG Γ4 vs) else .bad
      else lc2L t c fi1 vs1 t1 c1 e vs ds acc (wipeG Γ2 vs)
def lc2 (fi : Sto → Res (List PD)) (vs : List Nat) (t : PD → Sto → Option Sto) (c : Sto → Res Bool) (fi1 : Sto → Res (List PD)) (vs1 : List Nat) (t1 : PD → Sto → Option Sto) (c1 : Sto → Res Bool) (e : Sto → Res PD) : Ev := fun Γ => (fi Γ).bind fun ds Γ1 => if noOwnAt Γ1 vs then (lc2L t c fi1 vs1 t1 c1 e vs ds [] (wipeG Γ1 vs)).bind fun acc Γe => .ok (.own (.lst acc)) (rst Γ1 Γe vs) else .bad
theorem lcL_noexc {t : PD → Sto → Option Sto} {c : Sto → Res Bool} {e : Sto → Res PD} {vs : List Nat} {x : Exn} {Γe : Sto} {Pr : Prop} : ∀ {ds acc : List PD} {Γ : Sto}, lcL t c e vs ds acc Γ = .exc x Γe → Pr
  | [], acc, Γ, h => by unfold lcL at h; cases h
  | d :: ds, acc, Γ, h => by
    unfold lcL at h
    split at h
    · cases h
    · rename_i Γ1 _
      cases hc : c Γ1 with
      | bad => rw [hc] at h; cases h
      | exc _ _ => rw [hc] at h; cases h
      | ok b Γ2 =>
        rw [hc] at h
        have h : (if b then (nox (e Γ2)).bind fun v Γ3 => if acc.length < lim then lcL t c e vs ds (acc ++ [v]) (wipeG Γ3 vs) else .bad else lcL t c e vs ds acc (wipeG Γ2 vs)) = Res.exc x Γe := h
        cases b with
        | false => exact lcL_noexc h
        | true =>
          have h : ((nox (e Γ2)).bind fun v Γ3 => if acc.length < lim then lcL t c e vs ds (acc ++ [v]) (wipeG Γ3 vs) else .bad) = Res.exc x Γe := h
          cases he : e Γ2 with
          | bad => rw [he] at h; cases h
          | exc _ _ => rw [he] at h; cases h
          | ok v Γ3 =>
            rw [he] at h
            have h : (if acc.length < lim then lcL t c e vs ds (acc ++ [v]) (wipeG Γ3 vs) else .bad) = Res.exc x Γe := h
            split at h
            · exact lcL_noexc h
            · cases h
theorem tLc2_ok {fl fl1 : Bool} {F : Fr} {σ : St} {H : Hp} {Q : VK} (hjs : ∀ j ∈ js, j ∈ vs)
    (hg : ∀ (F : Fr) (σ : St) (Γ Γ' : Sto) (R H : Hp) (v : V) (d : PD) (Q : St → Hp → Prop), Abs X.K X.w F σ Γ R H → LoF fl X.K R H v d → t d Γ = some Γ' →
      (∀ σ', Abs X.K X.w F σ' Γ' R H → σ'.length = σ.length → (∀ i, i ∉ js → σ'[i]? = σ[i]?) → (∀ i, i ∉ js → Γ'[i]? = Γ[i]?) → (∀ i ∈ js, ∀ t o, Γ'[i]? ≠ some (.own t o)) → Q σ' H) → g v σ H Q)
    (hjs1 : ∀ j ∈ js1, j ∈ vs1) (hv1 : ∀ i ∈ vs1, i ∈ vs)
    (hg1 : ∀ (F : Fr) (σ : St) (Γ Γ' : Sto) (R H : Hp) (v : V) (d : PD) (Q : St → Hp → Prop), Abs X.K X.w F σ Γ R H → LoF fl1 X.K R H v d → t1 d Γ = some Γ' →
      (∀ σ', Abs X.K X.w F σ' Γ' R H → σ'.length = σ.length → (∀ i, i ∉ js1 → σ'[i]? = σ[i]?) → (∀ i, i ∉ js1 → Γ'[i]? = Γ[i]?) → (∀ i ∈ js1, ∀ t o, Γ'[i]? ≠ some (.own t o)) → Q σ' H) → g1 v σ H Q)
    (h : TV X.K X.w F Wx (lc2 fi vs t fc fi1 vs1 t1 fc1 fe) σ H Q) :
    tLc2 (TIt fl X.K X.w F Wx fi) g (fun σ H Q => ∃ R1, TB X.K X.w { F with R0 := R1 } Wx0 fc σ H Q) (fun σ H Q => ∃ R1, TIt fl1 X.K X.w { F with R0 := R1 } Wx0 fi1 σ H Q) g1 (fun σ H Q => ∃ R1, TB X.K X.w { F with R0 := R1 } Wx0 fc1 σ H Q) (fun σ H Q => ∃ R1, TD X.K X.w { F with R0 := R1 } Wx0 fe σ H Q) vs vs1 σ H Q := by
  obtain ⟨Γ, R, A, h⟩ := h
  refine ⟨Γ, R, A, h.split.mono fun ds Γ1 R1 H1 A1 S1 h1 J hJ D hD => ?_⟩
  cases hno : noOwnAt Γ1 vs with
  | false => rw [hno] at h1; exact h1.elim
  | true =>
    rw [hno] at h1
    simp only [if_true] at h1
    have hno' : ∀ i ∈ vs, ∀ t o, Γ1[i]? ≠ some (.own t o) := fun i hi t o e => by
      have := List.all_eq_true.mp hno i hi
      simp only [e] at this
      cases this
    have AW := A1.sub.wipe vs
    have hF0 : F.H0 D = none := A1.fresh0 hD
    refine ⟨fun i m H' => m = ds.length - i ∧ i ≤ ds.length ∧ ∃ Γ' R' acc xs, Abs X.K X.w { F with R0 := R1 } (L2.wipe σ vs) Γ' R' H' ∧ Step (L2.wipe σ vs) (wipeG Γ1 vs) R1 H1 Γ' R' H' ∧ H' D = some (.lst xs) ∧ ShA X.K R' xs acc ∧ R' D = none ∧
      (∀ i ∈ vs, ∀ s, Γ'[i]? = some s → s = .no) ∧ Post X.K X.w F Wx σ Γ R H (fun a Γ' R' H' => ∀ v, VR X.K X.w F H σ Γ' R' H' v a → Q v H') ((lc2L t fc fi1 vs1 t1 fc1 fe vs (ds.drop i) acc Γ').bind fun acc Γe => .ok (.own (.lst acc)) (rst Γ1 Γe vs)), ⟨ds.length, by simp, Nat.zero_le _, wipeG Γ1 vs, R1, [], [], ?_⟩, ?_⟩
    · obtain ⟨B, T⟩ := AW.new hD (.lst [])
      refine ⟨B, T, upd_same, .nil, A1.freshR hD, fun i hi s e => ?_, h1⟩
      rw [wipeG_get, if_pos hi] at e
      cases z : Γ1[i]? with
      | none => rw [z] at e; cases e
      | some x => rw [z] at e; cases e; rfl
    · rintro i m H' ⟨rfl, hi, Γ', R', acc, xs, A', S', hDl, hxs, rD, hwp, h'⟩
      have hl' : Γ'.length = Γ1.length := by
        have e1 := A'.len
        rw [L2.wipe_length] at e1
        exact e1.trans A1.len.symm
      have nOwnD : ∀ {Γx : Sto} {Rx Hx : Hp}, Step (L2.wipe σ vs) (wipeG Γ1 vs) R1 H1 Γx Rx Hx → ¬ Own (L2.wipe σ vs) Γx D := fun S q => AW.notOwn hD (S.own D q)
      by_cases hlt : i < ds.length
      · have hd : ds[i]? = some ds[i] := List.getElem?_eq_getElem hlt
        rw [drop_at hd] at h'
        refine .inr ⟨hJ.go R' H' i _ A'.r0 A'.rh hd, fun H2 => ∃ Γ2 R2 acc xs, Abs X.K X.w { F with R0 := R1 } (L2.wipe σ vs) Γ2 R2 H2 ∧ Step (L2.wipe σ vs) (wipeG Γ1 vs) R1 H1 Γ2 R2 H2 ∧ H2 D = some (.lst xs) ∧ ShA X.K R2 xs acc ∧ R2 D = none ∧
          (∀ i ∈ vs, ∀ s, Γ2[i]? = some s → s = .no) ∧ Post X.K X.w F Wx σ Γ R H (fun a Γ' R' H' => ∀ v, VR X.K X.w F H σ Γ' R' H' v a → Q v H') ((lc2L t fc fi1 vs1 t1 fc1 fe vs (ds.drop (i + 1)) acc Γ2).bind fun acc Γe => .ok (.own (.lst acc)) (rst Γ1 Γe vs)),
          fun H2 ⟨Γ2, R2, acc, xs, q⟩ => ⟨ds.length - (i + 1), by omega, rfl, hlt, Γ2, R2, acc, xs, q⟩, fun x Hx y => ?_⟩
        have item : ∃ R3, Abs X.K X.w { F with R0 := R1 } (L2.wipe σ vs) Γ' R3 Hx ∧ LoF fl X.K R3 Hx x ds[i] ∧ Step (L2.wipe σ vs) Γ' R' H' Γ' R3 Hx := by
          rcases hJ.yld R' H' i _ x Hx A'.r0 A'.rh hd y with ⟨q1, rfl⟩ | ⟨p, hob, hp', rfl, q1⟩
          · exact ⟨R', A', .of q1, .refl _ _ _ _⟩
          · obtain ⟨A3, S3⟩ := A'.new hp' hob
            exact ⟨R', A3, q1, S3⟩
        obtain ⟨R3, A3, s3, S3⟩ := item
        unfold lc2L at h'
        cases et : t ds[i] Γ' with
        | none => simp only [et] at h'; exact h'.elim
        | some Γt =>
          simp only [et] at h'
          refine hg _ _ Γ' Γt R3 Hx x _ _ A3 s3 et fun σ2 A4 l4 o4 p4 n4 => ?_
          have eW : L2.wipe σ2 vs = L2.wipe σ vs := by
            apply List.ext_getElem?
            intro k
            rw [wipe_get, wipe_get]
            by_cases hk : k ∈ vs
            · rw [if_pos hk, if_pos hk]
              have hlen : σ2.length = σ.length := l4.trans (L2.wipe_length σ vs)
              by_cases hk2 : k < σ.length
              · rw [List.getElem?_eq_getElem hk2, List.getElem?_eq_getElem (by omega)]; rfl
              · rw [List.getElem?_eq_none (by omega), List.getElem?_eq_none (by omega)]
            · rw [if_neg hk, if_neg hk, o4 k fun z => hk (hjs k z), wipe_get, if_neg hk]
          have eG : wipeG Γt vs = Γ' := by
            apply List.ext_getElem?
            intro k
            rw [wipeG_get]
            by_cases hk : k ∈ vs
            · rw [if_pos hk]
              have hlen : Γt.length = Γ'.length := by
                have e1 := A4.len
                have e2 := A3.len
                omega
              by_cases hk2 : k < Γ'.length
              · rw [List.getElem?_eq_getElem hk2, List.getElem?_eq_getElem (by omega)]
                show some Sl.no = some Γ'[k]
                rw [hwp k hk _ (List.getElem?_eq_getElem hk2)]
              · rw [List.getElem?_eq_none (by omega), List.getElem?_eq_none (by omega)]; rfl
            · rw [if_neg hk, p4 k fun z => hk (hjs k z)]
          have hnt : ∀ k ∈ vs, ∀ t o, Γt[k]? ≠ some (.own t o) := fun k hk t o z => by
            by_cases hj : k ∈ js
            · exact n4 k hj t o z
            · rw [p4 k hj] at z
              have := hwp k hk _ z
              cases this
          -- a turn's step, seen from outside
          have out : ∀ {Γ5 : Sto} {R5 H5 : Hp}, Step σ2 Γt R3 Hx Γ5 R5 H5 → Step (L2.wipe σ vs) (wipeG Γ1 vs) R1 H1 (wipeG Γ5 vs) R5 H5 ∧ H5 D = some (.lst xs) ∧ R5 D = none ∧ Ex R' R5 := fun {Γ5 R5 H5} S5 => by
            have S6 := S5.wiped vs hnt
            rw [eW, eG] at S6
            have S7 := S3.trans S6
            obtain ⟨d1, d2⟩ := S7.fr D _ hDl rD (nOwnD S')
            exact ⟨S'.trans S7, d1, d2, S7.ex⟩
          have wp5 : ∀ (Γ5 : Sto), ∀ i ∈ vs, ∀ s, (wipeG Γ5 vs)[i]? = some s → s = .no := fun Γ5 i hi s e => by
            rw [wipeG_get, if_pos hi] at e
            cases z : Γ5[i]? with
            | none => rw [z] at e; cases e
            | some x => rw [z] at e; cases e; rfl
          refine ⟨eW, R1, Γt, R3, A4, ?_⟩
          cases ec : fc Γt with
          | bad => rw [ec] at h'; exact h'.elim
          | exc e Γe => rw [ec] at h'; exact h'.elim
          | ok b Γ5 =>
            rw [ec] at h'
            intro R5 H5 A5 S5
            obtain ⟨T5, d5, r5, x5⟩ := out S5
            cases b with
            | false =>
              refine iteF ⟨wipeG Γ5 vs, R5, acc, xs, ?_, T5, d5, hxs.mono x5, r5, wp5 Γ5, h'⟩
              have := A5.wipe vs
              rw [eW] at this
              exact this
            | true =>
              refine iteT ⟨R1, Γ5, R5, A5, ?_⟩
              have h' : Post X.K X.w F Wx σ Γ R H _ (((nox (fi1 Γ5)).bind fun ds1 Γ3 => if noOwnAt Γ3 vs then (lcL t1 fc1 fe vs1 ds1 acc (wipeG Γ3 vs1)).bind fun acc' Γ4 => lc2L t fc fi1 vs1 t1 fc1 fe vs (ds.drop (i + 1)) acc' (wipeG Γ4 vs) else .bad).bind fun acc Γe => Res.ok (AV.own (Ob.lst acc)) (rst Γ1 Γe vs)) := h'
              cases ei : fi1 Γ5 with
              | bad => rw [ei] at h'; exact h'.elim
              | exc e Γe => rw [ei] at h'; exact h'.elim
              | ok ds1 Γ6 =>
                rw [ei] at h'
                have h' : Post X.K X.w F Wx σ Γ R H _ ((if noOwnAt Γ6 vs then (lcL t1 fc1 fe vs1 ds1 acc (wipeG Γ6 vs1)).bind fun acc' Γ4 => lc2L t fc fi1 vs1 t1 fc1 fe vs (ds.drop (i + 1)) acc' (wipeG Γ4 vs) else .bad).bind fun acc Γe => Res.ok (AV.own (Ob.lst acc)) (rst Γ1 Γe vs)) := h'
                cases hn6 : noOwnAt Γ6 vs with
                | false => rw [hn6] at h'; exact h'.elim
                | true =>
                  rw [hn6] at h'
                  have h' : Post X.K X.w F Wx σ Γ R H (fun a Γ' R' H' => ∀ v, VR X.K X.w F H σ Γ' R' H' v a → Q v H') (((lcL t1 fc1 fe vs1 ds1 acc (wipeG Γ6 vs1)).bind fun acc' Γ4 => lc2L t fc fi1 vs1 t1 fc1 fe vs (ds.drop (i + 1)) acc' (wipeG Γ4 vs)).bind fun acc Γe => Res.ok (AV.own (Ob.lst acc)) (rst Γ1 Γe vs)) := h'
                  have hno6 : ∀ i ∈ vs, ∀ t o, Γ6[i]? ≠ some (.own t o) := fun i hi t o e => by
                    have := List.all_eq_true.mp hn6 i hi
                    simp only [e] at this
                    cases this
                  intro R6 H6 A6 S6 J1 hJ1
                  obtain ⟨T6, d6, r6, x6⟩ := out (S5.trans S6)
                  have nD6 : ¬ Own σ2 Γ6 D := fun q => by
                    obtain ⟨k, tt, o, g1, s1⟩ := (S5.trans S6).own D q
                    have hk : k ∉ vs := fun hk => hnt k hk tt o g1
                    have hkj : k ∉ js := fun z => hk (hjs k z)
                    rw [p4 k hkj] at g1
                    rw [o4 k hkj] at s1
                    exact nOwnD S' ⟨k, tt, o, g1, s1⟩
                  refine inner_ok (F := { F with R0 := R1 }) (P := fun acc' Γ4 => Post X.K X.w F Wx σ Γ R H (fun a Γ' R' H' => ∀ v, VR X.K X.w F H σ Γ' R' H' v a → Q v H') ((lc2L t fc fi1 vs1 t1 fc1 fe vs (ds.drop (i + 1)) acc' (wipeG Γ4 vs)).bind fun acc Γe => Res.ok (AV.own (Ob.lst acc)) (rst Γ1 Γe vs)))
                    hjs1 hg1 A6 hJ1 d6 (hxs.mono x6) r6 nD6 hF0 (fun acc' Γ4 hp R' H' xs' A' S4 hD' hxs' rD' => ?_) ?_
                  · have Aw := A'.wipe vs
                    rw [wipe_twice hv1, eW] at Aw
                    have S4w := S4.wiped vs fun k hk tt o e => by
                      rw [wipeG_get] at e
                      by_cases hk1 : k ∈ vs1
                      · rw [if_pos hk1] at e
                        cases z : Γ6[k]? with
                        | none => rw [z] at e; cases e
                        | some x => rw [z] at e; cases e
                      · rw [if_neg hk1] at e; exact hno6 k hk tt o e
                    rw [wipe_twice hv1, eW, wipeG_twice hv1] at S4w
                    exact ⟨wipeG Γ4 vs, R', acc', xs', A6.sup Aw, (T6.del hD).trans S4w, hD', hxs', rD', wp5 Γ4, hp⟩
                  · cases el : lcL t1 fc1 fe vs1 ds1 acc (wipeG Γ6 vs1) with
                    | bad => rw [el] at h'; exact h'.elim
                    | exc e Γe => rw [el] at h'; exact lcL_noexc el
                    | ok acc' Γ4 => rw [el] at h'; exact h'
      · have e : i = ds.length := by omega
        subst e
        refine .inl ⟨hJ.stop R' H' _ A'.r0 A'.rh (Nat.le_refl _), ?_⟩
        rw [List.drop_length] at h'
        have hgt := rst_get (Γ1 := Γ1) (Γe := Γ') hl'.symm
        have ow : ∀ {k : Nat} {tt : Option Nat} {o : Ob}, (rst Γ1 Γ' vs)[k]? = some (.own tt o) → k ∉ vs ∧ Γ'[k]? = some (.own tt o) := fun {k tt o} e => by
          rw [hgt k vs] at e
          by_cases hk : k ∈ vs
          · rw [if_pos hk] at e; exact absurd e (hno' k hk tt o)
          · rw [if_neg hk] at e; exact ⟨hk, e⟩
        have ow2 : ∀ {a : Addr}, Own σ (rst Γ1 Γ' vs) a → Own (L2.wipe σ vs) Γ' a := fun ⟨k, tt, o, g1, s1⟩ => by
          obtain ⟨hk, g2⟩ := ow g1
          exact ⟨k, tt, o, g2, by rw [wipe_get, if_neg hk]; exact s1⟩
        have ow3 : ∀ {a : Addr}, Own (L2.wipe σ vs) (wipeG Γ1 vs) a → Own σ Γ1 a := fun ⟨k, tt, o, g1, s1⟩ => by
          rw [wipeG_get] at g1
          rw [wipe_get] at s1
          by_cases hk : k ∈ vs
          · rw [if_pos hk] at g1
            cases e : Γ1[k]? with
            | none => rw [e] at g1; cases g1
            | some x => rw [e] at g1; cases g1
          · rw [if_neg hk] at g1 s1; exact ⟨k, tt, o, g1, s1⟩
        have A2 : Abs X.K X.w F σ (rst Γ1 Γ' vs) R' H' := by
          refine A1.sup ⟨(rst_len Γ1 Γ' vs).trans (hl'.trans A1.len), fun k d e => ?_, fun k tt o e => ?_, fun j k tt u o q p e1 e2 s1 s2 => ?_, A'.rh, A'.r0, A'.sep, A'.frm, A'.kee⟩
          · rw [hgt k vs] at e
            by_cases hk : k ∈ vs
            · rw [if_pos hk] at e
              obtain ⟨v, g1, g2⟩ := A1.sh k d e
              exact ⟨v, g1, g2.mono A'.r0⟩
            · rw [if_neg hk] at e
              obtain ⟨v, g1, g2⟩ := A'.sh k d e
              rw [wipe_get, if_neg hk] at g1
              exact ⟨v, g1, g2⟩
          · obtain ⟨hk, g1⟩ := ow e
            obtain ⟨p, g2, g3⟩ := A'.own k tt o g1
            rw [wipe_get, if_neg hk] at g2
            exact ⟨p, g2, g3⟩
          · obtain ⟨hk1, g1⟩ := ow e1
            obtain ⟨hk2, g2⟩ := ow e2
            exact A'.dis j k tt u o q p g1 g2 (by rw [wipe_get, if_neg hk1]; exact s1) (by rw [wipe_get, if_neg hk2]; exact s2)
        have S2 : Step σ Γ1 R1 H1 (rst Γ1 Γ' vs) R' H' := by
          refine ⟨S'.ex, fun a o q r n => S'.fr a o q r fun z => n (ow3 z), fun a q => ow3 (S'.own a (ow2 q)), fun k s g1 n => ?_, S'.kee⟩
          by_cases hk : k ∈ vs
          · exact ⟨s, by rw [hgt k vs, if_pos hk]; exact g1, n⟩
          · obtain ⟨s', g2, n2⟩ := S'.vis k s (by rw [wipeG_get, if_neg hk]; exact g1) n
            exact ⟨s', by rw [hgt k vs, if_neg hk]; exact g2, n2⟩
        refine h'.at A2 (S1.trans S2) _ ⟨D, rfl, S1.kee D hD, hF0, rD, fun q => nOwnD S' (ow2 q), xs, hDl, hxs⟩
theorem v_lc2 {fl fl1 : Bool} {scope : Scope} {own : List (Str × Nat)} {pos : Pos} (hc : X.calm = true) (hN : X.N.Nodup) (hi : Ix fl X Wx tg iter fi) (ok : BlkOk X.N X.env.scope scope own) (hjs : ∀ j ∈ js, j ∈ own.map (·.2))
    (hg : ∀ (s : Shared) (H : Hp) (C : Addr) (cl : List (Str × Addr)) (fp : List Addr), Gx fl (X.blk s H scope (compEnvC scope cl C X.env) fp) tg js g t)
    (ht : ∀ (s : Shared) (H : Hp) (C : Addr) (cl : List (Str × Addr)) (fp : List Addr), Tsx (X.blk s H scope (compEnvC scope cl C X.env) fp) Wx0 ifs fc)
    (hjs1 : ∀ j ∈ js1, j ∈ vs1) (hv1 : ∀ i ∈ vs1, i ∈ own.map (·.2))
    (hi1 : ∀ (s : Shared) (H : Hp) (C : Addr) (cl : List (Str × Addr)) (fp : List Addr), Ix fl1 (X.blk s H scope (compEnvC scope cl C X.env) fp) Wx0 tg1 iter1 fi1)
    (hg1 : ∀ (s : Shared) (H : Hp) (C : Addr) (cl : List (Str × Addr)) (fp : List Addr), Gx fl1 (X.blk s H scope (compEnvC scope cl C X.env) fp) tg1 js1 g1 t1)
    (ht1 : ∀ (s : Shared) (H : Hp) (C : Addr) (cl : List (Str × Addr)) (fp : List Addr), Tsx (X.blk s H scope (compEnvC scope cl C X.env) fp) Wx0 ifs1 fc1)
    (he : ∀ (s : Shared) (H : Hp) (C : Addr) (cl : List (Str × Addr)) (fp : List Addr), Dx (X.blk s H scope (compEnvC scope cl C X.env) fp) Wx0 elt fe)
    (hs : ∀ x, foldedSetIterable iter X.env x = pure x := by intro _; rfl) (hs1 : ∀ env x, foldedSetIterable iter1 env x = pure x := by intro _ _; rfl) : Vx X Wx (.ListComp elt [⟨tg, iter, ifs, 0⟩, ⟨tg1, iter1, ifs1, 0⟩] scope pos) (lc2 fi (own.map (·.2)) t fc fi1 vs1 t1 fc1 fe) := fun F =>
  (pe_lc2 (vs1 := vs1) (wi1 := fun σ H Q => ∃ R1, TIt fl1 X.K X.w { F with R0 := R1 } Wx0 fi1 σ H Q) (tt1 := fun σ H Q => ∃ R1, TB X.K X.w { F with R0 := R1 } Wx0 fc1 σ H Q) (te := fun σ H Q => ∃ R1, TD X.K X.w { F with R0 := R1 } Wx0 fe σ H Q) (tt := fun σ H Q => ∃ R1, TB X.K X.w { F with R0 := R1 } Wx0 fc σ H Q) hc hN (hi F) ok hv1 (fun s H C cl fp => (hg s H C cl fp).pg)
    (fun s H C cl fp => ⟨fun pins s' σ H' Q I ⟨R1, q⟩ => (ht s H C cl fp { F with R0 := R1 }).run pins s' σ H' Q I q⟩) (fun s H C cl fp => ⟨fun pins s' σ H' Q I ⟨R1, q⟩ => (hi1 s H C cl fp { F with R0 := R1 }).run pins s' σ H' Q I q⟩) (fun s H C cl fp => (hg1 s H C cl fp).pg) (fun s H C cl fp => ⟨fun pins s' σ H' Q I ⟨R1, q⟩ => (ht1 s H C cl fp { F with R0 := R1 }).run pins s' σ H' Q I q⟩) (fun s H C cl fp => ⟨fun pins s' σ H' Q I ⟨R1, q⟩ => (he s H C cl fp { F with R0 := R1 }).run pins s' σ H' Q I q⟩) hs hs1).mono
    fun σ H Q h => tLc2_ok hjs (fun F σ Γ Γ' R H v d Q => (hg X.s_0 X.H_0 (0 : Nat) [] []).ok F σ Γ Γ' R H v d Q) hjs1 hv1 (fun F σ Γ Γ' R H v d Q => (hg1 X.s_0 X.H_0 (0 : Nat) [] []).ok F σ Γ Γ' R H v d Q) h
end
end G

namespace G
open PySem L2

/-! ### xs.index(x) -/
def gIndex : PD → PD → Option AV
  | .list ds, d => if SeqAt.shaped (.list ds) && SeqAt.shaped d then (ds.findIdx? fun z => PyData.eqv z d).map fun j => .sh (.int (j : Int)) else none
  | _, _ => none
def idx1 (fa fb : Ev) : Ev := fun Γ => (fa Γ).bind fun a Γ1 => match peek Γ1 a with
  | some (.list _) => (fb Γ1).bind fun b Γ2 => match peek Γ2 a, peek Γ2 b with
    | some d, some k => match gIndex d k with
      | some s => .ok s Γ2
      | none => .bad
    | _, _ => .bad
  | _ => .bad
section
variable {X : Cx} {Wx : WX} {e o : Expr} {fa fb : Ev} {apos cpos : Pos}
theorem v_index (hu : X.A.units + 65 < cLine) (hm : ∀ {to : TE} {t : TA}, PE X o to → PA X [e] t → PE X (.Call (.Attribute o "index" apos) [e] [] cpos) (tBM X.K "list" (rIndexD X.K) to t)) (ha : Vx X Wx o fa) (hb : Vx X Wx e fb)
    (hs : starEach [e] X.env = (false, eval e X.env) :: starEach [] X.env := by rfl) : Vx X Wx (.Call (.Attribute o "index" apos) [e] [] cpos) (idx1 fa fb) := fun F =>
  (hm (ha F) (pa_cons (hb F) pa_nil hs)).mono fun σ H Q ⟨Γ, R, A, h⟩ => by
    refine ⟨Γ, R, A, h.split.mono fun a Γ1 R1 H1 A1 S1 h1 v hv => ?_⟩
    cases ea : peek Γ1 a with
    | none => simp only [ea] at h1; exact h1.elim
    | some d =>
      cases d with
      | list ds =>
        simp only [ea] at h1
        obtain ⟨p, xs, rfl, hq, _⟩ := (peek_bo A1 hv ea).list A1.rh
        refine ⟨.inl ⟨rfl, xs, hq⟩, Γ1, R1, A1, (h1.split.shift S1).mono fun b Γ2 R2 H2 A2 S2 h2 y hy => ?_⟩
        cases e2 : peek Γ2 a with
        | none => simp only [e2] at h2; exact h2.elim
        | some d2 =>
          cases eb : peek Γ2 b with
          | none => simp only [e2, eb] at h2; exact h2.elim
          | some k =>
            simp only [e2, eb] at h2
            unfold gIndex at h2
            cases d2 with
            | list ds2 =>
              simp only at h2
              have hl := peek_bo A2 (hv.keep S2) e2
              have hk := peek_bo A2 hy eb
              cases hsh : SeqAt.shaped (.list ds2) && SeqAt.shaped k with
              | false => rw [hsh] at h2; exact h2.elim
              | true =>
                rw [hsh] at h2
                rw [Bool.and_eq_true] at hsh
                cases hf : ds2.findIdx? fun z => PyData.eqv z k with
                | none => rw [hf] at h2; exact h2.elim
                | some j =>
                  rw [hf] at h2
                  obtain ⟨hj, h3, h4⟩ := List.findIdx?_eq_some_iff_getElem.mp hf
                  refine ⟨p, y, k, ds2, j, ds2[j], rfl, rfl, (hl.full A2.rh (noDic (shaped_lay hsh.1))).dp (shaped_lay hsh.1), (hk.full A2.rh (noDic (shaped_lay hsh.2))).dp (shaped_lay hsh.2), hsh.1, hsh.2, List.getElem?_eq_getElem hj, h3, fun m z' hm hz => ?_, h2.at A2 (S1.trans S2) (.int (j : Int)) (.int _)⟩
                  obtain ⟨hm2, e⟩ := List.getElem?_eq_some_iff.mp hz
                  subst e
                  have := h4 m hm
                  simpa using this
            | _ => exact h2.elim
      | _ => simp only [ea] at h1; exact h1.elim
@[simp] theorem idx1_ap {Γ : Sto} (fa fb : Ev) : idx1 fa fb Γ = (fa Γ).bind fun a Γ1 => match peek Γ1 a with
  | some (.list _) => (fb Γ1).bind fun b Γ2 => match peek Γ2 a, peek Γ2 b with
    | some d, some k => match gIndex d k with
      | some s => .ok s Γ2
      | none => .bad
    | _, _ => .bad
  | _ => .bad := (rfl)
end
end G

/-! {**d, k: v, ..}: one dict put into another (modelled on the kit's merge of dict.update) -/
namespace GM
open PySem PySem.Spec PyProof.Rows
section
variable {prog : Program} {w : World} {K : Type} [DecidableEq K] {knd : KeyKind prog w K} {A : Around} {E : Value → Shared → Prop} {s : Shared}
theorem dictPut_pairs {d : Addr} {kvs : List (K × Value)} {k : K} {key v : Value} {Q : Unit → Shared → Prop} (hkey : knd.is k key = true) (hm : s.heap.DictOf knd d kvs)
    (hQ : ∀ h', h'.DictOf knd d (stored kvs k v) → Heap.SameBut d s.heap h' → Q () { s with heap := h' }) (hsz : kvs.length ≤ sizeLine) :
    wpAny (model prog w) A (dictPut d (knd.hash k) key v) Q E s := by
  obtain ⟨o, es, ep, ho, hc, hd, hk, hp, hn⟩ := hm
  have hes : es.size ≤ sizeLine := by
    have e1 := hp.length
    have e2 : es.toList.length = es.size := by simp
    omega
  unfold dictPut
  refine wpAny_bind (wpAny_dictFind_of hkey ho hd hk ?_)
  have hidx : (es.findIdx? fun e => knd.is k e.key) = kvs.findIdx? fun kv => decide (kv.1 = k) := by
    rw [← hp.findIdx k]; obtain ⟨l⟩ := es; simp
  cases hi : es.findIdx? fun e => knd.is k e.key with
  | some i =>
    refine wpAny_updateDict ho hd (hQ _ ⟨_, _, ep, Heap.get?_update_self _ ho (Obj.isFreed_of_dict (Obj.data_mapDict hd _)), hc.mapDict _, Obj.data_mapDict hd _, hk.modify _ _, ?_, ?_⟩ (Heap.SameBut.update ..))
    · rw [stored, if_pos (any_of_findIdx_some (hidx ▸ hi))]
      have hl : (es.toList.findIdx? fun e => knd.is k e.key) = some i := by rw [← hi]; obtain ⟨l⟩ := es; simp
      have := hp.modify hn hl v
      obtain ⟨l⟩ := es
      simpa using this
    · rw [stored, if_pos (any_of_findIdx_some (hidx ▸ hi)), keys_map_store]; exact hn
  | none =>
    have hnot : k ∉ kvs.map (·.1) := not_mem_of_findIdx_none (hidx ▸ hi)
    have hany : ¬ (kvs.any fun kv => decide (kv.1 = k)) = true := by
      rw [List.any_eq_true]; rintro ⟨kv, hkv, he⟩
      exact hnot (List.mem_map.mpr ⟨kv, hkv, of_decide_eq_true he⟩)
    refine wpAny_updateDictKeys (hz := hes) ho hd (hQ _ ⟨_, _, ep + 1, Heap.get?_update_self _ ho (Obj.isFreed_of_dict (Obj.data_mapDictKeys hd _)), hc.mapDictKeys _, Obj.data_mapDictKeys hd _, hk.push hkey _, ?_, ?_⟩ (Heap.SameBut.update ..))
    · rw [stored, if_neg hany]
      have := hp.append hkey (knd.hash k) v
      obtain ⟨l⟩ := es
      simpa using this
    · rw [stored, if_neg hany, List.map_append, List.nodup_append]
      refine ⟨hn, by simp, ?_⟩
      intro a ha b hb
      simp only [List.map_cons, List.map_nil, List.mem_singleton] at hb
      subst hb
      exact fun e => hnot (e ▸ ha)
theorem merge_dict {d o : Addr} {kvs more : List (K × Value)} {Q : Unit → Shared → Prop} (hval : ∀ k v, knd.is k v = true → ∀ a, v ≠ .ref a) (hdo : d ≠ o) (hoS : (o == sysModules) = false)
    (hd : s.heap.DictOf knd d kvs) (ho : s.heap.DictOf knd o more)
    (hQ : ∀ h', h'.DictOf knd d (merged kvs more) → h'.DictOf knd o more → Heap.SameBut d s.heap h' → Q () { s with heap := h' })
    (hsz : kvs.length + more.length ≤ sizeLine) :
    wpAny (model prog w) A (mergeMapping d (.ref o) false) Q E s := by
  obtain ⟨od, esd, epd, hod, hcd, hdd, hkd, hpd, hnd⟩ := id hd
  obtain ⟨oo, eso, epo, hoo, hco, hdo', hko, hpo, hno⟩ := id ho
  have hT : s.TypeIs (.ref o) "dict" := ho.typeIs
  have hlen : more.length = eso.size := by rw [← hpo.length]; simp
  unfold mergeMapping
  have hsub : isSubtype (.type "dict") (.type "dict") = pure true := by rw [isSubtype_type]; kernel_rfl
  have hb : ((some (Value.builtin "dict.__iter__") : Option Value) == some (.builtin "dict.__iter__")) = true := by first | decide +kernel | rfl
  refine wpAny_bind (wpAny_isInstance (T := "dict") (U := "dict") (b := true) hT hsub ?_)
  rw [if_pos rfl]
  refine wpAny_bind (wpAny_specialOf (T := "dict") hT PySem.F.slot_dict_iter.lookup (wpAny_bind (wpAny_pure ?_)))
  rw [hb]
  try dsimp only
  rw [hoS]
  simp only [Bool.false_eq_true, if_false]
  have loop : ∀ Q' : Unit → Shared → Prop, (∀ h', h'.DictOf knd d (merged kvs more) → h'.DictOf knd o more → Heap.SameBut d s.heap h' → Q' () { s with heap := h' }) → wpAny (model prog w) A (do
      let l ← dictEntries o
      let epoch ← dictEpoch o
      forIn (List.range l.size) PUnit.unit fun i (_ : PUnit) => (do
          let l' ← dictEntries o
          match l'[i]? with
            | some e => do
              holding [e.key, e.val] (dictPut d e.hash e.key e.val)
              let ep' ← dictEpoch o
              if (ep' != epoch) = true then do
                  (unsupported "dict.changed-during-merge" : Sem PUnit)
                  pure (ForInStep.yield PUnit.unit)
                else pure (ForInStep.yield PUnit.unit)
            | _ => do
              (unsupported "dict.changed-during-merge" : Sem PUnit)
              pure (ForInStep.yield PUnit.unit) : Sem (ForInStep PUnit))
      pure ()) Q' E s := by
    intro Q' hQ
    refine wpAny_bind (wpAny_dictEntries hoo hdo' ?_)
    refine wpAny_bind (wpAny_dictEpoch hoo hdo' ?_)
    refine wpAny_bind ?_
    rw [List.range_eq_range']
    refine wpAny_forIn_list _
      (fun rest _ s' => ∃ h' i, s' = { s with heap := h' } ∧ rest = List.range' i (eso.size - i) ∧ i ≤ eso.size ∧ h'.DictOf knd d (merged kvs (more.take i)) ∧ h'.get? o = some oo ∧ Heap.SameBut d s.heap h')
      _ ?_ ?_ _ _ ⟨s.heap, 0, rfl, by simp, Nat.zero_le _, by simpa [merged] using hd, hoo, Heap.SameBut.refl _ _⟩
    · rintro x rest b s' ⟨h', i, rfl, hr, hi, hd', hoo', hs'⟩
      have hlt : i < eso.size := by
        rcases Nat.lt_or_ge i eso.size with h | h
        · exact h
        · rw [Nat.sub_eq_zero_of_le h] at hr; simp at hr
      obtain ⟨rfl, hrest⟩ : x = i ∧ rest = List.range' (i + 1) (eso.size - (i + 1)) := by
        have e : eso.size - i = (eso.size - (i + 1)) + 1 := by omega
        rw [e, List.range'_succ] at hr
        injection hr with h1 h2
        exact ⟨h1, h2⟩
      refine wpAny_bind (wpAny_dictEntries hoo' hdo' ?_)
      rw [Array.getElem?_eq_getElem hlt]
      obtain ⟨kv, hkv⟩ : ∃ kv, more[x]? = some kv := ⟨more[x]'(by rw [hlen]; exact hlt), List.getElem?_eq_getElem _⟩
      obtain ⟨k, v⟩ := kv
      obtain ⟨hkey, hval⟩ := hpo.get? (e := eso[x]) (by simp [hlt]) hkv
      obtain ⟨k', hkey', hhash⟩ := hko eso[x] (Array.getElem_mem hlt)
      obtain rfl : k' = k := knd.inj _ _ _ hkey' hkey
      show wpAny _ _ (holding [eso[x].key, eso[x].val] (dictPut d eso[x].hash eso[x].key eso[x].val) >>= _) _ _ _
      rw [hhash, hval]
      have hmx : (merged kvs (more.take x)).length ≤ sizeLine := by
        have e1 := merged_length_le kvs (more.take x)
        have e2 : (more.take x).length ≤ more.length := by rw [List.length_take]; omega
        omega
      refine wpAny_bind (wpAny_holding (dictPut_pairs hkey hd' (fun h'' hd'' hs'' => ?_) hmx))
      have hoo'' : h''.get? o = some oo := (hs''.2 o (Ne.symm hdo)).trans hoo'
      refine wpAny_bind (wpAny_dictEpoch hoo'' hdo' ?_)
      rw [if_neg (by simp)]
      exact wpAny_pure ⟨h'', x + 1, rfl, hrest, hlt, by rw [merged_take_succ kvs more x (k', v) hkv]; exact hd'', hoo'', hs'.trans hs''⟩
    · rintro b s' ⟨h', i, rfl, hr, hi, hd', hoo', hs'⟩
      have hin : i = eso.size := by
        rcases Nat.lt_or_ge i eso.size with h | h
        · have e : eso.size - i = (eso.size - (i + 1)) + 1 := by omega
          rw [e, List.range'_succ] at hr; exact nomatch hr
        · exact Nat.le_antisymm hi h
      refine wpAny_pure (hQ h' ?_ ⟨oo, eso, epo, hoo', hco, hdo', hko, hpo, hno⟩ hs')
      rw [hin, ← hlen, List.take_length] at hd'; exact hd'
  refine wpAny_bind (wpAny_dictEntries hod hdd ?_)
  split
  · refine wpAny_bind (wpAny_dictEntries hoo hdo' ?_)
    refine wpAny_bind ?_
    rw [← Array.forIn_toList]
    refine wpAny_forIn_list _ (fun rest _ s' => s' = s ∧ ∀ e ∈ rest, e ∈ eso.toList) _ ?_ ?_ _ _ ⟨rfl, fun e h => h⟩
    · rintro e rest b s' ⟨rfl, he⟩
      obtain ⟨k, hk, _⟩ := hko e (Array.mem_toList_iff.mp (he e List.mem_cons_self))
      have hnr := hval k e.key hk
      cases hkey : e.key with
      | ref a => exact absurd hkey (hnr a)
      | _ => exact wpAny_pure ⟨rfl, fun e' h => he e' (List.mem_cons_of_mem _ h)⟩
    · rintro b s' ⟨rfl, _⟩
      exact loop _ hQ
  · exact loop _ hQ
end
end GM

namespace GM
open PySem PySem.Spec PyProof.Rows
theorem forIn_gatherM (main : Option Addr) (f : (Option (Sem Value) × Sem Value) → (Option Addr × List (Sem Value × Sem Value)) → Sem (ForInStep (Option Addr × List (Sem Value × Sem Value))))
    (hf : ∀ (p : Sem Value × Sem Value) (run : List (Sem Value × Sem Value)), run.length + 1 < 17 → f (some p.1, p.2) (main, run) = pure (.yield (main, run ++ [p]))) :
    ∀ (items run : List (Sem Value × Sem Value)), run.length + items.length < 17 → forIn (items.map fun p => (some p.1, p.2)) (main, run) f = pure (main, run ++ items)
  | [], run, _ => by simp
  | p :: rest, run, h => by
    rw [List.map_cons, List.forIn_cons, hf p run (by simp at h; omega), pure_bind]
    have := forIn_gatherM main f hf rest (run ++ [p]) (by simp at h ⊢; omega)
    simpa using this
section
variable {prog : Program} {w : World} {K : Type} [DecidableEq K] {knd : KeyKind prog w K} {A : Around} {E : Value → Shared → Prop} {s : Shared}
theorem disp_star {v0 : Sem Value} {pairs : List (Sem Value × Sem Value)} {Q : Value → Shared → Prop} (hval : ∀ k v, knd.is k v = true → ∀ a, v ≠ .ref a) (h0 : pairs ≠ []) (hlen : pairs.length ≤ 15)
    (h : wpAny (model prog w) A v0 (fun m s1 => ∃ o kvs, m = .ref o ∧ s.heap.objs.size ≠ o ∧ (o == sysModules) = false ∧ s1.heap.DictOf knd s.heap.objs.size [] ∧ s1.heap.DictOf knd o kvs ∧ kvs.length + 100 ≤ sizeLine ∧
      ∀ h1, h1.DictOf knd s.heap.objs.size (merged [] kvs) → Heap.SameBut s.heap.objs.size s1.heap h1 →
        wpAny (model prog w) A (evalPairs pairs) (fun vs s2 => ∃ kvp kvs2, Carries knd vs kvs2 ∧ s2.heap.DictOf knd h1.objs.size [] ∧ s2.heap.DictOf knd s.heap.objs.size kvp ∧ kvp.length + 20 ≤ sizeLine ∧ s.heap.objs.size ≠ h1.objs.size ∧ (h1.objs.size == sysModules) = false ∧ kvs2.length ≤ 15 ∧
          ∀ h2 h3, h2.DictOf knd h1.objs.size (merged [] kvs2) → Heap.SameBut h1.objs.size s2.heap h2 → h3.DictOf knd s.heap.objs.size (merged kvp (merged [] kvs2)) → Heap.SameBut s.heap.objs.size h2 h3 → Q (.ref s.heap.objs.size) { s2 with heap := h3, toks := s2.toks + vs.length }) E
          { s1 with heap := h1.push { cls := .type "dict", data := .dict #[] } }) E
      { s with heap := s.heap.push { cls := .type "dict", data := .dict #[] } }) :
    wpAny (model prog w) A (dictDisplay ((none, v0) :: pairs.map fun p => (some p.1, p.2))) Q E s := by
  unfold dictDisplay
  dsimp only
  rw [List.forIn_cons]
  rw [bind_assoc]
  refine wpAny_bind ?_
  dsimp only
  simp only [List.isEmpty_nil, if_true, pure_bind]
  refine wpAny_bind (wpAny_alloc ?_)
  refine wpAny_bind (wpAny_holding (wpAny_mono h (fun m s1 hm => ?_) fun _ _ e => e))
  obtain ⟨o, kvs, rfl, hdo, hoS, hd, ho, hz, hq⟩ := hm
  refine wpAny_bind (wpAny_onRaise (wpAny_tryCatch (wpAny_onRaise (wpAny_holding (merge_dict hval hdo hoS hd ho (fun h1 d1 o1 sb => ?_) (by simp; omega))))))
  refine wpAny_pure ?_
  dsimp only
  rw [forIn_gatherM (some s.heap.objs.size) _ (fun p run hr => by
    have hne : ((run ++ [(p.1, p.2)]).length == 17) = false := by simp; omega
    simp only [hne, Bool.false_eq_true, if_false]) pairs [] (by simp; omega)]
  rw [pure_bind]
  have hpe : pairs.isEmpty = false := by cases pairs with
    | nil => exact absurd rfl h0
    | cons _ _ => rfl
  simp only [List.nil_append, hpe, Bool.false_eq_true, if_false]
  refine wpAny_bind (wpAny_bind (wpAny_holding (wpAny_subDict (knd := knd) (s := { s1 with heap := h1 }) hlen (wpAny_mono (hq h1 d1 sb) (fun vs s2 hv => ?_) fun _ _ e => e))))
  obtain ⟨kvp, kvs2, hc, hsub, hD, hzp, hne, hsS, hl2, hfin⟩ := hv
  refine ⟨kvs2, hc, hsub, fun h2 d2 sb2 => ?_⟩
  have hD2 : h2.DictOf knd s.heap.objs.size kvp := hD.sameBut sb2 hne
  have hm2 := merged_length_le ([] : List (K × Value)) kvs2
  simp only [List.length_nil, Nat.zero_add] at hm2
  refine wpAny_bind (wpAny_onRaise (wpAny_holding (merge_dict (s := { s2 with heap := h2, toks := s2.toks + vs.length }) hval hne hsS hD2 d2 (fun h3 d3 o3 sb3 => ?_) (by omega))))
  exact wpAny_pure (wpAny_pure (hfin h2 h3 d2 sb2 d3 sb3))
end
end GM

namespace G
open PySem L2 PySem.Spec PyProof.Rows
/-- {**d, k: v, ..}: the keys of d, then the others -/
def tDispS (td : TE) (trs : List (TE × TE)) : TE := fun σ H Q => ∀ p, H p = none → td σ (upd H p (.dK [])) fun m H1 => ∃ a kvs, m = .ref a ∧ Rd H1 a (.dK kvs) ∧ a ≠ p ∧ H1 p = some (.dK []) ∧ kvs.length + 100 ≤ sizeLine ∧
  ∀ q, upd H1 p (.dK (mergeK [] kvs)) q = none → tPairs trs σ (upd (upd H1 p (.dK (mergeK [] kvs))) q (.dK [])) fun ps H2 => H2 p = some (.dK (mergeK [] kvs)) ∧ H2 q = some (.dK []) ∧ p ≠ q ∧
    ∃ kvs2 : List (Key × V), ps = kvs2.map (fun kv => (kV kv.1, kv.2)) ∧ kvs2.length ≤ 15 ∧ Q (.ref p) (upd (upd H2 q (.dK (mergeK [] kvs2))) p (.dK (mergeK (mergeK [] kvs) (mergeK [] kvs2))))
theorem pe_dispS {X : Cx} {pos : Pos} {keys : List (Option Expr)} {values : List Expr} {d : Expr} {td : TE} {trs : List (TE × TE)} (hd : PE X d td) (h : PPs X pos keys values trs) (hall : keys.all (·.isSome) = true) (hl : keys.length = values.length) (h0 : keys ≠ [])
    (h15 : keys.length ≤ 15) : PE X (.Dict (none :: keys) (d :: values) pos) (tDispS td trs) := by
  refine ⟨fun pins s σ H Q I q => ?_⟩
  have hn := I.hok.fresh (Nat.le_refl s.heap.objs.size)
  have I1 := I.laid (a := s.heap.objs.size) (o := .dK []) (h' := s.heap.push { cls := .type "dict", data := .dict #[] }) (t' := s.toks) (fun _ _ q => Heap.get?_push_of_some _ q) (Nat.le_refl _) (dk_empty s.heap I.big)
  have hlen := pairTrees_length keys values X.env pos hall hl
  have hz : (evalEachOpt (none :: keys) X.env).zip ((evalEach (d :: values) X.env).map fun v => do let x ← v; standAt pos; pure x) = (none, (do let x ← eval d X.env; standAt pos; pure x)) :: (pairTrees keys values X.env pos).map fun p => (some p.1, p.2) := by
    rw [← zip_pairTrees keys values X.env pos hall hl]; rfl
  rw [arm_eval_Dict, hz]
  refine wpAny_bind (wpAny_standAt (GM.disp_star (knd := mixKind X.prog X.w) (fun k v hk a => ?_) (fun e => ?_) (by rw [hlen]; exact h15) (wpAny_bind (thn (hd.run pins _ σ _ _ I1 (q _ hn)) fun u s1 ⟨x, H1, I2, r, a, kvs, ex, hr, hap, hp1, hz1, hq⟩ => wpAny_bind (wpAny_standAt (wpAny_pure ?_))))))
  · rcases keyIs_shape hk with ⟨i, t, rfl, rfl⟩ | ⟨x, t, rfl, rfl⟩ <;> exact fun z => nomatch z
  · rw [e] at hlen
    exact h0 (List.length_eq_zero_iff.mp hlen.symm)
  subst ex
  obtain rfl : u = Value.ref a := r
  obtain ⟨_, hsa, vs, kv, dd⟩ := dk_rd I2.hok hr
  obtain ⟨z0, hsp, vs0, r0, dp⟩ := dk_of I2.hok hp1
  cases r0
  have lvs : vs.length = kvs.length := (Paired.length kv).symm
  refine ⟨a, vs, rfl, Ne.symm hap, hsa, dp, dd, by omega, fun h1 d1 sb1 => ?_⟩
  have hmz : (mergeK [] kvs).length ≤ sizeLine := by
    have h1 := length_mergeK kvs []
    rw [List.length_nil] at h1
    omega
  have he1 : ∃ q, h1.get? s.heap.objs.size = some q := let ⟨q, _, _, hq, _⟩ := d1; ⟨q, hq⟩
  have kvm : KV (mergeK [] kvs) (merged [] vs) := kv.merge .nil
  have I3 : Inv X pins σ (upd H1 s.heap.objs.size (.dK (mergeK [] kvs))) { s1 with heap := h1 } := d_write (t' := s1.toks) I2 (by rw [hp1]; exact True.intro) sb1 he1 (dk_new hmz hsp kvm d1)
  have hnq := I3.hok.fresh (Nat.le_refl h1.objs.size)
  have I4 := I3.laid (a := h1.objs.size) (o := .dK []) (h' := h1.push { cls := .type "dict", data := .dict #[] }) (t' := s1.toks) (fun _ _ q => Heap.get?_push_of_some _ q) (Nat.le_refl _) (dk_empty h1 I3.big)
  refine thn (h.run pins _ σ _ _ I4 (hq _ hnq)) fun ws s2 ⟨ps, H2, I5, rel, hp2, hq2, hpq, kvs2, ep, lk, q2⟩ => ?_
  subst ep
  obtain ⟨rs, c, rk⟩ := carries_of (P := X.prog) (w := X.w) rel
  obtain ⟨_, hsq, vq, rq, dq⟩ := dk_of I5.hok hq2
  cases rq
  obtain ⟨_, _, vp, rp, dp2⟩ := dk_of I5.hok hp2
  have lrs : rs.length = kvs2.length := (Paired.length rk).symm
  have hmz2 : (mergeK [] kvs2).length ≤ 15 := by
    have h1 := length_mergeK kvs2 []
    rw [List.length_nil] at h1
    omega
  have lvp : vp.length = (mergeK [] kvs).length := (Paired.length rp).symm
  have hmz1 : (mergeK [] kvs).length ≤ kvs.length := by
    have h1 := length_mergeK kvs []
    rw [List.length_nil] at h1
    omega
  refine ⟨vp, rs, c, dq, dp2, by omega, hpq, hsq, by omega, fun h2 h3 d2 sb2 d3 sb3 => ?_⟩
  have he2 : ∃ z, h2.get? h1.objs.size = some z := let ⟨z, _, _, hz, _⟩ := d2; ⟨z, hz⟩
  have I6 : Inv X pins σ (upd H2 h1.objs.size (.dK (mergeK [] kvs2))) { s2 with heap := h2 } := d_write (t' := s2.toks) I5 (by rw [hq2]; exact True.intro) sb2 he2 (dk_new (by rw [sizeLine_eq]; omega) hsq (rk.merge .nil) d2)
  have hp6 : upd H2 h1.objs.size (.dK (mergeK [] kvs2)) s.heap.objs.size = some (.dK (mergeK [] kvs)) := by rw [upd_ne hpq]; exact hp2
  have he3 : ∃ z, h3.get? s.heap.objs.size = some z := let ⟨z, _, _, hz, _⟩ := d3; ⟨z, hz⟩
  have hm3 := length_mergeK (mergeK [] kvs2) (mergeK [] kvs)
  have I7 : Inv X pins σ (upd (upd H2 h1.objs.size (.dK (mergeK [] kvs2))) s.heap.objs.size (.dK (mergeK (mergeK [] kvs) (mergeK [] kvs2)))) { s2 with heap := h3, toks := s2.toks + ws.length } :=
    d_write (s := { s2 with heap := h2 }) (t' := s2.toks + ws.length) I6 (by rw [hp6]; exact True.intro) sb3 he3 (dk_new (by omega) hsp ((rk.merge .nil).merge rp) d3)
  exact ⟨.ref s.heap.objs.size, _, I7, rfl, q2⟩
end G

namespace G
open PySem L2

/-! ### the expression {**d, k: v, ..} -/
abbrev PrG := List ((Sto → Res PD) × (Sto → Res PD))
def pairsG : PrG → Sto → Res (List (PD × PD))
  | [], Γ => .ok [] Γ
  | (fk, fv) :: r, Γ => (nox (fk Γ)).bind fun k Γ1 => (nox (fv Γ1)).bind fun v Γ2 => (nox (pairsG r Γ2)).bind fun ps Γ3 => .ok ((k, v) :: ps) Γ3
def keysG : List (PD × PD) → Option (List (Key × PD))
  | [] => some []
  | (k, v) :: r => match keyD k with
    | some x => (keysG r).map ((x, v) :: ·)
    | none => none
theorem keysG_kD : ∀ kvs : List (Key × PD), keysG (kvs.map fun p => (kD p.1, p.2)) = some kvs
  | [] => rfl
  | (k, v) :: r => by
    have hk : keyD (kD k) = some k := by cases k <;> rfl
    show (match keyD (kD k) with
      | some x => (keysG (r.map fun p : Key × PD => (kD p.1, p.2))).map ((x, v) :: ·)
      | none => none) = _
    rw [hk, keysG_kD r]; rfl
def dspS (fd : Sto → Res PD) (prs : PrG) : Ev := fun Γ => (nox (fd Γ)).bind fun d Γ1 => match d with
  | .dict kvs => (nox (pairsG prs Γ1)).bind fun ps Γ2 => match keysG kvs, keysG ps with
    | some ks, some ms => if ks.length + 100 ≤ lim ∧ ms.length ≤ 15 then .ok (.own (.dic (mergeP (mergeP [] ks) (mergeP [] ms)))) Γ2 else .bad
    | _, _ => .bad
  | _ => .bad
inductive ShP (K : PySem.W.Frag) (R : Hp) : List (V × V) → List (PD × PD) → Prop
  | nil : ShP K R [] []
  | cons {x y : V} {k v : PD} {vs : List (V × V)} {ps : List (PD × PD)} : Sh K R x k → Sh K R y v → ShP K R vs ps → ShP K R ((x, y) :: vs) ((k, v) :: ps)
theorem shP_keys {K : PySem.W.Frag} {R : Hp} : ∀ {vs : List (V × V)} {ps : List (PD × PD)} {ms : List (Key × PD)}, ShP K R vs ps → keysG ps = some ms → ∃ ws : List (Key × V), vs = ws.map (fun kv => (kV kv.1, kv.2)) ∧ ShK K R ws ms
  | _, _, ms, .nil, h => by cases h; exact ⟨[], rfl, .nil⟩
  | _, _, ms, .cons (k := k) (v := v) (ps := ps) hx hy t, h => by
    have h : (match keyD k with
      | some x => (keysG ps).map ((x, v) :: ·)
      | none => none) = some ms := h
    cases hk : keyD k with
    | none => rw [hk] at h; cases h
    | some key =>
      rw [hk] at h
      obtain ⟨qs, e, rfl⟩ := Option.map_eq_some_iff.mp h
      obtain ⟨ws, e1, h1⟩ := shP_keys t e
      refine ⟨(key, _) :: ws, ?_, .cons hy h1⟩
      rw [sh_keyV hx hk, e1]; rfl
section
variable {K : PySem.W.Frag} {w : World} {F : Fr} {Wx : WX} {σ : St}
theorem ShP.mono {R R' : Hp} (e : Ex R R') : ∀ {vs : List (V × V)} {ps : List (PD × PD)}, ShP K R vs ps → ShP K R' vs ps
  | _, _, .nil => .nil
  | _, _, .cons a b t => .cons (a.mono e) (b.mono e) (t.mono e)
def trsOf (K : PySem.W.Frag) (w : World) (F : Fr) (Wx : WX) (prs : PrG) : List (TE × TE) := prs.map fun p => (TD K w F Wx p.1, TD K w F Wx p.2)
theorem tPairs_ok : ∀ (prs : PrG) {Q : List (V × V) → Hp → Prop} {Γ : Sto} {R H : Hp} (A : Abs K w F σ Γ R H) {ps : List (PD × PD)} {Γe : Sto} (e : pairsG prs Γ = .ok ps Γe)
    (h : ∀ R' H' vs, Abs K w F σ Γe R' H' → Step σ Γ R H Γe R' H' → ShP K R' vs ps → Q vs H'), L2.tPairs (trsOf K w F Wx prs) σ H Q
  | [], Q, Γ, R, H, A, ps, Γe, e, h => by
    cases e
    exact h R H [] A (.refl _ _ _ _) .nil
  | (fk, fv) :: r, Q, Γ, R, H, A, ps, Γe, e, h => by
    have e : ((nox (fk Γ)).bind fun k Γ1 => (nox (fv Γ1)).bind fun v Γ2 => (nox (pairsG r Γ2)).bind fun ps Γ3 => Res.ok ((k, v) :: ps) Γ3) = .ok ps Γe := e
    refine ⟨Γ, R, A, ?_⟩
    show Post K w F Wx σ Γ R H _ (fk Γ)
    cases ek : fk Γ with
    | bad => rw [ek] at e; cases e
    | exc _ _ => rw [ek] at e; cases e
    | ok k Γ1 =>
      rw [ek] at e
      have e : ((nox (fv Γ1)).bind fun v Γ2 => (nox (pairsG r Γ2)).bind fun ps Γ3 => Res.ok ((k, v) :: ps) Γ3) = .ok ps Γe := e
      intro R1 H1 A1 S1 x hx
      refine ⟨Γ1, R1, A1, ?_⟩
      show Post K w F Wx σ Γ1 R1 H1 _ (fv Γ1)
      cases ev : fv Γ1 with
      | bad => rw [ev] at e; cases e
      | exc _ _ => rw [ev] at e; cases e
      | ok v Γ2 =>
        rw [ev] at e
        have e : ((nox (pairsG r Γ2)).bind fun ps Γ3 => Res.ok ((k, v) :: ps) Γ3) = .ok ps Γe := e
        intro R2 H2 A2 S2 y hy
        cases er : pairsG r Γ2 with
        | bad => rw [er] at e; cases e
        | exc _ _ => rw [er] at e; cases e
        | ok qs Γ3 =>
          rw [er] at e
          have e : Res.ok ((k, v) :: qs) Γ3 = .ok ps Γe := e
          cases e
          exact tPairs_ok r A2 er fun R' H' vs A' S' hs => h R' H' ((x, y) :: vs) A' ((S1.trans S2).trans S') (.cons ((hx.mono S2.ex).mono S'.ex) (hy.mono S'.ex) hs)
end
inductive GPs (X : Cx) (Wx : WX) : List (Option Expr) → List Expr → PrG → Prop
  | nil : GPs X Wx [] [] []
  | cons {k v : Expr} {ks : List (Option Expr)} {vs : List Expr} {fk fv : Sto → Res PD} {prs : PrG} : Dx X Wx k fk → Dx X Wx v fv → GPs X Wx ks vs prs → GPs X Wx (some k :: ks) (v :: vs) ((fk, fv) :: prs)
theorem GPs.pps {X : Cx} {Wx : WX} {pos : Pos} (F : Fr) : ∀ {ks : List (Option Expr)} {vs : List Expr} {prs : PrG}, GPs X Wx ks vs prs → PPs X pos ks vs (trsOf X.K X.w F Wx prs)
  | _, _, _, .nil => pps_nil
  | _, _, _, .cons hk hv hr => pps_cons (hk F) (hv F) (hr.pps F)
section
variable {X : Cx} {Wx : WX} {pos : Pos} {keys : List (Option Expr)} {values : List Expr} {d : Expr} {fd : Sto → Res PD} {prs : PrG}
theorem v_dspS (hd : Dx X Wx d fd) (hp : GPs X Wx keys values prs) (hall : keys.all (·.isSome) = true := by rfl) (hl : keys.length = values.length := by rfl) (h0 : keys ≠ [] := by simp) (h15 : keys.length ≤ 15 := by decide) : Vx X Wx (.Dict (none :: keys) (d :: values) pos) (dspS fd prs) := fun F =>
  (pe_dispS (hd F) (hp.pps F) hall hl h0 h15).mono fun σ H Q ⟨Γ, R, A, h⟩ p hpn => by
    obtain ⟨A0, T0⟩ := A.new hpn (.dK [])
    have rp0 := A.freshR hpn
    have hF0 := A.fresh0 hpn
    have nOwn0 : ¬ Own σ Γ p := A.notOwn hpn
    refine ⟨Γ, R, A0, ?_⟩
    unfold dspS at h
    cases ed : fd Γ with
    | bad => rw [ed] at h; exact h.elim
    | exc _ _ => rw [ed] at h; exact h.elim
    | ok dd Γ1 =>
      rw [ed] at h
      cases dd with
      | dict kvs0 =>
        have h : Post X.K X.w F Wx σ Γ R H _ ((nox (pairsG prs Γ1)).bind fun ps Γ2 => match keysG kvs0, keysG ps with
          | some ks, some ms => if ks.length + 100 ≤ lim ∧ ms.length ≤ 15 then Res.ok (AV.own (.dic (mergeP (mergeP [] ks) (mergeP [] ms)))) Γ2 else .bad
          | _, _ => .bad) := h
        cases ep : pairsG prs Γ1 with
        | bad => rw [ep] at h; exact h.elim
        | exc _ _ => rw [ep] at h; exact h.elim
        | ok ps Γ2 =>
          rw [ep] at h
          have h : Post X.K X.w F Wx σ Γ R H _ (match keysG kvs0, keysG ps with
            | some ks, some ms => if ks.length + 100 ≤ lim ∧ ms.length ≤ 15 then Res.ok (AV.own (.dic (mergeP (mergeP [] ks) (mergeP [] ms)))) Γ2 else .bad
            | _, _ => .bad) := h
          intro R1 H1 A1 S1 x hx
          cases hx with
          | @dic a od ws kvs hR1 sk =>
            rw [keysG_kD] at h
            cases em : keysG ps with
            | none => rw [em] at h; exact h.elim
            | some ms =>
              rw [em] at h
              by_cases hz : kvs.length + 100 ≤ lim ∧ ms.length ≤ 15
              · have h : Post X.K X.w F Wx σ Γ R H (fun a Γ' R' H' => ∀ v, VR X.K X.w F H σ Γ' R' H' v a → Q v H') (Res.ok (AV.own (.dic (mergeP (mergeP [] kvs) (mergeP [] ms)))) Γ2) := by
                  have h' := h
                  simp only [if_pos hz] at h'
                  exact h'
                obtain ⟨hp1, rp1⟩ := S1.fr p _ upd_same rp0 nOwn0
                have hap : a ≠ p := fun z => by rw [z] at hR1; rw [rp1] at hR1; cases hR1
                refine ⟨a, ws, rfl, .inr ⟨od, A1.rh _ _ hR1⟩, hap, hp1, by have := sk.length; have h1 := lim_le (n := kvs.length + 100) hz.1; omega, fun q hq => ?_⟩
                have n1 : ¬ Own σ Γ1 p := fun z => nOwn0 (S1.own p z)
                have A2 := A1.tmp rp1 hF0 n1 (.dK (mergeK [] ws))
                have hqp : q ≠ p := fun z => by rw [z, upd_same] at hq; cases hq
                have hq1 : H1 q = none := by rw [upd_ne hqp] at hq; exact hq
                have hq0 : H q = none := by
                  have z := S1.kee q hq1
                  rwa [upd_ne hqp] at z
                obtain ⟨A3, T3⟩ := A2.new hq (.dK [])
                have rq := A2.freshR hq
                have hFq := A2.fresh0 hq
                have nq : ¬ Own σ Γ1 q := A2.notOwn hq
                refine tPairs_ok prs A3 ep fun R' H' vs A' S' hs => ?_
                obtain ⟨hpH, rpH⟩ := S'.fr p (.dK (mergeK [] ws)) (by rw [upd_ne (Ne.symm hqp), upd_same]) rp1 n1
                obtain ⟨hqH, rqH⟩ := S'.fr q (.dK []) upd_same rq nq
                obtain ⟨ws2, e2, sk2⟩ := shP_keys hs em
                refine ⟨hpH, hqH, Ne.symm hqp, ws2, e2, by rw [sk2.length]; exact hz.2, ?_⟩
                have np' : ¬ Own σ Γ2 p := fun z => n1 (S'.own p z)
                have nq' : ¬ Own σ Γ2 q := fun z => nq (S'.own q z)
                have A4 := A'.tmp rqH hFq nq' (.dK (mergeK [] ws2))
                have A5 := A4.tmp rpH hF0 np' (.dK (mergeK (mergeK [] ws) (mergeK [] ws2)))
                have S2 : Step σ Γ R H Γ1 R1 (upd H1 p (.dK (mergeK [] ws))) := (T0.trans S1).tmp hpn _
                have S5 := (((S2.trans T3).trans S').tmp hq0 (.dK (mergeK [] ws2))).tmp hpn (.dK (mergeK (mergeK [] ws) (mergeK [] ws2)))
                exact h.at A5 S5 _ ⟨p, rfl, hpn, hF0, rpH, np', _, upd_same, mergeP_k (mergeP_k sk2 .nil) (mergeP_k (sk.mono S'.ex) .nil)⟩
              · have h' := h
                simp only [if_neg hz] at h'
                exact h'.elim
      | _ => exact h.elim
end
end G

namespace G
open PySem L2
/-! ### all, any of a list of bools; dict of a list or a tuple of pairs -/
def boolsD : List PD → Option (List Bool)
  | [] => some []
  | .bool b :: r => (boolsD r).map (b :: ·)
  | _ => none
def gAll : PD → Option AV
  | .list ds => (boolsD ds).map fun bs => .sh (.bool (bs.all id))
  | _ => none
def gAny : PD → Option AV
  | .list ds => (boolsD ds).map fun bs => .sh (.bool (bs.any id))
  | _ => none
theorem boolsD_sh {K : PySem.W.Frag} {R : Hp} : ∀ {xs : List V} {ds : List PD} {bs : List Bool}, ShA K R xs ds → boolsD ds = some bs → xs = bs.map V.bl
  | _, _, _, .nil, h => by cases h; rfl
  | _, _, bs, .cons (d := d) (ds := ds) hv t, h => by
    match d, hv, h with
    | .bool b, hv, h =>
      have h : (boolsD ds).map (b :: ·) = some bs := h
      obtain ⟨bs', e, rfl⟩ := Option.map_eq_some_iff.mp h
      cases hv
      rw [boolsD_sh t e]
      rfl
    | .none, _, h => cases h
    | .int _, _, h => cases h
    | .str _, _, h => cases h
    | .list _, _, h => cases h
    | .tuple _, _, h => cases h
    | .dict _, _, h => cases h
theorem boolsD_map : ∀ bs : List Bool, boolsD (bs.map PyData.bool) = some bs
  | [] => rfl
  | b :: bs => by
    show (boolsD (bs.map PyData.bool)).map (b :: ·) = _
    rw [boolsD_map bs]; rfl
@[simp] theorem gAll_bools (bs : List Bool) : gAll (.list (bs.map PyData.bool)) = some (.sh (.bool (bs.all id))) := by
  show (boolsD (bs.map PyData.bool)).map _ = _
  rw [boolsD_map]; rfl
@[simp] theorem gAny_bools (bs : List Bool) : gAny (.list (bs.map PyData.bool)) = some (.sh (.bool (bs.any id))) := by
  show (boolsD (bs.map PyData.bool)).map _ = _
  rw [boolsD_map]; rfl
section
variable {X : Cx}
theorem k_all {w : World} : Ok1 X.K w (fun x => rAll X.K [x]) gAll := fun R H x d s hx hd hg Q q => by
  unfold gAll at hg
  split at hg
  · rename_i ds
    obtain ⟨bs, e, rfl⟩ := Option.map_eq_some_iff.mp hg
    obtain ⟨p, xs, rfl, h1, s1⟩ := hd.list hx
    rw [boolsD_sh s1 e] at h1
    exact ⟨p, bs, rfl, h1, q _ _ ⟨.bl _, rfl⟩⟩
  · cases hg
theorem k_any {w : World} : Ok1 X.K w (fun x => rAny X.K [x]) gAny := fun R H x d s hx hd hg Q q => by
  unfold gAny at hg
  split at hg
  · rename_i ds
    obtain ⟨bs, e, rfl⟩ := Option.map_eq_some_iff.mp hg
    obtain ⟨p, xs, rfl, h1, s1⟩ := hd.list hx
    rw [boolsD_sh s1 e] at h1
    exact ⟨p, bs, rfl, h1, q _ _ ⟨.bl _, rfl⟩⟩
  · cases hg
def rDictL (K : PySem.W.Frag) : List V → Hp → VK → Prop := fun xs H Q => ∃ (a : Addr) (ps : List Addr) (kvs : List (Key × V)), xs = [.ref a] ∧ SqL K H a (ps.map V.ref) ∧ Paired (fun p kv => SqT K H p [kV kv.1, kv.2]) ps kvs ∧
    ∀ p, H p = none → Q (.ref p) (upd H p (.dK (mergeK [] kvs)))
def rDictA (K : PySem.W.Frag) : List V → Hp → VK → Prop := fun xs H Q => rDictL K xs H Q ∨ rDictT K xs H Q
theorem call_dictA (hc : X.calm = true) : CallR X (.type "dict") (rDictA X.K) := fun pins s σ H xs us Q I r h => h.elim (call_dictP hc pins s σ H xs us Q I r) (call_dictT hc pins s σ H xs us Q I r)
def gDictA : PD → Option AV
  | .list ds => (pairsK ds).map fun kvs => .own (.dic (mergeP [] kvs))
  | .tuple ds => (pairsK ds).map fun kvs => .own (.dic (mergeP [] kvs))
  | _ => none
theorem k_dictA {w : World} : Ok1 X.K w (fun x => rDictA X.K [x]) gDictA := fun R H x d s hx hd hg Q q => by
  unfold gDictA at hg
  split at hg
  · rename_i ds
    obtain ⟨kvs, z, rfl⟩ := Option.map_eq_some_iff.mp hg
    obtain ⟨a, xs, rfl, h1, s1⟩ := hd.list hx
    obtain ⟨ps, ws, rfl, h2, h3⟩ := pairsK_sh hx s1 z
    exact .inl ⟨a, ps, ws, rfl, h1, h2, fun p hp => q _ _ ⟨p, _, rfl, hp, rfl, _, upd_same, mergeP_k h3 .nil⟩⟩
  · rename_i ds
    exact .inr (k_dictT R H x _ s hx hd hg Q q)
  · cases hg
@[simp] theorem gDict_t (ds : List PD) : gDictA (.tuple ds) = (pairsK ds).map fun kvs => .own (.dic (mergeP [] kvs)) := (rfl)
@[simp] theorem gDict_l (ds : List PD) : gDictA (.list ds) = (pairsK ds).map fun kvs => .own (.dic (mergeP [] kvs)) := (rfl)
end

/-! ### d.get(k) -/
def get1 (fa fb : Ev) : Ev := fun Γ => (fa Γ).bind fun a Γ1 => match peek Γ1 a with
  | some (.dict _) => (fb Γ1).bind fun b Γ2 => match peek Γ2 a, peek Γ2 b with
    | some (.dict kvs), some k => match keyD k with
      | some _ => .ok (.sh ((lookD kvs k).getD .none)) Γ2
      | none => .bad
    | _, _ => .bad
  | _ => .bad
section
variable {X : Cx} {Wx : WX} {e o : Expr} {fa fb : Ev} {apos cpos : Pos}
theorem v_get1 (hu : X.A.units + 1 < cLine) (ha : Vx X Wx o fa) (hb : Vx X Wx e fb) (m : M1 X o "get" apos e cpos := by exact ⟨rfl, rfl, rfl, rfl⟩) : Vx X Wx (.Call (.Attribute o "get" apos) [e] [] cpos) (get1 fa fb) := fun F =>
  (pe_dget1 hu (ha F) (hb F) m).mono fun σ H Q ⟨Γ, R, A, h⟩ => by
    refine ⟨Γ, R, A, h.split.mono fun a Γ1 R1 H1 A1 S1 h1 v hv => ?_⟩
    cases ea : peek Γ1 a with
    | none => simp only [ea] at h1; exact h1.elim
    | some d =>
      cases d with
      | dict ds =>
        simp only [ea] at h1
        obtain ⟨p, ws, kvs, rfl, hr, _, _⟩ := (peek_bo A1 hv ea).dict A1.rh
        refine ⟨p, rfl, .inl ⟨ws, hr⟩, Γ1, R1, A1, (h1.split.shift S1).mono fun b Γ2 R2 H2 A2 S2 h2 y hy => ?_⟩
        cases e2 : peek Γ2 a with
        | none => simp only [e2] at h2; exact h2.elim
        | some d2 =>
          cases d2 with
          | dict ds2 =>
            cases eb : peek Γ2 b with
            | none => simp only [e2, eb] at h2; exact h2.elim
            | some k =>
              simp only [e2, eb] at h2
              cases ek : keyD k with
              | none => simp only [ek] at h2; exact h2.elim
              | some key =>
                simp only [ek] at h2
                obtain ⟨rfl, rfl⟩ := bo_key (peek_bo A2 hy eb) ek
                obtain ⟨p2, ws2, kvs2, e3, hr2, sk, rfl⟩ := (peek_bo A2 (hv.keep S2) e2).dict A2.rh
                cases e3
                rcases lookD_k (k := key) sk with ⟨x, d', g1, g2, g3⟩ | ⟨g1, g2⟩
                · refine ⟨some x, ?_, ?_⟩
                  · rw [← g1]; exact DGet.rd hr2
                  · rw [g2] at h2
                    exact h2.at A2 (S1.trans S2) x g3
                · refine ⟨none, ?_, ?_⟩
                  · rw [← g1]; exact DGet.rd hr2
                  · rw [g2] at h2
                    exact h2.at A2 (S1.trans S2) .non .non
          | _ => simp only [e2] at h2; exact h2.elim
      | _ => simp only [ea] at h1; exact h1.elim
@[simp] theorem get1_ap {Γ : Sto} (fa fb : Ev) : get1 fa fb Γ = (fa Γ).bind fun a Γ1 => match peek Γ1 a with
  | some (.dict _) => (fb Γ1).bind fun b Γ2 => match peek Γ2 a, peek Γ2 b with
    | some (.dict kvs), some k => match keyD k with
      | some _ => .ok (.sh ((lookD kvs k).getD .none)) Γ2
      | none => .bad
    | _, _ => .bad
  | _ => .bad := (rfl)
end

/-! ### what is walked: a list, a tuple, a dict's keys -/
def itA (f : Ev) : Sto → Res (List PD) := fun Γ => (shr f Γ).bind fun d Γ1 => match d with
  | .list ds => .ok ds Γ1
  | .tuple ds => .ok ds Γ1
  | .dict kvs => .ok (kvs.map (·.1)) Γ1
  | _ => .bad
theorem PI_or3 {X : Cx} {tg e : Expr} {t1 t2 t3 : TI} (h1 : PI X tg e t1) (h2 : PI X tg e t2) (h3 : PI X tg e t3) : PI X tg e (fun σ H R => t1 σ H R ∨ t2 σ H R ∨ t3 σ H R) :=
  ⟨fun pins s σ H R I h => h.elim (h1.run pins s σ H R I) fun h => h.elim (h2.run pins s σ H R I) (h3.run pins s σ H R I)⟩
section
variable {X : Cx} {Wx : WX} {e tg : Expr} {fa : Ev}
theorem i_any (h : Vx X Wx e fa) : Ix false X Wx tg e (itA fa) := fun F => (PI_or3 (pi_list (d_of h F)) (pi_tup (d_of h F)) (pi_keys (d_of h F))).mono fun σ H Q ⟨Γ, R, A, h⟩ => by
  have h : Post X.K X.w F Wx σ Γ R H _ ((shr fa Γ).bind _) := h
  cases es : shr fa Γ with
  | bad => rw [es] at h; exact h.elim
  | exc x Γ1 => rw [es] at h; exact .inl ⟨Γ, R, A, by rw [es]; exact h⟩
  | ok d Γ1 =>
    rw [es] at h
    cases d with
    | list ds =>
      refine .inl ⟨Γ, R, A, ?_⟩
      rw [es]
      intro R1 H1 A1 S1 v hv
      cases hv with
      | lst hq hs => exact ⟨_, rfl, ⟨_, Evl.ex_l A1.rh hq⟩, h R1 H1 A1 S1 _ (it_list hq hs)⟩
    | tuple ds =>
      refine .inr (.inl ⟨Γ, R, A, ?_⟩)
      rw [es]
      intro R1 H1 A1 S1 v hv
      cases hv with
      | tup hq hs => exact ⟨_, rfl, ⟨_, Evl.ex_t A1.rh hq.sq⟩, h R1 H1 A1 S1 _ (it_tup hq.sq hs)⟩
    | dict ds =>
      refine .inr (.inr ⟨Γ, R, A, ?_⟩)
      rw [es]
      intro R1 H1 A1 S1 v hv
      cases hv with
      | dic hq hs => exact ⟨_, _, rfl, .inl ⟨_, A1.rh _ _ hq, h R1 H1 A1 S1 _ (it_keys hq hs)⟩⟩
    | _ => exact h.elim
@[simp] theorem itA_ap {Γ : Sto} (f : Ev) : itA f Γ = (shr f Γ).bind fun d Γ1 => match d with
  | .list ds => .ok ds Γ1
  | .tuple ds => .ok ds Γ1
  | .dict kvs => .ok (kvs.map (·.1)) Γ1
  | _ => .bad := (rfl)
end
/-! ### xs[::-1] -/
def gRev : PD → Option AV
  | .list ds => some (.own (.lst ds.reverse))
  | _ => none
@[simp] theorem gRev_l (ds : List PD) : gRev (.list ds) = some (.own (.lst ds.reverse)) := (rfl)
theorem k_rev {K : PySem.W.Frag} {w : World} : Ok1 K w (fun x H Q => ∃ a xs, x = .ref a ∧ SqL K H a xs ∧ ∀ p, H p = none → Q (.ref p) (upd H p (.lst xs.reverse))) gRev := fun R H x d s hx hd hg Q q => by
  unfold gRev at hg
  split at hg
  · rename_i ds
    cases hg
    obtain ⟨p, xs, rfl, h1, s1⟩ := hd.list hx
    exact ⟨p, xs, rfl, h1, fun l hl => q _ _ ⟨l, _, rfl, hl, rfl, _, upd_same, s1.reverse⟩⟩
  · cases hg
theorem v_rev {X : Cx} {Wx : WX} {e : Expr} {fa : Ev} {k : Nat} {p1 p2 p3 pos : Pos} (h : Vx X Wx e fa) : Vx X Wx (.Subscript e (.Slice none none (some (.UnaryOp .USub (.Constant (.int 1) k p1) p2)) p3) pos) (op1 fa gRev) :=
  fun F => (pe_revL (h F)).mono fun _ _ _ h => top1 k_rev h
end G

namespace G
open PySem L2

/-! ### the denotations at a store: equations for simp -/
section
variable {α β : Type} {Γ Γ1 : Sto} {f g fa fb fc : Ev} {c tc tb ta : Sto → Res Bool} {s s1 s2 : Sd} {i j : Nat}
@[simp] theorem bind_ok (a : α) (k : α → Sto → Res β) : (Res.ok a Γ).bind k = k a Γ := (rfl)
@[simp] theorem st_ok (a : α) (k : α → Sto → RS) : (Res.ok a Γ).st k = k a Γ := (rfl)
@[simp] theorem oret_some (a : α) : oret Γ (some a) = .ok a Γ := (rfl)
@[simp] theorem nox_ok (a : α) : nox (Res.ok a Γ) = .ok a Γ := (rfl)
@[simp] theorem peek_sh (d : PD) : peek Γ (.sh d) = some d := (rfl)
@[simp] theorem peek_own (o : Ob) : peek Γ (.own o) = o.pd := (rfl)
@[simp] theorem peek_var : peek Γ (.var i) = (Γ[i]?).bind Sl.pd := (rfl)
@[simp] theorem slpd_sh (d : PD) : (Sl.sh d).pd = some d := (rfl)
@[simp] theorem slpd_own (t : Option Nat) (o : Ob) : (Sl.own t o).pd = o.pd := (rfl)
@[simp] theorem obpd_lst (ds : List PD) : (Ob.lst ds).pd = some (.list ds) := (rfl)
@[simp] theorem obpd_tup (ds : List PD) : (Ob.tup ds).pd = some (.tuple ds) := (rfl)
@[simp] theorem obpd_dic (kvs : List (Key × PD)) : (Ob.dic kvs).pd = some (.dict (kvs.map fun p => (kD p.1, p.2))) := (rfl)
@[simp] theorem op1_ap (h : PD → Option AV) : op1 fa h Γ = (fa Γ).bind fun a Γ1 => oret Γ1 ((peek Γ1 a).bind h) := (rfl)
@[simp] theorem op2_ap (h : PD → PD → Option AV) : op2 fa fb h Γ = (fa Γ).bind fun a Γ1 => (fb Γ1).bind fun b Γ2 => oret Γ2 ((peek Γ2 a).bind fun d => (peek Γ2 b).bind fun e => h d e) := (rfl)
@[simp] theorem rdv_ap : rdv i Γ = match Γ[i]? with
  | some (.sh d) => .ok (.sh d) Γ
  | some (.own _ _) => .ok (.var i) Γ
  | _ => .bad := (rfl)
@[simp] theorem cst_ap (d : PD) : cst d Γ = .ok (.sh d) Γ := (rfl)
@[simp] theorem frz_sh (d : PD) : frz Γ (.sh d) = some (d, Γ) := (rfl)
@[simp] theorem frz_own (o : Ob) : frz Γ (.own o) = o.pd.map fun d => (d, Γ) := (rfl)
@[simp] theorem frz_var : frz Γ (.var i) = match Γ[i]? with
    | some (.sh d) => some (d, Γ)
    | some (.own none o) => o.pd.map fun d => (d, Γ.set i (.sh d))
    | _ => none := (rfl)
@[simp] theorem shr_ap : shr f Γ = (f Γ).bind fun a Γ1 => match frz Γ1 a with
  | none => .bad
  | some (d, Γ2) => .ok d Γ2 := (rfl)
@[simp] theorem args0_ap : args0 Γ = .ok [] Γ := (rfl)
@[simp] theorem argS_ap (h : Sto → Res (List AV)) : argS f h Γ = (shr f Γ).bind fun d Γ1 => (h Γ1).bind fun as Γ2 => .ok (.sh d :: as) Γ2 := (rfl)
@[simp] theorem argO_ap (h : Sto → Res (List AV)) : argO i h Γ = match Γ[i]? with
  | some (.own _ _) => (h Γ).bind fun as Γ2 => .ok (.var i :: as) Γ2
  | _ => .bad := (rfl)
@[simp] theorem avD_nil : avD [] = some [] := (rfl)
@[simp] theorem avD_cons (d : PD) (r : List AV) : avD (.sh d :: r) = (avD r).map (d :: ·) := (rfl)
@[simp] theorem dspL_ap (h : Sto → Res (List AV)) : dspL h Γ = (h Γ).bind fun as Γ1 => oret Γ1 ((avD as).bind fun ds => if ds.length ≤ lim then some (.own (.lst ds)) else none) := (rfl)
@[simp] theorem dspT_ap (h : Sto → Res (List AV)) : dspT h Γ = (h Γ).bind fun as Γ1 => oret Γ1 ((avD as).bind fun ds => if ds.length ≤ lim then some (.own (.tup ds)) else none) := (rfl)
@[simp] theorem dic0_ap : dic0 Γ = .ok (.own (.dic [])) Γ := (rfl)
@[simp] theorem set0_ap : set0 Γ = .ok (.own (.set [])) Γ := (rfl)
@[simp] theorem tst_ap : tst f Γ = (f Γ).bind fun a Γ1 => match a with
  | .sh (.bool b) => .ok b Γ1
  | _ => .bad := (rfl)
@[simp] theorem tru_ap : tru f Γ = (f Γ).bind fun a Γ1 => oret Γ1 ((peek Γ1 a).bind truD) := (rfl)
@[simp] theorem bAnd_ap : bAnd ta tb Γ = (ta Γ).bind fun b Γ1 => if b then tb Γ1 else .ok false Γ1 := (rfl)
@[simp] theorem bOr_ap : bOr ta tb Γ = (ta Γ).bind fun b Γ1 => if b then .ok true Γ1 else tb Γ1 := (rfl)
@[simp] theorem bNot_ap : bNot ta Γ = (ta Γ).bind fun b Γ1 => .ok (!b) Γ1 := (rfl)
@[simp] theorem vAnd_ap : vAnd f g Γ = (f Γ).bind fun a Γ1 => match a with
  | .sh (.bool true) => g Γ1
  | .sh (.bool false) => .ok (.sh (.bool false)) Γ1
  | _ => .bad := (rfl)
@[simp] theorem vOr_ap : vOr f g Γ = (f Γ).bind fun a Γ1 => match a with
  | .sh (.bool true) => .ok (.sh (.bool true)) Γ1
  | .sh (.bool false) => g Γ1
  | _ => .bad := (rfl)
@[simp] theorem vNot_ap : vNot f Γ = (f Γ).bind fun a Γ1 => match a with
  | .sh (.bool b) => .ok (.sh (.bool (!b))) Γ1
  | _ => .bad := (rfl)
@[simp] theorem vIf_ap : vIf tc f g Γ = (tc Γ).bind fun b Γ1 => if b then f Γ1 else g Γ1 := (rfl)
@[simp] theorem chn_ap (h h' : PD → PD → Option Bool) : chn fa fb fc h h' Γ = (fa Γ).bind fun a Γ1 => (fb Γ1).bind fun b Γ2 =>
  match (peek Γ2 a).bind fun d => (peek Γ2 b).bind fun e => h d e with
  | none => .bad
  | some false => .ok (.sh (.bool false)) Γ2
  | some true => (fc Γ2).bind fun c Γ3 => oret Γ3 ((peek Γ3 b).bind fun d => (peek Γ3 c).bind fun e => (h' d e).map fun k => .sh (.bool k)) := (rfl)
@[simp] theorem sk_ap : sk Γ = .nx Γ := (rfl)
@[simp] theorem never_ap : never Γ = .bad := (rfl)
@[simp] theorem sq_ap : sq s1 s2 Γ = match s1 Γ with
  | .nx Γ1 => s2 Γ1
  | r => r := (rfl)
@[simp] theorem drp_ap : drp f Γ = (f Γ).st fun _ Γ1 => .nx Γ1 := (rfl)
@[simp] theorem ret_ap : ret f Γ = (f Γ).st fun a Γ1 => .rt a Γ1 := (rfl)
@[simp] theorem retN_ap : retN Γ = .rt (.sh .none) Γ := (rfl)
@[simp] theorem iff_ap : iff tc s1 s2 Γ = (tc Γ).st fun b Γ1 => if b then s1 Γ1 else s2 Γ1 := (rfl)
@[simp] theorem asgAV_sh (d : PD) : asgAV i (.sh d) Γ = some (Γ.set i (.sh d)) := (rfl)
@[simp] theorem asgAV_tup (ds : List PD) : asgAV i (.own (.tup ds)) Γ = some (Γ.set i (.sh (.tuple ds))) := (rfl)
@[simp] theorem asgAV_lst (ds : List PD) : asgAV i (.own (.lst ds)) Γ = some (Γ.set i (.own none (.lst ds))) := (rfl)
@[simp] theorem asgAV_dic (ds : List (Key × PD)) : asgAV i (.own (.dic ds)) Γ = some (Γ.set i (.own none (.dic ds))) := (rfl)
@[simp] theorem asgAV_set (ds : List Int) : asgAV i (.own (.set ds)) Γ = some (Γ.set i (.own none (.set ds))) := (rfl)
@[simp] theorem asgAV_var : asgAV i (.var j) Γ = if dicA Γ (.var j) then none else (frz Γ (.var j)).map fun q => q.2.set i (.sh q.1) := (rfl)
@[simp] theorem dicA_var : dicA Γ (.var j) = match Γ[j]? with
    | some (.own _ o) => o.isDic
    | _ => false := (rfl)
@[simp] theorem isDic_lst (ds : List PD) : (Ob.lst ds).isDic = false := (rfl)
@[simp] theorem isDic_tup (ds : List PD) : (Ob.tup ds).isDic = false := (rfl)
@[simp] theorem isDic_set (xs : List Int) : (Ob.set xs).isDic = false := (rfl)
@[simp] theorem isDic_dic (ds : List (Key × PD)) : (Ob.dic ds).isDic = true := (rfl)
@[simp] theorem onx_some : onx (some Γ) = .nx Γ := (rfl)
@[simp] theorem asg_ap : asg i f Γ = (f Γ).st fun a Γ1 => onx (asgAV i a Γ1) := (rfl)
@[simp] theorem aug_ap (h : PD → PD → Option AV) : aug i f h Γ = match Γ[i]? with
  | some (.sh d) => (f Γ).st fun a Γ1 => match (peek Γ1 a).bind fun e => h d e with
    | some (.sh r) => .nx (Γ1.set i (.sh r))
    | _ => .bad
  | _ => .bad := (rfl)
@[simp] theorem for_ap (fi : Sto → Res (List PD)) (t : PD → Sto → Option Sto) : for_ fi t s Γ = (fi Γ).st fun ds Γ1 => forD t s ds Γ1 := (rfl)
@[simp] theorem itL_ap : itL f Γ = (shr f Γ).bind fun d Γ1 => match d with
  | .list ds => .ok ds Γ1
  | _ => .bad := (rfl)
@[simp] theorem itT_ap : itT f Γ = (shr f Γ).bind fun d Γ1 => match d with
  | .tuple ds => .ok ds Γ1
  | _ => .bad := (rfl)
@[simp] theorem itE_ap : itE f Γ = (shr f Γ).bind fun d Γ1 => match d with
  | .list ds => .ok (enumD ds) Γ1
  | _ => .bad := (rfl)
@[simp] theorem itR1_ap : itR1 f Γ = (f Γ).bind fun a Γ1 => match peek Γ1 a with
  | some (.int j) => if big j then .ok (rangeD 0 j.toNat) Γ1 else .bad
  | _ => .bad := (rfl)
@[simp] theorem itR2_ap : itR2 f g Γ = (f Γ).bind fun a Γ1 => (g Γ1).bind fun b Γ2 => match peek Γ2 a, peek Γ2 b with
  | some (.int i), some (.int j) => if big i && big j then .ok (rangeD i (j - i).toNat) Γ2 else .bad
  | _, _ => .bad := (rfl)
@[simp] theorem itZ_ap : itZ f g Γ = (shr f Γ).bind fun d Γ1 => (shr g Γ1).bind fun e Γ2 => match d, e with
  | .list ds, .list es => .ok (zipD ds es) Γ2
  | _, _ => .bad := (rfl)
@[simp] theorem tNm_ap (d : PD) : tNm i d Γ = some (Γ.set i (.sh d)) := (rfl)
@[simp] theorem tTup_ap (js : List Nat) (ds : List PD) : tTup js (.tuple ds) Γ = tTp js ds Γ := (rfl)
@[simp] theorem tTupL_ap (js : List Nat) (ds : List PD) : tTup js (.list ds) Γ = tTp js ds Γ := (rfl)
@[simp] theorem tTp_nil : tTp [] [] Γ = some Γ := (rfl)
@[simp] theorem tTp_cons (js : List Nat) (d : PD) (ds : List PD) : tTp (j :: js) (d :: ds) Γ = tTp js ds (Γ.set j (.sh d)) := (rfl)
@[simp] theorem mut1_ap (h : Ob → PD → Option (PD × Ob)) : mut1 i f h Γ = match Γ[i]? with
  | some (.own _ (.lst _)) => (shr f Γ).bind fun d Γ1 => match Γ1[i]? with
    | some (.own t o) => match h o d with
      | some (r, o') => .ok (.sh r) (Γ1.set i (.own t o'))
      | none => .bad
    | _ => .bad
  | _ => .bad := (rfl)
@[simp] theorem mut0_ap (h : Ob → Option (PD × Ob)) : mut0 i h Γ = match Γ[i]? with
  | some (.own t (.lst ds)) => match h (.lst ds) with
    | some (r, o') => .ok (.sh r) (Γ.set i (.own t o'))
    | none => .bad
  | _ => .bad := (rfl)
@[simp] theorem stI_ap : stI i f g Γ = (shr g Γ).st fun d Γ1 => match Γ1[i]? with
  | some (.own _ _) => (f Γ1).st fun a Γ2 => match peek Γ2 a, Γ2[i]? with
    | some k, some (.own t o) => match gSet o k d with
      | some o' => .nx (Γ2.set i (.own t o'))
      | none => .bad
    | _, _ => .bad
  | _ => .bad := (rfl)
@[simp] theorem sAdd_ap : sAdd i f Γ = match Γ[i]? with
  | some (.own _ (.set _)) => (shr f Γ).bind fun d Γ1 => match d, Γ1[i]? with
    | .int k, some (.own t (.set xs)) => if xs.length + 1 < 4000 then .ok (.sh .none) (Γ1.set i (.own t (.set (if decide (k ∈ xs) then xs else xs ++ [k])))) else .bad
    | _, _ => .bad
  | _ => .bad := (rfl)
@[simp] theorem inS_ap (neg : Bool) : inS neg f i Γ = (f Γ).bind fun a Γ1 => match peek Γ1 a, Γ1[i]? with
  | some (.int k), some (.own _ (.set xs)) => .ok (.sh (.bool (if neg then !decide (k ∈ xs) else decide (k ∈ xs)))) Γ1
  | _, _ => .bad := (rfl)
@[simp] theorem prt_none : prt none Γ = .ok none Γ := (rfl)
@[simp] theorem prt_some : prt (some f) Γ = (f Γ).bind fun a Γ1 => match peek Γ1 a with
    | some (.int i) => .ok (some i) Γ1
    | _ => .bad := (rfl)
@[simp] theorem slc_ap (lo hi : Option Ev) : slc f lo hi Γ = (f Γ).bind fun a Γ1 => (prt lo Γ1).bind fun l Γ2 => (prt hi Γ2).bind fun h Γ3 => match peek Γ3 a with
  | some (.list ds) => .ok (.own (.lst (cutD ds l h))) Γ3
  | _ => .bad := (rfl)
@[simp] theorem yes_ap : yes Γ = .ok true Γ := (rfl)
@[simp] theorem mkArgs_nil (k : Nat) : mkArgs Γ k [] = some [] := (rfl)
@[simp] theorem mkArgs_sh (k : Nat) (d : PD) (r : List AV) : mkArgs Γ k (.sh d :: r) = (mkArgs Γ (k + 1) r).map (.sh d :: ·) := (rfl)
@[simp] theorem mkArgs_var (k : Nat) (r : List AV) : mkArgs Γ k (.var i :: r) = match Γ[i]? with
    | some (.own _ o) => (mkArgs Γ (k + 1) r).map (.own (some k) o :: ·)
    | _ => none := (rfl)
@[simp] theorem ndV_nil (l : List Nat) : ndV [] l = true := (rfl)
@[simp] theorem ndV_sh (d : PD) (r : List AV) (l : List Nat) : ndV (.sh d :: r) l = ndV r l := (rfl)
@[simp] theorem ndV_var (r : List AV) (l : List Nat) : ndV (.var i :: r) l = (!l.contains i && ndV r (i :: l)) := (rfl)
@[simp] theorem putO_nil (os : List (Option Ob)) : putO [] os Γ = Γ := by cases os <;> rfl
@[simp] theorem putO_sh (d : PD) (as : List AV) (x : Option Ob) (os : List (Option Ob)) : putO (.sh d :: as) (x :: os) Γ = putO as os Γ := by cases x <;> rfl
@[simp] theorem putO_var (as : List AV) (o : Ob) (os : List (Option Ob)) : putO (.var i :: as) (some o :: os) Γ = putO as os (setOb Γ i o) := (rfl)
@[simp] theorem setOb_ap (o : Ob) : setOb Γ i o = match Γ[i]? with
  | some (.own t _) => Γ.set i (.own t o)
  | _ => Γ := (rfl)
@[simp] theorem callD_ap (F : List Sl → Out) (h : Sto → Res (List AV)) : callD F h Γ = (h Γ).bind fun as Γ1 => if ndV as [] then (match mkArgs Γ1 0 as with
  | none => .bad
  | some args => match F args with
    | .ok a outs => .ok a (putO as outs Γ1)
    | _ => .bad) else .bad := (rfl)
@[simp] theorem retA_sh (d : PD) : retA Γ (.sh d) = some (.sh d) := (rfl)
@[simp] theorem retA_tup (ds : List PD) : retA Γ (.own (.tup ds)) = some (.sh (.tuple ds)) := (rfl)
@[simp] theorem retA_lst (ds : List PD) : retA Γ (.own (.lst ds)) = some (.own (.lst ds)) := (rfl)
@[simp] theorem retA_dic (ds : List (Key × PD)) : retA Γ (.own (.dic ds)) = some (.own (.dic ds)) := (rfl)
@[simp] theorem retA_set (ds : List Int) : retA Γ (.own (.set ds)) = some (.own (.set ds)) := (rfl)
@[simp] theorem retA_var : retA Γ (.var i) = match Γ[i]? with
    | some (.sh d) => some (.sh d)
    | some (.own none o) => some (.own o)
    | _ => none := (rfl)
@[simp] theorem outsOf_nil (k : Nat) : outsOf Γ k [] = some [] := (rfl)
@[simp] theorem outsOf_sh (k : Nat) (d : PD) (r : List Sl) : outsOf Γ k (.sh d :: r) = (outsOf Γ (k + 1) r).map (none :: ·) := (rfl)
@[simp] theorem outsOf_own (k : Nat) (t : Option Nat) (o : Ob) (r : List Sl) : outsOf Γ k (.own t o :: r) = match Γ[k]? with
    | some (.own (some j) o) => if j = k then (outsOf Γ (k + 1) r).map (some o :: ·) else none
    | _ => none := (rfl)
@[simp] theorem endF_ap (args : List Sl) (a : AV) : endF args a Γ = match retA Γ a, outsOf Γ 0 args with
  | some b, some outs => .ok b outs
  | _, _ => .bad := (rfl)
@[simp] theorem fD_ap (n : Nat) (args : List Sl) : fD n s args = match s (args ++ List.replicate (n - args.length) .no) with
  | .nx Γ => endF args (.sh .none) Γ
  | .rt a Γ => endF args a Γ
  | .exc e Γ => match outsOf Γ 0 args with
    | some outs => .exc e outs
    | none => .bad
  | _ => .bad := (rfl)
@[simp] theorem gB_ap (h : PD → PD → Option Bool) (d e : PD) : gB h d e = (h d e).map fun k => .sh (.bool k) := (rfl)
end

/-! ### operations -/
@[simp] theorem gAdd_i (i j : Int) : gAdd (.int i) (.int j) = some (.sh (.int (i + j))) := (rfl)
@[simp] theorem gAdd_l (a b : List PD) : gAdd (.list a) (.list b) = if a.length + b.length ≤ lim then some (.own (.lst (a ++ b))) else none := (rfl)
@[simp] theorem gSub_i (i j : Int) : gSub (.int i) (.int j) = some (.sh (.int (i - j))) := (rfl)
@[simp] theorem gMul_i (i j : Int) : gMul (.int i) (.int j) = if okMul i j then some (.sh (.int (i * j))) else none := (rfl)
@[simp] theorem gMul_l (ds : List PD) (j : Int) : gMul (.list ds) (.int j) = if big j && decide (ds.length * j.toNat ≤ lim) then some (.own (.lst (List.replicate j.toNat ds).flatten)) else none := (rfl)
@[simp] theorem gDiv_i (i j : Int) : gDiv (.int i) (.int j) = if okDiv j then some (.sh (.int (i / j))) else none := (rfl)
@[simp] theorem gMod_i (i j : Int) : gMod (.int i) (.int j) = if decide (0 < j) then some (.sh (.int (i % j))) else none := (rfl)
@[simp] theorem gPow_i (i j : Int) : gPow (.int i) (.int j) = if decide (0 ≤ j) && decide (j ≤ 1000000) && decide (i.natAbs < 2 ^ 64) then some (.sh (.int (i ^ j.toNat))) else none := (rfl)
@[simp] theorem gNeg_i (i : Int) : gNeg (.int i) = some (.sh (.int (-i))) := (rfl)
@[simp] theorem gLt_i (i j : Int) : gLt (.int i) (.int j) = some (decide (i < j)) := (rfl)
@[simp] theorem gLe_i (i j : Int) : gLe (.int i) (.int j) = some (decide (i ≤ j)) := (rfl)
@[simp] theorem gGt_i (i j : Int) : gGt (.int i) (.int j) = some (decide (j < i)) := (rfl)
@[simp] theorem gGe_i (i j : Int) : gGe (.int i) (.int j) = some (decide (j ≤ i)) := (rfl)
@[simp] theorem gIs_ap (d : PD) : gIs d .none = some (isN d) := (rfl)
@[simp] theorem gIsNot_ap (d : PD) : gIsNot d .none = some (!isN d) := (rfl)
@[simp] theorem gIs_b (d : PD) (b : Bool) : gIs d (.bool b) = some (isB b d) := (rfl)
@[simp] theorem gIsNot_b (d : PD) (b : Bool) : gIsNot d (.bool b) = some (!isB b d) := (rfl)
@[simp] theorem isB_b (a b : Bool) : isB b (.bool a) = decide (a = b) := (rfl)
@[simp] theorem isB_i (i : Int) (b : Bool) : isB b (.int i) = false := (rfl)
@[simp] theorem isB_n (b : Bool) : isB b .none = false := (rfl)
@[simp] theorem isB_l (ds : List PD) (b : Bool) : isB b (.list ds) = false := (rfl)
@[simp] theorem isB_t (ds : List PD) (b : Bool) : isB b (.tuple ds) = false := (rfl)
@[simp] theorem isN_none : isN .none = true := (rfl)
@[simp] theorem isN_int (i : Int) : isN (.int i) = false := (rfl)
@[simp] theorem isN_tup (ds : List PD) : isN (.tuple ds) = false := (rfl)
@[simp] theorem isN_lst (ds : List PD) : isN (.list ds) = false := (rfl)
@[simp] theorem gLen_l (ds : List PD) : gLen (.list ds) = some (.sh (.int (ds.length : Int))) := (rfl)
@[simp] theorem gLen_d (kvs : List (PD × PD)) : gLen (.dict kvs) = some (.sh (.int (kvs.length : Int))) := (rfl)
@[simp] theorem gLen_t (ds : List PD) : gLen (.tuple ds) = some (.sh (.int (ds.length : Int))) := (rfl)
@[simp] theorem gAbs_i (i : Int) : gAbs (.int i) = some (.sh (.int (if i < 0 then -i else i))) := (rfl)
@[simp] theorem gInt_i (i : Int) : gInt (.int i) = some (.sh (.int i)) := (rfl)
@[simp] theorem gInt_b (b : Bool) : gInt (.bool b) = some (.sh (.int (if b then 1 else 0))) := (rfl)
@[simp] theorem gList_l (ds : List PD) : gList (.list ds) = some (.own (.lst ds)) := (rfl)
@[simp] theorem gList_t (ds : List PD) : gList (.tuple ds) = some (.own (.lst ds)) := (rfl)
@[simp] theorem gMax_i (i j : Int) : gMax (.int i) (.int j) = some (.sh (.int (if j > i then j else i))) := (rfl)
@[simp] theorem gMin_i (i j : Int) : gMin (.int i) (.int j) = some (.sh (.int (if j < i then j else i))) := (rfl)
@[simp] theorem gIx_l (ds : List PD) (i : Int) : gIx (.list ds) (.int i) = (atI ds i).map .sh := (rfl)
@[simp] theorem gIx_t (ds : List PD) (i : Int) : gIx (.tuple ds) (.int i) = (atI ds i).map .sh := (rfl)
@[simp] theorem gApp_l (ds : List PD) (d : PD) : gApp (.lst ds) d = if ds.length < lim then some (.none, .lst (ds ++ [d])) else none := (rfl)
@[simp] theorem gClear_l (ds : List PD) : gClear (.lst ds) = some (.none, .lst []) := (rfl)
@[simp] theorem gSet_l (ds : List PD) (k : Int) (d : PD) : gSet (.lst ds) (.int k) d = (ixN ds.length k).map fun j => .lst (ds.set j d) := (rfl)
@[simp] theorem truD_n : truD .none = some false := (rfl)
@[simp] theorem truD_b (b : Bool) : truD (.bool b) = some b := (rfl)
@[simp] theorem truD_i (i : Int) : truD (.int i) = some (i != 0) := (rfl)
@[simp] theorem truD_l (ds : List PD) : truD (.list ds) = some (!ds.isEmpty) := (rfl)
@[simp] theorem truD_t (ds : List PD) : truD (.tuple ds) = some (!ds.isEmpty) := (rfl)
theorem kit_none_int : kitB "NoneType" "int" = some false := by decide +kernel
@[simp] theorem gIsi_none_int : gIsi "int" (.none) = some (.sh (.bool false)) := by
  show (kitB "NoneType" "int").map _ = _
  rw [kit_none_int]
  rfl
theorem kit_bool_int : kitB "bool" "int" = some true := by decide +kernel
@[simp] theorem gIsi_bool_int (b : Bool) : gIsi "int" (.bool b) = some (.sh (.bool true)) := by
  show (kitB "bool" "int").map _ = _
  rw [kit_bool_int]
  rfl
theorem kit_int_int : kitB "int" "int" = some true := by decide +kernel
@[simp] theorem gIsi_int_int (i : Int) : gIsi "int" (.int i) = some (.sh (.bool true)) := by
  show (kitB "int" "int").map _ = _
  rw [kit_int_int]
  rfl
theorem kit_str_int : kitB "str" "int" = some false := by decide +kernel
@[simp] theorem gIsi_str_int (x : Str) : gIsi "int" (.str x) = some (.sh (.bool false)) := by
  show (kitB "str" "int").map _ = _
  rw [kit_str_int]
  rfl
theorem kit_list_int : kitB "list" "int" = some false := by decide +kernel
@[simp] theorem gIsi_list_int (ds : List PD) : gIsi "int" (.list ds) = some (.sh (.bool false)) := by
  show (kitB "list" "int").map _ = _
  rw [kit_list_int]
  rfl
theorem kit_tuple_int : kitB "tuple" "int" = some false := by decide +kernel
@[simp] theorem gIsi_tuple_int (ds : List PD) : gIsi "int" (.tuple ds) = some (.sh (.bool false)) := by
  show (kitB "tuple" "int").map _ = _
  rw [kit_tuple_int]
  rfl
theorem kit_dict_int : kitB "dict" "int" = some false := by decide +kernel
@[simp] theorem gIsi_dict_int (kv : List (PD × PD)) : gIsi "int" (.dict kv) = some (.sh (.bool false)) := by
  show (kitB "dict" "int").map _ = _
  rw [kit_dict_int]
  rfl
theorem kit_none_bool : kitB "NoneType" "bool" = some false := by decide +kernel
@[simp] theorem gIsi_none_bool : gIsi "bool" (.none) = some (.sh (.bool false)) := by
  show (kitB "NoneType" "bool").map _ = _
  rw [kit_none_bool]
  rfl
theorem kit_bool_bool : kitB "bool" "bool" = some true := by decide +kernel
@[simp] theorem gIsi_bool_bool (b : Bool) : gIsi "bool" (.bool b) = some (.sh (.bool true)) := by
  show (kitB "bool" "bool").map _ = _
  rw [kit_bool_bool]
  rfl
theorem kit_int_bool : kitB "int" "bool" = some false := by decide +kernel
@[simp] theorem gIsi_int_bool (i : Int) : gIsi "bool" (.int i) = some (.sh (.bool false)) := by
  show (kitB "int" "bool").map _ = _
  rw [kit_int_bool]
  rfl
theorem kit_str_bool : kitB "str" "bool" = some false := by decide +kernel
@[simp] theorem gIsi_str_bool (x : Str) : gIsi "bool" (.str x) = some (.sh (.bool false)) := by
  show (kitB "str" "bool").map _ = _
  rw [kit_str_bool]
  rfl
theorem kit_list_bool : kitB "list" "bool" = some false := by decide +kernel
@[simp] theorem gIsi_list_bool (ds : List PD) : gIsi "bool" (.list ds) = some (.sh (.bool false)) := by
  show (kitB "list" "bool").map _ = _
  rw [kit_list_bool]
  rfl
theorem kit_tuple_bool : kitB "tuple" "bool" = some false := by decide +kernel
@[simp] theorem gIsi_tuple_bool (ds : List PD) : gIsi "bool" (.tuple ds) = some (.sh (.bool false)) := by
  show (kitB "tuple" "bool").map _ = _
  rw [kit_tuple_bool]
  rfl
theorem kit_dict_bool : kitB "dict" "bool" = some false := by decide +kernel
@[simp] theorem gIsi_dict_bool (kv : List (PD × PD)) : gIsi "bool" (.dict kv) = some (.sh (.bool false)) := by
  show (kitB "dict" "bool").map _ = _
  rw [kit_dict_bool]
  rfl
theorem kit_none_list : kitB "NoneType" "list" = some false := by decide +kernel
@[simp] theorem gIsi_none_list : gIsi "list" (.none) = some (.sh (.bool false)) := by
  show (kitB "NoneType" "list").map _ = _
  rw [kit_none_list]
  rfl
theorem kit_bool_list : kitB "bool" "list" = some false := by decide +kernel
@[simp] theorem gIsi_bool_list (b : Bool) : gIsi "list" (.bool b) = some (.sh (.bool false)) := by
  show (kitB "bool" "list").map _ = _
  rw [kit_bool_list]
  rfl
theorem kit_int_list : kitB "int" "list" = some false := by decide +kernel
@[simp] theorem gIsi_int_list (i : Int) : gIsi "list" (.int i) = some (.sh (.bool false)) := by
  show (kitB "int" "list").map _ = _
  rw [kit_int_list]
  rfl
theorem kit_str_list : kitB "str" "list" = some false := by decide +kernel
@[simp] theorem gIsi_str_list (x : Str) : gIsi "list" (.str x) = some (.sh (.bool false)) := by
  show (kitB "str" "list").map _ = _
  rw [kit_str_list]
  rfl
theorem kit_list_list : kitB "list" "list" = some true := by decide +kernel
@[simp] theorem gIsi_list_list (ds : List PD) : gIsi "list" (.list ds) = some (.sh (.bool true)) := by
  show (kitB "list" "list").map _ = _
  rw [kit_list_list]
  rfl
theorem kit_tuple_list : kitB "tuple" "list" = some false := by decide +kernel
@[simp] theorem gIsi_tuple_list (ds : List PD) : gIsi "list" (.tuple ds) = some (.sh (.bool false)) := by
  show (kitB "tuple" "list").map _ = _
  rw [kit_tuple_list]
  rfl
theorem kit_dict_list : kitB "dict" "list" = some false := by decide +kernel
@[simp] theorem gIsi_dict_list (kv : List (PD × PD)) : gIsi "list" (.dict kv) = some (.sh (.bool false)) := by
  show (kitB "dict" "list").map _ = _
  rw [kit_dict_list]
  rfl
theorem kit_none_tuple : kitB "NoneType" "tuple" = some false := by decide +kernel
@[simp] theorem gIsi_none_tuple : gIsi "tuple" (.none) = some (.sh (.bool false)) := by
  show (kitB "NoneType" "tuple").map _ = _
  rw [kit_none_tuple]
  rfl
theorem kit_bool_tuple : kitB "bool" "tuple" = some false := by decide +kernel
@[simp] theorem gIsi_bool_tuple (b : Bool) : gIsi "tuple" (.bool b) = some (.sh (.bool false)) := by
  show (kitB "bool" "tuple").map _ = _
  rw [kit_bool_tuple]
  rfl
theorem kit_int_tuple : kitB "int" "tuple" = some false := by decide +kernel
@[simp] theorem gIsi_int_tuple (i : Int) : gIsi "tuple" (.int i) = some (.sh (.bool false)) := by
  show (kitB "int" "tuple").map _ = _
  rw [kit_int_tuple]
  rfl
theorem kit_str_tuple : kitB "str" "tuple" = some false := by decide +kernel
@[simp] theorem gIsi_str_tuple (x : Str) : gIsi "tuple" (.str x) = some (.sh (.bool false)) := by
  show (kitB "str" "tuple").map _ = _
  rw [kit_str_tuple]
  rfl
theorem kit_list_tuple : kitB "list" "tuple" = some false := by decide +kernel
@[simp] theorem gIsi_list_tuple (ds : List PD) : gIsi "tuple" (.list ds) = some (.sh (.bool false)) := by
  show (kitB "list" "tuple").map _ = _
  rw [kit_list_tuple]
  rfl
theorem kit_tuple_tuple : kitB "tuple" "tuple" = some true := by decide +kernel
@[simp] theorem gIsi_tuple_tuple (ds : List PD) : gIsi "tuple" (.tuple ds) = some (.sh (.bool true)) := by
  show (kitB "tuple" "tuple").map _ = _
  rw [kit_tuple_tuple]
  rfl
theorem kit_dict_tuple : kitB "dict" "tuple" = some false := by decide +kernel
@[simp] theorem gIsi_dict_tuple (kv : List (PD × PD)) : gIsi "tuple" (.dict kv) = some (.sh (.bool false)) := by
  show (kitB "dict" "tuple").map _ = _
  rw [kit_dict_tuple]
  rfl
theorem kit_none_str : kitB "NoneType" "str" = some false := by decide +kernel
@[simp] theorem gIsi_none_str : gIsi "str" (.none) = some (.sh (.bool false)) := by
  show (kitB "NoneType" "str").map _ = _
  rw [kit_none_str]
  rfl
theorem kit_bool_str : kitB "bool" "str" = some false := by decide +kernel
@[simp] theorem gIsi_bool_str (b : Bool) : gIsi "str" (.bool b) = some (.sh (.bool false)) := by
  show (kitB "bool" "str").map _ = _
  rw [kit_bool_str]
  rfl
theorem kit_int_str : kitB "int" "str" = some false := by decide +kernel
@[simp] theorem gIsi_int_str (i : Int) : gIsi "str" (.int i) = some (.sh (.bool false)) := by
  show (kitB "int" "str").map _ = _
  rw [kit_int_str]
  rfl
theorem kit_str_str : kitB "str" "str" = some true := by decide +kernel
@[simp] theorem gIsi_str_str (x : Str) : gIsi "str" (.str x) = some (.sh (.bool true)) := by
  show (kitB "str" "str").map _ = _
  rw [kit_str_str]
  rfl
theorem kit_list_str : kitB "list" "str" = some false := by decide +kernel
@[simp] theorem gIsi_list_str (ds : List PD) : gIsi "str" (.list ds) = some (.sh (.bool false)) := by
  show (kitB "list" "str").map _ = _
  rw [kit_list_str]
  rfl
theorem kit_tuple_str : kitB "tuple" "str" = some false := by decide +kernel
@[simp] theorem gIsi_tuple_str (ds : List PD) : gIsi "str" (.tuple ds) = some (.sh (.bool false)) := by
  show (kitB "tuple" "str").map _ = _
  rw [kit_tuple_str]
  rfl
theorem kit_dict_str : kitB "dict" "str" = some false := by decide +kernel
@[simp] theorem gIsi_dict_str (kv : List (PD × PD)) : gIsi "str" (.dict kv) = some (.sh (.bool false)) := by
  show (kitB "dict" "str").map _ = _
  rw [kit_dict_str]
  rfl
theorem kit_none_dict : kitB "NoneType" "dict" = some false := by decide +kernel
@[simp] theorem gIsi_none_dict : gIsi "dict" (.none) = some (.sh (.bool false)) := by
  show (kitB "NoneType" "dict").map _ = _
  rw [kit_none_dict]
  rfl
theorem kit_bool_dict : kitB "bool" "dict" = some false := by decide +kernel
@[simp] theorem gIsi_bool_dict (b : Bool) : gIsi "dict" (.bool b) = some (.sh (.bool false)) := by
  show (kitB "bool" "dict").map _ = _
  rw [kit_bool_dict]
  rfl
theorem kit_int_dict : kitB "int" "dict" = some false := by decide +kernel
@[simp] theorem gIsi_int_dict (i : Int) : gIsi "dict" (.int i) = some (.sh (.bool false)) := by
  show (kitB "int" "dict").map _ = _
  rw [kit_int_dict]
  rfl
theorem kit_str_dict : kitB "str" "dict" = some false := by decide +kernel
@[simp] theorem gIsi_str_dict (x : Str) : gIsi "dict" (.str x) = some (.sh (.bool false)) := by
  show (kitB "str" "dict").map _ = _
  rw [kit_str_dict]
  rfl
theorem kit_list_dict : kitB "list" "dict" = some false := by decide +kernel
@[simp] theorem gIsi_list_dict (ds : List PD) : gIsi "dict" (.list ds) = some (.sh (.bool false)) := by
  show (kitB "list" "dict").map _ = _
  rw [kit_list_dict]
  rfl
theorem kit_tuple_dict : kitB "tuple" "dict" = some false := by decide +kernel
@[simp] theorem gIsi_tuple_dict (ds : List PD) : gIsi "dict" (.tuple ds) = some (.sh (.bool false)) := by
  show (kitB "tuple" "dict").map _ = _
  rw [kit_tuple_dict]
  rfl
theorem kit_dict_dict : kitB "dict" "dict" = some true := by decide +kernel
@[simp] theorem gIsi_dict_dict (kv : List (PD × PD)) : gIsi "dict" (.dict kv) = some (.sh (.bool true)) := by
  show (kitB "dict" "dict").map _ = _
  rw [kit_dict_dict]
  rfl
theorem atI_n {α : Type} {xs : List α} {i : Int} {x : α} (h : 0 ≤ i) (e : xs[i.toNat]? = some x) : atI xs i = some x := by
  have hl := (List.getElem?_eq_some_iff.mp e).1
  unfold atI ixN
  rw [if_pos h, if_pos (by omega)]
  exact e

@[simp] theorem atI0 {α : Type} (x : α) (xs : List α) : atI (x :: xs) 0 = some x := atI_n (by decide) rfl
@[simp] theorem atI1 {α : Type} (x y : α) (xs : List α) : atI (x :: y :: xs) 1 = some y := atI_n (by decide) rfl
/-! ### equality of data -/
mutual
theorem eqv_refl : ∀ d : PD, d.canLay0 = true → PyData.eqv d d = true
  | .none, _ => rfl
  | .bool b, _ => by simp [PyData.eqv]
  | .int i, _ => by simp [PyData.eqv]
  | .str x, _ => by simp [PyData.eqv]
  | .list xs, h => by
    simp only [PyData.eqv]
    exact eqvAll_refl xs (by simpa [PyData.canLay0] using h)
  | .tuple xs, h => by
    simp only [PyData.eqv]
    exact eqvAll_refl xs (by simpa [PyData.canLay0] using h)
  | .dict _, h => by simp [PyData.canLay0] at h
theorem eqvAll_refl : ∀ ds : List PD, PyData.canLayAll0 ds = true → PyData.eqvAll ds ds = true
  | [], _ => rfl
  | d :: ds, h => by
    simp only [PyData.canLayAll0, Bool.and_eq_true] at h
    simp only [PyData.eqvAll, Bool.and_eq_true]
    exact ⟨eqv_refl d h.1, eqvAll_refl ds h.2⟩
end
@[simp] theorem eqv_ii (i j : Int) : PyData.eqv (.int i) (.int j) = decide (i = j) := by simp only [PyData.eqv]; rfl
@[simp] theorem eqv_nn : PyData.eqv .none .none = true := (rfl)
@[simp] theorem eqv_ni (j : Int) : PyData.eqv .none (.int j) = false := by simp only [PyData.eqv]
@[simp] theorem eqv_in (j : Int) : PyData.eqv (.int j) .none = false := by simp only [PyData.eqv]
theorem lay_ints : ∀ ns : List Int, PyData.canLayAll0 (ns.map PyData.int) = true
  | [] => rfl
  | n :: ns => by simp only [List.map_cons, PyData.canLayAll0, PyData.canLay0, Bool.true_and]; exact lay_ints ns
theorem depth_ints : ∀ ns : List Int, PyData.depthAll (ns.map PyData.int) = 0
  | [] => rfl
  | n :: ns => by simp only [List.map_cons, PyData.depthAll, PyData.depth, depth_ints ns]; rfl
@[simp] theorem shaped_int (i : Int) : SeqAt.shaped (.int i) = true := by
  simp [SeqAt.shaped, PyData.canLay0, PyData.depth]
@[simp] theorem shaped_none : SeqAt.shaped .none = true := by
  simp [SeqAt.shaped, PyData.canLay0, PyData.depth]
@[simp] theorem shaped_bool (b : Bool) : SeqAt.shaped (.bool b) = true := by
  simp [SeqAt.shaped, PyData.canLay0, PyData.depth]
@[simp] theorem shaped_ints (ns : List Int) : SeqAt.shaped (.list (ns.map PyData.int)) = true := by
  simp [SeqAt.shaped, PyData.canLay0, PyData.depth, lay_ints, depth_ints]
@[simp] theorem shaped_nil : SeqAt.shaped (.list []) = true := shaped_ints []
@[simp] theorem eqvAll_ints : ∀ ns ms : List Int, PyData.eqvAll (ns.map PyData.int) (ms.map PyData.int) = decide (ns = ms)
  | [], [] => rfl
  | [], m :: ms => by simp [PyData.eqvAll]
  | n :: ns, [] => by simp [PyData.eqvAll]
  | n :: ns, m :: ms => by
    simp only [List.map_cons, PyData.eqvAll, eqv_ii, eqvAll_ints ns ms]
    by_cases h : n = m <;> by_cases h2 : ns = ms <;> simp [h, h2]
@[simp] theorem eqv_ll (a b : List PD) : PyData.eqv (.list a) (.list b) = PyData.eqvAll a b := by simp only [PyData.eqv]
@[simp] theorem eqv_tt (a b : List PD) : PyData.eqv (.tuple a) (.tuple b) = PyData.eqvAll a b := by simp only [PyData.eqv]
@[simp] theorem eqv_ss (x y : Str) : PyData.eqv (.str x) (.str y) = decide (x = y) := by simp only [PyData.eqv]; rfl
theorem gEq_ap {d e : PD} (h1 : SeqAt.shaped d = true) (h2 : SeqAt.shaped e = true) : gEq d e = some (PyData.eqv d e) := by
  unfold gEq
  split
  · rw [eqv_ss]
  · rw [h1, h2]; rfl
theorem gNe_ap {d e : PD} (h1 : SeqAt.shaped d = true) (h2 : SeqAt.shaped e = true) : gNe d e = some (!PyData.eqv d e) := by
  unfold gNe
  split
  · rw [eqv_ss]
  · rw [h1, h2]; rfl
@[simp] theorem gEq_str (x y : Str) : gEq (.str x) (.str y) = some (decide (x = y)) := (rfl)
@[simp] theorem gNe_str (x y : Str) : gNe (.str x) (.str y) = some (!decide (x = y)) := (rfl)
@[simp] theorem gEq_ii (i j : Int) : gEq (.int i) (.int j) = some (decide (i = j)) := by rw [gEq_ap (by simp) (by simp), eqv_ii]
@[simp] theorem gNe_ii (i j : Int) : gNe (.int i) (.int j) = some (!decide (i = j)) := by rw [gNe_ap (by simp) (by simp), eqv_ii]
@[simp] theorem gEq_ll (ns ms : List Int) : gEq (.list (ns.map PyData.int)) (.list (ms.map PyData.int)) = some (decide (ns = ms)) := by rw [gEq_ap (by simp) (by simp), eqv_ll, eqvAll_ints]
@[simp] theorem gNe_ll (ns ms : List Int) : gNe (.list (ns.map PyData.int)) (.list (ms.map PyData.int)) = some (!decide (ns = ms)) := by rw [gNe_ap (by simp) (by simp), eqv_ll, eqvAll_ints]
@[simp] theorem gEq_l0 (ns : List Int) : gEq (.list (ns.map PyData.int)) (.list []) = some (decide (ns = [])) := gEq_ll ns []
@[simp] theorem gNe_l0 (ns : List Int) : gNe (.list (ns.map PyData.int)) (.list []) = some (!decide (ns = [])) := gNe_ll ns []
@[simp] theorem gEq_00 : gEq (.list []) (.list []) = some true := gEq_ll [] []
@[simp] theorem gNe_00 : gNe (.list []) (.list []) = some false := gNe_ll [] []
theorem shaped_str {x : Str} (h : PyData.strOk x = true) : SeqAt.shaped (.str x) = true := by
  simp [SeqAt.shaped, PyData.canLay0, PyData.depth, h]
@[simp] theorem eqv_bb (x y : Bool) : PyData.eqv (.bool x) (.bool y) = decide (x = y) := by cases x <;> cases y <;> simp [PyData.eqv]
theorem gEq_ss {x y : Str} (hx : PyData.strOk x = true) (hy : PyData.strOk y = true) : gEq (.str x) (.str y) = some (decide (x = y)) := by rw [gEq_ap (shaped_str hx) (shaped_str hy), eqv_ss]
theorem gNe_ss {x y : Str} (hx : PyData.strOk x = true) (hy : PyData.strOk y = true) : gNe (.str x) (.str y) = some (!decide (x = y)) := by rw [gNe_ap (shaped_str hx) (shaped_str hy), eqv_ss]
theorem repB_ok (b : Bool) : PyData.strOk (repB b) = true := by cases b <;> decide +kernel
theorem repB_inj (a b : Bool) : (repB a = repB b) = (a = b) := by cases a <;> cases b <;> decide +kernel
@[simp] theorem gNe_rb (a b : Bool) : gNe (.str (repB a)) (.str (repB b)) = some (!decide (a = b)) := by rw [gNe_ss (repB_ok a) (repB_ok b)]; simp only [repB_inj]
@[simp] theorem gEq_rb (a b : Bool) : gEq (.str (repB a)) (.str (repB b)) = some (decide (a = b)) := by rw [gEq_ss (repB_ok a) (repB_ok b)]; simp only [repB_inj]
@[simp] theorem gEq_bb (x y : Bool) : gEq (.bool x) (.bool y) = some (decide (x = y)) := by rw [gEq_ap (by simp) (by simp), eqv_bb]
@[simp] theorem gNe_bb (x y : Bool) : gNe (.bool x) (.bool y) = some (!decide (x = y)) := by rw [gNe_ap (by simp) (by simp), eqv_bb]
theorem strOk_of (x : String) : PyData.strOk (Str.ofString x) = true := by
  rw [Str.ofString_eq_toList]
  unfold PyData.strOk
  rw [Array.all_eq_true]
  intro i hi
  have h := (x.toList[i]'(by simpa using hi)).valid
  simp only [List.getElem_toArray, List.getElem_map, decide_eq_true_eq]
  have h2 : (x.toList[i]'(by simpa using hi)).toNat = (x.toList[i]'(by simpa using hi)).val.toNat := rfl
  rw [h2]
  unfold UInt32.isValidChar Nat.isValidChar at h
  omega
theorem gEq_same {d : PD} (h : SeqAt.shaped d = true) : gEq d d = some true := by rw [gEq_ap h h, SeqAt.eqv_refl d (shaped_lay h)]
theorem gNe_same {d : PD} (h : SeqAt.shaped d = true) : gNe d d = some false := by rw [gNe_ap h h, SeqAt.eqv_refl d (shaped_lay h)]; rfl
@[simp] theorem gEq_t00 : gEq (.tuple []) (.tuple []) = some true := gEq_same (by decide +kernel)
@[simp] theorem gNe_t00 : gNe (.tuple []) (.tuple []) = some false := gNe_same (by decide +kernel)
/-- data with a text of at most n signs, at most k deep -/
structure Rp (d : PD) (n k : Nat) : Prop where
  lay : d.canLay0 = true
  sho : d.showable = true
  len : d.shown.length ≤ n
  dep : d.depth ≤ k
theorem Rp.mono {d : PD} {n k n' k' : Nat} (h : Rp d n k) (h1 : n ≤ n') (h2 : k ≤ k') : Rp d n' k' := ⟨h.lay, h.sho, Nat.le_trans h.len h1, Nat.le_trans h.dep h2⟩
theorem Rp.repr {d : PD} {n k : Nat} (h : Rp d n k) (hn : n + 64 ≤ sizeLine) (hk : k ≤ 60) : gRepr d = some (.sh (.str d.shown)) := by
  unfold gRepr
  have h4 := h.len
  have h5 := h.dep
  rw [h.lay, PyData.hasDict_of_canLay d h.lay, h.sho, decide_eq_true (by omega), decide_eq_true (by omega)]
  rfl
theorem Rp.shaped {d : PD} {n k : Nat} (h : Rp d n k) (hk : k ≤ 64) : SeqAt.shaped d = true := by
  have := h.dep
  unfold SeqAt.shaped
  rw [h.lay, decide_eq_true (by omega)]; rfl
theorem Rp.none : Rp .none 4 0 := ⟨by simp [PyData.canLay0], by simp [PyData.showable], by decide +kernel, by simp [PyData.depth]⟩
theorem Rp.bool (b : Bool) : Rp (.bool b) 5 0 := ⟨by simp [PyData.canLay0], by simp [PyData.showable], by cases b <;> decide +kernel, by simp [PyData.depth]⟩
theorem Rp.int0 {i : Int} {k : Nat} (hk : 0 < k) (hk2 : k ≤ 500) (h : i.natAbs < 10 ^ k) : Rp (.int i) (k + 1) 0 := by
  have e := int_text_length_le10 hk h
  refine ⟨by simp [PyData.canLay0], ?_, ?_, by simp [PyData.depth]⟩
  · have : i.natAbs.log2 < 1920 := by
      rcases Nat.eq_zero_or_pos i.natAbs with z | z
      · rw [z]; simp
      · rw [Nat.log2_lt (by omega)]
        exact Nat.lt_of_lt_of_le h (Nat.le_trans (Nat.pow_le_pow_right (by decide) hk2) (by decide +kernel))
    simp [PyData.showable, this]
  · simp only [PyData.shown]
    rw [ofString_length]; exact e
theorem piled_le {n : Nat} : ∀ {ts : List Str}, (∀ t ∈ ts, t.length ≤ n) → piled ts ≤ ts.length * (n + 2)
  | [], _ => by simp [piled]
  | t :: r, h => by
    have ih := piled_le (n := n) (ts := r) fun t' h' => h t' (List.mem_cons_of_mem _ h')
    have h1 := h t (List.mem_cons_self ..)
    simp only [piled] at ih ⊢
    rw [List.length_cons, Nat.add_mul, Nat.one_mul]
    simp only [List.map_cons, List.sum_cons] at *
    omega
theorem shownAll_eq : ∀ ds : List PD, PyData.shownAll ds = ds.map PyData.shown
  | [] => by simp [PyData.shownAll]
  | d :: ds => by simp [PyData.shownAll, shownAll_eq ds]
theorem layAll_iff : ∀ {ds : List PD}, (∀ d ∈ ds, d.canLay0 = true) → PyData.canLayAll0 ds = true
  | [], _ => by simp [PyData.canLayAll0]
  | d :: ds, h => by simp [PyData.canLayAll0, h d (List.mem_cons_self ..), layAll_iff fun d' h' => h d' (List.mem_cons_of_mem _ h')]
theorem shoAll_iff : ∀ {ds : List PD}, (∀ d ∈ ds, d.showable = true) → PyData.showableAll ds = true
  | [], _ => by simp [PyData.showableAll]
  | d :: ds, h => by simp [PyData.showableAll, h d (List.mem_cons_self ..), shoAll_iff fun d' h' => h d' (List.mem_cons_of_mem _ h')]
theorem depAll_le {k : Nat} : ∀ {ds : List PD}, (∀ d ∈ ds, d.depth ≤ k) → PyData.depthAll ds ≤ k
  | [], _ => by simp [PyData.depthAll]
  | d :: ds, h => by
    simp only [PyData.depthAll]
    exact Nat.max_le.mpr ⟨h d (List.mem_cons_self ..), depAll_le fun d' h' => h d' (List.mem_cons_of_mem _ h')⟩
theorem textFrom_le : ∀ (ts : List Str) (k : Nat) (acc : Str), (textFrom k acc ts).length ≤ acc.length + piled ts
  | [], k, acc => by simp [textFrom, piled]
  | t :: r, k, acc => by
    have ih := textFrom_le r (k + 1) (acc ++ (if k > 0 then ", " else "" : String) ++ t)
    have e : (acc ++ (if k > 0 then ", " else "" : String) ++ t).length ≤ acc.length + 2 + t.length := by
      by_cases hk : k > 0
      · rw [if_pos hk, Str.length_append, Str.length_append]
        have : (Str.ofString ", ").length = 2 := by decide +kernel
        omega
      · rw [if_neg hk, Str.length_append, Str.length_append]
        have : (Str.ofString "").length = 0 := by decide +kernel
        omega
    rw [piled_cons]
    show (textFrom (k + 1) _ r).length ≤ _
    omega
theorem Rp.list {n k : Nat} {ds : List PD} (h : ∀ d ∈ ds, Rp d n k) : Rp (.list ds) (2 + ds.length * (n + 2)) (k + 1) := by
  refine ⟨by simp only [PyData.canLay0]; exact layAll_iff fun d hd => (h d hd).lay, by simp only [PyData.showable]; exact shoAll_iff fun d hd => (h d hd).sho, ?_, by simp only [PyData.depth]; exact Nat.succ_le_succ (depAll_le fun d hd => (h d hd).dep)⟩
  simp only [PyData.shown, shownAll_eq]
  have h1 := piled_le (n := n) (ts := ds.map PyData.shown) fun t ht => by
    obtain ⟨d, hd, rfl⟩ := List.mem_map.mp ht
    exact (h d hd).len
  rw [List.length_map] at h1
  have h2 := textFrom_le (ds.map PyData.shown) 0 "["
  have e1 : ("[" : Str).length = 1 := by decide +kernel
  have e2 : ("]" : Str).length = 1 := by decide +kernel
  unfold listText
  rw [Str.length_append]
  omega
theorem Rp.tuple {n k : Nat} {ds : List PD} (h : ∀ d ∈ ds, Rp d n k) : Rp (.tuple ds) (3 + ds.length * (n + 2)) (k + 1) := by
  refine ⟨by simp only [PyData.canLay0]; exact layAll_iff fun d hd => (h d hd).lay, by simp only [PyData.showable]; exact shoAll_iff fun d hd => (h d hd).sho, ?_, by simp only [PyData.depth]; exact Nat.succ_le_succ (depAll_le fun d hd => (h d hd).dep)⟩
  simp only [PyData.shown, shownAll_eq]
  have h1 := piled_le (n := n) (ts := ds.map PyData.shown) fun t ht => by
    obtain ⟨d, hd, rfl⟩ := List.mem_map.mp ht
    exact (h d hd).len
  rw [List.length_map] at h1
  have h2 : (Str.join ", " (ds.map PyData.shown)).length ≤ piled (ds.map PyData.shown) := by
    by_cases z : ds.map PyData.shown = []
    · rw [z]; decide +kernel
    · have := join_length_add _ z; omega
  have e1 : ("(" : Str).length = 1 := by decide +kernel
  have e2 : (Str.ofString (if (ds.map PyData.shown).length == 1 then ",)" else ")")).length ≤ 2 := by
    split <;> decide +kernel
  unfold tupleText
  rw [Str.length_append, Str.length_append]
  show _ + (Str.ofString _).length ≤ _
  omega
theorem gRepr_i {i : Int} (h : i.natAbs.log2 < 1920) : gRepr (.int i) = some (.sh (.str (toString i))) := by
  have e := int_text_length_le (k := 1920) (by decide) h
  have hl : (PyData.shown (.int i)).length ≤ 1921 := by simp only [PyData.shown]; rw [ofString_length]; exact e
  have r : Rp (.int i) 1921 0 := ⟨by simp [PyData.canLay0], by simp [PyData.showable, h], hl, by simp [PyData.depth]⟩
  rw [r.repr (by rw [sizeLine_eq]; omega) (by omega)]
  rfl
theorem lay_bools : ∀ bs : List Bool, PyData.canLayAll0 (bs.map PyData.bool) = true
  | [] => by simp [PyData.canLayAll0]
  | b :: bs => by simp [PyData.canLayAll0, PyData.canLay0, lay_bools bs]
theorem depth_bools : ∀ bs : List Bool, PyData.depthAll (bs.map PyData.bool) = 0
  | [] => by simp [PyData.depthAll]
  | b :: bs => by simp [PyData.depthAll, PyData.depth, depth_bools bs]
@[simp] theorem shaped_bools (ns : List Bool) : SeqAt.shaped (.list (ns.map PyData.bool)) = true := by
  simp [SeqAt.shaped, PyData.canLay0, PyData.depth, lay_bools, depth_bools]
@[simp] theorem eqvAll_bools : ∀ ns ms : List Bool, PyData.eqvAll (ns.map PyData.bool) (ms.map PyData.bool) = decide (ns = ms)
  | [], [] => by simp [PyData.eqvAll]
  | [], _ :: _ => by simp [PyData.eqvAll]
  | _ :: _, [] => by simp [PyData.eqvAll]
  | n :: ns, m :: ms => by
    simp only [List.map_cons, PyData.eqvAll, eqv_bb, eqvAll_bools ns ms, List.cons.injEq]
    by_cases h1 : n = m <;> by_cases h2 : ns = ms <;> simp [h1, h2]
@[simp] theorem gNe_lb (ns ms : List Bool) : gNe (.list (ns.map PyData.bool)) (.list (ms.map PyData.bool)) = some (!decide (ns = ms)) := by rw [gNe_ap (by simp) (by simp), eqv_ll, eqvAll_bools]
theorem erase_map {α β : Type} (f : α → β) : ∀ (l : List α) (j : Nat), (l.map f).eraseIdx j = (l.eraseIdx j).map f
  | [], _ => by simp
  | _ :: _, 0 => by simp
  | _ :: l, j + 1 => by simp [erase_map f l j]
theorem inL_ints (i : Int) (ns : List Int) : ((ns.map PyData.int).any fun z => PyData.eqv z (.int i)) = decide (i ∈ ns) := by
  induction ns with
  | nil => rfl
  | cons n ns ih =>
    simp only [List.map_cons, List.any_cons, eqv_ii, ih]
    by_cases h : n = i
    · subst h; simp
    · have h' : ¬ i = n := fun e => h e.symm
      simp [h, h']
@[simp] theorem gIn_ints (i : Int) (ns : List Int) : gIn (.int i) (.list (ns.map PyData.int)) = some (decide (i ∈ ns)) := by
  unfold gIn; simp only [shaped_int, shaped_ints, Bool.and_self, if_true, inL_ints]
@[simp] theorem gNotIn_ints (i : Int) (ns : List Int) : gNotIn (.int i) (.list (ns.map PyData.int)) = some (!decide (i ∈ ns)) := by
  unfold gNotIn; simp only [shaped_int, shaped_ints, Bool.and_self, if_true, inL_ints]
theorem okMul_of {i j : Int} (h : OkMul i j) : okMul i j = true := @decide_eq_true _ (Classical.propDecidable _) h
theorem okMul_small {i j : Int} (h : -(2 ^ 64) < j ∧ j < 2 ^ 64) : okMul i j = true := okMul_of (.inl h)
theorem okMul_small' {i j : Int} (h : -(2 ^ 64) < i ∧ i < 2 ^ 64) : okMul i j = true := okMul_of (.inr (.inl h))
theorem okDiv_of {j : Int} (h : 0 < j ∧ j.natAbs.log2 < 9000) : okDiv j = true := @decide_eq_true _ (Classical.propDecidable _) h
theorem okDiv_small {j : Int} (h : 0 < j) (h2 : j < 2 ^ 64) : okDiv j = true := by
  have h3 : j.natAbs < 2 ^ 64 := by omega
  have h4 : j.natAbs.log2 < 64 := (Nat.log2_lt (by omega)).mpr h3
  exact okDiv_of ⟨h, by omega⟩
theorem big_of {i : Int} (h1 : -1000000 ≤ i) (h2 : i ≤ 1000000) : big i = true := @decide_eq_true _ (Classical.propDecidable _) ⟨by omega, by omega⟩
theorem le_lim {n : Nat} (h : n ≤ 100000) : n ≤ lim := h
theorem lt_lim {n : Nat} (h : n < 100000) : n < lim := h

theorem rangeD0_get {n i : Nat} {d : PD} (h : (rangeD 0 n)[i]? = some d) : i < n ∧ d = .int (i : Int) := by
  obtain ⟨h1, h2⟩ := rangeD_get h
  exact ⟨h1, by rw [h2, Int.zero_add]⟩

/-! ### loops -/
theorem forD_inv {t : PD → Sto → Option Sto} {b : Sd} (ds : List PD) (Inv : Nat → Sto → Prop)
    (hs : ∀ i d Γ, ds[i]? = some d → Inv i Γ → ∃ Γ1 Γ2, t d Γ = some Γ1 ∧ (b Γ1 = .nx Γ2 ∨ b Γ1 = .ct Γ2) ∧ Inv (i + 1) Γ2) :
    ∀ {Γ : Sto}, Inv 0 Γ → ∃ Γ', forD t b ds Γ = .nx Γ' ∧ Inv ds.length Γ' := by
  induction ds generalizing Inv with
  | nil => exact fun {Γ} h => ⟨Γ, rfl, h⟩
  | cons d ds ih =>
    intro Γ h
    obtain ⟨Γ1, Γ2, e1, e2, h2⟩ := hs 0 d Γ rfl h
    obtain ⟨Γ', e3, h3⟩ := ih (fun i => Inv (i + 1)) (fun i d' Γ hd hi => hs (i + 1) d' Γ (by simpa using hd) hi) h2
    refine ⟨Γ', ?_, by simpa using h3⟩
    unfold forD
    rw [e1]
    rcases e2 with e2 | e2 <;> simp only [e2] <;> exact e3
theorem whl_inv {c : Sto → Res Bool} {b : Sd} (Inv : Nat → Sto → Prop) (P : Sto → Prop)
    (hs : ∀ m Γ, Inv m Γ → (∃ Γf, c Γ = .ok false Γf ∧ P Γf) ∨ ∃ Γ1 Γ2 m', c Γ = .ok true Γ1 ∧ (b Γ1 = .nx Γ2 ∨ b Γ1 = .ct Γ2) ∧ m' < m ∧ Inv m' Γ2) :
    ∀ {m : Nat} {Γ : Sto}, Inv m Γ → ∃ Γ', whl c b Γ = .nx Γ' ∧ P Γ' := by
  have key : ∀ (n m : Nat) (Γ : Sto), Inv m Γ → m < n → ∃ Γ', whileD c b n Γ = .nx Γ' ∧ P Γ' := by
    intro n
    induction n with
    | zero => intro m Γ _ h; omega
    | succ n ih =>
      intro m Γ hi hm
      unfold whileD
      rcases hs m Γ hi with ⟨Γf, e, h⟩ | ⟨Γ1, Γ2, m', e1, e2, hlt, h⟩
      · exact ⟨Γf, by rw [e]; rfl, h⟩
      · obtain ⟨Γ', e3, h3⟩ := ih m' Γ2 h (by omega)
        refine ⟨Γ', ?_, h3⟩
        rw [e1]
        simp only [st_ok, if_true]
        rcases e2 with e2 | e2 <;> simp only [e2] <;> exact e3
  intro m Γ h
  obtain ⟨Γ', e, h'⟩ := key (m + 1) m Γ h (Nat.lt_succ_self m)
  exact ⟨Γ', whl_of e (by intro z; cases z), h'⟩
theorem rst_wipe (Γ : Sto) (vs : List Nat) : rst Γ (wipeG Γ vs) vs = Γ := by
  apply List.ext_getElem?
  intro i
  rw [rst_get (wipeG_len Γ vs).symm]
  by_cases h : i ∈ vs
  · rw [if_pos h]
  · rw [if_neg h, wipeG_get, if_neg h]
/-- a comprehension whose parts change nothing -/
theorem lcL_pure {t : PD → Sto → Option Sto} {c : Sto → Res Bool} {e : Sto → Res PD} {vs : List Nat} {Γw : Sto} (p : PD → Bool) (v : PD → PD) : ∀ (ds acc : List PD),
    (∀ d ∈ ds, ∃ Γt, t d Γw = some Γt ∧ c Γt = .ok (p d) Γt ∧ (p d = true → e Γt = .ok (v d) Γt) ∧ wipeG Γt vs = Γw) → acc.length + ds.length ≤ lim → lcL t c e vs ds acc Γw = .ok (acc ++ (ds.filter p).map v) Γw
  | [], acc, _, _ => by simp [lcL]
  | d :: ds, acc, h, hl => by
    obtain ⟨Γt, e1, e2, e3, e4⟩ := h d List.mem_cons_self
    have hl' : acc.length + (ds.length + 1) ≤ lim := by simpa using hl
    unfold lcL
    simp only [e1, e2, nox_ok, bind_ok]
    cases hp : p d with
    | true =>
      simp only [if_true, e3 hp, nox_ok, bind_ok]
      rw [if_pos (by omega), e4, lcL_pure p v ds (acc ++ [v d]) (fun d' hd' => h d' (List.mem_cons_of_mem _ hd')) (by simp; omega)]
      rw [List.filter_cons, if_pos hp, List.map_cons, List.append_assoc]
      rfl
    | false =>
      simp only [Bool.false_eq_true, if_false]
      rw [e4, lcL_pure p v ds acc (fun d' hd' => h d' (List.mem_cons_of_mem _ hd')) (by omega)]
      rw [List.filter_cons, if_neg (by rw [hp]; decide)]
theorem lc_pure {fi : Sto → Res (List PD)} {t : PD → Sto → Option Sto} {c : Sto → Res Bool} {e : Sto → Res PD} {vs : List Nat} {Γ Γ1 : Sto} (ds : List PD) (p : PD → Bool) (v : PD → PD) (hi : fi Γ = .ok ds Γ1) (hn : noOwnAt Γ1 vs = true) (hl : ds.length ≤ lim)
    (h : ∀ d ∈ ds, ∃ Γt, t d (wipeG Γ1 vs) = some Γt ∧ c Γt = .ok (p d) Γt ∧ (p d = true → e Γt = .ok (v d) Γt) ∧ wipeG Γt vs = wipeG Γ1 vs) : lc fi vs t c e Γ = .ok (.own (.lst ((ds.filter p).map v))) Γ1 := by
  unfold lc
  rw [hi]
  simp only [bind_ok, hn, if_true]
  rw [lcL_pure p v ds [] h (by simpa using hl)]
  simp only [bind_ok, List.nil_append, rst_wipe]
/-- a comprehension over the image of a list -/
theorem lcL_map {α : Type} {t : PD → Sto → Option Sto} {c : Sto → Res Bool} {e : Sto → Res PD} {vs : List Nat} {Γw : Sto} (g : α → PD) (p : α → Bool) (v : α → PD) : ∀ (as : List α) (acc : List PD),
    (∀ a ∈ as, ∃ Γt, t (g a) Γw = some Γt ∧ c Γt = .ok (p a) Γt ∧ (p a = true → e Γt = .ok (v a) Γt) ∧ wipeG Γt vs = Γw) → acc.length + as.length ≤ lim → lcL t c e vs (as.map g) acc Γw = .ok (acc ++ (as.filter p).map v) Γw
  | [], acc, _, _ => by simp [lcL]
  | a :: as, acc, h, hl => by
    obtain ⟨Γt, e1, e2, e3, e4⟩ := h a List.mem_cons_self
    have hl' : acc.length + (as.length + 1) ≤ lim := by simpa using hl
    rw [List.map_cons]
    unfold lcL
    simp only [e1, e2, nox_ok, bind_ok]
    cases hp : p a with
    | true =>
      simp only [if_true, e3 hp, nox_ok, bind_ok]
      rw [if_pos (by omega), e4, lcL_map g p v as (acc ++ [v a]) (fun d' hd' => h d' (List.mem_cons_of_mem _ hd')) (by simp; omega)]
      rw [List.filter_cons, if_pos hp, List.map_cons, List.append_assoc]
      rfl
    | false =>
      simp only [Bool.false_eq_true, if_false]
      rw [e4, lcL_map g p v as acc (fun d' hd' => h d' (List.mem_cons_of_mem _ hd')) (by omega)]
      rw [List.filter_cons, if_neg (by rw [hp]; decide)]
theorem lc_map {α : Type} {fi : Sto → Res (List PD)} {t : PD → Sto → Option Sto} {c : Sto → Res Bool} {e : Sto → Res PD} {vs : List Nat} {Γ Γ1 : Sto} (as : List α) (g : α → PD) (p : α → Bool) (v : α → PD) (hi : fi Γ = .ok (as.map g) Γ1) (hn : noOwnAt Γ1 vs = true) (hl : as.length ≤ lim)
    (h : ∀ a ∈ as, ∃ Γt, t (g a) (wipeG Γ1 vs) = some Γt ∧ c Γt = .ok (p a) Γt ∧ (p a = true → e Γt = .ok (v a) Γt) ∧ wipeG Γt vs = wipeG Γ1 vs) : lc fi vs t c e Γ = .ok (.own (.lst ((as.filter p).map v))) Γ1 := by
  unfold lc
  rw [hi]
  simp only [bind_ok, hn, if_true]
  rw [lcL_map g p v as [] h (by simpa using hl)]
  simp only [bind_ok, List.nil_append, rst_wipe]
/-- a dict comprehension over the image of a list, keys all different -/
theorem dcL_map {α : Type} {t : PD → Sto → Option Sto} {fk fe : Sto → Res PD} {vs : List Nat} {Γw : Sto} (g : α → PD) (kf : α → Key) (v : α → PD) : ∀ (as : List α) (acc : List (Key × PD)),
    (∀ a ∈ as, ∃ Γt, t (g a) Γw = some Γt ∧ fk Γt = .ok (kD (kf a)) Γt ∧ fe Γt = .ok (v a) Γt ∧ wipeG Γt vs = Γw) → acc.length + as.length ≤ lim → (acc.map (·.1) ++ as.map kf).Nodup → dcL t yes fk fe vs (as.map g) acc Γw = .ok (acc ++ as.map fun a => (kf a, v a)) Γw
  | [], acc, _, _, _ => by simp [dcL]
  | a :: as, acc, h, hl, hn => by
    obtain ⟨Γt, e1, e2, e3, e4⟩ := h a List.mem_cons_self
    have hl' : acc.length + (as.length + 1) ≤ lim := by simpa using hl
    have hnk : gSet.putP acc (kf a) (v a) = acc ++ [(kf a, v a)] := by
      unfold gSet.putP
      rw [if_neg]
      rw [List.any_eq_true]
      rintro ⟨x, hx, e⟩
      have e : x.1 = kf a := of_decide_eq_true e
      rw [List.nodup_append] at hn
      exact hn.2.2 x.1 (List.mem_map.mpr ⟨x, hx, rfl⟩) (kf a) (by simp) e
    have hkd : keyD (kD (kf a)) = some (kf a) := by cases kf a <;> rfl
    rw [List.map_cons]
    unfold dcL
    simp only [e1, yes_ap, nox_ok, bind_ok, if_true, e2, e3]
    unfold dcP
    simp only [hkd]
    rw [if_pos (by omega), hnk, e4, dcL_map g kf v as (acc ++ [(kf a, v a)]) (fun a' ha' => h a' (List.mem_cons_of_mem _ ha')) (by simp; omega) (by simpa [List.map_append, List.append_assoc] using hn)]
    rw [List.map_cons, List.append_assoc]
    rfl
theorem dc_map {α : Type} {fi : Sto → Res (List PD)} {t : PD → Sto → Option Sto} {fk fe : Sto → Res PD} {vs : List Nat} {Γ Γ1 : Sto} (as : List α) (g : α → PD) (kf : α → Key) (v : α → PD) (hi : fi Γ = .ok (as.map g) Γ1) (hn : noOwnAt Γ1 vs = true) (hl : as.length ≤ lim) (hk : (as.map kf).Nodup)
    (h : ∀ a ∈ as, ∃ Γt, t (g a) (wipeG Γ1 vs) = some Γt ∧ fk Γt = .ok (kD (kf a)) Γt ∧ fe Γt = .ok (v a) Γt ∧ wipeG Γt vs = wipeG Γ1 vs) : dc fi vs t yes fk fe Γ = .ok (.own (.dic (as.map fun a => (kf a, v a)))) Γ1 := by
  unfold dc
  rw [hi]
  simp only [bind_ok, hn, if_true]
  rw [dcL_map g kf v as [] h (by simpa using hl) (by simpa using hk)]
  simp only [bind_ok, List.nil_append, rst_wipe]
theorem filter_ints (p : Int → Bool) (v : Int → PD) (ns : List Int) : ((ns.map PyData.int).filter fun d => match d with | .int k => p k | _ => false).map (fun d => match d with | .int k => v k | d => d) = (ns.filter p).map v := by
  induction ns with
  | nil => rfl
  | cons n ns ih =>
    by_cases hp : p n = true
    · rw [List.map_cons, List.filter_cons_of_pos (by exact hp), List.filter_cons_of_pos hp, List.map_cons, List.map_cons, ih]
    · rw [List.map_cons, List.filter_cons_of_neg (by exact hp), List.filter_cons_of_neg hp, ih]
theorem lc_ints {fi : Sto → Res (List PD)} {t : PD → Sto → Option Sto} {c : Sto → Res Bool} {e : Sto → Res PD} {vs : List Nat} {Γ Γ1 : Sto} (ns : List Int) (p : Int → Bool) (v : Int → PD) (hi : fi Γ = .ok (ns.map PyData.int) Γ1) (hn : noOwnAt Γ1 vs = true) (hl : ns.length ≤ lim)
    (h : ∀ k ∈ ns, ∃ Γt, t (.int k) (wipeG Γ1 vs) = some Γt ∧ c Γt = .ok (p k) Γt ∧ (p k = true → e Γt = .ok (v k) Γt) ∧ wipeG Γt vs = wipeG Γ1 vs) : lc fi vs t c e Γ = .ok (.own (.lst ((ns.filter p).map v))) Γ1 := by
  rw [← filter_ints p v ns]
  refine lc_pure _ _ _ hi hn (by rw [List.length_map]; exact hl) fun d hd => ?_
  obtain ⟨k, hk, rfl⟩ := List.mem_map.mp hd
  exact h k hk
end G
namespace G
open PySem L2
/-! ### sorted lists of tuples -/
theorem pairsL_map : ∀ ps : List (Int × PD), pairsL (ps.map tupQ) = some ps
  | [] => rfl
  | p :: ps => by
    show (pairsL (ps.map tupQ)).map ((p.1, p.2) :: ·) = _
    rw [pairsL_map ps]; rfl
theorem gSortedA_q {ps : List (Int × PD)} (h : okQ ps = true) : gSortedA (.list (ps.map tupQ)) = some (.own (.lst ((sortQ ps).map tupQ))) := by
  cases ps with
  | nil =>
    have e := gSortedA_ints []
    rw [List.map_nil, if_pos (by decide)] at e
    show gSortedA (.list []) = _
    rw [e]; simp [sortI, sortQ]
  | cons p r =>
    have e : gSorted (.list ((p :: r).map tupQ)) = none := rfl
    show (match gSorted (.list ((p :: r).map tupQ)) with
      | some r => some r
      | none => gSortQ ((p :: r).map tupQ)) = _
    rw [e]
    show gSortQ ((p :: r).map tupQ) = _
    unfold gSortQ
    rw [pairsL_map]
    show (if okQ (p :: r) then _ else none) = _
    rw [if_pos h]
theorem okQ_nd : ∀ {ps : List (Int × PD)}, (ps.map (·.1)).Nodup → okQ ps = true
  | [], _ => rfl
  | p :: ps, h => by
    rw [List.map_cons, List.nodup_cons] at h
    unfold okQ
    rw [Bool.and_eq_true, List.all_eq_true]
    refine ⟨fun q hq => ?_, okQ_nd h.2⟩
    have : p.1 ≠ q.1 := fun z => h.1 (List.mem_map.mpr ⟨q, hq, z.symm⟩)
    simp [this]
theorem okQ_ii : ∀ {ps : List (Int × PD)}, (∀ p ∈ ps, isI p.2 = true) → okQ ps = true
  | [], _ => rfl
  | p :: ps, h => by
    unfold okQ
    rw [Bool.and_eq_true, List.all_eq_true]
    refine ⟨fun q hq => ?_, okQ_ii fun q hq => h q (List.mem_cons_of_mem _ hq)⟩
    simp [h p (List.mem_cons_self ..), h q (List.mem_cons_of_mem _ hq)]
theorem sortQ_map (f : Int → PD) {os : List Int} (hn : os.Nodup) : sortQ (os.map fun k => (k, f k)) = (sortI os).map fun k => (k, f k) := by
  have hnd : ((os.map fun k => (k, f k)).map (·.1)).Nodup := by
    rw [List.map_map, show ((fun x : Int × PD => x.1) ∘ fun k => (k, f k)) = id from rfl, List.map_id]
    exact hn
  refine sortQ_uniq ((sortQ_perm _).trans ((sortI_perm os).symm.map _)) (fun p hp q hq e => okQ_key (okQ_nd hnd) ((sortQ_perm _).mem_iff.mp hp) ((sortQ_perm _).mem_iff.mp hq) e) (sortQ_srt _) ?_
  rw [List.pairwise_map]
  have hs : (sortI os).Pairwise (· < ·) := by
    have h1 := sortI_asc os
    have h2 := (sortI_perm os).nodup_iff.mpr hn
    have h2 : (sortI os).Pairwise (· ≠ ·) := h2
    exact (h1.and h2).imp fun h => by have := h.1; have := h.2; omega
  refine hs.imp fun {a b} h => SrtO.lexB_no.mpr ?_
  show ¬ (b < a ∨ (b = a ∧ _))
  omega
end G

namespace Pr
open PySem L2 G
def c_MAX_ROUTE : Int := 2000
def c_MAX_KEY : Int := 1000000000000000000
def c_MAX_KEYS : Int := 40
def n_is_integer : Nat := 1
noncomputable def b_is_integer : Sd := (ret (vAnd (op1 (rdv 0) (gIsi "int")) (vNot (op1 (rdv 0) (gIsi "bool")))))
noncomputable def f_is_integer : List Sl → Out := fD n_is_integer b_is_integer
def n_is_between : Nat := 3
noncomputable def b_is_between : Sd := (ret (vAnd (callD f_is_integer (argS (rdv 0) args0)) (chn (rdv 1) (rdv 0) (rdv 2) gLe gLe)))
noncomputable def f_is_between : List Sl → Out := fD n_is_between b_is_between
def n_is_key : Nat := 1
noncomputable def b_is_key : Sd := (ret (callD f_is_between (argS (rdv 0) (argS (op1 (cst (.int c_MAX_KEY)) gNeg) (argS (cst (.int c_MAX_KEY)) args0)))))
noncomputable def f_is_key : List Sl → Out := fD n_is_key b_is_key
def n_is_one_of : Nat := 2
noncomputable def b_is_one_of : Sd := (ret (vAnd (callD f_is_integer (argS (rdv 1) args0)) (op2 (rdv 1) (rdv 0) (gB gIn))))
noncomputable def f_is_one_of : List Sl → Out := fD n_is_one_of b_is_one_of
def n_check_same_keys : Nat := 4
noncomputable def b_check_same_keys : Sd := (sq (asg 2 (op2 (lc (itA (rdv 0)) [3] (tNm 3) (tst (op2 (rdv 3) (rdv 1) (gB gNotIn))) (shr (rdv 3))) (lc (itA (rdv 1)) [3] (tNm 3) (tst (op2 (rdv 3) (rdv 0) (gB gNotIn))) (shr (rdv 3))) gAdd))
    (iff (tru (rdv 2)) never sk))
noncomputable def f_check_same_keys : List Sl → Out := fD n_check_same_keys b_check_same_keys
noncomputable def L_parents_by_order_1 : Sd := (sq (asg 5 (rdv 6))
    (asg 6 (vIf (tst (op2 (rdv 4) (rdv 6) (gB gLt))) (get1 (rdv 2) (rdv 6)) (get1 (rdv 3) (rdv 6)))))
noncomputable def L_parents_by_order_2 : Sd := (sq (asg 5 (cst .none))
    (sq (asg 6 (op2 (rdv 0) (cst (.int 0)) gIx))
    (sq (whl (bAnd (tst (op2 (rdv 6) (cst .none) (gB gIsNot))) (tst (op2 (rdv 6) (rdv 4) (gB gNe)))) L_parents_by_order_1)
    (sq (stI 1 (rdv 4) (rdv 5))
    (iff (bAnd (tst (op2 (rdv 5) (cst .none) (gB gIsNot))) (tst (op2 (rdv 4) (rdv 5) (gB gLt)))) (stI 2 (rdv 5) (rdv 4)) (iff (tst (op2 (rdv 5) (cst .none) (gB gIsNot))) (stI 3 (rdv 5) (rdv 4)) sk))))))
def n_parents_by_order : Nat := 7
noncomputable def b_parents_by_order : Sd := (sq (asg 1 dic0)
    (sq (asg 2 dic0)
    (sq (asg 3 dic0)
    (sq (for_ (itA (rdv 0)) (tNm 4) L_parents_by_order_2)
    (ret (rdv 1))))))
noncomputable def f_parents_by_order : List Sl → Out := fD n_parents_by_order b_parents_by_order
def n_tree_of : Nat := 1
noncomputable def b_tree_of : Sd := (ret (op1 (srtD (rdv 0)) gTuple))
noncomputable def f_tree_of : List Sl → Out := fD n_tree_of b_tree_of
def n_parents_of : Nat := 1
noncomputable def b_parents_of : Sd := (ret (op1 (rdv 0) gDictA))
noncomputable def f_parents_of : List Sl → Out := fD n_parents_of b_parents_of
def n_is_pair : Nat := 1
noncomputable def b_is_pair : Sd := (sq (iff (bOr (bNot (tru (op1 (rdv 0) (gIsi "tuple")))) (tst (op2 (op1 (rdv 0) gLen) (cst (.int 2)) (gB gNe)))) (ret (cst (.bool false))) sk)
    (ret (vAnd (callD f_is_key (argS (op2 (rdv 0) (cst (.int 0)) gIx) args0)) (vOr (op2 (op2 (rdv 0) (cst (.int 1)) gIx) (cst .none) (gB gIs)) (callD f_is_key (argS (op2 (rdv 0) (cst (.int 1)) gIx) args0))))))
noncomputable def f_is_pair : List Sl → Out := fD n_is_pair b_is_pair
noncomputable def L_order_from_1 : Sd := (sq (asg 2 (op1 (lc (itDI (rdv 0)) [3, 4] (tTup [3, 4]) (tst (op2 (rdv 4) (rdv 2) (gB gIn))) (shr (rdv 3))) gSortedA))
    (asg 1 (op2 (rdv 1) (rdv 2) gAdd)))
def n_order_from : Nat := 5
noncomputable def b_order_from : Sd := (sq (asg 1 (dspL args0))
    (sq (asg 2 (dspL (argS (cst .none) args0)))
    (sq (whl (tru (rdv 2)) L_order_from_1)
    (ret (vIf (tst (op2 (op1 (rdv 1) gLen) (op1 (rdv 0) gLen) (gB gEq))) (rdv 1) (cst .none))))))
noncomputable def f_order_from : List Sl → Out := fD n_order_from b_order_from
def n_is_tree : Nat := 4
noncomputable def b_is_tree : Sd := (sq (iff (bOr (bNot (tru (op1 (rdv 0) (gIsi "tuple")))) (tst (op2 (op1 (rdv 0) gLen) (cst (.int c_MAX_KEYS)) (gB gGt)))) (ret (cst (.bool false))) sk)
    (sq (iff (bNot (tru (op1 (lc (itA (rdv 0)) [3] (tNm 3) yes (shr (callD f_is_pair (argS (rdv 3) args0)))) gAll))) (ret (cst (.bool false))) sk)
    (sq (asg 1 (op1 (rdv 0) gDictA))
    (sq (asg 2 (callD f_order_from (argS (rdv 1) args0)))
    (ret (vAnd (op2 (rdv 2) (cst .none) (gB gIsNot)) (vAnd (op2 (op1 (rdv 1) gLen) (op1 (rdv 0) gLen) (gB gEq)) (op2 (callD f_tree_of (argS (callD f_parents_by_order (argS (rdv 2) args0)) args0)) (rdv 0) (gB gEq)))))))))
noncomputable def f_is_tree : List Sl → Out := fD n_is_tree b_is_tree
def n_check_tree : Nat := 1
noncomputable def b_check_tree : Sd := (iff (bNot (tru (callD f_is_tree (argS (rdv 0) args0)))) never sk)
noncomputable def f_check_tree : List Sl → Out := fD n_check_tree b_check_tree
def n_check_key : Nat := 2
noncomputable def b_check_key : Sd := (iff (bNot (tru (callD f_is_one_of (argS (rdv 0) (argS (rdv 1) args0))))) never sk)
noncomputable def f_check_key : List Sl → Out := fD n_check_key b_check_key
noncomputable def L_children_by_1 : Sd := (iff (bAnd (tst (op2 (rdv 5) (rdv 1) (gB gEq))) (tst (op2 (rdv 4) (rdv 1) (gB gLt)))) (asg 2 (rdv 4)) (iff (tst (op2 (rdv 5) (rdv 1) (gB gEq))) (asg 3 (rdv 4)) sk))
def n_children_by : Nat := 6
noncomputable def b_children_by : Sd := (sq (asgT (dspT (argS (cst .none) (argS (cst .none) args0))) (tTup [2, 3]))
    (sq (for_ (itDI (rdv 0)) (tTup [4, 5]) L_children_by_1)
    (ret (dspT (argS (rdv 2) (argS (rdv 3) args0))))))
noncomputable def f_children_by : List Sl → Out := fD n_children_by b_children_by
def n_rotate_in : Nat := 5
noncomputable def b_rotate_in : Sd := (sq (asg 2 (op2 (rdv 0) (rdv 1) gIx))
    (sq (asg 3 (op2 (callD f_children_by (argS (rdv 0) (argS (rdv 1) args0))) (op1 (op2 (rdv 1) (rdv 2) (gB gLt)) gInt) gIx))
    (sq (asg 4 (dspS (shr (rdv 0)) [(shr (rdv 1), shr (op2 (rdv 0) (rdv 2) gIx)), (shr (rdv 2), shr (rdv 1))]))
    (sq (iff (tst (op2 (rdv 3) (cst .none) (gB gIsNot))) (stI 4 (rdv 3) (rdv 2)) sk)
    (ret (rdv 4))))))
noncomputable def f_rotate_in : List Sl → Out := fD n_rotate_in b_rotate_in
def n_check_rotation : Nat := 3
noncomputable def b_check_rotation : Sd := (sq (drp (callD f_check_tree (argS (rdv 0) args0)))
    (sq (asg 2 (callD f_parents_of (argS (rdv 0) args0)))
    (sq (drp (callD f_check_key (argS (rdv 2) (argS (rdv 1) args0))))
    (iff (tst (op2 (op2 (rdv 2) (rdv 1) gIx) (cst .none) (gB gIs))) never sk))))
noncomputable def f_check_rotation : List Sl → Out := fD n_check_rotation b_check_rotation
def n_rotated : Nat := 2
noncomputable def b_rotated : Sd := (sq (drp (callD f_check_rotation (argS (rdv 0) (argS (rdv 1) args0))))
    (ret (callD f_tree_of (argS (callD f_rotate_in (argS (callD f_parents_of (argS (rdv 0) args0)) (argS (rdv 1) args0))) args0))))
noncomputable def f_rotated : List Sl → Out := fD n_rotated b_rotated
def n_check_two_trees : Nat := 2
noncomputable def b_check_two_trees : Sd := (sq (drp (callD f_check_tree (argS (rdv 0) args0)))
    (sq (drp (callD f_check_tree (argS (rdv 1) args0)))
    (drp (callD f_check_same_keys (argS (callD f_parents_of (argS (rdv 0) args0)) (argS (callD f_parents_of (argS (rdv 1) args0)) args0))))))
noncomputable def f_check_two_trees : List Sl → Out := fD n_check_two_trees b_check_two_trees
noncomputable def L_route_1 : Sd := (sq (asg 4 (callD f_rotate_in (argS (rdv 4) (argS (rdv 3) args0))))
    (drp (mut1 2 (rdv 3) gApp)))
noncomputable def L_route_2 : Sd := (whl (tst (op2 (op2 (rdv 4) (rdv 3) gIx) (op2 (rdv 5) (rdv 3) gIx) (gB gNe))) L_route_1)
def n_route : Nat := 6
noncomputable def b_route : Sd := (sq (drp (callD f_check_two_trees (argS (rdv 0) (argS (rdv 1) args0))))
    (sq (asgP 4 5 (argS (callD f_parents_of (argS (rdv 0) args0)) (argS (callD f_parents_of (argS (rdv 1) args0)) args0)))
    (sq (asg 2 (dspL args0))
    (sq (for_ (itA (callD f_order_from (argS (rdv 5) args0))) (tNm 3) L_route_2)
    (ret (rdv 2))))))
noncomputable def f_route : List Sl → Out := fD n_route b_route
noncomputable def L_is_route_1 : Sd := (sq (iff (bOr (bNot (tru (callD f_is_one_of (argS (rdv 3) (argS (rdv 4) args0))))) (tst (op2 (op2 (rdv 3) (rdv 4) gIx) (cst .none) (gB gIs)))) (ret (cst (.bool false))) sk)
    (asg 3 (callD f_rotate_in (argS (rdv 3) (argS (rdv 4) args0)))))
def n_is_route : Nat := 5
noncomputable def b_is_route : Sd := (sq (drp (callD f_check_two_trees (argS (rdv 0) (argS (rdv 1) args0))))
    (sq (iff (bOr (bNot (tru (op1 (rdv 2) (gIsi "list")))) (tst (op2 (op1 (rdv 2) gLen) (cst (.int c_MAX_ROUTE)) (gB gGt)))) (ret (cst (.bool false))) sk)
    (sq (asg 3 (callD f_parents_of (argS (rdv 0) args0)))
    (sq (for_ (itA (rdv 2)) (tNm 4) L_is_route_1)
    (ret (op2 (callD f_tree_of (argS (rdv 3) args0)) (rdv 1) (gB gEq)))))))
noncomputable def f_is_route : List Sl → Out := fD n_is_route b_is_route
def n__law_box : Nat := 2
noncomputable def b__law_box : Sd := (ret (dspL (argS (lc (itA (slc (rdv 0) none (some (cst (.int 63))))) [1] (tNm 1) yes (shr (op1 (rdv 1) gAbs))) (argS (cst (.int 0)) (argS (cst (.int 0)) (argS (cst (.int 7)) args0))))))
noncomputable def f__law_box : List Sl → Out := fD n__law_box b__law_box
def n__law_draw : Nat := 4
noncomputable def b__law_draw : Sd := (sq (iff (bAnd (tst (op2 (op2 (rdv 0) (cst (.int 2)) gIx) (cst (.int 0)) (gB gEq))) (tst (op2 (op2 (rdv 0) (cst (.int 1)) gIx) (op1 (op2 (rdv 0) (cst (.int 0)) gIx) gLen) (gB gLt)))) (sq (asg 2 (op2 (op2 (rdv 0) (cst (.int 0)) gIx) (op2 (rdv 0) (cst (.int 1)) gIx) gIx))
    (sq (stI 0 (cst (.int 1)) (op2 (op2 (rdv 0) (cst (.int 1)) gIx) (cst (.int 1)) gAdd))
    (iff (tst (op2 (rdv 2) (op2 (cst (.int 10)) (cst (.int 18)) gPow) (gB gGe))) (stI 0 (cst (.int 2)) (rdv 2)) (stI 0 (cst (.int 3)) (op2 (op2 (op2 (op2 (rdv 0) (cst (.int 3)) gIx) (cst (.int 48271)) gMul) (rdv 2) gAdd) (cst (.int 2147483647)) gMod))))) sk)
    (sq (iff (tst (op2 (op2 (rdv 0) (cst (.int 2)) gIx) (cst (.int 0)) (gB gGt))) (sq (asg 3 (op2 (op2 (rdv 0) (cst (.int 2)) gIx) (rdv 1) gMod))
    (sq (stI 0 (cst (.int 2)) (op2 (op2 (rdv 0) (cst (.int 2)) gIx) (rdv 1) gDiv))
    (ret (rdv 3)))) sk)
    (sq (stI 0 (cst (.int 3)) (op2 (op2 (op2 (op2 (rdv 0) (cst (.int 3)) gIx) (cst (.int 48271)) gMul) (cst (.int 11)) gAdd) (cst (.int 2147483647)) gMod))
    (ret (op2 (op2 (op2 (op2 (rdv 0) (cst (.int 3)) gIx) (cst (.int 69621)) gMul) (cst (.int 2147483647)) gMod) (rdv 1) gMod)))))
noncomputable def f__law_draw : List Sl → Out := fD n__law_draw b__law_draw
def n__law_keys : Nat := 7
noncomputable def b__law_keys : Sd := (sq (asg 3 (op2 (dspL (argS (cst (.int 1)) (argS (cst (.int 1)) (argS (cst (.int 2)) (argS (cst (.int 9)) (argS (op2 (cst (.int 10)) (cst (.int 15)) gPow) args0)))))) (callD f__law_draw (argO 0 (argS (cst (.int 5)) args0))) gIx))
    (sq (asg 4 (op2 (callD f__law_draw (argO 0 (argS (cst (.int 60)) args0))) (cst (.int 40)) gSub))
    (sq (asg 5 (dspL args0))
    (sq (for_ (itR1 (op2 (rdv 1) (callD f__law_draw (argO 0 (argS (op2 (op2 (rdv 2) (rdv 1) gSub) (cst (.int 1)) gAdd) args0))) gAdd)) (tNm 6) (sq (asg 4 (op2 (op2 (rdv 4) (cst (.int 1)) gAdd) (op2 (dspL (argS (cst (.int 0)) (argS (cst (.int 0)) (argS (cst (.int 1)) (argS (cst (.int 2)) args0))))) (callD f__law_draw (argO 0 (argS (cst (.int 4)) args0))) gIx) gAdd))
    (drp (mut1 5 (op2 (rdv 4) (rdv 3) gMul) gApp))))
    (sq (iff (bAnd (tst (op2 (rdv 5) (dspL args0) (gB gNe))) (tst (op2 (callD f__law_draw (argO 0 (argS (cst (.int 8)) args0))) (cst (.int 0)) (gB gEq)))) (stI 5 (cst (.int 0)) (op2 (cst (.int 0)) (op2 (cst (.int 10)) (cst (.int 18)) gPow) gSub)) sk)
    (sq (iff (bAnd (tst (op2 (op1 (rdv 5) gLen) (cst (.int 1)) (gB gGt))) (tst (op2 (callD f__law_draw (argO 0 (argS (cst (.int 8)) args0))) (cst (.int 0)) (gB gEq)))) (stI 5 (op1 (cst (.int 1)) gNeg) (op2 (cst (.int 10)) (cst (.int 18)) gPow)) sk)
    (ret (rdv 5))))))))
noncomputable def f__law_keys : List Sl → Out := fD n__law_keys b__law_keys
noncomputable def L__law_shuffled_1 : Sd := (drp (mut1 3 (mut1 2 (callD f__law_draw (argO 0 (argS (op1 (rdv 2) gLen) args0))) gPopAt) gApp))
def n__law_shuffled : Nat := 4
noncomputable def b__law_shuffled : Sd := (sq (asg 2 (op1 (rdv 1) gList))
    (sq (asg 3 (dspL args0))
    (sq (whl (tst (op2 (rdv 2) (dspL args0) (gB gNe))) L__law_shuffled_1)
    (ret (rdv 3)))))
noncomputable def f__law_shuffled : List Sl → Out := fD n__law_shuffled b__law_shuffled
noncomputable def L__law_tree_of_1 : Sd := (sq (asg 3 (lc (itA (slc (rdv 0) none (some (rdv 2)))) [7] (tNm 7) (tst (op2 (rdv 7) (op2 (rdv 0) (rdv 2) gIx) (gB gLt))) (shr (rdv 7))))
    (sq (asg 4 (lc (itA (slc (rdv 0) none (some (rdv 2)))) [7] (tNm 7) (tst (op2 (rdv 7) (op2 (rdv 0) (rdv 2) gIx) (gB gGt))) (shr (rdv 7))))
    (sq (asg 5 (op2 (vIf (tst (op2 (rdv 3) (dspL args0) (gB gNe))) (dspL (argS (op1 (rdv 3) gMax1) args0)) (dspL args0)) (vIf (tst (op2 (rdv 4) (dspL args0) (gB gNe))) (dspL (argS (op1 (rdv 4) gMin1) args0)) (dspL args0)) gAdd))
    (sq (asg 6 (lc (itA (slc (rdv 0) none (some (rdv 2)))) [7] (tNm 7) (tst (op2 (rdv 7) (rdv 5) (gB gIn))) (shr (rdv 7))))
    (drp (mut1 1 (dspT (argS (op2 (rdv 0) (rdv 2) gIx) (argS (vIf (tst (op2 (rdv 6) (dspL args0) (gB gNe))) (op2 (rdv 6) (op1 (cst (.int 1)) gNeg) gIx) (cst .none)) args0))) gApp))))))
def n__law_tree_of : Nat := 8
noncomputable def b__law_tree_of : Sd := (sq (asg 1 (dspL args0))
    (sq (for_ (itR1 (op1 (rdv 0) gLen)) (tNm 2) L__law_tree_of_1)
    (ret (op1 (op1 (rdv 1) gSortedA) gTuple))))
noncomputable def f__law_tree_of : List Sl → Out := fD n__law_tree_of b__law_tree_of
def n__law_children : Nat := 3
noncomputable def b__law_children : Sd := (ret (lc (itA (rdv 0)) [1, 2] (tTup [1, 2]) (tst (op2 (rdv 2) (cst .none) (gB gIsNot))) (shr (rdv 1))))
noncomputable def f__law_children : List Sl → Out := fD n__law_children b__law_children
noncomputable def L__law_expected_1 : Sd := (sq (iff (bOr (bNot (tru (op1 (rdv 4) (gIsi "int")))) (bOr (tru (op1 (rdv 4) (gIsi "bool"))) (tst (op2 (rdv 4) (callD f__law_children (argS (rdv 3) args0)) (gB gNotIn))))) (ret (cst (.bool false))) sk)
    (asg 3 (callD f_rotated (argS (rdv 3) (argS (rdv 4) args0)))))
def n__law_expected : Nat := 5
noncomputable def b__law_expected : Sd := (sq (asg 3 (rdv 0))
    (sq (for_ (itA (rdv 2)) (tNm 4) L__law_expected_1)
    (ret (op2 (rdv 3) (rdv 1) (gB gEq)))))
noncomputable def f__law_expected : List Sl → Out := fD n__law_expected b__law_expected
noncomputable def L__law_random_list_1 : Sd := (sq (asg 9 (callD f__law_children (argS (rdv 7) args0)))
    (iff (tst (op2 (rdv 9) (dspL args0) (gB gNe))) (sq (drp (mut1 3 (op2 (rdv 9) (callD f__law_draw (argO 0 (argS (op1 (rdv 9) gLen) args0))) gIx) gApp))
    (asg 7 (callD f_rotated (argS (rdv 7) (argS (op2 (rdv 3) (op1 (cst (.int 1)) gNeg) gIx) args0))))) sk))
def n__law_random_list : Nat := 12
noncomputable def b__law_random_list : Sd := (sq (asg 3 (callD f_route (argS (rdv 1) (argS (rdv 2) args0))))
    (sq (iff (tst (op2 (callD f__law_draw (argO 0 (argS (cst (.int 2)) args0))) (cst (.int 0)) (gB gEq))) (sq (asg 3 (dspL args0))
    (sq (asg 7 (rdv 1))
    (sq (for_ (itR1 (callD f__law_draw (argO 0 (argS (cst (.int 9)) args0)))) (tNm 8) L__law_random_list_1)
    (asg 2 (vIf (tst (op2 (callD f__law_draw (argO 0 (argS (cst (.int 2)) args0))) (cst (.int 0)) (gB gEq))) (rdv 7) (rdv 2)))))) sk)
    (sq (asg 4 (callD f__law_draw (argO 0 (argS (op2 (op1 (rdv 3) gLen) (cst (.int 1)) gAdd) args0))))
    (sq (asg 5 (op2 (dspL (argS (cst .none) (argS (cst (.bool true)) (argS (cst (.str "1")) (argS (op2 (cst (.int 10)) (cst (.int 19)) gPow) (argS (dspL (argS (cst (.int 1)) args0)) (argS (dspT (argS (cst (.int 1)) args0)) args0))))))) (lc (itA (rdv 1)) [10, 11] (tTup [10, 11]) yes (shr (rdv 10))) gAdd))
    (sq (asg 6 (callD f__law_draw (argO 0 (argS (cst (.int 5)) args0))))
    (sq (iff (tst (op2 (rdv 6) (cst (.int 0)) (gB gEq))) (asg 3 (op2 (slc (rdv 3) none (some (rdv 4))) (slc (rdv 3) (some (op2 (rdv 4) (cst (.int 1)) gAdd)) none) gAdd)) sk)
    (sq (iff (tst (op2 (rdv 6) (cst (.int 1)) (gB gEq))) (asg 3 (op2 (op2 (slc (rdv 3) none (some (rdv 4))) (dspL (argS (op2 (rdv 5) (callD f__law_draw (argO 0 (argS (op1 (rdv 5) gLen) args0))) gIx) args0)) gAdd) (slc (rdv 3) (some (rdv 4)) none) gAdd)) sk)
    (sq (iff (bAnd (tst (op2 (rdv 6) (cst (.int 2)) (gB gEq))) (tst (op2 (op1 (rdv 3) gLen) (rdv 4) (gB gGt)))) (stI 3 (rdv 4) (op2 (rdv 5) (callD f__law_draw (argO 0 (argS (op1 (rdv 5) gLen) args0))) gIx)) sk)
    (ret (dspT (argS (rdv 2) (argS (rdv 3) args0))))))))))))
noncomputable def f__law_random_list : List Sl → Out := fD n__law_random_list b__law_random_list
def n__law_long_lists_hold : Nat := 2
noncomputable def b__law_long_lists_hold : Sd := (sq (asg 0 (dspT (argS (dspT (argS (cst (.int 1)) (argS (cst .none) args0))) (argS (dspT (argS (cst (.int 2)) (argS (cst (.int 1)) args0))) args0))))
    (sq (asg 1 (op2 (dspL (argS (cst (.int 2)) (argS (cst (.int 1)) args0))) (cst (.int 1000)) gMul))
    (sq (iff (bOr (tst (op2 (callD f_is_route (argS (rdv 0) (argS (rdv 0) (argS (rdv 1) args0)))) (cst (.bool true)) (gB gIsNot))) (tst (op2 (callD f_is_route (argS (rdv 0) (argS (rdv 0) (argS (op2 (rdv 1) (dspL (argS (cst (.int 2)) (argS (cst (.int 1)) args0))) gAdd) args0)))) (cst (.bool false)) (gB gIsNot)))) (ret (cst (.bool false))) sk)
    (ret (op2 (callD f_is_route (argS (rdv 0) (argS (dspT (argS (dspT (argS (cst (.int 1)) (argS (cst (.int 2)) args0))) (argS (dspT (argS (cst (.int 2)) (argS (cst .none) args0))) args0))) (argS (op2 (rdv 1) (dspL (argS (cst (.int 2)) args0)) gAdd) args0)))) (cst (.bool false)) (gB gIs))))))
noncomputable def f__law_long_lists_hold : List Sl → Out := fD n__law_long_lists_hold b__law_long_lists_hold
noncomputable def L_law_1 : Sd := (iff (tst (op2 (callD f_is_route (argS (rdv 3) (argS (rdv 4) (argS (rdv 6) args0)))) (cst (.bool false)) (gB gIsNot))) (ret (cst (.bool false))) sk)
def n_law : Nat := 8
noncomputable def b_law : Sd := (sq (asg 1 (callD f__law_box (argS (rdv 0) args0)))
    (sq (asg 2 (callD f__law_keys (argO 1 (argS (cst (.int 0)) (argS (cst (.int 12)) args0)))))
    (sq (asg 3 (callD f__law_tree_of (argS (callD f__law_shuffled (argO 1 (argS (rdv 2) args0))) args0)))
    (sq (asg 4 (callD f__law_tree_of (argS (callD f__law_shuffled (argO 1 (argS (rdv 2) args0))) args0)))
    (sq (asgT (callD f__law_random_list (argO 1 (argS (rdv 3) (argS (rdv 4) args0)))) (tTup [4, 7]))
    (sq (asg 5 (op1 (rdv 7) gRepr))
    (sq (iff (tst (op2 (op1 (callD f_is_route (argS (rdv 3) (argS (rdv 4) (argS (rdv 7) args0)))) gRepr) (op1 (callD f__law_expected (argS (rdv 3) (argS (rdv 4) (argS (rdv 7) args0)))) gRepr) (gB gNe))) (ret (cst (.bool false))) sk)
    (sq (for_ (itA (dspL (argS (cst .none) (argS (cst (.int 5)) (argS (cst (.str "ab")) (argS dic0 (argS (dspT args0) (argS (op1 (rdv 7) gTuple) (argS (dspL (argS (cst .none) args0)) (argS (dspL (argS (dspL args0) args0)) args0)))))))))) (tNm 6) L_law_1)
    (sq (iff (bAnd (tst (op2 (callD f__law_draw (argO 1 (argS (cst (.int 4)) args0))) (cst (.int 0)) (gB gEq))) (bNot (tru (callD f__law_long_lists_hold args0)))) (ret (cst (.bool false))) sk)
    (ret (op2 (op1 (rdv 7) gRepr) (rdv 5) (gB gEq))))))))))))
noncomputable def f_law : List Sl → Out := fD n_law b_law
def top (i : Nat) : Stmt := PySem.Challenge.pw_insertionorders_k61_routes_checked.main.body.getD i (.Pass ⟨0, 0, 0, 0⟩)
abbrev s_is_integer : Stmt := top 9
abbrev N_is_integer : List Str := ["candidate"]
theorem sc_is_integer : FnScope N_is_integer ["candidate"] (defScope s_is_integer) := ⟨rfl, rfl, rfl, by decide +kernel, rfl, by decide +kernel, by decide +kernel⟩
abbrev s_is_between : Stmt := top 10
abbrev N_is_between : List Str := ["candidate", "low", "high"]
theorem sc_is_between : FnScope N_is_between ["candidate", "low", "high"] (defScope s_is_between) := ⟨rfl, rfl, rfl, by decide +kernel, rfl, by decide +kernel, by decide +kernel⟩
abbrev s_is_key : Stmt := top 11
abbrev N_is_key : List Str := ["candidate"]
theorem sc_is_key : FnScope N_is_key ["candidate"] (defScope s_is_key) := ⟨rfl, rfl, rfl, by decide +kernel, rfl, by decide +kernel, by decide +kernel⟩
abbrev s_is_one_of : Stmt := top 12
abbrev N_is_one_of : List Str := ["keys", "candidate"]
theorem sc_is_one_of : FnScope N_is_one_of ["keys", "candidate"] (defScope s_is_one_of) := ⟨rfl, rfl, rfl, by decide +kernel, rfl, by decide +kernel, by decide +kernel⟩
abbrev s_check_same_keys : Stmt := top 13
abbrev N_check_same_keys : List Str := ["first", "second", "single", "key"]
theorem sc_check_same_keys : FnScope N_check_same_keys ["first", "second"] (defScope s_check_same_keys) := ⟨rfl, rfl, rfl, by decide +kernel, rfl, by decide +kernel, by decide +kernel⟩
abbrev s_parents_by_order : Stmt := top 15
abbrev N_parents_by_order : List Str := ["order", "parents", "left", "right", "key", "parent", "current"]
theorem sc_parents_by_order : FnScope N_parents_by_order ["order"] (defScope s_parents_by_order) := ⟨rfl, rfl, rfl, by decide +kernel, rfl, by decide +kernel, by decide +kernel⟩
abbrev s_tree_of : Stmt := top 16
abbrev N_tree_of : List Str := ["parents"]
theorem sc_tree_of : FnScope N_tree_of ["parents"] (defScope s_tree_of) := ⟨rfl, rfl, rfl, by decide +kernel, rfl, by decide +kernel, by decide +kernel⟩
abbrev s_parents_of : Stmt := top 17
abbrev N_parents_of : List Str := ["tree"]
theorem sc_parents_of : FnScope N_parents_of ["tree"] (defScope s_parents_of) := ⟨rfl, rfl, rfl, by decide +kernel, rfl, by decide +kernel, by decide +kernel⟩
abbrev s_is_pair : Stmt := top 18
abbrev N_is_pair : List Str := ["candidate"]
theorem sc_is_pair : FnScope N_is_pair ["candidate"] (defScope s_is_pair) := ⟨rfl, rfl, rfl, by decide +kernel, rfl, by decide +kernel, by decide +kernel⟩
abbrev s_order_from : Stmt := top 19
abbrev N_order_from : List Str := ["parents", "order", "level", "key", "parent"]
theorem sc_order_from : FnScope N_order_from ["parents"] (defScope s_order_from) := ⟨rfl, rfl, rfl, by decide +kernel, rfl, by decide +kernel, by decide +kernel⟩
abbrev s_is_tree : Stmt := top 20
abbrev N_is_tree : List Str := ["candidate", "parents", "order", "pair"]
theorem sc_is_tree : FnScope N_is_tree ["candidate"] (defScope s_is_tree) := ⟨rfl, rfl, rfl, by decide +kernel, rfl, by decide +kernel, by decide +kernel⟩
abbrev s_check_tree : Stmt := top 21
abbrev N_check_tree : List Str := ["candidate"]
theorem sc_check_tree : FnScope N_check_tree ["candidate"] (defScope s_check_tree) := ⟨rfl, rfl, rfl, by decide +kernel, rfl, by decide +kernel, by decide +kernel⟩
abbrev s_check_key : Stmt := top 22
abbrev N_check_key : List Str := ["keys", "candidate"]
theorem sc_check_key : FnScope N_check_key ["keys", "candidate"] (defScope s_check_key) := ⟨rfl, rfl, rfl, by decide +kernel, rfl, by decide +kernel, by decide +kernel⟩
abbrev s_children_by : Stmt := top 23
abbrev N_children_by : List Str := ["parents", "key", "left", "right", "child", "parent"]
theorem sc_children_by : FnScope N_children_by ["parents", "key"] (defScope s_children_by) := ⟨rfl, rfl, rfl, by decide +kernel, rfl, by decide +kernel, by decide +kernel⟩
abbrev s_rotate_in : Stmt := top 26
abbrev N_rotate_in : List Str := ["parents", "key", "parent", "inner", "found"]
theorem sc_rotate_in : FnScope N_rotate_in ["parents", "key"] (defScope s_rotate_in) := ⟨rfl, rfl, rfl, by decide +kernel, rfl, by decide +kernel, by decide +kernel⟩
abbrev s_check_rotation : Stmt := top 27
abbrev N_check_rotation : List Str := ["tree", "key", "parents"]
theorem sc_check_rotation : FnScope N_check_rotation ["tree", "key"] (defScope s_check_rotation) := ⟨rfl, rfl, rfl, by decide +kernel, rfl, by decide +kernel, by decide +kernel⟩
abbrev s_rotated : Stmt := top 28
abbrev N_rotated : List Str := ["tree", "key"]
theorem sc_rotated : FnScope N_rotated ["tree", "key"] (defScope s_rotated) := ⟨rfl, rfl, rfl, by decide +kernel, rfl, by decide +kernel, by decide +kernel⟩
abbrev s_check_two_trees : Stmt := top 29
abbrev N_check_two_trees : List Str := ["first", "second"]
theorem sc_check_two_trees : FnScope N_check_two_trees ["first", "second"] (defScope s_check_two_trees) := ⟨rfl, rfl, rfl, by decide +kernel, rfl, by decide +kernel, by decide +kernel⟩
abbrev s_route : Stmt := top 30
abbrev N_route : List Str := ["first", "second", "found", "key", "current", "target"]
theorem sc_route : FnScope N_route ["first", "second"] (defScope s_route) := ⟨rfl, rfl, rfl, by decide +kernel, rfl, by decide +kernel, by decide +kernel⟩
abbrev s_is_route : Stmt := top 31
abbrev N_is_route : List Str := ["first", "second", "candidate", "current", "key"]
theorem sc_is_route : FnScope N_is_route ["first", "second", "candidate"] (defScope s_is_route) := ⟨rfl, rfl, rfl, by decide +kernel, rfl, by decide +kernel, by decide +kernel⟩
abbrev s__law_box : Stmt := top 33
abbrev N__law_box : List Str := ["script", "cell"]
theorem sc__law_box : FnScope N__law_box ["script"] (defScope s__law_box) := ⟨rfl, rfl, rfl, by decide +kernel, rfl, by decide +kernel, by decide +kernel⟩
abbrev s__law_draw : Stmt := top 34
abbrev N__law_draw : List Str := ["source", "count", "cell", "digit"]
theorem sc__law_draw : FnScope N__law_draw ["source", "count"] (defScope s__law_draw) := ⟨rfl, rfl, rfl, by decide +kernel, rfl, by decide +kernel, by decide +kernel⟩
abbrev s__law_keys : Stmt := top 35
abbrev N__law_keys : List Str := ["source", "least", "most", "step", "current", "found", "k"]
theorem sc__law_keys : FnScope N__law_keys ["source", "least", "most"] (defScope s__law_keys) := ⟨rfl, rfl, rfl, by decide +kernel, rfl, by decide +kernel, by decide +kernel⟩
abbrev s__law_shuffled : Stmt := top 36
abbrev N__law_shuffled : List Str := ["source", "items", "rest", "found"]
theorem sc__law_shuffled : FnScope N__law_shuffled ["source", "items"] (defScope s__law_shuffled) := ⟨rfl, rfl, rfl, by decide +kernel, rfl, by decide +kernel, by decide +kernel⟩
abbrev s__law_tree_of : Stmt := top 37
abbrev N__law_tree_of : List Str := ["order", "found", "at", "lower", "upper", "near", "later", "key"]
theorem sc__law_tree_of : FnScope N__law_tree_of ["order"] (defScope s__law_tree_of) := ⟨rfl, rfl, rfl, by decide +kernel, rfl, by decide +kernel, by decide +kernel⟩
abbrev s__law_children : Stmt := top 38
abbrev N__law_children : List Str := ["tree", "key", "parent"]
theorem sc__law_children : FnScope N__law_children ["tree"] (defScope s__law_children) := ⟨rfl, rfl, rfl, by decide +kernel, rfl, by decide +kernel, by decide +kernel⟩
abbrev s__law_expected : Stmt := top 39
abbrev N__law_expected : List Str := ["first", "second", "items", "current", "item"]
theorem sc__law_expected : FnScope N__law_expected ["first", "second", "items"] (defScope s__law_expected) := ⟨rfl, rfl, rfl, by decide +kernel, rfl, by decide +kernel, by decide +kernel⟩
abbrev s__law_random_list : Stmt := top 40
abbrev N__law_random_list : List Str := ["source", "first", "second", "found", "at", "odd", "way", "current", "turn", "some", "key", "parent"]
theorem sc__law_random_list : FnScope N__law_random_list ["source", "first", "second"] (defScope s__law_random_list) := ⟨rfl, rfl, rfl, by decide +kernel, rfl, by decide +kernel, by decide +kernel⟩
abbrev s__law_long_lists_hold : Stmt := top 41
abbrev N__law_long_lists_hold : List Str := ["one", "turns"]
theorem sc__law_long_lists_hold : FnScope N__law_long_lists_hold [] (defScope s__law_long_lists_hold) := ⟨rfl, rfl, rfl, by decide +kernel, rfl, by decide +kernel, by decide +kernel⟩
abbrev s_law : Stmt := top 42
abbrev N_law : List Str := ["script", "source", "keys", "first", "second", "saved", "odd", "items"]
theorem sc_law : FnScope N_law ["script"] (defScope s_law) := ⟨rfl, rfl, rfl, by decide +kernel, rfl, by decide +kernel, by decide +kernel⟩
structure Tx (K : PySem.W.Frag) (mg : Str → Option Value) (f0 f1 f2 f3 f4 f5 f6 f7 f8 f9 f10 f11 f12 f13 f14 f15 f16 f17 f18 f19 f20 f21 f22 f23 f24 f25 f26 f27 f28 f29 : Addr) (fd0 fd1 fd2 fd3 fd4 fd5 fd6 fd7 fd8 fd9 fd10 fd11 fd12 fd13 fd14 fd15 fd16 fd17 fd18 fd19 fd20 fd21 fd22 fd23 fd24 fd25 fd26 fd27 fd28 fd29 : FuncData) : Prop where
  F_is_integer : Fun K "is_integer" "is_integer" s_is_integer f0 fd0
  m_is_integer : mg "is_integer" = some (.ref f0)
  b_is_integer : Binds K fd0 ["candidate"] []
  F_is_between : Fun K "is_between" "is_between" s_is_between f1 fd1
  m_is_between : mg "is_between" = some (.ref f1)
  b_is_between : Binds K fd1 ["candidate", "low", "high"] []
  F_is_key : Fun K "is_key" "is_key" s_is_key f2 fd2
  m_is_key : mg "is_key" = some (.ref f2)
  b_is_key : Binds K fd2 ["candidate"] []
  F_is_one_of : Fun K "is_one_of" "is_one_of" s_is_one_of f3 fd3
  m_is_one_of : mg "is_one_of" = some (.ref f3)
  b_is_one_of : Binds K fd3 ["keys", "candidate"] []
  F_check_same_keys : Fun K "check_same_keys" "check_same_keys" s_check_same_keys f4 fd4
  m_check_same_keys : mg "check_same_keys" = some (.ref f4)
  b_check_same_keys : Binds K fd4 ["first", "second"] []
  F_parents_by_order : Fun K "parents_by_order" "parents_by_order" s_parents_by_order f5 fd5
  m_parents_by_order : mg "parents_by_order" = some (.ref f5)
  b_parents_by_order : Binds K fd5 ["order"] []
  F_tree_of : Fun K "tree_of" "tree_of" s_tree_of f6 fd6
  m_tree_of : mg "tree_of" = some (.ref f6)
  b_tree_of : Binds K fd6 ["parents"] []
  F_parents_of : Fun K "parents_of" "parents_of" s_parents_of f7 fd7
  m_parents_of : mg "parents_of" = some (.ref f7)
  b_parents_of : Binds K fd7 ["tree"] []
  F_is_pair : Fun K "is_pair" "is_pair" s_is_pair f8 fd8
  m_is_pair : mg "is_pair" = some (.ref f8)
  b_is_pair : Binds K fd8 ["candidate"] []
  F_order_from : Fun K "order_from" "order_from" s_order_from f9 fd9
  m_order_from : mg "order_from" = some (.ref f9)
  b_order_from : Binds K fd9 ["parents"] []
  F_is_tree : Fun K "is_tree" "is_tree" s_is_tree f10 fd10
  m_is_tree : mg "is_tree" = some (.ref f10)
  b_is_tree : Binds K fd10 ["candidate"] []
  F_check_tree : Fun K "check_tree" "check_tree" s_check_tree f11 fd11
  m_check_tree : mg "check_tree" = some (.ref f11)
  b_check_tree : Binds K fd11 ["candidate"] []
  F_check_key : Fun K "check_key" "check_key" s_check_key f12 fd12
  m_check_key : mg "check_key" = some (.ref f12)
  b_check_key : Binds K fd12 ["keys", "candidate"] []
  F_children_by : Fun K "children_by" "children_by" s_children_by f13 fd13
  m_children_by : mg "children_by" = some (.ref f13)
  b_children_by : Binds K fd13 ["parents", "key"] []
  F_rotate_in : Fun K "rotate_in" "rotate_in" s_rotate_in f14 fd14
  m_rotate_in : mg "rotate_in" = some (.ref f14)
  b_rotate_in : Binds K fd14 ["parents", "key"] []
  F_check_rotation : Fun K "check_rotation" "check_rotation" s_check_rotation f15 fd15
  m_check_rotation : mg "check_rotation" = some (.ref f15)
  b_check_rotation : Binds K fd15 ["tree", "key"] []
  F_rotated : Fun K "rotated" "rotated" s_rotated f16 fd16
  m_rotated : mg "rotated" = some (.ref f16)
  b_rotated : Binds K fd16 ["tree", "key"] []
  F_check_two_trees : Fun K "check_two_trees" "check_two_trees" s_check_two_trees f17 fd17
  m_check_two_trees : mg "check_two_trees" = some (.ref f17)
  b_check_two_trees : Binds K fd17 ["first", "second"] []
  F_route : Fun K "route" "route" s_route f18 fd18
  m_route : mg "route" = some (.ref f18)
  b_route : Binds K fd18 ["first", "second"] []
  F_is_route : Fun K "is_route" "is_route" s_is_route f19 fd19
  m_is_route : mg "is_route" = some (.ref f19)
  b_is_route : Binds K fd19 ["first", "second", "candidate"] []
  F__law_box : Fun K "_law_box" "_law_box" s__law_box f20 fd20
  m__law_box : mg "_law_box" = some (.ref f20)
  b__law_box : Binds K fd20 ["script"] []
  F__law_draw : Fun K "_law_draw" "_law_draw" s__law_draw f21 fd21
  m__law_draw : mg "_law_draw" = some (.ref f21)
  b__law_draw : Binds K fd21 ["source", "count"] []
  F__law_keys : Fun K "_law_keys" "_law_keys" s__law_keys f22 fd22
  m__law_keys : mg "_law_keys" = some (.ref f22)
  b__law_keys : Binds K fd22 ["source", "least", "most"] []
  F__law_shuffled : Fun K "_law_shuffled" "_law_shuffled" s__law_shuffled f23 fd23
  m__law_shuffled : mg "_law_shuffled" = some (.ref f23)
  b__law_shuffled : Binds K fd23 ["source", "items"] []
  F__law_tree_of : Fun K "_law_tree_of" "_law_tree_of" s__law_tree_of f24 fd24
  m__law_tree_of : mg "_law_tree_of" = some (.ref f24)
  b__law_tree_of : Binds K fd24 ["order"] []
  F__law_children : Fun K "_law_children" "_law_children" s__law_children f25 fd25
  m__law_children : mg "_law_children" = some (.ref f25)
  b__law_children : Binds K fd25 ["tree"] []
  F__law_expected : Fun K "_law_expected" "_law_expected" s__law_expected f26 fd26
  m__law_expected : mg "_law_expected" = some (.ref f26)
  b__law_expected : Binds K fd26 ["first", "second", "items"] []
  F__law_random_list : Fun K "_law_random_list" "_law_random_list" s__law_random_list f27 fd27
  m__law_random_list : mg "_law_random_list" = some (.ref f27)
  b__law_random_list : Binds K fd27 ["source", "first", "second"] []
  F__law_long_lists_hold : Fun K "_law_long_lists_hold" "_law_long_lists_hold" s__law_long_lists_hold f28 fd28
  m__law_long_lists_hold : mg "_law_long_lists_hold" = some (.ref f28)
  b__law_long_lists_hold : Binds K fd28 [] []
  F_law : Fun K "law" "law" s_law f29 fd29
  m_law : mg "law" = some (.ref f29)
  b_law : Binds K fd29 ["script"] []
  z_abs : mg "abs" = none
  z_all : mg "all" = none
  z_bool : mg "bool" = none
  z_dict : mg "dict" = none
  z_int : mg "int" = none
  z_isinstance : mg "isinstance" = none
  z_len : mg "len" = none
  z_list : mg "list" = none
  z_max : mg "max" = none
  z_min : mg "min" = none
  z_range : mg "range" = none
  z_repr : mg "repr" = none
  z_sorted : mg "sorted" = none
  z_tuple : mg "tuple" = none
  c_MAX_KEY : ∃ t, mg "MAX_KEY" = some (.int c_MAX_KEY t)
  c_MAX_KEYS : ∃ t, mg "MAX_KEYS" = some (.int c_MAX_KEYS t)
  c_MAX_ROUTE : ∃ t, mg "MAX_ROUTE" = some (.int c_MAX_ROUTE t)
section
variable {P : Program} {w : World} {K : PySem.W.Frag} {mg : Str → Option Value} {base : Heap} {f0 f1 f2 f3 f4 f5 f6 f7 f8 f9 f10 f11 f12 f13 f14 f15 f16 f17 f18 f19 f20 f21 f22 f23 f24 f25 f26 f27 f28 f29 : Addr} {fd0 fd1 fd2 fd3 fd4 fd5 fd6 fd7 fd8 fd9 fd10 fd11 fd12 fd13 fd14 fd15 fd16 fd17 fd18 fd19 fd20 fd21 fd22 fd23 fd24 fd25 fd26 fd27 fd28 fd29 : FuncData}
theorem ok_is_integer (T : Tx K mg f0 f1 f2 f3 f4 f5 f6 f7 f8 f9 f10 f11 f12 f13 f14 f15 f16 f17 f18 f19 f20 f21 f22 f23 f24 f25 f26 f27 f28 f29 fd0 fd1 fd2 fd3 fd4 fd5 fd6 fd7 fd8 fd9 fd10 fd11 fd12 fd13 fd14 fd15 fd16 fd17 fd18 fd19 fd20 fd21 fd22 fd23 fd24 fd25 fd26 fd27 fd28 fd29) : FnOkG P w K mg base CX0 1 f0 fd0 ["candidate"] (fun vs H Q E => vs.length = 1 ∧ spF K w f_is_integer vs H Q E) := by
  exact fn0 T.F_is_integer sc_is_integer b_is_integer (by decide) fun cdv A outer s H E hr =>
    (ss_one (s_ret (v_and (v_isi (T := "int") (fun h => pe_callB call_isi (by rfl) T.z_isinstance (by decide +kernel) h) (pe_bltn (v := .ty "int") (by rfl) T.z_int (by decide +kernel) rfl) (v_name 0)) (v_one (v_not (v_isi (T := "bool") (fun h => pe_callB call_isi (by rfl) T.z_isinstance (by decide +kernel) h) (pe_bltn (v := .ty "bool") (by rfl) T.z_bool (by decide +kernel) rfl) (v_name 0)))))))
theorem ok_is_between (T : Tx K mg f0 f1 f2 f3 f4 f5 f6 f7 f8 f9 f10 f11 f12 f13 f14 f15 f16 f17 f18 f19 f20 f21 f22 f23 f24 f25 f26 f27 f28 f29 fd0 fd1 fd2 fd3 fd4 fd5 fd6 fd7 fd8 fd9 fd10 fd11 fd12 fd13 fd14 fd15 fd16 fd17 fd18 fd19 fd20 fd21 fd22 fd23 fd24 fd25 fd26 fd27 fd28 fd29) : FnOkG P w K mg base CX0 2 f1 fd1 ["candidate", "low", "high"] (fun vs H Q E => vs.length = 3 ∧ spF K w f_is_between vs H Q E) := by
  exact fn0 T.F_is_between sc_is_between b_is_between (by decide) fun cdv A outer s H E hr =>
    (ss_one (s_ret (v_and (v_call (n := n_is_integer) (body := b_is_integer) rfl (fun h => callG (ok_is_integer T) (hr.mono (by decide)) (by rfl) T.m_is_integer T.F_is_integer.kp T.b_is_integer .nil pass0 h) rfl (a_sh (v_name 0) a_nil) (laS la0)) (v_one (v_chain op_le op_le k_le k_le (v_name 1) (v_name 0) (v_name 2))))))
theorem ok_is_key (T : Tx K mg f0 f1 f2 f3 f4 f5 f6 f7 f8 f9 f10 f11 f12 f13 f14 f15 f16 f17 f18 f19 f20 f21 f22 f23 f24 f25 f26 f27 f28 f29 fd0 fd1 fd2 fd3 fd4 fd5 fd6 fd7 fd8 fd9 fd10 fd11 fd12 fd13 fd14 fd15 fd16 fd17 fd18 fd19 fd20 fd21 fd22 fd23 fd24 fd25 fd26 fd27 fd28 fd29) : FnOkG P w K mg base CX0 3 f2 fd2 ["candidate"] (fun vs H Q E => vs.length = 1 ∧ spF K w f_is_key vs H Q E) := by
  obtain ⟨t_MAX_KEY, g_MAX_KEY⟩ := T.c_MAX_KEY
  exact fn0 T.F_is_key sc_is_key b_is_key (by decide) fun cdv A outer s H E hr =>
    (ss_one (s_ret (v_call (n := n_is_between) (body := b_is_between) rfl (fun h => callG (ok_is_between T) (hr.mono (by decide)) (by rfl) T.m_is_between T.F_is_between.kp T.b_is_between .nil pass0 h) rfl (a_sh (v_name 0) (a_sh (v_un un_neg k_neg (v_glob (v := .int c_MAX_KEY) rfl g_MAX_KEY ⟨_, rfl⟩ (fun _ => .int _))) (a_sh (v_glob (v := .int c_MAX_KEY) rfl g_MAX_KEY ⟨_, rfl⟩ (fun _ => .int _)) a_nil))) (laS (laS (laS la0))))))
theorem ok_is_one_of (T : Tx K mg f0 f1 f2 f3 f4 f5 f6 f7 f8 f9 f10 f11 f12 f13 f14 f15 f16 f17 f18 f19 f20 f21 f22 f23 f24 f25 f26 f27 f28 f29 fd0 fd1 fd2 fd3 fd4 fd5 fd6 fd7 fd8 fd9 fd10 fd11 fd12 fd13 fd14 fd15 fd16 fd17 fd18 fd19 fd20 fd21 fd22 fd23 fd24 fd25 fd26 fd27 fd28 fd29) : FnOkG P w K mg base CX0 2 f3 fd3 ["keys", "candidate"] (fun vs H Q E => vs.length = 2 ∧ spF K w f_is_one_of vs H Q E) := by
  exact fn0 T.F_is_one_of sc_is_one_of b_is_one_of (by decide) fun cdv A outer s H E hr =>
    (ss_one (s_ret (v_and (v_call (n := n_is_integer) (body := b_is_integer) rfl (fun h => callG (ok_is_integer T) (hr.mono (by decide)) (by rfl) T.m_is_integer T.F_is_integer.kp T.b_is_integer .nil pass0 h) rfl (a_sh (v_name 1) a_nil) (laS la0)) (v_one (v_cmp (o_in (hu65 hr)) k_in.ok2 (v_name 1) (v_name 0) (by rfl))))))
theorem ok_check_same_keys (T : Tx K mg f0 f1 f2 f3 f4 f5 f6 f7 f8 f9 f10 f11 f12 f13 f14 f15 f16 f17 f18 f19 f20 f21 f22 f23 f24 f25 f26 f27 f28 f29 fd0 fd1 fd2 fd3 fd4 fd5 fd6 fd7 fd8 fd9 fd10 fd11 fd12 fd13 fd14 fd15 fd16 fd17 fd18 fd19 fd20 fd21 fd22 fd23 fd24 fd25 fd26 fd27 fd28 fd29) : FnOkG P w K mg base CX0 1 f4 fd4 ["first", "second"] (fun vs H Q E => vs.length = 2 ∧ spF K w f_check_same_keys vs H Q E) := by
  exact fn0 T.F_check_same_keys sc_check_same_keys b_check_same_keys (by decide) fun cdv A outer s H E hr =>
    (ss_cons (s_asg (i := 2) sc_check_same_keys.nd rfl (Or.inl rfl) (v_op o_add k_add (v_lc (own := [("key", 3)]) rfl sc_check_same_keys.nd  (i_any (v_name 0)) (blkOk_by (own := [("key", 3)]) (N := N_check_same_keys) (sc := defScope s_check_same_keys) (by decide +kernel)) (by decide) (fun _ _ _ _ _ => (g_name (i := 3) sc_check_same_keys.nd rfl (Or.inl rfl))) (fun _ _ _ _ _ => (ts_one (b_cmp (o_notIn (hu65 hr)) k_notIn.ok2 (v_name 3) (v_name 1) (by rfl)))) (fun _ _ _ _ _ => d_of (v_name 3))) (v_lc (own := [("key", 3)]) rfl sc_check_same_keys.nd  (i_any (v_name 1)) (blkOk_by (own := [("key", 3)]) (N := N_check_same_keys) (sc := defScope s_check_same_keys) (by decide +kernel)) (by decide) (fun _ _ _ _ _ => (g_name (i := 3) sc_check_same_keys.nd rfl (Or.inl rfl))) (fun _ _ _ _ _ => (ts_one (b_cmp (o_notIn (hu65 hr)) k_notIn.ok2 (v_name 3) (v_name 0) (by rfl)))) (fun _ _ _ _ _ => d_of (v_name 3)))))
    (ss_one (s_if (b_tru (v_name 2)) (ss_one s_never) ss_nil)))
theorem ok_parents_by_order (T : Tx K mg f0 f1 f2 f3 f4 f5 f6 f7 f8 f9 f10 f11 f12 f13 f14 f15 f16 f17 f18 f19 f20 f21 f22 f23 f24 f25 f26 f27 f28 f29 fd0 fd1 fd2 fd3 fd4 fd5 fd6 fd7 fd8 fd9 fd10 fd11 fd12 fd13 fd14 fd15 fd16 fd17 fd18 fd19 fd20 fd21 fd22 fd23 fd24 fd25 fd26 fd27 fd28 fd29) : FnOkG P w K mg base CX0 1 f5 fd5 ["order"] (fun vs H Q E => vs.length = 1 ∧ spF K w f_parents_by_order vs H Q E) := by
  exact fn0 T.F_parents_by_order sc_parents_by_order b_parents_by_order (by decide) fun cdv A outer s H E hr =>
    (ss_cons (s_asg (i := 1) sc_parents_by_order.nd rfl (Or.inl rfl) v_dic0)
    (ss_cons (s_asg (i := 2) sc_parents_by_order.nd rfl (Or.inl rfl) v_dic0)
    (ss_cons (s_asg (i := 3) sc_parents_by_order.nd rfl (Or.inl rfl) v_dic0)
    (ss_cons (s_for PassesOwn.never rfl (i_any (v_name 0)) (g_name (i := 4) sc_parents_by_order.nd rfl (Or.inl rfl)) (ss_cons (s_asg (i := 5) sc_parents_by_order.nd rfl (Or.inl rfl) v_non)
    (ss_cons (s_asg (i := 6) sc_parents_by_order.nd rfl (Or.inl rfl) (v_ix (o_ix (hu1 hr)) k_ix (v_name 0) v_int (fun _ _ => rfl)))
    (ss_cons (s_while PassesOwn.never (b_w (w_and (b_cmp o_isNot k_isNot.ok2 (v_name 6) v_non (nomark _)) (w_and1 (b_cmp (o_ne (hu64 hr)) k_ne.ok2 (v_name 6) (v_name 4) (nomark _))))) (ss_cons (s_asg (i := 5) sc_parents_by_order.nd rfl (Or.inl rfl) (v_name 6))
    (ss_one (s_asg (i := 6) sc_parents_by_order.nd rfl (Or.inl rfl) (v_if (b_cmp op_lt k_lt.ok2 (v_name 4) (v_name 6) (nomark _)) (v_get1 (hu1 hr) (v_name 2) (v_name 6)) (v_get1 (hu1 hr) (v_name 3) (v_name 6)))))))
    (ss_cons (s_sub 1 (hu1 hr) (v_name 4) (v_name 5))
    (ss_one (s_if (b_w (w_and (b_cmp o_isNot k_isNot.ok2 (v_name 5) v_non (nomark _)) (w_and1 (b_cmp op_lt k_lt.ok2 (v_name 4) (v_name 5) (nomark _))))) (ss_one (s_sub 2 (hu1 hr) (v_name 5) (v_name 4))) (ss_one (s_if (b_cmp o_isNot k_isNot.ok2 (v_name 5) v_non (nomark _)) (ss_one (s_sub 3 (hu1 hr) (v_name 5) (v_name 4))) ss_nil)))))))))
    (ss_one (s_ret (v_name 1)))))))
theorem ok_tree_of (T : Tx K mg f0 f1 f2 f3 f4 f5 f6 f7 f8 f9 f10 f11 f12 f13 f14 f15 f16 f17 f18 f19 f20 f21 f22 f23 f24 f25 f26 f27 f28 f29 fd0 fd1 fd2 fd3 fd4 fd5 fd6 fd7 fd8 fd9 fd10 fd11 fd12 fd13 fd14 fd15 fd16 fd17 fd18 fd19 fd20 fd21 fd22 fd23 fd24 fd25 fd26 fd27 fd28 fd29) : FnOkG P w K mg base CX0 1 f6 fd6 ["parents"] (fun vs H Q E => vs.length = 1 ∧ spF K w f_tree_of vs H Q E) := by
  exact fn0 T.F_tree_of sc_tree_of b_tree_of (by decide) fun cdv A outer s H E hr =>
    (ss_one (s_ret (v_call1 (fun h => pe_callTy call_tupleX (by rfl) T.z_tuple (by decide +kernel) h) k_tuple (v_srtD (fun h => pe_callB (cr_sortedItK rfl (hu64 hr)) (by rfl) T.z_sorted (by decide +kernel) h) (v_name 0)))))
theorem ok_parents_of (T : Tx K mg f0 f1 f2 f3 f4 f5 f6 f7 f8 f9 f10 f11 f12 f13 f14 f15 f16 f17 f18 f19 f20 f21 f22 f23 f24 f25 f26 f27 f28 f29 fd0 fd1 fd2 fd3 fd4 fd5 fd6 fd7 fd8 fd9 fd10 fd11 fd12 fd13 fd14 fd15 fd16 fd17 fd18 fd19 fd20 fd21 fd22 fd23 fd24 fd25 fd26 fd27 fd28 fd29) : FnOkG P w K mg base CX0 1 f7 fd7 ["tree"] (fun vs H Q E => vs.length = 1 ∧ spF K w f_parents_of vs H Q E) := by
  exact fn0 T.F_parents_of sc_parents_of b_parents_of (by decide) fun cdv A outer s H E hr =>
    (ss_one (s_ret (v_call1 (fun h => pe_callTy (call_dictA rfl) (by rfl) T.z_dict (by decide +kernel) h) k_dictA (v_name 0))))
theorem ok_is_pair (T : Tx K mg f0 f1 f2 f3 f4 f5 f6 f7 f8 f9 f10 f11 f12 f13 f14 f15 f16 f17 f18 f19 f20 f21 f22 f23 f24 f25 f26 f27 f28 f29 fd0 fd1 fd2 fd3 fd4 fd5 fd6 fd7 fd8 fd9 fd10 fd11 fd12 fd13 fd14 fd15 fd16 fd17 fd18 fd19 fd20 fd21 fd22 fd23 fd24 fd25 fd26 fd27 fd28 fd29) : FnOkG P w K mg base CX0 4 f8 fd8 ["candidate"] (fun vs H Q E => vs.length = 1 ∧ spF K w f_is_pair vs H Q E) := by
  exact fn0 T.F_is_pair sc_is_pair b_is_pair (by decide) fun cdv A outer s H E hr =>
    (ss_cons (s_if (b_w (w_or (b_not (b_tru (v_isi (T := "tuple") (fun h => pe_callB call_isi (by rfl) T.z_isinstance (by decide +kernel) h) (pe_bltn (v := .ty "tuple") (by rfl) T.z_tuple (by decide +kernel) rfl) (v_name 0)))) (w_or1 (b_cmp (o_ne (hu64 hr)) k_ne.ok2 (v_call1 (fun h => pe_callB call_lenA (by rfl) T.z_len (by decide +kernel) h) k_len (v_name 0)) v_int (nomark _))))) (ss_one (s_ret v_bl)) ss_nil)
    (ss_one (s_ret (v_and (v_call (n := n_is_key) (body := b_is_key) rfl (fun h => callG (ok_is_key T) (hr.mono (by decide)) (by rfl) T.m_is_key T.F_is_key.kp T.b_is_key .nil pass0 h) rfl (a_sh (v_ix (o_ix (hu1 hr)) k_ix (v_name 0) v_int (fun _ _ => rfl)) a_nil) (laS la0)) (v_one (v_or (v_cmp o_is k_is.ok2 (v_ix (o_ix (hu1 hr)) k_ix (v_name 0) v_int (fun _ _ => rfl)) v_non (nomark _)) (v_one (v_call (n := n_is_key) (body := b_is_key) rfl (fun h => callG (ok_is_key T) (hr.mono (by decide)) (by rfl) T.m_is_key T.F_is_key.kp T.b_is_key .nil pass0 h) rfl (a_sh (v_ix (o_ix (hu1 hr)) k_ix (v_name 0) v_int (fun _ _ => rfl)) a_nil) (laS la0)))))))))
theorem ok_order_from (T : Tx K mg f0 f1 f2 f3 f4 f5 f6 f7 f8 f9 f10 f11 f12 f13 f14 f15 f16 f17 f18 f19 f20 f21 f22 f23 f24 f25 f26 f27 f28 f29 fd0 fd1 fd2 fd3 fd4 fd5 fd6 fd7 fd8 fd9 fd10 fd11 fd12 fd13 fd14 fd15 fd16 fd17 fd18 fd19 fd20 fd21 fd22 fd23 fd24 fd25 fd26 fd27 fd28 fd29) : FnOkG P w K mg base CX0 1 f9 fd9 ["parents"] (fun vs H Q E => vs.length = 1 ∧ spF K w f_order_from vs H Q E) := by
  exact fn0 T.F_order_from sc_order_from b_order_from (by decide) fun cdv A outer s H E hr =>
    (ss_cons (s_asg (i := 1) sc_order_from.nd rfl (Or.inl rfl) (v_lst a_nil))
    (ss_cons (s_asg (i := 2) sc_order_from.nd rfl (Or.inr rfl) (v_lst (a_sh v_non a_nil)))
    (ss_cons (s_while PassesOwn.never (b_tru (v_name 2)) (ss_cons (s_asg (i := 2) sc_order_from.nd rfl (Or.inr rfl) (v_call1 (fun h => pe_callB (cr_sortedA rfl) (by rfl) T.z_sorted (by decide +kernel) h) k_sortedA (v_lc (js := [3, 4]) (t := tTup [3, 4]) (g := gTL K 2 (gCons (gName 3) (gCons (gName 4) gNil))) (own := [("key", 3), ("parent", 4)]) rfl sc_order_from.nd  (i_items (v_name 0)) (blkOk_by (own := [("key", 3), ("parent", 4)]) (N := N_order_from) (sc := defScope s_order_from) (by decide +kernel)) (by decide) (fun _ _ _ _ _ => by refine (g_tup rfl (gs_cons (i := 3) sc_order_from.nd rfl (Or.inl rfl) (gs_cons (i := 4) sc_order_from.nd rfl (Or.inl rfl) gs_nil)))) (fun _ _ _ _ _ => (ts_one (b_cmp (o_in (hu65 hr)) k_in.ok2 (v_name 4) (v_name 2) (by rfl)))) (fun _ _ _ _ _ => d_of (v_name 3)))))
    (ss_one (s_asg (i := 1) sc_order_from.nd rfl (Or.inl rfl) (v_op o_add k_add (v_name 1) (v_name 2))))))
    (ss_one (s_ret (v_if (b_cmp (o_eq (hu64 hr)) k_eq.ok2 (v_call1 (fun h => pe_callB call_lenA (by rfl) T.z_len (by decide +kernel) h) k_len (v_name 1)) (v_call1 (fun h => pe_callB call_lenA (by rfl) T.z_len (by decide +kernel) h) k_len (v_name 0)) (nomark _)) (v_name 1) v_non))))))
theorem ok_is_tree (T : Tx K mg f0 f1 f2 f3 f4 f5 f6 f7 f8 f9 f10 f11 f12 f13 f14 f15 f16 f17 f18 f19 f20 f21 f22 f23 f24 f25 f26 f27 f28 f29 fd0 fd1 fd2 fd3 fd4 fd5 fd6 fd7 fd8 fd9 fd10 fd11 fd12 fd13 fd14 fd15 fd16 fd17 fd18 fd19 fd20 fd21 fd22 fd23 fd24 fd25 fd26 fd27 fd28 fd29) : FnOkG P w K mg base CX0 5 f10 fd10 ["candidate"] (fun vs H Q E => vs.length = 1 ∧ spF K w f_is_tree vs H Q E) := by
  obtain ⟨t_MAX_KEYS, g_MAX_KEYS⟩ := T.c_MAX_KEYS
  exact fn0 T.F_is_tree sc_is_tree b_is_tree (by decide) fun cdv A outer s H E hr =>
    (ss_cons (s_if (b_w (w_or (b_not (b_tru (v_isi (T := "tuple") (fun h => pe_callB call_isi (by rfl) T.z_isinstance (by decide +kernel) h) (pe_bltn (v := .ty "tuple") (by rfl) T.z_tuple (by decide +kernel) rfl) (v_name 0)))) (w_or1 (b_cmp op_gt k_gt.ok2 (v_call1 (fun h => pe_callB call_lenA (by rfl) T.z_len (by decide +kernel) h) k_len (v_name 0)) (v_glob (v := .int c_MAX_KEYS) rfl g_MAX_KEYS ⟨_, rfl⟩ (fun _ => .int _)) (nomark _))))) (ss_one (s_ret v_bl)) ss_nil)
    (ss_cons (s_if (b_not (b_tru (v_call1 (fun h => pe_callB (cr_all rfl) (by rfl) T.z_all (by decide +kernel) h) k_all (v_lc (own := [("pair", 3)]) rfl sc_is_tree.nd  (i_any (v_name 0)) (blkOk_by (own := [("pair", 3)]) (N := N_is_tree) (sc := defScope s_is_tree) (by decide +kernel)) (by decide) (fun _ _ _ _ _ => (g_name (i := 3) sc_is_tree.nd rfl (Or.inl rfl))) (fun _ _ _ _ _ => ts_nil) (fun _ _ _ _ _ => d_of (v_call (n := n_is_pair) (body := b_is_pair) rfl (fun h => callG (ok_is_pair T) (hr.mono (by decide)) (by rfl) T.m_is_pair T.F_is_pair.kp T.b_is_pair .nil pass0 h) rfl (a_sh (v_name 3) a_nil) (laS la0))))))) (ss_one (s_ret v_bl)) ss_nil)
    (ss_cons (s_asg (i := 1) sc_is_tree.nd rfl (Or.inl rfl) (v_call1 (fun h => pe_callTy (call_dictA rfl) (by rfl) T.z_dict (by decide +kernel) h) k_dictA (v_name 0)))
    (ss_cons (s_asg (i := 2) sc_is_tree.nd rfl (Or.inl rfl) (v_call (n := n_order_from) (body := b_order_from) rfl (fun h => callG (ok_order_from T) (hr.mono (by decide)) (by rfl) T.m_order_from T.F_order_from.kp T.b_order_from .nil pass0 h) rfl (a_sh (v_name 1) a_nil) (laS la0)))
    (ss_one (s_ret (v_and (v_cmp o_isNot k_isNot.ok2 (v_name 2) v_non (nomark _)) (v_and (v_cmp (o_eq (hu64 hr)) k_eq.ok2 (v_call1 (fun h => pe_callB call_lenA (by rfl) T.z_len (by decide +kernel) h) k_len (v_name 1)) (v_call1 (fun h => pe_callB call_lenA (by rfl) T.z_len (by decide +kernel) h) k_len (v_name 0)) (nomark _)) (v_one (v_cmp (o_eq (hu64 hr)) k_eq.ok2 (v_call (n := n_tree_of) (body := b_tree_of) rfl (fun h => callG (ok_tree_of T) (hr.mono (by decide)) (by rfl) T.m_tree_of T.F_tree_of.kp T.b_tree_of .nil pass0 h) rfl (a_sh (v_call (n := n_parents_by_order) (body := b_parents_by_order) rfl (fun h => callG (ok_parents_by_order T) (hr.mono (by decide)) (by rfl) T.m_parents_by_order T.F_parents_by_order.kp T.b_parents_by_order .nil pass0 h) rfl (a_sh (v_name 2) a_nil) (laS la0)) a_nil) (laS la0)) (v_name 0) (nomark _)))))))))))
theorem ok_check_tree (T : Tx K mg f0 f1 f2 f3 f4 f5 f6 f7 f8 f9 f10 f11 f12 f13 f14 f15 f16 f17 f18 f19 f20 f21 f22 f23 f24 f25 f26 f27 f28 f29 fd0 fd1 fd2 fd3 fd4 fd5 fd6 fd7 fd8 fd9 fd10 fd11 fd12 fd13 fd14 fd15 fd16 fd17 fd18 fd19 fd20 fd21 fd22 fd23 fd24 fd25 fd26 fd27 fd28 fd29) : FnOkG P w K mg base CX0 6 f11 fd11 ["candidate"] (fun vs H Q E => vs.length = 1 ∧ spF K w f_check_tree vs H Q E) := by
  exact fn0 T.F_check_tree sc_check_tree b_check_tree (by decide) fun cdv A outer s H E hr =>
    (ss_one (s_if (b_not (b_tru (v_call (n := n_is_tree) (body := b_is_tree) rfl (fun h => callG (ok_is_tree T) (hr.mono (by decide)) (by rfl) T.m_is_tree T.F_is_tree.kp T.b_is_tree .nil pass0 h) rfl (a_sh (v_name 0) a_nil) (laS la0)))) (ss_one s_never) ss_nil))
theorem ok_check_key (T : Tx K mg f0 f1 f2 f3 f4 f5 f6 f7 f8 f9 f10 f11 f12 f13 f14 f15 f16 f17 f18 f19 f20 f21 f22 f23 f24 f25 f26 f27 f28 f29 fd0 fd1 fd2 fd3 fd4 fd5 fd6 fd7 fd8 fd9 fd10 fd11 fd12 fd13 fd14 fd15 fd16 fd17 fd18 fd19 fd20 fd21 fd22 fd23 fd24 fd25 fd26 fd27 fd28 fd29) : FnOkG P w K mg base CX0 3 f12 fd12 ["keys", "candidate"] (fun vs H Q E => vs.length = 2 ∧ spF K w f_check_key vs H Q E) := by
  exact fn0 T.F_check_key sc_check_key b_check_key (by decide) fun cdv A outer s H E hr =>
    (ss_one (s_if (b_not (b_tru (v_call (n := n_is_one_of) (body := b_is_one_of) rfl (fun h => callG (ok_is_one_of T) (hr.mono (by decide)) (by rfl) T.m_is_one_of T.F_is_one_of.kp T.b_is_one_of .nil pass0 h) rfl (a_sh (v_name 0) (a_sh (v_name 1) a_nil)) (laS (laS la0))))) (ss_one s_never) ss_nil))
theorem ok_children_by (T : Tx K mg f0 f1 f2 f3 f4 f5 f6 f7 f8 f9 f10 f11 f12 f13 f14 f15 f16 f17 f18 f19 f20 f21 f22 f23 f24 f25 f26 f27 f28 f29 fd0 fd1 fd2 fd3 fd4 fd5 fd6 fd7 fd8 fd9 fd10 fd11 fd12 fd13 fd14 fd15 fd16 fd17 fd18 fd19 fd20 fd21 fd22 fd23 fd24 fd25 fd26 fd27 fd28 fd29) : FnOkG P w K mg base CX0 1 f13 fd13 ["parents", "key"] (fun vs H Q E => vs.length = 2 ∧ spF K w f_children_by vs H Q E) := by
  exact fn0 T.F_children_by sc_children_by b_children_by (by decide) fun cdv A outer s H E hr =>
    (ss_cons (s_asgT (v_tup (a_sh v_non (a_sh v_non a_nil))) (g_tup rfl (gs_cons (i := 2) sc_children_by.nd rfl (Or.inl rfl) (gs_cons (i := 3) sc_children_by.nd rfl (Or.inl rfl) gs_nil))))
    (ss_cons (s_for PassesOwn.never rfl (i_items (v_name 0)) (g_tup rfl (gs_cons (i := 4) sc_children_by.nd rfl (Or.inl rfl) (gs_cons (i := 5) sc_children_by.nd rfl (Or.inl rfl) gs_nil))) (ss_one (s_if (b_w (w_and (b_cmp (o_eq (hu64 hr)) k_eq.ok2 (v_name 5) (v_name 1) (nomark _)) (w_and1 (b_cmp op_lt k_lt.ok2 (v_name 4) (v_name 1) (nomark _))))) (ss_one (s_asg (i := 2) sc_children_by.nd rfl (Or.inl rfl) (v_name 4))) (ss_one (s_if (b_cmp (o_eq (hu64 hr)) k_eq.ok2 (v_name 5) (v_name 1) (nomark _)) (ss_one (s_asg (i := 3) sc_children_by.nd rfl (Or.inl rfl) (v_name 4))) ss_nil)))))
    (ss_one (s_ret (v_tup (a_sh (v_name 2) (a_sh (v_name 3) a_nil)))))))
theorem ok_rotate_in (T : Tx K mg f0 f1 f2 f3 f4 f5 f6 f7 f8 f9 f10 f11 f12 f13 f14 f15 f16 f17 f18 f19 f20 f21 f22 f23 f24 f25 f26 f27 f28 f29 fd0 fd1 fd2 fd3 fd4 fd5 fd6 fd7 fd8 fd9 fd10 fd11 fd12 fd13 fd14 fd15 fd16 fd17 fd18 fd19 fd20 fd21 fd22 fd23 fd24 fd25 fd26 fd27 fd28 fd29) : FnOkG P w K mg base CX0 2 f14 fd14 ["parents", "key"] (fun vs H Q E => vs.length = 2 ∧ spF K w f_rotate_in vs H Q E) := by
  exact fn0 T.F_rotate_in sc_rotate_in b_rotate_in (by decide) fun cdv A outer s H E hr =>
    (ss_cons (s_asg (i := 2) sc_rotate_in.nd rfl (Or.inl rfl) (v_ix (o_ix (hu1 hr)) k_ix (v_name 0) (v_name 1) (fun _ _ => rfl)))
    (ss_cons (s_asg (i := 3) sc_rotate_in.nd rfl (Or.inl rfl) (v_ix (o_ix (hu1 hr)) k_ix (v_call (n := n_children_by) (body := b_children_by) rfl (fun h => callG (ok_children_by T) (hr.mono (by decide)) (by rfl) T.m_children_by T.F_children_by.kp T.b_children_by .nil pass0 h) rfl (a_sh (v_name 0) (a_sh (v_name 1) a_nil)) (laS (laS la0))) (v_call1 (fun h => pe_callTy call_int1 (by rfl) T.z_int (by decide +kernel) h) k_int (v_cmp op_lt k_lt.ok2 (v_name 1) (v_name 2) (nomark _))) (fun _ _ => rfl)))
    (ss_cons (s_asg (i := 4) sc_rotate_in.nd rfl (Or.inl rfl) (v_dspS (d_of (v_name 0)) (GPs.cons (d_of (v_name 1)) (d_of (v_ix (o_ix (hu1 hr)) k_ix (v_name 0) (v_name 2) (fun _ _ => rfl))) (GPs.cons (d_of (v_name 2)) (d_of (v_name 1)) GPs.nil))))
    (ss_cons (s_if (b_cmp o_isNot k_isNot.ok2 (v_name 3) v_non (nomark _)) (ss_one (s_sub 4 (hu1 hr) (v_name 3) (v_name 2))) ss_nil)
    (ss_one (s_ret (v_name 4)))))))
theorem ok_check_rotation (T : Tx K mg f0 f1 f2 f3 f4 f5 f6 f7 f8 f9 f10 f11 f12 f13 f14 f15 f16 f17 f18 f19 f20 f21 f22 f23 f24 f25 f26 f27 f28 f29 fd0 fd1 fd2 fd3 fd4 fd5 fd6 fd7 fd8 fd9 fd10 fd11 fd12 fd13 fd14 fd15 fd16 fd17 fd18 fd19 fd20 fd21 fd22 fd23 fd24 fd25 fd26 fd27 fd28 fd29) : FnOkG P w K mg base CX0 7 f15 fd15 ["tree", "key"] (fun vs H Q E => vs.length = 2 ∧ spF K w f_check_rotation vs H Q E) := by
  exact fn0 T.F_check_rotation sc_check_rotation b_check_rotation (by decide) fun cdv A outer s H E hr =>
    (ss_cons (s_expr (v_call (n := n_check_tree) (body := b_check_tree) rfl (fun h => callG (ok_check_tree T) (hr.mono (by decide)) (by rfl) T.m_check_tree T.F_check_tree.kp T.b_check_tree .nil pass0 h) rfl (a_sh (v_name 0) a_nil) (laS la0)))
    (ss_cons (s_asg (i := 2) sc_check_rotation.nd rfl (Or.inl rfl) (v_call (n := n_parents_of) (body := b_parents_of) rfl (fun h => callG (ok_parents_of T) (hr.mono (by decide)) (by rfl) T.m_parents_of T.F_parents_of.kp T.b_parents_of .nil pass0 h) rfl (a_sh (v_name 0) a_nil) (laS la0)))
    (ss_cons (s_expr (v_call (n := n_check_key) (body := b_check_key) rfl (fun h => callG (ok_check_key T) (hr.mono (by decide)) (by rfl) T.m_check_key T.F_check_key.kp T.b_check_key .nil pass0 h) rfl (a_sh (v_name 2) (a_sh (v_name 1) a_nil)) (laS (laS la0))))
    (ss_one (s_if (b_cmp o_is k_is.ok2 (v_ix (o_ix (hu1 hr)) k_ix (v_name 2) (v_name 1) (fun _ _ => rfl)) v_non (nomark _)) (ss_one s_never) ss_nil)))))
theorem ok_rotated (T : Tx K mg f0 f1 f2 f3 f4 f5 f6 f7 f8 f9 f10 f11 f12 f13 f14 f15 f16 f17 f18 f19 f20 f21 f22 f23 f24 f25 f26 f27 f28 f29 fd0 fd1 fd2 fd3 fd4 fd5 fd6 fd7 fd8 fd9 fd10 fd11 fd12 fd13 fd14 fd15 fd16 fd17 fd18 fd19 fd20 fd21 fd22 fd23 fd24 fd25 fd26 fd27 fd28 fd29) : FnOkG P w K mg base CX0 8 f16 fd16 ["tree", "key"] (fun vs H Q E => vs.length = 2 ∧ spF K w f_rotated vs H Q E) := by
  exact fn0 T.F_rotated sc_rotated b_rotated (by decide) fun cdv A outer s H E hr =>
    (ss_cons (s_expr (v_call (n := n_check_rotation) (body := b_check_rotation) rfl (fun h => callG (ok_check_rotation T) (hr.mono (by decide)) (by rfl) T.m_check_rotation T.F_check_rotation.kp T.b_check_rotation .nil pass0 h) rfl (a_sh (v_name 0) (a_sh (v_name 1) a_nil)) (laS (laS la0))))
    (ss_one (s_ret (v_call (n := n_tree_of) (body := b_tree_of) rfl (fun h => callG (ok_tree_of T) (hr.mono (by decide)) (by rfl) T.m_tree_of T.F_tree_of.kp T.b_tree_of .nil pass0 h) rfl (a_sh (v_call (n := n_rotate_in) (body := b_rotate_in) rfl (fun h => callG (ok_rotate_in T) (hr.mono (by decide)) (by rfl) T.m_rotate_in T.F_rotate_in.kp T.b_rotate_in .nil pass0 h) rfl (a_sh (v_call (n := n_parents_of) (body := b_parents_of) rfl (fun h => callG (ok_parents_of T) (hr.mono (by decide)) (by rfl) T.m_parents_of T.F_parents_of.kp T.b_parents_of .nil pass0 h) rfl (a_sh (v_name 0) a_nil) (laS la0)) (a_sh (v_name 1) a_nil)) (laS (laS la0))) a_nil) (laS la0)))))
theorem ok_check_two_trees (T : Tx K mg f0 f1 f2 f3 f4 f5 f6 f7 f8 f9 f10 f11 f12 f13 f14 f15 f16 f17 f18 f19 f20 f21 f22 f23 f24 f25 f26 f27 f28 f29 fd0 fd1 fd2 fd3 fd4 fd5 fd6 fd7 fd8 fd9 fd10 fd11 fd12 fd13 fd14 fd15 fd16 fd17 fd18 fd19 fd20 fd21 fd22 fd23 fd24 fd25 fd26 fd27 fd28 fd29) : FnOkG P w K mg base CX0 7 f17 fd17 ["first", "second"] (fun vs H Q E => vs.length = 2 ∧ spF K w f_check_two_trees vs H Q E) := by
  exact fn0 T.F_check_two_trees sc_check_two_trees b_check_two_trees (by decide) fun cdv A outer s H E hr =>
    (ss_cons (s_expr (v_call (n := n_check_tree) (body := b_check_tree) rfl (fun h => callG (ok_check_tree T) (hr.mono (by decide)) (by rfl) T.m_check_tree T.F_check_tree.kp T.b_check_tree .nil pass0 h) rfl (a_sh (v_name 0) a_nil) (laS la0)))
    (ss_cons (s_expr (v_call (n := n_check_tree) (body := b_check_tree) rfl (fun h => callG (ok_check_tree T) (hr.mono (by decide)) (by rfl) T.m_check_tree T.F_check_tree.kp T.b_check_tree .nil pass0 h) rfl (a_sh (v_name 1) a_nil) (laS la0)))
    (ss_one (s_expr (v_call (n := n_check_same_keys) (body := b_check_same_keys) rfl (fun h => callG (ok_check_same_keys T) (hr.mono (by decide)) (by rfl) T.m_check_same_keys T.F_check_same_keys.kp T.b_check_same_keys .nil pass0 h) rfl (a_sh (v_call (n := n_parents_of) (body := b_parents_of) rfl (fun h => callG (ok_parents_of T) (hr.mono (by decide)) (by rfl) T.m_parents_of T.F_parents_of.kp T.b_parents_of .nil pass0 h) rfl (a_sh (v_name 0) a_nil) (laS la0)) (a_sh (v_call (n := n_parents_of) (body := b_parents_of) rfl (fun h => callG (ok_parents_of T) (hr.mono (by decide)) (by rfl) T.m_parents_of T.F_parents_of.kp T.b_parents_of .nil pass0 h) rfl (a_sh (v_name 1) a_nil) (laS la0)) a_nil)) (laS (laS la0)))))))
theorem ok_route (T : Tx K mg f0 f1 f2 f3 f4 f5 f6 f7 f8 f9 f10 f11 f12 f13 f14 f15 f16 f17 f18 f19 f20 f21 f22 f23 f24 f25 f26 f27 f28 f29 fd0 fd1 fd2 fd3 fd4 fd5 fd6 fd7 fd8 fd9 fd10 fd11 fd12 fd13 fd14 fd15 fd16 fd17 fd18 fd19 fd20 fd21 fd22 fd23 fd24 fd25 fd26 fd27 fd28 fd29) : FnOkG P w K mg base CX0 8 f18 fd18 ["first", "second"] (fun vs H Q E => vs.length = 2 ∧ spF K w f_route vs H Q E) := by
  exact fn0 T.F_route sc_route b_route (by decide) fun cdv A outer s H E hr =>
    (ss_cons (s_expr (v_call (n := n_check_two_trees) (body := b_check_two_trees) rfl (fun h => callG (ok_check_two_trees T) (hr.mono (by decide)) (by rfl) T.m_check_two_trees T.F_check_two_trees.kp T.b_check_two_trees .nil pass0 h) rfl (a_sh (v_name 0) (a_sh (v_name 1) a_nil)) (laS (laS la0))))
    (ss_cons (s_par (i := 4) (j := 5) rfl sc_route.nd rfl rfl (by decide) rfl rfl (a_sh (v_call (n := n_parents_of) (body := b_parents_of) rfl (fun h => callG (ok_parents_of T) (hr.mono (by decide)) (by rfl) T.m_parents_of T.F_parents_of.kp T.b_parents_of .nil pass0 h) rfl (a_sh (v_name 0) a_nil) (laS la0)) (a_sh (v_call (n := n_parents_of) (body := b_parents_of) rfl (fun h => callG (ok_parents_of T) (hr.mono (by decide)) (by rfl) T.m_parents_of T.F_parents_of.kp T.b_parents_of .nil pass0 h) rfl (a_sh (v_name 1) a_nil) (laS la0)) a_nil)))
    (ss_cons (s_asg (i := 2) sc_route.nd rfl (Or.inl rfl) (v_lst a_nil))
    (ss_cons (s_for PassesOwn.never rfl (i_any (v_call (n := n_order_from) (body := b_order_from) rfl (fun h => callG (ok_order_from T) (hr.mono (by decide)) (by rfl) T.m_order_from T.F_order_from.kp T.b_order_from .nil pass0 h) rfl (a_sh (v_name 5) a_nil) (laS la0))) (g_name (i := 3) sc_route.nd rfl (Or.inl rfl)) (ss_one (s_while PassesOwn.never (b_cmp (o_ne (hu64 hr)) k_ne.ok2 (v_ix (o_ix (hu1 hr)) k_ix (v_name 4) (v_name 3) (fun _ _ => rfl)) (v_ix (o_ix (hu1 hr)) k_ix (v_name 5) (v_name 3) (fun _ _ => rfl)) (nomark _)) (ss_cons (s_asg (i := 4) sc_route.nd rfl (Or.inl rfl) (v_call (n := n_rotate_in) (body := b_rotate_in) rfl (fun h => callG (ok_rotate_in T) (hr.mono (by decide)) (by rfl) T.m_rotate_in T.F_rotate_in.kp T.b_rotate_in .nil pass0 h) rfl (a_sh (v_name 4) (a_sh (v_name 3) a_nil)) (laS (laS la0))))
    (ss_one (s_expr (v_mut1 2 (fun h => pe_bm PySem.F.plainAttrs_list PySem.F.slot_list_append PySem.F.type_list_append mt_append (pv 2) h) k_app (v_name 3))))))))
    (ss_one (s_ret (v_name 2)))))))
theorem ok_is_route (T : Tx K mg f0 f1 f2 f3 f4 f5 f6 f7 f8 f9 f10 f11 f12 f13 f14 f15 f16 f17 f18 f19 f20 f21 f22 f23 f24 f25 f26 f27 f28 f29 fd0 fd1 fd2 fd3 fd4 fd5 fd6 fd7 fd8 fd9 fd10 fd11 fd12 fd13 fd14 fd15 fd16 fd17 fd18 fd19 fd20 fd21 fd22 fd23 fd24 fd25 fd26 fd27 fd28 fd29) : FnOkG P w K mg base CX0 8 f19 fd19 ["first", "second", "candidate"] (fun vs H Q E => vs.length = 3 ∧ spF K w f_is_route vs H Q E) := by
  obtain ⟨t_MAX_ROUTE, g_MAX_ROUTE⟩ := T.c_MAX_ROUTE
  exact fn0 T.F_is_route sc_is_route b_is_route (by decide) fun cdv A outer s H E hr =>
    (ss_cons (s_expr (v_call (n := n_check_two_trees) (body := b_check_two_trees) rfl (fun h => callG (ok_check_two_trees T) (hr.mono (by decide)) (by rfl) T.m_check_two_trees T.F_check_two_trees.kp T.b_check_two_trees .nil pass0 h) rfl (a_sh (v_name 0) (a_sh (v_name 1) a_nil)) (laS (laS la0))))
    (ss_cons (s_if (b_w (w_or (b_not (b_tru (v_isi (T := "list") (fun h => pe_callB call_isi (by rfl) T.z_isinstance (by decide +kernel) h) (pe_bltn (v := .ty "list") (by rfl) T.z_list (by decide +kernel) rfl) (v_name 2)))) (w_or1 (b_cmp op_gt k_gt.ok2 (v_call1 (fun h => pe_callB call_lenA (by rfl) T.z_len (by decide +kernel) h) k_len (v_name 2)) (v_glob (v := .int c_MAX_ROUTE) rfl g_MAX_ROUTE ⟨_, rfl⟩ (fun _ => .int _)) (nomark _))))) (ss_one (s_ret v_bl)) ss_nil)
    (ss_cons (s_asg (i := 3) sc_is_route.nd rfl (Or.inl rfl) (v_call (n := n_parents_of) (body := b_parents_of) rfl (fun h => callG (ok_parents_of T) (hr.mono (by decide)) (by rfl) T.m_parents_of T.F_parents_of.kp T.b_parents_of .nil pass0 h) rfl (a_sh (v_name 0) a_nil) (laS la0)))
    (ss_cons (s_for PassesOwn.never rfl (i_any (v_name 2)) (g_name (i := 4) sc_is_route.nd rfl (Or.inl rfl)) (ss_cons (s_if (b_w (w_or (b_not (b_tru (v_call (n := n_is_one_of) (body := b_is_one_of) rfl (fun h => callG (ok_is_one_of T) (hr.mono (by decide)) (by rfl) T.m_is_one_of T.F_is_one_of.kp T.b_is_one_of .nil pass0 h) rfl (a_sh (v_name 3) (a_sh (v_name 4) a_nil)) (laS (laS la0))))) (w_or1 (b_cmp o_is k_is.ok2 (v_ix (o_ix (hu1 hr)) k_ix (v_name 3) (v_name 4) (fun _ _ => rfl)) v_non (nomark _))))) (ss_one (s_ret v_bl)) ss_nil)
    (ss_one (s_asg (i := 3) sc_is_route.nd rfl (Or.inl rfl) (v_call (n := n_rotate_in) (body := b_rotate_in) rfl (fun h => callG (ok_rotate_in T) (hr.mono (by decide)) (by rfl) T.m_rotate_in T.F_rotate_in.kp T.b_rotate_in .nil pass0 h) rfl (a_sh (v_name 3) (a_sh (v_name 4) a_nil)) (laS (laS la0)))))))
    (ss_one (s_ret (v_cmp (o_eq (hu64 hr)) k_eq.ok2 (v_call (n := n_tree_of) (body := b_tree_of) rfl (fun h => callG (ok_tree_of T) (hr.mono (by decide)) (by rfl) T.m_tree_of T.F_tree_of.kp T.b_tree_of .nil pass0 h) rfl (a_sh (v_name 3) a_nil) (laS la0)) (v_name 1) (nomark _))))))))
theorem ok__law_box (T : Tx K mg f0 f1 f2 f3 f4 f5 f6 f7 f8 f9 f10 f11 f12 f13 f14 f15 f16 f17 f18 f19 f20 f21 f22 f23 f24 f25 f26 f27 f28 f29 fd0 fd1 fd2 fd3 fd4 fd5 fd6 fd7 fd8 fd9 fd10 fd11 fd12 fd13 fd14 fd15 fd16 fd17 fd18 fd19 fd20 fd21 fd22 fd23 fd24 fd25 fd26 fd27 fd28 fd29) : FnOkG P w K mg base CX0 1 f20 fd20 ["script"] (fun vs H Q E => vs.length = 1 ∧ spF K w f__law_box vs H Q E) := by
  exact fn0 T.F__law_box sc__law_box b__law_box (by decide) fun cdv A outer s H E hr =>
    (ss_one (s_ret (v_lst (a_sh (v_lc (own := [("cell", 1)]) rfl sc__law_box.nd  (i_any (v_slc (v_name 0) p_none (p_some v_int))) (blkOk_by (own := [("cell", 1)]) (N := N__law_box) (sc := defScope s__law_box) (by decide +kernel)) (by decide) (fun _ _ _ _ _ => (g_name (i := 1) sc__law_box.nd rfl (Or.inl rfl))) (fun _ _ _ _ _ => ts_nil) (fun _ _ _ _ _ => d_of (v_call1 (fun h => pe_callB call_abs (by rfl) T.z_abs (by decide +kernel) h) k_abs (v_name 1)))) (a_sh v_int (a_sh v_int (a_sh v_int a_nil)))))))
theorem ok__law_draw (T : Tx K mg f0 f1 f2 f3 f4 f5 f6 f7 f8 f9 f10 f11 f12 f13 f14 f15 f16 f17 f18 f19 f20 f21 f22 f23 f24 f25 f26 f27 f28 f29 fd0 fd1 fd2 fd3 fd4 fd5 fd6 fd7 fd8 fd9 fd10 fd11 fd12 fd13 fd14 fd15 fd16 fd17 fd18 fd19 fd20 fd21 fd22 fd23 fd24 fd25 fd26 fd27 fd28 fd29) : FnOkG P w K mg base CX0 1 f21 fd21 ["source", "count"] (fun vs H Q E => vs.length = 2 ∧ spF K w f__law_draw vs H Q E) := by
  exact fn0 T.F__law_draw sc__law_draw b__law_draw (by decide) fun cdv A outer s H E hr =>
    (ss_cons (s_if (b_w (w_and (b_cmp (o_eq (hu64 hr)) k_eq.ok2 (v_ix (o_ix (hu1 hr)) k_ix (v_name 0) v_int (fun _ _ => rfl)) v_int (nomark _)) (w_and1 (b_cmp op_lt k_lt.ok2 (v_ix (o_ix (hu1 hr)) k_ix (v_name 0) v_int (fun _ _ => rfl)) (v_call1 (fun h => pe_callB call_lenA (by rfl) T.z_len (by decide +kernel) h) k_len (v_ix (o_ix (hu1 hr)) k_ix (v_name 0) v_int (fun _ _ => rfl))) (nomark _))))) (ss_cons (s_asg (i := 2) sc__law_draw.nd rfl (Or.inl rfl) (v_ix (o_ix (hu1 hr)) k_ix (v_ix (o_ix (hu1 hr)) k_ix (v_name 0) v_int (fun _ _ => rfl)) (v_ix (o_ix (hu1 hr)) k_ix (v_name 0) v_int (fun _ _ => rfl)) (fun _ _ => rfl)))
    (ss_cons (s_sub 0 (hu1 hr) v_int (v_op o_add k_add (v_ix (o_ix (hu1 hr)) k_ix (v_name 0) v_int (fun _ _ => rfl)) v_int))
    (ss_one (s_if (b_cmp op_ge k_ge.ok2 (v_name 2) (v_op op_pow k_pow v_int v_int) (nomark _)) (ss_one (s_sub 0 (hu1 hr) v_int (v_name 2))) (ss_one (s_sub 0 (hu1 hr) v_int (v_op op_mod k_mod (v_op o_add k_add (v_op o_mul k_mul (v_ix (o_ix (hu1 hr)) k_ix (v_name 0) v_int (fun _ _ => rfl)) v_int) (v_name 2)) v_int))))))) ss_nil)
    (ss_cons (s_if (b_cmp op_gt k_gt.ok2 (v_ix (o_ix (hu1 hr)) k_ix (v_name 0) v_int (fun _ _ => rfl)) v_int (nomark _)) (ss_cons (s_asg (i := 3) sc__law_draw.nd rfl (Or.inl rfl) (v_op op_mod k_mod (v_ix (o_ix (hu1 hr)) k_ix (v_name 0) v_int (fun _ _ => rfl)) (v_name 1)))
    (ss_cons (s_sub 0 (hu1 hr) v_int (v_op op_fdivW k_div (v_ix (o_ix (hu1 hr)) k_ix (v_name 0) v_int (fun _ _ => rfl)) (v_name 1)))
    (ss_one (s_ret (v_name 3))))) ss_nil)
    (ss_cons (s_sub 0 (hu1 hr) v_int (v_op op_mod k_mod (v_op o_add k_add (v_op o_mul k_mul (v_ix (o_ix (hu1 hr)) k_ix (v_name 0) v_int (fun _ _ => rfl)) v_int) v_int) v_int))
    (ss_one (s_ret (v_op op_mod k_mod (v_op op_mod k_mod (v_op o_mul k_mul (v_ix (o_ix (hu1 hr)) k_ix (v_name 0) v_int (fun _ _ => rfl)) v_int) v_int) (v_name 1)))))))
theorem ok__law_keys (T : Tx K mg f0 f1 f2 f3 f4 f5 f6 f7 f8 f9 f10 f11 f12 f13 f14 f15 f16 f17 f18 f19 f20 f21 f22 f23 f24 f25 f26 f27 f28 f29 fd0 fd1 fd2 fd3 fd4 fd5 fd6 fd7 fd8 fd9 fd10 fd11 fd12 fd13 fd14 fd15 fd16 fd17 fd18 fd19 fd20 fd21 fd22 fd23 fd24 fd25 fd26 fd27 fd28 fd29) : FnOkG P w K mg base CX0 2 f22 fd22 ["source", "least", "most"] (fun vs H Q E => vs.length = 3 ∧ spF K w f__law_keys vs H Q E) := by
  exact fn0 T.F__law_keys sc__law_keys b__law_keys (by decide) fun cdv A outer s H E hr =>
    (ss_cons (s_asg (i := 3) sc__law_keys.nd rfl (Or.inl rfl) (v_ix (o_ix (hu1 hr)) k_ix (v_lst (a_sh v_int (a_sh v_int (a_sh v_int (a_sh v_int (a_sh (v_op op_pow k_pow v_int v_int) a_nil)))))) (v_call (n := n__law_draw) (body := b__law_draw) rfl (fun h => callG (ok__law_draw T) (hr.mono (by decide)) (by rfl) T.m__law_draw T.F__law_draw.kp T.b__law_draw .nil pass0 h) rfl (a_own 0 (a_sh v_int a_nil)) (laO (laS la0))) (fun _ _ => rfl)))
    (ss_cons (s_asg (i := 4) sc__law_keys.nd rfl (Or.inl rfl) (v_op op_sub k_sub (v_call (n := n__law_draw) (body := b__law_draw) rfl (fun h => callG (ok__law_draw T) (hr.mono (by decide)) (by rfl) T.m__law_draw T.F__law_draw.kp T.b__law_draw .nil pass0 h) rfl (a_own 0 (a_sh v_int a_nil)) (laO (laS la0))) v_int))
    (ss_cons (s_asg (i := 5) sc__law_keys.nd rfl (Or.inl rfl) (v_lst a_nil))
    (ss_cons (s_for PassesOwn.never rfl (i_range1 (by rfl) T.z_range (v_op o_add k_add (v_name 1) (v_call (n := n__law_draw) (body := b__law_draw) rfl (fun h => callG (ok__law_draw T) (hr.mono (by decide)) (by rfl) T.m__law_draw T.F__law_draw.kp T.b__law_draw .nil pass0 h) rfl (a_own 0 (a_sh (v_op o_add k_add (v_op op_sub k_sub (v_name 2) (v_name 1)) v_int) a_nil)) (laO (laS la0))))) (g_name (i := 6) sc__law_keys.nd rfl (Or.inl rfl)) (ss_cons (s_asg (i := 4) sc__law_keys.nd rfl (Or.inl rfl) (v_op o_add k_add (v_op o_add k_add (v_name 4) v_int) (v_ix (o_ix (hu1 hr)) k_ix (v_lst (a_sh v_int (a_sh v_int (a_sh v_int (a_sh v_int a_nil))))) (v_call (n := n__law_draw) (body := b__law_draw) rfl (fun h => callG (ok__law_draw T) (hr.mono (by decide)) (by rfl) T.m__law_draw T.F__law_draw.kp T.b__law_draw .nil pass0 h) rfl (a_own 0 (a_sh v_int a_nil)) (laO (laS la0))) (fun _ _ => rfl))))
    (ss_one (s_expr (v_mut1 5 (fun h => pe_bm PySem.F.plainAttrs_list PySem.F.slot_list_append PySem.F.type_list_append mt_append (pv 5) h) k_app (v_op o_mul k_mul (v_name 4) (v_name 3)))))))
    (ss_cons (s_if (b_w (w_and (b_cmp (o_ne (hu64 hr)) k_ne.ok2 (v_name 5) (v_lst a_nil) (nomark _)) (w_and1 (b_cmp (o_eq (hu64 hr)) k_eq.ok2 (v_call (n := n__law_draw) (body := b__law_draw) rfl (fun h => callG (ok__law_draw T) (hr.mono (by decide)) (by rfl) T.m__law_draw T.F__law_draw.kp T.b__law_draw .nil pass0 h) rfl (a_own 0 (a_sh v_int a_nil)) (laO (laS la0))) v_int (nomark _))))) (ss_one (s_sub 5 (hu1 hr) v_int (v_op op_sub k_sub v_int (v_op op_pow k_pow v_int v_int)))) ss_nil)
    (ss_cons (s_if (b_w (w_and (b_cmp op_gt k_gt.ok2 (v_call1 (fun h => pe_callB call_lenA (by rfl) T.z_len (by decide +kernel) h) k_len (v_name 5)) v_int (nomark _)) (w_and1 (b_cmp (o_eq (hu64 hr)) k_eq.ok2 (v_call (n := n__law_draw) (body := b__law_draw) rfl (fun h => callG (ok__law_draw T) (hr.mono (by decide)) (by rfl) T.m__law_draw T.F__law_draw.kp T.b__law_draw .nil pass0 h) rfl (a_own 0 (a_sh v_int a_nil)) (laO (laS la0))) v_int (nomark _))))) (ss_one (s_sub 5 (hu1 hr) (v_un un_neg k_neg v_int) (v_op op_pow k_pow v_int v_int))) ss_nil)
    (ss_one (s_ret (v_name 5)))))))))
theorem ok__law_shuffled (T : Tx K mg f0 f1 f2 f3 f4 f5 f6 f7 f8 f9 f10 f11 f12 f13 f14 f15 f16 f17 f18 f19 f20 f21 f22 f23 f24 f25 f26 f27 f28 f29 fd0 fd1 fd2 fd3 fd4 fd5 fd6 fd7 fd8 fd9 fd10 fd11 fd12 fd13 fd14 fd15 fd16 fd17 fd18 fd19 fd20 fd21 fd22 fd23 fd24 fd25 fd26 fd27 fd28 fd29) : FnOkG P w K mg base CX0 2 f23 fd23 ["source", "items"] (fun vs H Q E => vs.length = 2 ∧ spF K w f__law_shuffled vs H Q E) := by
  exact fn0 T.F__law_shuffled sc__law_shuffled b__law_shuffled (by decide) fun cdv A outer s H E hr =>
    (ss_cons (s_asg (i := 2) sc__law_shuffled.nd rfl (Or.inl rfl) (v_call1 (fun h => pe_callTy call_list_of (by rfl) T.z_list (by decide +kernel) h) k_list (v_name 1)))
    (ss_cons (s_asg (i := 3) sc__law_shuffled.nd rfl (Or.inl rfl) (v_lst a_nil))
    (ss_cons (s_while PassesOwn.never (b_cmp (o_ne (hu64 hr)) k_ne.ok2 (v_name 2) (v_lst a_nil) (nomark _)) (ss_one (s_expr (v_mut1 3 (fun h => pe_bm PySem.F.plainAttrs_list PySem.F.slot_list_append PySem.F.type_list_append mt_append (pv 3) h) k_app (v_mut1 2 (fun h => pe_bm PySem.F.plainAttrs_list PySem.F.slot_list_pop PySem.F.type_list_pop mt_popAt (pv 2) h) k_popAt (v_call (n := n__law_draw) (body := b__law_draw) rfl (fun h => callG (ok__law_draw T) (hr.mono (by decide)) (by rfl) T.m__law_draw T.F__law_draw.kp T.b__law_draw .nil pass0 h) rfl (a_own 0 (a_sh (v_call1 (fun h => pe_callB call_lenA (by rfl) T.z_len (by decide +kernel) h) k_len (v_name 2)) a_nil)) (laO (laS la0))))))))
    (ss_one (s_ret (v_name 3))))))
theorem ok__law_tree_of (T : Tx K mg f0 f1 f2 f3 f4 f5 f6 f7 f8 f9 f10 f11 f12 f13 f14 f15 f16 f17 f18 f19 f20 f21 f22 f23 f24 f25 f26 f27 f28 f29 fd0 fd1 fd2 fd3 fd4 fd5 fd6 fd7 fd8 fd9 fd10 fd11 fd12 fd13 fd14 fd15 fd16 fd17 fd18 fd19 fd20 fd21 fd22 fd23 fd24 fd25 fd26 fd27 fd28 fd29) : FnOkG P w K mg base CX0 1 f24 fd24 ["order"] (fun vs H Q E => vs.length = 1 ∧ spF K w f__law_tree_of vs H Q E) := by
  exact fn0 T.F__law_tree_of sc__law_tree_of b__law_tree_of (by decide) fun cdv A outer s H E hr =>
    (ss_cons (s_asg (i := 1) sc__law_tree_of.nd rfl (Or.inl rfl) (v_lst a_nil))
    (ss_cons (s_for PassesOwn.never rfl (i_range1 (by rfl) T.z_range (v_call1 (fun h => pe_callB call_lenA (by rfl) T.z_len (by decide +kernel) h) k_len (v_name 0))) (g_name (i := 2) sc__law_tree_of.nd rfl (Or.inr rfl)) (ss_cons (s_lc (own := [("key", 7)]) (i := 3) rfl sc__law_tree_of.nd rfl rfl (sw_true rfl rfl rfl (by decide +kernel)) (i_any (v_slc (v_name 0) p_none (p_some (v_name 2)))) (blkOk_by (own := [("key", 7)]) (N := N__law_tree_of) (sc := defScope s__law_tree_of) (by decide +kernel)) (by decide) (fun _ _ _ _ _ => (g_name (i := 7) sc__law_tree_of.nd rfl (Or.inl rfl))) (fun _ _ _ _ _ => (ts_one (b_cmp op_lt k_lt.ok2 (v_name 7) (v_ix (o_ix (hu1 hr)) k_ix (v_name 0) (v_name 2) (fun _ _ => rfl)) (nomark _)))) (fun _ _ _ _ _ => d_of (v_name 7)))
    (ss_cons (s_lc (own := [("key", 7)]) (i := 4) rfl sc__law_tree_of.nd rfl rfl (sw_true rfl rfl rfl (by decide +kernel)) (i_any (v_slc (v_name 0) p_none (p_some (v_name 2)))) (blkOk_by (own := [("key", 7)]) (N := N__law_tree_of) (sc := defScope s__law_tree_of) (by decide +kernel)) (by decide) (fun _ _ _ _ _ => (g_name (i := 7) sc__law_tree_of.nd rfl (Or.inl rfl))) (fun _ _ _ _ _ => (ts_one (b_cmp op_gt k_gt.ok2 (v_name 7) (v_ix (o_ix (hu1 hr)) k_ix (v_name 0) (v_name 2) (fun _ _ => rfl)) (nomark _)))) (fun _ _ _ _ _ => d_of (v_name 7)))
    (ss_cons (s_asg (i := 5) sc__law_tree_of.nd rfl (Or.inr rfl) (v_op o_add k_add (v_if (b_cmp (o_ne (hu64 hr)) k_ne.ok2 (v_name 3) (v_lst a_nil) (nomark _)) (v_lst (a_sh (v_call1 (fun h => pe_callB (cr_max rfl) (by rfl) T.z_max (by decide +kernel) h) k_max1 (v_name 3)) a_nil)) (v_lst a_nil)) (v_if (b_cmp (o_ne (hu64 hr)) k_ne.ok2 (v_name 4) (v_lst a_nil) (nomark _)) (v_lst (a_sh (v_call1 (fun h => pe_callB (cr_min rfl) (by rfl) T.z_min (by decide +kernel) h) k_min1 (v_name 4)) a_nil)) (v_lst a_nil))))
    (ss_cons (s_lc (own := [("key", 7)]) (i := 6) rfl sc__law_tree_of.nd rfl rfl (sw_true rfl rfl rfl (by decide +kernel)) (i_any (v_slc (v_name 0) p_none (p_some (v_name 2)))) (blkOk_by (own := [("key", 7)]) (N := N__law_tree_of) (sc := defScope s__law_tree_of) (by decide +kernel)) (by decide) (fun _ _ _ _ _ => (g_name (i := 7) sc__law_tree_of.nd rfl (Or.inl rfl))) (fun _ _ _ _ _ => (ts_one (b_cmp (o_in (hu65 hr)) k_in.ok2 (v_name 7) (v_name 5) (by rfl)))) (fun _ _ _ _ _ => d_of (v_name 7)))
    (ss_one (s_expr (v_mut1 1 (fun h => pe_bm PySem.F.plainAttrs_list PySem.F.slot_list_append PySem.F.type_list_append mt_append (pv 1) h) k_app (v_tup (a_sh (v_ix (o_ix (hu1 hr)) k_ix (v_name 0) (v_name 2) (fun _ _ => rfl)) (a_sh (v_if (b_cmp (o_ne (hu64 hr)) k_ne.ok2 (v_name 6) (v_lst a_nil) (nomark _)) (v_ix (o_ix (hu1 hr)) k_ix (v_name 6) (v_un un_neg k_neg v_int) (fun _ _ => rfl)) v_non) a_nil)))))))))))
    (ss_one (s_ret (v_call1 (fun h => pe_callTy call_tupleX (by rfl) T.z_tuple (by decide +kernel) h) k_tuple (v_call1 (fun h => pe_callB (cr_sortedA rfl) (by rfl) T.z_sorted (by decide +kernel) h) k_sortedA (v_name 1)))))))
theorem ok__law_children (T : Tx K mg f0 f1 f2 f3 f4 f5 f6 f7 f8 f9 f10 f11 f12 f13 f14 f15 f16 f17 f18 f19 f20 f21 f22 f23 f24 f25 f26 f27 f28 f29 fd0 fd1 fd2 fd3 fd4 fd5 fd6 fd7 fd8 fd9 fd10 fd11 fd12 fd13 fd14 fd15 fd16 fd17 fd18 fd19 fd20 fd21 fd22 fd23 fd24 fd25 fd26 fd27 fd28 fd29) : FnOkG P w K mg base CX0 1 f25 fd25 ["tree"] (fun vs H Q E => vs.length = 1 ∧ spF K w f__law_children vs H Q E) := by
  exact fn0 T.F__law_children sc__law_children b__law_children (by decide) fun cdv A outer s H E hr =>
    (ss_one (s_ret (v_lc (js := [1, 2]) (t := tTup [1, 2]) (g := gTL K 2 (gCons (gName 1) (gCons (gName 2) gNil))) (own := [("key", 1), ("parent", 2)]) rfl sc__law_children.nd  (i_any (v_name 0)) (blkOk_by (own := [("key", 1), ("parent", 2)]) (N := N__law_children) (sc := defScope s__law_children) (by decide +kernel)) (by decide) (fun _ _ _ _ _ => by refine (g_tup rfl (gs_cons (i := 1) sc__law_children.nd rfl (Or.inl rfl) (gs_cons (i := 2) sc__law_children.nd rfl (Or.inl rfl) gs_nil)))) (fun _ _ _ _ _ => (ts_one (b_cmp o_isNot k_isNot.ok2 (v_name 2) v_non (nomark _)))) (fun _ _ _ _ _ => d_of (v_name 1)))))
theorem ok__law_expected (T : Tx K mg f0 f1 f2 f3 f4 f5 f6 f7 f8 f9 f10 f11 f12 f13 f14 f15 f16 f17 f18 f19 f20 f21 f22 f23 f24 f25 f26 f27 f28 f29 fd0 fd1 fd2 fd3 fd4 fd5 fd6 fd7 fd8 fd9 fd10 fd11 fd12 fd13 fd14 fd15 fd16 fd17 fd18 fd19 fd20 fd21 fd22 fd23 fd24 fd25 fd26 fd27 fd28 fd29) : FnOkG P w K mg base CX0 9 f26 fd26 ["first", "second", "items"] (fun vs H Q E => vs.length = 3 ∧ spF K w f__law_expected vs H Q E) := by
  exact fn0 T.F__law_expected sc__law_expected b__law_expected (by decide) fun cdv A outer s H E hr =>
    (ss_cons (s_asg (i := 3) sc__law_expected.nd rfl (Or.inl rfl) (v_name 0))
    (ss_cons (s_for PassesOwn.never rfl (i_any (v_name 2)) (g_name (i := 4) sc__law_expected.nd rfl (Or.inl rfl)) (ss_cons (s_if (b_w (w_or (b_not (b_tru (v_isi (T := "int") (fun h => pe_callB call_isi (by rfl) T.z_isinstance (by decide +kernel) h) (pe_bltn (v := .ty "int") (by rfl) T.z_int (by decide +kernel) rfl) (v_name 4)))) (w_or (b_tru (v_isi (T := "bool") (fun h => pe_callB call_isi (by rfl) T.z_isinstance (by decide +kernel) h) (pe_bltn (v := .ty "bool") (by rfl) T.z_bool (by decide +kernel) rfl) (v_name 4))) (w_or1 (b_cmp (o_notIn (hu65 hr)) k_notIn.ok2 (v_name 4) (v_call (n := n__law_children) (body := b__law_children) rfl (fun h => callG (ok__law_children T) (hr.mono (by decide)) (by rfl) T.m__law_children T.F__law_children.kp T.b__law_children .nil pass0 h) rfl (a_sh (v_name 3) a_nil) (laS la0)) (by rfl)))))) (ss_one (s_ret v_bl)) ss_nil)
    (ss_one (s_asg (i := 3) sc__law_expected.nd rfl (Or.inl rfl) (v_call (n := n_rotated) (body := b_rotated) rfl (fun h => callG (ok_rotated T) (hr.mono (by decide)) (by rfl) T.m_rotated T.F_rotated.kp T.b_rotated .nil pass0 h) rfl (a_sh (v_name 3) (a_sh (v_name 4) a_nil)) (laS (laS la0)))))))
    (ss_one (s_ret (v_cmp (o_eq (hu64 hr)) k_eq.ok2 (v_name 3) (v_name 1) (nomark _))))))
theorem ok__law_random_list (T : Tx K mg f0 f1 f2 f3 f4 f5 f6 f7 f8 f9 f10 f11 f12 f13 f14 f15 f16 f17 f18 f19 f20 f21 f22 f23 f24 f25 f26 f27 f28 f29 fd0 fd1 fd2 fd3 fd4 fd5 fd6 fd7 fd8 fd9 fd10 fd11 fd12 fd13 fd14 fd15 fd16 fd17 fd18 fd19 fd20 fd21 fd22 fd23 fd24 fd25 fd26 fd27 fd28 fd29) : FnOkG P w K mg base CX0 9 f27 fd27 ["source", "first", "second"] (fun vs H Q E => vs.length = 3 ∧ spF K w f__law_random_list vs H Q E) := by
  exact fn0 T.F__law_random_list sc__law_random_list b__law_random_list (by decide) fun cdv A outer s H E hr =>
    (ss_cons (s_asg (i := 3) sc__law_random_list.nd rfl (Or.inl rfl) (v_call (n := n_route) (body := b_route) rfl (fun h => callG (ok_route T) (hr.mono (by decide)) (by rfl) T.m_route T.F_route.kp T.b_route .nil pass0 h) rfl (a_sh (v_name 1) (a_sh (v_name 2) a_nil)) (laS (laS la0))))
    (ss_cons (s_if (b_cmp (o_eq (hu64 hr)) k_eq.ok2 (v_call (n := n__law_draw) (body := b__law_draw) rfl (fun h => callG (ok__law_draw T) (hr.mono (by decide)) (by rfl) T.m__law_draw T.F__law_draw.kp T.b__law_draw .nil pass0 h) rfl (a_own 0 (a_sh v_int a_nil)) (laO (laS la0))) v_int (nomark _)) (ss_cons (s_asg (i := 3) sc__law_random_list.nd rfl (Or.inl rfl) (v_lst a_nil))
    (ss_cons (s_asg (i := 7) sc__law_random_list.nd rfl (Or.inl rfl) (v_name 1))
    (ss_cons (s_for PassesOwn.never rfl (i_range1 (by rfl) T.z_range (v_call (n := n__law_draw) (body := b__law_draw) rfl (fun h => callG (ok__law_draw T) (hr.mono (by decide)) (by rfl) T.m__law_draw T.F__law_draw.kp T.b__law_draw .nil pass0 h) rfl (a_own 0 (a_sh v_int a_nil)) (laO (laS la0)))) (g_name (i := 8) sc__law_random_list.nd rfl (Or.inl rfl)) (ss_cons (s_asg (i := 9) sc__law_random_list.nd rfl (Or.inl rfl) (v_call (n := n__law_children) (body := b__law_children) rfl (fun h => callG (ok__law_children T) (hr.mono (by decide)) (by rfl) T.m__law_children T.F__law_children.kp T.b__law_children .nil pass0 h) rfl (a_sh (v_name 7) a_nil) (laS la0)))
    (ss_one (s_if (b_cmp (o_ne (hu64 hr)) k_ne.ok2 (v_name 9) (v_lst a_nil) (nomark _)) (ss_cons (s_expr (v_mut1 3 (fun h => pe_bm PySem.F.plainAttrs_list PySem.F.slot_list_append PySem.F.type_list_append mt_append (pv 3) h) k_app (v_ix (o_ix (hu1 hr)) k_ix (v_name 9) (v_call (n := n__law_draw) (body := b__law_draw) rfl (fun h => callG (ok__law_draw T) (hr.mono (by decide)) (by rfl) T.m__law_draw T.F__law_draw.kp T.b__law_draw .nil pass0 h) rfl (a_own 0 (a_sh (v_call1 (fun h => pe_callB call_lenA (by rfl) T.z_len (by decide +kernel) h) k_len (v_name 9)) a_nil)) (laO (laS la0))) (fun _ _ => rfl))))
    (ss_one (s_asg (i := 7) sc__law_random_list.nd rfl (Or.inl rfl) (v_call (n := n_rotated) (body := b_rotated) rfl (fun h => callG (ok_rotated T) (hr.mono (by decide)) (by rfl) T.m_rotated T.F_rotated.kp T.b_rotated .nil pass0 h) rfl (a_sh (v_name 7) (a_sh (v_ix (o_ix (hu1 hr)) k_ix (v_name 3) (v_un un_neg k_neg v_int) (fun _ _ => rfl)) a_nil)) (laS (laS la0)))))) ss_nil))))
    (ss_one (s_asg (i := 2) sc__law_random_list.nd rfl (Or.inl rfl) (v_if (b_cmp (o_eq (hu64 hr)) k_eq.ok2 (v_call (n := n__law_draw) (body := b__law_draw) rfl (fun h => callG (ok__law_draw T) (hr.mono (by decide)) (by rfl) T.m__law_draw T.F__law_draw.kp T.b__law_draw .nil pass0 h) rfl (a_own 0 (a_sh v_int a_nil)) (laO (laS la0))) v_int (nomark _)) (v_name 7) (v_name 2))))))) ss_nil)
    (ss_cons (s_asg (i := 4) sc__law_random_list.nd rfl (Or.inl rfl) (v_call (n := n__law_draw) (body := b__law_draw) rfl (fun h => callG (ok__law_draw T) (hr.mono (by decide)) (by rfl) T.m__law_draw T.F__law_draw.kp T.b__law_draw .nil pass0 h) rfl (a_own 0 (a_sh (v_op o_add k_add (v_call1 (fun h => pe_callB call_lenA (by rfl) T.z_len (by decide +kernel) h) k_len (v_name 3)) v_int) a_nil)) (laO (laS la0))))
    (ss_cons (s_asg (i := 5) sc__law_random_list.nd rfl (Or.inl rfl) (v_op o_add k_add (v_lst (a_sh v_non (a_sh v_bl (a_sh v_str (a_sh (v_op op_pow k_pow v_int v_int) (a_sh (v_lst (a_sh v_int a_nil)) (a_sh (v_tup (a_sh v_int a_nil)) a_nil))))))) (v_lc (js := [10, 11]) (t := tTup [10, 11]) (g := gTL K 2 (gCons (gName 10) (gCons (gName 11) gNil))) (own := [("key", 10), ("parent", 11)]) rfl sc__law_random_list.nd  (i_any (v_name 1)) (blkOk_by (own := [("key", 10), ("parent", 11)]) (N := N__law_random_list) (sc := defScope s__law_random_list) (by decide +kernel)) (by decide) (fun _ _ _ _ _ => by refine (g_tup rfl (gs_cons (i := 10) sc__law_random_list.nd rfl (Or.inl rfl) (gs_cons (i := 11) sc__law_random_list.nd rfl (Or.inl rfl) gs_nil)))) (fun _ _ _ _ _ => ts_nil) (fun _ _ _ _ _ => d_of (v_name 10)))))
    (ss_cons (s_asg (i := 6) sc__law_random_list.nd rfl (Or.inl rfl) (v_call (n := n__law_draw) (body := b__law_draw) rfl (fun h => callG (ok__law_draw T) (hr.mono (by decide)) (by rfl) T.m__law_draw T.F__law_draw.kp T.b__law_draw .nil pass0 h) rfl (a_own 0 (a_sh v_int a_nil)) (laO (laS la0))))
    (ss_cons (s_if (b_cmp (o_eq (hu64 hr)) k_eq.ok2 (v_name 6) v_int (nomark _)) (ss_one (s_asg (i := 3) sc__law_random_list.nd rfl (Or.inl rfl) (v_op o_add k_add (v_slc (v_name 3) p_none (p_some (v_name 4))) (v_slc (v_name 3) (p_some (v_op o_add k_add (v_name 4) v_int)) p_none)))) ss_nil)
    (ss_cons (s_if (b_cmp (o_eq (hu64 hr)) k_eq.ok2 (v_name 6) v_int (nomark _)) (ss_one (s_asg (i := 3) sc__law_random_list.nd rfl (Or.inl rfl) (v_op o_add k_add (v_op o_add k_add (v_slc (v_name 3) p_none (p_some (v_name 4))) (v_lst (a_sh (v_ix (o_ix (hu1 hr)) k_ix (v_name 5) (v_call (n := n__law_draw) (body := b__law_draw) rfl (fun h => callG (ok__law_draw T) (hr.mono (by decide)) (by rfl) T.m__law_draw T.F__law_draw.kp T.b__law_draw .nil pass0 h) rfl (a_own 0 (a_sh (v_call1 (fun h => pe_callB call_lenA (by rfl) T.z_len (by decide +kernel) h) k_len (v_name 5)) a_nil)) (laO (laS la0))) (fun _ _ => rfl)) a_nil))) (v_slc (v_name 3) (p_some (v_name 4)) p_none)))) ss_nil)
    (ss_cons (s_if (b_w (w_and (b_cmp (o_eq (hu64 hr)) k_eq.ok2 (v_name 6) v_int (nomark _)) (w_and1 (b_cmp op_gt k_gt.ok2 (v_call1 (fun h => pe_callB call_lenA (by rfl) T.z_len (by decide +kernel) h) k_len (v_name 3)) (v_name 4) (nomark _))))) (ss_one (s_sub 3 (hu1 hr) (v_name 4) (v_ix (o_ix (hu1 hr)) k_ix (v_name 5) (v_call (n := n__law_draw) (body := b__law_draw) rfl (fun h => callG (ok__law_draw T) (hr.mono (by decide)) (by rfl) T.m__law_draw T.F__law_draw.kp T.b__law_draw .nil pass0 h) rfl (a_own 0 (a_sh (v_call1 (fun h => pe_callB call_lenA (by rfl) T.z_len (by decide +kernel) h) k_len (v_name 5)) a_nil)) (laO (laS la0))) (fun _ _ => rfl)))) ss_nil)
    (ss_one (s_ret (v_tup (a_sh (v_name 2) (a_sh (v_name 3) a_nil)))))))))))))
theorem ok__law_long_lists_hold (T : Tx K mg f0 f1 f2 f3 f4 f5 f6 f7 f8 f9 f10 f11 f12 f13 f14 f15 f16 f17 f18 f19 f20 f21 f22 f23 f24 f25 f26 f27 f28 f29 fd0 fd1 fd2 fd3 fd4 fd5 fd6 fd7 fd8 fd9 fd10 fd11 fd12 fd13 fd14 fd15 fd16 fd17 fd18 fd19 fd20 fd21 fd22 fd23 fd24 fd25 fd26 fd27 fd28 fd29) : FnOkG P w K mg base CX0 9 f28 fd28 [] (fun vs H Q E => vs.length = 0 ∧ spF K w f__law_long_lists_hold vs H Q E) := by
  exact fn0 T.F__law_long_lists_hold sc__law_long_lists_hold b__law_long_lists_hold (by decide) fun cdv A outer s H E hr =>
    (ss_cons (s_asg (i := 0) sc__law_long_lists_hold.nd rfl (Or.inl rfl) (v_tup (a_sh (v_tup (a_sh v_int (a_sh v_non a_nil))) (a_sh (v_tup (a_sh v_int (a_sh v_int a_nil))) a_nil))))
    (ss_cons (s_asg (i := 1) sc__law_long_lists_hold.nd rfl (Or.inl rfl) (v_op o_mul k_mul (v_lst (a_sh v_int (a_sh v_int a_nil))) v_int))
    (ss_cons (s_if (b_w (w_or (b_cmp o_isNot k_isNot.ok2 (v_call (n := n_is_route) (body := b_is_route) rfl (fun h => callG (ok_is_route T) (hr.mono (by decide)) (by rfl) T.m_is_route T.F_is_route.kp T.b_is_route .nil pass0 h) rfl (a_sh (v_name 0) (a_sh (v_name 0) (a_sh (v_name 1) a_nil))) (laS (laS (laS la0)))) v_bl (nomark _)) (w_or1 (b_cmp o_isNot k_isNot.ok2 (v_call (n := n_is_route) (body := b_is_route) rfl (fun h => callG (ok_is_route T) (hr.mono (by decide)) (by rfl) T.m_is_route T.F_is_route.kp T.b_is_route .nil pass0 h) rfl (a_sh (v_name 0) (a_sh (v_name 0) (a_sh (v_op o_add k_add (v_name 1) (v_lst (a_sh v_int (a_sh v_int a_nil)))) a_nil))) (laS (laS (laS la0)))) v_bl (nomark _))))) (ss_one (s_ret v_bl)) ss_nil)
    (ss_one (s_ret (v_cmp o_is k_is.ok2 (v_call (n := n_is_route) (body := b_is_route) rfl (fun h => callG (ok_is_route T) (hr.mono (by decide)) (by rfl) T.m_is_route T.F_is_route.kp T.b_is_route .nil pass0 h) rfl (a_sh (v_name 0) (a_sh (v_tup (a_sh (v_tup (a_sh v_int (a_sh v_int a_nil))) (a_sh (v_tup (a_sh v_int (a_sh v_non a_nil))) a_nil))) (a_sh (v_op o_add k_add (v_name 1) (v_lst (a_sh v_int a_nil))) a_nil))) (laS (laS (laS la0)))) v_bl (nomark _)))))))
theorem ok_law (T : Tx K mg f0 f1 f2 f3 f4 f5 f6 f7 f8 f9 f10 f11 f12 f13 f14 f15 f16 f17 f18 f19 f20 f21 f22 f23 f24 f25 f26 f27 f28 f29 fd0 fd1 fd2 fd3 fd4 fd5 fd6 fd7 fd8 fd9 fd10 fd11 fd12 fd13 fd14 fd15 fd16 fd17 fd18 fd19 fd20 fd21 fd22 fd23 fd24 fd25 fd26 fd27 fd28 fd29) : FnOkG P w K mg base CX0 10 f29 fd29 ["script"] (fun vs H Q E => vs.length = 1 ∧ spF K w f_law vs H Q E) := by
  exact fn0 T.F_law sc_law b_law (by decide) fun cdv A outer s H E hr =>
    (ss_cons (s_asg (i := 1) sc_law.nd rfl (Or.inl rfl) (v_call (n := n__law_box) (body := b__law_box) rfl (fun h => callG (ok__law_box T) (hr.mono (by decide)) (by rfl) T.m__law_box T.F__law_box.kp T.b__law_box .nil pass0 h) rfl (a_sh (v_name 0) a_nil) (laS la0)))
    (ss_cons (s_asg (i := 2) sc_law.nd rfl (Or.inl rfl) (v_call (n := n__law_keys) (body := b__law_keys) rfl (fun h => callG (ok__law_keys T) (hr.mono (by decide)) (by rfl) T.m__law_keys T.F__law_keys.kp T.b__law_keys .nil pass0 h) rfl (a_own 1 (a_sh v_int (a_sh v_int a_nil))) (laO (laS (laS la0)))))
    (ss_cons (s_asg (i := 3) sc_law.nd rfl (Or.inl rfl) (v_call (n := n__law_tree_of) (body := b__law_tree_of) rfl (fun h => callG (ok__law_tree_of T) (hr.mono (by decide)) (by rfl) T.m__law_tree_of T.F__law_tree_of.kp T.b__law_tree_of .nil pass0 h) rfl (a_sh (v_call (n := n__law_shuffled) (body := b__law_shuffled) rfl (fun h => callG (ok__law_shuffled T) (hr.mono (by decide)) (by rfl) T.m__law_shuffled T.F__law_shuffled.kp T.b__law_shuffled .nil pass0 h) rfl (a_own 1 (a_sh (v_name 2) a_nil)) (laO (laS la0))) a_nil) (laS la0)))
    (ss_cons (s_asg (i := 4) sc_law.nd rfl (Or.inl rfl) (v_call (n := n__law_tree_of) (body := b__law_tree_of) rfl (fun h => callG (ok__law_tree_of T) (hr.mono (by decide)) (by rfl) T.m__law_tree_of T.F__law_tree_of.kp T.b__law_tree_of .nil pass0 h) rfl (a_sh (v_call (n := n__law_shuffled) (body := b__law_shuffled) rfl (fun h => callG (ok__law_shuffled T) (hr.mono (by decide)) (by rfl) T.m__law_shuffled T.F__law_shuffled.kp T.b__law_shuffled .nil pass0 h) rfl (a_own 1 (a_sh (v_name 2) a_nil)) (laO (laS la0))) a_nil) (laS la0)))
    (ss_cons (s_asgT (v_call (n := n__law_random_list) (body := b__law_random_list) rfl (fun h => callG (ok__law_random_list T) (hr.mono (by decide)) (by rfl) T.m__law_random_list T.F__law_random_list.kp T.b__law_random_list .nil pass0 h) rfl (a_own 1 (a_sh (v_name 3) (a_sh (v_name 4) a_nil))) (laO (laS (laS la0)))) (g_tup rfl (gs_cons (i := 4) sc_law.nd rfl (Or.inl rfl) (gs_cons (i := 7) sc_law.nd rfl (Or.inl rfl) gs_nil))))
    (ss_cons (s_asg (i := 5) sc_law.nd rfl (Or.inl rfl) (v_call1 (fun h => pe_callB (cr_repr hr.g (hu65 hr)) (by rfl) T.z_repr (by decide +kernel) h) k_repr (v_name 7)))
    (ss_cons (s_if (b_cmp (o_ne (hu64 hr)) k_ne.ok2 (v_call1 (fun h => pe_callB (cr_repr hr.g (hu65 hr)) (by rfl) T.z_repr (by decide +kernel) h) k_repr (v_call (n := n_is_route) (body := b_is_route) rfl (fun h => callG (ok_is_route T) (hr.mono (by decide)) (by rfl) T.m_is_route T.F_is_route.kp T.b_is_route .nil pass0 h) rfl (a_sh (v_name 3) (a_sh (v_name 4) (a_sh (v_name 7) a_nil))) (laS (laS (laS la0))))) (v_call1 (fun h => pe_callB (cr_repr hr.g (hu65 hr)) (by rfl) T.z_repr (by decide +kernel) h) k_repr (v_call (n := n__law_expected) (body := b__law_expected) rfl (fun h => callG (ok__law_expected T) (hr.mono (by decide)) (by rfl) T.m__law_expected T.F__law_expected.kp T.b__law_expected .nil pass0 h) rfl (a_sh (v_name 3) (a_sh (v_name 4) (a_sh (v_name 7) a_nil))) (laS (laS (laS la0))))) (nomark _)) (ss_one (s_ret v_bl)) ss_nil)
    (ss_cons (s_for PassesOwn.never rfl (i_any (v_lst (a_sh v_non (a_sh v_int (a_sh v_str (a_sh v_dic0 (a_sh (v_tup a_nil) (a_sh (v_call1 (fun h => pe_callTy call_tupleX (by rfl) T.z_tuple (by decide +kernel) h) k_tuple (v_name 7)) (a_sh (v_lst (a_sh v_non a_nil)) (a_sh (v_lst (a_sh (v_lst a_nil) a_nil)) a_nil)))))))))) (g_name (i := 6) sc_law.nd rfl (Or.inl rfl)) (ss_one (s_if (b_cmp o_isNot k_isNot.ok2 (v_call (n := n_is_route) (body := b_is_route) rfl (fun h => callG (ok_is_route T) (hr.mono (by decide)) (by rfl) T.m_is_route T.F_is_route.kp T.b_is_route .nil pass0 h) rfl (a_sh (v_name 3) (a_sh (v_name 4) (a_sh (v_name 6) a_nil))) (laS (laS (laS la0)))) v_bl (nomark _)) (ss_one (s_ret v_bl)) ss_nil)))
    (ss_cons (s_if (b_w (w_and (b_cmp (o_eq (hu64 hr)) k_eq.ok2 (v_call (n := n__law_draw) (body := b__law_draw) rfl (fun h => callG (ok__law_draw T) (hr.mono (by decide)) (by rfl) T.m__law_draw T.F__law_draw.kp T.b__law_draw .nil pass0 h) rfl (a_own 1 (a_sh v_int a_nil)) (laO (laS la0))) v_int (nomark _)) (w_and1 (b_not (b_tru (v_call0 (n := n__law_long_lists_hold) (body := b__law_long_lists_hold) rfl (callG0 (ok__law_long_lists_hold T) (hr.mono (by decide)) (by rfl) T.m__law_long_lists_hold T.F__law_long_lists_hold.kp T.b__law_long_lists_hold .nil pass0))))))) (ss_one (s_ret v_bl)) ss_nil)
    (ss_one (s_ret (v_cmp (o_eq (hu64 hr)) k_eq.ok2 (v_call1 (fun h => pe_callB (cr_repr hr.g (hu65 hr)) (by rfl) T.z_repr (by decide +kernel) h) k_repr (v_name 7)) (v_name 5) (nomark _)))))))))))))
end
theorem all_mk {l : PySem.W.OpenLaw} {w : World} {K : PySem.W.Frag} {h : Heap} {mg : Str → Option Value} {fa f0 f1 f2 f3 f4 f5 f6 f7 f8 f9 f10 f11 f12 f13 f14 f15 f16 f17 f18 f19 f20 f21 f22 f23 f24 f25 f26 f27 f28 f29 : Addr} (X : K.In h) (G : h.Ns mainGlobals mg) (hfa : mg "law" = some (.ref fa))
    {od0 an0 od1 an1 od2 an2 od3 an3 od4 an4 od5 an5 od6 an6 od7 an7 od8 an8 od9 an9 od10 an10 od11 an11 od12 an12 od13 an13 od14 an14 od15 an15 od16 an16 od17 an17 od18 an18 od19 an19 od20 an20 od21 an21 od22 an22 od23 an23 od24 an24 od25 an25 od26 an26 od27 an27 od28 an28 od29 an29 : Option Addr} {sl0 sl1 sl2 sl3 sl4 sl5 sl6 sl7 sl8 sl9 sl10 sl11 sl12 sl13 sl14 sl15 sl16 sl17 sl18 sl19 sl20 sl21 sl22 sl23 sl24 sl25 sl26 sl27 sl28 sl29 : Array (Option Value)} {oc0 kV0 dc0 pm0 cd0 ct0 oc1 kV1 dc1 pm1 cd1 ct1 oc2 kV2 dc2 pm2 cd2 ct2 oc3 kV3 dc3 pm3 cd3 ct3 oc4 kV4 dc4 pm4 cd4 ct4 oc5 kV5 dc5 pm5 cd5 ct5 oc6 kV6 dc6 pm6 cd6 ct6 oc7 kV7 dc7 pm7 cd7 ct7 oc8 kV8 dc8 pm8 cd8 ct8 oc9 kV9 dc9 pm9 cd9 ct9 oc10 kV10 dc10 pm10 cd10 ct10 oc11 kV11 dc11 pm11 cd11 ct11 oc12 kV12 dc12 pm12 cd12 ct12 oc13 kV13 dc13 pm13 cd13 ct13 oc14 kV14 dc14 pm14 cd14 ct14 oc15 kV15 dc15 pm15 cd15 ct15 oc16 kV16 dc16 pm16 cd16 ct16 oc17 kV17 dc17 pm17 cd17 ct17 oc18 kV18 dc18 pm18 cd18 ct18 oc19 kV19 dc19 pm19 cd19 ct19 oc20 kV20 dc20 pm20 cd20 ct20 oc21 kV21 dc21 pm21 cd21 ct21 oc22 kV22 dc22 pm22 cd22 ct22 oc23 kV23 dc23 pm23 cd23 ct23 oc24 kV24 dc24 pm24 cd24 ct24 oc25 kV25 dc25 pm25 cd25 ct25 oc26 kV26 dc26 pm26 cd26 ct26 oc27 kV27 dc27 pm27 cd27 ct27 oc28 kV28 dc28 pm28 cd28 ct28 oc29 kV29 dc29 pm29 cd29 ct29 : Value}
    (a0 : PySem.W.nsIn K mainGlobals "is_integer" = some (some (.ref f0))) (l0 : K.lookup f0 = some ⟨oc0, od0, .func (PySem.W.fnOf "is_integer" "is_integer" (defArgs s_is_integer) (defBody s_is_integer) (defScope s_is_integer) .none kV0 dc0 pm0 an0 cd0 ct0), sl0⟩) (x0 : PySem.W.codeIn K cd0 "is_integer" = true) (k0 : PySem.W.keepIn K (.ref f0) = true)
    (a1 : PySem.W.nsIn K mainGlobals "is_between" = some (some (.ref f1))) (l1 : K.lookup f1 = some ⟨oc1, od1, .func (PySem.W.fnOf "is_between" "is_between" (defArgs s_is_between) (defBody s_is_between) (defScope s_is_between) .none kV1 dc1 pm1 an1 cd1 ct1), sl1⟩) (x1 : PySem.W.codeIn K cd1 "is_between" = true) (k1 : PySem.W.keepIn K (.ref f1) = true)
    (a2 : PySem.W.nsIn K mainGlobals "is_key" = some (some (.ref f2))) (l2 : K.lookup f2 = some ⟨oc2, od2, .func (PySem.W.fnOf "is_key" "is_key" (defArgs s_is_key) (defBody s_is_key) (defScope s_is_key) .none kV2 dc2 pm2 an2 cd2 ct2), sl2⟩) (x2 : PySem.W.codeIn K cd2 "is_key" = true) (k2 : PySem.W.keepIn K (.ref f2) = true)
    (a3 : PySem.W.nsIn K mainGlobals "is_one_of" = some (some (.ref f3))) (l3 : K.lookup f3 = some ⟨oc3, od3, .func (PySem.W.fnOf "is_one_of" "is_one_of" (defArgs s_is_one_of) (defBody s_is_one_of) (defScope s_is_one_of) .none kV3 dc3 pm3 an3 cd3 ct3), sl3⟩) (x3 : PySem.W.codeIn K cd3 "is_one_of" = true) (k3 : PySem.W.keepIn K (.ref f3) = true)
    (a4 : PySem.W.nsIn K mainGlobals "check_same_keys" = some (some (.ref f4))) (l4 : K.lookup f4 = some ⟨oc4, od4, .func (PySem.W.fnOf "check_same_keys" "check_same_keys" (defArgs s_check_same_keys) (defBody s_check_same_keys) (defScope s_check_same_keys) .none kV4 dc4 pm4 an4 cd4 ct4), sl4⟩) (x4 : PySem.W.codeIn K cd4 "check_same_keys" = true) (k4 : PySem.W.keepIn K (.ref f4) = true)
    (a5 : PySem.W.nsIn K mainGlobals "parents_by_order" = some (some (.ref f5))) (l5 : K.lookup f5 = some ⟨oc5, od5, .func (PySem.W.fnOf "parents_by_order" "parents_by_order" (defArgs s_parents_by_order) (defBody s_parents_by_order) (defScope s_parents_by_order) .none kV5 dc5 pm5 an5 cd5 ct5), sl5⟩) (x5 : PySem.W.codeIn K cd5 "parents_by_order" = true) (k5 : PySem.W.keepIn K (.ref f5) = true)
    (a6 : PySem.W.nsIn K mainGlobals "tree_of" = some (some (.ref f6))) (l6 : K.lookup f6 = some ⟨oc6, od6, .func (PySem.W.fnOf "tree_of" "tree_of" (defArgs s_tree_of) (defBody s_tree_of) (defScope s_tree_of) .none kV6 dc6 pm6 an6 cd6 ct6), sl6⟩) (x6 : PySem.W.codeIn K cd6 "tree_of" = true) (k6 : PySem.W.keepIn K (.ref f6) = true)
    (a7 : PySem.W.nsIn K mainGlobals "parents_of" = some (some (.ref f7))) (l7 : K.lookup f7 = some ⟨oc7, od7, .func (PySem.W.fnOf "parents_of" "parents_of" (defArgs s_parents_of) (defBody s_parents_of) (defScope s_parents_of) .none kV7 dc7 pm7 an7 cd7 ct7), sl7⟩) (x7 : PySem.W.codeIn K cd7 "parents_of" = true) (k7 : PySem.W.keepIn K (.ref f7) = true)
    (a8 : PySem.W.nsIn K mainGlobals "is_pair" = some (some (.ref f8))) (l8 : K.lookup f8 = some ⟨oc8, od8, .func (PySem.W.fnOf "is_pair" "is_pair" (defArgs s_is_pair) (defBody s_is_pair) (defScope s_is_pair) .none kV8 dc8 pm8 an8 cd8 ct8), sl8⟩) (x8 : PySem.W.codeIn K cd8 "is_pair" = true) (k8 : PySem.W.keepIn K (.ref f8) = true)
    (a9 : PySem.W.nsIn K mainGlobals "order_from" = some (some (.ref f9))) (l9 : K.lookup f9 = some ⟨oc9, od9, .func (PySem.W.fnOf "order_from" "order_from" (defArgs s_order_from) (defBody s_order_from) (defScope s_order_from) .none kV9 dc9 pm9 an9 cd9 ct9), sl9⟩) (x9 : PySem.W.codeIn K cd9 "order_from" = true) (k9 : PySem.W.keepIn K (.ref f9) = true)
    (a10 : PySem.W.nsIn K mainGlobals "is_tree" = some (some (.ref f10))) (l10 : K.lookup f10 = some ⟨oc10, od10, .func (PySem.W.fnOf "is_tree" "is_tree" (defArgs s_is_tree) (defBody s_is_tree) (defScope s_is_tree) .none kV10 dc10 pm10 an10 cd10 ct10), sl10⟩) (x10 : PySem.W.codeIn K cd10 "is_tree" = true) (k10 : PySem.W.keepIn K (.ref f10) = true)
    (a11 : PySem.W.nsIn K mainGlobals "check_tree" = some (some (.ref f11))) (l11 : K.lookup f11 = some ⟨oc11, od11, .func (PySem.W.fnOf "check_tree" "check_tree" (defArgs s_check_tree) (defBody s_check_tree) (defScope s_check_tree) .none kV11 dc11 pm11 an11 cd11 ct11), sl11⟩) (x11 : PySem.W.codeIn K cd11 "check_tree" = true) (k11 : PySem.W.keepIn K (.ref f11) = true)
    (a12 : PySem.W.nsIn K mainGlobals "check_key" = some (some (.ref f12))) (l12 : K.lookup f12 = some ⟨oc12, od12, .func (PySem.W.fnOf "check_key" "check_key" (defArgs s_check_key) (defBody s_check_key) (defScope s_check_key) .none kV12 dc12 pm12 an12 cd12 ct12), sl12⟩) (x12 : PySem.W.codeIn K cd12 "check_key" = true) (k12 : PySem.W.keepIn K (.ref f12) = true)
    (a13 : PySem.W.nsIn K mainGlobals "children_by" = some (some (.ref f13))) (l13 : K.lookup f13 = some ⟨oc13, od13, .func (PySem.W.fnOf "children_by" "children_by" (defArgs s_children_by) (defBody s_children_by) (defScope s_children_by) .none kV13 dc13 pm13 an13 cd13 ct13), sl13⟩) (x13 : PySem.W.codeIn K cd13 "children_by" = true) (k13 : PySem.W.keepIn K (.ref f13) = true)
    (a14 : PySem.W.nsIn K mainGlobals "rotate_in" = some (some (.ref f14))) (l14 : K.lookup f14 = some ⟨oc14, od14, .func (PySem.W.fnOf "rotate_in" "rotate_in" (defArgs s_rotate_in) (defBody s_rotate_in) (defScope s_rotate_in) .none kV14 dc14 pm14 an14 cd14 ct14), sl14⟩) (x14 : PySem.W.codeIn K cd14 "rotate_in" = true) (k14 : PySem.W.keepIn K (.ref f14) = true)
    (a15 : PySem.W.nsIn K mainGlobals "check_rotation" = some (some (.ref f15))) (l15 : K.lookup f15 = some ⟨oc15, od15, .func (PySem.W.fnOf "check_rotation" "check_rotation" (defArgs s_check_rotation) (defBody s_check_rotation) (defScope s_check_rotation) .none kV15 dc15 pm15 an15 cd15 ct15), sl15⟩) (x15 : PySem.W.codeIn K cd15 "check_rotation" = true) (k15 : PySem.W.keepIn K (.ref f15) = true)
    (a16 : PySem.W.nsIn K mainGlobals "rotated" = some (some (.ref f16))) (l16 : K.lookup f16 = some ⟨oc16, od16, .func (PySem.W.fnOf "rotated" "rotated" (defArgs s_rotated) (defBody s_rotated) (defScope s_rotated) .none kV16 dc16 pm16 an16 cd16 ct16), sl16⟩) (x16 : PySem.W.codeIn K cd16 "rotated" = true) (k16 : PySem.W.keepIn K (.ref f16) = true)
    (a17 : PySem.W.nsIn K mainGlobals "check_two_trees" = some (some (.ref f17))) (l17 : K.lookup f17 = some ⟨oc17, od17, .func (PySem.W.fnOf "check_two_trees" "check_two_trees" (defArgs s_check_two_trees) (defBody s_check_two_trees) (defScope s_check_two_trees) .none kV17 dc17 pm17 an17 cd17 ct17), sl17⟩) (x17 : PySem.W.codeIn K cd17 "check_two_trees" = true) (k17 : PySem.W.keepIn K (.ref f17) = true)
    (a18 : PySem.W.nsIn K mainGlobals "route" = some (some (.ref f18))) (l18 : K.lookup f18 = some ⟨oc18, od18, .func (PySem.W.fnOf "route" "route" (defArgs s_route) (defBody s_route) (defScope s_route) .none kV18 dc18 pm18 an18 cd18 ct18), sl18⟩) (x18 : PySem.W.codeIn K cd18 "route" = true) (k18 : PySem.W.keepIn K (.ref f18) = true)
    (a19 : PySem.W.nsIn K mainGlobals "is_route" = some (some (.ref f19))) (l19 : K.lookup f19 = some ⟨oc19, od19, .func (PySem.W.fnOf "is_route" "is_route" (defArgs s_is_route) (defBody s_is_route) (defScope s_is_route) .none kV19 dc19 pm19 an19 cd19 ct19), sl19⟩) (x19 : PySem.W.codeIn K cd19 "is_route" = true) (k19 : PySem.W.keepIn K (.ref f19) = true)
    (a20 : PySem.W.nsIn K mainGlobals "_law_box" = some (some (.ref f20))) (l20 : K.lookup f20 = some ⟨oc20, od20, .func (PySem.W.fnOf "_law_box" "_law_box" (defArgs s__law_box) (defBody s__law_box) (defScope s__law_box) .none kV20 dc20 pm20 an20 cd20 ct20), sl20⟩) (x20 : PySem.W.codeIn K cd20 "_law_box" = true) (k20 : PySem.W.keepIn K (.ref f20) = true)
    (a21 : PySem.W.nsIn K mainGlobals "_law_draw" = some (some (.ref f21))) (l21 : K.lookup f21 = some ⟨oc21, od21, .func (PySem.W.fnOf "_law_draw" "_law_draw" (defArgs s__law_draw) (defBody s__law_draw) (defScope s__law_draw) .none kV21 dc21 pm21 an21 cd21 ct21), sl21⟩) (x21 : PySem.W.codeIn K cd21 "_law_draw" = true) (k21 : PySem.W.keepIn K (.ref f21) = true)
    (a22 : PySem.W.nsIn K mainGlobals "_law_keys" = some (some (.ref f22))) (l22 : K.lookup f22 = some ⟨oc22, od22, .func (PySem.W.fnOf "_law_keys" "_law_keys" (defArgs s__law_keys) (defBody s__law_keys) (defScope s__law_keys) .none kV22 dc22 pm22 an22 cd22 ct22), sl22⟩) (x22 : PySem.W.codeIn K cd22 "_law_keys" = true) (k22 : PySem.W.keepIn K (.ref f22) = true)
    (a23 : PySem.W.nsIn K mainGlobals "_law_shuffled" = some (some (.ref f23))) (l23 : K.lookup f23 = some ⟨oc23, od23, .func (PySem.W.fnOf "_law_shuffled" "_law_shuffled" (defArgs s__law_shuffled) (defBody s__law_shuffled) (defScope s__law_shuffled) .none kV23 dc23 pm23 an23 cd23 ct23), sl23⟩) (x23 : PySem.W.codeIn K cd23 "_law_shuffled" = true) (k23 : PySem.W.keepIn K (.ref f23) = true)
    (a24 : PySem.W.nsIn K mainGlobals "_law_tree_of" = some (some (.ref f24))) (l24 : K.lookup f24 = some ⟨oc24, od24, .func (PySem.W.fnOf "_law_tree_of" "_law_tree_of" (defArgs s__law_tree_of) (defBody s__law_tree_of) (defScope s__law_tree_of) .none kV24 dc24 pm24 an24 cd24 ct24), sl24⟩) (x24 : PySem.W.codeIn K cd24 "_law_tree_of" = true) (k24 : PySem.W.keepIn K (.ref f24) = true)
    (a25 : PySem.W.nsIn K mainGlobals "_law_children" = some (some (.ref f25))) (l25 : K.lookup f25 = some ⟨oc25, od25, .func (PySem.W.fnOf "_law_children" "_law_children" (defArgs s__law_children) (defBody s__law_children) (defScope s__law_children) .none kV25 dc25 pm25 an25 cd25 ct25), sl25⟩) (x25 : PySem.W.codeIn K cd25 "_law_children" = true) (k25 : PySem.W.keepIn K (.ref f25) = true)
    (a26 : PySem.W.nsIn K mainGlobals "_law_expected" = some (some (.ref f26))) (l26 : K.lookup f26 = some ⟨oc26, od26, .func (PySem.W.fnOf "_law_expected" "_law_expected" (defArgs s__law_expected) (defBody s__law_expected) (defScope s__law_expected) .none kV26 dc26 pm26 an26 cd26 ct26), sl26⟩) (x26 : PySem.W.codeIn K cd26 "_law_expected" = true) (k26 : PySem.W.keepIn K (.ref f26) = true)
    (a27 : PySem.W.nsIn K mainGlobals "_law_random_list" = some (some (.ref f27))) (l27 : K.lookup f27 = some ⟨oc27, od27, .func (PySem.W.fnOf "_law_random_list" "_law_random_list" (defArgs s__law_random_list) (defBody s__law_random_list) (defScope s__law_random_list) .none kV27 dc27 pm27 an27 cd27 ct27), sl27⟩) (x27 : PySem.W.codeIn K cd27 "_law_random_list" = true) (k27 : PySem.W.keepIn K (.ref f27) = true)
    (a28 : PySem.W.nsIn K mainGlobals "_law_long_lists_hold" = some (some (.ref f28))) (l28 : K.lookup f28 = some ⟨oc28, od28, .func (PySem.W.fnOf "_law_long_lists_hold" "_law_long_lists_hold" (defArgs s__law_long_lists_hold) (defBody s__law_long_lists_hold) (defScope s__law_long_lists_hold) .none kV28 dc28 pm28 an28 cd28 ct28), sl28⟩) (x28 : PySem.W.codeIn K cd28 "_law_long_lists_hold" = true) (k28 : PySem.W.keepIn K (.ref f28) = true)
    (a29 : PySem.W.nsIn K mainGlobals "law" = some (some (.ref f29))) (l29 : K.lookup f29 = some ⟨oc29, od29, .func (PySem.W.fnOf "law" "law" (defArgs s_law) (defBody s_law) (defScope s_law) .none kV29 dc29 pm29 an29 cd29 ct29), sl29⟩) (x29 : PySem.W.codeIn K cd29 "law" = true) (k29 : PySem.W.keepIn K (.ref f29) = true)
    (z_abs : PySem.W.nsIn K mainGlobals "abs" = some none)
    (z_all : PySem.W.nsIn K mainGlobals "all" = some none)
    (z_bool : PySem.W.nsIn K mainGlobals "bool" = some none)
    (z_dict : PySem.W.nsIn K mainGlobals "dict" = some none)
    (z_int : PySem.W.nsIn K mainGlobals "int" = some none)
    (z_isinstance : PySem.W.nsIn K mainGlobals "isinstance" = some none)
    (z_len : PySem.W.nsIn K mainGlobals "len" = some none)
    (z_list : PySem.W.nsIn K mainGlobals "list" = some none)
    (z_max : PySem.W.nsIn K mainGlobals "max" = some none)
    (z_min : PySem.W.nsIn K mainGlobals "min" = some none)
    (z_range : PySem.W.nsIn K mainGlobals "range" = some none)
    (z_repr : PySem.W.nsIn K mainGlobals "repr" = some none)
    (z_sorted : PySem.W.nsIn K mainGlobals "sorted" = some none)
    (z_tuple : PySem.W.nsIn K mainGlobals "tuple" = some none)
    {t_MAX_KEY t_MAX_KEYS t_MAX_ROUTE : Tok}
    (q_MAX_KEY : PySem.W.nsIn K mainGlobals "MAX_KEY" = some (some (.int c_MAX_KEY t_MAX_KEY)))
    (q_MAX_KEYS : PySem.W.nsIn K mainGlobals "MAX_KEYS" = some (some (.int c_MAX_KEYS t_MAX_KEYS)))
    (q_MAX_ROUTE : PySem.W.nsIn K mainGlobals "MAX_ROUTE" = some (some (.int c_MAX_ROUTE t_MAX_ROUTE)))
    : ∃ fd : FuncData, (∀ (s : Shared) (v : Value), BindsTo s fd ⟨[v], []⟩ [("script", v)]) ∧ ∀ base : Heap, K.In base → base.Ns mainGlobals mg → FnOkG l.prog w K mg base CX0 10 fa fd ["script"] (fun vs H Q E => vs.length = 1 ∧ spF K w f_law vs H Q E) := by
  have e := hfa.symm.trans (PySem.W.mg_of X G a29)
  cases e
  have F0 := fun_mk (st := s_is_integer) l0 x0 k0
  have B0 := F0.binds (ps := ["candidate"]) fun _ _ _ _ _ _ us hl => match us, hl with | [_], _ => rfl
  have F1 := fun_mk (st := s_is_between) l1 x1 k1
  have B1 := F1.binds (ps := ["candidate", "low", "high"]) fun _ _ _ _ _ _ us hl => match us, hl with | [_, _, _], _ => rfl
  have F2 := fun_mk (st := s_is_key) l2 x2 k2
  have B2 := F2.binds (ps := ["candidate"]) fun _ _ _ _ _ _ us hl => match us, hl with | [_], _ => rfl
  have F3 := fun_mk (st := s_is_one_of) l3 x3 k3
  have B3 := F3.binds (ps := ["keys", "candidate"]) fun _ _ _ _ _ _ us hl => match us, hl with | [_, _], _ => rfl
  have F4 := fun_mk (st := s_check_same_keys) l4 x4 k4
  have B4 := F4.binds (ps := ["first", "second"]) fun _ _ _ _ _ _ us hl => match us, hl with | [_, _], _ => rfl
  have F5 := fun_mk (st := s_parents_by_order) l5 x5 k5
  have B5 := F5.binds (ps := ["order"]) fun _ _ _ _ _ _ us hl => match us, hl with | [_], _ => rfl
  have F6 := fun_mk (st := s_tree_of) l6 x6 k6
  have B6 := F6.binds (ps := ["parents"]) fun _ _ _ _ _ _ us hl => match us, hl with | [_], _ => rfl
  have F7 := fun_mk (st := s_parents_of) l7 x7 k7
  have B7 := F7.binds (ps := ["tree"]) fun _ _ _ _ _ _ us hl => match us, hl with | [_], _ => rfl
  have F8 := fun_mk (st := s_is_pair) l8 x8 k8
  have B8 := F8.binds (ps := ["candidate"]) fun _ _ _ _ _ _ us hl => match us, hl with | [_], _ => rfl
  have F9 := fun_mk (st := s_order_from) l9 x9 k9
  have B9 := F9.binds (ps := ["parents"]) fun _ _ _ _ _ _ us hl => match us, hl with | [_], _ => rfl
  have F10 := fun_mk (st := s_is_tree) l10 x10 k10
  have B10 := F10.binds (ps := ["candidate"]) fun _ _ _ _ _ _ us hl => match us, hl with | [_], _ => rfl
  have F11 := fun_mk (st := s_check_tree) l11 x11 k11
  have B11 := F11.binds (ps := ["candidate"]) fun _ _ _ _ _ _ us hl => match us, hl with | [_], _ => rfl
  have F12 := fun_mk (st := s_check_key) l12 x12 k12
  have B12 := F12.binds (ps := ["keys", "candidate"]) fun _ _ _ _ _ _ us hl => match us, hl with | [_, _], _ => rfl
  have F13 := fun_mk (st := s_children_by) l13 x13 k13
  have B13 := F13.binds (ps := ["parents", "key"]) fun _ _ _ _ _ _ us hl => match us, hl with | [_, _], _ => rfl
  have F14 := fun_mk (st := s_rotate_in) l14 x14 k14
  have B14 := F14.binds (ps := ["parents", "key"]) fun _ _ _ _ _ _ us hl => match us, hl with | [_, _], _ => rfl
  have F15 := fun_mk (st := s_check_rotation) l15 x15 k15
  have B15 := F15.binds (ps := ["tree", "key"]) fun _ _ _ _ _ _ us hl => match us, hl with | [_, _], _ => rfl
  have F16 := fun_mk (st := s_rotated) l16 x16 k16
  have B16 := F16.binds (ps := ["tree", "key"]) fun _ _ _ _ _ _ us hl => match us, hl with | [_, _], _ => rfl
  have F17 := fun_mk (st := s_check_two_trees) l17 x17 k17
  have B17 := F17.binds (ps := ["first", "second"]) fun _ _ _ _ _ _ us hl => match us, hl with | [_, _], _ => rfl
  have F18 := fun_mk (st := s_route) l18 x18 k18
  have B18 := F18.binds (ps := ["first", "second"]) fun _ _ _ _ _ _ us hl => match us, hl with | [_, _], _ => rfl
  have F19 := fun_mk (st := s_is_route) l19 x19 k19
  have B19 := F19.binds (ps := ["first", "second", "candidate"]) fun _ _ _ _ _ _ us hl => match us, hl with | [_, _, _], _ => rfl
  have F20 := fun_mk (st := s__law_box) l20 x20 k20
  have B20 := F20.binds (ps := ["script"]) fun _ _ _ _ _ _ us hl => match us, hl with | [_], _ => rfl
  have F21 := fun_mk (st := s__law_draw) l21 x21 k21
  have B21 := F21.binds (ps := ["source", "count"]) fun _ _ _ _ _ _ us hl => match us, hl with | [_, _], _ => rfl
  have F22 := fun_mk (st := s__law_keys) l22 x22 k22
  have B22 := F22.binds (ps := ["source", "least", "most"]) fun _ _ _ _ _ _ us hl => match us, hl with | [_, _, _], _ => rfl
  have F23 := fun_mk (st := s__law_shuffled) l23 x23 k23
  have B23 := F23.binds (ps := ["source", "items"]) fun _ _ _ _ _ _ us hl => match us, hl with | [_, _], _ => rfl
  have F24 := fun_mk (st := s__law_tree_of) l24 x24 k24
  have B24 := F24.binds (ps := ["order"]) fun _ _ _ _ _ _ us hl => match us, hl with | [_], _ => rfl
  have F25 := fun_mk (st := s__law_children) l25 x25 k25
  have B25 := F25.binds (ps := ["tree"]) fun _ _ _ _ _ _ us hl => match us, hl with | [_], _ => rfl
  have F26 := fun_mk (st := s__law_expected) l26 x26 k26
  have B26 := F26.binds (ps := ["first", "second", "items"]) fun _ _ _ _ _ _ us hl => match us, hl with | [_, _, _], _ => rfl
  have F27 := fun_mk (st := s__law_random_list) l27 x27 k27
  have B27 := F27.binds (ps := ["source", "first", "second"]) fun _ _ _ _ _ _ us hl => match us, hl with | [_, _, _], _ => rfl
  have F28 := fun_mk (st := s__law_long_lists_hold) l28 x28 k28
  have B28 := F28.binds (ps := []) fun _ _ _ _ _ _ us hl => match us, hl with | [], _ => rfl
  have F29 := fun_mk (st := s_law) l29 x29 k29
  have B29 := F29.binds (ps := ["script"]) fun _ _ _ _ _ _ us hl => match us, hl with | [_], _ => rfl
  have T := Tx.mk (F0) (PySem.W.mg_of X G a0) (B0) (F1) (PySem.W.mg_of X G a1) (B1) (F2) (PySem.W.mg_of X G a2) (B2) (F3) (PySem.W.mg_of X G a3) (B3) (F4) (PySem.W.mg_of X G a4) (B4) (F5) (PySem.W.mg_of X G a5) (B5) (F6) (PySem.W.mg_of X G a6) (B6) (F7) (PySem.W.mg_of X G a7) (B7) (F8) (PySem.W.mg_of X G a8) (B8) (F9) (PySem.W.mg_of X G a9) (B9) (F10) (PySem.W.mg_of X G a10) (B10) (F11) (PySem.W.mg_of X G a11) (B11) (F12) (PySem.W.mg_of X G a12) (B12) (F13) (PySem.W.mg_of X G a13) (B13) (F14) (PySem.W.mg_of X G a14) (B14) (F15) (PySem.W.mg_of X G a15) (B15) (F16) (PySem.W.mg_of X G a16) (B16) (F17) (PySem.W.mg_of X G a17) (B17) (F18) (PySem.W.mg_of X G a18) (B18) (F19) (PySem.W.mg_of X G a19) (B19) (F20) (PySem.W.mg_of X G a20) (B20) (F21) (PySem.W.mg_of X G a21) (B21) (F22) (PySem.W.mg_of X G a22) (B22) (F23) (PySem.W.mg_of X G a23) (B23) (F24) (PySem.W.mg_of X G a24) (B24) (F25) (PySem.W.mg_of X G a25) (B25) (F26) (PySem.W.mg_of X G a26) (B26) (F27) (PySem.W.mg_of X G a27) (B27) (F28) (PySem.W.mg_of X G a28) (B28) (F29) (PySem.W.mg_of X G a29) (B29) (PySem.W.mg_none_of X G z_abs) (PySem.W.mg_none_of X G z_all) (PySem.W.mg_none_of X G z_bool) (PySem.W.mg_none_of X G z_dict) (PySem.W.mg_none_of X G z_int) (PySem.W.mg_none_of X G z_isinstance) (PySem.W.mg_none_of X G z_len) (PySem.W.mg_none_of X G z_list) (PySem.W.mg_none_of X G z_max) (PySem.W.mg_none_of X G z_min) (PySem.W.mg_none_of X G z_range) (PySem.W.mg_none_of X G z_repr) (PySem.W.mg_none_of X G z_sorted) (PySem.W.mg_none_of X G z_tuple) (⟨_, PySem.W.mg_of X G q_MAX_KEY⟩) (⟨_, PySem.W.mg_of X G q_MAX_KEYS⟩) (⟨_, PySem.W.mg_of X G q_MAX_ROUTE⟩)
  exact ⟨PySem.W.fnOf "law" "law" (defArgs s_law) (defBody s_law) (defScope s_law) .none kV29 dc29 pm29 an29 cd29 ct29, fun s v => .of_eq rfl, fun base _ _ => ok_law T⟩
theorem law_end (law_ok : ∀ ns : List Int, ns.length ≤ 63 → f_law [.sh (.list (ns.map PyData.int))] = .ok (.sh (.bool true)) [none]) (K : PySem.W.Frag) (w : World) (H : Hp) (a : Addr) (ns : List Int) (hl : ns.length ≤ 63) (hS : SqL K H a (ns.map V.int)) :
    ([V.ref a] : List V).length = 1 ∧ spF K w f_law [.ref a] H (fun v _ => v = .bl true) fun _ _ _ => False := by
  refine ⟨rfl, H, fun _ => none, [.sh (.list (ns.map PyData.int))], ⟨rfl, Evl.Ex.refl H, fun k d e => ?_, fun k t o e => ?_, fun _ _ _ e => (nomatch e), fun _ _ e => (nomatch e), fun k e => ?_⟩, ?_⟩
  · cases k with
    | zero => simp at e; subst e; exact ⟨_, rfl, .lst hS (ShA.of_ints ns)⟩
    | succ k => simp at e
  · cases k with
    | zero => simp at e
    | succ k => simp at e
  · cases k with
    | zero => simp at e
    | succ k => simp at e
  · rw [law_ok ns hl]
    intro v R' H' _ r _
    cases r
    rfl
/-! ### keys -/
structure Keys (ks : List Int) : Prop where
  asc : ks.Pairwise (· < ·)
  bd : ∀ k ∈ ks, -1000000000000000000 ≤ k ∧ k ≤ 1000000000000000000
theorem rangeD_len (lo : Int) (n : Nat) : (rangeD lo n).length = n := by unfold rangeD; rw [List.length_map, List.length_range]
theorem ixN_last {n : Nat} (h : 0 < n) : ixN n (-1) = some (n - 1) := by
  unfold ixN
  rw [if_neg (by omega), if_pos (by omega)]
  congr 1
  omega
theorem set_last_ints (ks : List Int) (x : Int) (j : Nat) : (ks.map PyData.int).set j (.int x) = (ks.set j x).map PyData.int := by rw [List.map_set]
theorem perm_erase {α : Type} : ∀ (l : List α) (j : Nat) (h : j < l.length), ([l[j]] ++ l.eraseIdx j).Perm l
  | x :: l, 0, _ => List.Perm.refl _
  | x :: l, j + 1, h => by
    have ih := perm_erase l j (by simpa using h)
    simp only [List.getElem_cons_succ, List.eraseIdx_cons_succ]
    exact (List.Perm.swap x _ _).trans (ih.cons x)

/-! ### orders -/
structure Ord (os : List Int) : Prop where
  nd : os.Nodup
  bd : ∀ k ∈ os, -1000000000000000000 ≤ k ∧ k ≤ 1000000000000000000
theorem Keys.ord {ks os : List Int} (h : Keys ks) (p : os.Perm ks) : Ord os :=
  ⟨p.nodup_iff.mpr (h.asc.imp fun hab => Int.ne_of_lt hab), fun k hk => h.bd k (p.mem_iff.mp hk)⟩

/-! ### check_order of an order -/
theorem is_integer_int (i : Int) : f_is_integer [.sh (.int i)] = .ok (.sh (.bool true)) [none] := by
  unfold f_is_integer b_is_integer n_is_integer
  simp
theorem is_between_int (i lo hi : Int) : f_is_between [.sh (.int i), .sh (.int lo), .sh (.int hi)] = .ok (.sh (.bool (decide (lo ≤ i ∧ i ≤ hi)))) [none, none, none] := by
  unfold f_is_between b_is_between n_is_between
  by_cases h : lo ≤ i
  · simp [is_integer_int, h]
  · simp [is_integer_int, h]
theorem is_key_int (i : Int) : f_is_key [.sh (.int i)] = .ok (.sh (.bool (decide (-1000000000000000000 ≤ i ∧ i ≤ 1000000000000000000)))) [none] := by
  unfold f_is_key b_is_key n_is_key c_MAX_KEY
  simp [is_between_int]
theorem enum_ints {ns : List Int} {i : Nat} {d : PD} (h : (enumD (ns.map PyData.int))[i]? = some d) : ∃ x, ns[i]? = some x ∧ d = .tuple [.int (i : Int), .int x] := by
  obtain ⟨y, h1, rfl⟩ := enumD_get h
  rw [List.getElem?_map] at h1
  cases e : ns[i]? with
  | none => rw [e] at h1; cases h1
  | some x => rw [e] at h1; cases h1; exact ⟨x, rfl, rfl⟩
theorem take_succ_get {α : Type} {l : List α} {i : Nat} {x : α} (h : l[i]? = some x) : l.take (i + 1) = l.take i ++ [x] := by
  rw [List.take_add_one, h]; rfl
theorem not_mem_take {l : List Int} (hn : l.Nodup) {i : Nat} {x : Int} (h : l[i]? = some x) : x ∉ l.take i := by
  intro hm
  obtain ⟨j, hj, e⟩ := List.mem_iff_getElem.mp hm
  rw [List.getElem_take] at e
  have hj2 : j < i ∧ j < l.length := by
    rw [List.length_take] at hj; omega
  have h2 : l[j]? = some x := by rw [List.getElem?_eq_getElem hj2.2, e]
  have := nd_ix hn h2 h
  omega

/-! ### which key stands above which: plain mathematics of orders -/
def mn (u k : Int) : Int := if k < u then k else u
def mx (u k : Int) : Int := if k > u then k else u
def inR (lo hi a : Int) : Bool := decide (lo ≤ a) && decide (a ≤ hi)
def firstIn (os : List Int) (lo hi : Int) : Option Int := os.find? fun k => decide (lo ≤ k) && decide (k ≤ hi)
/-- u is k or stands above k -/
def ab (os : List Int) (u k : Int) : Bool := decide (firstIn os (mn u k) (mx u k) = some u)
/-- the keys from the root to k -/
def pathP (os : List Int) (k : Int) : List Int := os.filter fun u => ab os u k
/-- no key of E lies between o and k -/
def cand (E : List Int) (k o : Int) : Bool := E.all fun e => !(decide (mn k o < e) && decide (e < mx k o))
def parE (E : List Int) (k : Int) : Option Int := (E.filter (cand E k)).getLast?
def ahead (os : List Int) (k : Int) : List Int := os.takeWhile fun x => !decide (x = k)
/-- the parent -/
def par (os : List Int) (k : Int) : Option Int := parE (ahead os k) k
theorem mnmx (u k : Int) : mn u k ≤ u ∧ mn u k ≤ k ∧ u ≤ mx u k ∧ k ≤ mx u k ∧ (mn u k = u ∨ mn u k = k) ∧ (mx u k = u ∨ mx u k = k) ∧ (u ≤ k → mn u k = u ∧ mx u k = k) ∧ (k ≤ u → mn u k = k ∧ mx u k = u) := by
  unfold mn mx
  split <;> split <;> omega
theorem ahead_eq {os A C : List Int} {k : Int} (hn : os.Nodup) (e : os = A ++ k :: C) : ahead os k = A := by
  subst e
  unfold ahead
  have h : ∀ a ∈ A, (!decide (a = k)) = true := fun a ha => by
    have : a ≠ k := fun z => by
      subst z
      rw [List.nodup_append] at hn
      exact hn.2.2 a ha a List.mem_cons_self rfl
    simp [this]
  rw [List.takeWhile_append_of_pos h, List.takeWhile_cons]
  simp
theorem firstIn_at {os A C : List Int} {u lo hi : Int} (e : os = A ++ u :: C) (h : lo ≤ u ∧ u ≤ hi) (hu : u ∉ A) : firstIn os lo hi = some u ↔ ∀ a ∈ A, ¬ (lo ≤ a ∧ a ≤ hi) := by
  subst e
  unfold firstIn
  rw [List.find?_append, List.find?_cons_of_pos (by simp [h])]
  constructor
  · intro q a ha hr
    cases z : A.find? (fun k => decide (lo ≤ k) && decide (k ≤ hi)) with
    | none =>
      have := List.find?_eq_none.mp z a ha
      simp [hr] at this
    | some b =>
      rw [z] at q
      cases q
      exact hu (List.mem_of_find?_eq_some z)
  · intro q
    have z : A.find? (fun k => decide (lo ≤ k) && decide (k ≤ hi)) = none := List.find?_eq_none.mpr fun a ha hr => q a ha (by simpa using hr)
    rw [z]
    rfl
theorem ab_at {os A C : List Int} {u k : Int} (hn : os.Nodup) (e : os = A ++ u :: C) : ab os u k = true ↔ ∀ a ∈ A, ¬ (mn u k ≤ a ∧ a ≤ mx u k) := by
  have hu : u ∉ A := fun h => by
    subst e
    rw [List.nodup_append] at hn
    exact hn.2.2 u h u List.mem_cons_self rfl
  have := mnmx u k
  unfold ab
  rw [decide_eq_true_eq]
  exact firstIn_at e (by omega) hu
/-- the nearest key on that side -/
theorem nearest (E : List Int) (k : Int) : ∀ (n : Nat) (u : Int), (u - k).natAbs ≤ n → u ∈ E → u ≠ k → ∃ s ∈ E, (mn u k ≤ s ∧ s ≤ mx u k) ∧ s ≠ k ∧ cand E k s = true := by
  intro n
  induction n with
  | zero => intro u h _ hk; omega
  | succ n ih =>
    intro u h hu hk
    by_cases hc : cand E k u = true
    · have := mnmx u k
      exact ⟨u, hu, by omega, hk, hc⟩
    · unfold cand at hc
      rw [List.all_eq_true] at hc
      have : ∃ e ∈ E, mn k u < e ∧ e < mx k u := by
        refine Classical.byContradiction fun q => hc fun e he => ?_
        have : ¬ (mn k u < e ∧ e < mx k u) := fun z => q ⟨e, he, z⟩
        by_cases h1 : mn k u < e <;> by_cases h2 : e < mx k u <;> simp [h1, h2]
        exact this ⟨h1, h2⟩
      obtain ⟨e, he, h1, h2⟩ := this
      have m1 := mnmx k u
      have m2 := mnmx u k
      have m3 := mnmx e k
      obtain ⟨s, hs, h3, h4, h5⟩ := ih e (by omega) he (by omega)
      exact ⟨s, hs, by omega, h4, h5⟩
theorem cand_iff {E : List Int} {k o : Int} : cand E k o = true ↔ ∀ e ∈ E, ¬ (mn k o < e ∧ e < mx k o) := by
  unfold cand
  rw [List.all_eq_true]
  exact ⟨fun h e he z => by have := h e he; simp [z] at this, fun h e he => by have := h e he; by_cases h1 : mn k o < e <;> by_cases h2 : e < mx k o <;> simp [h1, h2]; exact this ⟨h1, h2⟩⟩
theorem split_mem {os : List Int} {k : Int} (h : k ∈ os) : ∃ A C, os = A ++ k :: C := List.append_of_mem h
theorem nd_parts {A C : List Int} {u : Int} (hn : (A ++ u :: C).Nodup) : (∀ a ∈ A, a ≠ u) ∧ (∀ c ∈ C, c ≠ u) ∧ (∀ a ∈ A, ∀ c ∈ C, a ≠ c) ∧ A.Nodup ∧ C.Nodup := by
  rw [List.nodup_append, List.nodup_cons] at hn
  exact ⟨fun a ha => hn.2.2 a ha u List.mem_cons_self, fun c hc z => hn.2.1.1 (z ▸ hc), fun a ha c hc => hn.2.2 a ha c (List.mem_cons_of_mem _ hc), hn.1, hn.2.1.2⟩
theorem getLast_filter {E : List Int} {p : Int → Bool} {q : Int} (h : (E.filter p).getLast? = some q) : ∃ E1 E2, E = E1 ++ q :: E2 ∧ p q = true ∧ ∀ e ∈ E2, p e = false := by
  induction E with
  | nil => simp at h
  | cons x E ih =>
    cases hE : (E.filter p).getLast? with
    | none =>
      have h0 : E.filter p = [] := List.getLast?_eq_none_iff.mp hE
      rw [List.filter_cons] at h
      split at h
      · rename_i hx
        rw [h0] at h
        cases h
        exact ⟨[], E, rfl, hx, fun e he => by
          have := List.filter_eq_nil_iff.mp h0 e he
          simpa using this⟩
      · rw [hE] at h; cases h
    | some q' =>
      obtain ⟨E1, E2, e1, e2, e3⟩ := ih (by
        rw [List.filter_cons] at h
        split at h
        · rw [List.getLast?_cons, hE] at h
          cases h
          exact hE
        · exact h)
      exact ⟨x :: E1, E2, by rw [e1]; rfl, e2, e3⟩
theorem filter_all_false {l : List Int} {p : Int → Bool} (h : ∀ a ∈ l, p a = false) : l.filter p = [] := List.filter_eq_nil_iff.mpr fun a ha => by rw [h a ha]; decide
theorem filter_same {l : List Int} {p q : Int → Bool} (h : ∀ a ∈ l, p a = q a) : l.filter p = l.filter q := List.filter_congr h
/-- a later key does not stand above an earlier one -/
theorem ab_late {os A C : List Int} {k u : Int} (hn : os.Nodup) (e : os = A ++ k :: C) (hu : u ∈ C) : ab os u k = false := by
  obtain ⟨C1, C2, rfl⟩ := split_mem hu
  have e' : os = (A ++ k :: C1) ++ u :: C2 := by rw [e]; simp
  have m := mnmx u k
  cases h : ab os u k with
  | false => rfl
  | true => exact absurd ⟨m.2.1, m.2.2.2.1⟩ ((ab_at hn e').mp h k (by simp))
theorem ab_self {os A C : List Int} {k : Int} (hn : os.Nodup) (e : os = A ++ k :: C) : ab os k k = true := by
  refine (ab_at hn e).mpr fun a ha z => ?_
  have m := mnmx k k
  subst e
  exact (nd_parts hn).1 a ha (by omega)
theorem par_none {os A C : List Int} {k : Int} (hn : os.Nodup) (e : os = A ++ k :: C) (h : par os k = none) : A = [] := by
  unfold par parE at h
  rw [ahead_eq hn e] at h
  have h0 := List.getLast?_eq_none_iff.mp h
  cases A with
  | nil => rfl
  | cons a A =>
    have hak : a ≠ k := by subst e; exact (nd_parts hn).1 a List.mem_cons_self
    obtain ⟨s, hs, _, _, hc⟩ := nearest (a :: A) k _ a (Nat.le_refl _) List.mem_cons_self hak
    have := List.filter_eq_nil_iff.mp h0 s hs
    exact absurd hc this
theorem path_root {os A C : List Int} {k : Int} (hn : os.Nodup) (e : os = A ++ k :: C) (h : par os k = none) : pathP os k = [k] := by
  have hA := par_none hn e h
  subst hA
  unfold pathP
  have h1 : ∀ c ∈ C, ab os c k = false := fun c hc => ab_late hn e hc
  conv => lhs; arg 2; rw [e]
  rw [List.nil_append, List.filter_cons, if_pos (ab_self hn e), filter_all_false h1]
theorem path_step {os A C : List Int} {k q : Int} (hn : os.Nodup) (e : os = A ++ k :: C) (h : par os k = some q) : pathP os k = pathP os q ++ [k] ∧ q ∈ A := by
  unfold par parE at h
  rw [ahead_eq hn e] at h
  obtain ⟨E1, E2, rfl, hq, h2⟩ := getLast_filter h
  have hq := cand_iff.mp hq
  refine ⟨?_, by simp⟩
  have e1 : os = E1 ++ q :: (E2 ++ k :: C) := by rw [e]; simp
  have hn1 := hn
  rw [e1] at hn1
  obtain ⟨n1, n2, n3, n4, n5⟩ := nd_parts hn1
  have hn2 := hn
  rw [e] at hn2
  obtain ⟨k1, k2, k3, k4, k5⟩ := nd_parts hn2
  have hqk : q ≠ k := k1 q (by simp)
  unfold pathP
  have f1 : ∀ u ∈ E1, ab os u k = ab os u q := fun u hu => by
    obtain ⟨D1, D2, rfl⟩ := split_mem hu
    have e2 : os = D1 ++ u :: (D2 ++ q :: (E2 ++ k :: C)) := by rw [e1]; simp
    have huq : u ≠ q := n1 u (by simp)
    have huk : u ≠ k := k1 u (by simp)
    have m1 := mnmx k q
    have m2 := mnmx u k
    have m3 := mnmx u q
    have hu' := hq u (by simp)
    rw [Bool.eq_iff_iff, ab_at hn e2, ab_at hn e2]
    constructor
    · intro z a ha hr
      have haq : a ≠ q := n1 a (by simp [ha])
      have hak : a ≠ k := k1 a (by simp [ha])
      have ha' := hq a (by simp [ha])
      exact z a ha (by omega)
    · intro z a ha hr
      have haq : a ≠ q := n1 a (by simp [ha])
      have hak : a ≠ k := k1 a (by simp [ha])
      have ha' := hq a (by simp [ha])
      exact z a ha (by omega)
  have f2 : ab os q k = true := (ab_at hn e1).mpr fun a ha hr => by
    have haq : a ≠ q := n1 a ha
    have hak : a ≠ k := k1 a (by simp [ha])
    have ha' := hq a (by simp [ha])
    have m1 := mnmx k q
    have m2 := mnmx q k
    omega
  have f3 : ∀ u ∈ E2, ab os u k = false := fun u hu => by
    obtain ⟨D1, D2, rfl⟩ := split_mem hu
    have e2 : os = (E1 ++ q :: D1) ++ u :: (D2 ++ k :: C) := by rw [e]; simp
    have huk : u ≠ k := k1 u (by simp)
    have huq : u ≠ q := n2 u (by simp)
    have m1 := mnmx k q
    have m2 := mnmx u k
    have hu' := hq u (by simp)
    cases z : ab os u k with
    | false => rfl
    | true =>
      have z := (ab_at hn e2).mp z
      have zq := z q (by simp)
      -- q and u on the two sides of k
      obtain ⟨s, hs, hr, hsk, hc⟩ := nearest (E1 ++ q :: (D1 ++ u :: D2)) k _ u (Nat.le_refl _) (by simp) huk
      have hs2 : s ∈ E1 ∨ s = q := by
        rcases List.mem_append.mp hs with hs | hs
        · exact .inl hs
        · rcases List.mem_cons.mp hs with hs | hs
          · exact .inr hs
          · rw [h2 s hs] at hc; cases hc
      rcases hs2 with hs2 | rfl
      · exact absurd hr (z s (by simp [hs2]))
      · exact absurd hr zq
  have f4 : ∀ u ∈ E2 ++ k :: C, ab os u q = false := fun u hu => ab_late hn e1 hu
  have f5 : ∀ u ∈ C, ab os u k = false := fun u hu => ab_late hn e hu
  have lhs : os.filter (fun u => ab os u k) = E1.filter (fun u => ab os u k) ++ q :: ([] ++ k :: []) := by
    conv => lhs; arg 2; rw [e1]
    rw [List.filter_append, List.filter_cons, if_pos f2, List.filter_append, List.filter_cons, if_pos (ab_self hn e), filter_all_false f3, filter_all_false f5]
  have rhs : os.filter (fun u => ab os u q) = E1.filter (fun u => ab os u q) ++ [q] := by
    conv => lhs; arg 2; rw [e1]
    rw [List.filter_append, List.filter_cons, if_pos (ab_self hn e1), filter_all_false f4]
  rw [lhs, rhs, filter_same f1]
  simp
theorem path_last {os : List Int} {k : Int} (hn : os.Nodup) (hk : k ∈ os) : ∃ l, pathP os k = l ++ [k] ∧ ∀ u, u ∈ l ↔ u ∈ os ∧ u ≠ k ∧ ab os u k = true := by
  obtain ⟨A, C, e⟩ := split_mem hk
  have hn2 := hn
  rw [e] at hn2
  obtain ⟨k1, k2, _, _, _⟩ := nd_parts hn2
  have f5 : ∀ u ∈ C, ab os u k = false := fun u hu => ab_late hn e hu
  refine ⟨A.filter fun u => ab os u k, ?_, fun u => ?_⟩
  · unfold pathP
    conv => lhs; arg 2; rw [e]
    rw [List.filter_append, List.filter_cons, if_pos (ab_self hn e), filter_all_false f5]
  · rw [List.mem_filter]
    constructor
    · exact fun ⟨h1, h2⟩ => ⟨by rw [e]; simp [h1], k1 u h1, h2⟩
    · rintro ⟨h1, h2, h3⟩
      rw [e] at h1
      rcases List.mem_append.mp h1 with h1 | h1
      · exact ⟨h1, h3⟩
      · rcases List.mem_cons.mp h1 with h1 | h1
        · exact absurd h1 h2
        · rw [f5 u h1] at h3; cases h3
theorem firstIn_some {os : List Int} {a b : Int} (ha : a ∈ os) : ∃ m A C, firstIn os (mn a b) (mx a b) = some m ∧ os = A ++ m :: C ∧ (mn a b ≤ m ∧ m ≤ mx a b) ∧ ∀ x ∈ A, ¬ (mn a b ≤ x ∧ x ≤ mx a b) := by
  cases h : firstIn os (mn a b) (mx a b) with
  | none =>
    have m := mnmx a b
    have := List.find?_eq_none.mp h a ha
    have h1 : mn a b ≤ a ∧ a ≤ mx a b := by omega
    simp [h1] at this
  | some m =>
    obtain ⟨h1, A, C, e, h2⟩ := List.find?_eq_some_iff_append.mp h
    refine ⟨m, A, C, rfl, e, by simpa using h1, fun x hx z => ?_⟩
    have := h2 x hx
    simp [z] at this
/-- the last common key of two paths is the first key between the two -/
theorem meet_last {os : List Int} {f s m : Int} (hn : os.Nodup) (hf : f ∈ os) (hs : s ∈ os) (h : firstIn os (mn f s) (mx f s) = some m) : ∃ l, (pathP os s).filter (fun u => decide (u ∈ pathP os f)) = l ++ [m] := by
  obtain ⟨m', A, C, h', e, hr, hA⟩ := firstIn_some (b := s) hf
  rw [h] at h'; cases h'
  have mf := mnmx f s
  have key : ∀ u, u ∈ os → (decide (u ∈ pathP os f) = ab os u f) := fun u hu => by
    rw [Bool.eq_iff_iff, decide_eq_true_eq]
    unfold pathP
    rw [List.mem_filter]
    exact ⟨fun h => h.2, fun h => ⟨hu, h⟩⟩
  have e0 : (pathP os s).filter (fun u => decide (u ∈ pathP os f)) = os.filter (fun u => ab os u f && ab os u s) := by
    conv => lhs; arg 2; unfold pathP
    rw [List.filter_filter]
    exact List.filter_congr fun u hu => by rw [key u hu]
  rw [e0]
  have hmf : ab os m f = true := (ab_at hn e).mpr fun a ha z => by
    have := mnmx m f
    exact hA a ha (by omega)
  have hms : ab os m s = true := (ab_at hn e).mpr fun a ha z => by
    have := mnmx m s
    exact hA a ha (by omega)
  have hC : ∀ u ∈ C, (ab os u f && ab os u s) = false := fun u hu => by
    obtain ⟨C1, C2, rfl⟩ := split_mem hu
    have e' : os = (A ++ m :: C1) ++ u :: C2 := by rw [e]; simp
    cases h1 : ab os u f with
    | false => rfl
    | true =>
      cases h2 : ab os u s with
      | false => rfl
      | true =>
        have z1 := (ab_at hn e').mp h1 m (by simp)
        have z2 := (ab_at hn e').mp h2 m (by simp)
        have q1 := mnmx u f
        have q2 := mnmx u s
        omega
  conv => rhs; intro l; lhs; arg 2; rw [e]
  rw [List.filter_append, List.filter_cons, if_pos (by rw [hmf, hms]; rfl), filter_all_false hC]
  exact ⟨_, rfl⟩
theorem pathP_len (os : List Int) (k : Int) : (pathP os k).length ≤ os.length := List.length_filter_le _ _
theorem path_mem {os : List Int} {k u : Int} (h : u ∈ pathP os k) : u ∈ os := (List.mem_filter.mp h).1

/-! ### what the law computes: parents, paths -/
def optD : Option Int → PD
  | some k => .int k
  | none => .none
@[simp] theorem optD_some (k : Int) : optD (some k) = .int k := rfl
@[simp] theorem optD_none : optD none = .none := rfl
@[simp] theorem shaped_optD (o : Option Int) : SeqAt.shaped (optD o) = true := by cases o <;> simp
@[simp] theorem eqv_optD (a b : Option Int) : PyData.eqv (optD a) (optD b) = decide (a = b) := by
  cases a <;> cases b <;> simp
theorem cut_take (ds : List PD) (i : Nat) : cutD ds none (some (i : Int)) = ds.take i := by
  unfold cutD
  rw [HT.sIx_none, HT.sIx_nat, List.drop_zero, Nat.sub_zero]
  rw [List.take_eq_take_iff]
  omega
@[simp] theorem cut_ints (ns : List Int) (i : Nat) : cutD (ns.map PyData.int) none (some (i : Int)) = (ns.take i).map PyData.int := by
  rw [cut_take, List.map_take]
def pkv (os E : List Int) : List (Key × PD) := E.map fun k => (Sum.inl k, optD (par os k))
def parD (os : List Int) : PD := .dict (os.map fun k => (PyData.int k, optD (par os k)))
def pOb (os : List Int) : Ob := .dic (pkv os os)
@[simp] theorem pOb_pd (os : List Int) : (pOb os).pd = some (parD os) := by
  show some (PyData.dict ((pkv os os).map fun p => (kD p.1, p.2))) = some (parD os)
  unfold pkv parD
  rw [List.map_map]
  rfl
@[simp] theorem asgAV_pOb (i : Nat) (os : List Int) (Γ : Sto) : asgAV i (.own (pOb os)) Γ = some (Γ.set i (.own none (pOb os))) := rfl
@[simp] theorem retA_pOb (os : List Int) (Γ : Sto) : retA Γ (.own (pOb os)) = some (.own (pOb os)) := rfl
theorem gSet_di (kvs : List (Key × PD)) (k : Int) (d : PD) (h : kvs.length < lim) : gSet (.dic kvs) (.int k) d = some (.dic (gSet.putP kvs (.inl k) d)) := by
  show (if kvs.length < lim then some (Ob.dic (gSet.putP kvs (.inl k) d)) else none) = _
  rw [if_pos h]
theorem putP_map (f : Int → PD) (E : List Int) (k : Int) (h : k ∉ E) : gSet.putP (E.map fun k => ((Sum.inl k : Key), f k)) (.inl k) (f k) = (E ++ [k]).map fun k => (Sum.inl k, f k) := by
  unfold gSet.putP
  rw [if_neg, List.map_append]
  · rfl
  · rw [List.any_map]
    simp
    exact h
theorem lookD_map (f : Int → PD) (k : Int) : ∀ os : List Int, k ∈ os → lookD (os.map fun k => (PyData.int k, f k)) (.int k) = some (f k)
  | x :: os, h => by
    by_cases e : x = k
    · subst e
      simp [lookD, List.find?_cons, keyEq]
    · have ih := lookD_map f k os (by simpa [Ne.symm e] using h)
      unfold lookD at ih ⊢
      rw [List.map_cons, List.find?_cons]
      have : keyEq (PyData.int x) (.int k) = false := decide_eq_false e
      simp only [this]
      exact ih
theorem gIx_d (kvs : List (PD × PD)) (k : Int) : gIx (.dict kvs) (.int k) = (lookD kvs (.int k)).map .sh := rfl
theorem parD_ix {os : List Int} {k : Int} (h : k ∈ os) : gIx (parD os) (.int k) = some (.sh (optD (par os k))) := by
  unfold parD
  rw [gIx_d, lookD_map (fun k => optD (par os k)) k os h]
  rfl
/-- the last candidate so far -/
def lastC (E : List Int) (k : Int) (j : Nat) : Option Int := ((E.take j).filter (cand E k)).getLast?
theorem lastC_succ {E : List Int} {k o : Int} {j : Nat} (h : E[j]? = some o) : lastC E k (j + 1) = if cand E k o then some o else lastC E k j := by
  unfold lastC
  rw [take_succ_get h, List.filter_append]
  by_cases hc : cand E k o = true
  · rw [if_pos hc, List.filter_cons, if_pos hc]
    simp
  · rw [if_neg hc, List.filter_cons, if_neg hc]
    simp
theorem cand_nil (E : List Int) (k o : Int) : decide (E.filter (fun e => decide (mn k o < e) && decide (e < mx k o)) = []) = cand E k o := by
  rw [Bool.eq_iff_iff, decide_eq_true_eq, List.filter_eq_nil_iff, cand, List.all_eq_true]
  refine ⟨fun h e he => ?_, fun h e he => ?_⟩ <;> have := h e he <;> revert this <;> cases decide (mn k o < e) <;> cases decide (e < mx k o) <;> simp
theorem take_ahead {os : List Int} {i : Nat} {k : Int} (hn : os.Nodup) (h : os[i]? = some k) : ahead os k = os.take i := by
  obtain ⟨hi, e⟩ := List.getElem?_eq_some_iff.mp h
  refine ahead_eq (C := os.drop (i + 1)) hn ?_
  conv => lhs; rw [← List.take_append_drop i os]
  rw [List.drop_eq_getElem_cons hi, e]
theorem map_true {α β : Type} (v : α → β) (l : List α) : (l.filter fun _ => true).map v = l.map v := by
  rw [List.filter_eq_self.mpr fun _ _ => rfl]

/-! ### children: at most one on each side -/
theorem append_at {l A B C D : List Int} {x : Int} (hn : l.Nodup) (e1 : l = A ++ x :: B) (e2 : l = C ++ x :: D) : A = C := (ahead_eq hn e1).symm.trans (ahead_eq hn e2)
theorem par_split {os A C : List Int} {k q : Int} (hn : os.Nodup) (e : os = A ++ k :: C) (h : par os k = some q) : ∃ E1 E2, A = E1 ++ q :: E2 ∧ cand A k q = true ∧ ∀ x ∈ E2, cand A k x = false := by
  unfold par parE at h
  rw [ahead_eq hn e] at h
  obtain ⟨E1, E2, h1, h2, h3⟩ := getLast_filter h
  exact ⟨E1, E2, h1, h2, h3⟩
theorem side_aux {os A B C : List Int} {c c' q : Int} (hn : os.Nodup) (e : os = A ++ c :: (B ++ c' :: C)) (h : par os c = some q) (h' : par os c' = some q) (s : (c < q ∧ c' < q) ∨ (q < c ∧ q < c')) : False := by
  obtain ⟨A1, A2, eA, hc, _⟩ := par_split hn e h
  have e' : os = (A ++ c :: B) ++ c' :: C := by rw [e]; simp
  obtain ⟨E1, E2, eE, hc', hl⟩ := par_split hn e' h'
  have hn1 : (A ++ c :: B).Nodup := by
    rw [e', List.nodup_append] at hn; exact hn.1
  have hE : E1 = A1 := append_at hn1 eE (B := E2) (D := A2 ++ c :: B) (by rw [eA]; simp)
  have hcc : c ≠ c' := by
    rw [e'] at hn
    exact (nd_parts hn).1 c (by simp)
  have hne : ∀ a ∈ A, a ≠ c := by rw [e] at hn; exact (nd_parts hn).1
  have z := cand_iff.mp hc' c (by simp)
  have m := mnmx c' q
  obtain ⟨x, hx, hr, hxk, hcx⟩ := nearest (A ++ c :: B) c' _ c (Nat.le_refl _) (by simp) hcc
  have m2 := mnmx c c'
  have hx2 : x ∈ E1 ∨ x = q := by
    rw [eE] at hx
    rcases List.mem_append.mp hx with hx | hx
    · exact .inl hx
    · rcases List.mem_cons.mp hx with hx | hx
      · exact .inr hx
      · rw [hl x hx] at hcx; cases hcx
  rcases hx2 with hx2 | rfl
  · have hxA : x ∈ A := by rw [eA, ← hE]; exact List.mem_append_left _ hx2
    have w := cand_iff.mp hc x hxA
    have m3 := mnmx c q
    have := hne x hxA
    omega
  · omega
/-- two children on one side of a key are one -/
theorem side_one {os : List Int} {c c' q : Int} (hn : os.Nodup) (hc : c ∈ os) (hc' : c' ∈ os) (h : par os c = some q) (h' : par os c' = some q) (s : (c < q ∧ c' < q) ∨ (q < c ∧ q < c')) : c = c' := by
  refine Classical.byContradiction fun ne => ?_
  obtain ⟨A, C, e⟩ := split_mem hc
  rw [e] at hc'
  rcases List.mem_append.mp hc' with h1 | h1
  · obtain ⟨A1, A2, e1⟩ := split_mem h1
    exact side_aux hn (c := c') (c' := c) (A := A1) (B := A2) (C := C) (by rw [e, e1]; simp) h' h (s.imp (fun z => ⟨z.2, z.1⟩) fun z => ⟨z.2, z.1⟩)
  · rcases List.mem_cons.mp h1 with h1 | h1
    · exact ne h1.symm
    · obtain ⟨C1, C2, e1⟩ := split_mem h1
      exact side_aux hn (A := A) (B := C1) (C := C2) (by rw [e, e1]) h h' s
theorem par_mem {os : List Int} {k q : Int} (hn : os.Nodup) (hk : k ∈ os) (h : par os k = some q) : q ∈ os ∧ q ∈ ahead os k ∧ q ≠ k := by
  obtain ⟨A, C, e⟩ := split_mem hk
  obtain ⟨E1, E2, eA, _, _⟩ := par_split hn e h
  rw [ahead_eq hn e]
  have hq : q ∈ A := by rw [eA]; simp
  refine ⟨by rw [e]; exact List.mem_append_left _ hq, hq, ?_⟩
  rw [e] at hn
  exact (nd_parts hn).1 q hq
theorem path_nd {os : List Int} (hn : os.Nodup) (k : Int) : (pathP os k).Nodup := hn.filter _
theorem path_pre {os : List Int} (hn : os.Nodup) : ∀ (n : Nat) (k : Int), k ∈ os → (pathP os k).length ≤ n → ∀ v ∈ pathP os k, ∃ B, pathP os k = pathP os v ++ B := by
  intro n
  induction n with
  | zero =>
    intro k hk hl v hv
    rw [List.length_eq_zero_iff.mp (Nat.le_zero.mp hl)] at hv
    cases hv
  | succ n ih =>
    intro k hk hl v hv
    obtain ⟨A, C, e⟩ := split_mem hk
    cases hq : par os k with
    | none =>
      have h1 := path_root hn e hq
      rw [h1, List.mem_singleton] at hv
      subst hv
      exact ⟨[], by simp⟩
    | some q =>
      obtain ⟨h1, h2⟩ := path_step hn e hq
      rw [h1] at hv hl ⊢
      rcases List.mem_append.mp hv with hv | hv
      · obtain ⟨B, hB⟩ := ih q (by rw [e]; exact List.mem_append_left _ h2) (by simp at hl; omega) v hv
        exact ⟨B ++ [k], by rw [hB]; simp⟩
      · rw [List.mem_singleton] at hv
        subst hv
        exact ⟨[], by rw [h1]; simp⟩
theorem path_next {os A B : List Int} {k u v : Int} (hn : os.Nodup) (hk : k ∈ os) (h : pathP os k = A ++ u :: v :: B) : par os v = some u ∧ pathP os v = A ++ [u, v] := by
  have hv : v ∈ pathP os k := by rw [h]; simp
  have hv2 := path_mem hv
  obtain ⟨B', e1⟩ := path_pre hn _ k hk (Nat.le_refl _) v hv
  obtain ⟨l, e2, _⟩ := path_last hn hv2
  have hl : l = A ++ [u] := append_at (path_nd hn k) (x := v) (B := B') (D := B) (by rw [e1, e2]; simp) (by rw [h]; simp)
  have e3 : pathP os v = A ++ [u, v] := by rw [e2, hl]; simp
  refine ⟨?_, e3⟩
  obtain ⟨A', C', e'⟩ := split_mem hv2
  cases hq : par os v with
  | none =>
    rw [path_root hn e' hq] at e3
    have := congrArg List.length e3
    simp at this
  | some q =>
    obtain ⟨h1, h2⟩ := path_step hn e' hq
    rw [h1] at e3
    have hq2 : q ∈ os := by rw [e']; exact List.mem_append_left _ h2
    obtain ⟨l', e4, _⟩ := path_last hn hq2
    rw [e4] at e3
    have e5 : (l' ++ [q]) ++ [v] = (A ++ [u]) ++ [v] := by rw [e3]; simp
    have e6 := List.append_inj_left' e5 rfl
    have e7 := List.append_inj_right' e6 rfl
    cases e7
    rfl
theorem path_side {os A B : List Int} {k u v : Int} (hn : os.Nodup) (hk : k ∈ os) (h : pathP os k = A ++ u :: v :: B) : (decide (v < u) = decide (k < u)) ∧ v ≠ u ∧ k ≠ u := by
  obtain ⟨hp, e3⟩ := path_next hn hk h
  have hv : v ∈ pathP os k := by rw [h]; simp
  have hv2 := path_mem hv
  obtain ⟨hu1, hu2, hu3⟩ := par_mem hn hv2 hp
  have hnd := path_nd hn k
  obtain ⟨l, e2, _⟩ := path_last hn hk
  have hku : k ≠ u := by
    rintro rfl
    have : l = A := append_at hnd (x := k) (B := []) (D := v :: B) (by rw [e2]) (by rw [h])
    subst this
    have := e2.symm.trans h
    simp at this
  refine ⟨?_, Ne.symm hu3, hku⟩
  obtain ⟨A', C', e'⟩ := split_mem hv2
  rw [ahead_eq hn e'] at hu2
  have hab : ab os v k = true := by
    unfold pathP at hv
    exact (List.mem_filter.mp hv).2
  have z := (ab_at hn e').mp hab u hu2
  have m := mnmx v k
  rw [decide_eq_decide]
  omega
/-- the children so far, by their parents -/
def sideL (os E : List Int) (s : Bool) : List (Key × PD) := E.filterMap fun c => match par os c with
  | some q => if decide (c < q) = s then some (Sum.inl q, PyData.int c) else none
  | none => none
theorem sideL_snoc_some {os E : List Int} {k q : Int} {s : Bool} (h : par os k = some q) (hs : decide (k < q) = s) : sideL os (E ++ [k]) s = sideL os E s ++ [(Sum.inl q, .int k)] := by
  unfold sideL
  rw [List.filterMap_append]
  simp [h, hs]
theorem sideL_snoc_other {os E : List Int} {k : Int} {s : Bool} (h : ∀ q, par os k = some q → decide (k < q) ≠ s) : sideL os (E ++ [k]) s = sideL os E s := by
  unfold sideL
  rw [List.filterMap_append]
  cases hq : par os k with
  | none => simp [hq]
  | some q => simp [hq, h q hq]
theorem sideL_mem {os E : List Int} {s : Bool} {x : Key × PD} (h : x ∈ sideL os E s) : ∃ c q, c ∈ E ∧ par os c = some q ∧ decide (c < q) = s ∧ x = (Sum.inl q, .int c) := by
  unfold sideL at h
  obtain ⟨c, hc, e⟩ := List.mem_filterMap.mp h
  cases hq : par os c with
  | none => rw [hq] at e; cases e
  | some q =>
    rw [hq] at e
    by_cases hs : decide (c < q) = s
    · simp only [hs, if_true] at e; cases e; exact ⟨c, q, hc, hq, hs, rfl⟩
    · simp only [hs, if_false] at e; cases e
theorem look_none {kvs : List (Key × PD)} {u : Int} (h : ∀ x ∈ kvs, x.1 ≠ Sum.inl u) : lookD (kvs.map fun p => (kD p.1, p.2)) (.int u) = none := by
  unfold lookD
  rw [List.find?_map, Option.map_map]
  have : kvs.find? ((fun p : PD × PD => keyEq p.1 (.int u)) ∘ fun p => (kD p.1, p.2)) = none := List.find?_eq_none.mpr fun x hx => by
    have := h x hx
    have e : keyEq (kD x.1) (.int u) = decide (x.1 = Sum.inl u) := keyEq_k x.1 (.inl u)
    simp [e, this]
  rw [this]
  try rfl
theorem look_some {kvs : List (Key × PD)} {u : Int} {d : PD} (h1 : (Sum.inl u, d) ∈ kvs) (h2 : ∀ x ∈ kvs, x.1 = Sum.inl u → x.2 = d) : lookD (kvs.map fun p => (kD p.1, p.2)) (.int u) = some d := by
  unfold lookD
  rw [List.find?_map, Option.map_map]
  have e : ∀ x : Key × PD, keyEq (kD x.1) (.int u) = decide (x.1 = Sum.inl u) := fun x => keyEq_k x.1 (.inl u)
  cases hf : kvs.find? ((fun p : PD × PD => keyEq p.1 (.int u)) ∘ fun p => (kD p.1, p.2)) with
  | none =>
    have := List.find?_eq_none.mp hf _ h1
    rw [Function.comp_apply, e] at this
    simp at this
  | some x =>
    have hm := List.mem_of_find?_eq_some hf
    have hp := List.find?_some hf
    have hx : x.1 = Sum.inl u := by simpa [e] using hp
    simp [h2 x hm hx]
theorem side_look {os E : List Int} {s : Bool} {u v : Int} (hn : os.Nodup) (hE : ∀ c ∈ E, c ∈ os) (hv : v ∈ E) (hp : par os v = some u) (hs : decide (v < u) = s) : lookD ((sideL os E s).map fun p => (kD p.1, p.2)) (.int u) = some (.int v) := by
  refine look_some ?_ fun x hx ex => ?_
  · unfold sideL
    exact List.mem_filterMap.mpr ⟨v, hv, by simp [hp, hs]⟩
  · obtain ⟨c, q, hc, hq, hsc, rfl⟩ := sideL_mem hx
    cases ex
    have n1 := (par_mem hn (hE c hc) hq).2.2
    have n2 := (par_mem hn (hE v hv) hp).2.2
    have : c = v := side_one hn (hE c hc) (hE v hv) hq hp (by
      rw [← hs] at hsc
      by_cases h : v < u
      · have : c < u := by simpa [h] using hsc
        exact .inl ⟨this, h⟩
      · have : ¬ c < u := by simpa [h] using hsc
        exact .inr ⟨by omega, by omega⟩)
    rw [this]
theorem side_free {os E : List Int} {s : Bool} {k u : Int} (hn : os.Nodup) (hE : ∀ c ∈ E, c ∈ os) (hk : k ∈ os) (hkE : k ∉ E) (hp : par os k = some u) (hs : decide (k < u) = s) : ∀ x ∈ sideL os E s, x.1 ≠ Sum.inl u := by
  intro x hx ex
  obtain ⟨c, q, hc, hq, hsc, rfl⟩ := sideL_mem hx
  cases ex
  have n1 := (par_mem hn (hE c hc) hq).2.2
  have n2 := (par_mem hn hk hp).2.2
  have : c = k := side_one hn (hE c hc) hk hq hp (by
    rw [← hs] at hsc
    by_cases h : k < u
    · have : c < u := by simpa [h] using hsc
      exact .inl ⟨this, h⟩
    · have : ¬ c < u := by simpa [h] using hsc
      exact .inr ⟨by omega, by omega⟩)
  subst this
  exact hkE hc
theorem putP_new {kvs : List (Key × PD)} {u : Int} {d : PD} (h : ∀ x ∈ kvs, x.1 ≠ Sum.inl u) : gSet.putP kvs (.inl u) d = kvs ++ [(.inl u, d)] := by
  unfold gSet.putP
  rw [if_neg]
  rw [List.any_eq_true]
  rintro ⟨x, hx, e⟩
  exact h x hx (of_decide_eq_true e)
/-- the path without its last key -/
theorem path_init {os : List Int} {k : Int} (hn : os.Nodup) (hk : k ∈ os) : (par os k = none ∧ pathP os k = [k]) ∨ ∃ q l, par os k = some q ∧ pathP os k = l ++ [q, k] := by
  obtain ⟨A, C, e⟩ := split_mem hk
  cases hq : par os k with
  | none => exact .inl ⟨rfl, path_root hn e hq⟩
  | some q =>
    obtain ⟨h1, h2⟩ := path_step hn e hq
    obtain ⟨l, h3, _⟩ := path_last hn (show q ∈ os by rw [e]; exact List.mem_append_left _ h2)
    exact .inr ⟨q, l, rfl, by rw [h1, h3]; simp⟩
/-- the path begins at the first key -/
theorem path_head {os : List Int} {r k : Int} {t : List Int} (hn : os.Nodup) (e : os = r :: t) (hk : k ∈ os) : ∃ l, pathP os k = r :: l := by
  have h : ab os r k = true := (ab_at hn (A := []) (C := t) (by rw [e]; rfl)).mpr fun a ha => by cases ha
  unfold pathP
  conv => rhs; intro l; lhs; arg 2; rw [e]
  rw [List.filter_cons, if_pos h]
  exact ⟨_, rfl⟩
theorem sideL_len (os E : List Int) (s : Bool) : (sideL os E s).length ≤ E.length := List.length_filterMap_le _ _

/-! ### parents_by_order is par -/
def sOb (os E : List Int) (s : Bool) : Ob := .dic (sideL os E s)
def pSt (os : List Int) (i : Nat) (x4 x5 x6 : Sl) : Sto := [.sh (.list (os.map PyData.int)), .own none (.dic (pkv os (os.take i))), .own none (sOb os (os.take i) true), .own none (sOb os (os.take i) false), x4, x5, x6]
@[simp] theorem sOb_pd (os E : List Int) (s : Bool) : (sOb os E s).pd = some (.dict ((sideL os E s).map fun p => (kD p.1, p.2))) := rfl
theorem lookS {os : List Int} {i : Nat} {u v : Int} (hn : os.Nodup) (hv : v ∈ os.take i) (hp : par os v = some u) : lookD ((sideL os (os.take i) (decide (v < u))).map fun p => (kD p.1, p.2)) (.int u) = some (.int v) :=
  side_look hn (fun c hc => List.mem_of_mem_take hc) hv hp rfl
theorem lookN {os : List Int} {i : Nat} {u k : Int} (hn : os.Nodup) (hk : os[i]? = some k) (hp : par os k = some u) : lookD ((sideL os (os.take i) (decide (k < u))).map fun p => (kD p.1, p.2)) (.int u) = none :=
  look_none (side_free hn (fun c hc => List.mem_of_mem_take hc) (List.mem_of_getElem? hk) (not_mem_take hn hk) hp rfl)
/-- what the search has left of the path -/
theorem path_ahead {os A C : List Int} {k : Int} (hn : os.Nodup) (e : os = A ++ k :: C) : ∀ u ∈ pathP os k, u ≠ k → u ∈ A := by
  intro u hu hne
  have hm := path_mem hu
  unfold pathP at hu
  have hab := (List.mem_filter.mp hu).2
  rw [e] at hm
  rcases List.mem_append.mp hm with h | h
  · exact h
  · rcases List.mem_cons.mp h with h | h
    · exact absurd h hne
    · rw [ab_late hn e h] at hab; cases hab
theorem search_eq {os : List Int} {i : Nat} {k : Int} (hn : os.Nodup) (hk : os[i]? = some k) : ∃ x6, whl (bAnd (tst (op2 (rdv 6) (cst .none) (gB gIsNot))) (tst (op2 (rdv 6) (rdv 4) (gB gNe)))) L_parents_by_order_1 (pSt os i (.sh (.int k)) (.sh .none) (.sh (.int (os.headD 0)))) =
    .nx (pSt os i (.sh (.int k)) (.sh (optD (par os k))) x6) := by
  have hkm := List.mem_of_getElem? hk
  have e : os = os.take i ++ k :: os.drop (i + 1) := by
    obtain ⟨hi, e⟩ := List.getElem?_eq_some_iff.mp hk
    conv => lhs; rw [← List.take_append_drop i os]
    rw [List.drop_eq_getElem_cons hi, e]
  obtain ⟨r, t, er⟩ : ∃ r t, os = r :: t := by
    cases os with
    | nil => simp at hkm
    | cons r t => exact ⟨r, t, rfl⟩
  obtain ⟨l, hl⟩ := path_head hn er hkm
  have hr : os.headD 0 = r := by rw [er]; rfl
  rw [hr]
  -- the list of what is still to come, the key at its end
  obtain ⟨Γ', eW, x6, rfl⟩ := whl_inv (c := (bAnd (tst (op2 (rdv 6) (cst .none) (gB gIsNot))) (tst (op2 (rdv 6) (rdv 4) (gB gNe))))) (b := L_parents_by_order_1)
    (fun m Γ => (∃ A u B, pathP os k = A ++ u :: B ∧ m = B.length + 1 ∧ Γ = pSt os i (.sh (.int k)) (.sh (optD A.getLast?)) (.sh (.int u))) ∨ (m = 0 ∧ Γ = pSt os i (.sh (.int k)) (.sh (optD (par os k))) (.sh .none)))
    (fun Γ => ∃ x6, Γ = pSt os i (.sh (.int k)) (.sh (optD (par os k))) x6)
    (by
      rintro m Γ (⟨A, u, B, hp, rfl, rfl⟩ | ⟨rfl, rfl⟩)
      · by_cases huk : u = k
        · subst huk
          refine .inl ⟨pSt os i (.sh (.int u)) (.sh (optD A.getLast?)) (.sh (.int u)), ?_, .sh (.int u), ?_⟩
          · simp [pSt]
          · rcases path_init hn hkm with ⟨h1, h2⟩ | ⟨q, l', h1, h2⟩
            · have : A = [] := append_at (path_nd hn u) (x := u) (B := B) (D := []) hp (by rw [h2]; rfl)
              subst this
              rw [h1]; rfl
            · have : A = l' ++ [q] := append_at (path_nd hn u) (x := u) (B := B) (D := []) hp (by rw [h2]; simp)
              subst this
              rw [h1]; simp
        · refine .inr ⟨pSt os i (.sh (.int k)) (.sh (optD A.getLast?)) (.sh (.int u)), ?_⟩
          cases B with
          | nil =>
            exfalso
            obtain ⟨l', h2, _⟩ := path_last hn hkm
            rw [h2] at hp
            exact huk (List.append_inj_right' hp rfl |> fun z => by cases z; rfl)
          | cons v B =>
            obtain ⟨hs, hvu, hku⟩ := path_side hn hkm hp
            obtain ⟨hpv, _⟩ := path_next hn hkm hp
            by_cases hvk : v = k
            · -- no child on this side
              subst hvk
              have hlk := lookN hn hk hpv
              refine ⟨pSt os i (.sh (.int v)) (.sh (optD (par os v))) (.sh .none), 0, ?_, .inl ?_, Nat.succ_pos _, .inr ⟨rfl, rfl⟩⟩
              · simp [pSt, huk]
              · unfold L_parents_by_order_1
                rw [hpv]
                by_cases hlt : v < u
                · rw [decide_eq_true hlt] at hlk
                  simp [pSt, hlt, hlk, keyD]
                · rw [decide_eq_false hlt] at hlk
                  simp [pSt, hlt, hlk, keyD]
            · have hvA : v ∈ os.take i := path_ahead hn e v (by rw [hp]; simp) hvk
              have hlk := lookS hn hvA hpv
              refine ⟨pSt os i (.sh (.int k)) (.sh (.int u)) (.sh (.int v)), B.length + 1, ?_, .inl ?_, by simp, .inl ⟨A ++ [u], v, B, by rw [hp]; simp, rfl, by simp⟩⟩
              · simp [pSt, huk]
              · unfold L_parents_by_order_1
                rw [hs] at hlk
                by_cases hlt : k < u
                · rw [decide_eq_true hlt] at hlk
                  simp [pSt, hlt, hlk, keyD]
                · rw [decide_eq_false hlt] at hlk
                  simp [pSt, hlt, hlk, keyD]
      · refine .inl ⟨pSt os i (.sh (.int k)) (.sh (optD (par os k))) (.sh .none), ?_, .sh .none, rfl⟩
        simp [pSt])
    (m := l.length + 1) (Γ := pSt os i (.sh (.int k)) (.sh .none) (.sh (.int r))) (.inl ⟨[], r, l, by rw [hl]; rfl, rfl, rfl⟩)
  exact ⟨x6, eW⟩
theorem pbo_eq {os : List Int} (hn : os.Nodup) (hl : os.length ≤ 1000) : f_parents_by_order [.sh (.list (os.map PyData.int))] = .ok (.own (pOb os)) [none] := by
  obtain ⟨Γ', eL, x4, x5, x6, rfl⟩ := forD_inv (t := tNm 4) (b := L_parents_by_order_2) (os.map PyData.int)
    (fun i Γ => ∃ x4 x5 x6, Γ = pSt os i x4 x5 x6)
    (by
      rintro i d Γ hd ⟨x4, x5, x6, rfl⟩
      rw [List.getElem?_map] at hd
      obtain ⟨k, hk, rfl⟩ := Option.map_eq_some_iff.mp hd
      obtain ⟨x6', eW⟩ := search_eq hn hk
      have hm := not_mem_take hn hk
      have hkm := List.mem_of_getElem? hk
      have hE : ∀ c ∈ os.take i, c ∈ os := fun c hc => List.mem_of_mem_take hc
      have hlen : os.length < lim := lt_lim (by omega)
      have hat : atI (os.map PyData.int) 0 = some (.int (os.headD 0)) := by
        cases os with
        | nil => simp at hkm
        | cons r t => exact atI_n (by decide) rfl
      have hp : gSet (.dic (pkv os (os.take i))) (.int k) (optD (par os k)) = some (.dic (pkv os (os.take (i + 1)))) := by
        rw [gSet_di _ _ _ (lt_lim (by unfold pkv; rw [List.length_map, List.length_take]; omega)), take_succ_get hk]
        unfold pkv
        rw [putP_map (fun k => optD (par os k)) _ _ hm]
      have hsl : ∀ s, (sideL os (os.take i) s).length < lim := fun s => lt_lim (by
        have := sideL_len os (os.take i) s
        rw [List.length_take] at this
        omega)
      have hside : ∀ q s, par os k = some q → decide (k < q) = s → gSet (sOb os (os.take i) s) (.int q) (.int k) = some (sOb os (os.take (i + 1)) s) := fun q s h1 h2 => by
        unfold sOb
        rw [gSet_di _ _ _ (hsl s), putP_new (side_free hn hE hkm hm h1 h2), take_succ_get hk, sideL_snoc_some h1 h2]
      have hoth : ∀ s, (∀ q, par os k = some q → decide (k < q) ≠ s) → sOb os (os.take (i + 1)) s = sOb os (os.take i) s := fun s h => by
        unfold sOb
        rw [take_succ_get hk, sideL_snoc_other h]
      refine ⟨_, pSt os (i + 1) (.sh (.int k)) (.sh (optD (par os k))) x6', rfl, .inl ?_, _, _, _, rfl⟩
      unfold L_parents_by_order_2
      cases hq : par os k with
      | none =>
        rw [hq] at eW hp
        have h1 := hoth true fun q z => by rw [hq] at z; cases z
        have h2 := hoth false fun q z => by rw [hq] at z; cases z
        simp [pSt] at eW
        simp at hp
        simp [pSt, hat, eW, hp, h1, h2]
      | some q =>
        rw [hq] at eW hp
        simp [pSt] at eW
        by_cases hlt : k < q
        · have h1 := hside q true hq (decide_eq_true hlt)
          have h2 := hoth false fun q' z => by rw [hq] at z; cases z; simp [hlt]
          simp at hp
          simp [pSt, hat, eW, hp, hlt, h1, h2]
        · have h1 := hside q false hq (decide_eq_false hlt)
          have h2 := hoth true fun q' z => by rw [hq] at z; cases z; simp [hlt]
          simp at hp
          simp [pSt, hat, eW, hp, hlt, h1, h2])
    (Γ := pSt os 0 .no .no .no) ⟨.no, .no, .no, rfl⟩
  rw [List.length_map] at eL
  unfold f_parents_by_order b_parents_by_order n_parents_by_order
  unfold pSt at eL
  rw [List.take_length] at eL
  have h0 : ∀ s, sOb os (os.take 0) s = .dic [] := fun s => rfl
  have h1 : pkv os (os.take 0) = [] := rfl
  rw [h0, h0, h1] at eL
  have : Ob.dic (pkv os os) = pOb os := rfl
  rw [this] at eL
  simp [eL]

/-! ### build: the tuple of keys and parents -/
def trD (os : List Int) : List PD := (sortI os).map fun k => .tuple [.int k, optD (par os k)]
theorem sortP_map (f : Int → PD) {os : List Int} (hn : os.Nodup) : sortP (os.map fun k => (k, f k)) = (sortI os).map fun k => (k, f k) := by
  refine srtP_uniq ((sortP_perm _).trans ((sortI_perm os).symm.map _)) ?_ (sortP_srt _) ?_
  · have e := (sortP_perm (os.map fun k => (k, f k))).map (·.1)
    refine (e.nodup_iff).mpr ?_
    rw [List.map_map, show ((fun x : Int × PD => x.1) ∘ fun k => (k, f k)) = id from rfl, List.map_id]
    exact hn
  · rw [List.pairwise_map]
    exact sortI_asc os
theorem pairsI_map (f : Int → PD) : ∀ os : List Int, pairsI (os.map fun k => (PyData.int k, f k)) = some (os.map fun k => (k, f k))
  | [] => rfl
  | k :: os => by
    show (pairsI (os.map fun k => (PyData.int k, f k))).map ((k, f k) :: ·) = _
    rw [pairsI_map f os]; rfl
theorem tree_of_eq {os : List Int} (hn : os.Nodup) (hl : os.length ≤ 60) : f_tree_of [.sh (parD os)] = .ok (.sh (.tuple (trD os))) [none] := by
  unfold f_tree_of b_tree_of n_tree_of
  have e := pairsI_map (fun k => optD (par os k)) os
  have e2 := sortP_map (fun k => optD (par os k)) hn
  have h3 : os.length < 64 := by omega
  have e4 : (sortP (os.map fun k => (k, optD (par os k)))).map tupP = trD os := by
    rw [e2, List.map_map]; rfl
  simp [parD, e, h3, e4]

/-! ### texts of keys and trees -/
theorem rp_key {k : Int} (h : -1000000000000000000 ≤ k ∧ k ≤ 1000000000000000000) : Rp (.int k) 20 0 := Rp.int0 (k := 19) (by decide) (by decide) (by
  have : (10 : Nat) ^ 19 = 10000000000000000000 := by decide
  rw [this]; omega)
theorem rp_keys {os : List Int} (h : ∀ k ∈ os, -1000000000000000000 ≤ k ∧ k ≤ 1000000000000000000) : Rp (.list (os.map PyData.int)) (2 + os.length * 22) 1 := by
  have := Rp.list (n := 20) (k := 0) (ds := os.map PyData.int) fun d hd => by
    obtain ⟨k, hk, rfl⟩ := List.mem_map.mp hd
    exact rp_key (h k hk)
  rwa [List.length_map] at this
theorem rp_opt {os : List Int} (h : Ord os) {k : Int} (hk : k ∈ os) : Rp (optD (par os k)) 20 0 := by
  cases hq : par os k with
  | none => exact Rp.none.mono (by decide) (Nat.le_refl _)
  | some q => exact rp_key (h.bd q (par_mem h.nd hk hq).1)
theorem rp_tree {os : List Int} (h : Ord os) : Rp (.tuple (trD os)) (3 + os.length * 49) 2 := by
  have := Rp.tuple (n := 47) (k := 1) (ds := trD os) fun d hd => by
    obtain ⟨k, hk, rfl⟩ := List.mem_map.mp hd
    have hk := (sortI_perm os).mem_iff.mp hk
    have := Rp.tuple (n := 20) (k := 0) (ds := [.int k, optD (par os k)]) fun d hd => by
      rcases List.mem_cons.mp hd with rfl | hd
      · exact rp_key (h.bd k hk)
      · rw [List.mem_singleton] at hd
        subst hd
        exact rp_opt h hk
    exact this
  have e : (trD os).length = os.length := by unfold trD; rw [List.length_map, (sortI_perm os).length_eq]
  rwa [e] at this
theorem repr_tree {os : List Int} (h : Ord os) (hl : os.length ≤ 60) : gRepr (.tuple (trD os)) = some (.sh (.str (PyData.shown (.tuple (trD os))))) := (rp_tree h).repr (by rw [sizeLine_eq]; omega) (by omega)

/-! ### orders with parents before children build the same tree -/
theorem ahead_mem {os A C : List Int} {k a : Int} (hn : os.Nodup) (e : os = A ++ k :: C) : a ∈ ahead os k ↔ a ∈ A := by rw [ahead_eq hn e]
theorem ahead_trans {os : List Int} {a b c : Int} (hn : os.Nodup) (hc : c ∈ os) (h1 : a ∈ ahead os b) (h2 : b ∈ ahead os c) : a ∈ ahead os c := by
  obtain ⟨A, C, e⟩ := split_mem hc
  rw [ahead_mem hn e] at h2 ⊢
  obtain ⟨A1, A2, eA⟩ := split_mem h2
  have e2 : os = A1 ++ b :: (A2 ++ c :: C) := by rw [e, eA]; simp
  rw [ahead_mem hn e2] at h1
  rw [eA]; exact List.mem_append_left _ h1
theorem firstIn_of {os : List Int} {lo hi m : Int} (hn : os.Nodup) (hm : m ∈ os) (hr : lo ≤ m ∧ m ≤ hi) (h : ∀ x ∈ os, lo ≤ x → x ≤ hi → x ≠ m → m ∈ ahead os x) : firstIn os lo hi = some m := by
  obtain ⟨A, C, e⟩ := split_mem hm
  have hmA : m ∉ A := fun z => by rw [e] at hn; exact (nd_parts hn).1 m z rfl
  refine (firstIn_at e hr hmA).mpr fun a ha z => ?_
  obtain ⟨A1, A2, eA⟩ := split_mem ha
  have hne : a ≠ m := fun z => hmA (z ▸ ha)
  have e2 : os = A1 ++ a :: (A2 ++ m :: C) := by rw [e, eA]; simp
  have := h a (by rw [e]; exact List.mem_append_left _ ha) z.1 z.2 hne
  rw [ahead_mem hn e2] at this
  exact hmA (by rw [eA]; exact List.mem_append_left _ this)
theorem firstIn_spec {os : List Int} {lo hi m : Int} (h : firstIn os lo hi = some m) : m ∈ os ∧ (lo ≤ m ∧ m ≤ hi) ∧ ∃ A C, os = A ++ m :: C ∧ ∀ a ∈ A, ¬ (lo ≤ a ∧ a ≤ hi) := by
  obtain ⟨h1, A, C, e, h2⟩ := List.find?_eq_some_iff_append.mp h
  refine ⟨by rw [e]; simp, by simpa using h1, A, C, e, fun a ha z => ?_⟩
  have := h2 a ha
  simp [z] at this
theorem ab_first {os : List Int} {lo hi m x : Int} (hn : os.Nodup) (h : firstIn os lo hi = some m) (hx : lo ≤ x ∧ x ≤ hi) : ab os m x = true := by
  obtain ⟨_, hr, A, C, e, hA⟩ := firstIn_spec h
  refine (ab_at hn e).mpr fun a ha z => hA a ha ?_
  have := mnmx m x
  omega
/-- parents come before their children -/
def PB (os os' : List Int) : Prop := ∀ k q, k ∈ os → par os k = some q → q ∈ ahead os' k
theorem above_ahead {os os' : List Int} (hn : os.Nodup) (hn' : os'.Nodup) (hp : os'.Perm os) (hb : PB os os') : ∀ (n : Nat) (x : Int), x ∈ os → (pathP os x).length ≤ n → ∀ m ∈ pathP os x, m ≠ x → m ∈ ahead os' x := by
  intro n
  induction n with
  | zero =>
    intro x hx hl m hm
    rw [List.length_eq_zero_iff.mp (Nat.le_zero.mp hl)] at hm
    cases hm
  | succ n ih =>
    intro x hx hl m hm hne
    obtain ⟨A, C, e⟩ := split_mem hx
    cases hq : par os x with
    | none =>
      rw [path_root hn e hq, List.mem_singleton] at hm
      exact absurd hm hne
    | some q =>
      obtain ⟨h1, h2⟩ := path_step hn e hq
      have hq2 : q ∈ os := by rw [e]; exact List.mem_append_left _ h2
      have hqx := hb x q hx hq
      rw [h1] at hm hl
      rcases List.mem_append.mp hm with hm | hm
      · by_cases hmq : m = q
        · rw [hmq]; exact hqx
        · exact ahead_trans hn' (hp.mem_iff.mpr hx) (ih q hq2 (by simp at hl; omega) m hm hmq) hqx
      · exact absurd (List.mem_singleton.mp hm) hne
theorem firstIn_perm {os os' : List Int} (hn : os.Nodup) (hp : os'.Perm os) (hb : PB os os') (lo hi : Int) : firstIn os' lo hi = firstIn os lo hi := by
  have hn' := hp.nodup_iff.mpr hn
  cases h : firstIn os lo hi with
  | none =>
    refine List.find?_eq_none.mpr fun x hx => ?_
    exact List.find?_eq_none.mp h x (hp.mem_iff.mp hx)
  | some m =>
    obtain ⟨hm, hr, _⟩ := firstIn_spec h
    refine firstIn_of hn' (hp.mem_iff.mpr hm) hr fun x hx h1 h2 hne => ?_
    have hx' := hp.mem_iff.mp hx
    refine above_ahead hn hn' hp hb _ x hx' (Nat.le_refl _) m ?_ (Ne.symm hne)
    unfold pathP
    exact List.mem_filter.mpr ⟨hm, ab_first hn h ⟨h1, h2⟩⟩
theorem ab_anti {os : List Int} {a b : Int} (h1 : ab os a b = true) (h2 : ab os b a = true) : a = b := by
  unfold ab at h1 h2
  rw [decide_eq_true_eq] at h1 h2
  have e1 : mn a b = mn b a := by have := mnmx a b; have := mnmx b a; omega
  have e2 : mx a b = mx b a := by have := mnmx a b; have := mnmx b a; omega
  rw [e1, e2, h2] at h1
  exact (Option.some.inj h1).symm
theorem par_char {os : List Int} {k q : Int} (hn : os.Nodup) (hk : k ∈ os) (h : par os k = some q) : q ∈ os ∧ q ≠ k ∧ ab os q k = true ∧ ∀ u ∈ os, u ≠ k → ab os u k = true → ab os u q = true := by
  obtain ⟨A, C, e⟩ := split_mem hk
  obtain ⟨h1, h2⟩ := path_step hn e h
  obtain ⟨hq, _, hne⟩ := par_mem hn hk h
  have mem : ∀ u, u ∈ pathP os k ↔ u ∈ os ∧ ab os u k = true := fun u => by unfold pathP; exact List.mem_filter
  have memq : ∀ u, u ∈ pathP os q ↔ u ∈ os ∧ ab os u q = true := fun u => by unfold pathP; exact List.mem_filter
  refine ⟨hq, hne, ?_, fun u hu hne hab => ?_⟩
  · obtain ⟨l, e3, _⟩ := path_last hn hq
    have : q ∈ pathP os k := by rw [h1, e3]; simp
    exact ((mem q).mp this).2
  · have := (mem u).mpr ⟨hu, hab⟩
    rw [h1] at this
    rcases List.mem_append.mp this with z | z
    · exact ((memq u).mp z).2
    · exact absurd (List.mem_singleton.mp z) hne
theorem par_of_first {os os' : List Int} (hn : os.Nodup) (hp : os'.Perm os) (hf : ∀ lo hi, firstIn os' lo hi = firstIn os lo hi) {k : Int} (hk : k ∈ os) : par os' k = par os k := by
  have hn' := hp.nodup_iff.mpr hn
  have hab : ∀ u x, ab os' u x = ab os u x := fun u x => by unfold ab; rw [hf]
  cases h' : par os' k with
  | some q' =>
    obtain ⟨g1, g2, g3, g4⟩ := par_char hn' (hp.mem_iff.mpr hk) h'
    cases h : par os k with
    | none =>
      obtain ⟨A, C, e⟩ := split_mem hk
      have e1 := path_root hn e h
      have : q' ∈ pathP os k := by unfold pathP; exact List.mem_filter.mpr ⟨hp.mem_iff.mp g1, by rw [← hab]; exact g3⟩
      rw [e1, List.mem_singleton] at this
      exact absurd this g2
    | some q =>
      obtain ⟨i1, i2, i3, i4⟩ := par_char hn hk h
      have a1 := i4 q' (hp.mem_iff.mp g1) g2 (by rw [← hab]; exact g3)
      have a2 := g4 q (hp.mem_iff.mpr i1) i2 (by rw [hab]; exact i3)
      rw [hab] at a2
      rw [ab_anti a1 a2]
  | none =>
    cases h : par os k with
    | none => rfl
    | some q =>
      obtain ⟨i1, i2, i3, i4⟩ := par_char hn hk h
      obtain ⟨A, C, e⟩ := split_mem (hp.mem_iff.mpr hk)
      have e1 := path_root hn' e h'
      have : q ∈ pathP os' k := by unfold pathP; exact List.mem_filter.mpr ⟨hp.mem_iff.mpr i1, by rw [hab]; exact i3⟩
      rw [e1, List.mem_singleton] at this
      exact absurd this i2
/-- THE THEOREM: an order with parents before children builds the same tree -/
theorem par_perm {os os' : List Int} (hn : os.Nodup) (hp : os'.Perm os) (hb : PB os os') {k : Int} (hk : k ∈ os) : par os' k = par os k := par_of_first hn hp (firstIn_perm hn hp hb) hk
theorem sortI_perm_eq {os os' : List Int} (hp : os'.Perm os) : sortI os' = sortI os := sortI_uniq ((sortI_perm os').trans hp) (sortI_asc os')
theorem trD_eq {os os' : List Int} (hp : os'.Perm os) (h : ∀ k ∈ os, par os' k = par os k) : trD os' = trD os := by
  unfold trD
  rw [sortI_perm_eq hp]
  exact List.map_congr_left fun k hk => by rw [h k ((sortI_perm os).mem_iff.mp hk)]

/-! ### order_from: level by level -/
def pdD (os E : List Int) : PD := .dict (E.map fun k => (PyData.int k, optD (par os k)))
def dp (os : List Int) (k : Int) : Nat := (pathP os k).length
def lvl (os E : List Int) (j : Nat) : List Int := sortI (E.filter fun k => decide (dp os k = j))
def bo (os E : List Int) (j : Nat) : List Int := (List.range j).flatMap fun i => lvl os E (i + 1)
theorem dp_root {os : List Int} {k : Int} (hn : os.Nodup) (hk : k ∈ os) : par os k = none ↔ dp os k = 1 := by
  obtain ⟨A, C, e⟩ := split_mem hk
  unfold dp
  cases hq : par os k with
  | none => rw [path_root hn e hq]; simp
  | some q =>
    obtain ⟨h1, h2⟩ := path_step hn e hq
    obtain ⟨l, e3, _⟩ := path_last hn (show q ∈ os by rw [e]; exact List.mem_append_left _ h2)
    rw [h1, e3]; simp
theorem dp_step {os : List Int} {k q : Int} (hn : os.Nodup) (hk : k ∈ os) (h : par os k = some q) : dp os k = dp os q + 1 := by
  obtain ⟨A, C, e⟩ := split_mem hk
  obtain ⟨h1, h2⟩ := path_step hn e h
  unfold dp
  rw [h1]; simp
theorem dp_pos {os : List Int} {k : Int} (hn : os.Nodup) (hk : k ∈ os) : 1 ≤ dp os k := by
  cases hq : par os k with
  | none => rw [(dp_root hn hk).mp hq]; omega
  | some q => rw [dp_step hn hk hq]; omega
theorem mem_lvl {os E : List Int} {j : Nat} {k : Int} : k ∈ lvl os E j ↔ k ∈ E ∧ dp os k = j := by
  unfold lvl
  rw [(sortI_perm _).mem_iff, List.mem_filter, decide_eq_true_eq]
/-- a key as deep as that stands there, if one stands deeper -/
theorem dp_below {os : List Int} (hn : os.Nodup) : ∀ (n : Nat) (k : Int), k ∈ os → dp os k = n → ∀ j, 1 ≤ j → j ≤ n → ∃ q ∈ os, dp os q = j := by
  intro n
  induction n with
  | zero => intro k hk h j h1 h2; omega
  | succ n ih =>
    intro k hk h j h1 h2
    by_cases e : j = n + 1
    · exact ⟨k, hk, by omega⟩
    · cases hq : par os k with
      | none => rw [(dp_root hn hk).mp hq] at h; omega
      | some q => exact ih q (par_mem hn hk hq).1 (by rw [dp_step hn hk hq] at h; omega) j h1 (by omega)
theorem bo_succ (os E : List Int) (j : Nat) : bo os E (j + 1) = bo os E j ++ lvl os E (j + 1) := by
  unfold bo
  rw [List.range_succ, List.flatMap_append]
  simp
theorem filter_split (p q : Int → Bool) : ∀ l : List Int, (∀ k ∈ l, p k = true → q k = false) → (l.filter p ++ l.filter q).Perm (l.filter fun k => p k || q k)
  | [], _ => by simp
  | k :: l, h => by
    have ih := filter_split p q l fun x hx => h x (List.mem_cons_of_mem _ hx)
    have hk := h k (List.mem_cons_self ..)
    simp only [List.filter_cons]
    cases hp : p k with
    | true => rw [hk hp]; simp; exact ih
    | false =>
      cases hq : q k with
      | true =>
        simp
        exact List.perm_middle.trans (ih.cons k)
      | false => simp; exact ih
theorem bo_perm (os E : List Int) : ∀ j, (bo os E j).Perm (E.filter fun k => decide (1 ≤ dp os k ∧ dp os k ≤ j))
  | 0 => by
    have : E.filter (fun k => decide (1 ≤ dp os k ∧ dp os k ≤ 0)) = [] := List.filter_eq_nil_iff.mpr fun k _ => by simp; omega
    rw [this]; exact .refl _
  | j + 1 => by
    rw [bo_succ]
    have h1 : (bo os E j ++ lvl os E (j + 1)).Perm (E.filter (fun k => decide (1 ≤ dp os k ∧ dp os k ≤ j)) ++ E.filter fun k => decide (dp os k = j + 1)) := List.Perm.append (bo_perm os E j) (sortI_perm _)
    refine h1.trans ((filter_split _ _ E fun k _ h => ?_).trans ?_)
    · rw [decide_eq_true_eq] at h
      exact decide_eq_false (by omega)
    · rw [List.filter_congr (q := fun k => decide (1 ≤ dp os k ∧ dp os k ≤ j + 1)) fun k _ => ?_]
      rw [Bool.eq_iff_iff]; simp; omega
/-- all levels: an order with parents before children -/
theorem bo_all {os E : List Int} {j : Nat} (hn : os.Nodup) (hE : E.Perm os) (h : ∀ k ∈ os, dp os k ≤ j) : (bo os E j).Perm os := by
  refine (bo_perm os E j).trans ?_
  rw [List.filter_eq_self.mpr fun k hk => ?_]
  · exact hE
  · have hk := hE.mem_iff.mp hk
    exact decide_eq_true ⟨dp_pos hn hk, h k hk⟩
theorem bo_PB {os E : List Int} {j : Nat} (hn : os.Nodup) (hE : E.Perm os) (h : ∀ k ∈ os, dp os k ≤ j) : PB os (bo os E j) := by
  intro k q hk hq
  have hp := bo_all hn hE h
  have hnb := hp.nodup_iff.mpr hn
  have hqm := (par_mem hn hk hq).1
  have hd := dp_step hn hk hq
  have hkj := h k hk
  -- q stands in the levels up to its own
  have split : ∀ a b, bo os E (a + b) = bo os E a ++ (List.range b).flatMap fun i => lvl os E (a + i + 1) := fun a b => by
    induction b with
    | zero => simp
    | succ b ih => rw [Nat.add_succ, bo_succ, ih, List.range_succ, List.flatMap_append, List.append_assoc]; simp
  obtain ⟨b, hb⟩ : ∃ b, j = dp os q + b := ⟨j - dp os q, by omega⟩
  have e := split (dp os q) b
  rw [← hb] at e
  have hq1 : q ∈ bo os E (dp os q) := (bo_perm os E _).mem_iff.mpr (List.mem_filter.mpr ⟨hE.mem_iff.mpr hqm, by simp; exact dp_pos hn hqm⟩)
  have hk1 : k ∉ bo os E (dp os q) := fun z => by
    have := (List.mem_filter.mp ((bo_perm os E _).mem_iff.mp z)).2
    simp at this
    omega
  have hk2 : k ∈ bo os E j := hp.mem_iff.mpr hk
  rw [e] at hk2
  rcases List.mem_append.mp hk2 with z | z
  · exact absurd z hk1
  · obtain ⟨C1, C2, ez⟩ := split_mem z
    have e2 : bo os E j = (bo os E (dp os q) ++ C1) ++ k :: C2 := by rw [e, ez]; simp
    rw [ahead_eq hnb e2]
    exact List.mem_append_left _ hq1

theorem inOpt_ints (o : Option Int) (ms : List Int) : gIn (optD o) (.list (ms.map PyData.int)) = some (match o with | some q => decide (q ∈ ms) | none => false) := by
  cases o with
  | some q => exact gIn_ints q ms
  | none =>
    have h : ((ms.map PyData.int).any fun z => PyData.eqv z PyData.none) = false := by
      rw [List.any_map, List.any_eq_false]
      intro x _; simp [PyData.eqv]
    show gIn .none _ = _
    unfold gIn
    simp only [shaped_ints, Bool.and_true]
    rw [h]
    rfl
theorem inOpt_none (o : Option Int) : gIn (optD o) (.list [.none]) = some (decide (o = none)) := by
  cases o with
  | some q => rfl
  | none => rfl
def ofSt (os E : List Int) (o l : Ob) : Sto := [.sh (pdD os E), .own none o, .own none l, .no, .no]
theorem ofLc {os E : List Int} (hE : E.length ≤ 1000) (o l : Ob) (p : Int → Bool) (hp : ∀ k ∈ E, ∃ d, (Sl.own none l).pd = some d ∧ gIn (optD (par os k)) d = some (p k)) :
    lc (itDI (rdv 0)) [3, 4] (tTup [3, 4]) (tst (op2 (rdv 4) (rdv 2) (gB gIn))) (shr (rdv 3)) (ofSt os E o l) = .ok (.own (.lst ((E.filter p).map PyData.int))) (ofSt os E o l) := by
  have := lc_map (fi := itDI (rdv 0)) (t := tTup [3, 4]) (c := tst (op2 (rdv 4) (rdv 2) (gB gIn))) (e := shr (rdv 3)) (vs := [3, 4]) (Γ := ofSt os E o l) (Γ1 := ofSt os E o l) E (fun k => PyData.tuple [.int k, optD (par os k)]) p PyData.int
    (by unfold ofSt pdD; simp) rfl (le_lim (by omega)) (fun k hk => ?_)
  · exact this
  · obtain ⟨d, h1, h2⟩ := hp k hk
    refine ⟨[.sh (pdD os E), .own none o, .own none l, .sh (.int k), .sh (optD (par os k))], rfl, ?_, fun _ => by simp, rfl⟩
    have h1 : l.pd = some d := h1
    simp [h1, h2]
theorem lvl_len (os E : List Int) (j : Nat) : (lvl os E j).length ≤ E.length := by
  unfold lvl
  rw [(sortI_perm _).length_eq]
  exact List.length_filter_le _ _
theorem bo_len {os E : List Int} (j : Nat) : (bo os E j).length ≤ E.length := by
  rw [(bo_perm os E j).length_eq]
  exact List.length_filter_le _ _
/-- one level more -/
theorem of_step {os E : List Int} {j : Nat} (hn : os.Nodup) (hE : E.Perm os) (hl : os.length ≤ 60) (l : Ob) (hL : (j = 0 ∧ l = .lst [.none]) ∨ (1 ≤ j ∧ l = .lst ((lvl os E j).map PyData.int))) :
    L_order_from_1 (ofSt os E (.lst ((bo os E j).map PyData.int)) l) = .nx (ofSt os E (.lst ((bo os E (j + 1)).map PyData.int)) (.lst ((lvl os E (j + 1)).map PyData.int))) := by
  have hEl : E.length = os.length := hE.length_eq
  have hlc := ofLc (os := os) (E := E) (by omega) (.lst ((bo os E j).map PyData.int)) l (fun k => decide (dp os k = j + 1)) (fun k hk => by
    have hk := hE.mem_iff.mp hk
    rcases hL with ⟨rfl, rfl⟩ | ⟨hj, rfl⟩
    · refine ⟨_, rfl, ?_⟩
      rw [inOpt_none]
      congr 1
      rw [decide_eq_decide]
      exact dp_root hn hk
    · refine ⟨_, rfl, ?_⟩
      rw [inOpt_ints]
      congr 1
      cases hq : par os k with
      | none =>
        have := (dp_root hn hk).mp hq
        exact (decide_eq_false (by omega)).symm
      | some q =>
        have := dp_step hn hk hq
        have hqm := (par_mem hn hk hq).1
        show decide (q ∈ lvl os E j) = _
        rw [decide_eq_decide, mem_lvl]
        exact ⟨fun h => by omega, fun h => ⟨hE.mem_iff.mpr hqm, by omega⟩⟩)
  have hf : (E.filter fun k => decide (dp os k = j + 1)).length < 64 := Nat.lt_of_le_of_lt (List.length_filter_le _ _) (by omega)
  have hsort : gSortedA (.list ((E.filter fun k => decide (dp os k = j + 1)).map PyData.int)) = some (.own (.lst ((lvl os E (j + 1)).map PyData.int))) := by
    rw [gSortedA_ints, if_pos hf]; rfl
  have h1 := bo_len (os := os) (E := E) j
  have h2 := lvl_len os E (j + 1)
  have hlim : (bo os E j).length + (lvl os E (j + 1)).length ≤ lim := le_lim (by omega)
  unfold L_order_from_1
  unfold ofSt at hlc ⊢
  rw [bo_succ]
  try simp at hlc
  simp [hlc, hsort, hlim]
theorem order_from_eq {os E : List Int} (hn : os.Nodup) (hE : E.Perm os) (hl : os.length ≤ 60) : ∃ j, (∀ k ∈ os, dp os k ≤ j) ∧ f_order_from [.sh (pdD os E)] = .ok (.own (.lst ((bo os E j).map PyData.int))) [none] := by
  obtain ⟨Γ', eW, j, hj, rfl⟩ := whl_inv (c := tru (rdv 2)) (b := L_order_from_1)
    (fun m Γ => ∃ j l, m + j = os.length + 2 ∧ ((j = 0 ∧ l = .lst [.none]) ∨ (1 ≤ j ∧ l = .lst ((lvl os E j).map PyData.int))) ∧ Γ = ofSt os E (.lst ((bo os E j).map PyData.int)) l)
    (fun Γ => ∃ j, (∀ k ∈ os, dp os k ≤ j) ∧ Γ = ofSt os E (.lst ((bo os E j).map PyData.int)) (.lst []))
    (by
      rintro m Γ ⟨j, l, hm, hL, rfl⟩
      have hs := of_step hn hE hl l hL
      have go : (∃ d ds, l = .lst (d :: ds)) → m ≠ 0 → ∃ Γ1 Γ2 m', tru (rdv 2) (ofSt os E (.lst ((bo os E j).map PyData.int)) l) = .ok true Γ1 ∧ (L_order_from_1 Γ1 = .nx Γ2 ∨ L_order_from_1 Γ1 = .ct Γ2) ∧ m' < m ∧
          ∃ j l, m' + j = os.length + 2 ∧ ((j = 0 ∧ l = .lst [.none]) ∨ (1 ≤ j ∧ l = .lst ((lvl os E j).map PyData.int))) ∧ Γ2 = ofSt os E (.lst ((bo os E j).map PyData.int)) l := by
        rintro ⟨d, ds, rfl⟩ hm0
        refine ⟨ofSt os E (.lst ((bo os E j).map PyData.int)) (.lst (d :: ds)), _, m - 1, ?_, .inl hs, by omega, j + 1, _, by omega, .inr ⟨by omega, rfl⟩, rfl⟩
        simp [ofSt]
      rcases hL with ⟨rfl, rfl⟩ | ⟨hj, rfl⟩
      · exact .inr (go ⟨_, _, rfl⟩ (by omega))
      · cases hv : lvl os E j with
        | nil =>
          rw [hv] at hs
          refine .inl ⟨ofSt os E (.lst ((bo os E j).map PyData.int)) (.lst []), by simp [ofSt], j, fun k hk => ?_, rfl⟩
          refine Nat.le_of_not_lt fun z => ?_
          obtain ⟨q, hq, hd⟩ := dp_below hn _ k hk rfl j hj (by omega)
          have : q ∈ lvl os E j := mem_lvl.mpr ⟨hE.mem_iff.mpr hq, hd⟩
          rw [hv] at this; cases this
        | cons a as =>
          rw [hv] at hs go
          refine .inr (go ⟨_, _, rfl⟩ fun z => ?_)
          have ha : a ∈ lvl os E j := by rw [hv]; exact List.mem_cons_self
          obtain ⟨h1, h2⟩ := mem_lvl.mp ha
          have := pathP_len os a
          unfold dp at h2
          omega)
    (m := os.length + 2) (Γ := ofSt os E (.lst []) (.lst [.none])) ⟨0, _, rfl, .inl ⟨rfl, rfl⟩, rfl⟩
  refine ⟨j, hj, ?_⟩
  have hlen : (bo os E j).length = E.length := by rw [(bo_all hn hE hj).length_eq, hE.length_eq]
  have hl0 : (0 : Nat) ≤ lim := Nat.zero_le _
  have hl1 : (1 : Nat) ≤ lim := by decide
  unfold f_order_from b_order_from n_order_from
  unfold ofSt at eW
  simp [hl0, hl1, eW]
  unfold pdD
  simp [hlen]

/-! ### is_tree accepts the built tree; dict(tree) -/
def tOb (os : List Int) : Ob := .dic (pkv os (sortI os))
@[simp] theorem tOb_pd (os : List Int) : (tOb os).pd = some (pdD os (sortI os)) := by
  show some (PyData.dict ((pkv os (sortI os)).map fun p => (kD p.1, p.2))) = _
  unfold pkv pdD
  rw [List.map_map]
  rfl
@[simp] theorem asgAV_tOb (i : Nat) (os : List Int) (Γ : Sto) : asgAV i (.own (tOb os)) Γ = some (Γ.set i (.own none (tOb os))) := rfl
@[simp] theorem retA_tOb (os : List Int) (Γ : Sto) : retA Γ (.own (tOb os)) = some (.own (tOb os)) := rfl
theorem trD_len (os : List Int) : (trD os).length = os.length := by unfold trD; rw [List.length_map, (sortI_perm os).length_eq]
theorem pairsK_map (f : Int → PD) : ∀ E : List Int, pairsK (E.map fun k => .tuple [.int k, f k]) = some (E.map fun k => (Sum.inl k, f k))
  | [] => rfl
  | k :: E => by
    show (pairsK (E.map fun k => .tuple [.int k, f k])).map ((Sum.inl k, f k) :: ·) = _
    rw [pairsK_map f E]; rfl
theorem mergeP_map (f : Int → PD) : ∀ (E A : List Int), (A ++ E).Nodup → mergeP (A.map fun k => (Sum.inl k, f k)) (E.map fun k => (Sum.inl k, f k)) = (A ++ E).map fun k => (Sum.inl k, f k)
  | [], A, _ => by simp [mergeP]
  | k :: E, A, h => by
    have hk : k ∉ A := fun z => by
      rw [List.nodup_append] at h
      exact h.2.2 k z k List.mem_cons_self rfl
    have e : mergeP (A.map fun k => (Sum.inl k, f k)) ((k :: E).map fun k => (Sum.inl k, f k)) = mergeP (gSet.putP (A.map fun k => (Sum.inl k, f k)) (.inl k) (f k)) (E.map fun k => (Sum.inl k, f k)) := rfl
    rw [e, putP_map f A k hk, mergeP_map f E (A ++ [k]) (by rw [List.append_assoc]; exact h), List.append_assoc]
    rfl
theorem dict_trD {os : List Int} (hn : os.Nodup) : gDictA (.tuple (trD os)) = some (.own (tOb os)) := by
  have e := pairsK_map (fun k => optD (par os k)) (sortI os)
  have e2 := mergeP_map (fun k => optD (par os k)) (sortI os) [] (by rw [List.nil_append]; exact (sortI_perm os).nodup_iff.mpr hn)
  unfold trD
  rw [gDict_t, e]
  show some (AV.own (.dic (mergeP ([].map fun k => (Sum.inl k, optD (par os k))) _))) = _
  rw [e2, List.nil_append]
  rfl
theorem parents_of_eq {os : List Int} (hn : os.Nodup) : f_parents_of [.sh (.tuple (trD os))] = .ok (.own (tOb os)) [none] := by
  have := dict_trD hn
  unfold f_parents_of b_parents_of n_parents_of
  simp [this]
theorem is_pair_ok {k : Int} {o : Option Int} (hk : -1000000000000000000 ≤ k ∧ k ≤ 1000000000000000000) (ho : ∀ q, o = some q → -1000000000000000000 ≤ q ∧ q ≤ 1000000000000000000) : f_is_pair [.sh (.tuple [.int k, optD o])] = .ok (.sh (.bool true)) [none] := by
  have h0 : atI [PyData.int k, optD o] 0 = some (.int k) := rfl
  have h1 : atI [PyData.int k, optD o] 1 = some (optD o) := rfl
  unfold f_is_pair b_is_pair n_is_pair
  cases o with
  | none => simp [h0, h1, is_key_int, hk]
  | some q =>
    have := ho q rfl
    have hq : gIs (.int q) .none = some false := rfl
    simp [h0, h1, is_key_int, hk, this, hq]
theorem opt_bd {os : List Int} (h : Ord os) {k : Int} (hk : k ∈ os) : ∀ q, par os k = some q → -1000000000000000000 ≤ q ∧ q ≤ 1000000000000000000 := fun q hq => h.bd q (par_mem h.nd hk hq).1
theorem is_tree_ok {os : List Int} (h : Ord os) (hl : os.length ≤ 40) : f_is_tree [.sh (.tuple (trD os))] = .ok (.sh (.bool true)) [none] := by
  have hp := sortI_perm os
  have hlc : lc (itA (rdv 0)) [3] (tNm 3) yes (shr (callD f_is_pair (argS (rdv 3) args0))) [.sh (.tuple (trD os)), .no, .no, .no] = .ok (.own (.lst (((sortI os).map fun _ => true).map PyData.bool))) [.sh (.tuple (trD os)), .no, .no, .no] := by
    have := lc_map (fi := itA (rdv 0)) (t := tNm 3) (c := yes) (e := shr (callD f_is_pair (argS (rdv 3) args0))) (vs := [3]) (Γ := [.sh (.tuple (trD os)), .no, .no, .no]) (Γ1 := [.sh (.tuple (trD os)), .no, .no, .no]) (sortI os) (fun k => PyData.tuple [.int k, optD (par os k)]) (fun _ => true) (fun _ => PyData.bool true)
      (by simp; rfl) rfl (le_lim (by rw [hp.length_eq]; omega)) (fun k hk => ⟨[.sh (.tuple (trD os)), .no, .no, .sh (.tuple [.int k, optD (par os k)])], rfl, rfl, fun _ => ?_, rfl⟩)
    · rw [this, map_true, List.map_map]; rfl
    · have hk := hp.mem_iff.mp hk
      simp [is_pair_ok (h.bd k hk) (opt_bd h hk)]
  have hall : ((sortI os).map fun _ => true).all id = true := by simp
  obtain ⟨j, hj, e1⟩ := order_from_eq (E := sortI os) h.nd hp (by omega)
  have hb := bo_all h.nd hp hj
  have hnb := hb.nodup_iff.mpr h.nd
  have hbl : (bo os (sortI os) j).length = os.length := hb.length_eq
  have e2 := pbo_eq hnb (by rw [hbl]; omega)
  have e3 := tree_of_eq hnb (by rw [hbl]; omega)
  have e4 : trD (bo os (sortI os) j) = trD os := trD_eq hb fun k hk => par_perm h.nd hb (bo_PB h.nd hp hj) hk
  rw [e4] at e3
  have e5 := gEq_same ((rp_tree h).shaped (by omega))
  have hd := dict_trD h.nd
  have hlen : (trD os).length = os.length := trD_len os
  have h40 : ¬ ((40 : Int) < (os.length : Int)) := by omega
  have hpd : gLen (pdD os (sortI os)) = some (.sh (.int (os.length : Int))) := by
    unfold pdD; rw [gLen_d, List.length_map, hp.length_eq]
  unfold f_is_tree b_is_tree n_is_tree c_MAX_KEYS
  have hga : gAll (.list ((sortI os).map (PyData.bool ∘ fun _ => true))) = some (.sh (.bool true)) := by rw [← List.map_map, gAll_bools, hall]
  simp only [List.map_map] at hlc
  simp [hlc, hlen, h40, hga, hd, e1, e2, e3, e5, hpd]
theorem check_tree_ok {os : List Int} (h : Ord os) (hl : os.length ≤ 40) : f_check_tree [.sh (.tuple (trD os))] = .ok (.sh .none) [none] := by
  unfold f_check_tree b_check_tree n_check_tree
  simp [is_tree_ok h hl]
theorem pdD_look {os E : List Int} {k : Int} (h : k ∈ E) : lookD (E.map fun k => (PyData.int k, optD (par os k))) (.int k) = some (optD (par os k)) := lookD_map (fun k => optD (par os k)) k E h
theorem pdD_ix {os E : List Int} {k : Int} (h : k ∈ E) : gIx (pdD os E) (.int k) = some (.sh (optD (par os k))) := by
  unfold pdD
  rw [gIx_d, pdD_look h]
  rfl
theorem lookD_none (f : Int → PD) (k : Int) : ∀ E : List Int, k ∉ E → lookD (E.map fun k => (PyData.int k, f k)) (.int k) = none
  | [], _ => rfl
  | x :: E, h => by
    have ih := lookD_none f k E fun z => h (List.mem_cons_of_mem _ z)
    have hx : x ≠ k := fun z => h (z ▸ List.mem_cons_self)
    unfold lookD at ih ⊢
    rw [List.map_cons, List.find?_cons]
    have : keyEq (PyData.int x) (.int k) = false := decide_eq_false hx
    simp only [this]
    exact ih
theorem pdD_in {os E : List Int} {k : Int} : gIn (.int k) (pdD os E) = some (decide (k ∈ E)) := by
  unfold pdD
  show some (lookD _ _).isSome = _
  by_cases h : k ∈ E
  · rw [pdD_look h, decide_eq_true h]; rfl
  · rw [lookD_none _ k E h, decide_eq_false h]; rfl

/-! ### children, below -/
def chS (os E : List Int) (k : Int) (s : Bool) : Option Int := (E.filter fun c => decide (par os c = some k) && decide (decide (c < k) = s)).getLast?
theorem chS_some {os E : List Int} {k c : Int} {s : Bool} (h : chS os E k s = some c) : c ∈ E ∧ par os c = some k ∧ decide (c < k) = s := by
  unfold chS at h
  have := List.mem_of_getLast? h
  rw [List.mem_filter, Bool.and_eq_true, decide_eq_true_eq, decide_eq_true_eq] at this
  exact ⟨this.1, this.2.1, this.2.2⟩
theorem chS_none {os E : List Int} {k : Int} {s : Bool} (h : chS os E k s = none) : ∀ c ∈ E, par os c = some k → decide (c < k) ≠ s := by
  intro c hc hp hs
  have h0 := List.getLast?_eq_none_iff.mp h
  have := List.filter_eq_nil_iff.mp h0 c hc
  simp [hp, hs] at this
theorem chS_of {os E : List Int} {k c : Int} {s : Bool} (hn : os.Nodup) (hE : ∀ c ∈ E, c ∈ os) (hc : c ∈ E) (hp : par os c = some k) (hs : decide (c < k) = s) : chS os E k s = some c := by
  cases h : chS os E k s with
  | none => exact absurd hs (chS_none h c hc hp)
  | some d =>
    obtain ⟨h1, h2, h3⟩ := chS_some h
    have n1 := (par_mem hn (hE c hc) hp).2.2
    have n2 := (par_mem hn (hE d h1) h2).2.2
    have : d = c := side_one hn (hE d h1) (hE c hc) h2 hp (by
      rw [← hs] at h3
      by_cases h : c < k
      · have : d < k := by simpa [h] using h3
        exact .inl ⟨this, h⟩
      · have : ¬ d < k := by simpa [h] using h3
        exact .inr ⟨by omega, by omega⟩)
    rw [this]
theorem chS_snoc (os E : List Int) (k c : Int) (s : Bool) : chS os (E ++ [c]) k s = if par os c = some k ∧ decide (c < k) = s then some c else chS os E k s := by
  unfold chS
  rw [List.filter_append]
  by_cases h : par os c = some k ∧ decide (c < k) = s
  · rw [if_pos h]
    simp [h]
  · rw [if_neg h]
    have : ([c].filter fun c => decide (par os c = some k) && decide (decide (c < k) = s)) = [] := by
      refine List.filter_eq_nil_iff.mpr fun x hx => ?_
      rw [List.mem_singleton] at hx; subst hx
      rw [Bool.and_eq_true, decide_eq_true_eq, decide_eq_true_eq]
      exact h
    rw [this, List.append_nil]

theorem children_by_eq {os E : List Int} {k : Int} (hl : E.length ≤ 1000) : f_children_by [.sh (pdD os E), .sh (.int k)] = .ok (.sh (.tuple [optD (chS os E k true), optD (chS os E k false)])) [none, none] := by
  obtain ⟨Γ', eL, x4, x5, rfl⟩ := forD_inv (t := tTup [4, 5]) (b := L_children_by_1) (E.map fun c => PyData.tuple [.int c, optD (par os c)])
    (fun i Γ => ∃ x4 x5, Γ = [.sh (pdD os E), .sh (.int k), .sh (optD (chS os (E.take i) k true)), .sh (optD (chS os (E.take i) k false)), x4, x5])
    (by
      rintro i d Γ hd ⟨x4, x5, rfl⟩
      rw [List.getElem?_map] at hd
      obtain ⟨c, hc, rfl⟩ := Option.map_eq_some_iff.mp hd
      have he : gEq (optD (par os c)) (.int k) = some (decide (par os c = some k)) := by
        rw [gEq_ap (by simp) (by simp), show PyData.int k = optD (some k) from rfl, eqv_optD]
      refine ⟨_, [.sh (pdD os E), .sh (.int k), .sh (optD (chS os (E.take (i + 1)) k true)), .sh (optD (chS os (E.take (i + 1)) k false)), .sh (.int c), .sh (optD (par os c))], rfl, .inl ?_, _, _, rfl⟩
      rw [take_succ_get hc, chS_snoc, chS_snoc]
      unfold L_children_by_1
      by_cases h1 : par os c = some k
      · by_cases h2 : c < k
        · simp [he, h1, h2]
        · simp [he, h1, h2]
      · simp [he, h1])
    (Γ := [.sh (pdD os E), .sh (.int k), .sh .none, .sh .none, .no, .no]) ⟨.no, .no, rfl⟩
  rw [List.length_map, List.take_length] at eL
  have hl2 : (2 : Nat) ≤ lim := by decide
  have hit : itDI (rdv 0) [.sh (pdD os E), .sh (.int k), .sh .none, .sh .none, .no, .no] = .ok (E.map fun c => PyData.tuple [.int c, optD (par os c)]) [.sh (pdD os E), .sh (.int k), .sh .none, .sh .none, .no, .no] := by
    unfold pdD
    simp
  simp at hit
  unfold f_children_by b_children_by n_children_by
  simp [hl2, hit, eL]

/-! ### lists -/
theorem mem_sortI {os : List Int} {k : Int} : k ∈ sortI os ↔ k ∈ os := (sortI_perm os).mem_iff
theorem max_ex {ns : List Int} {x : Int} (h : x ∈ ns) : ∃ m, ns.max? = some m ∧ m ∈ ns ∧ ∀ y ∈ ns, y ≤ m := by
  cases hm : ns.max? with
  | none => rw [List.max?_eq_none_iff] at hm; rw [hm] at h; cases h
  | some m =>
    obtain ⟨h1, h2⟩ := List.max?_eq_some_iff.mp hm
    exact ⟨m, rfl, h1, h2⟩
theorem min_ex {ns : List Int} {x : Int} (h : x ∈ ns) : ∃ m, ns.min? = some m ∧ m ∈ ns ∧ ∀ y ∈ ns, m ≤ y := by
  cases hm : ns.min? with
  | none => rw [List.min?_eq_none_iff] at hm; rw [hm] at h; cases h
  | some m =>
    obtain ⟨h1, h2⟩ := List.min?_eq_some_iff.mp hm
    exact ⟨m, rfl, h1, h2⟩
theorem cut_sub (os : List Int) (lo hi : Option Int) : ∃ ys : List Int, cutD (os.map PyData.int) lo hi = ys.map PyData.int ∧ ys.length ≤ os.length ∧ ∀ y ∈ ys, y ∈ os := by
  refine ⟨(os.drop (HT.sIx os.length 0 lo)).take (HT.sIx os.length os.length hi - HT.sIx os.length 0 lo), ?_, ?_, fun y hy => List.mem_of_mem_drop (List.mem_of_mem_take hy)⟩
  · unfold cutD
    rw [List.length_map, ← List.map_drop, ← List.map_take]
  · rw [List.length_take, List.length_drop]; omega
theorem gNotIn_mem {d : PD} {ds : List PD} (h : SeqAt.shaped d = true) (h2 : SeqAt.shaped (.tuple ds) = true) (hd : d ∈ ds) : gNotIn d (.tuple ds) = some false := by
  have e : (ds.any fun z => PyData.eqv z d) = true := List.any_eq_true.mpr ⟨d, hd, SeqAt.eqv_refl d (shaped_lay h)⟩
  have : gNotIn d (.tuple ds) = if SeqAt.shaped d && SeqAt.shaped (.tuple ds) then some (!ds.any fun z => PyData.eqv z d) else none := by
    cases d <;> rfl
  rw [this, h, h2, e]; rfl

theorem mn_comm (u k : Int) : mn u k = mn k u := by have := mnmx u k; have := mnmx k u; omega
theorem mx_comm (u k : Int) : mx u k = mx k u := by have := mnmx u k; have := mnmx k u; omega

/-! ### an exchange of neighbours -/
theorem cand_congr {E E' : List Int} {k o : Int} (h : ∀ e, e ∈ E ↔ e ∈ E') : cand E k o = cand E' k o := by
  rw [Bool.eq_iff_iff, cand_iff, cand_iff]
  exact ⟨fun z e he => z e ((h e).mpr he), fun z e he => z e ((h e).mp he)⟩
theorem cand_not {E : List Int} {k o e : Int} (he : e ∈ E) (h : mn k o < e ∧ e < mx k o) : cand E k o = false := by
  cases z : cand E k o with
  | false => rfl
  | true => exact absurd h (cand_iff.mp z e he)
/-- one more key on the far side of x changes no parent -/
theorem parE_far {A : List Int} {a b x : Int} (hx : x ∈ A) (h : mn a b < x ∧ x < mx a b) (hab : a ≠ b) : parE (A ++ [a]) b = parE A b := by
  have hc : cand (A ++ [a]) b a = false := cand_not (e := x) (by simp [hx]) (by have := mnmx a b; have := mnmx b a; omega)
  unfold parE
  rw [List.filter_append, List.filter_cons, if_neg (by rw [hc]; decide), List.filter_nil, List.append_nil]
  congr 1
  refine List.filter_congr fun o ho => ?_
  rw [Bool.eq_iff_iff, cand_iff, cand_iff]
  refine ⟨fun z e he => z e (by simp [he]), fun z e he hr => ?_⟩
  rcases List.mem_append.mp he with he | he
  · exact z e he hr
  · rw [List.mem_singleton] at he
    subst he
    refine z x hx ?_
    have m1 := mnmx e b
    have m2 := mnmx b o
    omega
/-- two keys with x between them, at once ahead of k, in either order -/
theorem parE_mid {A C : List Int} {a b x k : Int} (hx : x ∈ A) (h : mn a b < x ∧ x < mx a b) (hka : k ≠ a) (hkb : k ≠ b) (hkx : k ≠ x) : parE (A ++ b :: a :: C) k = parE (A ++ a :: b :: C) k := by
  have hm : ∀ e, e ∈ A ++ b :: a :: C ↔ e ∈ A ++ a :: b :: C := fun e => by
    simp only [List.mem_append, List.mem_cons]
    constructor <;> rintro (h | h | h | h) <;> simp [h]
  unfold parE
  have hf : ∀ l : List Int, l.filter (cand (A ++ b :: a :: C) k) = l.filter (cand (A ++ a :: b :: C) k) := fun l => List.filter_congr fun o _ => cand_congr hm
  rw [hf]
  have two : cand (A ++ a :: b :: C) k a = false ∨ cand (A ++ a :: b :: C) k b = false := by
    by_cases q : mn k a < x ∧ x < mx k a
    · exact .inl (cand_not (e := x) (by simp [hx]) q)
    · by_cases q2 : mn k b < x ∧ x < mx k b
      · exact .inr (cand_not (e := x) (by simp [hx]) q2)
      · have m1 := mnmx a b
        have m2 := mnmx k a
        have m3 := mnmx k b
        by_cases q3 : mn k a < b ∧ b < mx k a
        · exact .inl (cand_not (e := b) (by simp) q3)
        · exact .inr (cand_not (e := a) (by simp) (by omega))
  congr 1
  rw [List.filter_append, List.filter_append]
  congr 1
  simp only [List.filter_cons]
  rcases two with q | q <;> simp [q]
theorem par_ahead {os A C : List Int} {k : Int} (hn : os.Nodup) (e : os = A ++ k :: C) : par os k = parE A k := by
  unfold par
  rw [ahead_eq hn e]
theorem swap_perm (A C : List Int) (a b : Int) : (A ++ b :: a :: C).Perm (A ++ a :: b :: C) := (List.Perm.swap a b C).append_left A
theorem par_same {A C : List Int} {a b x k : Int} (hn : (A ++ a :: b :: C).Nodup) (hx : x ∈ A) (h : mn a b < x ∧ x < mx a b) (hk : k ∈ A ++ a :: b :: C) : par (A ++ b :: a :: C) k = par (A ++ a :: b :: C) k := by
  have hn' : (A ++ b :: a :: C).Nodup := (swap_perm A C a b).nodup_iff.mpr hn
  obtain ⟨n1, n2, n3, n4, n5⟩ := nd_parts hn
  have hab : a ≠ b := fun z => n2 b (by simp) z.symm
  have ba : mn b a < x ∧ x < mx b a := by
    have := mnmx a b
    have := mnmx b a
    omega
  rcases List.mem_append.mp hk with hk | hk
  · obtain ⟨A1, A2, rfl⟩ := split_mem hk
    rw [par_ahead (A := A1) (C := A2 ++ b :: a :: C) hn' (by simp), par_ahead (A := A1) (C := A2 ++ a :: b :: C) hn (by simp)]
  · rcases List.mem_cons.mp hk with rfl | hk
    · rw [par_ahead (A := A ++ [b]) (C := C) hn' (by simp), par_ahead (A := A) (C := b :: C) hn rfl]
      exact parE_far hx ba (Ne.symm hab)
    · rcases List.mem_cons.mp hk with rfl | hk
      · rw [par_ahead (A := A) (C := a :: C) hn' rfl, par_ahead (A := A ++ [a]) (C := C) hn (by simp)]
        exact (parE_far hx h hab).symm
      · obtain ⟨C1, C2, rfl⟩ := split_mem hk
        have hka : k ≠ a := n2 k (by simp)
        have hkx : k ≠ x := fun z => n3 x hx k (by simp) z.symm
        have hkb : k ≠ b := fun z => by
          subst z
          rw [List.nodup_cons] at n5
          exact n5.1 (by simp)
        rw [par_ahead (A := A ++ b :: a :: C1) (C := C2) hn' (by simp), par_ahead (A := A ++ a :: b :: C1) (C := C2) hn (by simp)]
        exact parE_mid hx h hka hkb hkx
theorem par_rot {A C : List Int} {a b : Int} (hn : (A ++ a :: b :: C).Nodup) (h : ab (A ++ a :: b :: C) a b = true) : par (A ++ a :: b :: C) b = some a := by
  have hA := (ab_at hn (A := A) (C := b :: C) rfl).mp h
  rw [par_ahead (A := A ++ [a]) (C := C) hn (by simp)]
  have hc : cand (A ++ [a]) b a = true := cand_iff.mpr fun e he hr => by
    have m1 := mnmx a b
    have m2 := mnmx b a
    rcases List.mem_append.mp he with he | he
    · exact hA e he (by omega)
    · rw [List.mem_singleton] at he; omega
  unfold parE
  rw [List.filter_append, List.filter_cons, if_pos hc]
  simp
theorem par_unrot {A C : List Int} {a b : Int} (hn : (A ++ a :: b :: C).Nodup) : par (A ++ b :: a :: C) b ≠ some a := by
  have hn' : (A ++ b :: a :: C).Nodup := (swap_perm A C a b).nodup_iff.mpr hn
  rw [par_ahead (A := A) (C := a :: C) hn' rfl]
  intro h
  unfold parE at h
  have := List.mem_of_getLast? h
  have := (List.mem_filter.mp this).1
  exact (nd_parts hn).1 a this rfl
/-- the trees are equal exactly if the earlier key does not stand above the later one -/
theorem swap_iff {A C : List Int} {a b : Int} (hn : (A ++ a :: b :: C).Nodup) : (∀ k ∈ A ++ a :: b :: C, par (A ++ a :: b :: C) k = par (A ++ b :: a :: C) k) ↔ ab (A ++ a :: b :: C) a b = false := by
  constructor
  · intro h
    cases z : ab (A ++ a :: b :: C) a b with
    | false => rfl
    | true => exact absurd ((h b (by simp)).symm.trans (par_rot hn z)) (par_unrot hn)
  · intro h k hk
    obtain ⟨n1, n2, n3, n4, n5⟩ := nd_parts hn
    have : ∃ x ∈ A, mn a b ≤ x ∧ x ≤ mx a b := by
      refine Classical.byContradiction fun q => ?_
      have z : ab (A ++ a :: b :: C) a b = true := (ab_at hn (A := A) (C := b :: C) rfl).mpr fun e he hr => q ⟨e, he, hr⟩
      rw [h] at z; cases z
    obtain ⟨x, hx, hr⟩ := this
    have hxa : x ≠ a := n1 x hx
    have hxb : x ≠ b := n3 x hx b (by simp)
    have m := mnmx a b
    exact (par_same hn hx (by omega) hk).symm

/-! ### an exchange is a rotation -/
theorem par_swap {A C : List Int} {a b k : Int} (hn : (A ++ a :: b :: C).Nodup) (h : ab (A ++ a :: b :: C) a b = true) (hk : k ∈ A ++ a :: b :: C) :
    par (A ++ b :: a :: C) k = if k = b then par (A ++ a :: b :: C) a else if k = a then some b else if par (A ++ a :: b :: C) k = some b ∧ decide (k < b) = decide (a < b) then some a else par (A ++ a :: b :: C) k := by
  have hn' : (A ++ b :: a :: C).Nodup := (swap_perm A C a b).nodup_iff.mpr hn
  obtain ⟨n1, n2, n3, n4, n5⟩ := nd_parts hn
  have hab : a ≠ b := fun z => n2 b (by simp) z.symm
  have hA := (ab_at hn (A := A) (C := b :: C) rfl).mp h
  have hAb : ∀ x ∈ A, x ≠ b := fun x hx z => n3 x hx b (by simp) z
  have m0 := mnmx a b
  by_cases hkb : k = b
  · subst hkb
    rw [if_pos rfl, par_ahead (A := A) (C := a :: C) hn' rfl, par_ahead (A := A) (C := k :: C) hn rfl]
    unfold parE
    congr 1
    refine List.filter_congr fun o ho => ?_
    rw [Bool.eq_iff_iff, cand_iff, cand_iff]
    have ho' := hA o ho
    have ho1 := n1 o ho
    have ho2 := hAb o ho
    refine ⟨fun z e he hr => ?_, fun z e he hr => ?_⟩
    · have he' := hA e he
      have he1 := n1 e he
      have he2 := hAb e he
      have m1 := mnmx a o
      have m2 := mnmx k o
      exact z e he (by omega)
    · have he' := hA e he
      have he1 := n1 e he
      have he2 := hAb e he
      have m1 := mnmx a o
      have m2 := mnmx k o
      exact z e he (by omega)
  · rw [if_neg hkb]
    by_cases hka : k = a
    · subst hka
      rw [if_pos rfl]
      refine par_rot hn' ((ab_at hn' (A := A) (C := k :: C) rfl).mpr fun x hx hr => ?_)
      have := hA x hx
      have m1 := mnmx b k
      omega
    · rw [if_neg hka]
      have hcases : k ∈ A ∨ k ∈ C := by
        rcases List.mem_append.mp hk with hk | hk
        · exact .inl hk
        · rcases List.mem_cons.mp hk with hk | hk
          · exact absurd hk hka
          · rcases List.mem_cons.mp hk with hk | hk
            · exact absurd hk hkb
            · exact .inr hk
      rcases hcases with hk | hk
      · obtain ⟨A1, A2, rfl⟩ := split_mem hk
        have e1 := par_ahead (k := k) (A := A1) (C := A2 ++ b :: a :: C) hn' (by simp)
        have e2 := par_ahead (k := k) (A := A1) (C := A2 ++ a :: b :: C) hn (by simp)
        rw [e1, ← e2]
        rw [if_neg]
        rintro ⟨h1, _⟩
        rw [e2] at h1
        unfold parE at h1
        have := (List.mem_filter.mp (List.mem_of_getLast? h1)).1
        exact hAb b (List.mem_append_left _ this) rfl
      · obtain ⟨C1, C2, rfl⟩ := split_mem hk
        have e1 := par_ahead (k := k) (A := A ++ b :: a :: C1) (C := C2) hn' (by simp)
        have e2 := par_ahead (k := k) (A := A ++ a :: b :: C1) (C := C2) hn (by simp)
        have hC1b : ∀ x ∈ C1, x ≠ b := fun x hx z => by
          rw [List.nodup_cons] at n5
          exact n5.1 (by rw [← z]; simp [hx])
        have hC1a : ∀ x ∈ C1, x ≠ a := fun x hx => n2 x (by simp [hx])
        rw [e1, e2]
        have hm : ∀ e, e ∈ A ++ b :: a :: C1 ↔ e ∈ A ++ a :: b :: C1 := fun e => by
          simp only [List.mem_append, List.mem_cons]
          constructor <;> rintro (h | h | h | h) <;> simp [h]
        unfold parE
        have hf : ∀ l : List Int, l.filter (cand (A ++ b :: a :: C1) k) = l.filter (cand (A ++ a :: b :: C1) k) := fun l => List.filter_congr fun o _ => cand_congr hm
        rw [hf]
        have hpa : ∀ o, cand (A ++ a :: b :: C1) k o = true ↔ ∀ e ∈ A ++ a :: b :: C1, ¬ (mn k o < e ∧ e < mx k o) := fun o => cand_iff
        generalize hp : cand (A ++ a :: b :: C1) k = p at hpa
        cases hl : (C1.filter p).getLast? with
        | some q =>
          have hq := (List.mem_filter.mp (List.mem_of_getLast? hl)).1
          have g1 : ((A ++ a :: b :: C1).filter p).getLast? = some q := by
            have : A ++ a :: b :: C1 = (A ++ [a, b]) ++ C1 := by simp
            rw [this, List.filter_append, List.getLast?_append, hl]; rfl
          have g2 : ((A ++ b :: a :: C1).filter p).getLast? = some q := by
            have : A ++ b :: a :: C1 = (A ++ [b, a]) ++ C1 := by simp
            rw [this, List.filter_append, List.getLast?_append, hl]; rfl
          rw [g1, g2, if_neg]
          rintro ⟨z, _⟩
          exact hC1b q hq (Option.some.inj z)
        | none =>
          have hC0 : C1.filter p = [] := List.getLast?_eq_none_iff.mp hl
          have g1 : (A ++ a :: b :: C1).filter p = A.filter p ++ [a, b].filter p := by
            have : A ++ a :: b :: C1 = (A ++ [a, b]) ++ C1 := by simp
            rw [this, List.filter_append, hC0, List.append_nil, List.filter_append]
          have g2 : (A ++ b :: a :: C1).filter p = A.filter p ++ [b, a].filter p := by
            have : A ++ b :: a :: C1 = (A ++ [b, a]) ++ C1 := by simp
            rw [this, List.filter_append, hC0, List.append_nil, List.filter_append]
          rw [g1, g2]
          have ma := mnmx k a
          have mb := mnmx k b
          cases pa : p a with
          | true =>
            have za := (hpa a).mp pa b (by simp)
            cases pb : p b with
            | true =>
              have zb := (hpa b).mp pb a (by simp)
              simp [pa, pb]
              omega
            | false => simp [pa, pb, hab]
          | false =>
            cases pb : p b with
            | true =>
              have zb := (hpa b).mp pb a (by simp)
              simp only [List.filter_cons, pa, pb, if_true, Bool.false_eq_true, if_false, List.filter_nil, List.getLast?_append, List.getLast?_singleton, Option.some_or]
              rw [if_neg]
              rintro ⟨_, hs⟩
              rw [decide_eq_decide] at hs
              -- k stands between a and b
              have hex : ∃ e ∈ A ++ a :: b :: C1, mn k a < e ∧ e < mx k a := by
                refine Classical.byContradiction fun q => ?_
                have : p a = true := (hpa a).mpr fun e he hr => q ⟨e, he, hr⟩
                rw [pa] at this; cases this
              obtain ⟨e, he, hr1, hr2⟩ := hex
              have hek : e ≠ k := by omega
              obtain ⟨s, hs1, hs2, hs3, hs4⟩ := nearest (A ++ a :: b :: C1) k _ e (Nat.le_refl _) he hek
              have me := mnmx e k
              rw [hp] at hs4
              have hsC : s ∈ C1 := by
                rcases List.mem_append.mp hs1 with h1 | h1
                · have := hA s h1
                  omega
                · rcases List.mem_cons.mp h1 with h1 | h1
                  · omega
                  · rcases List.mem_cons.mp h1 with h1 | h1
                    · omega
                    · exact h1
              have := List.filter_eq_nil_iff.mp hC0 s hsC
              exact this hs4
            | false =>
              simp only [List.filter_cons, pa, pb, Bool.false_eq_true, if_false, List.filter_nil, List.append_nil]
              rw [if_neg]
              rintro ⟨z, _⟩
              exact hAb b (List.mem_filter.mp (List.mem_of_getLast? z)).1 rfl
theorem ab_swap {A C : List Int} {a b : Int} (hn : (A ++ a :: b :: C).Nodup) : ab (A ++ b :: a :: C) b a = ab (A ++ a :: b :: C) a b := by
  have hn' : (A ++ b :: a :: C).Nodup := (swap_perm A C a b).nodup_iff.mpr hn
  rw [Bool.eq_iff_iff, ab_at hn' (A := A) (C := a :: C) rfl, ab_at hn (A := A) (C := b :: C) rfl, mn_comm, mx_comm]

/-! ### rotate_in, rotated -/
@[simp] theorem pairsG_nil (Γ : Sto) : pairsG [] Γ = .ok [] Γ := rfl
@[simp] theorem pairsG_cons (fk fv : Sto → Res PD) (r : PrG) (Γ : Sto) : pairsG ((fk, fv) :: r) Γ = (nox (fk Γ)).bind fun k Γ1 => (nox (fv Γ1)).bind fun v Γ2 => (nox (pairsG r Γ2)).bind fun ps Γ3 => .ok ((k, v) :: ps) Γ3 := rfl
@[simp] theorem dspS_ap (fd : Sto → Res PD) (prs : PrG) (Γ : Sto) : dspS fd prs Γ = (nox (fd Γ)).bind fun d Γ1 => match d with
  | .dict kvs => (nox (pairsG prs Γ1)).bind fun ps Γ2 => match keysG kvs, keysG ps with
    | some ks, some ms => if ks.length + 100 ≤ lim ∧ ms.length ≤ 15 then .ok (.own (.dic (mergeP (mergeP [] ks) (mergeP [] ms)))) Γ2 else .bad
    | _, _ => .bad
  | _ => .bad := rfl
theorem putP_upd (f : Int → PD) (k0 : Int) (v : PD) : ∀ {E : List Int}, k0 ∈ E → gSet.putP (E.map fun k => ((Sum.inl k : Key), f k)) (.inl k0) v = E.map fun k => (Sum.inl k, if k = k0 then v else f k) := fun {E} h => by
  unfold gSet.putP
  have hany : ((E.map fun k => ((Sum.inl k : Key), f k)).any fun kv => decide (kv.1 = Sum.inl k0)) = true := List.any_eq_true.mpr ⟨_, List.mem_map.mpr ⟨k0, h, rfl⟩, by simp⟩
  rw [if_pos hany, List.map_map]
  refine List.map_congr_left fun k _ => ?_
  rw [Function.comp_apply]
  by_cases e : k = k0
  · subst e; simp
  · have : ¬ ((Sum.inl k : Key) = Sum.inl k0) := fun z => e (by cases z; rfl)
    simp [e, this]
theorem pkv_map (g h : Int → Option Int) (E : List Int) (e : ∀ k ∈ E, g k = h k) : E.map (fun k => ((Sum.inl k : Key), optD (g k))) = E.map fun k => (Sum.inl k, optD (h k)) := List.map_congr_left fun k hk => by rw [e k hk]
theorem rotate_in_eq {A C : List Int} {a b : Int} {E : List Int} (hn : (A ++ a :: b :: C).Nodup) (hab : ab (A ++ a :: b :: C) a b = true) (hE : E.Perm (A ++ a :: b :: C)) (hl : E.length ≤ 1000) :
    f_rotate_in [.sh (pdD (A ++ a :: b :: C) E), .sh (.int b)] = .ok (.own (.dic (pkv (A ++ b :: a :: C) E))) [none, none] := by
  have hos : ∃ os, os = A ++ a :: b :: C := ⟨_, rfl⟩
  obtain ⟨os, hos⟩ := hos
  have hsw := fun k (hk : k ∈ os) => par_swap hn hab (k := k) (by rw [← hos]; exact hk)
  have hbp : par os b = some a := by rw [hos]; exact par_rot hn hab
  have hne : a ≠ b := fun z => (nd_parts hn).2.1 b (by simp) z.symm
  have ha : a ∈ os := by rw [hos]; simp
  have hb : b ∈ os := by rw [hos]; simp
  rw [← hos] at hn hE ⊢
  simp only [← hos] at hsw
  have hEn : E.Nodup := hE.nodup_iff.mpr hn
  have haE := hE.mem_iff.mpr ha
  have hbE := hE.mem_iff.mpr hb
  have x1 := pdD_ix (os := os) hbE
  rw [hbp] at x1
  have x2 := pdD_ix (os := os) haE
  have e1 := children_by_eq (os := os) (E := E) (k := b) hl
  obtain ⟨inner, hin⟩ : ∃ inner, chS os E b (decide (a < b)) = inner := ⟨_, rfl⟩
  have hat : atI [optD (chS os E b true), optD (chS os E b false)] (if b < a then 1 else 0) = some (optD inner) := by
    rw [← hin]
    by_cases z : b < a
    · have z2 : ¬ a < b := by omega
      simp only [if_pos z, decide_eq_false z2]; rfl
    · have z2 : a < b := by omega
      simp only [if_neg z, decide_eq_true z2]; rfl
  have ek : keysG (E.map fun k => (PyData.int k, optD (par os k))) = some (pkv os E) := by
    have := keysG_kD (pkv os E)
    unfold pkv at this ⊢
    rw [List.map_map] at this
    exact this
  have em : mergeP [] (pkv os E) = pkv os E := by
    have := mergeP_map (fun k => optD (par os k)) E [] (by rw [List.nil_append]; exact hEn)
    rw [List.nil_append] at this
    exact this
  have em2 : mergeP [] [((Sum.inl b : Key), optD (par os a)), (Sum.inl a, PyData.int b)] = [((Sum.inl b : Key), optD (par os a)), (Sum.inl a, PyData.int b)] := by
    have hba : ¬ ((Sum.inl b : Key) = Sum.inl a) := fun z => hne (by cases z; rfl)
    show gSet.putP (gSet.putP [] (Sum.inl b) (optD (par os a))) (Sum.inl a) (.int b) = _
    unfold gSet.putP
    simp [hba]
  have em3 : mergeP (pkv os E) [((Sum.inl b : Key), optD (par os a)), (Sum.inl a, PyData.int b)] = E.map fun k => (Sum.inl k, if k = a then .int b else if k = b then optD (par os a) else optD (par os k)) := by
    show gSet.putP (gSet.putP (pkv os E) (Sum.inl b) (optD (par os a))) (Sum.inl a) (.int b) = _
    unfold pkv
    rw [putP_upd _ b _ hbE, putP_upd _ a _ haE]
  have kd : keysG [(PyData.int b, optD (par os a)), (PyData.int a, PyData.int b)] = some [((Sum.inl b : Key), optD (par os a)), (Sum.inl a, PyData.int b)] := rfl
  have hlz : (pkv os E).length + 100 ≤ lim := le_lim (by unfold pkv; rw [List.length_map]; omega)
  -- the parents of the exchanged order
  have hpar : ∀ k ∈ E, (if some k = inner then PyData.int a else if k = a then .int b else if k = b then optD (par os a) else optD (par os k)) = optD (par (A ++ b :: a :: C) k) := fun k hk => by
    have hk' := hE.mem_iff.mp hk
    rw [hsw k hk']
    by_cases kb : k = b
    · subst kb
      have n1 : ¬ some k = inner := fun z => by
        rw [← z] at hin
        exact (par_mem hn hk' (chS_some hin).2.1).2.2 rfl
      rw [if_neg n1, if_pos rfl, if_neg (Ne.symm hne), if_pos rfl]
    · by_cases ka : k = a
      · subst ka
        have n1 : ¬ some k = inner := fun z => by
          rw [← z] at hin
          have := (par_mem hn hk' (chS_some hin).2.1).2.1
          rw [ahead_eq (A := A) (C := b :: C) hn hos] at this
          rw [hos] at hn
          exact (nd_parts hn).2.2.1 b this b (by simp) rfl
        rw [if_neg n1, if_pos rfl, if_neg kb, if_pos rfl]
        rfl
      · rw [if_neg kb, if_neg ka, if_neg ka, if_neg kb]
        by_cases kin : some k = inner
        · rw [← kin] at hin
          obtain ⟨_, h2, h3⟩ := chS_some hin
          rw [if_pos kin, if_pos ⟨h2, h3⟩]; rfl
        · rw [if_neg kin, if_neg]
          rintro ⟨h2, h3⟩
          exact kin (by rw [← hin, chS_of hn (fun c hc => hE.mem_iff.mp hc) hk h2 h3])
  have hfin : (E.map fun k => ((Sum.inl k : Key), if some k = inner then PyData.int a else if k = a then .int b else if k = b then optD (par os a) else optD (par os k))) = pkv (A ++ b :: a :: C) E := List.map_congr_left fun k hk => by rw [hpar k hk]
  have hret : ∀ (kvs : List (Key × PD)) (x2 x3 : Sl), retA [.sh (pdD os E), .sh (.int b), x2, x3, .own none (.dic kvs)] (.var 4) = some (.own (.dic kvs)) := fun _ _ _ => rfl
  unfold f_rotate_in b_rotate_in n_rotate_in
  cases inner with
  | none =>
    have hat : atI [optD (chS os E b true), optD (chS os E b false)] (if b < a then 1 else 0) = some .none := hat
    have hf2 : (E.map fun k => ((Sum.inl k : Key), if k = a then PyData.int b else if k = b then optD (par os a) else optD (par os k))) = pkv (A ++ b :: a :: C) E := by
      rw [← hfin]
      exact List.map_congr_left fun k _ => by rw [if_neg (by simp : ¬ some k = none)]
    rw [hf2] at em3
    simp [x1, x2, e1, hat]
    unfold pdD
    simp [ek, kd, hlz, em, em2, em3]
  | some c =>
    obtain ⟨hc, _, _⟩ := chS_some hin
    have hat : atI [optD (chS os E b true), optD (chS os E b false)] (if b < a then 1 else 0) = some (.int c) := hat
    have hput : gSet (.dic (E.map fun k => ((Sum.inl k : Key), if k = a then PyData.int b else if k = b then optD (par os a) else optD (par os k)))) (.int c) (.int a) = some (.dic (pkv (A ++ b :: a :: C) E)) := by
      rw [gSet_di _ _ _ (lt_lim (by rw [List.length_map]; omega)), putP_upd _ c _ hc, ← hfin]
      congr 2
      refine List.map_congr_left fun k _ => ?_
      by_cases z : k = c
      · subst z; simp
      · have z2 : ¬ some k = some c := fun w => z (Option.some.inj w)
        rw [if_neg z, if_neg z2]
    simp [x1, x2, e1, hat]
    unfold pdD
    simp [ek, kd, hlz, em, em2, em3, hput]
theorem tree_of_any {os E : List Int} (hn : os.Nodup) (hE : E.Perm os) (hl : os.length ≤ 60) : f_tree_of [.sh (pdD os E)] = .ok (.sh (.tuple (trD os))) [none] := by
  unfold f_tree_of b_tree_of n_tree_of
  have e := pairsI_map (fun k => optD (par os k)) E
  have e2 := sortP_map (fun k => optD (par os k)) (hE.nodup_iff.mpr hn)
  have h3 : E.length < 64 := by rw [hE.length_eq]; omega
  have e4 : (sortP (E.map fun k => (k, optD (par os k)))).map tupP = trD os := by
    rw [e2, List.map_map, sortI_perm_eq hE]; rfl
  simp [pdD, e, h3, e4]

/-! ### routes of rotations -/
def rOb (os E : List Int) : Ob := .dic (pkv os E)
@[simp] theorem rOb_pd (os E : List Int) : (rOb os E).pd = some (pdD os E) := by
  show some (PyData.dict ((pkv os E).map fun p => (kD p.1, p.2))) = _
  unfold pkv pdD
  rw [List.map_map]
  rfl
@[simp] theorem asgAV_rOb (i : Nat) (os E : List Int) (Γ : Sto) : asgAV i (.own (rOb os E)) Γ = some (Γ.set i (.own none (rOb os E))) := rfl
@[simp] theorem retA_rOb (Γ : Sto) (os E : List Int) : retA Γ (.own (rOb os E)) = some (.own (rOb os E)) := rfl
theorem is_one_ofD {os E : List Int} {k : Int} (h : k ∈ E) : f_is_one_of [.sh (pdD os E), .sh (.int k)] = .ok (.sh (.bool true)) [none, none] := by
  unfold f_is_one_of b_is_one_of n_is_one_of
  simp [is_integer_int, pdD_in, h]
theorem pdD_notin {os E : List Int} {k : Int} : gNotIn (.int k) (pdD os E) = some (!decide (k ∈ E)) := by
  have h := pdD_in (os := os) (E := E) (k := k)
  unfold pdD at h ⊢
  have h1 : gIn (.int k) (.dict (E.map fun k => (PyData.int k, optD (par os k)))) = some (lookD (E.map fun k => (PyData.int k, optD (par os k))) (.int k)).isSome := rfl
  have h2 : gNotIn (.int k) (.dict (E.map fun k => (PyData.int k, optD (par os k)))) = some (!(lookD (E.map fun k => (PyData.int k, optD (par os k))) (.int k)).isSome) := rfl
  rw [h1] at h
  rw [h2, Option.some.inj h]
theorem same_keysD_ok {os os' E E' : List Int} (hp : E'.Perm E) (hl : E.length ≤ 1000) : f_check_same_keys [.sh (pdD os E), .sh (pdD os' E')] = .ok (.sh .none) [none, none] := by
  have l1 : lc (itA (rdv 0)) [3] (tNm 3) (tst (op2 (rdv 3) (rdv 1) (gB gNotIn))) (shr (rdv 3)) [.sh (pdD os E), .sh (pdD os' E'), .no, .no] = .ok (.own (.lst [])) [.sh (pdD os E), .sh (pdD os' E'), .no, .no] := by
    have e := lc_ints (fi := itA (rdv 0)) (t := tNm 3) (c := tst (op2 (rdv 3) (rdv 1) (gB gNotIn))) (e := shr (rdv 3)) (vs := [3]) (Γ := [.sh (pdD os E), .sh (pdD os' E'), .no, .no]) (Γ1 := [.sh (pdD os E), .sh (pdD os' E'), .no, .no]) E (fun k => !decide (k ∈ E')) PyData.int
      (by unfold pdD; simp) rfl (le_lim (by omega)) (fun k hk => ⟨[.sh (pdD os E), .sh (pdD os' E'), .no, .sh (.int k)], rfl, by simp [pdD_notin], fun _ => by simp, rfl⟩)
    have z : (E.filter fun k => !decide (k ∈ E')) = [] := List.filter_eq_nil_iff.mpr fun k hk => by simp [hp.mem_iff.mpr hk]
    rw [e, z]; rfl
  have l2 : lc (itA (rdv 1)) [3] (tNm 3) (tst (op2 (rdv 3) (rdv 0) (gB gNotIn))) (shr (rdv 3)) [.sh (pdD os E), .sh (pdD os' E'), .no, .no] = .ok (.own (.lst [])) [.sh (pdD os E), .sh (pdD os' E'), .no, .no] := by
    have e := lc_ints (fi := itA (rdv 1)) (t := tNm 3) (c := tst (op2 (rdv 3) (rdv 0) (gB gNotIn))) (e := shr (rdv 3)) (vs := [3]) (Γ := [.sh (pdD os E), .sh (pdD os' E'), .no, .no]) (Γ1 := [.sh (pdD os E), .sh (pdD os' E'), .no, .no]) E' (fun k => !decide (k ∈ E)) PyData.int
      (by unfold pdD; simp) rfl (le_lim (by rw [hp.length_eq]; omega)) (fun k hk => ⟨[.sh (pdD os E), .sh (pdD os' E'), .no, .sh (.int k)], rfl, by simp [pdD_notin], fun _ => by simp, rfl⟩)
    have z : (E'.filter fun k => !decide (k ∈ E)) = [] := List.filter_eq_nil_iff.mpr fun k hk => by simp [hp.mem_iff.mp hk]
    rw [e, z]; rfl
  have h0 : (0 : Nat) ≤ lim := Nat.zero_le _
  unfold f_check_same_keys b_check_same_keys n_check_same_keys
  simp [l1, l2, h0]
theorem two_trees_ok {os os' : List Int} (h : Ord os) (h' : Ord os') (hp : os'.Perm os) (hl : os.length ≤ 40) : f_check_two_trees [.sh (.tuple (trD os)), .sh (.tuple (trD os'))] = .ok (.sh .none) [none, none] := by
  have e1 := check_tree_ok h hl
  have e2 := check_tree_ok h' (by rw [hp.length_eq]; exact hl)
  have e3 := parents_of_eq h.nd
  have e4 := parents_of_eq h'.nd
  have e5 := same_keysD_ok (os := os) (os' := os') (E := sortI os) (E' := sortI os') (by rw [sortI_perm_eq hp]) (by rw [(sortI_perm os).length_eq]; omega)
  unfold f_check_two_trees b_check_two_trees n_check_two_trees
  simp [e1, e2, e3, e4, e5]
inductive RtF : List Int → List Int → List Int → Prop
  | nil (os : List Int) : RtF os [] os
  | same {os os' ts s : List Int} : os'.Perm os → (∀ k ∈ os, par os' k = par os k) → RtF os' ts s → RtF os ts s
  | rot {A C ts s : List Int} {a b : Int} : ab (A ++ a :: b :: C) a b = true → RtF (A ++ b :: a :: C) ts s → RtF (A ++ a :: b :: C) (b :: ts) s
theorem RtF.perm {os ts s : List Int} (h : RtF os ts s) : s.Perm os := by
  induction h with
  | nil os => exact .refl _
  | same hp _ _ ih => exact ih.trans hp
  | rot _ _ ih => exact ih.trans (swap_perm _ _ _ _)
theorem RtF.snoc {os ts s : List Int} (h : RtF os ts s) : ∀ {A C : List Int} {a b : Int}, s = A ++ a :: b :: C → ab (A ++ a :: b :: C) a b = true → RtF os (ts ++ [b]) (A ++ b :: a :: C) := by
  induction h with
  | nil os => intro A C a b e hab; subst e; exact .rot hab (.nil _)
  | same hp he _ ih => intro A C a b e hab; exact .same hp he (ih e hab)
  | rot h _ ih => intro A C a b e hab; exact .rot h (ih e hab)
theorem RtF.snocS {os ts s : List Int} (h : RtF os ts s) : ∀ {s' : List Int}, s'.Perm s → (∀ k ∈ s, par s' k = par s k) → RtF os ts s' := by
  induction h with
  | nil os => intro s' hp he; exact .same hp he (.nil _)
  | same hp he _ ih => intro s' hp' he'; exact .same hp he (ih hp' he')
  | rot h _ ih => intro s' hp' he'; exact .rot h (ih hp' he')
theorem route_loop {os ts s : List Int} (h : RtF os ts s) : ∀ {E : List Int} {t1 t2 c : PD} (x4 : Sl), os.Nodup → E.Perm os → os.length ≤ 1000 →
    ∃ x4', forD (tNm 4) L_is_route_1 (ts.map PyData.int) [.sh t1, .sh t2, .sh c, .own none (rOb os E), x4] = .nx [.sh t1, .sh t2, .sh c, .own none (rOb s E), x4'] := by
  induction h with
  | nil os => intro E t1 t2 c x4 _ _ _; exact ⟨x4, rfl⟩
  | @same os os' ts s hp he _ ih =>
    intro E t1 t2 c x4 hn hE hl
    have e : rOb os E = rOb os' E := by
      unfold rOb pkv
      congr 1
      exact List.map_congr_left fun k hk => by rw [he k (hE.mem_iff.mp hk)]
    rw [e]
    exact ih x4 (hp.nodup_iff.mpr hn) (hE.trans hp.symm) (by rw [hp.length_eq]; exact hl)
  | @rot A C ts s a b hab _ ih =>
    intro E t1 t2 c x4 hn hE hl
    have hsp := swap_perm A C a b
    have hb : b ∈ A ++ a :: b :: C := by simp
    have e1 : f_rotate_in [.sh (pdD (A ++ a :: b :: C) E), .sh (.int b)] = .ok (.own (rOb (A ++ b :: a :: C) E)) [none, none] := rotate_in_eq hn hab hE (by rw [hE.length_eq]; exact hl)
    have e2 := is_one_ofD (os := A ++ a :: b :: C) (hE.mem_iff.mpr hb)
    have e3 := pdD_ix (os := A ++ a :: b :: C) (hE.mem_iff.mpr hb)
    rw [par_rot hn hab] at e3
    obtain ⟨x4', e4⟩ := ih (E := E) (t1 := t1) (t2 := t2) (c := c) (.sh (.int b)) (hsp.nodup_iff.mpr hn) (hE.trans hsp.symm) (by rw [hsp.length_eq]; exact hl)
    refine ⟨x4', ?_⟩
    rw [List.map_cons]
    generalize A ++ a :: b :: C = os at *
    generalize A ++ b :: a :: C = os' at *
    have hbody : L_is_route_1 [.sh t1, .sh t2, .sh c, .own none (rOb os E), .sh (.int b)] = .nx [.sh t1, .sh t2, .sh c, .own none (rOb os' E), .sh (.int b)] := by
      unfold L_is_route_1
      simp [e1, e2, e3]
    unfold forD
    simp only [tNm_ap, List.set_cons_succ, List.set_cons_zero]
    rw [hbody]
    exact e4
theorem is_route_ok {os ts s : List Int} (h : RtF os ts s) (ho : Ord os) (hl : os.length ≤ 40) (hts : ts.length ≤ 2000) : f_is_route [.sh (.tuple (trD os)), .sh (.tuple (trD s)), .sh (.list (ts.map PyData.int))] = .ok (.sh (.bool true)) [none, none, none] := by
  have hsp := h.perm
  have hs : Ord s := ⟨hsp.nodup_iff.mpr ho.nd, fun k hk => ho.bd k (hsp.mem_iff.mp hk)⟩
  have hls : s.length ≤ 40 := by rw [hsp.length_eq]; exact hl
  have e1 := two_trees_ok ho hs hsp hl
  have e2 : f_parents_of [.sh (.tuple (trD os))] = .ok (.own (rOb os (sortI os))) [none] := parents_of_eq ho.nd
  obtain ⟨x4', e3⟩ := route_loop h (E := sortI os) (t1 := .tuple (trD os)) (t2 := .tuple (trD s)) (c := .list (ts.map PyData.int)) .no ho.nd (sortI_perm os) (by omega)
  have e4 := tree_of_any hs.nd (E := sortI os) ((sortI_perm os).trans hsp.symm) (by omega)
  have e5 := gEq_same ((rp_tree hs).shaped (by omega))
  have hlt : ¬ ((2000 : Int) < (ts.length : Int)) := by omega
  unfold f_is_route b_is_route n_is_route c_MAX_ROUTE
  simp [e1, e2, e3, e4, e5, hlt]

/-! ### a key next to its parent -/
theorem adj_order {os : List Int} (hn : os.Nodup) {b a : Int} (hb : b ∈ os) (hp : par os b = some a) : ∃ A C, (A ++ a :: b :: C).Perm os ∧ (∀ k ∈ os, par (A ++ a :: b :: C) k = par os k) ∧ ab (A ++ a :: b :: C) a b = true := by
  obtain ⟨A1, C, e1⟩ := split_mem hb
  obtain ⟨_, haA, _⟩ := par_mem hn hb hp
  rw [ahead_eq hn e1] at haA
  obtain ⟨A, D, e2⟩ := split_mem haA
  have e : os = A ++ a :: (D ++ b :: C) := by rw [e1, e2]; simp
  have hperm : (A ++ a :: b :: (D ++ C)).Perm os := by
    rw [e]
    exact List.Perm.append_left A (List.Perm.cons a List.perm_middle.symm)
  have hn2 := hperm.nodup_iff.mpr hn
  have hsub : ∀ k ∈ os, k ≠ b → ∀ q, q ∈ ahead os k → q ∈ ahead (A ++ a :: b :: (D ++ C)) k := by
    intro k hk hkb q hq
    have hk' := hk
    rw [e] at hk'
    rcases List.mem_append.mp hk' with h | h
    · obtain ⟨X, Y, rfl⟩ := split_mem h
      rw [ahead_eq (A := X) (C := Y ++ a :: (D ++ b :: C)) hn (by rw [e]; simp)] at hq
      rw [ahead_eq (A := X) (C := Y ++ a :: b :: (D ++ C)) hn2 (by simp)]
      exact hq
    · rcases List.mem_cons.mp h with h | h
      · subst h
        rw [ahead_eq (A := A) (C := D ++ b :: C) hn e] at hq
        rw [ahead_eq (A := A) (C := b :: (D ++ C)) hn2 rfl]
        exact hq
      · rcases List.mem_append.mp h with h | h
        · obtain ⟨X, Y, rfl⟩ := split_mem h
          rw [ahead_eq (A := A ++ a :: X) (C := Y ++ b :: C) hn (by rw [e]; simp)] at hq
          rw [ahead_eq (A := A ++ a :: b :: X) (C := Y ++ C) hn2 (by simp)]
          rcases List.mem_append.mp hq with h | h
          · exact List.mem_append_left _ h
          · rcases List.mem_cons.mp h with h | h
            · rw [h]; simp
            · simp [h]
        · rcases List.mem_cons.mp h with h | h
          · exact absurd h hkb
          · obtain ⟨X, Y, rfl⟩ := split_mem h
            rw [ahead_eq (A := A ++ a :: (D ++ b :: X)) (C := Y) hn (by rw [e]; simp)] at hq
            rw [ahead_eq (A := A ++ a :: b :: (D ++ X)) (C := Y) hn2 (by simp)]
            simp only [List.mem_append, List.mem_cons] at hq ⊢
            rcases hq with h | h | h | h | h <;> simp [h]
  have hPB : PB os (A ++ a :: b :: (D ++ C)) := fun k q hk hq => by
    by_cases hkb : k = b
    · subst hkb
      rw [hp] at hq
      cases hq
      rw [ahead_eq (A := A ++ [a]) (C := D ++ C) hn2 (by simp)]
      simp
    · exact hsub k hk hkb q (par_mem hn hk hq).2.1
  refine ⟨A, D ++ C, hperm, fun k hk => par_perm hn hperm hPB hk, ?_⟩
  have h1 := (par_char hn hb hp).2.2.1
  unfold ab at h1 ⊢
  rw [firstIn_perm hn hperm hPB]
  exact h1

/-! ### _law_tree_of -/
def lowK (E : List Int) (k : Int) : List Int := E.filter fun y => decide (y < k)
def uppK (E : List Int) (k : Int) : List Int := E.filter fun y => decide (k < y)
def nearK (E : List Int) (k : Int) : List Int := (lowK E k).max?.toList ++ (uppK E k).min?.toList
theorem near_cand {E : List Int} {k o : Int} (ho : o ∈ E) (hk : k ∉ E) : decide (o ∈ nearK E k) = cand E k o := by
  have hne : o ≠ k := fun z => hk (z ▸ ho)
  have m := mnmx k o
  rw [Bool.eq_iff_iff, decide_eq_true_eq, cand_iff]
  unfold nearK
  rw [List.mem_append, Option.mem_toList, Option.mem_toList, List.max?_eq_some_iff, List.min?_eq_some_iff]
  constructor
  · rintro (⟨h1, h2⟩ | ⟨h1, h2⟩) e he hr
    · have h1 := of_decide_eq_true (List.mem_filter.mp h1).2
      have := h2 e (List.mem_filter.mpr ⟨he, decide_eq_true (by omega)⟩)
      omega
    · have h1 := of_decide_eq_true (List.mem_filter.mp h1).2
      have := h2 e (List.mem_filter.mpr ⟨he, decide_eq_true (by omega)⟩)
      omega
  · intro h
    by_cases hlt : o < k
    · refine .inl ⟨List.mem_filter.mpr ⟨ho, decide_eq_true hlt⟩, fun b hb => ?_⟩
      obtain ⟨g1, g2⟩ := List.mem_filter.mp hb
      have g2 := of_decide_eq_true g2
      have := h b g1
      omega
    · refine .inr ⟨List.mem_filter.mpr ⟨ho, decide_eq_true (by omega)⟩, fun b hb => ?_⟩
      obtain ⟨g1, g2⟩ := List.mem_filter.mp hb
      have g2 := of_decide_eq_true g2
      have := h b g1
      omega
theorem treeof_one {os : List Int} {i : Nat} {k : Int} (hn : os.Nodup) (hl : os.length ≤ 60) (hi : os[i]? = some k) (F : List PD) (hF : F.length ≤ 100) (x3 x4 x5 x6 : Sl) : ∃ x3' x4' x5' x6', L__law_tree_of_1 [.sh (.list (os.map PyData.int)), .own none (.lst F), .sh (.int (i : Int)), x3, x4, x5, x6, .no] = .nx [.sh (.list (os.map PyData.int)), .own none (.lst (F ++ [.tuple [.int k, optD (par os k)]])), .sh (.int (i : Int)), x3', x4', x5', x6', .no] := by
  have hE : ahead os k = os.take i := take_ahead hn hi
  have hkE : k ∉ os.take i := not_mem_take hn hi
  obtain ⟨E, hEe⟩ : ∃ E, os.take i = E := ⟨_, rfl⟩
  rw [hEe] at hE hkE
  have hEl : E.length ≤ 60 := by rw [← hEe, List.length_take]; omega
  have hat : atI (os.map PyData.int) (i : Int) = some (.int k) := atI_n (by omega) (by rw [Int.toNat_natCast, List.getElem?_map, hi]; rfl)
  have hcut : cutD (os.map PyData.int) none (some (i : Int)) = E.map PyData.int := by rw [cut_take, ← List.map_take, hEe]
  have l1 : ∀ x3 x4 x5 x6 : Sl, lc (itA (slc (rdv 0) none (some (rdv 2)))) [7] (tNm 7) (tst (op2 (rdv 7) (op2 (rdv 0) (rdv 2) gIx) (gB gLt))) (shr (rdv 7)) [.sh (.list (os.map PyData.int)), .own none (.lst F), .sh (.int (i : Int)), x3, x4, x5, x6, .no] = .ok (.own (.lst ((lowK E k).map PyData.int))) [.sh (.list (os.map PyData.int)), .own none (.lst F), .sh (.int (i : Int)), x3, x4, x5, x6, .no] := fun x3 x4 x5 x6 =>
    lc_ints E _ _ (by simp [hcut]) rfl (le_lim (by omega)) (fun y _ => ⟨[.sh (.list (os.map PyData.int)), .own none (.lst F), .sh (.int (i : Int)), x3, x4, x5, x6, .sh (.int y)], rfl, by simp [hat], fun _ => by simp, rfl⟩)
  have l2 : ∀ x3 x4 x5 x6 : Sl, lc (itA (slc (rdv 0) none (some (rdv 2)))) [7] (tNm 7) (tst (op2 (rdv 7) (op2 (rdv 0) (rdv 2) gIx) (gB gGt))) (shr (rdv 7)) [.sh (.list (os.map PyData.int)), .own none (.lst F), .sh (.int (i : Int)), x3, x4, x5, x6, .no] = .ok (.own (.lst ((uppK E k).map PyData.int))) [.sh (.list (os.map PyData.int)), .own none (.lst F), .sh (.int (i : Int)), x3, x4, x5, x6, .no] := fun x3 x4 x5 x6 =>
    lc_ints E _ _ (by simp [hcut]) rfl (le_lim (by omega)) (fun y _ => ⟨[.sh (.list (os.map PyData.int)), .own none (.lst F), .sh (.int (i : Int)), x3, x4, x5, x6, .sh (.int y)], rfl, by simp [hat], fun _ => by simp, rfl⟩)
  have l3 : ∀ x3 x4 x6 : Sl, lc (itA (slc (rdv 0) none (some (rdv 2)))) [7] (tNm 7) (tst (op2 (rdv 7) (rdv 5) (gB gIn))) (shr (rdv 7)) [.sh (.list (os.map PyData.int)), .own none (.lst F), .sh (.int (i : Int)), x3, x4, .own none (.lst ((nearK E k).map PyData.int)), x6, .no] = .ok (.own (.lst ((E.filter (cand E k)).map PyData.int))) [.sh (.list (os.map PyData.int)), .own none (.lst F), .sh (.int (i : Int)), x3, x4, .own none (.lst ((nearK E k).map PyData.int)), x6, .no] := fun x3 x4 x6 =>
    lc_ints E _ _ (by simp [hcut]) rfl (le_lim (by omega)) (fun y hy => ⟨[.sh (.list (os.map PyData.int)), .own none (.lst F), .sh (.int (i : Int)), x3, x4, .own none (.lst ((nearK E k).map PyData.int)), x6, .sh (.int y)], rfl, by simp [near_cand hy hkE], fun _ => by simp, rfl⟩)
  have hpar : par os k = (E.filter (cand E k)).getLast? := by unfold par parE; rw [hE]
  have h0 : (0 : Nat) ≤ lim := Nat.zero_le _
  have h1 : (1 : Nat) ≤ lim := by decide
  have h2 : (2 : Nat) ≤ lim := by decide
  have hFl : F.length < lim := lt_lim (by omega)
  have hq : (vIf (tst (op2 (rdv 6) (dspL args0) (gB gNe))) (op2 (rdv 6) (op1 (cst (.int 1)) gNeg) gIx) (cst .none)) [.sh (.list (os.map PyData.int)), .own none (.lst F), .sh (.int (i : Int)), .own none (.lst ((lowK E k).map PyData.int)), .own none (.lst ((uppK E k).map PyData.int)), .own none (.lst ((nearK E k).map PyData.int)), .own none (.lst ((E.filter (cand E k)).map PyData.int)), .no] = .ok (.sh (optD (par os k))) [.sh (.list (os.map PyData.int)), .own none (.lst F), .sh (.int (i : Int)), .own none (.lst ((lowK E k).map PyData.int)), .own none (.lst ((uppK E k).map PyData.int)), .own none (.lst ((nearK E k).map PyData.int)), .own none (.lst ((E.filter (cand E k)).map PyData.int)), .no] := by
    rw [hpar]
    rcases List.eq_nil_or_concat (E.filter (cand E k)) with hz | ⟨L, q, hz⟩
    · rw [hz]; simp [h0]
    · rw [hz, List.concat_eq_append]
      have hla : atI ((L ++ [q]).map PyData.int) (-1) = some (.int q) := by
        unfold L2.atI
        rw [List.length_map, List.length_append, List.length_singleton]
        have : ixN (L.length + 1) (-1) = some L.length := by
          unfold ixN
          rw [if_neg (by omega), if_pos (by omega)]
          congr 1
          omega
        rw [this]
        simp
      have hne : ¬ (L ++ [q] = []) := by simp
      have hg : gNe (.list ((L ++ [q]).map PyData.int)) (.list []) = some true := by rw [gNe_l0, decide_eq_false hne]; rfl
      have hgl : (L ++ [q]).getLast? = some q := by simp
      rw [hgl]
      simp [-List.map_append, h0, hg, hla]
  refine ⟨.own none (.lst ((lowK E k).map PyData.int)), .own none (.lst ((uppK E k).map PyData.int)), .own none (.lst ((nearK E k).map PyData.int)), .own none (.lst ((E.filter (cand E k)).map PyData.int)), ?_⟩
  have hnear : (op2 (vIf (tst (op2 (rdv 3) (dspL args0) (gB gNe))) (dspL (argS (op1 (rdv 3) gMax1) args0)) (dspL args0)) (vIf (tst (op2 (rdv 4) (dspL args0) (gB gNe))) (dspL (argS (op1 (rdv 4) gMin1) args0)) (dspL args0)) gAdd) [.sh (.list (os.map PyData.int)), .own none (.lst F), .sh (.int (i : Int)), .own none (.lst ((lowK E k).map PyData.int)), .own none (.lst ((uppK E k).map PyData.int)), x5, x6, .no] = .ok (.own (.lst ((nearK E k).map PyData.int))) [.sh (.list (os.map PyData.int)), .own none (.lst F), .sh (.int (i : Int)), .own none (.lst ((lowK E k).map PyData.int)), .own none (.lst ((uppK E k).map PyData.int)), x5, x6, .no] := by
    unfold nearK
    cases hm : (lowK E k).max? with
    | none =>
      have z1 := List.max?_eq_none_iff.mp hm
      cases hu : (uppK E k).min? with
      | none =>
        have z2 := List.min?_eq_none_iff.mp hu
        rw [z1, z2]
        simp [h0]
      | some u =>
        have z2 : ¬ uppK E k = [] := fun z => by rw [z] at hu; cases hu
        rw [z1]
        simp [h0, h1, z2, hu]
    | some l =>
      have z1 : ¬ lowK E k = [] := fun z => by rw [z] at hm; cases hm
      cases hu : (uppK E k).min? with
      | none =>
        have z2 := List.min?_eq_none_iff.mp hu
        rw [z2]
        simp [h0, h1, z1, hm]
      | some u =>
        have z2 : ¬ uppK E k = [] := fun z => by rw [z] at hu; cases hu
        simp [h0, h1, h2, z1, z2, hm, hu]
  unfold L__law_tree_of_1
  simp only [sq_ap, asg_ap, l1, l2, st_ok, asgAV_lst, onx_some, List.set_cons_succ, List.set_cons_zero, hnear, l3]
  simp [-vIf_ap, hat, hq, h2, hFl]
theorem tree_of_law {os : List Int} (hn : os.Nodup) (hl : os.length ≤ 60) : f__law_tree_of [.sh (.list (os.map PyData.int))] = .ok (.sh (.tuple (trD os))) [none] := by
  obtain ⟨Γ', eL, x2, x3, x4, x5, x6, rfl⟩ := forD_inv (t := tNm 2) (b := L__law_tree_of_1) (rangeD 0 os.length)
    (fun i Γ => ∃ x2 x3 x4 x5 x6, Γ = [.sh (.list (os.map PyData.int)), .own none (.lst ((os.take i).map fun k => .tuple [.int k, optD (par os k)])), x2, x3, x4, x5, x6, .no])
    (by
      rintro i d Γ hd ⟨x2, x3, x4, x5, x6, rfl⟩
      obtain ⟨hi, rfl⟩ := rangeD0_get hd
      have hk : os[i]? = some os[i] := List.getElem?_eq_getElem hi
      obtain ⟨x3', x4', x5', x6', e⟩ := treeof_one hn hl hk ((os.take i).map fun k => .tuple [.int k, optD (par os k)]) (by rw [List.length_map, List.length_take]; omega) x3 x4 x5 x6
      refine ⟨_, _, rfl, .inl e, .sh (.int (i : Int)), x3', x4', x5', x6', ?_⟩
      rw [take_succ_get hk, List.map_append]
      rfl)
    (Γ := [.sh (.list (os.map PyData.int)), .own none (.lst []), .no, .no, .no, .no, .no, .no]) ⟨.no, .no, .no, .no, .no, rfl⟩
  have hrl : (rangeD 0 os.length).length = os.length := by unfold rangeD; rw [List.length_map, List.length_range]
  rw [hrl, List.take_length] at eL
  have hbig : big (os.length : Int) = true := big_of (by omega) (by omega)
  have hl0 : (0 : Nat) ≤ lim := Nat.zero_le _
  have hok : okQ (os.map fun k => (k, optD (par os k))) = true := okQ_nd (by
    rw [List.map_map, show ((fun x : Int × PD => x.1) ∘ fun k => (k, optD (par os k))) = id from rfl, List.map_id]
    exact hn)
  have hs := gSortedA_q hok
  rw [sortQ_map (fun k => optD (par os k)) hn, List.map_map, List.map_map] at hs
  have hs : gSortedA (.list (os.map fun k => .tuple [.int k, optD (par os k)])) = some (.own (.lst (trD os))) := hs
  unfold f__law_tree_of b__law_tree_of n__law_tree_of
  simp [hl0, hbig, eL, hs]

/-! ### route -/
theorem whl_step {c : Sto → Res Bool} {b : Sd} {Γ Γ1 Γ2 : Sto} {r : RS} (h1 : c Γ = .ok true Γ1) (h2 : b Γ1 = .nx Γ2) (h3 : whl c b Γ2 = r) (hr : r ≠ .bad) : whl c b Γ = r := by
  by_cases hx : ∃ n, whileD c b n Γ2 ≠ .bad
  · have e : whl c b Γ2 = whileD c b (Classical.choose hx) Γ2 := by unfold whl; rw [dif_pos hx]
    rw [e] at h3
    refine whl_of (n := Classical.choose hx + 1) ?_ hr
    unfold whileD
    rw [h1]
    simp only [st_ok, if_true, h2]
    exact h3
  · have e : whl c b Γ2 = .bad := by unfold whl; rw [dif_neg hx]
    rw [e] at h3
    exact absurd h3.symm hr
theorem whl_stop {c : Sto → Res Bool} {b : Sd} {Γ Γ1 : Sto} (h1 : c Γ = .ok false Γ1) : whl c b Γ = .nx Γ1 := by
  refine whl_of (n := 1) ?_ (by intro z; cases z)
  unfold whileD
  rw [h1]
  rfl
def cur4 (os E : List Int) (x : Sl) : Prop := x = .sh (pdD os E) ∨ x = .own none (rOb os E)
theorem parE_mem {E : List Int} {k q : Int} (h : parE E k = some q) : q ∈ E := by
  unfold parE at h
  exact (List.mem_filter.mp (List.mem_of_getLast? h)).1
theorem inner_route {f s E : List Int} (t1 t2 : PD) (key : Int) (P : List Int) (hEs : key ∈ E) (htg : par s key = parE P key) (hfn : f.Nodup) (hE : E.Perm f) (hl : f.length ≤ 1000) : ∀ (n : Nat) (X1 Z ts : List Int) (x4 : Sl), X1.length = n → (P ++ X1 ++ key :: Z).Perm f → RtF f ts (P ++ X1 ++ key :: Z) → cur4 (P ++ X1 ++ key :: Z) E x4 → ts.length + n ≤ 50000 →
    ∃ (ts' Z' : List Int) (x4' : Sl), L_route_2 [.sh t1, .sh t2, .own none (.lst (ts.map PyData.int)), .sh (.int key), x4, .sh (pdD s E)] = .nx [.sh t1, .sh t2, .own none (.lst (ts'.map PyData.int)), .sh (.int key), x4', .sh (pdD s E)] ∧ (P ++ key :: Z').Perm f ∧ RtF f ts' (P ++ key :: Z') ∧ cur4 (P ++ key :: Z') E x4' ∧ ts'.length ≤ ts.length + n := by
  have ht : gIx (pdD s E) (.int key) = some (.sh (optD (par s key))) := pdD_ix hEs
  intro n
  induction n with
  | zero =>
    intro X1 Z ts x4 hX hp hr h4 hz
    rw [List.length_eq_zero_iff.mp hX] at hp hr h4
    rw [List.append_nil] at hp hr h4
    have hn := hp.nodup_iff.mpr hfn
    have hc : gIx (pdD (P ++ key :: Z) E) (.int key) = some (.sh (optD (par (P ++ key :: Z) key))) := pdD_ix hEs
    have hpar : par (P ++ key :: Z) key = par s key := by rw [htg, par_ahead hn rfl]
    rw [hpar] at hc
    have hne : gNe (optD (par s key)) (optD (par s key)) = some false := by rw [gNe_ap (by simp) (by simp), eqv_optD]; simp
    refine ⟨ts, Z, x4, whl_stop ?_, hp, hr, h4, by omega⟩
    rcases h4 with rfl | rfl <;> simp [hc, ht, hne]
  | succ n ih =>
    intro X1 Z ts x4 hX hp hr h4 hz
    have hne1 : X1 ≠ [] := fun z => by rw [z] at hX; simp at hX
    obtain ⟨X, x, hXe⟩ : ∃ X x, X1 = X ++ [x] := ⟨X1.dropLast, X1.getLast hne1, (List.dropLast_concat_getLast hne1).symm⟩
    subst hXe
    have eo : P ++ (X ++ [x]) ++ key :: Z = (P ++ X) ++ x :: key :: Z := by simp
    rw [eo] at hp hr h4
    have hn := hp.nodup_iff.mpr hfn
    have hsp := swap_perm (P ++ X) Z x key
    have hXl : X.length = n := by simp at hX; exact hX
    have eo' : (P ++ X) ++ key :: x :: Z = P ++ X ++ key :: (x :: Z) := rfl
    cases hab : ab ((P ++ X) ++ x :: key :: Z) x key with
    | false =>
      have hpe : ∀ k ∈ (P ++ X) ++ x :: key :: Z, par ((P ++ X) ++ key :: x :: Z) k = par ((P ++ X) ++ x :: key :: Z) k := fun k hk => ((swap_iff hn).mpr hab k hk).symm
      have hd : pdD ((P ++ X) ++ key :: x :: Z) E = pdD ((P ++ X) ++ x :: key :: Z) E := by
        unfold pdD
        congr 1
        exact List.map_congr_left fun k hk => by rw [hpe k (hp.mem_iff.mpr (hE.mem_iff.mp hk))]
      have ho : rOb ((P ++ X) ++ key :: x :: Z) E = rOb ((P ++ X) ++ x :: key :: Z) E := by
        unfold rOb pkv
        congr 1
        exact List.map_congr_left fun k hk => by rw [hpe k (hp.mem_iff.mpr (hE.mem_iff.mp hk))]
      obtain ⟨ts', Z', x4', g1, g2, g3, g4, g5⟩ := ih X (x :: Z) ts x4 hXl (hsp.trans hp) (hr.snocS hsp hpe) (by unfold cur4; rw [hd, ho]; exact h4) (by omega)
      exact ⟨ts', Z', x4', g1, g2, g3, g4, by omega⟩
    | true =>
      have e1 : f_rotate_in [.sh (pdD ((P ++ X) ++ x :: key :: Z) E), .sh (.int key)] = .ok (.own (rOb ((P ++ X) ++ key :: x :: Z) E)) [none, none] := rotate_in_eq hn hab (hE.trans hp.symm) (by rw [hE.length_eq]; exact hl)
      have hc : gIx (pdD ((P ++ X) ++ x :: key :: Z) E) (.int key) = some (.sh (optD (par ((P ++ X) ++ x :: key :: Z) key))) := pdD_ix hEs
      rw [par_rot hn hab] at hc
      have hneq : ¬ (some x = par s key) := fun z => by
        rw [htg] at z
        have hxP := parE_mem z.symm
        exact (nd_parts hn).1 x (List.mem_append_left _ hxP) rfl
      have hne : gNe (optD (some x)) (optD (par s key)) = some true := by rw [gNe_ap (by simp) (by simp), eqv_optD, decide_eq_false hneq]; rfl
      have htl : ts.length < lim := lt_lim (by omega)
      obtain ⟨ts', Z', x4', g1, g2, g3, g4, g5⟩ := ih X (x :: Z) (ts ++ [key]) (.own none (rOb ((P ++ X) ++ key :: x :: Z) E)) hXl (hsp.trans hp) (hr.snoc rfl hab) (.inr rfl) (by simp; omega)
      refine ⟨ts', Z', x4', ?_, g2, g3, g4, by simp at g5; omega⟩
      unfold L_route_2 at g1 ⊢
      generalize (P ++ X) ++ x :: key :: Z = os at *
      generalize (P ++ X) ++ key :: x :: Z = os' at *
      refine whl_step (Γ1 := [.sh t1, .sh t2, .own none (.lst (ts.map PyData.int)), .sh (.int key), x4, .sh (pdD s E)]) ?_ ?_ g1 (by intro z; cases z)
      · simp only [optD_some] at hne hc
        rcases h4 with rfl | rfl <;> simp [hc, ht, hne]
      · unfold L_route_1
        rcases h4 with rfl | rfl <;> simp [e1, htl]
theorem route_eq {f s : List Int} (hf : Ord f) (hs : Ord s) (hp : s.Perm f) (hl : f.length ≤ 40) : ∃ ts : List Int, f_route [.sh (.tuple (trD f)), .sh (.tuple (trD s))] = .ok (.own (.lst (ts.map PyData.int))) [none, none] ∧ RtF f ts s ∧ ts.length ≤ 1600 := by
  have hEf := sortI_perm f
  have hEs := sortI_perm s
  have hEq : sortI s = sortI f := sortI_perm_eq hp
  rw [hEq] at hEs
  obtain ⟨j, hj, e1⟩ := order_from_eq (E := sortI f) hs.nd hEs (by rw [hp.length_eq]; omega)
  have hB := bo_all hs.nd hEs hj
  have hPB := bo_PB hs.nd hEs hj
  obtain ⟨B, hBe⟩ : ∃ B, bo s (sortI f) j = B := ⟨_, rfl⟩
  rw [hBe] at e1 hB hPB
  have hBn := hB.nodup_iff.mpr hs.nd
  have hBf : B.Perm f := hB.trans hp
  have hpar : ∀ k ∈ s, par B k = par s k := fun k hk => par_perm hs.nd hB hPB hk
  have e2 := two_trees_ok hf hs hp hl
  have e3 : f_parents_of [.sh (.tuple (trD f))] = .ok (.own (rOb f (sortI f))) [none] := parents_of_eq hf.nd
  have e4 : f_parents_of [.sh (.tuple (trD s))] = .ok (.own (rOb s (sortI f))) [none] := by
    have := parents_of_eq hs.nd
    unfold tOb at this
    rw [hEq] at this
    exact this
  obtain ⟨Γ', eL, ts, Z, x3, x4, rfl, g1, g2, g3, g4⟩ := forD_inv (t := tNm 3) (b := L_route_2) (B.map PyData.int)
    (fun i Γ => ∃ (ts Z : List Int) (x3 x4 : Sl), Γ = [.sh (.tuple (trD f)), .sh (.tuple (trD s)), .own none (.lst (ts.map PyData.int)), x3, x4, .sh (pdD s (sortI f))] ∧ (B.take i ++ Z).Perm f ∧ RtF f ts (B.take i ++ Z) ∧ cur4 (B.take i ++ Z) (sortI f) x4 ∧ ts.length ≤ 40 * i)
    (by
      rintro i d Γ hd ⟨ts, Z, x3, x4, rfl, g1, g2, g3, g4⟩
      rw [List.getElem?_map] at hd
      obtain ⟨key, hk, rfl⟩ := Option.map_eq_some_iff.mp hd
      have hkB := List.mem_of_getElem? hk
      have hks := hB.mem_iff.mp hkB
      have hkZ : key ∈ Z := by
        have : key ∈ B.take i ++ Z := g1.mem_iff.mpr (hBf.mem_iff.mp hkB)
        rcases List.mem_append.mp this with h | h
        · exact absurd h (not_mem_take hBn hk)
        · exact h
      obtain ⟨X1, Z2, hZ⟩ := split_mem hkZ
      subst hZ
      have eo : B.take i ++ (X1 ++ key :: Z2) = B.take i ++ X1 ++ key :: Z2 := by simp
      rw [eo] at g1 g2 g3
      have hXl : X1.length ≤ 40 := by
        have := g1.length_eq
        simp only [List.length_append, List.length_cons] at this
        omega
      have hiB : i < B.length := (List.getElem?_eq_some_iff.mp hk).1
      have hBl := hBf.length_eq
      have htg : par s key = parE (B.take i) key := by
        rw [← hpar key hks]
        unfold par
        rw [take_ahead hBn hk]
      obtain ⟨ts', Z', x4', q1, q2, q3, q4, q5⟩ := inner_route (f := f) (s := s) (E := sortI f) (.tuple (trD f)) (.tuple (trD s)) key (B.take i) (hEs.mem_iff.mpr hks) htg hf.nd hEf (by omega) X1.length X1 Z2 ts x4 rfl g1 g2 g3 (by omega)
      have et : B.take (i + 1) ++ Z' = B.take i ++ key :: Z' := by rw [take_succ_get hk]; simp
      exact ⟨_, _, rfl, .inl q1, ts', Z', _, x4', rfl, by rw [et]; exact q2, by rw [et]; exact q3, by rw [et]; exact q4, by omega⟩)
    (Γ := [.sh (.tuple (trD f)), .sh (.tuple (trD s)), .own none (.lst []), .no, .sh (pdD f (sortI f)), .sh (pdD s (sortI f))]) ⟨[], f, .no, _, rfl, by simp, by simpa using RtF.nil f, .inl (by simp), by simp⟩
  rw [List.length_map, List.take_length] at g1 g2 g3
  rw [List.length_map] at g4
  have hZ : Z = [] := by
    have h1 := g1.length_eq
    have h2 := hBf.length_eq
    rw [List.length_append] at h1
    exact List.length_eq_zero_iff.mp (by omega)
  subst hZ
  rw [List.append_nil] at g2
  refine ⟨ts, ?_, g2.snocS hB.symm fun k hk => (hpar k (hB.mem_iff.mp hk)).symm, by have := hBf.length_eq; omega⟩
  have hl0 : (0 : Nat) ≤ lim := Nat.zero_le _
  unfold f_route b_route n_route
  simp [hl0, e1, e2, e3, e4, eL]

theorem check_keyD_ok {os E : List Int} {k : Int} (h : k ∈ E) : f_check_key [.sh (pdD os E), .sh (.int k)] = .ok (.sh .none) [none, none] := by
  have h1 : f_is_one_of [.sh (pdD os E), .sh (.int k)] = .ok (.sh (.bool true)) [none, none] := by
    unfold f_is_one_of b_is_one_of n_is_one_of
    simp [is_integer_int, pdD_in, h]
  unfold f_check_key b_check_key n_check_key
  simp [h1]

theorem rotated_eq {A C : List Int} {a b : Int} (h : Ord (A ++ a :: b :: C)) (hl : (A ++ a :: b :: C).length ≤ 40) (hab : ab (A ++ a :: b :: C) a b = true) :
    f_rotated [.sh (.tuple (trD (A ++ a :: b :: C))), .sh (.int b)] = .ok (.sh (.tuple (trD (A ++ b :: a :: C)))) [none, none] := by
  have hp := sortI_perm (A ++ a :: b :: C)
  have hb : b ∈ A ++ a :: b :: C := by simp
  have hsp := swap_perm A C a b
  have hn' := hsp.nodup_iff.mpr h.nd
  have x1 := pdD_ix (os := A ++ a :: b :: C) (hp.mem_iff.mpr hb)
  rw [par_rot h.nd hab] at x1
  have e1 := rotate_in_eq h.nd hab hp (by rw [hp.length_eq]; omega)
  have e2 := tree_of_any hn' (hp.trans hsp.symm) (by rw [hsp.length_eq]; omega)
  have e3 := check_tree_ok h hl
  have e4 := parents_of_eq h.nd
  have e5 := check_keyD_ok (os := A ++ a :: b :: C) (hp.mem_iff.mpr hb)
  have hpd : ((pkv (A ++ b :: a :: C) (sortI (A ++ a :: b :: C))).map fun p => (kD p.1, p.2)) = (sortI (A ++ a :: b :: C)).map fun k => (PyData.int k, optD (par (A ++ b :: a :: C) k)) := by
    unfold pkv; rw [List.map_map]; rfl
  have e2 : f_tree_of [.sh (.dict ((sortI (A ++ a :: b :: C)).map fun k => (PyData.int k, optD (par (A ++ b :: a :: C) k))))] = .ok (.sh (.tuple (trD (A ++ b :: a :: C)))) [none] := e2
  generalize hos : A ++ a :: b :: C = os at *
  generalize hos' : A ++ b :: a :: C = os' at *
  have e6 : f_check_rotation [.sh (.tuple (trD os)), .sh (.int b)] = .ok (.sh .none) [none, none] := by
    unfold f_check_rotation b_check_rotation n_check_rotation
    simp [e3, e4, e5, x1]
  unfold f_rotated b_rotated n_rotated
  simp [e6, e4, e1, hpd, e2]

/-! ### rotations at any key with a parent -/
theorem Ord.perm' {os os' : List Int} (h : Ord os) (hp : os'.Perm os) : Ord os' := ⟨hp.nodup_iff.mpr h.nd, fun k hk => h.bd k (hp.mem_iff.mp hk)⟩
theorem rotated_any {os : List Int} {b a : Int} (h : Ord os) (hl : os.length ≤ 40) (hb : b ∈ os) (hp : par os b = some a) : ∃ os', f_rotated [.sh (.tuple (trD os)), .sh (.int b)] = .ok (.sh (.tuple (trD os'))) [none, none] ∧ os'.Perm os ∧ (∀ E : List Int, E.Perm os → f_rotate_in [.sh (pdD os E), .sh (.int b)] = .ok (.own (rOb os' E)) [none, none]) := by
  obtain ⟨A, C, hperm, hpe, hab⟩ := adj_order h.nd hb hp
  have h2 := h.perm' hperm
  have ht : trD (A ++ a :: b :: C) = trD os := trD_eq hperm hpe
  have e1 := rotated_eq h2 (by rw [hperm.length_eq]; exact hl) hab
  rw [ht] at e1
  refine ⟨A ++ b :: a :: C, e1, (swap_perm A C a b).trans hperm, fun E hE => ?_⟩
  have e2 := rotate_in_eq h2.nd hab (hE.trans hperm.symm) (by rw [hE.length_eq]; omega)
  have hd : pdD (A ++ a :: b :: C) E = pdD os E := by
    unfold pdD
    congr 1
    exact List.map_congr_left fun k hk => by rw [hpe k (hE.mem_iff.mp hk)]
  rw [hd] at e2
  exact e2
def kidsL (os : List Int) : List Int := (sortI os).filter fun k => !decide (par os k = none)
theorem law_children_ok {os : List Int} (hl : os.length ≤ 1000) : f__law_children [.sh (.tuple (trD os))] = .ok (.own (.lst ((kidsL os).map PyData.int))) [none] := by
  have e := lc_map (fi := itA (rdv 0)) (t := tTup [1, 2]) (c := tst (op2 (rdv 2) (cst .none) (gB gIsNot))) (e := shr (rdv 1)) (vs := [1, 2]) (Γ := [.sh (.tuple (trD os)), .no, .no]) (Γ1 := [.sh (.tuple (trD os)), .no, .no]) (sortI os) (fun k => PyData.tuple [.int k, optD (par os k)]) (fun k => !decide (par os k = none)) PyData.int
    (by simp; rfl) rfl (le_lim (by rw [(sortI_perm os).length_eq]; omega)) (fun k hk => ⟨[.sh (.tuple (trD os)), .sh (.int k), .sh (optD (par os k))], rfl, by cases par os k <;> simp, fun _ => by simp, rfl⟩)
  have e : lc (itA (rdv 0)) [1, 2] (tTup [1, 2]) (tst (op2 (rdv 2) (cst .none) (gB gIsNot))) (shr (rdv 1)) [.sh (.tuple (trD os)), .no, .no] = .ok (.own (.lst ((kidsL os).map PyData.int))) [.sh (.tuple (trD os)), .no, .no] := e
  unfold f__law_children b__law_children n__law_children
  simp [e]
theorem mem_kids {os : List Int} {k : Int} : k ∈ kidsL os ↔ k ∈ os ∧ par os k ≠ none := by
  unfold kidsL
  rw [List.mem_filter, (sortI_perm os).mem_iff]
  simp
/-- what may stand in a list of keys -/
inductive Odd : PD → Prop
  | none : Odd .none
  | bool (b : Bool) : Odd (.bool b)
  | str (x : Str) : Odd (.str x)
  | list (ds : List PD) : Odd (.list ds)
  | tup (ds : List PD) : Odd (.tuple ds)
def Item (d : PD) : Prop := (∃ k, d = .int k) ∨ Odd d
theorem odd_one_of {c d : PD} (h : Odd d) : f_is_one_of [.sh c, .sh d] = .ok (.sh (.bool false)) [none, none] := by
  have h1 : f_is_integer [.sh d] = .ok (.sh (.bool false)) [none] := by
    unfold f_is_integer b_is_integer n_is_integer
    cases h <;> simp
  unfold f_is_one_of b_is_one_of n_is_one_of
  simp [h1]
theorem int_one_of {os E : List Int} {k : Int} : f_is_one_of [.sh (pdD os E), .sh (.int k)] = .ok (.sh (.bool (decide (k ∈ E)))) [none, none] := by
  unfold f_is_one_of b_is_one_of n_is_one_of
  simp [is_integer_int, pdD_in]
/-- both loops go the same way -/
theorem both_loops (t1 t2 t3 u1 u2 : PD) {f E : List Int} (hf : Ord f) (hl : f.length ≤ 40) (hE : E.Perm f) : ∀ (ds : List PD), (∀ d ∈ ds, Item d) → ∀ (os : List Int) (x4 y4 : Sl) (c : PD), os.Perm f →
    (∃ (os' : List Int) (x4' y4' : Sl), os'.Perm f ∧ forD (tNm 4) L_is_route_1 ds [.sh t1, .sh t2, .sh c, .own none (rOb os E), x4] = .nx [.sh t1, .sh t2, .sh c, .own none (rOb os' E), x4'] ∧
      forD (tNm 4) L__law_expected_1 ds [.sh u1, .sh u2, .sh c, .sh (.tuple (trD os)), y4] = .nx [.sh u1, .sh u2, .sh c, .sh (.tuple (trD os')), y4']) ∨
    (∃ (x3 x4' y3 y4' : Sl), forD (tNm 4) L_is_route_1 ds [.sh t1, .sh t2, .sh c, .own none (rOb os E), x4] = .rt (.sh (.bool false)) [.sh t1, .sh t2, .sh c, x3, x4'] ∧
      forD (tNm 4) L__law_expected_1 ds [.sh u1, .sh u2, .sh c, .sh (.tuple (trD os)), y4] = .rt (.sh (.bool false)) [.sh u1, .sh u2, .sh c, y3, y4'])
  | [], _, os, x4, y4, c, ho => .inl ⟨os, x4, y4, ho, rfl, rfl⟩
  | d :: ds, hd, os, x4, y4, c, ho => by
    have hO := hf.perm' ho
    have hlo : os.length ≤ 40 := by rw [ho.length_eq]; exact hl
    have hEo : E.Perm os := hE.trans ho.symm
    have k1 := law_children_ok (os := os) (by omega)
    rcases hd d List.mem_cons_self with ⟨k, rfl⟩ | hodd
    · have e1 := int_one_of (os := os) (E := E) (k := k)
      by_cases hk : k ∈ os
      · have hkE := hEo.mem_iff.mpr hk
        have e2 := pdD_ix (os := os) hkE
        cases hq : par os k with
        | none =>
          have hnk : k ∉ kidsL os := fun z => (mem_kids.mp z).2 hq
          rw [hq] at e2
          refine .inr ⟨.sh (pdD os E), .sh (.int k), .sh (.tuple (trD os)), .sh (.int k), ?_, ?_⟩
          · unfold forD
            simp only [tNm_ap, List.set_cons_succ, List.set_cons_zero]
            unfold L_is_route_1
            simp [e1, hkE, e2]
          · unfold forD
            simp only [tNm_ap, List.set_cons_succ, List.set_cons_zero]
            unfold L__law_expected_1
            simp [k1, hnk]
        | some a =>
          have hkk : k ∈ kidsL os := mem_kids.mpr ⟨hk, by rw [hq]; simp⟩
          rw [hq] at e2
          obtain ⟨os', g1, g2, g3⟩ := rotated_any hO hlo hk hq
          have g3 := g3 E hEo
          have b1 : L_is_route_1 [.sh t1, .sh t2, .sh c, .own none (rOb os E), .sh (.int k)] = .nx [.sh t1, .sh t2, .sh c, .own none (rOb os' E), .sh (.int k)] := by
            unfold L_is_route_1
            simp [e1, hkE, e2, g3]
          have b2 : L__law_expected_1 [.sh u1, .sh u2, .sh c, .sh (.tuple (trD os)), .sh (.int k)] = .nx [.sh u1, .sh u2, .sh c, .sh (.tuple (trD os')), .sh (.int k)] := by
            unfold L__law_expected_1
            simp [k1, hkk, g1]
          have ih := both_loops t1 t2 t3 u1 u2 hf hl hE ds (fun d' hd' => hd d' (List.mem_cons_of_mem _ hd')) os' (.sh (.int k)) (.sh (.int k)) c (g2.trans ho)
          have f1 : forD (tNm 4) L_is_route_1 (.int k :: ds) [.sh t1, .sh t2, .sh c, .own none (rOb os E), x4] = forD (tNm 4) L_is_route_1 ds [.sh t1, .sh t2, .sh c, .own none (rOb os' E), .sh (.int k)] := by
            conv => lhs; unfold forD
            simp only [tNm_ap, List.set_cons_succ, List.set_cons_zero]
            rw [b1]
          have f2 : forD (tNm 4) L__law_expected_1 (.int k :: ds) [.sh u1, .sh u2, .sh c, .sh (.tuple (trD os)), y4] = forD (tNm 4) L__law_expected_1 ds [.sh u1, .sh u2, .sh c, .sh (.tuple (trD os')), .sh (.int k)] := by
            conv => lhs; unfold forD
            simp only [tNm_ap, List.set_cons_succ, List.set_cons_zero]
            rw [b2]
          rw [f1, f2]
          exact ih
      · have hkE : k ∉ E := fun z => hk (hEo.mem_iff.mp z)
        have hnk : k ∉ kidsL os := fun z => hk (mem_kids.mp z).1
        refine .inr ⟨.sh (pdD os E), .sh (.int k), .sh (.tuple (trD os)), .sh (.int k), ?_, ?_⟩
        · unfold forD
          simp only [tNm_ap, List.set_cons_succ, List.set_cons_zero]
          unfold L_is_route_1
          simp [e1, hkE]
        · unfold forD
          simp only [tNm_ap, List.set_cons_succ, List.set_cons_zero]
          unfold L__law_expected_1
          simp [k1, hnk]
    · have e1 := odd_one_of (c := pdD os E) hodd
      refine .inr ⟨.sh (pdD os E), .sh d, .sh (.tuple (trD os)), .sh d, ?_, ?_⟩
      · unfold forD
        simp only [tNm_ap, List.set_cons_succ, List.set_cons_zero]
        unfold L_is_route_1
        simp [e1]
      · unfold forD
        simp only [tNm_ap, List.set_cons_succ, List.set_cons_zero]
        unfold L__law_expected_1
        cases hodd <;> simp

/-! ### the law -/
theorem both_eq {f s : List Int} {ds : List PD} (hf : Ord f) (hs : Ord s) (hp : s.Perm f) (hl : f.length ≤ 40) (hd : ∀ d ∈ ds, Item d) (hdl : ds.length ≤ 2000) : ∃ r, f_is_route [.sh (.tuple (trD f)), .sh (.tuple (trD s)), .sh (.list ds)] = .ok (.sh (.bool r)) [none, none, none] ∧ f__law_expected [.sh (.tuple (trD f)), .sh (.tuple (trD s)), .sh (.list ds)] = .ok (.sh (.bool r)) [none, none, none] := by
  have e1 := two_trees_ok hf hs hp hl
  have e2 : f_parents_of [.sh (.tuple (trD f))] = .ok (.own (rOb f (sortI f))) [none] := parents_of_eq hf.nd
  have hlt : ¬ ((2000 : Int) < (ds.length : Int)) := by omega
  rcases both_loops (.tuple (trD f)) (.tuple (trD s)) .none (.tuple (trD f)) (.tuple (trD s)) hf hl (sortI_perm f) ds hd f .no .no (.list ds) (.refl _) with ⟨os', x4', y4', ho, g1, g2⟩ | ⟨x3, x4', y3, y4', g1, g2⟩
  · have h1 := hf.perm' ho
    have e3 := tree_of_any h1.nd (E := sortI f) ((sortI_perm f).trans ho.symm) (by rw [ho.length_eq]; omega)
    have e4 := gEq_ap ((rp_tree h1).shaped (by omega)) ((rp_tree hs).shaped (by omega))
    refine ⟨PyData.eqv (.tuple (trD os')) (.tuple (trD s)), ?_, ?_⟩
    · unfold f_is_route b_is_route n_is_route c_MAX_ROUTE
      simp [-eqv_tt, e1, e2, hlt, g1, e3, e4]
    · unfold f__law_expected b__law_expected n__law_expected
      simp [-eqv_tt, g2, e4]
  · refine ⟨false, ?_, ?_⟩
    · unfold f_is_route b_is_route n_is_route c_MAX_ROUTE
      simp [e1, e2, hlt, g1]
    · unfold f__law_expected b__law_expected n__law_expected
      simp [g2]
theorem route_odd {f s : List Int} {d : PD} (hf : Ord f) (hs : Ord s) (hp : s.Perm f) (hl : f.length ≤ 40) (hd : ∀ v, gIsi "list" d = some v → v = .sh (.bool false)) (hd2 : ∃ v, gIsi "list" d = some v) : f_is_route [.sh (.tuple (trD f)), .sh (.tuple (trD s)), .sh d] = .ok (.sh (.bool false)) [none, none, none] := by
  have e1 := two_trees_ok hf hs hp hl
  obtain ⟨v, hv⟩ := hd2
  have := hd v hv
  subst this
  unfold f_is_route b_is_route n_is_route c_MAX_ROUTE
  simp [e1, hv]
theorem route_bad {f s : List Int} {d : PD} {ds : List PD} (hf : Ord f) (hs : Ord s) (hp : s.Perm f) (hl : f.length ≤ 40) (hd : Odd d) (hdl : ds.length ≤ 1000) : f_is_route [.sh (.tuple (trD f)), .sh (.tuple (trD s)), .sh (.list (d :: ds))] = .ok (.sh (.bool false)) [none, none, none] := by
  have e1 := two_trees_ok hf hs hp hl
  have e2 : f_parents_of [.sh (.tuple (trD f))] = .ok (.own (rOb f (sortI f))) [none] := parents_of_eq hf.nd
  have e3 := odd_one_of (c := pdD f (sortI f)) hd
  have hlt : ¬ ((2000 : Int) < (ds.length : Int) + 1) := by omega
  have hlp : forD (tNm 4) L_is_route_1 (d :: ds) [.sh (.tuple (trD f)), .sh (.tuple (trD s)), .sh (.list (d :: ds)), .own none (rOb f (sortI f)), .no] = .rt (.sh (.bool false)) [.sh (.tuple (trD f)), .sh (.tuple (trD s)), .sh (.list (d :: ds)), .sh (pdD f (sortI f)), .sh d] := by
    unfold forD
    simp only [tNm_ap, List.set_cons_succ, List.set_cons_zero]
    unfold L_is_route_1
    simp [e3]
  unfold f_is_route b_is_route n_is_route c_MAX_ROUTE
  simp [e1, e2, hlt, hlp]
theorem route_long {f s : List Int} {ds : List PD} (hf : Ord f) (hs : Ord s) (hp : s.Perm f) (hl : f.length ≤ 40) (hdl : 2000 < ds.length) : f_is_route [.sh (.tuple (trD f)), .sh (.tuple (trD s)), .sh (.list ds)] = .ok (.sh (.bool false)) [none, none, none] := by
  have e1 := two_trees_ok hf hs hp hl
  have hlt : (2000 : Int) < (ds.length : Int) := by omega
  unfold f_is_route b_is_route n_is_route c_MAX_ROUTE
  simp [e1, hlt]
/-! the long lists -/
theorem long_rt : ∀ n : Nat, RtF [1, 2] (List.replicate n [2, 1]).flatten [1, 2]
  | 0 => .nil _
  | n + 1 => by
    have ih := long_rt n
    have h1 : ab ([] ++ (1 : Int) :: 2 :: []) 1 2 = true := by decide
    have h2 : ab ([] ++ (2 : Int) :: 1 :: []) 2 1 = true := by decide
    exact RtF.rot (A := []) (C := []) h1 (RtF.rot (A := []) (C := []) h2 ih)
theorem ord12 : Ord [1, 2] := ⟨by simp, by intro k hk; simp at hk; rcases hk with rfl | rfl <;> decide⟩
theorem ord21 : Ord [2, 1] := ⟨by simp, by intro k hk; simp at hk; rcases hk with rfl | rfl <;> decide⟩
theorem rep_ints (n : Nat) : (List.replicate n [PyData.int 2, .int 1]).flatten = ((List.replicate n [(2 : Int), 1]).flatten).map PyData.int := by
  induction n with
  | zero => rfl
  | succ n ih => rw [List.replicate_succ, List.replicate_succ, List.flatten_cons, List.flatten_cons, ih]; rfl
theorem rep_len (n : Nat) : ((List.replicate n [(2 : Int), 1]).flatten).length = 2 * n := by
  induction n with
  | zero => rfl
  | succ n ih => rw [List.replicate_succ, List.flatten_cons, List.length_append, ih]; simp; omega
theorem tr12 : trD [1, 2] = [.tuple [.int 1, .none], .tuple [.int 2, .int 1]] := by
  have hs : sortI [1, 2] = [1, 2] := (sortI_uniq (ns := [1, 2]) (ms := [1, 2]) (.refl _) (by simp)).symm
  unfold trD
  rw [hs]
  rfl
theorem tr21 : trD [2, 1] = [.tuple [.int 1, .int 2], .tuple [.int 2, .none]] := by
  have hs : sortI [2, 1] = [1, 2] := (sortI_uniq (ns := [2, 1]) (ms := [1, 2]) (List.Perm.swap 2 1 []) (by simp)).symm
  unfold trD
  rw [hs]
  rfl
theorem long_ok : f__law_long_lists_hold [] = .ok (.sh (.bool true)) [] := by
  obtain ⟨L, hL⟩ : ∃ L, (List.replicate 1000 [(2 : Int), 1]).flatten = L := ⟨_, rfl⟩
  have hLl : L.length = 2000 := by rw [← hL, rep_len]
  have e0 := is_route_ok (os := [1, 2]) (ts := L) (s := [1, 2]) (by rw [← hL]; exact long_rt 1000) ord12 (by decide) (by omega)
  have e1 := route_long (f := [1, 2]) (s := [1, 2]) (ds := (L ++ [2, 1]).map PyData.int) ord12 ord12 (.refl _) (by decide) (by simp; omega)
  have e2 := route_long (f := [1, 2]) (s := [2, 1]) (ds := (L ++ [2]).map PyData.int) ord12 ord21 (List.Perm.swap 1 2 []) (by decide) (by simp; omega)
  rw [tr12] at e0 e1 e2
  rw [tr21] at e2
  have hr : (List.replicate (Int.toNat 1000) [PyData.int 2, .int 1]).flatten = L.map PyData.int := by rw [← hL]; exact rep_ints 1000
  have hr2 : (List.replicate 1000 [PyData.int 2, .int 1]).flatten = L.map PyData.int := hr
  have h1 : (1 : Nat) ≤ lim := by decide
  have h2 : (2 : Nat) ≤ lim := by decide
  have h3 : 2 * 1000 ≤ lim := le_lim (by decide)
  have h3' : (2000 : Nat) ≤ lim := le_lim (by decide)
  have h4 : L.length + 2 ≤ lim := le_lim (by omega)
  have h5 : L.length + 1 ≤ lim := le_lim (by omega)
  have hb : big 1000 = true := big_of (by decide) (by decide)
  unfold f__law_long_lists_hold b__law_long_lists_hold n__law_long_lists_hold
  simp only [List.map_append, List.map_cons, List.map_nil] at e1 e2
  have hm : gMul (.list [.int 2, .int 1]) (.int 1000) = some (.own (.lst (L.map PyData.int))) := by
    rw [gMul_l, if_pos (by simp [hb, h3])]
    rw [hr]
  simp [-gMul_l, -List.flatten_replicate_singleton, h1, h2, h3, h3', hb, hm, e0, e1, e2, h4, h5]

/-! ### draws from the box -/
def bx (cells : List Int) (p : Nat) (c s : Int) : Ob := .lst [.list (cells.map PyData.int), .int (p : Int), .int c, .int s]
@[simp] theorem asgAV_bx (i : Nat) (cells : List Int) (p : Nat) (c s : Int) (Γ : Sto) : asgAV i (.own (bx cells p c s)) Γ = some (Γ.set i (.own none (bx cells p c s))) := rfl
@[simp] theorem retA_bx (cells : List Int) (p : Nat) (c s : Int) (Γ : Sto) : retA Γ (.own (bx cells p c s)) = some (.own (bx cells p c s)) := rfl
@[simp] theorem bx_pd (cells : List Int) (p : Nat) (c s : Int) : (bx cells p c s).pd = some (.list [.list (cells.map PyData.int), .int (p : Int), .int c, .int s]) := rfl
theorem bdraw_ex (cells : List Int) (p : Nat) (c s count : Int) (h : 0 < count) (h2 : count < 2 ^ 64) : ∃ (r : Int) (p' : Nat) (c' s' : Int), f__law_draw [.own (some 0) (bx cells p c s), .sh (.int count)] = .ok (.sh (.int r)) [some (bx cells p' c' s'), none] ∧ 0 ≤ r ∧ r < count := by
  have hm1 : ∀ x : Int, okMul x 48271 = true := fun x => okMul_small (by decide)
  have hm2 : ∀ x : Int, okMul x 69621 = true := fun x => okMul_small (by decide)
  have hd : okDiv count = true := okDiv_small h h2
  have i0 : ∀ a b c d : PD, atI [a, b, c, d] 0 = some a := fun _ _ _ _ => rfl
  have i1 : ∀ a b c d : PD, atI [a, b, c, d] 1 = some b := fun _ _ _ _ => rfl
  have i2 : ∀ a b c d : PD, atI [a, b, c, d] 2 = some c := fun _ _ _ _ => rfl
  have i3 : ∀ a b c d : PD, atI [a, b, c, d] 3 = some d := fun _ _ _ _ => rfl
  have hmod : ∀ x : Int, 0 ≤ x % count ∧ x % count < count := fun x => ⟨Int.emod_nonneg _ (by omega), Int.emod_lt_of_pos _ h⟩
  by_cases h1 : c = 0 ∧ p < cells.length
  · obtain ⟨rfl, hp⟩ := h1
    have hat : atI (cells.map PyData.int) (p : Int) = some (.int cells[p]) := atI_n (by omega) (by rw [Int.toNat_natCast, List.getElem?_map, List.getElem?_eq_getElem hp]; rfl)
    obtain ⟨x, hx⟩ : ∃ x, cells[p] = x := ⟨_, rfl⟩
    rw [hx] at hat
    have hp' : (p : Int) < (cells.length : Int) := by omega
    by_cases hb : 1000000000000000000 ≤ x
    · have hx0 : 0 < x := by omega
      refine ⟨x % count, p + 1, x / count, s, ?_, hmod x⟩
      unfold f__law_draw b__law_draw n__law_draw bx
      simp [i0, i1, i2, i3, hat, hp, hb, hx0, ixN, h, hd]
    · refine ⟨((((s * 48271 + x) % 2147483647) * 48271 + 11) % 2147483647 * 69621 % 2147483647) % count, p + 1, 0, (((s * 48271 + x) % 2147483647) * 48271 + 11) % 2147483647, ?_, hmod _⟩
      unfold f__law_draw b__law_draw n__law_draw bx
      simp [i0, i1, i2, i3, hat, hp, hb, ixN, h, hm1, hm2]
  · by_cases hc : 0 < c
    · have hc0 : ¬ c = 0 := by omega
      refine ⟨c % count, p, c / count, s, ?_, hmod c⟩
      unfold f__law_draw b__law_draw n__law_draw bx
      simp [i0, i1, i2, i3, hc, hc0, ixN, h, hd]
    · refine ⟨((s * 48271 + 11) % 2147483647 * 69621 % 2147483647) % count, p, c, (s * 48271 + 11) % 2147483647, ?_, hmod _⟩
      unfold f__law_draw b__law_draw n__law_draw bx
      by_cases hc0 : c = 0
      · have hp : ¬ p < cells.length := fun z => h1 ⟨hc0, z⟩
        subst hc0
        simp [i0, i1, i2, i3, hp, ixN, h, hm1, hm2]
      · simp [i0, i1, i2, i3, hc, hc0, ixN, h, hm1, hm2]
theorem box_ex (ns : List Int) : ∃ cells : List Int, f__law_box [.sh (.list (ns.map PyData.int))] = .ok (.own (bx cells 0 0 7)) [none] := by
  have e := lc_ints (fi := itA (slc (rdv 0) none (some (cst (.int 63))))) (t := tNm 1) (c := yes) (e := shr (op1 (rdv 1) gAbs)) (vs := [1]) (Γ := [.sh (.list (ns.map PyData.int)), .no]) (Γ1 := [.sh (.list (ns.map PyData.int)), .no]) (ns.take 63) (fun _ => true) (fun x => .int (if x < 0 then -x else x))
    (by
      have hc : cutD (ns.map PyData.int) none (some 63) = (ns.take 63).map PyData.int := by
        have := cut_take (ns.map PyData.int) 63
        rw [← List.map_take] at this
        exact this
      simp [-List.map_take, hc]) rfl (le_lim (by rw [List.length_take]; omega)) (fun x _ => ⟨[.sh (.list (ns.map PyData.int)), .sh (.int x)], rfl, rfl, fun _ => by simp, rfl⟩)
  rw [List.filter_eq_self.mpr fun _ _ => rfl] at e
  refine ⟨(ns.take 63).map fun x => if x < 0 then -x else x, ?_⟩
  have h4 : (4 : Nat) ≤ lim := by decide
  unfold f__law_box b__law_box n__law_box bx
  simp [-List.map_take, e, h4]

/-! ### keys and shuffles of the box -/
theorem keys_first {ks : List Int} (h : ks.Pairwise (· < ·)) (hb : ∀ k ∈ ks, -1000000000000000000 < k ∧ k < 1000000000000000000) (hne : ks ≠ []) : (ks.set 0 (-1000000000000000000)).Pairwise (· < ·) ∧ (∀ k ∈ ks.set 0 (-1000000000000000000), -1000000000000000000 ≤ k ∧ k < 1000000000000000000) := by
  cases ks with
  | nil => exact absurd rfl hne
  | cons x t =>
    obtain ⟨h1, h2⟩ := List.pairwise_cons.mp h
    rw [List.set_cons_zero]
    refine ⟨List.pairwise_cons.mpr ⟨fun y hy => (hb y (List.mem_cons_of_mem _ hy)).1, h2⟩, fun k hk => ?_⟩
    rcases List.mem_cons.mp hk with rfl | hk
    · decide
    · have := hb k (List.mem_cons_of_mem _ hk)
      omega
theorem keys_last {ks : List Int} (h : ks.Pairwise (· < ·)) (hb : ∀ k ∈ ks, -1000000000000000000 ≤ k ∧ k < 1000000000000000000) (hne : ks ≠ []) : Keys (ks.set (ks.length - 1) 1000000000000000000) := by
  refine ⟨?_, fun k hk => ?_⟩
  · have hd : ks = ks.dropLast ++ [ks.getLast hne] := (List.dropLast_concat_getLast hne).symm
    have hs' : ks.set (ks.length - 1) 1000000000000000000 = ks.dropLast ++ [1000000000000000000] := by
      conv => lhs; rw [hd]
      rw [List.length_append, List.length_singleton, Nat.add_sub_cancel, List.set_append_right _ _ (Nat.le_refl _), Nat.sub_self]
      rfl
    rw [hs', List.pairwise_append]
    rw [hd, List.pairwise_append] at h
    exact ⟨h.1, by simp, fun x hx y hy => by
      rw [List.mem_singleton] at hy; subst hy
      exact (hb x (by rw [hd]; exact List.mem_append_left _ hx)).2⟩
  · rcases List.mem_or_eq_of_mem_set hk with hk | rfl
    · have := hb k hk; omega
    · omega
theorem bkeys_ex (cells : List Int) (p : Nat) (c s least most : Int) (h0 : 0 ≤ least) (h1 : least ≤ most) (h2 : most ≤ 60) : ∃ (ks : List Int) (p' : Nat) (c' s' : Int), f__law_keys [.own (some 0) (bx cells p c s), .sh (.int least), .sh (.int most)] = .ok (.own (.lst (ks.map PyData.int))) [some (bx cells p' c' s'), none, none] ∧ Keys ks ∧ least ≤ (ks.length : Int) ∧ (ks.length : Int) ≤ most := by
  obtain ⟨r1, p1, c1, s1, e1, l1, u1⟩ := bdraw_ex cells p c s 5 (by decide) (by decide)
  obtain ⟨r2, p2, c2, s2, e2, l2, u2⟩ := bdraw_ex cells p1 c1 s1 60 (by decide) (by decide)
  obtain ⟨st, hs, hst⟩ : ∃ st, atI [PyData.int 1, .int 1, .int 2, .int 9, .int 1000000000000000] r1 = some (.int st) ∧ (st = 1 ∨ st = 2 ∨ st = 9 ∨ st = 1000000000000000) := by
    have : r1 = 0 ∨ r1 = 1 ∨ r1 = 2 ∨ r1 = 3 ∨ r1 = 4 := by omega
    rcases this with rfl | rfl | rfl | rfl | rfl <;> exact ⟨_, rfl, by decide⟩
  obtain ⟨r3, p3, c3, s3, e3, l3, u3⟩ := bdraw_ex cells p2 c2 s2 (most - least + 1) (by omega) (by omega)
  have hl5 : (5 : Nat) ≤ lim := by decide
  have hl4 : (4 : Nat) ≤ lim := by decide
  have hbig : big (least + r3) = true := big_of (by omega) (by omega)
  have hmul : ∀ x : Int, okMul x st = true := fun x => okMul_small (by rcases hst with rfl | rfl | rfl | rfl <;> decide)
  obtain ⟨Γ', eL, cur, p4, c4, s4, cs, x6, rfl, hlen, hasc, hbd, hcur⟩ := forD_inv (t := tNm 6) (b := (sq (asg 4 (op2 (op2 (rdv 4) (cst (.int 1)) gAdd) (op2 (dspL (argS (cst (.int 0)) (argS (cst (.int 0)) (argS (cst (.int 1)) (argS (cst (.int 2)) args0))))) (callD f__law_draw (argO 0 (argS (cst (.int 4)) args0))) gIx) gAdd))
    (drp (mut1 5 (op2 (rdv 4) (rdv 3) gMul) gApp)))) (rangeD 0 (least + r3).toNat)
    (fun i Γ => ∃ cur p c s cs x6, Γ = [.own (some 0) (bx cells p c s), .sh (.int least), .sh (.int most), .sh (.int st), .sh (.int cur), .own none (.lst ((cs.map fun y => y * st).map PyData.int)), x6] ∧ cs.length = i ∧ cs.Pairwise (· < ·) ∧ (∀ k ∈ cs, -40 < k ∧ k ≤ cur) ∧ -40 ≤ cur ∧ cur ≤ 20 + 3 * (i : Int))
    (by
      rintro i d Γ hd ⟨cur, p, c, s, cs, x6, rfl, hlen, hasc, hbd, hk1, hk2⟩
      obtain ⟨hi, rfl⟩ := rangeD_get hd
      obtain ⟨r, p', c', s', e, l, u⟩ := bdraw_ex cells p c s 4 (by decide) (by decide)
      obtain ⟨w, hw, w1, w2⟩ : ∃ w, atI [PyData.int 0, .int 0, .int 1, .int 2] r = some (.int w) ∧ 0 ≤ w ∧ w ≤ 2 := by
        have : r = 0 ∨ r = 1 ∨ r = 2 ∨ r = 3 := by omega
        rcases this with rfl | rfl | rfl | rfl <;> exact ⟨_, rfl, by decide, by decide⟩
      have hll : cs.length < lim := lt_lim (by omega)
      refine ⟨_, [.own (some 0) (bx cells p' c' s'), .sh (.int least), .sh (.int most), .sh (.int st), .sh (.int (cur + 1 + w)), .own none (.lst (((cs ++ [cur + 1 + w]).map fun y => y * st).map PyData.int)), .sh (.int (0 + (i : Int)))], rfl, .inl ?_, cur + 1 + w, p', c', s', cs ++ [cur + 1 + w], _, rfl, by simp [hlen], ?_, fun k hk => ?_, by omega, by omega⟩
      · simp [hl4, e, hw, hmul, hll]
      · rw [List.pairwise_append]
        exact ⟨hasc, by simp, fun x hx y hy => by rw [List.mem_singleton] at hy; subst hy; have := hbd x hx; omega⟩
      · rcases List.mem_append.mp hk with hk | hk
        · have := hbd k hk; omega
        · rw [List.mem_singleton] at hk; subst hk; omega)
    (Γ := [.own (some 0) (bx cells p3 c3 s3), .sh (.int least), .sh (.int most), .sh (.int st), .sh (.int (r2 - 40)), .own none (.lst []), .no]) ⟨r2 - 40, p3, c3, s3, [], .no, rfl, rfl, List.Pairwise.nil, by simp, by omega, by omega⟩
  rw [rangeD_len] at hlen hcur
  obtain ⟨ks, hks⟩ : ∃ ks, (cs.map fun y => y * st) = ks := ⟨_, rfl⟩
  rw [hks] at eL
  have hkl : ks.length = cs.length := by rw [← hks, List.length_map]
  have hkasc : ks.Pairwise (· < ·) := by
    rw [← hks, List.pairwise_map]
    refine hasc.imp fun {a b} hab => ?_
    rcases hst with rfl | rfl | rfl | rfl <;> omega
  have hkbd : ∀ k ∈ ks, -1000000000000000000 < k ∧ k < 1000000000000000000 := fun k hk => by
    rw [← hks] at hk
    obtain ⟨a, ha, rfl⟩ := List.mem_map.mp hk
    have := hbd a ha
    rcases hst with rfl | rfl | rfl | rfl <;> omega
  obtain ⟨r4, p5, c5, s5, e4, l4, u4⟩ := bdraw_ex cells p4 c4 s4 8 (by decide) (by decide)
  obtain ⟨r5, p6, c6, s6, e5, l5, u5⟩ := bdraw_ex cells p5 c5 s5 8 (by decide) (by decide)
  by_cases hne : ks = []
  · refine ⟨[], p4, c4, s4, ?_, ⟨.nil, by simp⟩, by rw [hne] at hkl; simp at hkl ⊢; omega, by simp; omega⟩
    subst hne
    simp at eL
    unfold f__law_keys b__law_keys n__law_keys
    simp [e1, e2, e3, hs, hl5, hbig, eL]
  · have hpos : 0 < ks.length := List.length_pos_iff.mpr hne
    -- after the first key is set
    obtain ⟨ks2, hl2, hasc2, hbd2, hset⟩ : ∃ ks2 : List Int, ks2.length = ks.length ∧ ks2.Pairwise (· < ·) ∧ (∀ k ∈ ks2, -1000000000000000000 ≤ k ∧ k < 1000000000000000000) ∧ ks2 = if r4 = 0 then ks.set 0 (-1000000000000000000) else ks := by
      by_cases h4 : r4 = 0
      · obtain ⟨g1, g2⟩ := keys_first hkasc hkbd hne
        exact ⟨_, by rw [List.length_set], g1, g2, by rw [if_pos h4]⟩
      · exact ⟨ks, rfl, hkasc, fun k hk => by have := hkbd k hk; omega, by rw [if_neg h4]⟩
    have hne2 : ks2 ≠ [] := fun z => by rw [z] at hl2; simp at hl2; omega
    have hix0 : ixN ks.length 0 = some 0 := by unfold ixN; rw [if_pos (by omega), if_pos (by omega)]; rfl
    have hix1 : ixN ks.length (-1) = some (ks.length - 1) := ixN_last hpos
    have hlen2 : ((ks2.length : Int)) = (ks.length : Int) := by omega
    by_cases hc : 1 < ks.length ∧ r5 = 0
    · obtain ⟨hc1, hc2⟩ := hc
      refine ⟨ks2.set (ks2.length - 1) 1000000000000000000, p6, c6, s6, ?_, keys_last hasc2 hbd2 hne2, by rw [List.length_set]; omega, by rw [List.length_set]; omega⟩
      have hc1' : (1 : Int) < (ks.length : Int) := by omega
      unfold f__law_keys b__law_keys n__law_keys
      by_cases h4 : r4 = 0
      · rw [if_pos h4] at hset
        subst hset
        simp (config := { maxSteps := 1000000 }) [e1, e2, e3, hs, hl5, hbig, eL, e4, e5, hne, h4, hix0, hc1, hc1', hc2, hix1]
      · rw [if_neg h4] at hset
        subst hset
        simp (config := { maxSteps := 1000000 }) [e1, e2, e3, hs, hl5, hbig, eL, e4, e5, hne, h4, hix0, hc1, hc1', hc2, hix1]
    · refine ⟨ks2, if 1 < ks.length then p6 else p5, if 1 < ks.length then c6 else c5, if 1 < ks.length then s6 else s5, ?_, ⟨hasc2, fun k hk => by have := hbd2 k hk; omega⟩, by omega, by omega⟩
      unfold f__law_keys b__law_keys n__law_keys
      by_cases hc1 : 1 < ks.length
      · have hc2 : ¬ r5 = 0 := fun z => hc ⟨hc1, z⟩
        have hc1' : (1 : Int) < (ks.length : Int) := by omega
        by_cases h4 : r4 = 0
        · rw [if_pos h4] at hset
          subst hset
          simp (config := { maxSteps := 1000000 }) [e1, e2, e3, hs, hl5, hbig, eL, e4, e5, hne, h4, hix0, hc1, hc1', hc2]
        · rw [if_neg h4] at hset
          subst hset
          simp (config := { maxSteps := 1000000 }) [e1, e2, e3, hs, hl5, hbig, eL, e4, e5, hne, h4, hix0, hc1, hc1', hc2]
      · have hc1' : ¬ (1 : Int) < (ks.length : Int) := by omega
        by_cases h4 : r4 = 0
        · rw [if_pos h4] at hset
          subst hset
          simp (config := { maxSteps := 1000000 }) [e1, e2, e3, hs, hl5, hbig, eL, e4, hne, h4, hix0, hc1, hc1']
        · rw [if_neg h4] at hset
          subst hset
          simp (config := { maxSteps := 1000000 }) [e1, e2, e3, hs, hl5, hbig, eL, e4, hne, h4, hix0, hc1, hc1']

theorem bshuffle_step (cells ns left found : List Int) (p : Nat) (c s : Int) (hz : left ≠ []) (hl : left.length < 10001) (hf : found.length < 10001) : ∃ (j : Nat) (h : j < left.length) (p' : Nat) (c' s' : Int),
    L__law_shuffled_1 [.own (some 0) (bx cells p c s), .sh (.list (ns.map PyData.int)), .own none (.lst (left.map PyData.int)), .own none (.lst (found.map PyData.int))] =
      .nx [.own (some 0) (bx cells p' c' s'), .sh (.list (ns.map PyData.int)), .own none (.lst ((left.eraseIdx j).map PyData.int)), .own none (.lst ((found ++ [left[j]]).map PyData.int))] := by
  have hpos : 0 < left.length := List.length_pos_iff.mpr hz
  obtain ⟨r, p', c', s', e, l, u⟩ := bdraw_ex cells p c s (left.length : Int) (by omega) (by omega)
  obtain ⟨j, rfl⟩ : ∃ j : Nat, r = (j : Int) := ⟨r.toNat, by omega⟩
  have hj : j < left.length := by omega
  have hb : big (j : Int) = true := big_of (by omega) (by omega)
  have hix : ixN left.length (j : Int) = some j := by
    unfold ixN
    rw [if_pos (by omega), if_pos (by omega), Int.toNat_natCast]
  have hfl : found.length < lim := lt_lim (by omega)
  have her : (left.map PyData.int).eraseIdx j = (left.eraseIdx j).map PyData.int := erase_map _ _ _
  have hg : gPopAt (.lst (left.map PyData.int)) (.int (j : Int)) = some (.int left[j], .lst ((left.eraseIdx j).map PyData.int)) := by
    unfold gPopAt
    simp only [hb, if_true, List.length_map, hix, List.getElem?_map, List.getElem?_eq_getElem hj, Option.map_some, her]
  refine ⟨j, hj, p', c', s', ?_⟩
  unfold L__law_shuffled_1
  simp [e, hg, hfl]
theorem bshuffle_ex (cells : List Int) (p : Nat) (c s : Int) (ns : List Int) (hl : ns.length ≤ 10000) : ∃ (os : List Int) (p' : Nat) (c' s' : Int), f__law_shuffled [.own (some 0) (bx cells p c s), .sh (.list (ns.map PyData.int))] = .ok (.own (.lst (os.map PyData.int))) [some (bx cells p' c' s'), none] ∧ os.Perm ns := by
  obtain ⟨Γ', eW, os, p', c', s', rfl, hp⟩ := whl_inv (c := tst (op2 (rdv 2) (dspL args0) (gB gNe))) (b := L__law_shuffled_1)
    (fun m Γ => ∃ (left found : List Int) (p : Nat) (c s : Int), Γ = [.own (some 0) (bx cells p c s), .sh (.list (ns.map PyData.int)), .own none (.lst (left.map PyData.int)), .own none (.lst (found.map PyData.int))] ∧ left.length = m ∧ (found ++ left).Perm ns)
    (fun Γ => ∃ (os : List Int) (p : Nat) (c s : Int), Γ = [.own (some 0) (bx cells p c s), .sh (.list (ns.map PyData.int)), .own none (.lst []), .own none (.lst (os.map PyData.int))] ∧ os.Perm ns)
    (by
      rintro m Γ ⟨left, found, p, c, s, rfl, hm, hp⟩
      have hl0 : (0 : Nat) ≤ lim := Nat.zero_le _
      by_cases hz : left = []
      · subst hz
        refine .inl ⟨[.own (some 0) (bx cells p c s), .sh (.list (ns.map PyData.int)), .own none (.lst []), .own none (.lst (found.map PyData.int))], ?_, found, p, c, s, rfl, by simpa using hp⟩
        simp [hl0]
      · have hlen := hp.length_eq
        rw [List.length_append] at hlen
        obtain ⟨j, hj, p', c', s', e⟩ := bshuffle_step cells ns left found p c s hz (by omega) (by omega)
        refine .inr ⟨[.own (some 0) (bx cells p c s), .sh (.list (ns.map PyData.int)), .own none (.lst (left.map PyData.int)), .own none (.lst (found.map PyData.int))], _, m - 1, ?_, .inl e, by omega, left.eraseIdx j, found ++ [left[j]], p', c', s', rfl, ?_, ?_⟩
        · simp [hl0, hz]
        · rw [List.length_eraseIdx, if_pos hj]; omega
        · refine List.Perm.trans ?_ hp
          rw [List.append_assoc]
          exact List.Perm.append_left _ (perm_erase left j hj))
    (m := ns.length) (Γ := [.own (some 0) (bx cells p c s), .sh (.list (ns.map PyData.int)), .own none (.lst (ns.map PyData.int)), .own none (.lst [])]) ⟨ns, [], p, c, s, rfl, rfl, by simp⟩
  refine ⟨os, p', c', s', ?_, hp⟩
  have hl0 : (0 : Nat) ≤ lim := Nat.zero_le _
  unfold f__law_shuffled b__law_shuffled n__law_shuffled
  simp [hl0, eW]

/-! ### the random list -/
theorem last61 (l : List Int) (m : Int) : atI ((l ++ [m]).map PyData.int) (-1) = some (.int m) := by
  unfold L2.atI
  rw [List.length_map, List.length_append, List.length_singleton, ixN_last (by omega)]
  simp
abbrev st61 (cells : List Int) (p : Nat) (c sd : Int) (f s os ts : List Int) (x8 x9 : Sl) : Sto := [.own (some 0) (bx cells p c sd), .sh (.tuple (trD f)), .sh (.tuple (trD s)), .own none (.lst (ts.map PyData.int)), .no, .no, .no, .sh (.tuple (trD os)), x8, x9, .no, .no]
theorem rl_step (cells : List Int) (p : Nat) (c sd : Int) (f s os ts : List Int) (x8 x9 : Sl) (ho : Ord os) (hl : os.length ≤ 40) (htl : ts.length < 90000) : ∃ (os' ts' : List Int) (p' : Nat) (c' sd' : Int) (x9' : Sl),
    L__law_random_list_1 (st61 cells p c sd f s os ts x8 x9) = .nx (st61 cells p' c' sd' f s os' ts' x8 x9') ∧ os'.Perm os ∧ ts'.length ≤ ts.length + 1 ∧ ∀ k ∈ ts', k ∈ ts ∨ k ∈ os := by
  have k1 := law_children_ok (os := os) (by omega)
  have hl0 : (0 : Nat) ≤ lim := Nat.zero_le _
  by_cases hz : kidsL os = []
  · refine ⟨os, ts, p, c, sd, .own none (.lst []), ?_, .refl _, by omega, fun _ h => .inl h⟩
    unfold st61 L__law_random_list_1
    simp [k1, hz, hl0]
  · have hpos : 0 < (kidsL os).length := List.length_pos_iff.mpr hz
    have hkl : (kidsL os).length ≤ os.length := by
      unfold kidsL
      exact Nat.le_trans (List.length_filter_le _ _) (by rw [(sortI_perm os).length_eq]; exact Nat.le_refl _)
    obtain ⟨r, p1, c1, s1, d1, r1, r2⟩ := bdraw_ex cells p c sd ((kidsL os).length : Int) (by omega) (by omega)
    have hr : r.toNat < (kidsL os).length := by omega
    have hat : atI ((kidsL os).map PyData.int) r = some (.int (kidsL os)[r.toNat]) := atI_n r1 (by rw [List.getElem?_map, List.getElem?_eq_getElem hr]; rfl)
    obtain ⟨hm1, hm2⟩ := mem_kids.mp (List.getElem_mem hr)
    generalize (kidsL os)[r.toNat] = k at *
    cases hq : par os k with
    | none => exact absurd hq hm2
    | some a =>
      obtain ⟨os', g1, g2, _⟩ := rotated_any ho hl hm1 hq
      have htl' : ts.length < lim := lt_lim (by omega)
      have hla := last61 ts k
      simp only [List.map_append, List.map_cons, List.map_nil] at hla
      refine ⟨os', ts ++ [k], p1, c1, s1, .own none (.lst ((kidsL os).map PyData.int)), ?_, g2, by simp, fun k' hk' => by
        rcases List.mem_append.mp hk' with h | h
        · exact .inl h
        · simp at h; subst h; exact .inr hm1⟩
      unfold st61 L__law_random_list_1
      simp [k1, hz, hl0, d1, hat, htl', hla, g1]

/-! ### what a random list may hold -/
def Good (d : PD) : Prop := Item d ∧ Rp d 30 1
theorem good_key {k : Int} (h : -1000000000000000000 ≤ k ∧ k ≤ 1000000000000000000) : Good (.int k) := ⟨.inl ⟨k, rfl⟩, (rp_key h).mono (by decide) (by decide)⟩
theorem good_int {i : Int} (h : i.natAbs < 10 ^ 20) : Good (.int i) := ⟨.inl ⟨i, rfl⟩, (Rp.int0 (k := 20) (by decide) (by decide) h).mono (by decide) (by decide)⟩
theorem rp_one : Rp (.int 1) 2 0 := Rp.int0 (k := 1) (by decide) (by decide) (by decide)
theorem good_l1 : Good (.list [.int 1]) := ⟨.inr (.list _), (Rp.list (n := 2) (k := 0) (ds := [.int 1]) (fun d hd => by simp at hd; subst hd; exact rp_one)).mono (by decide) (by decide)⟩
theorem good_t1 : Good (.tuple [.int 1]) := ⟨.inr (.tup _), (Rp.tuple (n := 2) (k := 0) (ds := [.int 1]) (fun d hd => by simp at hd; subst hd; exact rp_one)).mono (by decide) (by decide)⟩
theorem good_none : Good .none := ⟨.inr .none, Rp.none.mono (by decide) (by decide)⟩
theorem good_true : Good (.bool true) := ⟨.inr (.bool _), (Rp.bool true).mono (by decide) (by decide)⟩
theorem rp_s1 : Rp (.str "1") 3 0 := ⟨by decide +kernel, by decide +kernel, by decide +kernel, by simp [PyData.depth]⟩
theorem good_s1 : Good (.str "1") := ⟨.inr (.str _), rp_s1.mono (by decide) (by decide)⟩
noncomputable def oddE : Ev := (op2 (dspL (argS (cst .none) (argS (cst (.bool true)) (argS (cst (.str "1")) (argS (op2 (cst (.int 10)) (cst (.int 19)) gPow) (argS (dspL (argS (cst (.int 1)) args0)) (argS (dspT (argS (cst (.int 1)) args0)) args0))))))) (lc (itA (rdv 1)) [10, 11] (tTup [10, 11]) yes (shr (rdv 10))) gAdd)
noncomputable def tl61 : Sd := (sq (asg 4 (callD f__law_draw (argO 0 (argS (op2 (op1 (rdv 3) gLen) (cst (.int 1)) gAdd) args0))))
    (sq (asg 5 oddE)
    (sq (asg 6 (callD f__law_draw (argO 0 (argS (cst (.int 5)) args0))))
    (sq (iff (tst (op2 (rdv 6) (cst (.int 0)) (gB gEq))) (asg 3 (op2 (slc (rdv 3) none (some (rdv 4))) (slc (rdv 3) (some (op2 (rdv 4) (cst (.int 1)) gAdd)) none) gAdd)) sk)
    (sq (iff (tst (op2 (rdv 6) (cst (.int 1)) (gB gEq))) (asg 3 (op2 (op2 (slc (rdv 3) none (some (rdv 4))) (dspL (argS (op2 (rdv 5) (callD f__law_draw (argO 0 (argS (op1 (rdv 5) gLen) args0))) gIx) args0)) gAdd) (slc (rdv 3) (some (rdv 4)) none) gAdd)) sk)
    (sq (iff (bAnd (tst (op2 (rdv 6) (cst (.int 2)) (gB gEq))) (tst (op2 (op1 (rdv 3) gLen) (rdv 4) (gB gGt)))) (stI 3 (rdv 4) (op2 (rdv 5) (callD f__law_draw (argO 0 (argS (op1 (rdv 5) gLen) args0))) gIx)) sk)
    (ret (dspT (argS (rdv 2) (argS (rdv 3) args0))))))))))
noncomputable def hd61 : Sd := (iff (tst (op2 (callD f__law_draw (argO 0 (argS (cst (.int 2)) args0))) (cst (.int 0)) (gB gEq))) (sq (asg 3 (dspL args0))
    (sq (asg 7 (rdv 1))
    (sq (for_ (itR1 (callD f__law_draw (argO 0 (argS (cst (.int 9)) args0)))) (tNm 8) L__law_random_list_1)
    (asg 2 (vIf (tst (op2 (callD f__law_draw (argO 0 (argS (cst (.int 2)) args0))) (cst (.int 0)) (gB gEq))) (rdv 7) (rdv 2)))))) sk)
theorem b_rl : b__law_random_list = sq (asg 3 (callD f_route (argS (rdv 1) (argS (rdv 2) args0)))) (sq hd61 tl61) := rfl
theorem odd61 {f s os : List Int} (hf : Ord f) (hl : f.length ≤ 40) (cells : List Int) (p : Nat) (c sd : Int) (ts : List Int) (x4 x7 x8 x9 : Sl) : ∃ O : List PD, oddE [.own (some 0) (bx cells p c sd), .sh (.tuple (trD f)), .sh (.tuple (trD s)), .own none (.lst (ts.map PyData.int)), x4, .no, .no, x7, x8, x9, .no, .no] = .ok (.own (.lst O)) [.own (some 0) (bx cells p c sd), .sh (.tuple (trD f)), .sh (.tuple (trD s)), .own none (.lst (ts.map PyData.int)), x4, .no, .no, x7, x8, x9, .no, .no] ∧ (∀ d ∈ O, Good d) ∧ 0 < O.length ∧ O.length ≤ 100 := by
  have e := lc_map (fi := itA (rdv 1)) (t := tTup [10, 11]) (c := yes) (e := shr (rdv 10)) (vs := [10, 11]) (Γ := [.own (some 0) (bx cells p c sd), .sh (.tuple (trD f)), .sh (.tuple (trD s)), .own none (.lst (ts.map PyData.int)), x4, .no, .no, x7, x8, x9, .no, .no]) (Γ1 := [.own (some 0) (bx cells p c sd), .sh (.tuple (trD f)), .sh (.tuple (trD s)), .own none (.lst (ts.map PyData.int)), x4, .no, .no, x7, x8, x9, .no, .no]) (sortI f) (fun k => PyData.tuple [.int k, optD (par f k)]) (fun k => true) PyData.int
    (by simp; rfl) rfl (le_lim (by rw [(sortI_perm f).length_eq]; omega)) (fun k hk => ⟨[.own (some 0) (bx cells p c sd), .sh (.tuple (trD f)), .sh (.tuple (trD s)), .own none (.lst (ts.map PyData.int)), x4, .no, .no, x7, x8, x9, .sh (.int k), .sh (optD (par f k))], rfl, rfl, fun _ => by simp, rfl⟩)
  have hlen : ((sortI f).map PyData.int).length ≤ 40 := by rw [List.length_map, (sortI_perm f).length_eq]; exact hl
  rw [show (sortI f).filter (fun k => true) = sortI f from List.filter_eq_self.mpr (fun _ _ => rfl)] at e
  have hlm : 6 + ((sortI f).map PyData.int).length ≤ lim := le_lim (by omega)
  have hg : ∀ d ∈ (sortI f).map PyData.int, Good d := fun d hd => by
    obtain ⟨k, hk, rfl⟩ := List.mem_map.mp hd
    exact good_key (hf.bd k ((sortI_perm f).mem_iff.mp hk))
  generalize (sortI f).map PyData.int = K at *
  have h6 : (6 : Nat) ≤ lim := le_lim (by decide)
  have h1 : (1 : Nat) ≤ lim := le_lim (by decide)
  have hlm' : K.length + 6 ≤ lim := by omega
  have hlm2 : 6 + K.length ≤ lim := hlm
  refine ⟨[.none, .bool true, .str "1", .int (10 ^ 19), .list [.int 1], .tuple [.int 1]] ++ K, ?_, ?_, by simp, by simp; omega⟩
  · unfold oddE
    simp [e, h6, h1, hlm', hlm2]
  · intro d hd
    rcases List.mem_append.mp hd with h | h
    · simp only [List.mem_cons, List.not_mem_nil, or_false] at h
      rcases h with rfl | rfl | rfl | rfl | rfl | rfl
      · exact good_none
      · exact good_true
      · exact good_s1
      · exact good_int (by decide)
      · exact good_l1
      · exact good_t1
    · exact hg d h

theorem cut_drop (ds : List PD) (i : Nat) : cutD ds (some (i : Int)) none = ds.drop i := by
  unfold cutD
  rw [HT.sIx_none, HT.sIx_nat]
  rw [List.take_of_length_le (by rw [List.length_drop]; omega)]
  by_cases h : i ≤ ds.length
  · rw [Nat.min_eq_left h]
  · rw [Nat.min_eq_right (by omega), List.drop_length, List.drop_of_length_le (by omega)]
@[simp] theorem cut_drop_ints (ns : List Int) (i : Nat) : cutD (ns.map PyData.int) (some (i : Int)) none = (ns.drop i).map PyData.int := by rw [cut_drop, List.map_drop]

theorem cut_drop61 (ds : List PD) (i : Nat) : cutD ds (some (i : Int)) none = ds.drop i := by
  have := cut_drop ds i
  exact this
theorem tail61 {f s os : List Int} (hf : Ord f) (hl : f.length ≤ 40) (cells : List Int) (p : Nat) (c sd : Int) (ts : List Int) (x7 x8 x9 : Sl) (htl : ts.length ≤ 1700) (hg : ∀ d ∈ ts.map PyData.int, Good d) : ∃ (ds : List PD) (p' : Nat) (c' sd' : Int) (y4 y5 y6 : Sl), tl61 [.own (some 0) (bx cells p c sd), .sh (.tuple (trD f)), .sh (.tuple (trD s)), .own none (.lst (ts.map PyData.int)), .no, .no, .no, x7, x8, x9, .no, .no] = .rt (.own (.tup [.tuple (trD s), .list ds])) [.own (some 0) (bx cells p' c' sd'), .sh (.tuple (trD f)), .sh (.tuple (trD s)), .sh (.list ds), y4, y5, y6, x7, x8, x9, .no, .no] ∧ (∀ d ∈ ds, Good d) ∧ ds.length ≤ 1710 := by
  obtain ⟨r, p1, c1, s1, d1, r1, r2⟩ := bdraw_ex cells p c sd ((ts.length : Int) + 1) (by omega) (by omega)
  obtain ⟨a, rfl⟩ : ∃ a : Nat, r = (a : Int) := ⟨r.toNat, by omega⟩
  obtain ⟨O, eO, gO, o1, o2⟩ := odd61 (s := s) (os := os) hf hl cells p1 c1 s1 ts (.sh (.int (a : Int))) x7 x8 x9
  obtain ⟨w, p2, c2, s2, d2, w1, w2⟩ := bdraw_ex cells p1 c1 s1 5 (by decide) (by decide)
  obtain ⟨q, p3, c3, s3, d3, q1, q2⟩ := bdraw_ex cells p2 c2 s2 (O.length : Int) (by omega) (by omega)
  have hq : q.toNat < O.length := by omega
  have hat : atI O q = some O[q.toNat] := atI_n q1 (List.getElem?_eq_getElem hq)
  have hgo : Good O[q.toNat] := gO _ (List.getElem_mem hq)
  generalize O[q.toNat] = o at *
  have hlT : (ts.map PyData.int).length ≤ 1700 := by rw [List.length_map]; exact htl
  have hlE : (ts.map PyData.int).length = ts.length := List.length_map _
  have hd1 : cutD (ts.map PyData.int) none (some (a : Int)) = (ts.map PyData.int).take a := cut_take _ a
  have hd2 : cutD (ts.map PyData.int) (some (a : Int)) none = (ts.map PyData.int).drop a := cut_drop61 _ a
  have hd3 : cutD (ts.map PyData.int) (some ((a : Int) + 1)) none = (ts.map PyData.int).drop (a + 1) := cut_drop61 _ (a + 1)
  rw [← hlE] at d1
  rw [← hlE] at r2
  clear hlE
  generalize ts.map PyData.int = T at *
  have hba : big (a : Int) = true := big_of (by omega) (by omega)
  have t1 : ((T.take a).length + (T.drop (a + 1)).length) ≤ lim := le_lim (by rw [List.length_take, List.length_drop]; omega)
  have t2 : ((T.take a).length + 1) ≤ lim := le_lim (by rw [List.length_take]; omega)
  have t3 : ((T.take a ++ [o]).length + (T.drop a).length) ≤ lim := le_lim (by rw [List.length_append, List.length_take, List.length_drop]; simp; omega)
  have h1 : (1 : Nat) ≤ lim := le_lim (by decide)
  have h2l : (2 : Nat) ≤ lim := le_lim (by decide)
  have g1 : ∀ d ∈ T.take a, Good d := fun d hd => hg d (List.mem_of_mem_take hd)
  have g2 : ∀ n, ∀ d ∈ T.drop n, Good d := fun n d hd => hg d (List.mem_of_mem_drop hd)
  have hw : w = 0 ∨ w = 1 ∨ w = 2 ∨ (w ≠ 0 ∧ w ≠ 1 ∧ w ≠ 2) := by omega
  rcases hw with rfl | rfl | rfl | ⟨n0, n1, n2⟩
  · refine ⟨T.take a ++ T.drop (a + 1), p2, c2, s2, .sh (.int a), .own none (.lst O), .sh (.int 0), ?_, ?_, ?_⟩
    · unfold tl61
      simp [-List.length_take, -List.length_drop, h2l, d1, eO, d2, hd1, hd3, t1]
    · intro d hd
      rcases List.mem_append.mp hd with h | h
      · exact g1 d h
      · exact g2 _ d h
    · rw [List.length_append, List.length_take, List.length_drop]; omega
  · refine ⟨T.take a ++ [o] ++ T.drop a, p3, c3, s3, .sh (.int a), .own none (.lst O), .sh (.int 1), ?_, ?_, ?_⟩
    · unfold tl61
      simp only [List.length_append, List.length_singleton] at t3
      simp [-List.length_take, -List.length_drop, h2l, d1, eO, d2, d3, hd1, hd2, t2, t3, hat, h1]
    · intro d hd
      rcases List.mem_append.mp hd with h | h
      · rcases List.mem_append.mp h with h | h
        · exact g1 d h
        · simp at h; subst h; exact hgo
      · exact g2 _ d h
    · rw [List.length_append, List.length_append, List.length_take, List.length_drop]; simp; omega
  · by_cases hlt : a < T.length
    · have hix : ixN T.length (a : Int) = some a := by
        unfold ixN
        rw [if_pos (by omega), if_pos (by omega), Int.toNat_natCast]
      refine ⟨T.set a o, p3, c3, s3, .sh (.int a), .own none (.lst O), .sh (.int 2), ?_, ?_, ?_⟩
      · unfold tl61
        simp [h2l, d1, eO, d2, d3, hat, hlt, hix, hba]
      · intro d hd
        rcases List.mem_or_eq_of_mem_set hd with h | rfl
        · exact hg d h
        · exact hgo
      · rw [List.length_set]; omega
    · refine ⟨T, p2, c2, s2, .sh (.int a), .own none (.lst O), .sh (.int 2), ?_, hg, by omega⟩
      unfold tl61
      simp [h2l, d1, eO, d2, hlt]
  · refine ⟨T, p2, c2, s2, .sh (.int a), .own none (.lst O), .sh (.int w), ?_, hg, by omega⟩
    unfold tl61
    simp [h2l, d1, eO, d2, n0, n1, n2]

theorem RtF.mem {os ts s : List Int} (h : RtF os ts s) : ∀ t ∈ ts, t ∈ os := by
  induction h with
  | nil os => exact fun t ht => nomatch ht
  | same hp _ _ ih => exact fun t ht => hp.mem_iff.mp (ih t ht)
  | rot _ _ ih =>
    intro t ht
    rcases List.mem_cons.mp ht with rfl | h
    · simp
    · have := ih t h
      simp at this ⊢
      rcases this with h | h | h | h
      · exact .inl h
      · exact .inr (.inr (.inl h))
      · exact .inr (.inl h)
      · exact .inr (.inr (.inr h))
theorem head61 {f s : List Int} (hf : Ord f) (hs : Ord s) (hp : s.Perm f) (hl : f.length ≤ 40) (cells : List Int) (p : Nat) (c sd : Int) (ts : List Int) (htl : ts.length ≤ 1600) (htm : ∀ t ∈ ts, t ∈ f) : ∃ (s' ts' : List Int) (p' : Nat) (c' sd' : Int) (x7 x8 x9 : Sl), hd61 [.own (some 0) (bx cells p c sd), .sh (.tuple (trD f)), .sh (.tuple (trD s)), .own none (.lst (ts.map PyData.int)), .no, .no, .no, .no, .no, .no, .no, .no] = .nx [.own (some 0) (bx cells p' c' sd'), .sh (.tuple (trD f)), .sh (.tuple (trD s')), .own none (.lst (ts'.map PyData.int)), .no, .no, .no, x7, x8, x9, .no, .no] ∧ s'.Perm f ∧ (∀ t ∈ ts', t ∈ f) ∧ ts'.length ≤ 1600 := by
  obtain ⟨r, p1, c1, s1, d1, r1, r2⟩ := bdraw_ex cells p c sd 2 (by decide) (by decide)
  have hl0 : (0 : Nat) ≤ lim := Nat.zero_le _
  by_cases hr : r = 0
  · subst hr
    obtain ⟨n, p2, c2, s2, d2, n1, n2⟩ := bdraw_ex cells p1 c1 s1 9 (by decide) (by decide)
    obtain ⟨m, rfl⟩ : ∃ m : Nat, n = (m : Int) := ⟨n.toNat, by omega⟩
    have hbm : big (m : Int) = true := big_of (by omega) (by omega)
    obtain ⟨Γ', e, os, ts', p3, c3, s3, x8, x9, rfl, ho, ht, hm⟩ := forD_inv (t := tNm 8) (b := L__law_random_list_1) (rangeD 0 m)
      (fun i Γ => ∃ (os ts' : List Int) (p : Nat) (c sd : Int) (x8 x9 : Sl), Γ = st61 cells p c sd f s os ts' x8 x9 ∧ os.Perm f ∧ (∀ t ∈ ts', t ∈ f) ∧ ts'.length ≤ i)
      (by
        rintro i d Γ hd ⟨os, ts', p, c, sd, x8, x9, rfl, ho, ht, hm⟩
        have hi := (rangeD0_get hd).1
        obtain ⟨os', ts2, p', c', sd', x9', e, g1, g2, g3⟩ := rl_step cells p c sd f s os ts' (.sh d) x9 (hf.perm' ho) (by rw [ho.length_eq]; exact hl) (by omega)
        refine ⟨_, _, rfl, .inl e, os', ts2, p', c', sd', _, _, rfl, g1.trans ho, fun t h => ?_, by omega⟩
        rcases g3 t h with h | h
        · exact ht t h
        · exact ho.mem_iff.mp h)
      (Γ := st61 cells p2 c2 s2 f s f [] .no .no) ⟨f, [], p2, c2, s2, .no, .no, rfl, .refl _, (fun t h => by cases h), by simp⟩
    rw [rangeD_len] at hm
    obtain ⟨r', p4, c4, s4, d4, r1', r2'⟩ := bdraw_ex cells p3 c3 s3 2 (by decide) (by decide)
    unfold st61 at e
    by_cases hr' : r' = 0
    · subst hr'
      refine ⟨os, ts', p4, c4, s4, .sh (.tuple (trD os)), x8, x9, ?_, ho, ht, by omega⟩
      unfold hd61
      simp at e
      simp [d1, d2, hl0, hbm, e, d4]
    · refine ⟨s, ts', p4, c4, s4, .sh (.tuple (trD os)), x8, x9, ?_, hp, ht, by omega⟩
      unfold hd61
      simp at e
      simp [d1, d2, hl0, hbm, e, d4, hr']
  · refine ⟨s, ts, p1, c1, s1, .no, .no, .no, ?_, hp, htm, htl⟩
    unfold hd61
    simp [d1, hr]
theorem rl_ok {f s : List Int} (hf : Ord f) (hs : Ord s) (hp : s.Perm f) (hl : f.length ≤ 40) (cells : List Int) (p : Nat) (c sd : Int) : ∃ (s' : List Int) (ds : List PD) (p' : Nat) (c' sd' : Int), f__law_random_list [.own (some 0) (bx cells p c sd), .sh (.tuple (trD f)), .sh (.tuple (trD s))] = .ok (.sh (.tuple [.tuple (trD s'), .list ds])) [some (bx cells p' c' sd'), none, none] ∧ s'.Perm f ∧ (∀ d ∈ ds, Good d) ∧ ds.length ≤ 1710 := by
  obtain ⟨ts, e1, hrt, htl⟩ := route_eq hf hs hp hl
  obtain ⟨s', ts', p1, c1, s1, x7, x8, x9, e2, hp', htm, htl'⟩ := head61 hf hs hp hl cells p c sd ts htl hrt.mem
  obtain ⟨ds, p2, c2, s2, y4, y5, y6, e3, hg, hdl⟩ := tail61 (s := s') (os := f) hf hl cells p1 c1 s1 ts' x7 x8 x9 (by omega) (fun d hd => by
    obtain ⟨k, hk, rfl⟩ := List.mem_map.mp hd
    exact good_key (hf.bd k (htm k hk)))
  refine ⟨s', ds, p2, c2, s2, ?_, hp', hg, hdl⟩
  unfold f__law_random_list n__law_random_list
  rw [b_rl]
  simp [e1, e2, e3]

theorem rp_items {ds : List PD} (hg : ∀ d ∈ ds, Good d) (hl : ds.length ≤ 1710) : gRepr (.list ds) = some (.sh (.str (PyData.list ds).shown)) := by
  have h := Rp.list (n := 30) (k := 1) (ds := ds) fun d hd => (hg d hd).2
  exact h.repr (Nat.le_trans (m := 54800) (by omega) (by decide)) (by decide)
theorem cand61 {f s : List Int} (hf : Ord f) (hs : Ord s) (hp : s.Perm f) (hl : f.length ≤ 40) (ds : List PD) (x0 x1 x2 x5 x6 x7 : Sl) : ∃ x6', forD (tNm 6) L_law_1 [.none, .int 5, .str "ab", .dict [], .tuple [], .tuple ds, .list [.none], .list [.list []]] [x0, x1, x2, .sh (.tuple (trD f)), .sh (.tuple (trD s)), x5, x6, x7] = .nx [x0, x1, x2, .sh (.tuple (trD f)), .sh (.tuple (trD s)), x5, x6', x7] := by
  obtain ⟨Γ', e, x6', rfl⟩ := forD_inv (t := tNm 6) (b := L_law_1) [.none, .int 5, .str "ab", .dict [], .tuple [], .tuple ds, .list [.none], .list [.list []]]
    (fun _ Γ => ∃ x6, Γ = [x0, x1, x2, .sh (.tuple (trD f)), .sh (.tuple (trD s)), x5, x6, x7])
    (by
      rintro i d Γ hd ⟨x6, rfl⟩
      have hm := List.mem_of_getElem? hd
      have e : f_is_route [.sh (.tuple (trD f)), .sh (.tuple (trD s)), .sh d] = .ok (.sh (.bool false)) [none, none, none] := by
        simp only [List.mem_cons, List.not_mem_nil, or_false] at hm
        rcases hm with rfl | rfl | rfl | rfl | rfl | rfl | rfl | rfl
        · exact route_odd hf hs hp hl (fun v h => by simpa using h.symm) ⟨_, rfl⟩
        · exact route_odd hf hs hp hl (fun v h => by simpa using h.symm) ⟨_, rfl⟩
        · exact route_odd hf hs hp hl (fun v h => by simpa using h.symm) ⟨_, rfl⟩
        · exact route_odd hf hs hp hl (fun v h => by simpa using h.symm) ⟨_, rfl⟩
        · exact route_odd hf hs hp hl (fun v h => by simpa using h.symm) ⟨_, rfl⟩
        · exact route_odd hf hs hp hl (fun v h => by simpa using h.symm) ⟨_, rfl⟩
        · exact route_bad hf hs hp hl .none (by simp)
        · exact route_bad hf hs hp hl (.list []) (by simp)
      refine ⟨_, _, rfl, .inl ?_, .sh d, rfl⟩
      unfold L_law_1
      simp [e])
    (Γ := [x0, x1, x2, .sh (.tuple (trD f)), .sh (.tuple (trD s)), x5, x6, x7]) ⟨x6, rfl⟩
  exact ⟨x6', e⟩
theorem law_ok : ∀ ns : List Int, ns.length ≤ 63 → f_law [.sh (.list (ns.map PyData.int))] = .ok (.sh (.bool true)) [none] := by
  intro ns hns
  obtain ⟨cells, e0⟩ := box_ex ns
  obtain ⟨ks, p1, c1, s1, e1, hk, k1, k2⟩ := bkeys_ex cells 0 0 7 0 12 (by decide) (by decide) (by decide)
  obtain ⟨f, p2, c2, s2, e2, hf⟩ := bshuffle_ex cells p1 c1 s1 ks (by omega)
  obtain ⟨s, p3, c3, s3, e3, hs⟩ := bshuffle_ex cells p2 c2 s2 ks (by omega)
  have hof : Ord f := hk.ord hf
  have hos : Ord s := hk.ord hs
  have hsf : s.Perm f := hs.trans hf.symm
  have hlf : f.length ≤ 40 := by have := hf.length_eq; omega
  have e4 := tree_of_law hof.nd (by omega)
  have e5 := tree_of_law hos.nd (by rw [hsf.length_eq]; omega)
  obtain ⟨s', ds, p4, c4, s4, e6, hp', hg, hdl⟩ := rl_ok hof hos hsf hlf cells p3 c3 s3
  have hos' : Ord s' := hof.perm' hp'
  obtain ⟨r, e7, e8⟩ := both_eq hof hos' hp' hlf (fun d hd => (hg d hd).1) (by omega : ds.length ≤ 2000)
  have e9 := rp_items hg hdl
  have e10 := (Rp.bool r).repr (by decide) (by decide)
  obtain ⟨x6', e11⟩ := cand61 hof hos' hp' hlf ds (.sh (.list (ns.map PyData.int))) (.own none (bx cells p4 c4 s4)) (.sh (.list (ks.map PyData.int))) (.sh (.str (PyData.list ds).shown)) .no (.sh (.list ds))
  obtain ⟨q, p5, c5, s5, e12, q1, q2⟩ := bdraw_ex cells p4 c4 s4 4 (by decide) (by decide)
  have e13 := long_ok
  have hn : ∀ x : Str, gNe (.str x) (.str x) = some false := fun x => by simp
  have hq : ∀ x : Str, gEq (.str x) (.str x) = some true := fun x => by simp
  generalize (PyData.list ds).shown = X at *
  generalize (PyData.bool r).shown = Y at *
  have h8 : (8 : Nat) ≤ lim := le_lim (by decide)
  have h1 : (1 : Nat) ≤ lim := le_lim (by decide)
  have h0 : (0 : Nat) ≤ lim := le_lim (by decide)
  have hdl' : ds.length ≤ lim := le_lim (by omega)
  unfold f_law b_law n_law
  by_cases hq0 : q = 0
  · subst hq0
    simp [e0, e1, e2, e3, e4, e5, e6, e7, e8, e9, e10, hn, hq, h8, h1, h0, hdl', e11, e12, e13]
  · simp [e0, e1, e2, e3, e4, e5, e6, e7, e8, e9, e10, hn, hq, h8, h1, h0, hdl', e11, e12, hq0]

end Pr
open PySem PySem.W PyProof.Rows
set_option maxRecDepth 100000 in
set_option maxHeartbeats 0 in
theorem PySem.Challenge.cw_insertionorders_k61_routes_checked_holds : PySem.Challenge.rw_insertionorders_k61_routes_checked.Holds := by
  w_on; o_law; k_head; (case hw => w_witness2)
  k_fill
  refine G.walkG (l := PySem.Challenge.rw_insertionorders_k61_routes_checked) (n := 63) (k := 10) (x := "script") (CX := fun _ => L2.CX0) (sp := fun w => (fun vs H Q E => vs.length = 1 ∧ G.spF _ w Pr.f_law vs H Q E)) rfl (by decide) rfl ⟨rfl, by decide, by decide⟩ (fun w h Y => PySem.W.kIn_of Y) ?F (fun w H a ns hl _ hS => Pr.law_end Pr.law_ok _ w H a ns hl hS) (fun _ _ _ _ _ h => h)
  case F =>
    intro w mg fa h KX G hmg
    refine' Pr.all_mk KX G hmg ?a0 ?l0 ?x0 ?k0 ?a1 ?l1 ?x1 ?k1 ?a2 ?l2 ?x2 ?k2 ?a3 ?l3 ?x3 ?k3 ?a4 ?l4 ?x4 ?k4 ?a5 ?l5 ?x5 ?k5 ?a6 ?l6 ?x6 ?k6 ?a7 ?l7 ?x7 ?k7 ?a8 ?l8 ?x8 ?k8 ?a9 ?l9 ?x9 ?k9 ?a10 ?l10 ?x10 ?k10 ?a11 ?l11 ?x11 ?k11 ?a12 ?l12 ?x12 ?k12 ?a13 ?l13 ?x13 ?k13 ?a14 ?l14 ?x14 ?k14 ?a15 ?l15 ?x15 ?k15 ?a16 ?l16 ?x16 ?k16 ?a17 ?l17 ?x17 ?k17 ?a18 ?l18 ?x18 ?k18 ?a19 ?l19 ?x19 ?k19 ?a20 ?l20 ?x20 ?k20 ?a21 ?l21 ?x21 ?k21 ?a22 ?l22 ?x22 ?k22 ?a23 ?l23 ?x23 ?k23 ?a24 ?l24 ?x24 ?k24 ?a25 ?l25 ?x25 ?k25 ?a26 ?l26 ?x26 ?k26 ?a27 ?l27 ?x27 ?k27 ?a28 ?l28 ?x28 ?k28 ?a29 ?l29 ?x29 ?k29 ?z_abs ?z_all ?z_bool ?z_dict ?z_int ?z_isinstance ?z_len ?z_list ?z_max ?z_min ?z_range ?z_repr ?z_sorted ?z_tuple ?q_MAX_KEY ?q_MAX_KEYS ?q_MAX_ROUTE
    (case a0 => k_is)
    (case l0 => k_is)
    (case x0 => k_is)
    (case k0 => k_is)
    (case a1 => k_is)
    (case l1 => k_is)
    (case x1 => k_is)
    (case k1 => k_is)
    (case a2 => k_is)
    (case l2 => k_is)
    (case x2 => k_is)
    (case k2 => k_is)
    (case a3 => k_is)
    (case l3 => k_is)
    (case x3 => k_is)
    (case k3 => k_is)
    (case a4 => k_is)
    (case l4 => k_is)
    (case x4 => k_is)
    (case k4 => k_is)
    (case a5 => k_is)
    (case l5 => k_is)
    (case x5 => k_is)
    (case k5 => k_is)
    (case a6 => k_is)
    (case l6 => k_is)
    (case x6 => k_is)
    (case k6 => k_is)
    (case a7 => k_is)
    (case l7 => k_is)
    (case x7 => k_is)
    (case k7 => k_is)
    (case a8 => k_is)
    (case l8 => k_is)
    (case x8 => k_is)
    (case k8 => k_is)
    (case a9 => k_is)
    (case l9 => k_is)
    (case x9 => k_is)
    (case k9 => k_is)
    (case a10 => k_is)
    (case l10 => k_is)
    (case x10 => k_is)
    (case k10 => k_is)
    (case a11 => k_is)
    (case l11 => k_is)
    (case x11 => k_is)
    (case k11 => k_is)
    (case a12 => k_is)
    (case l12 => k_is)
    (case x12 => k_is)
    (case k12 => k_is)
    (case a13 => k_is)
    (case l13 => k_is)
    (case x13 => k_is)
    (case k13 => k_is)
    (case a14 => k_is)
    (case l14 => k_is)
    (case x14 => k_is)
    (case k14 => k_is)
    (case a15 => k_is)
    (case l15 => k_is)
    (case x15 => k_is)
    (case k15 => k_is)
    (case a16 => k_is)
    (case l16 => k_is)
    (case x16 => k_is)
    (case k16 => k_is)
    (case a17 => k_is)
    (case l17 => k_is)
    (case x17 => k_is)
    (case k17 => k_is)
    (case a18 => k_is)
    (case l18 => k_is)
    (case x18 => k_is)
    (case k18 => k_is)
    (case a19 => k_is)
    (case l19 => k_is)
    (case x19 => k_is)
    (case k19 => k_is)
    (case a20 => k_is)
    (case l20 => k_is)
    (case x20 => k_is)
    (case k20 => k_is)
    (case a21 => k_is)
    (case l21 => k_is)
    (case x21 => k_is)
    (case k21 => k_is)
    (case a22 => k_is)
    (case l22 => k_is)
    (case x22 => k_is)
    (case k22 => k_is)
    (case a23 => k_is)
    (case l23 => k_is)
    (case x23 => k_is)
    (case k23 => k_is)
    (case a24 => k_is)
    (case l24 => k_is)
    (case x24 => k_is)
    (case k24 => k_is)
    (case a25 => k_is)
    (case l25 => k_is)
    (case x25 => k_is)
    (case k25 => k_is)
    (case a26 => k_is)
    (case l26 => k_is)
    (case x26 => k_is)
    (case k26 => k_is)
    (case a27 => k_is)
    (case l27 => k_is)
    (case x27 => k_is)
    (case k27 => k_is)
    (case a28 => k_is)
    (case l28 => k_is)
    (case x28 => k_is)
    (case k28 => k_is)
    (case a29 => k_is)
    (case l29 => k_is)
    (case x29 => k_is)
    (case k29 => k_is)
    (case z_abs => k_is)
    (case z_all => k_is)
    (case z_bool => k_is)
    (case z_dict => k_is)
    (case z_int => k_is)
    (case z_isinstance => k_is)
    (case z_len => k_is)
    (case z_list => k_is)
    (case z_max => k_is)
    (case z_min => k_is)
    (case z_range => k_is)
    (case z_repr => k_is)
    (case z_sorted => k_is)
    (case z_tuple => k_is)
    (case q_MAX_KEY => k_is)
    (case q_MAX_KEYS => k_is)
    (case q_MAX_ROUTE => k_is)
