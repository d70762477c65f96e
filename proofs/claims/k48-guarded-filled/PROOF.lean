import PyProof.Rows.All
import Wide.All
import OpenK.AllK
import Wide.FinOn
import HandS.ForMost
import HandS.More
import HandS.Deep
import HandS.TupAny
import HandS.TupMul
import HandS.Conv
import HandS.Defaults
import HandS.TupLe
import HandS.IsInst
import HandS.TupLen
import HandS.SetFor
import PyProof.Rows.FactsN_isinstance
import HandS.Walk
import HandS.Comp
import HandS.Iter
import HandS.Zip
import KE.GoesMore
import KE.KDictZip
import KE.KDictList
import HandS.Keys
import HandS.DictTup
import PyProof.CollectWalk
import PyProof.ListNew
import HandS.List
import HandS.TupSets
import HandS.SortOrd
import KE.KSortTupAny
import HandS.RaiseMore
import KE.KStateDown
import HandS.Head0
import HandS.Head1
import HandS.Head2
import HandS.HeadEnd
import HandS.HeadHook1
import HandS.HeadHook2
import PySem.Challenge.RW_nearlysure_k48_whole_guarded_tables_fill
set_option Elab.async false
set_option linter.all false
set_option maxRecDepth 100000
namespace EV
open PySem PySem.Spec PyProof.Rows L2

/-! ### values -/
/-- pure data -/
inductive D where
  | non | bl (b : Bool) | int (i : Int) | str (x : Str) | tup (xs : List D) | lst (xs : List D) | dct (ks vs : List D) | set (xs : List D) | scr (xs : List D)
/-- what a name holds: pure data, or the i-th list of the store -/
inductive Vl where
  | p (d : D) | m (i : Nat)
abbrev Sto := List (List D)
abbrev PS := List (Option Vl)

def keyD : Key → D
  | .inl i => .int i
  | .inr x => .str x
/-- a list that is not written: frozen, or a constant of the top -/
def SqF (K : PySem.W.Frag) (H : Hp) (a : Addr) (xs : List V) : Prop :=
  (∃ o, H a = some (.frz o (.lst xs))) ∨
    ∃ (o : Obj) (its : Array Value) (n : Nat), K.lookup a = some o ∧ o.cls = .type "list" ∧ o.dict = none ∧ o.data = .seq its n ∧ its.size ≤ sizeLine ∧ Vals xs its.toList
theorem SqF.l {K : PySem.W.Frag} {H : Hp} {a : Addr} {xs : List V} (h : SqF K H a xs) : SqL K H a xs := h.elim (fun h => .inl (.inr h)) .inr
mutual
/-- v stands for d in H; W: the addresses of the store's lists -/
inductive Rep (K : PySem.W.Frag) (H : Hp) (W : List Addr) : V → D → Prop
  | non : Rep K H W .non .non
  | bl (b : Bool) : Rep K H W (.bl b) (.bl b)
  | int (i : Int) : Rep K H W (.int i) (.int i)
  | str (x : Str) : Rep K H W (.str x) (.str x)
  | tup {a : Addr} {xs : List V} {ds : List D} : SqT K H a xs → Reps K H W xs ds → Rep K H W (.ref a) (.tup ds)
  | lst {a : Addr} {xs : List V} {ds : List D} : H a = some (.lst xs) → a ∉ W → Reps K H W xs ds → Rep K H W (.ref a) (.lst ds)
  | scr {a : Addr} {xs : List V} {ds : List D} : SqF K H a xs → Reps K H W xs ds → Rep K H W (.ref a) (.scr ds)
  | dk {a : Addr} {kvs : List (Key × V)} {ks vs : List D} : Rd H a (.dK kvs) → ks = kvs.map (fun q => keyD q.1) → Reps K H W (kvs.map (·.2)) vs → Rep K H W (.ref a) (.dct ks vs)
  | dt {a : Addr} {kvs : List (List Key × V)} {ks vs : List D} : Rd H a (.dT kvs) → ks = kvs.map (fun q => D.tup (q.1.map keyD)) → Reps K H W (kvs.map (·.2)) vs → Rep K H W (.ref a) (.dct ks vs)
inductive Reps (K : PySem.W.Frag) (H : Hp) (W : List Addr) : List V → List D → Prop
  | nil : Reps K H W [] []
  | cons {v : V} {vs : List V} {d : D} {ds : List D} : Rep K H W v d → Reps K H W vs ds → Reps K H W (v :: vs) (d :: ds)
end
/-- .. for what a name holds -/
inductive RepL (K : PySem.W.Frag) (H : Hp) (W : List Addr) : V → Vl → Prop
  | p {v : V} {d : D} : Rep K H W v d → RepL K H W v (.p d)
  | m {i : Nat} {a : Addr} : W[i]? = some a → RepL K H W (.ref a) (.m i)
inductive RepLs (K : PySem.W.Frag) (H : Hp) (W : List Addr) : List V → List Vl → Prop
  | nil : RepLs K H W [] []
  | cons {v : V} {vs : List V} {d : Vl} {ds : List Vl} : RepL K H W v d → RepLs K H W vs ds → RepLs K H W (v :: vs) (d :: ds)
/-- what an operation may look at: the list may be one of the store's -/
inductive Lk (K : PySem.W.Frag) (H : Hp) (W : List Addr) : V → D → Prop
  | rep {v : V} {d : D} : Rep K H W v d → Lk K H W v d
  | lst {a : Addr} {xs : List V} {ds : List D} : H a = some (.lst xs) → Reps K H W xs ds → Lk K H W (.ref a) (.lst ds)

section
variable {K : PySem.W.Frag} {H H' : Hp} {W W' : List Addr}
theorem Reps.length : ∀ {vs : List V} {ds : List D}, Reps K H W vs ds → vs.length = ds.length
  | _, _, .nil => rfl
  | _, _, .cons _ t => congrArg Nat.succ (Reps.length t)
theorem RepLs.length : ∀ {vs : List V} {ds : List Vl}, RepLs K H W vs ds → vs.length = ds.length
  | _, _, .nil => rfl
  | _, _, .cons _ t => congrArg Nat.succ (RepLs.length t)
theorem Reps.get : ∀ {vs : List V} {ds : List D} {i : Nat} {d : D}, Reps K H W vs ds → ds[i]? = some d → ∃ v, vs[i]? = some v ∧ Rep K H W v d
  | _, _, _, _, .nil, e => by simp at e
  | _, _, 0, _, .cons r _, e => by simp at e; subst e; exact ⟨_, rfl, r⟩
  | _, _, i + 1, d, .cons _ t, e => by
    obtain ⟨v, h1, h2⟩ := Reps.get (i := i) (d := d) t (by simpa using e)
    exact ⟨v, by simpa using h1, h2⟩
theorem Reps.getV : ∀ {vs : List V} {ds : List D} {i : Nat} {v : V}, Reps K H W vs ds → vs[i]? = some v → ∃ d, ds[i]? = some d ∧ Rep K H W v d
  | _, _, _, _, .nil, e => by simp at e
  | _, _, 0, _, .cons r _, e => by simp at e; subst e; exact ⟨_, rfl, r⟩
  | _, _, i + 1, v, .cons _ t, e => by
    obtain ⟨d, h1, h2⟩ := Reps.getV (i := i) (v := v) t (by simpa using e)
    exact ⟨d, by simpa using h1, h2⟩
theorem Reps.append : ∀ {vs us : List V} {ds es : List D}, Reps K H W vs ds → Reps K H W us es → Reps K H W (vs ++ us) (ds ++ es)
  | _, _, _, _, .nil, s => s
  | _, _, _, _, .cons r t, s => .cons r (Reps.append t s)
theorem Reps.drop : ∀ {vs : List V} {ds : List D} (n : Nat), Reps K H W vs ds → Reps K H W (vs.drop n) (ds.drop n)
  | _, _, 0, r => r
  | _, _, _ + 1, .nil => .nil
  | _, _, n + 1, .cons _ t => Reps.drop n t
theorem Reps.take : ∀ {vs : List V} {ds : List D} (n : Nat), Reps K H W vs ds → Reps K H W (vs.take n) (ds.take n)
  | _, _, 0, _ => .nil
  | _, _, _ + 1, .nil => .nil
  | _, _, n + 1, .cons r t => .cons r (Reps.take n t)
theorem Reps.set {v : V} {d : D} (r : Rep K H W v d) : ∀ {vs : List V} {ds : List D} (i : Nat), Reps K H W vs ds → Reps K H W (vs.set i v) (ds.set i d)
  | _, _, _, .nil => .nil
  | _, _, 0, .cons _ t => .cons r t
  | _, _, i + 1, .cons q t => .cons q (Reps.set r i t)
theorem Reps.nil_iff {vs : List V} {ds : List D} (r : Reps K H W vs ds) : vs = [] ↔ ds = [] := by
  cases r <;> simp
theorem RepLs.pure : ∀ {vs : List V} {ds : List D}, RepLs K H W vs (ds.map Vl.p) → Reps K H W vs ds
  | _, [], h => by cases h; exact .nil
  | _, d :: ds, h => by
    cases h with
    | cons a b =>
      cases a with
      | p a => exact .cons a (RepLs.pure b)
theorem RepLs.get : ∀ {vs : List V} {ds : List Vl} {i : Nat} {d : Vl}, RepLs K H W vs ds → ds[i]? = some d → ∃ v, vs[i]? = some v ∧ RepL K H W v d
  | _, _, _, _, .nil, e => by simp at e
  | _, _, 0, _, .cons r _, e => by simp at e; subst e; exact ⟨_, rfl, r⟩
  | _, _, i + 1, d, .cons _ t, e => by
    obtain ⟨v, h1, h2⟩ := RepLs.get (i := i) (d := d) t (by simpa using e)
    exact ⟨v, by simpa using h1, h2⟩

/-- the lists of the store stand -/
structure StOK (K : PySem.W.Frag) (H : Hp) (W : List Addr) (S : Sto) : Prop where
  len : W.length = S.length
  nd : W.Nodup
  at_ : ∀ (i : Nat) (a : Addr), W[i]? = some a → ∃ ds vs, S[i]? = some ds ∧ H a = some (.lst vs) ∧ Reps K H W vs ds
theorem StOK.lst {S : Sto} (h : StOK K H W S) {b : Addr} (hb : b ∈ W) : ∃ vs, H b = some (.lst vs) := by
  obtain ⟨i, hi⟩ := List.mem_iff_getElem?.mp hb
  obtain ⟨_, vs, _, e, _⟩ := h.at_ i b hi
  exact ⟨vs, e⟩
/-- what stands goes on to stand; the store's lists may change, and be more -/
structure Ext (H : Hp) (W : List Addr) (H' : Hp) (W' : List Addr) : Prop where
  keep : ∀ b u, H b = some u → b ∉ W → H' b = some u
  out : ∀ b u, H b = some u → b ∉ W → b ∉ W'
  pre : ∃ t, W' = W ++ t
theorem Ext.refl : Ext H W H W := ⟨fun _ _ h _ => h, fun _ _ _ h => h, [], by simp⟩
theorem Ext.trans {H2 : Hp} {W2 : List Addr} (a : Ext H W H' W') (b : Ext H' W' H2 W2) : Ext H W H2 W2 := by
  obtain ⟨t, e⟩ := a.pre
  obtain ⟨t', e'⟩ := b.pre
  exact ⟨fun c u h n => b.keep c u (a.keep c u h n) (a.out c u h n), fun c u h n => b.out c u (a.keep c u h n) (a.out c u h n), t ++ t', by rw [e', e, List.append_assoc]⟩
/-- a new thing, the store as it is -/
theorem Ext.same (h : Same H H') : Ext H W H' W := ⟨fun b u e _ => h b u e, fun _ _ _ n => n, [], by simp⟩
/-- what is no list of its own does not stand in the store -/
theorem WL.ne {S : Sto} (st : StOK K H W S) {b : Addr} {u : HO} (h : H b = some u) (n : ∀ xs, u ≠ .lst xs) : b ∉ W := fun hb => by
  obtain ⟨vs, e⟩ := st.lst hb
  rw [h] at e
  exact n vs (Option.some.inj e)
theorem Rd.ext {S : Sto} (st : StOK K H W S) (e : Ext H W H' W') {a : Addr} {u : HO} (h : Rd H a u) (n : a ∉ W) : Rd H' a u ∧ a ∉ W' := by
  rcases h with h | ⟨o, h⟩
  · exact ⟨.inl (e.keep a _ h n), e.out a _ h n⟩
  · exact ⟨.inr ⟨o, e.keep a _ h n⟩, e.out a _ h n⟩
theorem Rd.notW {S : Sto} (st : StOK K H W S) {a : Addr} {u : HO} (h : Rd H a u) (n : ∀ xs, u ≠ .lst xs) : a ∉ W := by
  rcases h with h | ⟨o, h⟩
  · exact WL.ne st h n
  · exact WL.ne st h (fun xs z => by cases z)
theorem SqT.ext {S : Sto} (st : StOK K H W S) (e : Ext H W H' W') {a : Addr} {xs : List V} (h : SqT K H a xs) : SqT K H' a xs := by
  rcases h with h | h
  · exact .inl (Rd.ext st e h (Rd.notW st h (fun xs z => by cases z))).1
  · exact .inr h
mutual
theorem Rep.ext {S : Sto} (st : StOK K H W S) (e : Ext H W H' W') : ∀ {v : V} {d : D}, Rep K H W v d → Rep K H' W' v d
  | _, _, .non => .non
  | _, _, .bl b => .bl b
  | _, _, .int i => .int i
  | _, _, .str x => .str x
  | _, _, .tup h r => .tup (SqT.ext st e h) (Reps.ext st e r)
  | _, _, .lst h n r => .lst (e.keep _ _ h n) (e.out _ _ h n) (Reps.ext st e r)
  | _, _, .scr h r => .scr (h.elim (fun ⟨o, h⟩ => .inl ⟨o, e.keep _ _ h (WL.ne st h (fun xs z => by cases z))⟩) .inr) (Reps.ext st e r)
  | _, _, .dk h k r => .dk (Rd.ext st e h (Rd.notW st h (fun xs z => by cases z))).1 k (Reps.ext st e r)
  | _, _, .dt h k r => .dt (Rd.ext st e h (Rd.notW st h (fun xs z => by cases z))).1 k (Reps.ext st e r)
theorem Reps.ext {S : Sto} (st : StOK K H W S) (e : Ext H W H' W') : ∀ {vs : List V} {ds : List D}, Reps K H W vs ds → Reps K H' W' vs ds
  | _, _, .nil => .nil
  | _, _, .cons a b => .cons (Rep.ext st e a) (Reps.ext st e b)
end
theorem RepL.ext {S : Sto} (st : StOK K H W S) (e : Ext H W H' W') {v : V} {d : Vl} (h : RepL K H W v d) : RepL K H' W' v d := by
  cases h with
  | p h => exact .p (h.ext st e)
  | m h =>
    obtain ⟨t, rfl⟩ := e.pre
    refine .m ?_
    rw [List.getElem?_append_left (List.getElem?_eq_some_iff.mp h).1]
    exact h
theorem RepLs.ext {S : Sto} (st : StOK K H W S) (e : Ext H W H' W') : ∀ {vs : List V} {ds : List Vl}, RepLs K H W vs ds → RepLs K H' W' vs ds
  | _, _, .nil => .nil
  | _, _, .cons a b => .cons (a.ext st e) (RepLs.ext st e b)
/-- where all that was tracked stays, the store stands -/
theorem StOK.same {S : Sto} (st : StOK K H W S) (h : Same H H') : StOK K H' W S := by
  refine ⟨st.len, st.nd, fun i a hi => ?_⟩
  obtain ⟨ds, vs, e1, e2, r⟩ := st.at_ i a hi
  exact ⟨ds, vs, e1, h _ _ e2, r.ext st (Ext.same h)⟩

/-- the slots -/
structure RepS (K : PySem.W.Frag) (H : Hp) (W : List Addr) (σ : L2.St) (σp : PS) : Prop where
  len : σ.length = σp.length
  at_ : ∀ (i : Nat) (d : Vl), σp[i]? = some (some d) → ∃ v, σ[i]? = some (some v) ∧ RepL K H W v d
theorem RepS.ext {S : Sto} (st : StOK K H W S) (e : Ext H W H' W') {σ : L2.St} {σp : PS} (h : RepS K H W σ σp) : RepS K H' W' σ σp :=
  ⟨h.len, fun i d q => let ⟨v, e1, r⟩ := h.at_ i d q; ⟨v, e1, r.ext st e⟩⟩
theorem RepS.set {σ : L2.St} {σp : PS} (h : RepS K H W σ σp) (i : Nat) {v : V} {d : Vl} (r : RepL K H W v d) : RepS K H W (σ.set i (some v)) (σp.set i (some d)) := by
  refine ⟨by rw [List.length_set, List.length_set, h.len], fun j e q => ?_⟩
  by_cases hj : i = j
  · subst hj
    have hl : i < σp.length := by
      have := (List.getElem?_eq_some_iff.mp q).1
      rwa [List.length_set] at this
    rw [List.getElem?_set_self hl] at q
    have q' := Option.some.inj (Option.some.inj q)
    subst q'
    exact ⟨v, List.getElem?_set_self (by rw [h.len]; exact hl), r⟩
  · rw [List.getElem?_set_ne hj] at q
    obtain ⟨v', e1, r'⟩ := h.at_ j e q
    exact ⟨v', by rw [List.getElem?_set_ne hj]; exact e1, r'⟩
/-- slots forgotten -/
def wipeP (σ : PS) : List Nat → PS
  | [] => σ
  | v :: vs => (wipeP σ vs).set v none
theorem RepS.wipe {σ : L2.St} {σp : PS} (h : RepS K H W σ σp) : ∀ vs : List Nat, RepS K H W (wipe σ vs) (wipeP σp vs)
  | [] => h
  | v :: vs => by
    have ih := RepS.wipe h vs
    unfold L2.wipe wipeP
    refine ⟨by rw [List.length_set, List.length_set, ih.len], fun j e q => ?_⟩
    by_cases hj : v = j
    · subst hj
      have hl : v < (wipeP σp vs).length := by
        have := (List.getElem?_eq_some_iff.mp q).1
        rwa [List.length_set] at this
      rw [List.getElem?_set_self hl] at q
      cases q
    · rw [List.getElem?_set_ne hj] at q
      obtain ⟨v', e1, r'⟩ := ih.at_ j e q
      exact ⟨v', by rw [List.getElem?_set_ne hj]; exact e1, r'⟩
end

/-! ### meanings -/
abbrev Ex := PS → Sto → Option (Vl × Sto)
abbrev Exs := PS → Sto → Option (List Vl × Sto)
/-- what a thing is read as now -/
def rd (S : Sto) : Vl → Option D
  | .p d => some d
  | .m i => (S[i]?).map .lst
def pur : Vl → Option D
  | .p d => some d
  | .m _ => none
def purs : List Vl → Option (List D)
  | [] => some []
  | .p d :: r => (purs r).map (d :: ·)
  | .m _ :: _ => none
theorem purs_eq : ∀ {vs : List Vl} {ds : List D}, purs vs = some ds → vs = ds.map Vl.p
  | [], ds, h => by cases h; rfl
  | .m _ :: _, _, h => by cases h
  | .p d :: r, ds, h => by
    unfold purs at h
    cases e : purs r with
    | none => rw [e] at h; cases h
    | some es =>
      rw [e] at h
      cases h
      rw [List.map_cons, ← purs_eq e]
def rds (S : Sto) : List Vl → Option (List D)
  | [] => some []
  | x :: r => match rd S x, rds S r with
    | some d, some ds => some (d :: ds)
    | _, _ => none
theorem lk_of {K : PySem.W.Frag} {H : Hp} {W : List Addr} {S : Sto} (st : StOK K H W S) {v : V} {x : Vl} {d : D} (h : RepL K H W v x) (e : rd S x = some d) : Lk K H W v d := by
  cases h with
  | p h => cases e; exact .rep h
  | m h =>
    rename_i i a
    obtain ⟨ds, vs, e1, e2, r⟩ := st.at_ _ _ h
    have e' : (S[i]?).map D.lst = some d := e
    rw [e1] at e'
    cases e'
    exact .lst e2 r
/-- what is wanted of a value: of all values that stand for it -/
def Res (K : PySem.W.Frag) (H : Hp) (W : List Addr) (d : D) (Q : VK) : Prop := ∀ v H', Same H H' → Rep K H' W v d → Q v H'
theorem Res.here {K : PySem.W.Frag} {H : Hp} {W : List Addr} {d : D} {Q : VK} (h : Res K H W d Q) {v : V} (r : Rep K H W v d) : Q v H := h v H (Same.refl H) r
theorem same_upd {H : Hp} {p : Addr} (h : H p = none) (o : HO) : Same H (upd H p o) := fun b u q => by rw [upd_ne (ne_of_none q h)]; exact q
theorem Res.tup {K : PySem.W.Frag} {H : Hp} {W : List Addr} {S : Sto} {ds : List D} {Q : VK} (h : Res K H W (.tup ds) Q) (st : StOK K H W S) {vs : List V} (r : Reps K H W vs ds) : ∀ p, H p = none → Q (.ref p) (upd H p (.tup vs)) :=
  fun p hp => h _ _ (same_upd hp _) (.tup (SqT.of upd_same) (r.ext st (Ext.same (same_upd hp _))))
theorem notin_new {K : PySem.W.Frag} {H : Hp} {W : List Addr} {S : Sto} (st : StOK K H W S) {p : Addr} (hp : H p = none) : p ∉ W := fun z => by
  obtain ⟨vs, e⟩ := st.lst z
  rw [hp] at e
  cases e
theorem Res.lst {K : PySem.W.Frag} {H : Hp} {W : List Addr} {S : Sto} {ds : List D} {Q : VK} (h : Res K H W (.lst ds) Q) (st : StOK K H W S) {vs : List V} (r : Reps K H W vs ds) : ∀ p, H p = none → Q (.ref p) (upd H p (.lst vs)) :=
  fun p hp => h _ _ (same_upd hp _) (.lst upd_same (notin_new st hp) (r.ext st (Ext.same (same_upd hp _))))

/-- an expression's meaning as a reading -/
def tEV (K : PySem.W.Frag) (f : Ex) : TE := fun σ H Q => ∃ W S σp d S', StOK K H W S ∧ RepS K H W σ σp ∧ f σp S = some (d, S') ∧ ∀ v H' W', Ext H W H' W' → StOK K H' W' S' → RepL K H' W' v d → Q v H'
def tEVs (K : PySem.W.Frag) (f : Exs) : TA := fun σ H Q => ∃ W S σp ds S', StOK K H W S ∧ RepS K H W σ σp ∧ f σp S = some (ds, S') ∧ ∀ vs H' W', Ext H W H' W' → StOK K H' W' S' → RepLs K H' W' vs ds → Q vs H'
def EV (X : Cx) (e : Expr) (f : Ex) : Prop := PE X e (tEV X.K f)
def EVs (X : Cx) (es : List Expr) (f : Exs) : Prop := PA X es (tEVs X.K f)
theorem PE.weak {X : Cx} {e : Expr} {t t' : TE} (h : PE X e t) (w : ∀ σ H Q, t' σ H Q → t σ H Q) : PE X e t' := ⟨fun pins s σ H Q I q => h.run pins s σ H Q I (w σ H Q q)⟩
theorem PA.weak {X : Cx} {e : List Expr} {t t' : TA} (h : PA X e t) (w : ∀ σ H Q, t' σ H Q → t σ H Q) : PA X e t' := ⟨fun pos pins s σ H Q I q => h.run pos pins s σ H Q I (w σ H Q q)⟩

/-! ### small expressions -/
def sVar (i : Nat) : Ex := fun σ S => match σ[i]? with
  | some (some x) => some (x, S)
  | _ => none
def sC (d : D) : Ex := fun _ S => some (.p d, S)
section
variable {X : Cx} {pos : Pos}
theorem ev_var {i : Nat} {x : Str} (h : PE X (.Name x pos) (tVar i)) : EV X (.Name x pos) (sVar i) := PE.weak h fun σ H Q q => by
  obtain ⟨W, S, σp, d, S', st, rs, e, q⟩ := q
  unfold sVar at e
  split at e
  · rename_i y hy
    cases e
    obtain ⟨v, e1, r⟩ := rs.at_ i _ hy
    exact ⟨v, e1, q v H W .refl st r⟩
  · cases e
theorem ev_c {e : Expr} {v : V} {d : D} (h : PE X e (tC v)) (r : ∀ H W, Rep X.K H W v d) : EV X e (sC d) := PE.weak h fun σ H Q q => by
  obtain ⟨W, S, σp, d', S', st, rs, e, q⟩ := q
  cases e
  exact q v H W .refl st (.p (r H W))
theorem ev_int {i j} : EV X (.Constant (.int i) j pos) (sC (.int i)) := ev_c pe_int fun _ _ => .int i
theorem ev_bl {i j} : EV X (.Constant (.bool i) j pos) (sC (.bl i)) := ev_c pe_bl fun _ _ => .bl i
theorem ev_non {j} : EV X (.Constant .none j pos) (sC .non) := ev_c pe_non fun _ _ => .non
theorem ev_str {i j} : EV X (.Constant (.str i) j pos) (sC (.str i)) := ev_c pe_str fun _ _ => .str i
/-- a constant of the module: an int -/
theorem ev_gint {x : Str} {i : Int} (hg : Gl X x) (hm : ∃ t, X.mg x = some (.int i t)) (hd : (x == ("__debug__" : Str)) = false := by decide) : EV X (.Name x pos) (sC (.int i)) := by
  obtain ⟨t, hm⟩ := hm
  exact ev_c (v := .int i) (pe_glob hg hm ⟨t, rfl⟩ hd) fun _ _ => .int i
theorem ev_gstr {x : Str} {i : Str} (hg : Gl X x) (hm : ∃ t, X.mg x = some (.str i t)) (hd : (x == ("__debug__" : Str)) = false := by decide) : EV X (.Name x pos) (sC (.str i)) := by
  obtain ⟨t, hm⟩ := hm
  exact ev_c (v := .str i) (pe_glob hg hm ⟨t, rfl⟩ hd) fun _ _ => .str i

/-! ### argument lists -/
def sNil : Exs := fun _ S => some ([], S)
def sCons (f : Ex) (g : Exs) : Exs := fun σ S => match f σ S with
  | none => none
  | some (x, S1) => match g σ S1 with
    | none => none
    | some (xs, S2) => some (x :: xs, S2)
theorem evs_nil : EVs X [] sNil := PA.weak pa_nil fun σ H Q q => by
  obtain ⟨W, S, σp, d, S', st, rs, e, q⟩ := q
  cases e
  exact q [] H W .refl st .nil
theorem tEV_mk {K : PySem.W.Frag} {f : Ex} {σ : L2.St} {H : Hp} {Q : VK} {W : List Addr} {S S' : Sto} {σp : PS} {d : Vl} (st : StOK K H W S) (rs : RepS K H W σ σp) (e : f σp S = some (d, S'))
    (q : ∀ v H' W', Ext H W H' W' → StOK K H' W' S' → RepS K H' W' σ σp → RepL K H' W' v d → Q v H') : tEV K f σ H Q :=
  ⟨W, S, σp, d, S', st, rs, e, fun v H' W' x s r => q v H' W' x s (rs.ext st x) r⟩
theorem tEVs_mk {K : PySem.W.Frag} {f : Exs} {σ : L2.St} {H : Hp} {Q : List V → Hp → Prop} {W : List Addr} {S S' : Sto} {σp : PS} {d : List Vl} (st : StOK K H W S) (rs : RepS K H W σ σp) (e : f σp S = some (d, S'))
    (q : ∀ v H' W', Ext H W H' W' → StOK K H' W' S' → RepS K H' W' σ σp → RepLs K H' W' v d → Q v H') : tEVs K f σ H Q :=
  ⟨W, S, σp, d, S', st, rs, e, fun v H' W' x s r => q v H' W' x s (rs.ext st x) r⟩
theorem evs_cons {e : Expr} {es : List Expr} {f : Ex} {g : Exs} (h1 : EV X e f) (h2 : EVs X es g) (hs : starEach (e :: es) X.env = (false, eval e X.env) :: starEach es X.env := by rfl) : EVs X (e :: es) (sCons f g) :=
  PA.weak (pa_cons h1 h2 hs) fun σ H Q q => by
    obtain ⟨W, S, σp, d, S', st, rs, e, q⟩ := q
    unfold sCons at e
    split at e
    · cases e
    · rename_i x S1 e1
      split at e
      · cases e
      · rename_i xs S2 e2
        cases e
        refine tEV_mk st rs e1 fun v H1 W1 x1 st1 rs1 r1 => ?_
        refine tEVs_mk st1 rs1 e2 fun vs H2 W2 x2 st2 rs2 r2 => ?_
        exact q _ _ _ (x1.trans x2) st2 (.cons (r1.ext st1 x2) r2)

/-! ### displays -/
def sTup (f : Exs) : Ex := fun σ S => match f σ S with
  | none => none
  | some (xs, S1) => match purs xs with
    | some ds => match decide (ds.length ≤ sizeLine) with
      | true => some (.p (.tup ds), S1)
      | false => none
    | none => none
def sLst (f : Exs) : Ex := fun σ S => match f σ S with
  | none => none
  | some (xs, S1) => match purs xs with
    | some ds => match decide (ds.length ≤ sizeLine) with
      | true => some (.p (.lst ds), S1)
      | false => none
    | none => none
/-- a list of the store -/
def sMut (f : Exs) : Ex := fun σ S => match f σ S with
  | none => none
  | some (xs, S1) => match purs xs with
    | some ds => match decide (ds.length ≤ sizeLine) with
      | true => some (.m S1.length, S1 ++ [ds])
      | false => none
    | none => none
theorem ev_tup {es : List Expr} {k : Nat} {f : Exs} (h : EVs X es f) : EV X (.Tuple es k pos) (sTup f) := PE.weak (pe_tup h) fun σ H Q q => by
  obtain ⟨W, S, σp, d, S', st, rs, e, q⟩ := q
  unfold sTup at e
  split at e
  · cases e
  · rename_i xs S1 e1
    split at e
    · rename_i ds e2
      split at e
      · rename_i e3
        cases e
        refine tEVs_mk st rs e1 fun vs H1 W1 x1 st1 rs1 r1 => ?_
        rw [purs_eq e2] at r1
        have r := r1.pure
        refine ⟨by rw [r.length]; exact of_decide_eq_true e3, ?_⟩
        exact Res.tup (W := W1) (fun v H2 s r => q v H2 W1 (x1.trans (.same s)) (st1.same s) (.p r)) st1 r
      · cases e
    · cases e
theorem ev_lst {es : List Expr} {f : Exs} (h : EVs X es f) : EV X (.List es pos) (sLst f) := PE.weak (pe_lst h) fun σ H Q q => by
  obtain ⟨W, S, σp, d, S', st, rs, e, q⟩ := q
  unfold sLst at e
  split at e
  · cases e
  · rename_i xs S1 e1
    split at e
    · rename_i ds e2
      split at e
      · rename_i e3
        cases e
        refine tEVs_mk st rs e1 fun vs H1 W1 x1 st1 rs1 r1 => ?_
        rw [purs_eq e2] at r1
        have r := r1.pure
        refine ⟨by rw [r.length]; exact of_decide_eq_true e3, ?_⟩
        exact Res.lst (W := W1) (fun v H2 s r => q v H2 W1 (x1.trans (.same s)) (st1.same s) (.p r)) st1 r
      · cases e
    · cases e
theorem ev_mut {es : List Expr} {f : Exs} (h : EVs X es f) : EV X (.List es pos) (sMut f) := PE.weak (pe_lst h) fun σ H Q q => by
  obtain ⟨W, S, σp, d, S', st, rs, e, q⟩ := q
  unfold sMut at e
  split at e
  · cases e
  · rename_i xs S1 e1
    split at e
    · rename_i ds e2
      split at e
      · rename_i e3
        cases e
        refine tEVs_mk st rs e1 fun vs H1 W1 x1 st1 rs1 r1 => ?_
        rw [purs_eq e2] at r1
        have r := r1.pure
        refine ⟨by rw [r.length]; exact of_decide_eq_true e3, fun p hp => ?_⟩
        have np : p ∉ W1 := notin_new st1 hp
        have sm : Same H1 (upd H1 p (.lst vs)) := same_upd hp _
        have x2 : Ext H1 W1 (upd H1 p (.lst vs)) (W1 ++ [p]) := ⟨fun b u h _ => sm b u h, fun b u h n z => (List.mem_append.mp z).elim n fun z => (by rw [List.mem_singleton.mp z, hp] at h; cases h), [p], rfl⟩
        refine q _ _ (W1 ++ [p]) (x1.trans x2) ⟨by simp [st1.len], ?_, fun i a hi => ?_⟩ (.m (by rw [← st1.len]; simp))
        · rw [List.nodup_append]
          exact ⟨st1.nd, by simp, fun a ha b hb => by
            rw [List.mem_singleton.mp hb]
            rintro rfl
            exact np ha⟩
        · by_cases hl : i < W1.length
          · rw [List.getElem?_append_left hl] at hi
            obtain ⟨ds', vs', e1, e2, r'⟩ := st1.at_ i a hi
            exact ⟨ds', vs', by rw [List.getElem?_append_left (by rw [← st1.len]; exact hl)]; exact e1, sm _ _ e2, r'.ext st1 x2⟩
          · have hl2 : i < (W1 ++ [p]).length := (List.getElem?_eq_some_iff.mp hi).1
            have ei : i = W1.length := by rw [List.length_append, List.length_singleton] at hl2; omega
            subst ei
            rw [List.getElem?_append_right (Nat.le_refl _)] at hi
            simp at hi
            subst hi
            refine ⟨ds, vs, by rw [st1.len]; simp, upd_same, r.ext st1 x2⟩
      · cases e
    · cases e
end
end EV

set_option Elab.async false
set_option linter.all false
set_option maxRecDepth 100000
namespace EV
open PySem PySem.Spec PyProof.Rows L2

section
variable {K : PySem.W.Frag} {H : Hp} {W : List Addr} {x : V}
theorem Lk.int {i : Int} (h : Lk K H W x (.int i)) : x = .int i := by
  cases h with
  | rep h => cases h; rfl
theorem Lk.bl {i : Bool} (h : Lk K H W x (.bl i)) : x = .bl i := by
  cases h with
  | rep h => cases h; rfl
theorem Lk.str {i : Str} (h : Lk K H W x (.str i)) : x = .str i := by
  cases h with
  | rep h => cases h; rfl
theorem Lk.non (h : Lk K H W x .non) : x = .non := by
  cases h with
  | rep h => cases h; rfl
theorem Lk.tup {ds : List D} (h : Lk K H W x (.tup ds)) : ∃ a xs, x = .ref a ∧ SqT K H a xs ∧ Reps K H W xs ds := by
  cases h with
  | rep h => cases h with
    | tup h r => exact ⟨_, _, rfl, h, r⟩
theorem Lk.lst' {ds : List D} (h : Lk K H W x (.lst ds)) : ∃ a xs, x = .ref a ∧ H a = some (.lst xs) ∧ Reps K H W xs ds := by
  cases h with
  | rep h => cases h with
    | lst h _ r => exact ⟨_, _, rfl, h, r⟩
  | lst h r => exact ⟨_, _, rfl, h, r⟩
end

/-! ### operations by values -/
def OpD (X : Cx) (f : Value → Value → Sem Value) (g : D → D → Option D) : Prop :=
  ∃ r : R2, OpR X f r ∧ ∀ (H : Hp) (W : List Addr) (S : Sto) (x y : V) (a b d : D) (Q : VK), StOK X.K H W S → Lk X.K H W x a → Lk X.K H W y b → g a b = some d → Res X.K H W d Q → r x y H Q
/-- both sides, then the operation -/
def s2 (g : D → D → Option D) (fa fb : Ex) : Ex := fun σ S => match fa σ S with
  | none => none
  | some (x, S1) => match fb σ S1 with
    | none => none
    | some (y, S2) => match rd S2 x, rd S2 y with
      | some a, some b => match g a b with
        | some d => some (.p d, S2)
        | none => none
      | _, _ => none
theorem op2_go {X : Cx} {f : Value → Value → Sem Value} {g : D → D → Option D} {r : R2} {fa fb : Ex}
    (hr : ∀ (H : Hp) (W : List Addr) (S : Sto) (x y : V) (a b d : D) (Q : VK), StOK X.K H W S → Lk X.K H W x a → Lk X.K H W y b → g a b = some d → Res X.K H W d Q → r x y H Q)
    (σ : L2.St) (H : Hp) (Q : VK) (q : tEV X.K (s2 g fa fb) σ H Q) : tOp r (tEV X.K fa) (tEV X.K fb) σ H Q := by
  obtain ⟨W, S, σp, d, S', st, rs, e, q⟩ := q
  unfold s2 at e
  split at e
  · cases e
  · rename_i x S1 e1
    split at e
    · cases e
    · rename_i y S2 e2
      split at e
      · rename_i a b ea eb
        split at e
        · rename_i d' e3
          cases e
          refine tEV_mk st rs e1 fun v H1 W1 x1 st1 rs1 r1 => ?_
          refine tEV_mk st1 rs1 e2 fun u H2 W2 x2 st2 rs2 r2 => ?_
          refine hr H2 W2 _ v u a b d' Q st2 (lk_of st2 (r1.ext st1 x2) ea) (lk_of st2 r2 eb) e3 fun z H3 s3 r3 => ?_
          exact q z H3 W2 ((x1.trans x2).trans (.same s3)) (st2.same s3) (.p r3)
        · cases e
      · cases e
section
variable {X : Cx} {a b c : Expr} {pos : Pos} {fa fb fc : Ex}
theorem ev_bin {op : Operator} {g : D → D → Option D} (ho : OpD X (binaryOp op) g) (ha : EV X a fa) (hb : EV X b fb) : EV X (.BinOp a op b pos) (s2 g fa fb) := by
  obtain ⟨r, h1, h2⟩ := ho
  exact PE.weak (pe_op h1 ha hb) (op2_go (f := binaryOp op) h2)
theorem ev_cmp {op : CmpOp} {g : D → D → Option D} (ho : OpD X (compareOp op) g) (ha : EV X a fa) (hb : EV X b fb) (hm : behindInMarks op b = false) : EV X (.Compare a [op] [b] pos) (s2 g fa fb) := by
  obtain ⟨r, h1, h2⟩ := ho
  exact PE.weak (pe_cmpR h1 ha hb hm) (op2_go (f := compareOp op) h2)
/-- a op b op' c -/
def sChain (g g' : D → D → Option D) (fa fb fc : Ex) : Ex := fun σ S => match fa σ S with
  | none => none
  | some (x, S1) => match fb σ S1 with
    | none => none
    | some (y, S2) => match rd S2 x, rd S2 y with
      | some a, some b => match g a b with
        | some (.bl false) => some (.p (.bl false), S2)
        | some (.bl true) => match fc σ S2 with
          | none => none
          | some (z, S3) => match rd S3 y, rd S3 z with
            | some b, some c => match g' b c with
              | some d => some (.p d, S3)
              | none => none
            | _, _ => none
        | _ => none
      | _, _ => none
theorem ev_chain {op op' : CmpOp} {g g' : D → D → Option D} (ho : OpD X (compareOp op) g) (ho' : OpD X (compareOp op') g') (ha : EV X a fa) (hb : EV X b fb) (hc : EV X c fc)
    (hm : lastMarks [op, op'] [b, c] = false := by with_unfolding_all rfl) : EV X (.Compare a [op, op'] [b, c] pos) (sChain g g' fa fb fc) := by
  obtain ⟨r, h1, h2⟩ := ho
  obtain ⟨r', h1', h2'⟩ := ho'
  refine PE.weak (pe_chain h1 h1' ha hb hc hm) fun σ H Q q => ?_
  obtain ⟨W, S, σp, d, S', st, rs, e, q⟩ := q
  unfold sChain at e
  split at e
  · cases e
  · rename_i x S1 e1
    split at e
    · cases e
    · rename_i y S2 e2
      split at e
      · rename_i da db ea eb
        refine tEV_mk st rs e1 fun v H1 W1 x1 st1 rs1 r1 => ?_
        refine tEV_mk st1 rs1 e2 fun u H2 W2 x2 st2 rs2 r2 => ?_
        have lk1 := lk_of st2 (r1.ext st1 x2) ea
        have lk2 := lk_of st2 r2 eb
        split at e
        · rename_i e3
          cases e
          refine h2 H2 W2 _ v u da db _ _ st2 lk1 lk2 e3 fun z H3 s3 r3 => ?_
          cases r3
          exact ⟨false, rfl, q _ H3 W2 ((x1.trans x2).trans (.same s3)) (st2.same s3) (.p (.bl false))⟩
        · rename_i e3
          split at e
          · cases e
          · rename_i z S3 e4
            split at e
            · rename_i db' dc eb' ec
              split at e
              · rename_i d' e5
                cases e
                refine h2 H2 W2 _ v u da db _ _ st2 lk1 lk2 e3 fun z' H3 s3 r3 => ?_
                cases r3
                refine ⟨true, rfl, ?_⟩
                have st3 := st2.same s3
                have rs3 := rs2.ext st2 (Ext.same s3)
                refine tEV_mk st3 rs3 e4 fun t H4 W4 x4 st4 rs4 r4 => ?_
                refine h2' H4 W4 _ u t db' dc d' Q st4 (lk_of st4 ((r2.ext st2 (.same s3)).ext st3 x4) eb') (lk_of st4 r4 ec) e5 fun z5 H5 s5 r5 => ?_
                exact q z5 H5 W4 ((((x1.trans x2).trans (.same s3)).trans x4).trans (.same s5)) (st4.same s5) (.p r5)
              · cases e
            · cases e
        · cases e
      · cases e
end

/-! ### arithmetic -/
def dAdd : D → D → Option D
  | .int i, .int j => some (.int (i + j))
  | .tup xs, .tup ys => match decide (xs.length + ys.length ≤ sizeLine) with
    | true => some (.tup (xs ++ ys))
    | false => none
  | .lst xs, .lst ys => match decide (xs.length + ys.length ≤ sizeLine) with
    | true => some (.lst (xs ++ ys))
    | false => none
  | .str x, .str y => match decide (x.length + y.length ≤ sizeLine) with
    | true => some (.str (x ++ y))
    | false => none
  | _, _ => none
def dInt (f : Int → Int → Option Int) : D → D → Option D
  | .int i, .int j => (f i j).map .int
  | _, _ => none
def mulOk (i j : Int) : Bool := decide (-(2 ^ 64) < i ∧ i < 2 ^ 64) || decide (-(2 ^ 64) < j ∧ j < 2 ^ 64)
def dMul : D → D → Option D
  | .int i, .int j => match mulOk i j with
    | true => some (.int (i * j))
    | false => none
  | .lst xs, .int k => match decide (0 ≤ k ∧ k < 2 ^ 20 ∧ xs.length * k.toNat ≤ sizeLine) with
    | true => some (.lst (List.replicate k.toNat xs).flatten)
    | false => none
  | .tup xs, .int k => match decide (2 ≤ k ∧ k ≤ 1000 ∧ 0 < xs.length ∧ xs.length ≤ 1000) with
    | true => some (.tup (List.replicate k.toNat xs).flatten)
    | false => none
  | _, _ => none
abbrev dSub : D → D → Option D := dInt fun i j => some (i - j)
abbrev dFDiv : D → D → Option D := dInt fun i j => match decide (j ≠ 0 ∧ j.natAbs < 1073741824) with
  | true => some (i.fdiv j)
  | false => none
abbrev dMod : D → D → Option D := dInt fun i j => match decide (j ≠ 0) with
  | true => some (i.fmod j)
  | false => none
abbrev dPow : D → D → Option D := dInt fun i j => match decide (0 ≤ j ∧ j ≤ 1000000 ∧ i.natAbs < 2 ^ 64) with
  | true => some (i ^ j.toNat)
  | false => none
theorem reps_flat {K : PySem.W.Frag} {H : Hp} {W : List Addr} {xs : List V} {ds : List D} (r : Reps K H W xs ds) : ∀ n : Nat, Reps K H W (List.replicate n xs).flatten (List.replicate n ds).flatten
  | 0 => .nil
  | n + 1 => by
    rw [List.replicate_succ, List.flatten_cons, List.replicate_succ, List.flatten_cons]
    exact r.append (reps_flat r n)
section
variable {X : Cx}
theorem od_add : OpD X (binaryOp .Add) dAdd := by
  refine ⟨_, op_add.or (op_catA.or (op_cat.or op_add_str)), fun H W S x y a b d Q st ha hb e q => ?_⟩
  unfold dAdd at e
  split at e
  · cases e
    exact .inl ⟨_, _, ha.int, hb.int, q.here (.int _)⟩
  · split at e
    · rename_i xs ys _ hz
      have hz := of_decide_eq_true hz
      cases e
      obtain ⟨p, us, rfl, h1, r1⟩ := ha.tup
      obtain ⟨p', us', rfl, h2, r2⟩ := hb.tup
      have l1 := r1.length
      have l2 := r2.length
      refine .inr (.inl ⟨p, p', us, us', rfl, rfl, h1, h2, by omega, fun z => q.here ?_, fun _ z => q.here ?_, fun _ _ => q.tup st (r1.append r2)⟩)
      · have : xs = [] := r1.nil_iff.mp z
        subst this
        exact .tup h2 r2
      · have : ys = [] := r2.nil_iff.mp z
        subst this
        rw [List.append_nil]
        exact .tup h1 r1
    · cases e
  · split at e
    · rename_i xs ys _ hz
      have hz := of_decide_eq_true hz
      cases e
      obtain ⟨p, us, rfl, h1, r1⟩ := ha.lst'
      obtain ⟨p', us', rfl, h2, r2⟩ := hb.lst'
      have l1 := r1.length
      have l2 := r2.length
      exact .inr (.inr (.inl ⟨p, p', us, us', rfl, rfl, h1, h2, by omega, q.lst st (r1.append r2)⟩))
    · cases e
  · split at e
    · rename_i hz
      cases e
      exact .inr (.inr (.inr ⟨_, _, ha.str, hb.str, of_decide_eq_true hz, q.here (.str _)⟩))
    · cases e
  · cases e
theorem od_int {op : Operator} {f : Int → Int → Option Int} {C : Int → Int → Prop} {g : Int → Int → Int} (h : OpR X (binaryOp op) (rI C fun i j => .int (g i j))) (hf : ∀ i j k, f i j = some k → C i j ∧ k = g i j) : OpD X (binaryOp op) (dInt f) := by
  refine ⟨_, h, fun H W S x y a b d Q st ha hb e q => ?_⟩
  unfold dInt at e
  split at e
  · rename_i i j
    cases e1 : f i j with
    | none => rw [e1] at e; cases e
    | some k =>
      rw [e1] at e
      cases e
      obtain ⟨c, rfl⟩ := hf _ _ _ e1
      exact ⟨_, _, ha.int, hb.int, c, q.here (.int _)⟩
  · cases e
theorem od_sub : OpD X (binaryOp .Sub) dSub := by
  refine ⟨_, op_sub, fun H W S x y a b d Q st ha hb e q => ?_⟩
  unfold dSub dInt at e
  split at e
  · cases e
    exact ⟨_, _, ha.int, hb.int, q.here (.int _)⟩
  · cases e
theorem od_fdiv : OpD X (binaryOp .FloorDiv) dFDiv := od_int op_fdivN fun i j k e => by
  split at e
  · rename_i h
    cases e
    have h := of_decide_eq_true h
    exact ⟨h, rfl⟩
  · cases e
theorem od_mod : OpD X (binaryOp .Mod) dMod := od_int op_modN fun i j k e => by
  split at e
  · rename_i h
    cases e
    have h := of_decide_eq_true h
    exact ⟨h, rfl⟩
  · cases e
theorem od_pow : OpD X (binaryOp .Pow) dPow := od_int op_pow fun i j k e => by
  split at e
  · rename_i h
    cases e
    have h := of_decide_eq_true h
    exact ⟨h, rfl⟩
  · cases e
theorem od_mul : OpD X (binaryOp .Mult) dMul := by
  refine ⟨_, op_mul.or (op_rep.or op_repT), fun H W S x y a b d Q st ha hb e q => ?_⟩
  unfold dMul at e
  split at e
  · split at e
    · rename_i i j _ h
      cases e
      refine .inl ⟨_, _, ha.int, hb.int, ?_, q.here (.int _)⟩
      rcases Bool.or_eq_true_iff.mp h with h | h
      · exact .inl (of_decide_eq_true h)
      · exact .inr (of_decide_eq_true h)
    · cases e
  · split at e
    · rename_i xs k _ h
      have h := of_decide_eq_true h
      cases e
      obtain ⟨p, us, rfl, h1, r1⟩ := ha.lst'
      have l1 := r1.length
      exact .inr (.inl ⟨p, k, us, rfl, hb.int, h1, by omega, by omega, by rw [l1]; exact h.2.2, q.lst st (reps_flat r1 _)⟩)
    · cases e
  · split at e
    · rename_i xs k _ h
      have h := of_decide_eq_true h
      cases e
      obtain ⟨p, us, rfl, h1, r1⟩ := ha.tup
      have l1 := r1.length
      exact .inr (.inr ⟨p, k, us, rfl, hb.int, h1, fun z => by rw [z, List.length_nil] at l1; omega, h.1, h.2.1, by omega, q.tup st (reps_flat r1 _)⟩)
    · cases e
  · cases e
end
end EV

set_option Elab.async false
set_option linter.all false
set_option maxRecDepth 100000
namespace EV
open PySem PySem.Spec PyProof.Rows L2

/-! ### == -/
mutual
def eqv : D → D → Bool
  | .non, .non => true
  | .bl a, .bl b => a == b
  | .bl a, .int j => (if a then 1 else 0) == j
  | .int i, .bl b => i == (if b then 1 else 0)
  | .int i, .int j => i == j
  | .str x, .str y => x == y
  | .lst xs, .lst ys => eqvs xs ys
  | .tup xs, .tup ys => eqvs xs ys
  | _, _ => false
def eqvs : List D → List D → Bool
  | [], [] => true
  | x :: xs, y :: ys => eqv x y && eqvs xs ys
  | _, _ => false
end
mutual
def toPy : D → PyData
  | .non => .none
  | .bl b => .bool b
  | .int i => .int i
  | .str x => .str x
  | .tup xs => .tuple (toPys xs)
  | .lst xs => .list (toPys xs)
  | .dct _ _ => .dict []
  | .set _ => .dict []
  | .scr _ => .dict []
def toPys : List D → List PyData
  | [] => []
  | x :: xs => toPy x :: toPys xs
end
mutual
/-- data that == and in may look at: so deep at most -/
def okD : Nat → D → Bool
  | _, .non => true
  | _, .bl _ => true
  | _, .int _ => true
  | _, .str x => PyData.strOk x
  | 0, _ => false
  | n + 1, .tup xs => okDs n xs
  | n + 1, .lst xs => okDs n xs
  | _, _ => false
def okDs : Nat → List D → Bool
  | _, [] => true
  | n, x :: xs => okD n x && okDs n xs
end
mutual
theorem ok_lay : ∀ (n : Nat) (d : D), okD n d = true → (toPy d).canLay0 = true ∧ (toPy d).depth ≤ n
  | n, .non, _ => by simp [toPy, PyData.canLay0, PyData.depth]
  | n, .bl _, _ => by simp [toPy, PyData.canLay0, PyData.depth]
  | n, .int _, _ => by simp [toPy, PyData.canLay0, PyData.depth]
  | n, .str x, h => by
    have h' : PyData.strOk x = true := by cases n <;> exact h
    simp [toPy, PyData.canLay0, PyData.depth, h']
  | 0, .tup _, h => by cases h
  | 0, .lst _, h => by cases h
  | n + 1, .tup xs, h => by
    obtain ⟨a, b⟩ := ok_lays n xs h
    simp only [toPy, PyData.canLay0, PyData.depth]
    exact ⟨a, by omega⟩
  | n + 1, .lst xs, h => by
    obtain ⟨a, b⟩ := ok_lays n xs h
    simp only [toPy, PyData.canLay0, PyData.depth]
    exact ⟨a, by omega⟩
  | 0, .dct _ _, h => by cases h
  | 0, .set _, h => by cases h
  | 0, .scr _, h => by cases h
  | _ + 1, .dct _ _, h => by cases h
  | _ + 1, .set _, h => by cases h
  | _ + 1, .scr _, h => by cases h
theorem ok_lays : ∀ (n : Nat) (ds : List D), okDs n ds = true → PyData.canLayAll0 (toPys ds) = true ∧ PyData.depthAll (toPys ds) ≤ n
  | n, [], _ => by simp [toPys, PyData.canLayAll0, PyData.depthAll]
  | n, x :: xs, h => by
    unfold okDs at h
    obtain ⟨h1, h2⟩ := Bool.and_eq_true_iff.mp h
    obtain ⟨a, b⟩ := ok_lay n x h1
    obtain ⟨c, d⟩ := ok_lays n xs h2
    simp only [toPys, PyData.canLayAll0, PyData.depthAll, a, c, Bool.and_self]
    exact ⟨trivial, by omega⟩
end
theorem ok_shaped {d : D} (h : okD 64 d = true) : SeqAt.shaped (toPy d) = true := by
  obtain ⟨a, b⟩ := ok_lay 64 d h
  unfold SeqAt.shaped
  rw [a, decide_eq_true b]
  rfl
mutual
theorem eqv_py : ∀ (n m : Nat) (a b : D), okD n a = true → okD m b = true → PyData.eqv (toPy a) (toPy b) = eqv a b
  | n, m, a, b, ha, hb => by
    cases a <;> cases b <;> (try (cases n <;> cases ha; done)) <;> (try (cases m <;> cases hb; done)) <;> (try (simp only [toPy, PyData.eqv, eqv]; done))
    all_goals first
      | rfl
      | (rename_i xs ys
         cases n with
         | zero => cases ha
         | succ n =>
           cases m with
           | zero => cases hb
           | succ m =>
             simp only [toPy, PyData.eqv, eqv]
             exact eqvs_py n m xs ys ha hb)
theorem eqvs_py : ∀ (n m : Nat) (as bs : List D), okDs n as = true → okDs m bs = true → PyData.eqvAll (toPys as) (toPys bs) = eqvs as bs
  | _, _, [], [], _, _ => rfl
  | _, _, [], _ :: _, _, _ => rfl
  | _, _, _ :: _, [], _, _ => rfl
  | n, m, a :: as, b :: bs, ha, hb => by
    unfold okDs at ha hb
    obtain ⟨h1, h2⟩ := Bool.and_eq_true_iff.mp ha
    obtain ⟨h3, h4⟩ := Bool.and_eq_true_iff.mp hb
    simp only [toPys, PyData.eqvAll, eqvs]
    rw [eqv_py n m a b h1 h3, eqvs_py n m as bs h2 h4]
end
section
variable {K : PySem.W.Frag} {H : Hp} {W : List Addr}
mutual
theorem Rep.dp : ∀ {v : V} {d : D} (n : Nat), Rep K H W v d → okD n d = true → Dp K H v (toPy d)
  | _, _, _, .non, _ => by simp only [toPy]; exact .non
  | _, _, _, .bl b, _ => by simp only [toPy]; exact .bl b
  | _, _, _, .int b, _ => by simp only [toPy]; exact .int b
  | _, _, _, .str b, _ => by simp only [toPy]; exact .str b
  | _, _, n, .tup h r, k => by
    cases n with
    | zero => cases k
    | succ n => simp only [toPy]; exact .tup h (Reps.dp n r k)
  | _, _, n, .lst h _ r, k => by
    cases n with
    | zero => cases k
    | succ n => simp only [toPy]; exact .lst (SqL.of h) (Reps.dp n r k)
  | _, _, n, .scr _ _, k => by cases n <;> cases k
  | _, _, n, .dk _ _ _, k => by cases n <;> cases k
  | _, _, n, .dt _ _ _, k => by cases n <;> cases k
theorem Reps.dp : ∀ {vs : List V} {ds : List D} (n : Nat), Reps K H W vs ds → okDs n ds = true → DpAll K H vs (toPys ds)
  | _, _, _, .nil, _ => by simp only [toPys]; exact .nil
  | _, _, n, .cons a b, k => by
    unfold okDs at k
    obtain ⟨h1, h2⟩ := Bool.and_eq_true_iff.mp k
    simp only [toPys]
    exact .cons (Rep.dp n a h1) (Reps.dp n b h2)
end
theorem Lk.dp {v : V} {d : D} (n : Nat) (h : Lk K H W v d) (k : okD n d = true) : Dp K H v (toPy d) := by
  cases h with
  | rep h => exact h.dp n k
  | lst h r =>
    cases n with
    | zero => cases k
    | succ n => simp only [toPy]; exact .lst (SqL.of h) (Reps.dp n r k)
end
def dEqB (p : Bool → Bool) (a b : D) : Option D := match okD 64 a && okD 64 b with
  | true => some (.bl (p (eqv a b)))
  | false => none
abbrev dEq : D → D → Option D := dEqB id
abbrev dNe : D → D → Option D := dEqB not
section
variable {X : Cx}
theorem od_eq (hu : X.A.units + 64 < cLine) : OpD X (compareOp .Eq) dEq := by
  refine ⟨_, op_eqD hu, fun H W S x y a b d Q st ha hb e q => ?_⟩
  unfold dEq dEqB at e
  split at e
  · rename_i h
    obtain ⟨h1, h2⟩ := Bool.and_eq_true_iff.mp h
    cases e
    exact ⟨toPy a, toPy b, ha.dp 64 h1, hb.dp 64 h2, ok_shaped h1, ok_shaped h2, by rw [eqv_py 64 64 a b h1 h2]; exact q.here (.bl _)⟩
  · cases e
theorem od_ne (hu : X.A.units + 64 < cLine) : OpD X (compareOp .NotEq) dNe := by
  refine ⟨_, op_neD hu, fun H W S x y a b d Q st ha hb e q => ?_⟩
  unfold dNe dEqB at e
  split at e
  · rename_i h
    obtain ⟨h1, h2⟩ := Bool.and_eq_true_iff.mp h
    cases e
    exact ⟨toPy a, toPy b, ha.dp 64 h1, hb.dp 64 h2, ok_shaped h1, ok_shaped h2, by rw [eqv_py 64 64 a b h1 h2]; exact q.here (.bl _)⟩
  · cases e

/-! ### order -/
/-- the ints of a tuple -/
def intsOf : List D → Option (List Int)
  | [] => some []
  | .int i :: r => (intsOf r).map (i :: ·)
  | _ => none
theorem intsOf_eq : ∀ {ds : List D} {ns : List Int}, intsOf ds = some ns → ds = ns.map D.int
  | [], _, h => by cases h; rfl
  | .int i :: r, ns, h => by
    unfold intsOf at h
    cases e : intsOf r with
    | none => rw [e] at h; cases h
    | some ms => rw [e] at h; cases h; rw [List.map_cons, ← intsOf_eq e]
  | .non :: _, _, h => by cases h
  | .bl _ :: _, _, h => by cases h
  | .str _ :: _, _, h => by cases h
  | .tup _ :: _, _, h => by cases h
  | .lst _ :: _, _, h => by cases h
  | .dct _ _ :: _, _, h => by cases h
  | .set _ :: _, _, h => by cases h
  | .scr _ :: _, _, h => by cases h
theorem reps_ints {K : PySem.W.Frag} {H : Hp} {W : List Addr} : ∀ {ns : List Int} {vs : List V}, Reps K H W vs (ns.map D.int) → vs = ns.map V.int
  | [], _, h => by cases h; rfl
  | n :: ns, _, h => by
    cases h with
    | cons a b => cases a; rw [List.map_cons, ← reps_ints b]
def dLt : D → D → Option D
  | .int i, .int j => some (.bl (decide (i < j)))
  | .str x, .str y => some (.bl (decide (x.cps.toList < y.cps.toList)))
  | .tup xs, .tup ys => match intsOf xs, intsOf ys with
    | some ns, some ms => some (.bl (HT.lexLt ns ms))
    | _, _ => none
  | _, _ => none
def dCmp (p : Int → Int → Bool) : D → D → Option D
  | .int i, .int j => some (.bl (p i j))
  | _, _ => none
abbrev dLe := dCmp fun i j => decide (i ≤ j)
abbrev dGt := dCmp fun i j => decide (j < i)
abbrev dGe := dCmp fun i j => decide (j ≤ i)
theorem od_cmp {op : CmpOp} {p : Int → Int → Bool} (h : OpR X (compareOp op) (rI0 fun i j => .bl (p i j))) : OpD X (compareOp op) (dCmp p) := by
  refine ⟨_, h, fun H W S x y a b d Q st ha hb e q => ?_⟩
  unfold dCmp at e
  split at e
  · cases e
    exact ⟨_, _, ha.int, hb.int, q.here (.bl _)⟩
  · cases e
theorem od_le : OpD X (compareOp .LtE) dLe := od_cmp op_le
theorem od_gt : OpD X (compareOp .Gt) dGt := od_cmp op_gt
theorem od_ge : OpD X (compareOp .GtE) dGe := od_cmp op_ge
theorem od_lt (hu : X.A.units < cLine) : OpD X (compareOp .Lt) dLt := by
  refine ⟨_, op_lt.or (op_lt_str.or (op_ltT hu)), fun H W S x y a b d Q st ha hb e q => ?_⟩
  unfold dLt at e
  split at e
  · cases e
    exact .inl ⟨_, _, ha.int, hb.int, q.here (.bl _)⟩
  · cases e
    exact .inr (.inl ⟨_, _, ha.str, hb.str, q.here (.bl _)⟩)
  · split at e
    · rename_i e1 e2
      cases e
      obtain ⟨p, us, rfl, h1, r1⟩ := ha.tup
      obtain ⟨p', us', rfl, h2, r2⟩ := hb.tup
      rw [intsOf_eq e1] at r1
      rw [intsOf_eq e2] at r2
      rw [reps_ints r1] at h1
      rw [reps_ints r2] at h2
      exact .inr (.inr ⟨p, p', _, _, rfl, rfl, h1, h2, q.here (.bl _)⟩)
    · cases e
  · cases e

/-! ### is -/
def isNon : D → Bool
  | .non => true
  | _ => false
def dIs (p : Bool → Bool) : D → D → Option D
  | a, .non => some (.bl (p (isNon a)))
  | .bl a, .bl b => some (.bl (p (a == b)))
  | .non, .bl _ => some (.bl (p false))
  | .int _, .bl _ => some (.bl (p false))
  | .tup _, .bl _ => some (.bl (p false))
  | _, _ => none
theorem lk_non {K : PySem.W.Frag} {H : Hp} {W : List Addr} {v : V} {d : D} (h : Lk K H W v d) : decide (v = .non) = isNon d := by
  cases h with
  | rep h => cases h <;> simp [isNon]
  | lst h r => simp [isNon]
end
end EV

set_option Elab.async false
set_option linter.all false
set_option maxRecDepth 100000
namespace EV
open PySem PySem.Spec PyProof.Rows L2

/-! ### tests -/
def tEVT (K : PySem.W.Frag) (f : Ex) : TT := fun σ H Q => ∃ W S σp b S', StOK K H W S ∧ RepS K H W σ σp ∧ f σp S = some (.p (.bl b), S') ∧ ∀ H' W', Ext H W H' W' → StOK K H' W' S' → Q b H'
def ET (X : Cx) (e : Expr) (f : Ex) : Prop := PT X e (tEVT X.K f)
def ETW (X : Cx) (e : Expr) (f : Ex) : Prop := PW X e (tEVT X.K f)
theorem PT.weak {X : Cx} {e : Expr} {t t' : TT} (h : PT X e t) (w : ∀ σ H Q, t' σ H Q → t σ H Q) : PT X e t' := ⟨fun pins s σ H Q I q => h.run pins s σ H Q I (w σ H Q q)⟩
theorem PW.weak {X : Cx} {e : Expr} {t t' : TT} (h : PW X e t) (w : ∀ σ H Q, t' σ H Q → t σ H Q) : PW X e t' := ⟨fun wh pins s σ H Q I q => h.run wh pins s σ H Q I (w σ H Q q)⟩
theorem tEVT_mk {K : PySem.W.Frag} {f : Ex} {σ : L2.St} {H : Hp} {Q : Bool → Hp → Prop} {W : List Addr} {S S' : Sto} {σp : PS} {d : Bool} (st : StOK K H W S) (rs : RepS K H W σ σp) (e : f σp S = some (.p (.bl d), S'))
    (q : ∀ H' W', Ext H W H' W' → StOK K H' W' S' → RepS K H' W' σ σp → Q d H') : tEVT K f σ H Q :=
  ⟨W, S, σp, d, S', st, rs, e, fun H' W' x s => q H' W' x s (rs.ext st x)⟩
/-- a test's meaning as a value's -/
theorem tEVT_val {K : PySem.W.Frag} {f : Ex} {σ : L2.St} {H : Hp} {Q : Bool → Hp → Prop} (q : tEVT K f σ H Q) : tEV K f σ H fun x H1 => ∃ k, x = .bl k ∧ Q k H1 := by
  obtain ⟨W, S, σp, d, S', st, rs, e, q⟩ := q
  refine tEV_mk st rs e fun v H1 W1 x1 st1 rs1 r1 => ?_
  cases r1 with
  | p r1 => cases r1; exact ⟨d, rfl, q H1 W1 x1 st1⟩
def sAnd (fa fb : Ex) : Ex := fun σ S => match fa σ S with
  | some (.p (.bl true), S1) => fb σ S1
  | some (.p (.bl false), S1) => some (.p (.bl false), S1)
  | _ => none
def sOr (fa fb : Ex) : Ex := fun σ S => match fa σ S with
  | some (.p (.bl false), S1) => fb σ S1
  | some (.p (.bl true), S1) => some (.p (.bl true), S1)
  | _ => none
def sNot (fa : Ex) : Ex := fun σ S => match fa σ S with
  | some (.p (.bl b), S1) => some (.p (.bl (!b)), S1)
  | _ => none
/-- a if t else b -/
def sIf (ft fa fb : Ex) : Ex := fun σ S => match ft σ S with
  | some (.p (.bl true), S1) => fa σ S1
  | some (.p (.bl false), S1) => fb σ S1
  | _ => none
section
variable {X : Cx} {a b c : Expr} {rest : List Expr} {pos : Pos} {fa fb fc : Ex}
theorem et_val (h : EV X a fa) (he : ∀ whole, isTrue a X.env whole = (do let v ← whole; standAt a.pos; holding [v] (truthy v)) := by intro _; rfl) : ET X a fa := PT.weak (pt_val h he) fun σ H Q q => tEVT_val q
theorem et_cmp {op : CmpOp} {g : D → D → Option D} (ho : OpD X (compareOp op) g) (ha : EV X a fa) (hb : EV X b fb) (hm : behindInMarks op b = false) : ET X (.Compare a [op] [b] pos) (s2 g fa fb) := by
  obtain ⟨r, h1, h2⟩ := ho
  exact PT.weak (pt_cmpR h1 ha hb hm) fun σ H Q q => op2_go (f := compareOp op) h2 σ H _ (tEVT_val q)
theorem et_and1 (ha : ET X a fa) : ETW X (.BoolOp .And [a] pos) fa := pw_and1 ha
theorem et_or1 (ha : ET X a fa) : ETW X (.BoolOp .Or [a] pos) fa := pw_or1 ha
theorem ETW.t (h : ETW X a fa) : ET X a fa := PW.pt h
theorem et_and (ha : ET X a fa) (hb : ETW X (.BoolOp .And (b :: rest) pos) fb) : ETW X (.BoolOp .And (a :: b :: rest) pos) (sAnd fa fb) := PW.weak (pw_and ha hb) fun σ H Q q => by
  obtain ⟨W, S, σp, d, S', st, rs, e, q⟩ := q
  unfold sAnd at e
  split at e
  · rename_i S1 e1
    refine tEVT_mk st rs e1 fun H1 W1 x1 st1 rs1 => ?_
    rw [if_pos rfl]
    exact tEVT_mk st1 rs1 e fun H2 W2 x2 st2 rs2 => q H2 W2 (x1.trans x2) st2
  · rename_i S1 e1
    cases e
    refine tEVT_mk st rs e1 fun H1 W1 x1 st1 rs1 => ?_
    rw [if_neg Bool.false_ne_true]
    exact q H1 W1 x1 st1
  · cases e
theorem et_or (ha : ET X a fa) (hb : ETW X (.BoolOp .Or (b :: rest) pos) fb) : ETW X (.BoolOp .Or (a :: b :: rest) pos) (sOr fa fb) := PW.weak (pw_or ha hb) fun σ H Q q => by
  obtain ⟨W, S, σp, d, S', st, rs, e, q⟩ := q
  unfold sOr at e
  split at e
  · rename_i S1 e1
    refine tEVT_mk st rs e1 fun H1 W1 x1 st1 rs1 => ?_
    rw [if_neg Bool.false_ne_true]
    exact tEVT_mk st1 rs1 e fun H2 W2 x2 st2 rs2 => q H2 W2 (x1.trans x2) st2
  · rename_i S1 e1
    cases e
    refine tEVT_mk st rs e1 fun H1 W1 x1 st1 rs1 => ?_
    rw [if_pos rfl]
    exact q H1 W1 x1 st1
  · cases e
theorem et_not (ha : ET X a fa) : ET X (.UnaryOp .Not a pos) (sNot fa) := PT.weak (pt_not ha) fun σ H Q q => by
  obtain ⟨W, S, σp, d, S', st, rs, e, q⟩ := q
  unfold sNot at e
  split at e
  · rename_i b S1 e1
    cases e
    exact tEVT_mk st rs e1 fun H1 W1 x1 st1 rs1 => q H1 W1 x1 st1
  · cases e
theorem ev_and1 {op} (ha : EV X a fa) : EV X (.BoolOp op [a] pos) fa := pe_one ha
theorem ev_and (ha : EV X a fa) (hb : EV X (.BoolOp .And (b :: rest) pos) fb) : EV X (.BoolOp .And (a :: b :: rest) pos) (sAnd fa fb) := PE.weak (pe_and ha hb) fun σ H Q q => by
  obtain ⟨W, S, σp, d, S', st, rs, e, q⟩ := q
  unfold sAnd at e
  split at e
  · rename_i S1 e1
    refine tEV_mk st rs e1 fun v H1 W1 x1 st1 rs1 r1 => ?_
    cases r1 with
    | p r1 =>
      cases r1
      refine ⟨true, rfl, ?_⟩
      rw [if_pos rfl]
      exact tEV_mk st1 rs1 e fun v H2 W2 x2 st2 rs2 r2 => q v H2 W2 (x1.trans x2) st2 r2
  · rename_i S1 e1
    cases e
    refine tEV_mk st rs e1 fun v H1 W1 x1 st1 rs1 r1 => ?_
    cases r1 with
    | p r1 =>
      cases r1
      refine ⟨false, rfl, ?_⟩
      rw [if_neg Bool.false_ne_true]
      exact q _ H1 W1 x1 st1 (.p (.bl false))
  · cases e
theorem ev_or (ha : EV X a fa) (hb : EV X (.BoolOp .Or (b :: rest) pos) fb) : EV X (.BoolOp .Or (a :: b :: rest) pos) (sOr fa fb) := PE.weak (pe_or ha hb) fun σ H Q q => by
  obtain ⟨W, S, σp, d, S', st, rs, e, q⟩ := q
  unfold sOr at e
  split at e
  · rename_i S1 e1
    refine tEV_mk st rs e1 fun v H1 W1 x1 st1 rs1 r1 => ?_
    cases r1 with
    | p r1 =>
      cases r1
      refine ⟨false, rfl, ?_⟩
      rw [if_neg Bool.false_ne_true]
      exact tEV_mk st1 rs1 e fun v H2 W2 x2 st2 rs2 r2 => q v H2 W2 (x1.trans x2) st2 r2
  · rename_i S1 e1
    cases e
    refine tEV_mk st rs e1 fun v H1 W1 x1 st1 rs1 r1 => ?_
    cases r1 with
    | p r1 =>
      cases r1
      refine ⟨true, rfl, ?_⟩
      rw [if_pos rfl]
      exact q _ H1 W1 x1 st1 (.p (.bl true))
  · cases e
theorem ev_not (ha : EV X a fa) : EV X (.UnaryOp .Not a pos) (sNot fa) := PE.weak (pe_not ha) fun σ H Q q => by
  obtain ⟨W, S, σp, d, S', st, rs, e, q⟩ := q
  unfold sNot at e
  split at e
  · rename_i b S1 e1
    cases e
    refine tEV_mk st rs e1 fun v H1 W1 x1 st1 rs1 r1 => ?_
    cases r1 with
    | p r1 => cases r1; exact ⟨b, rfl, q _ H1 W1 x1 st1 (.p (.bl _))⟩
  · cases e
theorem ev_if (hc : ET X c fc) (ha : EV X a fa) (hb : EV X b fb) : EV X (.IfExp c a b pos) (sIf fc fa fb) := PE.weak (pe_ifExp hc ha hb) fun σ H Q q => by
  obtain ⟨W, S, σp, d, S', st, rs, e, q⟩ := q
  unfold sIf at e
  split at e
  · rename_i S1 e1
    refine tEVT_mk st rs e1 fun H1 W1 x1 st1 rs1 => ?_
    rw [if_pos rfl]
    exact tEV_mk st1 rs1 e fun v H2 W2 x2 st2 rs2 r2 => q v H2 W2 (x1.trans x2) st2 r2
  · rename_i S1 e1
    refine tEVT_mk st rs e1 fun H1 W1 x1 st1 rs1 => ?_
    rw [if_neg Bool.false_ne_true]
    exact tEV_mk st1 rs1 e fun v H2 W2 x2 st2 rs2 r2 => q v H2 W2 (x1.trans x2) st2 r2
  · cases e

/-! ### one operand -/
def UnD (X : Cx) (f : Value → Sem Value) (g : D → Option D) : Prop :=
  ∃ r : V → Hp → VK → Prop, UnR X f r ∧ ∀ (H : Hp) (W : List Addr) (S : Sto) (x : V) (a d : D) (Q : VK), StOK X.K H W S → Lk X.K H W x a → g a = some d → Res X.K H W d Q → r x H Q
def s1 (g : D → Option D) (fa : Ex) : Ex := fun σ S => match fa σ S with
  | none => none
  | some (x, S1) => match rd S1 x with
    | some a => match g a with
      | some d => some (.p d, S1)
      | none => none
    | none => none
theorem op1_go {g : D → Option D} {r : V → Hp → VK → Prop}
    (hr : ∀ (H : Hp) (W : List Addr) (S : Sto) (x : V) (a d : D) (Q : VK), StOK X.K H W S → Lk X.K H W x a → g a = some d → Res X.K H W d Q → r x H Q)
    (σ : L2.St) (H : Hp) (Q : VK) (q : tEV X.K (s1 g fa) σ H Q) : tEV X.K fa σ H fun x H1 => r x H1 Q := by
  obtain ⟨W, S, σp, d, S', st, rs, e, q⟩ := q
  unfold s1 at e
  split at e
  · cases e
  · rename_i x S1 e1
    split at e
    · rename_i a ea
      split at e
      · rename_i d' e3
        cases e
        refine tEV_mk st rs e1 fun v H1 W1 x1 st1 rs1 r1 => ?_
        exact hr H1 W1 _ v a d' Q st1 (lk_of st1 r1 ea) e3 fun z H3 s3 r3 => q z H3 W1 (x1.trans (.same s3)) (st1.same s3) (.p r3)
      · cases e
    · cases e
theorem ev_un {op : UnaryOp} {g : D → Option D} (ho : UnD X (unaryOp op) g) (ha : EV X a fa) : EV X (.UnaryOp op a pos) (s1 g fa) := by
  obtain ⟨r, h1, h2⟩ := ho
  exact PE.weak (pe_un h1 ha) (op1_go h2)
def dNeg : D → Option D
  | .int i => some (.int (-i))
  | _ => none
theorem ud_neg : UnD X (unaryOp .USub) dNeg := by
  refine ⟨_, un_neg, fun H W S x a d Q st ha e q => ?_⟩
  unfold dNeg at e
  split at e
  · cases e
    exact ⟨_, ha.int, q.here (.int _)⟩
  · cases e

/-! ### is -/
def dIsN (p : Bool → Bool) : D → D → Option D
  | a, .non => some (.bl (p (isNon a)))
  | .bl a, .bl b => some (.bl (p (decide (a = b))))
  | _, _ => none
theorem od_is : OpD X (compareOp .Is) (dIsN id) := by
  refine ⟨_, op_isN.or op_is_bl, fun H W S x y a b d Q st ha hb e q => ?_⟩
  unfold dIsN at e
  split at e
  · cases e
    refine .inl ⟨hb.non, ?_⟩
    rw [lk_non ha]
    exact q.here (.bl _)
  · cases e
    exact .inr ⟨_, _, ha.bl, hb.bl, q.here (.bl _)⟩
  · cases e
theorem od_isnot : OpD X (compareOp .IsNot) (dIsN not) := by
  refine ⟨_, op_notN.or op_isnot_bl, fun H W S x y a b d Q st ha hb e q => ?_⟩
  unfold dIsN at e
  split at e
  · cases e
    refine .inl ⟨hb.non, ?_⟩
    rw [lk_non ha]
    exact q.here (.bl _)
  · cases e
    exact .inr ⟨_, _, ha.bl, hb.bl, q.here (.bl _)⟩
  · cases e
end
end EV

set_option Elab.async false
set_option linter.all false
set_option maxRecDepth 100000
namespace EV
open PySem PySem.Spec PyProof.Rows L2

/-! ### dicts -/
def DX (K : PySem.W.Frag) (H : Hp) (a : Addr) (y : V) (o : Option V) : Prop :=
  (∃ kvs k, Rd H a (.dK kvs) ∧ y = kV k ∧ o = valV kvs k) ∨
  (∃ kvs k b, Rd H a (.dT kvs) ∧ y = .ref b ∧ SqT K H b (k.map kV) ∧ o = valV kvs k) ∨
  (∃ k b, Rd H a (.dK []) ∧ y = .ref b ∧ SqT K H b ((k : List Key).map kV) ∧ o = none) ∨
  (∃ k, Rd H a (.dT []) ∧ y = kV k ∧ o = none)
section
variable {X : Cx} {pins : List (Addr × Obj)} {σ : L2.St} {H : Hp} {s : Shared} {a b : Addr} {y d v : V} {u r : Value} {o : Option V} {A : Around} {E : Value → Shared → Prop}
theorem keyT (I : Inv X pins σ H s) {ks : List Key} (h : SqT X.K H b (ks.map kV)) : (tupleKind (mixKind X.prog X.w)).is s.heap ks b := by
  obtain ⟨its, r, ⟨o, h1, h2, n, h3⟩, _⟩ := I.tuple h
  exact ⟨o, its.toArray, n, h1, h2, h3, by simpa using items_are r⟩
theorem emptyK (I : Inv X pins σ H s) (h : Rd H a (.dT [])) : (a == sysModules) = false ∧ s.heap.DictOf (mixKind X.prog X.w) a [] := by
  obtain ⟨_, y, xs, r, o, es, ep, h1, h2, h3, h4, _, _⟩ := dt_rd I.hok h
  cases r
  have e : es = #[] := by
    have h4' : es.toList = [] := h4
    exact Array.toList_eq_nil_iff.mp h4'
  subst e
  exact ⟨y, o, #[], ep, h1, h2, h3, fun e he => by simp at he, .nil, List.nodup_nil⟩
theorem emptyT (I : Inv X pins σ H s) (h : Rd H a (.dK [])) : (a == sysModules) = false ∧ s.heap.DictOfH (tupleKind (mixKind X.prog X.w)) a [] := by
  obtain ⟨_, y, vs, r, o, es, ep, h1, h2, h3, _, h5, _⟩ := dk_rd I.hok h
  cases r
  have e : es.toList = [] := by
    have := h5.length
    exact List.eq_nil_of_length_eq_zero this
  exact ⟨y, o, es, ep, h1, h2, h3, e, (fun x hx => nomatch hx), List.nodup_nil⟩
theorem dx_type (I : Inv X pins σ H s) (g : DX X.K H a y o) : s.TypeIs (.ref a) "dict" ∧ (∀ b, Value.ref a = .ref b → ∃ ob, s.heap.get? b = some ob ∧ ob.dict = none) := by
  have h : IsD H a := by
    rcases g with ⟨kvs, k, e, _⟩ | ⟨kvs, k, b, e, _⟩ | ⟨k, b, e, _⟩ | ⟨k, e, _⟩
    · exact .inl ⟨_, e⟩
    · exact .inr ⟨_, e⟩
    · exact .inl ⟨_, e⟩
    · exact .inr ⟨_, e⟩
  obtain ⟨h1, h2, _⟩ := isD_at I h
  exact ⟨h1, h2⟩
theorem dx_get (hu : A.units + 1 < cLine) {Q : Value → Shared → Prop} (I : Inv X pins σ H s) (g : DX X.K H a y (some v)) (ry : RelV y u) (h : ∀ w' s', Inv X pins σ H s' → RelV v w' → Q w' s') :
    wpAny (model X.prog X.w) A (getItem (.ref a) u) Q E s := by
  rcases g with ⟨kvs, k, e, ey, l⟩ | ⟨kvs, k, b, e, ey, eb, l⟩ | ⟨k, b, e, ey, eb, l⟩ | ⟨k, e, ey, l⟩
  · exact d_getItem hu I (.inl ⟨kvs, k, e, ey, l⟩) ry h
  · subst ey
    cases (show u = Value.ref b from ry)
    obtain ⟨z, hd, xs, rel, dd⟩ := dt_rd I.hok e
    obtain ⟨w', hw, rw'⟩ := RelO.some_of (v := v) (o := (atKey xs k).map (·.2)) (by rw [l]; exact rel.val k)
    obtain ⟨p, hp, hp2⟩ := Option.map_eq_some_iff.mp hw
    refine wpAny_getItem_heap (tupleKind_room_in1 hu) (keyT I eb) dd hp ?_
    rw [hp2]
    exact h w' _ (I.tok _) rw'
  · cases l
  · cases l
theorem dx_in (hu : A.units + 1 < cLine) {Q : Value → Shared → Prop} (I : Inv X pins σ H s) (g : DX X.K H a y o) (ry : RelV y u) (h : ∀ s', Inv X pins σ H s' → Q (.bool o.isSome) s') :
    wpAny (model X.prog X.w) A (compareOp .In u (.ref a)) Q E s := by
  rcases g with ⟨kvs, k, e, ey, l⟩ | ⟨kvs, k, b, e, ey, eb, l⟩ | ⟨k, b, e, ey, eb, l⟩ | ⟨k, e, ey, l⟩
  · exact d_in hu I (.inl ⟨kvs, k, e, ey, l⟩) ry h
  · subst ey
    cases (show u = Value.ref b from ry)
    obtain ⟨z, hd, xs, rel, dd⟩ := dt_rd I.hok e
    refine wpAny_in_heap (tupleKind_room_in1 hu) (keyT I eb) hd dd ?_
    have q := (rel.val k).isSome_eq
    rw [Option.isSome_map] at q
    rw [← q, ← l]
    exact h _ (I.tok _)
  · subst ey l
    cases (show u = Value.ref b from ry)
    obtain ⟨hd, dd⟩ := emptyT I e
    exact wpAny_in_heap (tupleKind_room_in1 hu) (keyT I eb) hd dd (h _ (I.tok _))
  · subst ey l
    obtain ⟨hd, dd⟩ := emptyK I e
    exact wpAny_in_of (kV_is ry) hd dd.mapOf (h _ (I.tok _))
theorem dx_notIn (hu : A.units + 1 < cLine) {Q : Value → Shared → Prop} (I : Inv X pins σ H s) (g : DX X.K H a y o) (ry : RelV y u) (h : ∀ s', Inv X pins σ H s' → Q (.bool (!o.isSome)) s') :
    wpAny (model X.prog X.w) A (compareOp .NotIn u (.ref a)) Q E s := by
  rcases g with ⟨kvs, k, e, ey, l⟩ | ⟨kvs, k, b, e, ey, eb, l⟩ | ⟨k, b, e, ey, eb, l⟩ | ⟨k, e, ey, l⟩
  · exact d_notIn hu I (.inl ⟨kvs, k, e, ey, l⟩) ry h
  · subst ey
    cases (show u = Value.ref b from ry)
    obtain ⟨z, hd, xs, rel, dd⟩ := dt_rd I.hok e
    refine wpAny_notIn_heap (tupleKind_room_in1 hu) (keyT I eb) hd dd ?_
    have q := (rel.val k).isSome_eq
    rw [Option.isSome_map] at q
    rw [← q, ← l]
    exact h _ (I.tok _)
  · subst ey l
    cases (show u = Value.ref b from ry)
    obtain ⟨hd, dd⟩ := emptyT I e
    exact wpAny_notIn_heap (tupleKind_room_in1 hu) (keyT I eb) hd dd (h _ (I.tok _))
  · subst ey l
    obtain ⟨hd, dd⟩ := emptyK I e
    exact wpAny_notIn_of (kV_is ry) hd dd.mapOf (h _ (I.tok _))
theorem dx_get2 (hu : A.units + 1 < cLine) {Q : Value → Shared → Prop} (I : Inv X pins σ H s) (g : DX X.K H a y o) (ry : RelV y u) (rd : RelV d r) (h : ∀ w' s', Inv X pins σ H s' → RelV (o.getD d) w' → Q w' s') :
    wpAny (model X.prog X.w) A (call (.builtin "dict.get") [.ref a, u, r]) Q E s := by
  rcases g with ⟨kvs, k, e, ey, l⟩ | ⟨kvs, k, b, e, ey, eb, l⟩ | ⟨k, b, e, ey, eb, l⟩ | ⟨k, e, ey, l⟩
  · exact d_get2 hu I (.inl ⟨kvs, k, e, ey, l⟩) ry rd h
  · subst ey
    cases (show u = Value.ref b from ry)
    obtain ⟨z, hd, xs, rel, dd⟩ := dt_rd I.hok e
    refine call_meetsIn PySem.F.slot_dict_get dd.typeIs PySem.F.entry_dict_get (PySem.F.args_dict_get_3 _ _ _) (meetsH_dict_get_default (tupleKind (mixKind X.prog X.w)) a b hd r) ⟨tupleKind_room_in1 hu, k, xs, keyT I eb, dd, h _ _ (I.tok _) ?_⟩
    rw [l]
    exact (rel.val k).getD rd
  · subst ey l
    cases (show u = Value.ref b from ry)
    obtain ⟨hd, dd⟩ := emptyT I e
    exact call_meetsIn PySem.F.slot_dict_get dd.typeIs PySem.F.entry_dict_get (PySem.F.args_dict_get_3 _ _ _) (meetsH_dict_get_default (tupleKind (mixKind X.prog X.w)) a b hd r) ⟨tupleKind_room_in1 hu, k, [], keyT I eb, dd, h _ _ (I.tok _) rd⟩
  · subst ey l
    obtain ⟨hd, dd⟩ := emptyK I e
    exact call_meetsIn PySem.F.slot_dict_get dd.typeIs PySem.F.entry_dict_get (PySem.F.args_dict_get_3 _ _ _) (meets_dict_get_default (mixKind X.prog X.w) a (kV_is ry) hd r) ⟨_, dd.mapOf, h _ _ (I.tok _) rd⟩
end

/-! ### keys as data -/
abbrev Ky := Sum Key (List Key)
def flatK : D → Option Key
  | .int i => some (.inl i)
  | .str x => some (.inr x)
  | _ => none
def flatKs : List D → Option (List Key)
  | [] => some []
  | d :: r => match flatK d, flatKs r with
    | some k, some ks => some (k :: ks)
    | _, _ => none
def keyOf : D → Option Ky
  | .tup ds => (flatKs ds).map .inr
  | d => (flatK d).map .inl
/-- the value at a key: none where keys are of unlike kinds -/
def lookK (k : Ky) : List D → List D → Option (Option D)
  | [], [] => some none
  | d :: ks, v :: vs => match keyOf d, k with
    | some (.inl a), .inl b => if a = b then some (some v) else lookK k ks vs
    | some (.inr a), .inr b => if a = b then some (some v) else lookK k ks vs
    | _, _ => none
  | _, _ => none
theorem look_inl {d v : D} {a b : Key} {ks vs : List D} (h : keyOf d = some (.inl a)) : lookK (.inl b) (d :: ks) (v :: vs) = if a = b then some (some v) else lookK (.inl b) ks vs := by simp only [lookK, h]
theorem look_inr {d v : D} {a b : List Key} {ks vs : List D} (h : keyOf d = some (.inr a)) : lookK (.inr b) (d :: ks) (v :: vs) = if a = b then some (some v) else lookK (.inr b) ks vs := by simp only [lookK, h]
theorem look_lr {d v : D} {a : Key} {b : List Key} {ks vs : List D} (h : keyOf d = some (.inl a)) : lookK (.inr b) (d :: ks) (v :: vs) = none := by simp only [lookK, h]
theorem look_rl {d v : D} {a : List Key} {b : Key} {ks vs : List D} (h : keyOf d = some (.inr a)) : lookK (.inl b) (d :: ks) (v :: vs) = none := by simp only [lookK, h]
def dlook (ks vs : List D) (d : D) : Option (Option D) := match keyOf d with
  | some k => lookK k ks vs
  | none => none
theorem keyD_flat (k : Key) : flatK (keyD k) = some k := by cases k <;> rfl
theorem keyD_flats : ∀ ks : List Key, flatKs (ks.map keyD) = some ks
  | [] => rfl
  | k :: ks => by rw [List.map_cons, flatKs, keyD_flat, keyD_flats ks]
theorem keyOf_keyD (k : Key) : keyOf (keyD k) = some (.inl k) := by cases k <;> rfl
theorem keyOf_tup (ks : List Key) : keyOf (.tup (ks.map keyD)) = some (.inr ks) := by
  show (flatKs (ks.map keyD)).map Sum.inr = _
  rw [keyD_flats] <;> rfl
theorem flatK_eq {d : D} {k : Key} (h : flatK d = some k) : d = keyD k := by
  cases d <;> cases h <;> rfl
theorem flatKs_eq : ∀ {ds : List D} {ks : List Key}, flatKs ds = some ks → ds = ks.map keyD
  | [], _, h => by cases h; rfl
  | d :: r, ks, h => by
    unfold flatKs at h
    split at h
    · rename_i k ks' e1 e2
      cases h
      rw [List.map_cons, ← flatKs_eq e2, ← flatK_eq e1]
    · cases h
theorem keyOf_inl {d : D} {k : Key} (h : keyOf d = some (.inl k)) : d = keyD k := by
  cases d <;> first
    | (rename_i ds
       have h' : (flatKs ds).map Sum.inr = some (Sum.inl k) := h
       cases e : flatKs ds <;> rw [e] at h' <;> cases h'
       done)
    | (unfold keyOf at h
       simp only [flatK, Option.map_some, Option.map_none, Option.some.injEq, Sum.inl.injEq, reduceCtorEq] at h
       try (subst h; rfl))
theorem keyOf_inr {d : D} {k : List Key} (h : keyOf d = some (.inr k)) : d = .tup (k.map keyD) := by
  cases d <;> first
    | (rename_i ds
       have h' : (flatKs ds).map Sum.inr = some (Sum.inr k) := h
       cases e : flatKs ds with
       | none => rw [e] at h'; cases h'
       | some ks => rw [e] at h'; cases h'; rw [flatKs_eq e]
       done)
    | (unfold keyOf at h
       simp only [flatK, Option.map_some, Option.map_none, Option.some.injEq, reduceCtorEq] at h)
section
variable {K : PySem.W.Frag} {H : Hp} {W : List Addr}
theorem rep_keyD {k : Key} {v : V} (h : Rep K H W v (keyD k)) : v = kV k := by
  cases k <;> cases h <;> rfl
theorem reps_keyD : ∀ {ks : List Key} {vs : List V}, Reps K H W vs (ks.map keyD) → vs = ks.map kV
  | [], _, h => by cases h; rfl
  | k :: ks, _, h => by
    cases h with
    | cons a b => rw [rep_keyD a, reps_keyD b, List.map_cons]
theorem look_dk {k : Key} : ∀ {kvs : List (Key × V)} {vs : List D} {r : Option D}, Reps K H W (kvs.map (·.2)) vs → lookK (.inl k) (kvs.map fun q => keyD q.1) vs = some r →
    (r = none ∧ valV kvs k = none) ∨ ∃ d v, r = some d ∧ valV kvs k = some v ∧ Rep K H W v d
  | [], _, r, h, e => by
    cases h
    cases e
    exact .inl ⟨rfl, rfl⟩
  | q :: kvs, _, r, h, e => by
    rw [List.map_cons] at h
    cases h with
    | cons a b =>
      rw [List.map_cons, look_inl (keyOf_keyD q.1)] at e
      by_cases z : q.1 = k
      · rw [if_pos z] at e
        cases e
        exact .inr ⟨_, _, rfl, valV_pos z, a⟩
      · simp only [z, if_false] at e
        rw [valV_neg z]
        exact look_dk b e
theorem look_dt {k : List Key} : ∀ {kvs : List (List Key × V)} {vs : List D} {r : Option D}, Reps K H W (kvs.map (·.2)) vs → lookK (.inr k) (kvs.map fun q => D.tup (q.1.map keyD)) vs = some r →
    (r = none ∧ valV kvs k = none) ∨ ∃ d v, r = some d ∧ valV kvs k = some v ∧ Rep K H W v d
  | [], _, r, h, e => by
    cases h
    cases e
    exact .inl ⟨rfl, rfl⟩
  | q :: kvs, _, r, h, e => by
    rw [List.map_cons] at h
    cases h with
    | cons a b =>
      rw [List.map_cons, look_inr (keyOf_tup q.1)] at e
      by_cases z : q.1 = k
      · rw [if_pos z] at e
        cases e
        exact .inr ⟨_, _, rfl, valV_pos z, a⟩
      · simp only [z, if_false] at e
        rw [valV_neg z]
        exact look_dt b e
/-- what a dict holds at a key, in the heap -/
theorem dlook_dx {v y : V} {ks vs : List D} {k : D} {r : Option D} (h : Rep K H W v (.dct ks vs)) (hy : Lk K H W y k) (e : dlook ks vs k = some r) :
    ∃ a o, v = .ref a ∧ DX K H a y o ∧ ((r = none ∧ o = none) ∨ ∃ d u, r = some d ∧ o = some u ∧ Rep K H W u d) := by
  unfold dlook at e
  split at e
  · rename_i ky ek
    have flat : ∀ k', ky = .inl k' → y = kV k' := fun k' z => by
      subst z
      have := keyOf_inl ek
      subst this
      cases k' with
      | inl i => exact Lk.int hy
      | inr x => exact Lk.str hy
    have tupl : ∀ k', ky = .inr k' → ∃ b, y = .ref b ∧ SqT K H b (k'.map kV) := fun k' z => by
      subst z
      have := keyOf_inr ek
      subst this
      obtain ⟨b, xs, rfl, hs, rs⟩ := hy.tup
      rw [reps_keyD rs] at hs
      exact ⟨b, rfl, hs⟩
    cases h with
    | dk hR hk hr =>
      rename_i a kvs
      subst hk
      cases ky with
      | inl k' =>
        refine ⟨a, valV kvs k', rfl, .inl ⟨kvs, k', hR, flat k' rfl, rfl⟩, ?_⟩
        rcases look_dk hr e with ⟨e1, e2⟩ | ⟨d, u, e1, e2, e3⟩
        · exact .inl ⟨e1, e2⟩
        · exact .inr ⟨d, u, e1, e2, e3⟩
      | inr k' =>
        obtain ⟨b, eb, hb⟩ := tupl k' rfl
        cases kvs with
        | nil =>
          cases hr
          cases e
          exact ⟨a, none, rfl, .inr (.inr (.inl ⟨k', b, hR, eb, hb, rfl⟩)), .inl ⟨rfl, rfl⟩⟩
        | cons q kvs =>
          rw [List.map_cons] at hr
          cases hr
          rw [List.map_cons, look_lr (keyOf_keyD q.1)] at e
          cases e
    | dt hR hk hr =>
      rename_i a kvs
      subst hk
      cases ky with
      | inr k' =>
        obtain ⟨b, eb, hb⟩ := tupl k' rfl
        refine ⟨a, valV kvs k', rfl, .inr (.inl ⟨kvs, k', b, hR, eb, hb, rfl⟩), ?_⟩
        rcases look_dt hr e with ⟨e1, e2⟩ | ⟨d, u, e1, e2, e3⟩
        · exact .inl ⟨e1, e2⟩
        · exact .inr ⟨d, u, e1, e2, e3⟩
      | inl k' =>
        cases kvs with
        | nil =>
          cases hr
          cases e
          exact ⟨a, none, rfl, .inr (.inr (.inr ⟨k', hR, flat k' rfl, rfl⟩)), .inl ⟨rfl, rfl⟩⟩
        | cons q kvs =>
          rw [List.map_cons] at hr
          cases hr
          rw [List.map_cons, look_rl (keyOf_tup q.1)] at e
          cases e
  · cases e
end
end EV

set_option Elab.async false
set_option linter.all false
set_option maxRecDepth 100000
namespace EV
open PySem PySem.Spec PyProof.Rows L2

/-! ### a[i] -/
theorem reps_at {K : PySem.W.Frag} {H : Hp} {W : List Addr} {vs : List V} {ds : List D} (r : Reps K H W vs ds) {i : Int} {d : D} (h : atI ds i = some d) : ∃ v, atI vs i = some v ∧ Rep K H W v d := by
  unfold atI at h ⊢
  rw [r.length]
  cases e : ixN ds.length i with
  | none => rw [e] at h; cases h
  | some j =>
    rw [e] at h
    exact r.get h
def dIx : D → D → Option D
  | .lst xs, .int i => atI xs i
  | .tup xs, .int i => atI xs i
  | .str z, .int i => match decide (z.length ≤ sizeLine) with
    | true => (atI z.cps.toList i).map fun c => .str ⟨#[c]⟩
    | false => none
  | .dct ks vs, k => (dlook ks vs k).join
  | _, _ => none
section
variable {X : Cx} {a b : Expr} {pos : Pos} {fa fb : Ex}
def rIxX (X : Cx) : R2 := fun x y H Q => rIx X.K x y H Q ∨ ∃ a v, x = .ref a ∧ DX X.K H a y (some v) ∧ Q v H
theorem ix_dict (hu : X.A.units + 1 < cLine) : IxR X (fun x y H Q => ∃ a v, x = .ref a ∧ DX X.K H a y (some v) ∧ Q v H) := by
  intro value slice pins s σ H x y v u Q I rx ry h hs
  obtain ⟨a, z, rfl, g, q⟩ := h
  obtain rfl : v = Value.ref a := rx
  exact tail_any (dx_type I g).1 PySem.F.slot_dict_getitem.lookup (dx_get hu I g ry fun w' s3 I3 rw' => ⟨z, H, I3, rw', q⟩) hs
theorem ix_all (hu : X.A.units + 1 < cLine) : IxR X (rIxX X) := ix_seq.or (ix_dict hu)
theorem ev_ix (hu : X.A.units + 1 < cLine) (ha : EV X a fa) (hb : EV X b fb) (hs : PlainIx b) : EV X (.Subscript a b pos) (s2 dIx fa fb) := by
  refine PE.weak (pe_ix (ix_all hu) ha hb hs) (op2_go (f := fun _ _ => .pure .none) fun H W S x y a b d Q st la lb e q => ?_)
  unfold dIx at e
  split at e
  · rename_i xs i
    obtain ⟨p, us, rfl, h1, r1⟩ := la.lst'
    obtain ⟨v, hv, rv⟩ := reps_at r1 e
    exact .inl (.inl ⟨p, us, i, v, rfl, lb.int, SqL.of h1, hv, q.here rv⟩)
  · rename_i xs i
    obtain ⟨p, us, rfl, h1, r1⟩ := la.tup
    obtain ⟨v, hv, rv⟩ := reps_at r1 e
    exact .inl (.inr (.inl ⟨p, us, i, v, rfl, lb.int, h1, hv, q.here rv⟩))
  · rename_i z i
    split at e
    · rename_i h
      obtain ⟨c, hc, rfl⟩ := Option.map_eq_some_iff.mp e
      exact .inl (.inr (.inr ⟨z, i, c, la.str, lb.int, of_decide_eq_true h, hc, q.here (.str _)⟩))
    · cases e
  · rename_i ks vs
    cases e1 : dlook ks vs b with
    | none => rw [e1] at e; cases e
    | some r =>
      rw [e1] at e
      cases r with
      | none => cases e
      | some r =>
        cases e
        cases la with
        | rep la =>
          obtain ⟨p, o, rfl, g, h⟩ := dlook_dx la lb e1
          rcases h with ⟨z, _⟩ | ⟨d', u, e2, rfl, r⟩
          · cases z
          · cases e2
            exact .inr ⟨p, u, rfl, g, q.here r⟩
  · cases e

/-! ### in -/
def dInP (p : Bool → Bool) : D → D → Option D
  | d, .lst ds => match okD 64 d && okD 64 (.lst ds) with
    | true => some (.bl (p (ds.any fun z => eqv z d)))
    | false => none
  | d, .tup ds => match okD 64 d && okD 64 (.tup ds) with
    | true => some (.bl (p (ds.any fun z => eqv z d)))
    | false => none
  | d, .dct ks vs => (dlook ks vs d).map fun r => .bl (p r.isSome)
  | .str x, .str y => some (.bl (p (!(Builtin.Str.occurrences y x 0 y.length 1).isEmpty)))
  | _, _ => none
theorem any_py {n m : Nat} {d : D} (hd : okD m d = true) : ∀ {ds : List D}, okDs n ds = true → ((toPys ds).any fun z => PyData.eqv z (toPy d)) = ds.any fun z => eqv z d
  | [], _ => rfl
  | x :: xs, h => by
    unfold okDs at h
    obtain ⟨h1, h2⟩ := Bool.and_eq_true_iff.mp h
    simp only [toPys, List.any_cons]
    rw [eqv_py n m x d h1 hd, any_py hd h2]
def rInTD (K : PySem.W.Frag) (p : Bool → Bool) : R2 := fun x y H Q => ∃ d ds, Dp K H x d ∧ Dp K H y (.tuple ds) ∧ SeqAt.shaped d = true ∧ SeqAt.shaped (.tuple ds) = true ∧ Q (.bl (p (ds.any fun z => PyData.eqv z d))) H
theorem op_inTD (hu : X.A.units + 65 < cLine) : OpR X (compareOp .In) (rInTD X.K id) := by
  intro pins s σ H x y v u Q I rx ry h
  obtain ⟨d, ds, hd, he, sd, se, q⟩ := h
  obtain ⟨as, r1⟩ := Dp.reads I d x v hd rx
  obtain ⟨bs, r2⟩ := Dp.reads I (.tuple ds) y u he ry
  exact SeqAt.in_tuple_reads r2 r1 (SeqAt.canLay_of_shaped se) (SeqAt.canLay_of_shaped sd) (room_in_shaped sd hu) ⟨.bl _, H, I, rfl, q⟩
theorem op_notInTD (hu : X.A.units + 65 < cLine) : OpR X (compareOp .NotIn) (rInTD X.K not) := by
  intro pins s σ H x y v u Q I rx ry h
  obtain ⟨d, ds, hd, he, sd, se, q⟩ := h
  obtain ⟨as, r1⟩ := Dp.reads I d x v hd rx
  obtain ⟨bs, r2⟩ := Dp.reads I (.tuple ds) y u he ry
  exact SeqAt.notIn_tuple_reads r2 r1 (SeqAt.canLay_of_shaped se) (SeqAt.canLay_of_shaped sd) (room_in_shaped sd hu) ⟨.bl _, H, I, rfl, q⟩
def rInDX (K : PySem.W.Frag) (p : Bool → Bool) : R2 := fun x y H Q => ∃ a o, y = .ref a ∧ DX K H a x o ∧ Q (.bl (p o.isSome)) H
theorem op_inDX (hu : X.A.units + 1 < cLine) : OpR X (compareOp .In) (rInDX X.K id) := by
  intro pins s σ H x y v u Q I rx ry h
  obtain ⟨a, o, rfl, g, q⟩ := h
  cases ry
  exact dx_in hu I g rx fun s3 I3 => ⟨.bl o.isSome, H, I3, rfl, q⟩
theorem op_notInDX (hu : X.A.units + 1 < cLine) : OpR X (compareOp .NotIn) (rInDX X.K not) := by
  intro pins s σ H x y v u Q I rx ry h
  obtain ⟨a, o, rfl, g, q⟩ := h
  cases ry
  exact dx_notIn hu I g rx fun s3 I3 => ⟨.bl (!o.isSome), H, I3, rfl, q⟩
theorem lk_rep {K : PySem.W.Frag} {H : Hp} {W : List Addr} {v : V} {ks vs : List D} (h : Lk K H W v (.dct ks vs)) : Rep K H W v (.dct ks vs) := by
  cases h with
  | rep h => exact h
theorem in_go {p : Bool → Bool} {r1 r2 r3 r4 : R2} (h1 : ∀ x y H Q, r1 x y H Q ↔ ∃ d ds, Dp X.K H x d ∧ Dp X.K H y (.list ds) ∧ SeqAt.shaped d = true ∧ SeqAt.shaped (.list ds) = true ∧ Q (.bl (p (ds.any fun z => PyData.eqv z d))) H)
    (h2 : r2 = rInTD X.K p) (h3 : r3 = rInDX X.K p) (h4 : ∀ x y H Q, r4 x y H Q ↔ ∃ i j, x = .str i ∧ y = .str j ∧ Q (.bl (p (!(Builtin.Str.occurrences j i 0 j.length 1).isEmpty))) H)
    (H : Hp) (W : List Addr) (S : Sto) (x y : V) (a b d : D) (Q : VK) (st : StOK X.K H W S) (ha : Lk X.K H W x a) (hb : Lk X.K H W y b) (e : dInP p a b = some d) (q : Res X.K H W d Q) : r1 x y H Q ∨ r2 x y H Q ∨ r3 x y H Q ∨ r4 x y H Q := by
  subst h2 h3
  unfold dInP at e
  split at e
  · rename_i ds
    split at e
    · rename_i h
      obtain ⟨k1, k2⟩ := Bool.and_eq_true_iff.mp h
      cases e
      refine .inl ((h1 _ _ _ _).mpr ⟨toPy a, toPys ds, ha.dp 64 k1, ?_, ok_shaped k1, ?_, ?_⟩)
      · have := hb.dp 64 k2
        simpa only [toPy] using this
      · have := ok_shaped k2
        simpa only [toPy] using this
      · rw [any_py k1 (n := 63) (by exact k2)]
        exact q.here (.bl _)
    · cases e
  · rename_i ds
    split at e
    · rename_i h
      obtain ⟨k1, k2⟩ := Bool.and_eq_true_iff.mp h
      cases e
      refine .inr (.inl ⟨toPy a, toPys ds, ha.dp 64 k1, ?_, ok_shaped k1, ?_, ?_⟩)
      · have := hb.dp 64 k2
        simpa only [toPy] using this
      · have := ok_shaped k2
        simpa only [toPy] using this
      · rw [any_py k1 (n := 63) (by exact k2)]
        exact q.here (.bl _)
    · cases e
  · rename_i ks vs
    obtain ⟨r, e1, rfl⟩ := Option.map_eq_some_iff.mp e
    obtain ⟨p', o, rfl, g, h⟩ := dlook_dx (lk_rep hb) ha e1
    refine .inr (.inr (.inl ⟨p', o, rfl, g, ?_⟩))
    rcases h with ⟨rfl, rfl⟩ | ⟨d', u, rfl, rfl, _⟩
    · exact q.here (.bl _)
    · exact q.here (.bl _)
  · cases e
    exact .inr (.inr (.inr ((h4 _ _ _ _).mpr ⟨_, _, ha.str, hb.str, q.here (.bl _)⟩)))
  · cases e
theorem od_in (hu : X.A.units + 65 < cLine) : OpD X (compareOp .In) (dInP id) :=
  ⟨_, (op_inD hu).or ((op_inTD hu).or ((op_inDX (by omega)).or op_in_str)), in_go (fun _ _ _ _ => Iff.rfl) rfl rfl (fun _ _ _ _ => Iff.rfl)⟩
theorem od_notin (hu : X.A.units + 65 < cLine) : OpD X (compareOp .NotIn) (dInP not) :=
  ⟨_, (op_notInD hu).or ((op_notInTD hu).or ((op_notInDX (by omega)).or op_notin_str)), in_go (fun _ _ _ _ => Iff.rfl) rfl rfl (fun _ _ _ _ => Iff.rfl)⟩

/-! ### slices -/
def cutD (xs : List D) (lo hi : Option Int) : List D := (xs.drop (HT.sIx xs.length 0 lo)).take (HT.sIx xs.length xs.length hi - HT.sIx xs.length 0 lo)
/-- a part of a slice: left out, or an int -/
abbrev Op := PS → Sto → Option (Option Int × Sto)
def sNoPart : Op := fun _ S => some (none, S)
def sPart (f : Ex) : Op := fun σ S => match f σ S with
  | some (.p (.int i), S1) => some (some i, S1)
  | _ => none
def tEVO (K : PySem.W.Frag) (f : Op) : TO := fun σ H Q => ∃ W S σp o S', StOK K H W S ∧ RepS K H W σ σp ∧ f σp S = some (o, S') ∧ ∀ H' W', Ext H W H' W' → StOK K H' W' S' → Q o H'
def EVO (X : Cx) (e : Option Expr) (f : Op) : Prop := PO X e (tEVO X.K f)
theorem evo_none : EVO X none sNoPart := ⟨fun pins s σ H Q I h => po_none.run pins s σ H Q I (by
  obtain ⟨W, S, σp, o, S', st, rs, e, q⟩ := h
  cases e
  exact q H W .refl st)⟩
theorem evo_some (h : EV X a fa) : EVO X (some a) (sPart fa) := ⟨fun pins s σ H Q I hq => (po_some h).run pins s σ H Q I (by
  obtain ⟨W, S, σp, o, S', st, rs, e, q⟩ := hq
  unfold sPart at e
  split at e
  · rename_i i S1 e1
    cases e
    refine tEV_mk st rs e1 fun v H1 W1 x1 st1 rs1 r1 => ?_
    cases r1 with
    | p r1 => cases r1; exact ⟨i, rfl, q H1 W1 x1 st1⟩
  · cases e)⟩
def sSl (fa : Ex) (fl fh : Op) : Ex := fun σ S => match fa σ S with
  | none => none
  | some (x, S1) => match fl σ S1 with
    | none => none
    | some (lo, S2) => match fh σ S2 with
      | none => none
      | some (hi, S3) => match rd S3 x with
        | some (.lst xs) => some (.p (.lst (cutD xs lo hi)), S3)
        | some (.tup xs) => some (.p (.tup (cutD xs lo hi)), S3)
        | _ => none
theorem reps_cut {K : PySem.W.Frag} {H : Hp} {W : List Addr} {vs : List V} {ds : List D} (r : Reps K H W vs ds) (lo hi : Option Int) : Reps K H W (cutV vs lo hi) (cutD ds lo hi) := by
  unfold cutV cutD
  rw [r.length]
  exact (r.drop _).take _
theorem cut_whole {ds : List D} {lo hi : Option Int} (h : HT.sIx ds.length 0 lo = 0 ∧ HT.sIx ds.length ds.length hi = ds.length) : cutD ds lo hi = ds := by
  unfold cutD
  rw [h.1, h.2]
  simp
theorem tEVO_mk {K : PySem.W.Frag} {f : Op} {σ : L2.St} {H : Hp} {Q : Option Int → Hp → Prop} {W : List Addr} {S S' : Sto} {σp : PS} {d : Option Int} (st : StOK K H W S) (rs : RepS K H W σ σp) (e : f σp S = some (d, S'))
    (q : ∀ H' W', Ext H W H' W' → StOK K H' W' S' → RepS K H' W' σ σp → Q d H') : tEVO K f σ H Q :=
  ⟨W, S, σp, d, S', st, rs, e, fun H' W' x s => q H' W' x s (rs.ext st x)⟩
theorem ev_sl {lo hi : Option Expr} {fl fh : Op} {p2 : Pos} (ha : EV X a fa) (hl : EVO X lo fl) (hh : EVO X hi fh) : EV X (.Subscript a (.Slice lo hi none p2) pos) (sSl fa fl fh) := by
  refine PE.weak (pe_slice (sl_list.or sl_tupA) ha hl hh) fun σ H Q q => ?_
  obtain ⟨W, S, σp, d, S', st, rs, e, q⟩ := q
  unfold sSl at e
  split at e
  · cases e
  · rename_i x S1 e1
    split at e
    · cases e
    · rename_i l S2 e2
      split at e
      · cases e
      · rename_i h S3 e3
        refine tEV_mk st rs e1 fun v H1 W1 x1 st1 rs1 r1 => tEVO_mk st1 rs1 e2 fun H2 W2 x2 st2 rs2 => tEVO_mk st2 rs2 e3 fun H3 W3 x3 st3 rs3 => ?_
        have r3 := (r1.ext st1 x2).ext st2 x3
        have xx := (x1.trans x2).trans x3
        split at e
        · rename_i xs e4
          cases e
          obtain ⟨p, us, rfl, h1, r⟩ := (lk_of st3 r3 e4).lst'
          refine .inl ⟨p, us, rfl, SqL.of h1, ?_⟩
          exact Res.lst (fun v H4 s4 r4 => q v H4 W3 (xx.trans (.same s4)) (st3.same s4) (.p r4)) st3 (reps_cut r l h)
        · rename_i xs e4
          cases e
          obtain ⟨p, us, rfl, h1, r⟩ := (lk_of st3 r3 e4).tup
          refine .inr ⟨p, us, rfl, h1, fun z => ?_, fun _ => ?_⟩
          · rw [r.length] at z
            rw [cut_whole z] at q
            exact q _ H3 W3 xx st3 (.p (.tup h1 r))
          · exact Res.tup (fun v H4 s4 r4 => q v H4 W3 (xx.trans (.same s4)) (st3.same s4) (.p r4)) st3 (reps_cut r l h)
        · cases e
end
end EV

set_option Elab.async false
set_option linter.all false
set_option maxRecDepth 100000
namespace EV
open PySem PySem.Spec PyProof.Rows L2

inductive Lks (K : PySem.W.Frag) (H : Hp) (W : List Addr) : List V → List D → Prop
  | nil : Lks K H W [] []
  | cons {v : V} {vs : List V} {d : D} {ds : List D} : Lk K H W v d → Lks K H W vs ds → Lks K H W (v :: vs) (d :: ds)
theorem lks_of {K : PySem.W.Frag} {H : Hp} {W : List Addr} {S : Sto} (st : StOK K H W S) : ∀ {vs : List V} {xs : List Vl} {ds : List D}, RepLs K H W vs xs → rds S xs = some ds → Lks K H W vs ds
  | _, _, _, .nil, e => by cases e; exact .nil
  | _, _, ds, .cons a b, e => by
    unfold rds at e
    split at e
    · rename_i d ds' e1 e2
      cases e
      exact .cons (lk_of st a e1) (lks_of st b e2)
    · cases e
theorem Lks.one {K : PySem.W.Frag} {H : Hp} {W : List Addr} {vs : List V} {d : D} (h : Lks K H W vs [d]) : ∃ v, vs = [v] ∧ Lk K H W v d := by
  cases h with
  | cons a b => cases b; exact ⟨_, rfl, a⟩
theorem Lks.two {K : PySem.W.Frag} {H : Hp} {W : List Addr} {vs : List V} {d e : D} (h : Lks K H W vs [d, e]) : ∃ v u, vs = [v, u] ∧ Lk K H W v d ∧ Lk K H W u e := by
  cases h with
  | cons a b =>
    obtain ⟨u, rfl, h⟩ := b.one
    exact ⟨_, u, rfl, a, h⟩

def CallD (X : Cx) (f : Value) (g : List D → Option D) : Prop :=
  ∃ r, CallR X f r ∧ ∀ (H : Hp) (W : List Addr) (S : Sto) (vs : List V) (ds : List D) (d : D) (Q : VK), StOK X.K H W S → Lks X.K H W vs ds → g ds = some d → Res X.K H W d Q → r vs H Q
def sCB (g : List D → Option D) (fs : Exs) : Ex := fun σ S => match fs σ S with
  | none => none
  | some (xs, S1) => match rds S1 xs with
    | some ds => match g ds with
      | some d => some (.p d, S1)
      | none => none
    | none => none
section
variable {X : Cx} {e : Expr} {es : List Expr} {x : Str} {p pos : Pos} {fs : Exs} {fa : Ex}
theorem cb_go {r : List V → Hp → VK → Prop} {g : List D → Option D}
    (hr : ∀ (H : Hp) (W : List Addr) (S : Sto) (vs : List V) (ds : List D) (d : D) (Q : VK), StOK X.K H W S → Lks X.K H W vs ds → g ds = some d → Res X.K H W d Q → r vs H Q)
    (σ : L2.St) (H : Hp) (Q : VK) (q : tEV X.K (sCB g fs) σ H Q) : tCB r (tEVs X.K fs) σ H Q := by
  obtain ⟨W, S, σp, d, S', st, rs, e, q⟩ := q
  unfold sCB at e
  split at e
  · cases e
  · rename_i xs S1 e1
    split at e
    · rename_i ds e2
      split at e
      · rename_i d' e3
        cases e
        refine tEVs_mk st rs e1 fun vs H1 W1 x1 st1 rs1 r1 => ?_
        exact hr H1 W1 _ vs ds d' Q st1 (lks_of st1 r1 e2) e3 fun v H2 s2 r2 => q v H2 W1 (x1.trans (.same s2)) (st1.same s2) (.p r2)
      · cases e
    · cases e
theorem ev_callB {id : String} {g : List D → Option D} (hc : CallD X (.builtin id) g) (hg : Gl X x) (hm : X.mg x = none) (hv : bootBuiltins x = some (.builtin id)) (ha : EVs X (e :: es) fs) (hn : x ≠ "__name__" := by decide) (hdb : (x == ("__debug__" : Str)) = false := by decide)
    (he : starEach (e :: es) X.env = (false, eval e X.env) :: starEach es X.env := by rfl) (hpl : (backTo pos (starEach es X.env)).any (·.1) = false := by rfl) : EV X (.Call (.Name x p) (e :: es) [] pos) (sCB g fs) := by
  obtain ⟨r, h1, h2⟩ := hc
  exact PE.weak (pe_callB h1 hg hm hv ha hn hdb he hpl) (cb_go h2)
theorem ev_callTy {T : String} {g : List D → Option D} (hc : CallD X (.type T) g) (hg : Gl X x) (hm : X.mg x = none) (hv : bootBuiltins x = some (.type T)) (ha : EVs X (e :: es) fs) (hn : x ≠ "__name__" := by decide) (hdb : (x == ("__debug__" : Str)) = false := by decide)
    (he : starEach (e :: es) X.env = (false, eval e X.env) :: starEach es X.env := by rfl) (hpl : (backTo pos (starEach es X.env)).any (·.1) = false := by rfl) : EV X (.Call (.Name x p) (e :: es) [] pos) (sCB g fs) := by
  obtain ⟨r, h1, h2⟩ := hc
  exact PE.weak (pe_callTy h1 hg hm hv ha hn hdb he hpl) (cb_go h2)

/-! ### len -/
def dLen : List D → Option D
  | [.lst xs] => some (.int xs.length)
  | [.tup xs] => some (.int xs.length)
  | [.dct ks _] => some (.int ks.length)
  | [.str z] => match decide (z.length ≤ sizeLine) with
    | true => some (.int z.length)
    | false => none
  | _ => none
def rLenD : List V → Hp → VK → Prop := fun xs H Q => ∃ (p : Addr) (n : Nat), xs = [.ref p] ∧ ((∃ kvs, Rd H p (.dK kvs) ∧ n = kvs.length) ∨ ∃ kvs, Rd H p (.dT kvs) ∧ n = kvs.length) ∧ Q (.int (n : Nat)) H
theorem call_len_D : CallR X (.builtin "len") rLenD := by
  intro pins s σ H xs us Q I r h
  obtain ⟨p, n, rfl, h, q⟩ := h
  obtain ⟨u, rfl, rx⟩ := vals1 r
  obtain rfl : u = .ref p := rx
  have hn := line63
  rcases h with ⟨kvs, hR, rfl⟩ | ⟨kvs, hR, rfl⟩
  · exact d_len I hR fun t s' I' => ⟨.int _, H, I', ⟨_, rfl⟩, q⟩
  · obtain ⟨z, hd, ys, rel, dd⟩ := dt_rd I.hok hR
    have hl : kvs.length = ys.length := Paired.length rel
    exact call_len_dictH hd dd (by omega) ⟨.int _, H, I.tok _, ⟨s.toks + 1, by rw [hl]⟩, q⟩
theorem cd_len : CallD X (.builtin "len") dLen := by
  refine ⟨_, call_len.or call_len_D, fun H W S vs ds d Q st hL e q => ?_⟩
  unfold dLen at e
  split at e
  · cases e
    obtain ⟨v, rfl, h⟩ := hL.one
    obtain ⟨a, xs, rfl, h1, r⟩ := h.lst'
    exact .inl ⟨_, xs.length, rfl, .inl ⟨xs, SqL.of h1, rfl⟩, by rw [r.length]; exact q.here (.int _)⟩
  · cases e
    obtain ⟨v, rfl, h⟩ := hL.one
    obtain ⟨a, xs, rfl, h1, r⟩ := h.tup
    exact .inl ⟨_, xs.length, rfl, .inr ⟨xs, h1, rfl⟩, by rw [r.length]; exact q.here (.int _)⟩
  · cases e
    obtain ⟨v, rfl, h⟩ := hL.one
    cases lk_rep h with
    | dk hR hk hr =>
      subst hk
      refine .inr ⟨_, _, rfl, .inl ⟨_, hR, rfl⟩, ?_⟩
      rw [List.length_map] at q
      exact q.here (.int _)
    | dt hR hk hr =>
      subst hk
      refine .inr ⟨_, _, rfl, .inr ⟨_, hR, rfl⟩, ?_⟩
      rw [List.length_map] at q
      exact q.here (.int _)
  · split at e
    · rename_i z hz
      cases e
      obtain ⟨v, rfl, h⟩ := hL.one
      rw [h.str]
      exact .inl ⟨_, _, rfl, ⟨of_decide_eq_true (by assumption), rfl⟩, q.here (.int _)⟩
    · cases e
  · cases e

/-! ### numbers -/
def dAbs : List D → Option D
  | [.int i] => some (.int (if i < 0 then -i else i))
  | _ => none
theorem cd_abs : CallD X (.builtin "abs") dAbs := by
  refine ⟨_, call_abs, fun H W S vs ds d Q st hL e q => ?_⟩
  unfold dAbs at e
  split at e
  · cases e
    obtain ⟨v, rfl, h⟩ := hL.one
    rw [h.int]
    exact ⟨_, rfl, q.here (.int _)⟩
  · cases e
def dIntT : List D → Option D
  | [.int i] => some (.int i)
  | _ => none
theorem cd_int : CallD X (.type "int") dIntT := by
  refine ⟨_, call_int1, fun H W S vs ds d Q st hL e q => ?_⟩
  unfold dIntT at e
  split at e
  · cases e
    obtain ⟨v, rfl, h⟩ := hL.one
    rw [h.int]
    exact .inl ⟨_, rfl, q.here (.int _)⟩
  · cases e
def maxL : Int → List Int → Int
  | m, [] => m
  | m, n :: ns => maxL (if n > m then n else m) ns
def minL : Int → List Int → Int
  | m, [] => m
  | m, n :: ns => minL (if n < m then n else m) ns
theorem maxL_spec : ∀ (m : Int) (ns : List Int), maxL m ns ∈ m :: ns ∧ ∀ y ∈ m :: ns, y ≤ maxL m ns
  | m, [] => ⟨List.mem_cons_self, fun y hy => by rw [List.mem_singleton.mp hy]; exact Int.le_refl _⟩
  | m, n :: ns => by
    obtain ⟨h1, h2⟩ := maxL_spec (if n > m then n else m) ns
    rw [maxL]
    refine ⟨?_, fun y hy => ?_⟩
    · rcases List.mem_cons.mp h1 with h | h
      · rw [h]
        split
        · exact List.mem_cons_of_mem _ List.mem_cons_self
        · exact List.mem_cons_self
      · exact List.mem_cons_of_mem _ (List.mem_cons_of_mem _ h)
    · have h3 := h2 _ List.mem_cons_self
      have h4 : n ≤ (if n > m then n else m) ∧ m ≤ (if n > m then n else m) := by split <;> omega
      rcases List.mem_cons.mp hy with h | h
      · subst h; omega
      · rcases List.mem_cons.mp h with h | h
        · subst h; omega
        · exact h2 y (List.mem_cons_of_mem _ h)
theorem minL_spec : ∀ (m : Int) (ns : List Int), minL m ns ∈ m :: ns ∧ ∀ y ∈ m :: ns, minL m ns ≤ y
  | m, [] => ⟨List.mem_cons_self, fun y hy => by rw [List.mem_singleton.mp hy]; exact Int.le_refl _⟩
  | m, n :: ns => by
    obtain ⟨h1, h2⟩ := minL_spec (if n < m then n else m) ns
    rw [minL]
    refine ⟨?_, fun y hy => ?_⟩
    · rcases List.mem_cons.mp h1 with h | h
      · rw [h]
        split
        · exact List.mem_cons_of_mem _ List.mem_cons_self
        · exact List.mem_cons_self
      · exact List.mem_cons_of_mem _ (List.mem_cons_of_mem _ h)
    · have h3 := h2 _ List.mem_cons_self
      have h4 : (if n < m then n else m) ≤ n ∧ (if n < m then n else m) ≤ m := by split <;> omega
      rcases List.mem_cons.mp hy with h | h
      · subst h; omega
      · rcases List.mem_cons.mp h with h | h
        · subst h; omega
        · exact h2 y (List.mem_cons_of_mem _ h)
def dMax : List D → Option D
  | [.int i, .int j] => some (.int (if j > i then j else i))
  | [.lst xs] => match intsOf xs with
    | some (n :: ns) => some (.int (maxL n ns))
    | _ => none
  | _ => none
def dMin : List D → Option D
  | [.int i, .int j] => some (.int (if j < i then j else i))
  | [.lst xs] => match intsOf xs with
    | some (n :: ns) => some (.int (minL n ns))
    | _ => none
  | _ => none
theorem lk_ints {K : PySem.W.Frag} {H : Hp} {W : List Addr} {v : V} {xs : List D} {ns : List Int} (h : Lk K H W v (.lst xs)) (e : intsOf xs = some ns) : ∃ a, v = .ref a ∧ SqL K H a (ns.map V.int) := by
  obtain ⟨a, us, rfl, h1, r⟩ := h.lst'
  rw [intsOf_eq e] at r
  rw [reps_ints r] at h1
  exact ⟨a, rfl, SqL.of h1⟩
theorem cd_max (hc : X.calm = true) : CallD X (.builtin "max") dMax := by
  refine ⟨_, (call_max2 hc).or (cr_max hc), fun H W S vs ds d Q st hL e q => ?_⟩
  unfold dMax at e
  split at e
  · cases e
    obtain ⟨v, u, rfl, h1, h2⟩ := hL.two
    rw [h1.int, h2.int]
    exact .inl ⟨_, _, rfl, q.here (.int _)⟩
  · obtain ⟨v, rfl, h⟩ := hL.one
    split at e
    · rename_i n ns e1
      cases e
      obtain ⟨a, rfl, hs⟩ := lk_ints h e1
      refine .inr ⟨a, n :: ns, rfl, hs, Nat.succ_pos _, fun m hm hall => ?_⟩
      obtain ⟨k1, k2⟩ := maxL_spec n ns
      have : m = maxL n ns := by
        have a1 := hall _ k1
        have a2 := k2 _ hm
        omega
      rw [this]
      exact q.here (.int _)
    · cases e
  · cases e
theorem cd_min (hc : X.calm = true) : CallD X (.builtin "min") dMin := by
  refine ⟨_, (call_min2 hc).or (cr_min hc), fun H W S vs ds d Q st hL e q => ?_⟩
  unfold dMin at e
  split at e
  · cases e
    obtain ⟨v, u, rfl, h1, h2⟩ := hL.two
    rw [h1.int, h2.int]
    exact .inl ⟨_, _, rfl, q.here (.int _)⟩
  · obtain ⟨v, rfl, h⟩ := hL.one
    split at e
    · rename_i n ns e1
      cases e
      obtain ⟨a, rfl, hs⟩ := lk_ints h e1
      refine .inr ⟨a, n :: ns, rfl, hs, Nat.succ_pos _, fun m hm hall => ?_⟩
      obtain ⟨k1, k2⟩ := minL_spec n ns
      have : m = minL n ns := by
        have a1 := hall _ k1
        have a2 := k2 _ hm
        omega
      rw [this]
      exact q.here (.int _)
    · cases e
  · cases e
def dSum : List D → Option D
  | [.lst xs] => (intsOf xs).map fun ns => .int ns.sum
  | _ => none
theorem cd_sum (hc : X.calm = true) : CallD X (.builtin "sum") dSum := by
  refine ⟨_, cr_sum hc, fun H W S vs ds d Q st hL e q => ?_⟩
  unfold dSum at e
  split at e
  · obtain ⟨v, rfl, h⟩ := hL.one
    obtain ⟨ns, e1, rfl⟩ := Option.map_eq_some_iff.mp e
    obtain ⟨a, rfl, hs⟩ := lk_ints h e1
    exact ⟨a, ns, rfl, hs, q.here (.int _)⟩
  · cases e

/-! ### any, all -/
def boolsOf : List D → Option (List Bool)
  | [] => some []
  | .bl b :: r => (boolsOf r).map (b :: ·)
  | _ => none
theorem boolsOf_eq : ∀ {ds : List D} {bs : List Bool}, boolsOf ds = some bs → ds = bs.map D.bl
  | [], _, h => by cases h; rfl
  | .bl i :: r, ns, h => by
    unfold boolsOf at h
    cases e : boolsOf r with
    | none => rw [e] at h; cases h
    | some ms => rw [e] at h; cases h; rw [List.map_cons, ← boolsOf_eq e]
  | .non :: _, _, h => by cases h
  | .int _ :: _, _, h => by cases h
  | .str _ :: _, _, h => by cases h
  | .tup _ :: _, _, h => by cases h
  | .lst _ :: _, _, h => by cases h
  | .dct _ _ :: _, _, h => by cases h
  | .set _ :: _, _, h => by cases h
  | .scr _ :: _, _, h => by cases h
theorem reps_bools {K : PySem.W.Frag} {H : Hp} {W : List Addr} : ∀ {ns : List Bool} {vs : List V}, Reps K H W vs (ns.map D.bl) → vs = ns.map V.bl
  | [], _, h => by cases h; rfl
  | n :: ns, _, h => by
    cases h with
    | cons a b => cases a; rw [List.map_cons, ← reps_bools b]
def dAny : List D → Option D
  | [.lst xs] => (boolsOf xs).map fun bs => .bl (bs.any id)
  | _ => none
def dAll : List D → Option D
  | [.lst xs] => (boolsOf xs).map fun bs => .bl (bs.all id)
  | _ => none
theorem cd_any (hc : X.calm = true) : CallD X (.builtin "any") dAny := by
  refine ⟨_, cr_any hc, fun H W S vs ds d Q st hL e q => ?_⟩
  unfold dAny at e
  split at e
  · obtain ⟨v, rfl, h⟩ := hL.one
    obtain ⟨bs, e1, rfl⟩ := Option.map_eq_some_iff.mp e
    obtain ⟨a, us, rfl, h1, r⟩ := h.lst'
    rw [boolsOf_eq e1] at r
    rw [reps_bools r] at h1
    exact ⟨a, bs, rfl, SqL.of h1, q.here (.bl _)⟩
  · cases e
theorem cd_all (hc : X.calm = true) : CallD X (.builtin "all") dAll := by
  refine ⟨_, cr_all hc, fun H W S vs ds d Q st hL e q => ?_⟩
  unfold dAll at e
  split at e
  · obtain ⟨v, rfl, h⟩ := hL.one
    obtain ⟨bs, e1, rfl⟩ := Option.map_eq_some_iff.mp e
    obtain ⟨a, us, rfl, h1, r⟩ := h.lst'
    rw [boolsOf_eq e1] at r
    rw [reps_bools r] at h1
    exact ⟨a, bs, rfl, SqL.of h1, q.here (.bl _)⟩
  · cases e

/-! ### list(x), tuple(x) -/
def dList : List D → Option D
  | [.lst xs] => some (.lst xs)
  | [.tup xs] => some (.lst xs)
  | [.scr xs] => some (.lst xs)
  | _ => none
theorem cd_list : CallD X (.type "list") dList := by
  refine ⟨_, call_list_of, fun H W S vs ds d Q st hL e q => ?_⟩
  unfold dList at e
  split at e
  · cases e
    obtain ⟨v, rfl, h⟩ := hL.one
    obtain ⟨a, us, rfl, h1, r⟩ := h.lst'
    exact ⟨a, us, rfl, .inl (SqL.of h1), q.lst st r⟩
  · cases e
    obtain ⟨v, rfl, h⟩ := hL.one
    obtain ⟨a, us, rfl, h1, r⟩ := h.tup
    exact ⟨a, us, rfl, .inr h1, q.lst st r⟩
  · cases e
    obtain ⟨v, rfl, h⟩ := hL.one
    cases h with
    | rep h => cases h with
      | scr h1 r => exact ⟨_, _, rfl, .inl h1.l, q.lst st r⟩
  · cases e
def dTuple : List D → Option D
  | [.lst xs] => some (.tup xs)
  | [.tup xs] => some (.tup xs)
  | _ => none
theorem cd_tuple : CallD X (.type "tuple") dTuple := by
  refine ⟨_, call_tuple_of, fun H W S vs ds d Q st hL e q => ?_⟩
  unfold dTuple at e
  split at e
  · cases e
    obtain ⟨v, rfl, h⟩ := hL.one
    obtain ⟨a, us, rfl, h1, r⟩ := h.lst'
    exact ⟨a, us, rfl, .inl ⟨SqL.of h1, q.tup st r⟩⟩
  · cases e
    obtain ⟨v, rfl, h⟩ := hL.one
    obtain ⟨a, us, rfl, h1, r⟩ := h.tup
    exact ⟨a, us, rfl, .inr ⟨h1, q.here (.tup h1 r)⟩⟩
  · cases e

/-! ### isinstance(x, T) -/
inductive Ty where
  | int | bool | str | tup | lst
def Ty.nm : Ty → String
  | .int => "int" | .bool => "bool" | .str => "str" | .tup => "tuple" | .lst => "list"
def isi : Ty → D → Option Bool
  | .int, .int _ => some true
  | .int, .bl _ => some true
  | .bool, .bl _ => some true
  | .str, .str _ => some true
  | .tup, .tup _ => some true
  | .lst, .lst _ => some true
  | _, .dct _ _ => none
  | _, .set _ => none
  | _, .scr _ => none
  | _, _ => some false
def tyN : D → String
  | .non => "NoneType" | .bl _ => "bool" | .int _ => "int" | .str _ => "str" | .tup _ => "tuple" | .lst _ => "list" | .dct _ _ => "dict" | .set _ => "set" | .scr _ => "list"
theorem kits : ∀ t ∈ [Ty.int, .bool, .str, .tup, .lst], ∀ d ∈ [D.non, .bl true, .int 0, .str ⟨#[]⟩, .tup [], .lst []], kitB (tyN d) t.nm = isi t d := by
  have h : ([Ty.int, .bool, .str, .tup, .lst].all fun t => [D.non, .bl true, .int 0, .str ⟨#[]⟩, .tup [], .lst []].all fun d => decide (kitB (tyN d) t.nm = isi t d)) = true := by decide +kernel
  intro t ht d hd
  exact of_decide_eq_true (List.all_eq_true.mp (List.all_eq_true.mp h t ht) d hd)
theorem kit_is (t : Ty) : ∀ (d : D) {b : Bool}, isi t d = some b → kitB (tyN d) t.nm = some b := by
  have ht : t ∈ [Ty.int, .bool, .str, .tup, .lst] := by cases t <;> simp
  intro d b h
  cases d with
  | non => exact (kits t ht .non (by simp)).trans h
  | bl x => exact (kits t ht (.bl true) (by simp)).trans (by rw [← h]; cases t <;> rfl)
  | int i => exact (kits t ht (.int 0) (by simp)).trans (by rw [← h]; cases t <;> rfl)
  | str x => exact (kits t ht (.str ⟨#[]⟩) (by simp)).trans (by rw [← h]; cases t <;> rfl)
  | tup x => exact (kits t ht (.tup []) (by simp)).trans (by rw [← h]; cases t <;> rfl)
  | lst x => exact (kits t ht (.lst []) (by simp)).trans (by rw [← h]; cases t <;> rfl)
  | dct _ _ => cases t <;> cases h
  | set _ => cases t <;> cases h
  | scr _ => cases t <;> cases h
def sIsi (t : Ty) (fa : Ex) : Ex := s1 (fun d => (isi t d).map .bl) fa
theorem lk_ty {K : PySem.W.Frag} {H : Hp} {W : List Addr} {v : V} {d : D} (h : Lk K H W v d) (hd : ∀ ks vs, d ≠ .dct ks vs) (hs : ∀ xs, d ≠ .scr xs) : TyX K H v (.type (tyN d)) := by
  cases h with
  | rep h => cases h with
    | non => exact .base .non
    | bl b => exact .base (.bl b)
    | int b => exact .base (.int b)
    | str b => exact .base (.str b)
    | tup h r =>
      rcases h with (h | ⟨o, h⟩) | ⟨o, its, n, h, hc, _⟩
      · exact .base (.tup h)
      · exact .fTuple h
      · exact .kTuple h hc
    | lst h _ r => exact .base (.lst h)
    | scr h r => exact absurd rfl (hs _)
    | dk _ _ _ => exact absurd rfl (hd _ _)
    | dt _ _ _ => exact absurd rfl (hd _ _)
  | lst h r => exact .base (.lst h)
theorem ev_isi {T : Str} {p2 : Pos} (t : Ty) (hT : bootBuiltins T = some (.type t.nm)) (hgT : Gl X T) (hmT : X.mg T = none) (ha : EV X e fa) (hg : Gl X "isinstance") (hm : X.mg "isinstance" = none) (hn : T ≠ "__name__" := by decide) (hdT : (T == ("__debug__" : Str)) = false := by decide)
    (he : starEach [e, .Name T p2] X.env = (false, eval e X.env) :: starEach [.Name T p2] X.env := by rfl) : EV X (.Call (.Name "isinstance" p) [e, .Name T p2] [] pos) (sIsi t fa) := by
  have hT' : PE X (.Name T p2) (tC (.ty t.nm)) := pe_bltn hgT hmT hT (r := rfl) hn hdT
  have h := pe_callB (p := p) (pos := pos) call_isi hg hm PyProof.Rows.boot_isinstance (pa_cons ha (pa_cons hT' pa_nil) he) (by decide) (by decide) he (by rfl)
  refine PE.weak h fun σ H Q q => ?_
  have q' := op1_go (g := fun d => (isi t d).map D.bl) (r := fun x H Q => rIsi X.K [x, .ty t.nm] H Q) (fun H W S x a d Q st la e q => by
    obtain ⟨b, e1, rfl⟩ := Option.map_eq_some_iff.mp e
    exact ⟨x, _, _, _, b, rfl, .ty t.nm, lk_ty la (fun ks vs z => by subst z; cases t <;> cases e1) (fun xs z => by subst z; cases t <;> cases e1), kit_ty (kit_is t a e1), q.here (.bl _)⟩) σ H Q q
  exact q'
end
end EV

set_option Elab.async false
set_option linter.all false
set_option maxRecDepth 100000
namespace EV
open PySem PySem.Spec PyProof.Rows L2

/-! ### defs of the text: what they mean -/
abbrev Fn := List Vl → Sto → Option (Vl × Sto)
def spF (K : PySem.W.Frag) (F : Fn) (n : Nat) : Sp := fun vs H Q _ => ∃ W S xs d S', StOK K H W S ∧ RepLs K H W vs xs ∧ xs.length = n ∧ F xs S = some (d, S') ∧ ∀ v H' W', Ext H W H' W' → StOK K H' W' S' → RepL K H' W' v d → Q v H'
/-- the def x of n parameters means F -/
structure Df (P : Program) (w : World) (K : PySem.W.Frag) (mg : Str → Option Value) (base : Heap) (k : Nat) (x : Str) (n : Nat) (F : Fn) : Prop where
  ex : ∃ (f : Addr) (fd : FuncData) (ps : List Str), ps.length = n ∧ mg x = some (.ref f) ∧ PySem.W.keepIn K (.ref f) = true ∧ Binds K fd ps [] ∧ FnOk P w K mg base CX0 k f fd ps (spF K F n)
def sCall (n : Nat) (F : Fn) (fs : Exs) : Ex := fun σ S => match fs σ S with
  | none => none
  | some (xs, S1) => match decide (xs.length = n) with
    | true => F xs S1
    | false => none
section
variable {X : Cx} {e : Expr} {es : List Expr} {x : Str} {p pos : Pos} {fs : Exs} {F : Fn} {k n : Nat}
theorem call_go (σ : L2.St) (H : Hp) (Q : VK) (q : tEV X.K (sCall n F fs) σ H Q) : tCall (spF X.K F n) [] E0 (tEVs X.K fs) σ H Q := by
  obtain ⟨W, S, σp, d, S', st, rs, e, q⟩ := q
  unfold sCall at e
  split at e
  · cases e
  · rename_i xs S1 e1
    split at e
    · rename_i hn
      refine tEVs_mk st rs e1 fun vs H1 W1 x1 st1 rs1 r1 => ?_
      refine ⟨W1, S1, xs, d, S', st1, by rw [List.append_nil]; exact r1, of_decide_eq_true hn, e, fun v H2 W2 x2 st2 r2 => q v H2 W2 (x1.trans x2) st2 r2⟩
    · cases e
theorem ev_call (D : Df X.prog X.w X.K X.mg X.base k x n F) (hr : Room k X.A) (hg : Gl X x) (ha : EVs X (e :: es) fs) (hdb : (x == ("__debug__" : Str)) = false := by decide)
    (he : starEach (e :: es) X.env = (false, eval e X.env) :: starEach es X.env := by rfl) (hpl : (backTo pos (starEach es X.env)).any (·.1) = false := by rfl) : EV X (.Call (.Name x p) (e :: es) [] pos) (sCall n F fs) := by
  obtain ⟨f, fd, ps, hl, hm, hk, hb, G⟩ := D.ex
  exact PE.weak (pe_call G hr hg hm hk hb .nil pass0 ha hdb he hpl) call_go
theorem ev_call0 (D : Df X.prog X.w X.K X.mg X.base k x n F) (hr : Room k X.A) (hg : Gl X x) (hdb : (x == ("__debug__" : Str)) = false := by decide) : EV X (.Call (.Name x p) [] [] pos) (sCall n F sNil) := by
  obtain ⟨f, fd, ps, hl, hm, hk, hb, G⟩ := D.ex
  refine PE.weak (pe_call0 G hr hg hm hk hb .nil pass0 hdb) fun σ H Q q => ?_
  have := call_go σ H Q q
  obtain ⟨W, S, σp, ds, S', st, rs, e, q⟩ := this
  cases e
  exact q [] H W .refl st .nil
end

/-! ### statements -/
inductive Out where
  | nx (σ : PS) | rt (v : Vl)
abbrev Sx := PS → Sto → Option (Out × Sto)
def OutOK (K : PySem.W.Frag) (H : Hp) (W : List Addr) (S' : Sto) (Dn : Ends) : Out → Prop
  | .nx σp' => ∀ σ' H' W', Ext H W H' W' → StOK K H' W' S' → RepS K H' W' σ' σp' → Dn.nx σ' H'
  | .rt v => ∀ u H' W', Ext H W H' W' → StOK K H' W' S' → RepL K H' W' u v → Dn.rt u H'
theorem OutOK.ext {K : PySem.W.Frag} {H H1 : Hp} {W W1 : List Addr} {S' : Sto} {Dn : Ends} {o : Out} (h : OutOK K H W S' Dn o) (x : Ext H W H1 W1) : OutOK K H1 W1 S' Dn o := by
  cases o with
  | nx σp => exact fun σ' H' W' x' st rs => h σ' H' W' (x.trans x') st rs
  | rt v => exact fun u H' W' x' st r => h u H' W' (x.trans x') st r
def tSV (K : PySem.W.Frag) (f : Sx) : TS := fun Dn σ H => ∃ W S σp o S', StOK K H W S ∧ RepS K H W σ σp ∧ f σp S = some (o, S') ∧ OutOK K H W S' Dn o
def EVS (X : Cx) (st : Stmt) (f : Sx) : Prop := L2.PS X st (tSV X.K f)
def EVB (X : Cx) (sts : List Stmt) (f : Sx) : Prop := PSs X sts (tSV X.K f)
theorem PS.weak {X : Cx} {e : Stmt} {t t' : TS} (h : L2.PS X e t) (w : ∀ Dn σ H, t' Dn σ H → t Dn σ H) : L2.PS X e t' := ⟨fun pins s σ H Dn I q => h.run pins s σ H Dn I (w Dn σ H q)⟩
theorem PSs.weak {X : Cx} {e : List Stmt} {t t' : TS} (h : PSs X e t) (w : ∀ Dn σ H, t' Dn σ H → t Dn σ H) : PSs X e t' := ⟨fun pins s σ H Dn I q => h.run pins s σ H Dn I (w Dn σ H q)⟩
theorem tSV_mk {K : PySem.W.Frag} {f : Sx} {Dn : Ends} {σ : L2.St} {H : Hp} {W : List Addr} {S S' : Sto} {σp : PS} {o : Out} (st : StOK K H W S) (rs : RepS K H W σ σp) (e : f σp S = some (o, S'))
    (q : OutOK K H W S' Dn o) : tSV K f Dn σ H := ⟨W, S, σp, o, S', st, rs, e, q⟩
def sSkip : Sx := fun σ S => some (.nx σ, S)
def sSeq (f g : Sx) : Sx := fun σ S => match f σ S with
  | some (.nx σ1, S1) => g σ1 S1
  | some (.rt v, S1) => some (.rt v, S1)
  | none => none
def sRet (f : Ex) : Sx := fun σ S => match f σ S with
  | some (v, S1) => some (.rt v, S1)
  | none => none
def sRetN : Sx := fun _ S => some (.rt (.p .non), S)
def sDrop (f : Ex) : Sx := fun σ S => match f σ S with
  | some (_, S1) => some (.nx σ, S1)
  | none => none
def sIfS (t : Ex) (f g : Sx) : Sx := fun σ S => match t σ S with
  | some (.p (.bl true), S1) => f σ S1
  | some (.p (.bl false), S1) => g σ S1
  | _ => none
/-- not to be come to -/
def sBad : Sx := fun _ _ => none
/-- a target: what a value does to the slots -/
abbrev Tg := Vl → PS → Option PS
def gN (i : Nat) : Tg := fun v σ => some (σ.set i (some v))
def gAll : List Tg → List D → PS → Option PS
  | [], [], σ => some σ
  | t :: ts, d :: ds, σ => match t (.p d) σ with
    | some σ1 => gAll ts ds σ1
    | none => none
  | _, _, _ => none
def gT (ts : List Tg) : Tg := fun v σ => match v with
  | .p (.tup ds) => gAll ts ds σ
  | _ => none
def sAsg (f : Ex) (g : Tg) : Sx := fun σ S => match f σ S with
  | some (v, S1) => match g v σ with
    | some σ1 => some (.nx σ1, S1)
    | none => none
  | none => none
/-- a, b = x, y -/
def sPar (i j : Nat) (f : Exs) : Sx := fun σ S => match f σ S with
  | some ([v, w], S1) => some (.nx ((σ.set i (some v)).set j (some w)), S1)
  | _ => none
/-- o[i] = e, o a list of the store -/
def sSetIx (fo fi fe : Ex) : Sx := fun σ S => match fe σ S with
  | some (.p d, S1) => match fo σ S1 with
    | some (.m k, S2) => match fi σ S2 with
      | some (.p (.int i), S3) => match S3[k]? with
        | some xs => match ixN xs.length i with
          | some j => some (.nx σ, S3.set k (xs.set j d))
          | none => none
        | none => none
      | _ => none
    | _ => none
  | _ => none
/-- o.append(e), o a list of the store -/
def sApp (fo fe : Ex) : Sx := fun σ S => match fo σ S with
  | some (.m k, S1) => match fe σ S1 with
    | some (.p d, S2) => match S2[k]? with
      | some xs => match decide (xs.length < sizeLine) with
        | true => some (.nx σ, S2.set k (xs ++ [d]))
        | false => none
      | none => none
    | _ => none
  | _ => none

/-- the slots off ws are as they were -/
def Off (ws : List Nat) (σ σ' : L2.St) : Prop := σ'.length = σ.length ∧ ∀ j, j ∉ ws → σ'[j]? = σ[j]?
theorem Off.trans {ws ws' : List Nat} {σ σ1 σ2 : L2.St} (a : Off ws σ σ1) (b : Off ws' σ1 σ2) : Off (ws ++ ws') σ σ2 :=
  ⟨b.1.trans a.1, fun j hj => (b.2 j fun z => hj (List.mem_append_right _ z)).trans (a.2 j fun z => hj (List.mem_append_left _ z))⟩
theorem Off.set {σ : L2.St} {i : Nat} {v : Option V} : Off [i] σ (σ.set i v) := ⟨List.length_set, fun j hj => List.getElem?_set_ne fun z => hj (by rw [z]; simp)⟩
theorem wipe_get {σ : L2.St} {j : Nat} : ∀ {vs : List Nat}, (wipe σ vs)[j]? = if j ∈ vs ∧ j < σ.length then some none else σ[j]?
  | [] => by simp [wipe]
  | v :: vs => by
    unfold wipe
    by_cases h : v = j
    · subst h
      by_cases hl : v < σ.length
      · rw [List.getElem?_set_self (by rw [wipe_length]; exact hl), if_pos ⟨by simp, hl⟩]
      · rw [if_neg (fun z => hl z.2), List.getElem?_eq_none (by rw [List.length_set, wipe_length]; omega), List.getElem?_eq_none (by omega)]
    · rw [List.getElem?_set_ne h, wipe_get (vs := vs)]
      have : (j ∈ v :: vs) ↔ j ∈ vs := by simp [Ne.symm h]
      simp only [this]
theorem Off.wipe {ws vs : List Nat} {σ σ' : L2.St} (a : Off ws σ σ') (h : ∀ i ∈ ws, i ∈ vs) : wipe σ' vs = wipe σ vs := by
  refine List.ext_getElem? fun j => ?_
  rw [wipe_get, wipe_get, a.1]
  by_cases hj : j ∈ vs
  · by_cases hl : j < σ.length
    · rw [if_pos ⟨hj, hl⟩, if_pos ⟨hj, hl⟩]
    · rw [if_neg (fun z => hl z.2), if_neg (fun z => hl z.2), List.getElem?_eq_none (by rw [a.1]; omega), List.getElem?_eq_none (by omega)]
  · rw [if_neg (fun z => hj z.1), if_neg (fun z => hj z.1), a.2 j fun z => hj (h j z)]
def tGV (K : PySem.W.Frag) (g : Tg) (ws : List Nat) : TG := fun v σ H Q => ∃ W S x σp σp', StOK K H W S ∧ RepL K H W v x ∧ RepS K H W σ σp ∧ g x σp = some σp' ∧ ∀ σ', RepS K H W σ' σp' → Off ws σ σ' → Q σ' H
def tGVs (K : PySem.W.Frag) (g : List Tg) (ws : List Nat) : TGs := fun vs σ H Q => ∃ W S ds σp σp', StOK K H W S ∧ Reps K H W vs ds ∧ RepS K H W σ σp ∧ gAll g ds σp = some σp' ∧ ∀ σ', RepS K H W σ' σp' → Off ws σ σ' → Q σ' H
def EG (X : Cx) (t : Expr) (g : Tg) (ws : List Nat) : Prop := PG X t (tGV X.K g ws)
def EGs (X : Cx) (ts : List Expr) (g : List Tg) (ws : List Nat) : Prop := PGs X ts (tGVs X.K g ws)
theorem PG.weak {X : Cx} {e : Expr} {t t' : TG} (h : PG X e t) (w : ∀ v σ H Q, t' v σ H Q → t v σ H Q) : PG X e t' := ⟨fun pins s σ H v u Q I r q => h.run pins s σ H v u Q I r (w v σ H Q q)⟩
theorem PGs.weak {X : Cx} {e : List Expr} {t t' : TGs} (h : PGs X e t) (w : ∀ v σ H Q, t' v σ H Q → t v σ H Q) : PGs X e t' := ⟨fun pins s σ H v u Q I r q => h.run pins s σ H v u Q I r (w v σ H Q q)⟩
section
variable {X : Cx} {pos : Pos} {st : Stmt} {rest : List Stmt} {e c o ix : Expr} {f g h : Sx} {fe fc fo fi : Ex} {tg : Expr} {gt : Tg}
theorem eg_name {i : Nat} {x : Str} (hN : X.N.Nodup) (hi : X.N[i]? = some x) (hx : Loc X.env.scope x) (hf : X.fn x = true ∨ X.env.scope.names.lookup x = some .local := by first | exact .inl rfl | exact .inr rfl | assumption) : EG X (.Name x pos) (gN i) [i] :=
  PG.weak (pg_name hN hi hx hf) fun v σ H Q q => by
    obtain ⟨W, S, y, σp, σp', st, r, rs, e, q⟩ := q
    cases e
    exact q _ (rs.set i r) .set
theorem egs_nil : EGs X [] [] [] := PGs.weak pgs_nil fun v σ H Q q => by
  obtain ⟨W, S, ds, σp, σp', st, r, rs, e, q⟩ := q
  cases r with
  | nil => cases e; exact ⟨rfl, q _ rs ⟨rfl, fun _ _ => rfl⟩⟩
  | cons _ _ => cases e
theorem egs_cons {t : Expr} {ts : List Expr} {g1 : Tg} {gs : List Tg} {ws ws' : List Nat} (h1 : EG X t g1 ws) (h2 : EGs X ts gs ws') (hs : (assignEach (t :: ts) X.env).map (·.2) = assign t X.env :: (assignEach ts X.env).map (·.2) := by rfl) : EGs X (t :: ts) (g1 :: gs) (ws ++ ws') :=
  PGs.weak (pgs_cons h1 h2 hs) fun v σ H Q q => by
    obtain ⟨W, S, ds, σp, σp', st, r, rs, e, q⟩ := q
    cases r with
    | nil => cases e
    | cons a b =>
      unfold gAll at e
      split at e
      · rename_i σ1 e1
        exact ⟨_, _, rfl, W, S, _, σp, σ1, st, .p a, rs, e1, fun σ' rs' o1 => ⟨W, S, _, σ1, σp', st, b, rs', e, fun σ2 rs2 o2 => q σ2 rs2 (o1.trans o2)⟩⟩
      · cases e
theorem eg_tup {ts : List Expr} {k : Nat} {gs : List Tg} {n : Nat} {ws : List Nat} (hc : X.calm = true) (hl : EGs X ts gs ws) (hg : gs.length = n := by rfl)
    (hn : (assignEach ts X.env).length = n := by rfl) (hst : (assignEach ts X.env).findIdx? (·.1) = none := by rfl) : EG X (.Tuple ts k pos) (gT gs) ws :=
  PG.weak (pg_tup hc hl hn hst) fun v σ H Q q => by
    obtain ⟨W, S, x, σp, σp', st, r, rs, e, q⟩ := q
    unfold gT at e
    split at e
    · rename_i ds
      cases r with
      | p r =>
        cases r with
        | tup h1 r1 =>
          have hlen : ∀ (gs : List Tg) (ds : List D) (σ σ' : PS), gAll gs ds σ = some σ' → gs.length = ds.length := by
            intro gs
            induction gs with
            | nil => intro ds σ σ' h; cases ds with
              | nil => rfl
              | cons _ _ => cases h
            | cons g gs ih => intro ds σ σ' h; cases ds with
              | nil => cases h
              | cons d ds =>
                unfold gAll at h
                split at h
                · exact congrArg Nat.succ (ih _ _ _ h)
                · cases h
          exact ⟨_, _, rfl, h1, by rw [r1.length, ← hlen _ _ _ _ e]; exact hg, W, S, ds, σp, σp', st, r1, rs, e, q⟩
    · cases e

theorem evb_nil : EVB X [] sSkip := PSs.weak pss_nil fun Dn σ H q => by
  obtain ⟨W, S, σp, o, S', st, rs, e, q⟩ := q
  cases e
  exact q σ H W .refl st rs
theorem evb_cons (h1 : EVS X st f) (h2 : EVB X rest g) : EVB X (st :: rest) (sSeq f g) := PSs.weak (pss_cons h1 h2) fun Dn σ H q => by
  obtain ⟨W, S, σp, o, S', st, rs, e, q⟩ := q
  unfold sSeq at e
  split at e
  · rename_i σ1 S1 e1
    exact tSV_mk st rs e1 fun σ' H' W' x' st' rs' => tSV_mk st' rs' e (q.ext x')
  · rename_i v S1 e1
    cases e
    exact tSV_mk st rs e1 q
  · cases e
theorem evb_one (h1 : EVS X st f) : EVB X [st] f := pss_one h1
theorem evs_pass : EVS X (.Pass pos) sSkip := PS.weak ps_pass fun Dn σ H q => by
  obtain ⟨W, S, σp, o, S', st, rs, e, q⟩ := q
  cases e
  exact q σ H W .refl st rs
theorem evs_bad : EVS X st sBad := ⟨fun pins s σ H Dn I q => by
  obtain ⟨W, S, σp, o, S', st, rs, e, q⟩ := q
  cases e⟩
theorem evs_ret (he : EV X e fe) : EVS X (.Return (some e) pos) (sRet fe) := PS.weak (ps_ret he) fun Dn σ H q => by
  obtain ⟨W, S, σp, o, S', st, rs, e, q⟩ := q
  unfold sRet at e
  split at e
  · rename_i v S1 e1
    cases e
    exact ⟨W, S, σp, v, _, st, rs, e1, fun u H' W' x' st' r => q u H' W' x' st' r⟩
  · cases e
theorem evs_retN : EVS X (.Return none pos) sRetN := PS.weak ps_retN fun Dn σ H q => by
  obtain ⟨W, S, σp, o, S', st, rs, e, q⟩ := q
  cases e
  exact q .non H W .refl st (.p .non)
theorem evs_drop (he : EV X e fe) (hs : swapsWith e none pos.line X.env = pure false := by rfl) : EVS X (.Expr e pos) (sDrop fe) := PS.weak (ps_expr he hs) fun Dn σ H q => by
  obtain ⟨W, S, σp, o, S', st, rs, e, q⟩ := q
  unfold sDrop at e
  split at e
  · rename_i v S1 e1
    cases e
    exact tEV_mk st rs e1 fun u H' W' x' st' rs' r => q σ H' W' x' st' rs'
  · cases e
theorem evs_if {a b : List Stmt} (hc : ET X c fc) (ha : EVB X a f) (hb : EVB X b g) : EVS X (.If c a b pos) (sIfS fc f g) := PS.weak (ps_if hc ha hb) fun Dn σ H q => by
  obtain ⟨W, S, σp, o, S', st, rs, e, q⟩ := q
  unfold sIfS at e
  split at e
  · rename_i S1 e1
    refine tEVT_mk st rs e1 fun H1 W1 x1 st1 rs1 => ?_
    rw [if_pos rfl]
    exact tSV_mk st1 rs1 e (q.ext x1)
  · rename_i S1 e1
    refine tEVT_mk st rs e1 fun H1 W1 x1 st1 rs1 => ?_
    rw [if_neg Bool.false_ne_true]
    exact tSV_mk st1 rs1 e (q.ext x1)
  · cases e
theorem asg_go {ws : List Nat} (Dn : Ends) (σ : L2.St) (H : Hp) (q : tSV X.K (sAsg fe gt) Dn σ H) : tAsg (tEV X.K fe) (tGV X.K gt ws) Dn σ H := by
  obtain ⟨W, S, σp, o, S', st, rs, e, q⟩ := q
  unfold sAsg at e
  split at e
  · rename_i v S1 e1
    split at e
    · rename_i σ1 e2
      cases e
      exact tEV_mk st rs e1 fun u H' W' x' st' rs' r => ⟨W', _, v, σp, σ1, st', r, rs', e2, fun σ' rs2 _ => q σ' H' W' x' st' rs2⟩
    · cases e
  · cases e
theorem evs_asg {ws : List Nat} (he : EV X e fe) (hg : EG X tg gt ws) (hs : swapsWithSole [tg] e pos.line X.env = pure false := by rfl) (hw : swappedStores [tg] e X.env = pure none := by rfl)
    (h1 : (assignEach [tg] X.env).map (·.2) = [assign tg X.env] := by rfl) : EVS X (.Assign [tg] e pos) (sAsg fe gt) := PS.weak (ps_asg he hg hs hw h1) asg_go
theorem evs_par {i j : Nat} {x y : Str} {a b : Expr} {fa : Exs} {px py pt : Pos} {kt k2 pt2} (hc : X.calm = true) (hN : X.N.Nodup) (hi : X.N[i]? = some x) (hj : X.N[j]? = some y) (hij : i ≠ j)
    (hx : X.env.scope.names.lookup x = some .local) (hy : X.env.scope.names.lookup y = some .local) (ha : EVs X [a, b] fa)
    (hw : swappedStores [.Tuple [.Name x px, .Name y py] kt pt] (.Tuple [a, b] k2 pt2) X.env = pure (some [x, y]))
    (hs : swapsWithSole [.Tuple [.Name x px, .Name y py] kt pt] (.Tuple [a, b] k2 pt2) pos.line X.env = pure false := by rfl) :
    EVS X (.Assign [.Tuple [.Name x px, .Name y py] kt pt] (.Tuple [a, b] k2 pt2) pos) (sPar i j fa) := PS.weak (ps_par hc hN hi hj hij hx hy ha hw hs) fun Dn σ H q => by
  obtain ⟨W, S, σp, o, S', st, rs, e, q⟩ := q
  unfold sPar at e
  split at e
  · rename_i v w S1 e1
    cases e
    refine tEVs_mk st rs e1 fun us H' W' x' st' rs' r => ?_
    cases r with
    | cons r1 r =>
      cases r with
      | cons r2 r =>
        cases r
        exact ⟨_, _, rfl, q _ H' W' x' st' ((rs'.set i r1).set j r2)⟩
  · cases e
/-- the store's list at k becomes ys -/
theorem sto_set {K : PySem.W.Frag} {H : Hp} {W : List Addr} {S : Sto} (st : StOK K H W S) {k : Nat} {a : Addr} (hk : W[k]? = some a) {ys : List D} {vs : List V} (r : Reps K H W vs ys) :
    Ext H W (upd H a (.lst vs)) W ∧ StOK K (upd H a (.lst vs)) W (S.set k ys) := by
  have ha : a ∈ W := List.mem_of_getElem? hk
  have x : Ext H W (upd H a (.lst vs)) W := ⟨fun b u e n => by rw [upd_ne (fun z => n (by rw [z]; exact ha))]; exact e, fun _ _ _ n => n, [], by simp⟩
  have hkS : k < S.length := by rw [← st.len]; exact (List.getElem?_eq_some_iff.mp hk).1
  refine ⟨x, by rw [List.length_set]; exact st.len, st.nd, fun i b hi => ?_⟩
  by_cases hik : k = i
  · subst hik
    rw [hk] at hi
    cases hi
    exact ⟨ys, vs, List.getElem?_set_self hkS, upd_same, r.ext st x⟩
  · obtain ⟨ds, us, e1, e2, r2⟩ := st.at_ i b hi
    have hne : b ≠ a := fun z => by
      rw [z] at hi
      obtain ⟨l1, q1⟩ := List.getElem?_eq_some_iff.mp hk
      obtain ⟨l2, q2⟩ := List.getElem?_eq_some_iff.mp hi
      exact hik ((List.getElem_inj st.nd).mp (q1.trans q2.symm))
    exact ⟨ds, us, by rw [List.getElem?_set_ne hik]; exact e1, by rw [upd_ne hne]; exact e2, r2.ext st x⟩
theorem evs_setIx {p2 : Pos} (he : EV X e fe) (ho : EV X o fo) (hi : EV X ix fi)
    (ha : ∀ v, assign (.Subscript o ix p2) X.env v = (do
      let ov ← holding [v] (eval o X.env)
      let iv ← holding [v, ov] (eval ix X.env)
      standAt p2
      holding [v, ov, iv] (setItem ov iv v)
      release [v, ov, iv] []) := by intro _; rfl)
    (hs : swapsWithSole [.Subscript o ix p2] e pos.line X.env = pure false := by rfl) (hw : swappedStores [.Subscript o ix p2] e X.env = pure none := by rfl)
    (h1 : (assignEach [.Subscript o ix p2] X.env).map (·.2) = [assign (.Subscript o ix p2) X.env] := by rfl) : EVS X (.Assign [.Subscript o ix p2] e pos) (sSetIx fo fi fe) :=
  PS.weak (ps_asg he (pg_sub ho hi set_list ha) hs hw h1) fun Dn σ H q => by
    obtain ⟨W, S, σp, out, S', st, rs, e, q⟩ := q
    unfold sSetIx at e
    split at e
    · rename_i d S1 e1
      split at e
      · rename_i k S2 e2
        split at e
        · rename_i i S3 e3
          split at e
          · rename_i xs e4
            split at e
            · rename_i j e5
              cases e
              refine tEV_mk st rs e1 fun v H1 W1 x1 st1 rs1 r1 => ?_
              cases r1 with
              | p r1 =>
                refine tEV_mk st1 rs1 e2 fun u H2 W2 x2 st2 rs2 r2 => tEV_mk st2 rs2 e3 fun t H3 W3 x3 st3 rs3 r3 => ?_
                have r2' := r2.ext st2 x3
                cases r2' with
                | m hk =>
                  rename_i a
                  cases r3 with
                  | p r3 =>
                    cases r3
                    obtain ⟨ds, vs, e6, e7, r7⟩ := st3.at_ _ _ hk
                    rw [e4] at e6
                    cases e6
                    have r8 := (r1.ext st1 x2).ext st2 x3
                    obtain ⟨x9, st9⟩ := sto_set st3 hk (r7.set r8 j)
                    exact ⟨a, vs, i, j, rfl, rfl, e7, by rw [r7.length]; exact e5, q σ _ W3 ((((x1.trans x2).trans x3).trans x9)) st9 (rs3.ext st3 x9)⟩
            · cases e
          · cases e
        · cases e
      · cases e
    · cases e
theorem evs_app {fs : Expr} {apos cpos : Pos} (ho : EV X o fo) (he : EV X e fe) (hbase : attributeBase o "append" X.env (eval o X.env) = eval o X.env := by rfl)
    (hfew : ((backTo cpos (starEach [e] X.env)).all (fun x => !x.1) && (backToKw cpos (keywordEach [] X.env)).all (fun x => x.1.isSome)
      && decide (([e] : List Expr).length + ([] : List Keyword).length + (if ([] : List Keyword).isEmpty then 0 else 1) < 30)) = true := by rfl)
    (hline : (apos.endLine == cpos.line) = true := by rfl) (hse : starEach [e] X.env = (false, eval e X.env) :: starEach [] X.env := by rfl) (hplain : (backTo cpos (starEach [] X.env)).any (·.1) = false := by rfl)
    (hs : swapsWith (.Call (.Attribute o "append" apos) [e] [] cpos) none pos.line X.env = pure false := by rfl) : EVS X (.Expr (.Call (.Attribute o "append" apos) [e] [] cpos) pos) (sApp fo fe) :=
  PS.weak (ps_expr (pe_bm PySem.F.plainAttrs_list PySem.F.slot_list_append PySem.F.type_list_append mt_append ho (pa_cons he pa_nil hse) hbase hfew hline hse hplain) hs) fun Dn σ H q => by
    obtain ⟨W, S, σp, out, S', st, rs, e, q⟩ := q
    unfold sApp at e
    split at e
    · rename_i k S1 e1
      split at e
      · rename_i d S2 e2
        split at e
        · rename_i xs e3
          split at e
          · rename_i hz
            cases e
            refine tEV_mk st rs e1 fun u H1 W1 x1 st1 rs1 r1 => ?_
            cases r1 with
            | m hk1 =>
              rename_i a
              obtain ⟨ds0, vs0, _, e70, _⟩ := st1.at_ _ _ hk1
              refine ⟨.inl ⟨rfl, _, SqL.of e70⟩, ?_⟩
              refine tEV_mk st1 rs1 e2 fun v H2 W2 x2 st2 rs2 r2 => ?_
              have r1' := (RepL.m (K := X.K) hk1).ext st1 x2
              cases r1' with
              | m hk =>
                cases r2 with
                | p r2 =>
                  obtain ⟨ds, vs, e6, e7, r7⟩ := st2.at_ _ _ hk
                  rw [e3] at e6
                  cases e6
                  obtain ⟨x9, st9⟩ := sto_set st2 hk (r7.append (.cons r2 .nil))
                  exact ⟨a, vs, v, rfl, rfl, e7, by rw [r7.length]; exact of_decide_eq_true hz, q σ _ W2 ((x1.trans x2).trans x9) st9 (rs2.ext st2 x9)⟩
          · cases e
        · cases e
      · cases e
    · cases e
end
end EV

set_option Elab.async false
set_option linter.all false
set_option maxRecDepth 100000
namespace EV
open PySem PySem.Spec PyProof.Rows L2

/-! ### a def's body -/
def begin_ (N : Nat) (xs : List Vl) : PS := xs.map some ++ List.replicate (N - xs.length) none
/-- at a def's end: its own lists are pure, the callers' lists stay -/
def endF (n : Nat) (v : Vl) (S : Sto) : Option (Vl × Sto) := match v with
  | .p d => some (.p d, S.take n)
  | .m j => match decide (j < n) with
    | true => some (.m j, S.take n)
    | false => match S[j]? with
      | some ds => some (.p (.lst ds), S.take n)
      | none => none
def runB (N : Nat) (b : Sx) : Fn := fun xs S => match b (begin_ N xs) S with
  | some (.nx _, S') => endF S.length (.p .non) S'
  | some (.rt v, S') => endF S.length v S'
  | none => none
/-- .. a def that gives a list of the store -/
def runK (N : Nat) (b : Sx) : Fn := fun xs S => match b (begin_ N xs) S with
  | some (.nx _, S') => some (.p .non, S')
  | some (.rt v, S') => some (v, S')
  | none => none
section
variable {K : PySem.W.Frag} {H H' : Hp} {W W' : List Addr}
mutual
theorem Rep.fewer (h : ∀ a, a ∈ W → a ∈ W') : ∀ {v : V} {d : D}, Rep K H W' v d → Rep K H W v d
  | _, _, .non => .non
  | _, _, .bl b => .bl b
  | _, _, .int i => .int i
  | _, _, .str x => .str x
  | _, _, .tup q r => .tup q (Reps.fewer h r)
  | _, _, .lst q n r => .lst q (fun z => n (h _ z)) (Reps.fewer h r)
  | _, _, .scr q r => .scr q (Reps.fewer h r)
  | _, _, .dk q k r => .dk q k (Reps.fewer h r)
  | _, _, .dt q k r => .dt q k (Reps.fewer h r)
theorem Reps.fewer (h : ∀ a, a ∈ W → a ∈ W') : ∀ {vs : List V} {ds : List D}, Reps K H W' vs ds → Reps K H W vs ds
  | _, _, .nil => .nil
  | _, _, .cons a b => .cons (Rep.fewer h a) (Reps.fewer h b)
end
theorem end_ok {S S' S2 : Sto} {v v2 : Vl} (st0 : StOK K H W S) (x : Ext H W H' W') (st : StOK K H' W' S') (e : endF S.length v S' = some (v2, S2)) : Ext H W H' W ∧ StOK K H' W S2 ∧ ∀ u, RepL K H' W' u v → RepL K H' W u v2 := by
  obtain ⟨t, hW⟩ := x.pre
  have hsub : ∀ a, a ∈ W → a ∈ W' := fun a ha => by rw [hW]; exact List.mem_append_left _ ha
  have x' : Ext H W H' W := ⟨x.keep, fun _ _ _ n => n, [], by simp⟩
  have hl : W.length = S.length := st0.len
  have st2 : StOK K H' W (S'.take S.length) := by
    refine ⟨?_, st0.nd, fun i a hi => ?_⟩
    · rw [List.length_take, ← st.len, hW, List.length_append, hl]
      omega
    · have hlt : i < W.length := (List.getElem?_eq_some_iff.mp hi).1
      obtain ⟨ds, vs, e1, e2, r⟩ := st.at_ i a (by rw [hW, List.getElem?_append_left hlt]; exact hi)
      exact ⟨ds, vs, by rw [List.getElem?_take_of_lt (by omega)]; exact e1, e2, r.fewer hsub⟩
  unfold endF at e
  split at e
  · cases e
    refine ⟨x', st2, fun u r => ?_⟩
    cases r with
    | p r => exact .p (r.fewer hsub)
  · split at e
    · rename_i j hj
      have hj := of_decide_eq_true hj
      cases e
      refine ⟨x', st2, fun u r => ?_⟩
      cases r with
      | m r =>
        refine .m ?_
        rw [hW, List.getElem?_append_left (by omega)] at r
        exact r
    · rename_i j hj
      have hj := of_decide_eq_false hj
      split at e
      · rename_i ds e1
        cases e
        refine ⟨x', st2, fun u r => ?_⟩
        cases r with
        | m r =>
          rename_i a
          obtain ⟨ds', vs, e2, e3, r3⟩ := st.at_ _ _ r
          rw [e1] at e2
          cases e2
          refine .p (.lst e3 (fun z => ?_) (r3.fewer hsub))
          obtain ⟨k, hk⟩ := List.mem_iff_getElem?.mp z
          have hkl : k < W.length := (List.getElem?_eq_some_iff.mp hk).1
          have hk' : W'[k]? = some a := by rw [hW, List.getElem?_append_left hkl]; exact hk
          obtain ⟨l1, q1⟩ := List.getElem?_eq_some_iff.mp hk'
          obtain ⟨l2, q2⟩ := List.getElem?_eq_some_iff.mp r
          have := (List.getElem_inj st.nd).mp (q1.trans q2.symm)
          omega
      · cases e
theorem reps_begin {N : List Str} {vs : List V} {xs : List Vl} (r : RepLs K H W vs xs) : RepS K H W (L2.start N vs) (begin_ N.length xs) := by
  have hl := r.length
  refine ⟨by unfold L2.start begin_; simp [hl], fun i d e => ?_⟩
  unfold begin_ at e
  by_cases hi : i < xs.length
  · rw [List.getElem?_append_left (by rw [List.length_map]; exact hi), List.getElem?_map] at e
    cases e1 : xs[i]? with
    | none => rw [e1] at e; cases e
    | some y =>
      rw [e1] at e
      cases e
      obtain ⟨v, e2, r2⟩ := r.get e1
      refine ⟨v, ?_, r2⟩
      unfold L2.start
      rw [List.getElem?_append_left (by rw [List.length_map]; omega), List.getElem?_map, e2]
      rfl
  · rw [List.getElem?_append_right (by rw [List.length_map]; omega), List.getElem?_replicate] at e
    split at e <;> cases e
end
section
variable {P : Program} {w : World} {K : PySem.W.Frag} {mg : Str → Option Value} {base : Heap} {x qual : Str} {params : Arguments} {body : List Stmt} {scope : Scope} {f : Addr} {fd : FuncData} {N ps : List Str} {k : Nat} {b : Sx}
abbrev cxB (P : Program) (w : World) (K : PySem.W.Frag) (mg : Str → Option Value) (base : Heap) (N : List Str) (qual : Str) (scope : Scope) (f : Addr) (cdv : Value) (A : Around) (outer : List Env) (s : Shared) (H : Hp) (E : XK) : Cx := (cxOf CX0 P w K mg base N qual scope f cdv A outer s H E).nox
theorem ok_of (F : FunD K x qual params body scope [] [] f fd) (S : FnScope N ps scope)
    (h : ∀ (cdv : Value) (A : Around) (outer : List Env) (s : Shared) (H : Hp) (E : XK), Room k (A.deeper (envOfC qual scope s.heap.objs.size f cdv)) → EVB (cxB P w K mg base N qual scope f cdv A outer s H E) body b) : FnOk P w K mg base CX0 (k + 1) f fd ps (spF K (runB N.length b) ps.length) := by
  refine F.ok S (fun vs H Q E h => ?_) fun cdv A outer s H vs Q E hr hsp => ⟨tSV K b, PSs.nox (h cdv A outer s H E hr), ?_⟩
  · obtain ⟨W, St, xs, d, S', _, r, hl, _⟩ := h
    exact r.length.trans hl
  · obtain ⟨W, St, xs, d, S', st, r, hl, e, q⟩ := hsp
    unfold runB at e
    split at e
    · rename_i σp S1 e1
      refine ⟨W, St, _, _, S1, st, reps_begin r, e1, fun σ' H' W' x' st' rs' => ?_⟩
      obtain ⟨x2, st2, h2⟩ := end_ok st x' st' e
      exact q _ _ W x2 st2 (h2 _ (.p .non))
    · rename_i v S1 e1
      refine ⟨W, St, _, _, S1, st, reps_begin r, e1, fun u H' W' x' st' r' => ?_⟩
      obtain ⟨x2, st2, h2⟩ := end_ok st x' st' e
      exact q _ _ W x2 st2 (h2 _ r')
    · cases e
theorem df_of (F : FunD K x qual params body scope [] [] f fd) (hm : mg x = some (.ref f)) (hb : Binds K fd ps []) (S : FnScope N ps scope)
    (h : ∀ (cdv : Value) (A : Around) (outer : List Env) (s : Shared) (H : Hp) (E : XK), Room k (A.deeper (envOfC qual scope s.heap.objs.size f cdv)) → EVB (cxB P w K mg base N qual scope f cdv A outer s H E) body b) : Df P w K mg base (k + 1) x ps.length (runB N.length b) :=
  ⟨f, fd, ps, rfl, hm, F.kp, hb, ok_of F S h⟩
theorem df_ofK (F : FunD K x qual params body scope [] [] f fd) (hm : mg x = some (.ref f)) (hb : Binds K fd ps []) (S : FnScope N ps scope)
    (h : ∀ (cdv : Value) (A : Around) (outer : List Env) (s : Shared) (H : Hp) (E : XK), Room k (A.deeper (envOfC qual scope s.heap.objs.size f cdv)) → EVB (cxB P w K mg base N qual scope f cdv A outer s H E) body b) : Df P w K mg base (k + 1) x ps.length (runK N.length b) := by
  refine ⟨f, fd, ps, rfl, hm, F.kp, hb, F.ok S (fun vs H Q E h => ?_) fun cdv A outer s H vs Q E hr hsp => ⟨tSV K b, PSs.nox (h cdv A outer s H E hr), ?_⟩⟩
  · obtain ⟨W, St, xs, d, S', _, r, hl, _⟩ := h
    exact r.length.trans hl
  · obtain ⟨W, St, xs, d, S', st, r, hl, e, q⟩ := hsp
    unfold runK at e
    split at e
    · rename_i σp S1 e1
      cases e
      exact ⟨W, St, _, _, _, st, reps_begin r, e1, fun σ' H' W' x' st' rs' => q _ _ W' x' st' (.p .non)⟩
    · rename_i v S1 e1
      cases e
      exact ⟨W, St, _, _, _, st, reps_begin r, e1, fun u H' W' x' st' r' => q _ _ W' x' st' r'⟩
    · cases e
/-- a def at no level at all -/
def noF : Fn := fun _ _ => none
theorem df_none (F : FunD K x qual params body scope [] [] f fd) (hm : mg x = some (.ref f)) (hb : Binds K fd ps []) (S : FnScope N ps scope) : Df P w K mg base (k + 1) x ps.length noF := by
  refine ⟨f, fd, ps, rfl, hm, F.kp, hb, F.ok S (fun vs H Q E h => ?_) fun cdv A outer s H vs Q E hr hsp => ?_⟩
  · obtain ⟨W, St, xs, d, S', _, r, hl, e, _⟩ := h
    cases e
  · obtain ⟨W, St, xs, d, S', _, r, hl, e, _⟩ := hsp
    cases e
end

/-! ### what is walked -/
abbrev Ix := PS → Sto → Option (List D × Sto)
structure ItOK (K : PySem.W.Frag) (J : It) (H : Hp) (W : List Addr) (ds : List D) : Prop where
  ex : ∃ (G : Hp → List Addr → Prop) (Y : Nat → Hp → V → Hp → Prop), Walk J ds.length (fun H => ∃ W, G H W) Y ∧ G H W ∧
    (∀ H W S H' W', StOK K H W S → G H W → Ext H W H' W' → G H' W') ∧
    ∀ i H W S x H', StOK K H W S → G H W → i < ds.length → Y i H x H' → Same H H' ∧ ∃ d, ds[i]? = some d ∧ Rep K H' W x d
def tIV (K : PySem.W.Frag) (f : Ix) : TI := fun σ H R => ∃ W S σp ds S', StOK K H W S ∧ RepS K H W σ σp ∧ f σp S = some (ds, S') ∧ ∀ J H' W', Ext H W H' W' → StOK K H' W' S' → RepS K H' W' σ σp → ItOK K J H' W' ds → R J H'
def EI (X : Cx) (tg iter : Expr) (f : Ix) : Prop := PI X tg iter (tIV X.K f)
theorem PI.weak {X : Cx} {tg e : Expr} {t t' : TI} (h : PI X tg e t) (w : ∀ σ H R, t' σ H R → t σ H R) : PI X tg e t' := ⟨fun pins s σ H R I q => h.run pins s σ H R I (w σ H R q)⟩
section
variable {K : PySem.W.Frag} {H : Hp} {W : List Addr}
theorem itOK_list {a : Addr} {xs : List V} {ds : List D} (h : H a = some (.lst xs)) (n : a ∉ W) (r : Reps K H W xs ds) : ItOK K (Itl K a) H W ds := by
  refine ⟨fun H W => H a = some (.lst xs) ∧ a ∉ W ∧ Reps K H W xs ds, YAt xs, ?_, ⟨h, n, r⟩, fun H W S H' W' st g x => ⟨x.keep _ _ g.1 g.2.1, x.out _ _ g.1 g.2.1, g.2.2.ext st x⟩, fun i H W S v H' st g hi y => ?_⟩
  · rw [← r.length]
    exact walk_list.mono (fun H ⟨W, g⟩ => SqL.of g.1) fun _ _ _ _ _ _ y => y
  · obtain ⟨rfl, y⟩ := y
    exact ⟨Same.refl _, g.2.2.getV y⟩
theorem itOK_tup {a : Addr} {xs : List V} {ds : List D} (h : SqT K H a xs) (r : Reps K H W xs ds) : ItOK K (Itt K a) H W ds := by
  refine ⟨fun H W => SqT K H a xs ∧ Reps K H W xs ds, YAt xs, ?_, ⟨h, r⟩, fun H W S H' W' st g x => ⟨SqT.ext st x g.1, g.2.ext st x⟩, fun i H W S v H' st g hi y => ?_⟩
  · rw [← r.length]
    exact walk_tup.mono (fun H ⟨W, g⟩ => g.1) fun _ _ _ _ _ _ y => y
  · obtain ⟨rfl, y⟩ := y
    exact ⟨Same.refl _, g.2.getV y⟩
end
def upto (lo : Int) : Nat → List D
  | 0 => []
  | n + 1 => .int lo :: upto (lo + 1) n
theorem upto_get {n i : Nat} : ∀ {lo : Int}, i < n → (upto lo n)[i]? = some (.int (lo + i)) := by
  induction n generalizing i with
  | zero => intro lo h; omega
  | succ n ih =>
    intro lo h
    cases i with
    | zero => simp [upto]
    | succ i =>
      unfold upto
      rw [List.getElem?_cons_succ, ih (by omega)]
      congr 2
      omega
theorem upto_length {n : Nat} : ∀ {lo : Int}, (upto lo n).length = n := by
  induction n with
  | zero => intro lo; rfl
  | succ n ih => intro lo; unfold upto; rw [List.length_cons, ih]
theorem itOK_range {K : PySem.W.Frag} {H : Hp} {W : List Addr} {lo : Int} {n : Nat} : ItOK K (Itr lo n) H W (upto lo n) := by
  refine ⟨fun _ _ => True, YFn fun i => .int (lo + i), ?_, trivial, fun _ _ _ _ _ _ _ _ => trivial, fun i H W S v H' st g hi y => ?_⟩
  · rw [upto_length]
    exact walk_range.mono (fun _ _ => trivial) fun _ _ _ _ _ _ y => y
  · obtain ⟨rfl, rfl⟩ := y
    rw [upto_length] at hi
    exact ⟨Same.refl _, _, upto_get hi, .int _⟩

section
variable {X : Cx} {tg e e2 : Expr} {fe : Ex} {fs : Exs} {p pos : Pos}
/-- a list or a tuple -/
def sIt (f : Ex) : Ix := fun σ S => match f σ S with
  | some (.p (.lst ds), S1) => some (ds, S1)
  | some (.p (.tup ds), S1) => some (ds, S1)
  | _ => none
def iLT (K : PySem.W.Frag) (tl : TE) : TI := fun σ H R => tl σ H fun x H1 => ∃ a, x = .ref a ∧ (((∃ xs, SqL K H1 a xs) ∧ R (Itl K a) H1) ∨ ((∃ xs, SqT K H1 a xs) ∧ R (Itt K a) H1))
theorem pi_lt {l : Expr} {tl : TE} (hl : PE X l tl) : PI X tg l (iLT X.K tl) := by
  refine ⟨fun pins s σ H R I h => ?_⟩
  refine thn (hl.run pins s σ H _ I h) fun v s1 ⟨x, H1, I1, r1, q1⟩ => ?_
  obtain ⟨a, e, q⟩ := q1
  subst e
  cases r1
  rcases q with ⟨⟨xs, hq⟩, q⟩ | ⟨⟨xs, hq⟩, q⟩
  · obtain ⟨its, rv, p, hz⟩ := I1.list hq
    refine wpAny_pyIter_list p.isList ?_
    refine ⟨s1.heap.objs.size, [s1.heap.objs.size], _, _, H1, rfl, I1.kept (t' := s1.toks) fun b o e => Heap.get?_push_of_some _ e, turn_list a _, ⟨_, Heap.get?_push_size _ rfl, rfl, rfl⟩, fun b hb => ?_, q⟩
    have e : b = s1.heap.objs.size := by simpa using hb
    subst e
    exact I1.fpOk (Nat.le_refl _) (I1.hok.fresh (Nat.le_refl _))
  · obtain ⟨its, rv, p, hz⟩ := I1.tuple hq
    refine wpAny_pyIter_tuple (show s1.heap.IsTuple a its.toArray from p) ?_
    refine ⟨s1.heap.objs.size, [s1.heap.objs.size], _, _, H1, rfl, I1.kept (t' := s1.toks) fun b o e => Heap.get?_push_of_some _ e, turn_tuple a _, ⟨_, Heap.get?_push_size _ rfl, rfl, rfl⟩, fun b hb => ?_, q⟩
    have e : b = s1.heap.objs.size := by simpa using hb
    subst e
    exact I1.fpOk (Nat.le_refl _) (I1.hok.fresh (Nat.le_refl _))
theorem ei_seq (he : EV X e fe) : EI X tg e (sIt fe) := PI.weak (pi_lt he) fun σ H R q => by
  obtain ⟨W, S, σp, ds, S', st, rs, e, q⟩ := q
  unfold sIt at e
  split at e
  · rename_i ds' S1 e1
    cases e
    refine tEV_mk st rs e1 fun v H1 W1 x1 st1 rs1 r1 => ?_
    cases r1 with
    | p r1 =>
      cases r1 with
      | lst h n r => exact ⟨_, rfl, .inl ⟨⟨_, SqL.of h⟩, q _ H1 W1 x1 st1 rs1 (itOK_list h n r)⟩⟩
  · rename_i ds' S1 e1
    cases e
    refine tEV_mk st rs e1 fun v H1 W1 x1 st1 rs1 r1 => ?_
    cases r1 with
    | p r1 =>
      cases r1 with
      | tup h r => exact ⟨_, rfl, .inr ⟨⟨_, h⟩, q _ H1 W1 x1 st1 rs1 (itOK_tup h r)⟩⟩
  · cases e
def inR (i : Int) : Bool := decide (-(2 ^ 62) ≤ i ∧ i < 2 ^ 62)
def sRng1 (f : Exs) : Ix := fun σ S => match f σ S with
  | some ([.p (.int j)], S1) => match inR j with
    | true => some (upto 0 j.toNat, S1)
    | false => none
  | _ => none
def sRng2 (f : Exs) : Ix := fun σ S => match f σ S with
  | some ([.p (.int i), .p (.int j)], S1) => match inR i && inR j with
    | true => some (upto i (j - i).toNat, S1)
    | false => none
  | _ => none
theorem ei_range1 {a : Expr} (hg : Gl X "range") (hm : X.mg "range" = none) (ha : EVs X [a] fs) (hs : starEach [a] X.env = [(false, eval a X.env)] := by rfl) : EI X tg (.Call (.Name "range" p) [a] [] pos) (sRng1 fs) :=
  PI.weak (pi_range1 hg hm ha hs) fun σ H R q => by
    obtain ⟨W, S, σp, ds, S', st, rs, e, q⟩ := q
    unfold sRng1 at e
    split at e
    · rename_i j S1 e1
      split at e
      · rename_i hj
        cases e
        have hj := of_decide_eq_true hj
        refine tEVs_mk st rs e1 fun v H1 W1 x1 st1 rs1 r1 => ?_
        cases r1 with
        | cons r r1 =>
          cases r1
          cases r with
          | p r =>
            cases r
            exact ⟨j, rfl, hj.1, hj.2, q _ H1 W1 x1 st1 rs1 itOK_range⟩
      · cases e
    · cases e
theorem ei_range2 {a b : Expr} (hg : Gl X "range") (hm : X.mg "range" = none) (ha : EVs X [a, b] fs) (hs : starEach [a, b] X.env = [(false, eval a X.env), (false, eval b X.env)] := by rfl) (hs2 : starEach [b] X.env = [(false, eval b X.env)] := by rfl) : EI X tg (.Call (.Name "range" p) [a, b] [] pos) (sRng2 fs) :=
  PI.weak (pi_range2 hg hm ha hs hs2) fun σ H R q => by
    obtain ⟨W, S, σp, ds, S', st, rs, e, q⟩ := q
    unfold sRng2 at e
    split at e
    · rename_i i j S1 e1
      split at e
      · rename_i hj
        cases e
        have hj := (Bool.and_eq_true_iff.mp hj)
        have h1 := of_decide_eq_true hj.1
        have h2 := of_decide_eq_true hj.2
        refine tEVs_mk st rs e1 fun v H1 W1 x1 st1 rs1 r1 => ?_
        cases r1 with
        | cons r r1 =>
          cases r1 with
          | cons r' r1 =>
            cases r1
            cases r with
            | p r =>
              cases r
              cases r' with
              | p r' =>
                cases r'
                exact ⟨i, j, rfl, ⟨h1.1, h1.2, h2.1, h2.2⟩, q _ H1 W1 x1 st1 rs1 itOK_range⟩
      · cases e
    · cases e
end

/-! ### for -/
def loopF (g : Tg) (b : Sx) : List D → PS → Sto → Option (Out × Sto)
  | [], σ, S => some (.nx σ, S)
  | d :: ds, σ, S => match g (.p d) σ with
    | none => none
    | some σ1 => match b σ1 S with
      | none => none
      | some (.nx σ2, S2) => loopF g b ds σ2 S2
      | some (.rt v, S2) => some (.rt v, S2)
def sFor (it : Ix) (g : Tg) (b : Sx) : Sx := fun σ S => match it σ S with
  | none => none
  | some (ds, S1) => loopF g b ds σ S1
section
variable {X : Cx} {tg iter : Expr} {pos : Pos} {body : List Stmt} {fi : Ix} {g : Tg} {b : Sx} {ws : List Nat}
theorem evs_for (hx : X.xe = fun _ _ => False) (hc : X.calm = true) (hi : EI X tg iter fi) (hg : EG X tg g ws) (hb : EVB X body b)
    (hs : ∀ x, foldedSetIterable iter X.env x = pure x := by intro _; rfl) : EVS X (.For tg iter body [] pos) (sFor fi g b) :=
  PS.weak (ps_for (by rw [hx]; exact PassesOwn.never) hc hi hg hb hs) fun Dn σ H q => by
    obtain ⟨W, S, σp, o, S', st, rs, e, q⟩ := q
    unfold sFor at e
    split at e
    · cases e
    · rename_i ds S1 e1
      refine ⟨W, S, σp, ds, S1, st, rs, e1, fun J H1 W1 x1 st1 rs1 it => ?_⟩
      obtain ⟨G, Y, wk, g0, gst, gy⟩ := it.ex
      refine for_it wk (fun i σ H => ∃ W S σp, StOK X.K H W S ∧ RepS X.K H W σ σp ∧ G H W ∧ Ext H1 W1 H W ∧ loopF g b (ds.drop i) σp S = some (o, S')) ⟨W1, S1, σp, st1, rs1, g0, .refl, by rw [List.drop_zero]; exact e⟩ (fun i σ H _ p => by
        obtain ⟨W, S, σp, _, _, gg, _⟩ := p
        exact ⟨W, gg⟩) (fun i v σ2 H2 H3 hi p y => ?_) (fun σ2 H2 p => ?_)
      · obtain ⟨W2, S2, σ2p, st2, rs2, g2, x2, e2⟩ := p
        obtain ⟨sm, d, hd, r⟩ := gy i H2 W2 S2 v H3 st2 g2 hi y
        have hdr : ds.drop i = d :: ds.drop (i + 1) := by
          obtain ⟨hl, e⟩ := List.getElem?_eq_some_iff.mp hd
          rw [List.drop_eq_getElem_cons hl, e]
        rw [hdr] at e2
        unfold loopF at e2
        have x3 : Ext H2 W2 H3 W2 := .same sm
        have st3 := st2.same sm
        have rs3 := rs2.ext st2 x3
        split at e2
        · cases e2
        · rename_i σ3p e3
          refine ⟨W2, S2, .p d, σ2p, σ3p, st3, .p r, rs3, e3, fun σ4 rs4 _ => ?_⟩
          have g3 := gst _ _ _ _ _ st2 g2 x3
          split at e2
          · cases e2
          · rename_i σ5p S5 e5
            refine tSV_mk st3 rs4 e5 fun σ5 H5 W5 x5 st5 rs5 => ?_
            exact ⟨W5, S5, σ5p, st5, rs5, gst _ _ _ _ _ st3 g3 x5, (x2.trans x3).trans x5, e2⟩
          · rename_i v5 S5 e5
            cases e2
            exact tSV_mk st3 rs4 e5 (((q.ext x1).ext (x2.trans x3)))
      · obtain ⟨W2, S2, σ2p, st2, rs2, g2, x2, e2⟩ := p
        rw [List.drop_length] at e2
        unfold loopF at e2
        cases e2
        exact q σ2 H2 W2 (x1.trans x2) st2 rs2
end

/-! ### while: at most n turns -/
def loopW (t : Ex) (b : Sx) : Nat → PS → Sto → Option (Out × Sto)
  | 0, _, _ => none
  | n + 1, σ, S => match t σ S with
    | some (.p (.bl true), S1) => match b σ S1 with
      | none => none
      | some (.nx σ2, S2) => loopW t b n σ2 S2
      | some (.rt v, S2) => some (.rt v, S2)
    | some (.p (.bl false), S1) => some (.nx σ, S1)
    | _ => none
def sWhile (n : Nat) (t : Ex) (b : Sx) : Sx := fun σ S => loopW t b n σ S
section
variable {X : Cx} {c : Expr} {pos : Pos} {body : List Stmt} {fc : Ex} {b : Sx}
theorem evs_while (n : Nat) (hx : X.xe = fun _ _ => False) (hc : ET X c fc) (hb : EVB X body b) : EVS X (.While c body [] pos) (sWhile n fc b) :=
  PS.weak (ps_while (by rw [hx]; exact PassesOwn.never) hc hb) fun Dn σ H q => by
    obtain ⟨W, S, σp, o, S', st, rs, e, q⟩ := q
    refine ⟨fun m σ2 H2 => ∃ W2 S2 σ2p, StOK X.K H2 W2 S2 ∧ RepS X.K H2 W2 σ2 σ2p ∧ Ext H W H2 W2 ∧ loopW fc b m σ2p S2 = some (o, S'), ⟨n, W, S, σp, st, rs, .refl, e⟩, ?_⟩
    rintro m σ2 H2 ⟨W2, S2, σ2p, st2, rs2, x2, e2⟩
    cases m with
    | zero => cases e2
    | succ m =>
      unfold loopW at e2
      split at e2
      · rename_i S3 e3
        refine tEVT_mk st2 rs2 e3 fun H3 W3 x3 st3 rs3 => ?_
        simp only [if_true]
        refine ⟨fun σ5 H5 => ∃ W5 S5 σ5p, StOK X.K H5 W5 S5 ∧ RepS X.K H5 W5 σ5 σ5p ∧ Ext H W H5 W5 ∧ loopW fc b m σ5p S5 = some (o, S'), fun σ' H' p => ⟨m, Nat.lt_succ_self _, p⟩, ?_⟩
        split at e2
        · cases e2
        · rename_i σ5p S5 e5
          exact tSV_mk st3 rs3 e5 fun σ5 H5 W5 x5 st5 rs5 => ⟨W5, S5, σ5p, st5, rs5, (x2.trans x3).trans x5, e2⟩
        · rename_i v5 S5 e5
          cases e2
          exact tSV_mk st3 rs3 e5 (q.ext (x2.trans x3))
      · rename_i S3 e3
        cases e2
        refine tEVT_mk st2 rs2 e3 fun H3 W3 x3 st3 rs3 => ?_
        simp only [Bool.false_eq_true, if_false]
        exact q σ2 H3 W3 (x2.trans x3) st3 rs3
      · cases e2
end
end EV

set_option Elab.async false
set_option linter.all false
set_option maxRecDepth 100000
namespace EV
open PySem PySem.Spec PyProof.Rows L2

/-! ### comprehensions: the new list is one of the store while it grows (the n-th) -/
def pushA (n : Nat) (y : D) (S : Sto) : Option Sto := match S[n]? with
  | some acc => match decide (acc.length < sizeLine) with
    | true => some (S.set n (acc ++ [y]))
    | false => none
  | none => none
def turnC (g : Tg) (t e : Ex) (n : Nat) (σ0 : PS) (d : D) (S : Sto) : Option Sto := match g (.p d) σ0 with
  | none => none
  | some σ1 => match t σ1 S with
    | some (.p (.bl true), S1) => match e σ1 S1 with
      | some (.p y, S2) => pushA n y S2
      | _ => none
    | some (.p (.bl false), S1) => some S1
    | _ => none
def loopC (f : D → Sto → Option Sto) : List D → Sto → Option Sto
  | [], S => some S
  | d :: ds, S => match f d S with
    | some S1 => loopC f ds S1
    | none => none
def sLC (it : Ix) (g : Tg) (t e : Ex) (vs : List Nat) : Ex := fun σ S => match it σ S with
  | none => none
  | some (ds, S1) => match loopC (turnC g t e S1.length (wipeP σ vs)) ds (S1 ++ [[]]) with
    | none => none
    | some S2 => endF S1.length (.m S1.length) S2
def sYes : Ex := fun _ S => some (.p (.bl true), S)
def turnD (g : Tg) (t : Ex) (it : Ix) (vs1 : List Nat) (g1 : Tg) (t1 e : Ex) (n : Nat) (σ0 : PS) (d : D) (S : Sto) : Option Sto := match g (.p d) σ0 with
  | none => none
  | some σ1 => match t σ1 S with
    | some (.p (.bl true), S1) => match it σ1 S1 with
      | some (ds, S2) => loopC (turnC g1 t1 e n (wipeP σ1 vs1)) ds S2
      | _ => none
    | some (.p (.bl false), S1) => some S1
    | _ => none
def sLC2 (it : Ix) (g : Tg) (t : Ex) (it1 : Ix) (g1 : Tg) (t1 e : Ex) (vs vs1 : List Nat) : Ex := fun σ S => match it σ S with
  | none => none
  | some (ds, S1) => match loopC (turnD g t it1 vs1 g1 t1 e S1.length (wipeP σ vs)) ds (S1 ++ [[]]) with
    | none => none
    | some S2 => endF S1.length (.m S1.length) S2

/-- a clause's tests -/
def ECs (X : Cx) (ifs : List Expr) (f : Ex) : Prop := PTs X ifs (tEVT X.K f)
theorem PTs.weak {X : Cx} {e : List Expr} {t t' : TT} (h : PTs X e t) (w : ∀ σ H Q, t' σ H Q → t σ H Q) : PTs X e t' := ⟨fun pins s σ H Q I q => h.run pins s σ H Q I (w σ H Q q)⟩
theorem ecs_nil {X : Cx} : ECs X [] sYes := PTs.weak pts_nil fun σ H Q q => by
  obtain ⟨W, S, σp, d, S', st, rs, e, q⟩ := q
  cases e
  exact q H W .refl st
theorem ecs_one {X : Cx} {c : Expr} {f : Ex} (h : ET X c f) : ECs X [c] f := pts_one h

/-- a new list in the store -/
theorem sto_new {K : PySem.W.Frag} {H1 : Hp} {W1 : List Addr} {S1 : Sto} (st1 : StOK K H1 W1 S1) {p : Addr} (hp : H1 p = none) {ds : List D} {vs : List V} (r : Reps K H1 W1 vs ds) :
    Ext H1 W1 (upd H1 p (.lst vs)) (W1 ++ [p]) ∧ StOK K (upd H1 p (.lst vs)) (W1 ++ [p]) (S1 ++ [ds]) := by
  have np : p ∉ W1 := notin_new st1 hp
  have sm : Same H1 (upd H1 p (.lst vs)) := same_upd hp _
  have x2 : Ext H1 W1 (upd H1 p (.lst vs)) (W1 ++ [p]) := ⟨fun b u h _ => sm b u h, fun b u h n z => (List.mem_append.mp z).elim n fun z => (by rw [List.mem_singleton.mp z, hp] at h; cases h), [p], rfl⟩
  refine ⟨x2, by simp [st1.len], ?_, fun i a hi => ?_⟩
  · rw [List.nodup_append]
    exact ⟨st1.nd, by simp, fun a ha b hb => by
      rw [List.mem_singleton.mp hb]
      rintro rfl
      exact np ha⟩
  · by_cases hl : i < W1.length
    · rw [List.getElem?_append_left hl] at hi
      obtain ⟨ds', vs', e1, e2, r'⟩ := st1.at_ i a hi
      exact ⟨ds', vs', by rw [List.getElem?_append_left (by rw [← st1.len]; exact hl)]; exact e1, sm _ _ e2, r'.ext st1 x2⟩
    · have hl2 : i < (W1 ++ [p]).length := (List.getElem?_eq_some_iff.mp hi).1
      have ei : i = W1.length := by rw [List.length_append, List.length_singleton] at hl2; omega
      subst ei
      rw [List.getElem?_append_right (Nat.le_refl _)] at hi
      simp at hi
      subst hi
      refine ⟨ds, vs, by rw [st1.len]; simp, upd_same, r.ext st1 x2⟩
/-- an item more -/
theorem push_ok {K : PySem.W.Frag} {H : Hp} {W : List Addr} {S S' : Sto} (st : StOK K H W S) {n : Nat} {a : Addr} (hn : W[n]? = some a) {y : D} {v : V} (r : Rep K H W v y) (e : pushA n y S = some S') :
    ∃ vs, H a = some (.lst vs) ∧ vs.length < sizeLine ∧ Ext H W (upd H a (.lst (vs ++ [v]))) W ∧ StOK K (upd H a (.lst (vs ++ [v]))) W S' := by
  unfold pushA at e
  split at e
  · rename_i acc e1
    split at e
    · rename_i hz
      cases e
      obtain ⟨ds, vs, e2, e3, r3⟩ := st.at_ _ _ hn
      rw [e1] at e2
      cases e2
      obtain ⟨x, st'⟩ := sto_set st hn (r3.append (.cons r .nil))
      exact ⟨vs, e3, by rw [r3.length]; exact of_decide_eq_true hz, x, st'⟩
    · cases e
  · cases e
theorem Ext.at {H H' : Hp} {W W' : List Addr} {n : Nat} {a : Addr} (x : Ext H W H' W') (h : W[n]? = some a) : W'[n]? = some a := by
  obtain ⟨t, rfl⟩ := x.pre
  rw [List.getElem?_append_left (List.getElem?_eq_some_iff.mp h).1]
  exact h
theorem drop_at {ds : List D} {i : Nat} {d : D} (h : ds[i]? = some d) : ds.drop i = d :: ds.drop (i + 1) := by
  obtain ⟨hl, e⟩ := List.getElem?_eq_some_iff.mp h
  rw [List.drop_eq_getElem_cons hl, e]
theorem wipe_wipe (σ : L2.St) (v : List Nat) : L2.wipe (L2.wipe σ v) v = L2.wipe σ v := by
  refine List.ext_getElem? fun j => ?_
  rw [wipe_get, wipe_get, wipe_length]
  by_cases hj : j ∈ v ∧ j < σ.length
  · rw [if_pos hj, if_pos hj]
  · rw [if_neg hj]
section
variable {X : Cx} {elt tg iter : Expr} {ifs : List Expr} {scope : Scope} {own : List (Str × Nat)} {pos : Pos} {fi : Ix} {g : Tg} {t e : Ex} {ws : List Nat}
/-- one turn's end: the list at place n has grown, or not -/
theorem lc_go {K : PySem.W.Frag} {fi : Ix} {vs : List Nat} (hws : ∀ i ∈ ws, i ∈ vs) (σ : L2.St) (H : Hp) (Q : VK) (q : tEV K (sLC fi g t e vs) σ H Q) : tLc (tIV K fi) (tGV K g ws) (tEVT K t) (tEV K e) vs σ H Q := by
  obtain ⟨W, S, σp, d, S', st, rs, e0, q⟩ := q
  unfold sLC at e0
  split at e0
  · cases e0
  · rename_i ds S1 e1
    split at e0
    · cases e0
    · rename_i S2 e2
      refine ⟨W, S, σp, ds, S1, st, rs, e1, fun J H1 W1 x1 st1 rs1 it D hD => ?_⟩
      obtain ⟨G, Y, wk, g0, gst, gy⟩ := it.ex
      obtain ⟨xD, stD⟩ := sto_new st1 hD (ds := []) .nil
      have hn : (W1 ++ [D])[S1.length]? = some D := by rw [← st1.len]; simp
      refine lc_it wk (fun i H => ∃ W S, StOK K H W S ∧ RepS K H W (wipe σ vs) (wipeP σp vs) ∧ G H W ∧ Ext H1 W1 H W ∧ W[S1.length]? = some D ∧ loopC (turnC g t e S1.length (wipeP σp vs)) (ds.drop i) S = some S2)
        ⟨W1 ++ [D], S1 ++ [[]], stD, (rs1.ext st1 xD).wipe vs, gst _ _ _ _ _ st1 g0 xD, xD, hn, by rw [List.drop_zero]; exact e2⟩
        (fun i H _ p => by obtain ⟨W, S, _, _, gg, _⟩ := p; exact ⟨W, gg⟩) (fun i v H2 H3 hi p y => ?_) (fun H2 p => ?_)
      · obtain ⟨W2, S2', st2, rs2, g2, x2, n2, e3⟩ := p
        obtain ⟨sm, d', hd, r⟩ := gy i H2 W2 S2' v H3 st2 g2 hi y
        rw [drop_at hd] at e3
        unfold loopC at e3
        split at e3
        · rename_i S4 e4
          have x3 : Ext H2 W2 H3 W2 := .same sm
          have st3 := st2.same sm
          have rs3 := rs2.ext st2 x3
          have g3 := gst _ _ _ _ _ st2 g2 x3
          unfold turnC at e4
          split at e4
          · cases e4
          · rename_i σ4p e5
            refine ⟨W2, S2', .p d', _, σ4p, st3, .p r, rs3, e5, fun σ4 rs4 o4 => ⟨(o4.wipe hws).trans (wipe_wipe _ _), ?_⟩⟩
            · split at e4
              · rename_i S5 e6
                refine tEVT_mk st3 rs4 e6 fun H5 W5 x5 st5 rs5 => ?_
                simp only [if_true]
                split at e4
                · rename_i y6 S6 e7
                  refine tEV_mk st5 rs5 e7 fun u H6 W6 x6 st6 rs6 r6 => ?_
                  cases r6 with
                  | p r6 =>
                    have n6 := ((x3.trans x5).trans x6).at n2
                    obtain ⟨us, hus, hz, x7, st7⟩ := push_ok st6 n6 r6 e4
                    have x27 := ((x3.trans x5).trans x6).trans x7
                    exact ⟨us, hus, hz, W6, S4, st7, rs2.ext st2 x27, gst _ _ _ _ _ st6 (gst _ _ _ _ _ st5 (gst _ _ _ _ _ st3 g3 x5) x6) x7, x2.trans x27, n6, e3⟩
                · cases e4
              · rename_i S5 e6
                cases e4
                refine tEVT_mk st3 rs4 e6 fun H5 W5 x5 st5 rs5 => ?_
                simp only [Bool.false_eq_true, if_false]
                exact ⟨W5, S4, st5, rs2.ext st2 (x3.trans x5), gst _ _ _ _ _ st3 g3 x5, x2.trans (x3.trans x5), (x3.trans x5).at n2, e3⟩
              · cases e4
        · cases e3
      · obtain ⟨W2, S2', st2, rs2, g2, x2, n2, e3⟩ := p
        rw [List.drop_length] at e3
        cases e3
        obtain ⟨x', st', h'⟩ := end_ok st1 x2 st2 e0
        exact q _ H2 W1 (x1.trans x') st' (h' _ (.m n2))
theorem ev_lc (hc : X.calm = true) (hN : X.N.Nodup) (hi : EI X tg iter fi) (ok : BlkOk X.N X.env.scope scope own)
    (hg : ∀ (s : Shared) (H : Hp) (C : Addr) (cl : List (Str × Addr)) (fp : List Addr), EG (X.blk s H scope (compEnvC scope cl C X.env) fp) tg g ws) (ht : ∀ (s : Shared) (H : Hp) (C : Addr) (cl : List (Str × Addr)) (fp : List Addr), ECs (X.blk s H scope (compEnvC scope cl C X.env) fp) ifs t)
    (he : ∀ (s : Shared) (H : Hp) (C : Addr) (cl : List (Str × Addr)) (fp : List Addr), EV (X.blk s H scope (compEnvC scope cl C X.env) fp) elt e) (hws : ∀ i ∈ ws, i ∈ own.map (·.2)) (hs : ∀ x, foldedSetIterable iter X.env x = pure x := by intro _; rfl) :
    EV X (.ListComp elt [⟨tg, iter, ifs, 0⟩] scope pos) (sLC fi g t e (own.map (·.2))) :=
  PE.weak (pe_lc (g := tGV X.K g ws) (tt := tEVT X.K t) (te := tEV X.K e) hc hN hi ok hg ht he hs) (lc_go hws)
/-- name = [..] on one line -/
theorem evs_setLc {i : Nat} {y : Str} {py spos : Pos} (hc : X.calm = true) (hN : X.N.Nodup) (hy : X.N[i]? = some y) (hyl : X.env.scope.names.lookup y = some .local)
    (hsw : swapsWith (.ListComp elt [⟨tg, iter, ifs, 0⟩] scope pos) (some (.Name y py)) spos.line X.env = pure true) (hi : EI X tg iter fi) (ok : BlkOk X.N X.env.scope scope own)
    (hg : ∀ (s : Shared) (H : Hp) (C : Addr) (cl : List (Str × Addr)) (fp : List Addr), EG (X.blk s H scope (compEnvC scope cl C X.env) fp) tg g ws) (ht : ∀ (s : Shared) (H : Hp) (C : Addr) (cl : List (Str × Addr)) (fp : List Addr), ECs (X.blk s H scope (compEnvC scope cl C X.env) fp) ifs t)
    (he : ∀ (s : Shared) (H : Hp) (C : Addr) (cl : List (Str × Addr)) (fp : List Addr), EV (X.blk s H scope (compEnvC scope cl C X.env) fp) elt e) (hws : ∀ i ∈ ws, i ∈ own.map (·.2)) (hs : ∀ x, foldedSetIterable iter X.env x = pure x := by intro _; rfl) :
    EVS X (.Assign [.Name y py] (.ListComp elt [⟨tg, iter, ifs, 0⟩] scope pos) spos) (sAsg (sLC fi g t e (own.map (·.2))) (gN i)) :=
  PS.weak (ps_setLc (g := tGV X.K g ws) (tt := tEVT X.K t) (te := tEV X.K e) hc hN hy hyl hsw hi ok hg ht he hs) fun Dn σ H q => by
    obtain ⟨W, S, σp, o, S', st, rs, e0, q⟩ := q
    refine lc_go hws σ H _ ?_
    unfold sAsg at e0
    split at e0
    · rename_i v S1 e1
      cases e0
      exact tEV_mk st rs e1 fun u H' W' x' st' rs' r => q _ H' W' x' st' (rs'.set i r)
    · cases e0
end
section
variable {X : Cx} {elt tg iter tg1 iter1 : Expr} {ifs ifs1 : List Expr} {scope : Scope} {own : List (Str × Nat)} {pos : Pos} {fi fi1 : Ix} {g g1 : Tg} {t t1 e : Ex} {ws ws1 vs1 : List Nat}
theorem lc2_go {K : PySem.W.Frag} {vs : List Nat} (hws : ∀ i ∈ ws, i ∈ vs) (hws1 : ∀ i ∈ ws1, i ∈ vs1) (σ : L2.St) (H : Hp) (Q : VK) (q : tEV K (sLC2 fi g t fi1 g1 t1 e vs vs1) σ H Q) :
    tLc2 (tIV K fi) (tGV K g ws) (tEVT K t) (tIV K fi1) (tGV K g1 ws1) (tEVT K t1) (tEV K e) vs vs1 σ H Q := by
  obtain ⟨W, S, σp, d, S', st, rs, e0, q⟩ := q
  unfold sLC2 at e0
  split at e0
  · cases e0
  · rename_i ds S1 e1
    split at e0
    · cases e0
    · rename_i S2 e2
      refine ⟨W, S, σp, ds, S1, st, rs, e1, fun J H1 W1 x1 st1 rs1 it D hD => ?_⟩
      obtain ⟨G, Y, wk, g0, gst, gy⟩ := it.ex
      obtain ⟨xD, stD⟩ := sto_new st1 hD (ds := []) .nil
      have hn : (W1 ++ [D])[S1.length]? = some D := by rw [← st1.len]; simp
      let P : Nat → Hp → Prop := fun i H => ∃ W S, StOK K H W S ∧ RepS K H W (wipe σ vs) (wipeP σp vs) ∧ G H W ∧ Ext H1 W1 H W ∧ W[S1.length]? = some D ∧ loopC (turnD g t fi1 vs1 g1 t1 e S1.length (wipeP σp vs)) (ds.drop i) S = some S2
      refine ⟨fun i m H => m = ds.length - i ∧ i ≤ ds.length ∧ P i H, ⟨ds.length, by simp, Nat.zero_le _, ⟨W1 ++ [D], S1 ++ [[]], stD, (rs1.ext st1 xD).wipe vs, gst _ _ _ _ _ st1 g0 xD, xD, hn, by rw [List.drop_zero]; exact e2⟩⟩, ?_⟩
      rintro i m H2 ⟨rfl, hi, W2, S2', st2, rs2, g2, x2, n2, e3⟩
      by_cases hlt : i < ds.length
      · refine .inr ⟨wk.goes i H2 hlt ⟨W2, g2⟩, P (i + 1), fun H' p' => ⟨ds.length - (i + 1), by omega, rfl, hlt, p'⟩, fun v H3 y => ?_⟩
        obtain ⟨sm, d', hd, r⟩ := gy i H2 W2 S2' v H3 st2 g2 hlt (wk.yields i H2 v H3 hlt ⟨W2, g2⟩ y)
        rw [drop_at hd] at e3
        unfold loopC at e3
        split at e3
        · rename_i S4 e4
          have x3 : Ext H2 W2 H3 W2 := .same sm
          have st3 := st2.same sm
          have rs3 := rs2.ext st2 x3
          have g3 := gst _ _ _ _ _ st2 g2 x3
          unfold turnD at e4
          split at e4
          · cases e4
          · rename_i σ4p e5
            refine ⟨W2, S2', .p d', _, σ4p, st3, .p r, rs3, e5, fun σ4 rs4 o4 => ⟨(o4.wipe hws).trans (wipe_wipe _ _), ?_⟩⟩
            split at e4
            · rename_i S5 e6
              refine tEVT_mk st3 rs4 e6 fun H5 W5 x5 st5 rs5 => ?_
              simp only [if_true]
              split at e4
              · rename_i ds1 S6 e7
                refine ⟨W5, S5, σ4p, ds1, S6, st5, rs5, e7, fun J1 H6 W6 x6 st6 rs6 it1 => ?_⟩
                obtain ⟨G1, Y1, wk1, g10, gst1, gy1⟩ := it1.ex
                have g6 := gst _ _ _ _ _ st5 (gst _ _ _ _ _ st3 g3 x5) x6
                have x26 := (x3.trans x5).trans x6
                let P1 : Nat → Hp → Prop := fun j H => ∃ W S, StOK K H W S ∧ RepS K H W (wipe σ vs) (wipeP σp vs) ∧ RepS K H W (wipe σ4 vs1) (wipeP σ4p vs1) ∧ G H W ∧ G1 H W ∧ Ext H1 W1 H W ∧ W[S1.length]? = some D ∧ loopC (turnC g1 t1 e S1.length (wipeP σ4p vs1)) (ds1.drop j) S = some S4
                refine ⟨fun j k H => k = ds1.length - j ∧ j ≤ ds1.length ∧ P1 j H, ⟨ds1.length, by simp, Nat.zero_le _, ⟨W6, S6, st6, rs2.ext st2 x26, rs6.wipe vs1, g6, g10, x2.trans x26, x26.at n2, by rw [List.drop_zero]; exact e4⟩⟩, ?_⟩
                rintro j k H7 ⟨rfl, hj, W7, S7, st7, rsa7, rsb7, g7, g17, x7, n7, e8⟩
                by_cases hlt1 : j < ds1.length
                · refine .inr ⟨wk1.goes j H7 hlt1 ⟨W7, g17⟩, P1 (j + 1), fun H' p' => ⟨ds1.length - (j + 1), by omega, rfl, hlt1, p'⟩, fun v1 H8 y1 => ?_⟩
                  obtain ⟨sm1, d1, hd1, r1⟩ := gy1 j H7 W7 S7 v1 H8 st7 g17 hlt1 (wk1.yields j H7 v1 H8 hlt1 ⟨W7, g17⟩ y1)
                  rw [drop_at hd1] at e8
                  unfold loopC at e8
                  split at e8
                  · rename_i S9 e9
                    have x8 : Ext H7 W7 H8 W7 := .same sm1
                    have st8 := st7.same sm1
                    unfold turnC at e9
                    split at e9
                    · cases e9
                    · rename_i σ9p e10
                      refine ⟨W7, S7, .p d1, _, σ9p, st8, .p r1, rsb7.ext st7 x8, e10, fun σ9 rs9 o9 => ⟨(o9.wipe hws1).trans (wipe_wipe _ _), ?_⟩⟩
                      have g8 := gst _ _ _ _ _ st7 g7 x8
                      have g18 := gst1 _ _ _ _ _ st7 g17 x8
                      split at e9
                      · rename_i S10 e11
                        refine tEVT_mk st8 rs9 e11 fun H10 W10 x10 st10 rs10 => ?_
                        simp only [if_true]
                        split at e9
                        · rename_i y11 S11 e12
                          refine tEV_mk st10 rs10 e12 fun u H11 W11 x11 st11 rs11 r11 => ?_
                          cases r11 with
                          | p r11 =>
                            have n11 := ((x8.trans x10).trans x11).at n7
                            obtain ⟨us, hus, hz, x12, st12⟩ := push_ok st11 n11 r11 e9
                            have xx := ((x8.trans x10).trans x11).trans x12
                            exact ⟨us, hus, hz, W11, S9, st12, rsa7.ext st7 xx, rsb7.ext st7 xx, gst _ _ _ _ _ st11 (gst _ _ _ _ _ st10 (gst _ _ _ _ _ st8 g8 x10) x11) x12, gst1 _ _ _ _ _ st11 (gst1 _ _ _ _ _ st10 (gst1 _ _ _ _ _ st8 g18 x10) x11) x12, x7.trans xx, n11, e8⟩
                        · cases e9
                      · rename_i S10 e11
                        cases e9
                        refine tEVT_mk st8 rs9 e11 fun H10 W10 x10 st10 rs10 => ?_
                        simp only [Bool.false_eq_true, if_false]
                        exact ⟨W10, S9, st10, rsa7.ext st7 (x8.trans x10), rsb7.ext st7 (x8.trans x10), gst _ _ _ _ _ st8 g8 x10, gst1 _ _ _ _ _ st8 g18 x10, x7.trans (x8.trans x10), (x8.trans x10).at n7, e8⟩
                      · cases e9
                  · cases e8
                · have ej : j = ds1.length := by omega
                  subst ej
                  rw [List.drop_length] at e8
                  cases e8
                  exact .inl ⟨wk1.stops H7 ⟨W7, g17⟩, W7, S4, st7, rsa7, g7, x7, n7, e3⟩
              · cases e4
            · rename_i S5 e6
              cases e4
              refine tEVT_mk st3 rs4 e6 fun H5 W5 x5 st5 rs5 => ?_
              simp only [Bool.false_eq_true, if_false]
              exact ⟨W5, S4, st5, rs2.ext st2 (x3.trans x5), gst _ _ _ _ _ st3 g3 x5, x2.trans (x3.trans x5), (x3.trans x5).at n2, e3⟩
            · cases e4
        · cases e3
      · have ei : i = ds.length := by omega
        subst ei
        rw [List.drop_length] at e3
        cases e3
        obtain ⟨x', st', h'⟩ := end_ok st1 x2 st2 e0
        exact .inl ⟨wk.stops H2 ⟨W2, g2⟩, q _ H2 W1 (x1.trans x') st' (h' _ (.m n2))⟩
theorem ev_lc2 (hc : X.calm = true) (hN : X.N.Nodup) (hi : EI X tg iter fi) (ok : BlkOk X.N X.env.scope scope own) (hv : ∀ i ∈ vs1, i ∈ own.map (·.2))
    (hg : ∀ (s : Shared) (H : Hp) (C : Addr) (cl : List (Str × Addr)) (fp : List Addr), EG (X.blk s H scope (compEnvC scope cl C X.env) fp) tg g ws) (ht : ∀ (s : Shared) (H : Hp) (C : Addr) (cl : List (Str × Addr)) (fp : List Addr), ECs (X.blk s H scope (compEnvC scope cl C X.env) fp) ifs t)
    (hi1 : ∀ (s : Shared) (H : Hp) (C : Addr) (cl : List (Str × Addr)) (fp : List Addr), EI (X.blk s H scope (compEnvC scope cl C X.env) fp) tg1 iter1 fi1)
    (hg1 : ∀ (s : Shared) (H : Hp) (C : Addr) (cl : List (Str × Addr)) (fp : List Addr), EG (X.blk s H scope (compEnvC scope cl C X.env) fp) tg1 g1 ws1) (ht1 : ∀ (s : Shared) (H : Hp) (C : Addr) (cl : List (Str × Addr)) (fp : List Addr), ECs (X.blk s H scope (compEnvC scope cl C X.env) fp) ifs1 t1)
    (he : ∀ (s : Shared) (H : Hp) (C : Addr) (cl : List (Str × Addr)) (fp : List Addr), EV (X.blk s H scope (compEnvC scope cl C X.env) fp) elt e) (hws : ∀ i ∈ ws, i ∈ own.map (·.2)) (hws1 : ∀ i ∈ ws1, i ∈ vs1)
    (hs : ∀ x, foldedSetIterable iter X.env x = pure x := by intro _; rfl) (hs1 : ∀ env x, foldedSetIterable iter1 env x = pure x := by intro _ _; rfl) :
    EV X (.ListComp elt [⟨tg, iter, ifs, 0⟩, ⟨tg1, iter1, ifs1, 0⟩] scope pos) (sLC2 fi g t fi1 g1 t1 e (own.map (·.2)) vs1) :=
  PE.weak (pe_lc2 (g := tGV X.K g ws) (tt := tEVT X.K t) (wi1 := tIV X.K fi1) (g1 := tGV X.K g1 ws1) (tt1 := tEVT X.K t1) (te := tEV X.K e) hc hN hi ok hv hg ht hi1 hg1 ht1 he hs hs1) (lc2_go hws hws1)
theorem evs_setLc2 {i : Nat} {y : Str} {py spos : Pos} (hc : X.calm = true) (hN : X.N.Nodup) (hy : X.N[i]? = some y) (hyl : X.env.scope.names.lookup y = some .local)
    (hsw : swapsWith (.ListComp elt [⟨tg, iter, ifs, 0⟩, ⟨tg1, iter1, ifs1, 0⟩] scope pos) (some (.Name y py)) spos.line X.env = pure true) (hi : EI X tg iter fi) (ok : BlkOk X.N X.env.scope scope own) (hv : ∀ i ∈ vs1, i ∈ own.map (·.2))
    (hg : ∀ (s : Shared) (H : Hp) (C : Addr) (cl : List (Str × Addr)) (fp : List Addr), EG (X.blk s H scope (compEnvC scope cl C X.env) fp) tg g ws) (ht : ∀ (s : Shared) (H : Hp) (C : Addr) (cl : List (Str × Addr)) (fp : List Addr), ECs (X.blk s H scope (compEnvC scope cl C X.env) fp) ifs t)
    (hi1 : ∀ (s : Shared) (H : Hp) (C : Addr) (cl : List (Str × Addr)) (fp : List Addr), EI (X.blk s H scope (compEnvC scope cl C X.env) fp) tg1 iter1 fi1)
    (hg1 : ∀ (s : Shared) (H : Hp) (C : Addr) (cl : List (Str × Addr)) (fp : List Addr), EG (X.blk s H scope (compEnvC scope cl C X.env) fp) tg1 g1 ws1) (ht1 : ∀ (s : Shared) (H : Hp) (C : Addr) (cl : List (Str × Addr)) (fp : List Addr), ECs (X.blk s H scope (compEnvC scope cl C X.env) fp) ifs1 t1)
    (he : ∀ (s : Shared) (H : Hp) (C : Addr) (cl : List (Str × Addr)) (fp : List Addr), EV (X.blk s H scope (compEnvC scope cl C X.env) fp) elt e) (hws : ∀ i ∈ ws, i ∈ own.map (·.2)) (hws1 : ∀ i ∈ ws1, i ∈ vs1)
    (hs : ∀ x, foldedSetIterable iter X.env x = pure x := by intro _; rfl) (hs1 : ∀ env x, foldedSetIterable iter1 env x = pure x := by intro _ _; rfl) :
    EVS X (.Assign [.Name y py] (.ListComp elt [⟨tg, iter, ifs, 0⟩, ⟨tg1, iter1, ifs1, 0⟩] scope pos) spos) (sAsg (sLC2 fi g t fi1 g1 t1 e (own.map (·.2)) vs1) (gN i)) :=
  PS.weak (ps_setLc2 (g := tGV X.K g ws) (tt := tEVT X.K t) (wi1 := tIV X.K fi1) (g1 := tGV X.K g1 ws1) (tt1 := tEVT X.K t1) (te := tEV X.K e) hc hN hy hyl hsw hi ok hv hg ht hi1 hg1 ht1 he hs hs1) fun Dn σ H q => by
    obtain ⟨W, S, σp, o, S', st, rs, e0, q⟩ := q
    refine lc2_go hws hws1 σ H _ ?_
    unfold sAsg at e0
    split at e0
    · rename_i v S1 e1
      cases e0
      exact tEV_mk st rs e1 fun u H' W' x' st' rs' r => q _ H' W' x' st' (rs'.set i r)
    · cases e0
end
end EV

set_option Elab.async false
set_option linter.all false
set_option maxRecDepth 100000
/-! zip of lists and tuples, any of both: walked, and as a list -/
namespace EVZ
open PySem PySem.W PyProof.Rows
section
variable {prog : Program} {w : World} {A : Around} {E : Value → Shared → Prop} {s : Shared} {z TI TO T i1 i2 : Addr} {fp1 fp2 : List Addr} {n1 n2 i : Nat} {P1 P2 : Nat → Value → Prop} {St1 St2 : Nat → Heap → Prop} {f : Bool} {oT : Obj}
theorem held_item {Q : Value → Shared → Prop} (S : ZipSep2 z TI TO i1 i2 fp1 fp2) (D1 : Draws prog w A i1 fp1 n1 P1 St1) (D2 : Draws prog w A i2 fp2 n2 P2 St2)
    (hz : IsZipHeld s.heap z TI TO T f) (hT : s.heap.get? T = some oT) (hTI : IsTupOf2 s.heap TI (.ref i1) (.ref i2)) (st1 : St1 i s.heap) (st2 : St2 i s.heap) (hlt1 : i < n1) (hlt2 : i < n2)
    (hQ : ∀ x1 x2 h' tk, P1 i x1 → P2 i x2 → IsZipHeld h' z TI TO T true → St1 (i + 1) h' → St2 (i + 1) h' → IsTupOf2 h' s.heap.objs.size x1 x2 → h'.objs.size = s.heap.objs.size + 1 →
      (∀ c o, c ≠ z → c ≠ i1 → c ≠ i2 → s.heap.get? c = some o → h'.get? c = some o) → Q (.ref s.heap.objs.size) { s with heap := h', toks := tk }) :
    wpAny (model prog w) A (Builtin.«zip.__next__» ⟨[.ref z], []⟩) (fun fin s' => ∃ v, fin = .done (.ret v) ∧ Q v s') E s := by
  obtain ⟨hp, g, d, tk0, os⟩ := s
  show wpAny _ _ (field (.ref z) 2 >>= _) _ _ _
  refine wpAny_bind (wpAny_field hz rfl (x := .bool false) rfl ?_)
  show wpAny _ _ (field (.ref z) 3 >>= _) _ _ _
  refine wpAny_bind (wpAny_field hz rfl (x := .ref TI) rfl ?_)
  refine wpAny_bind (wpAny_seqItems hTI rfl ?_)
  show wpAny _ _ (Builtin.SmallTypes.ownedTupleIsFree (.ref z) >>= _) _ _ _
  refine wpAny_bind (wpAny_tupleHeld_zip hz hT fun h₁ hz₁ hs₁ => ?_)
  replace hs₁ : Heap.SameBut z hp h₁ := hs₁
  simp only [Bool.false_eq_true, if_false]
  refine wpAny_bind ?_
  rw [← Array.forIn_toList]
  simp only [List.forIn_cons, List.forIn_nil]
  refine wpAny_bind (wpAny_bind (wpAny_holding ?_))
  show wpAny _ _ (Builtin.SmallTypes.nextOf (.ref i1) >>= _) _ _ ⟨h₁, g, d, tk0, os⟩
  refine wpAny_bind (D1.item i _ _ _ hlt1 (D1.over st1 hs₁ S.zf1) fun x1 p1 tk1 hx1 sn1 hp1 => wpAny_pure ?_)
  replace hp1 : Heap.SameBut i1 h₁ p1 := hp1
  refine wpAny_pure ?_
  refine wpAny_bind (wpAny_bind (wpAny_holding ?_))
  show wpAny _ _ (Builtin.SmallTypes.nextOf (.ref i2) >>= _) _ _ ⟨p1, g, d, tk1, os⟩
  refine wpAny_bind (D2.item i _ _ _ hlt2 (D2.over (D2.over st2 hs₁ S.zf2) hp1 S.sep1_2) fun x2 p2 tk2 hx2 sn2 hp2 => wpAny_pure ?_)
  replace hp2 : Heap.SameBut i2 p1 p2 := hp2
  refine wpAny_pure (wpAny_pure ?_)
  show wpAny _ _ (newTuple [x1, x2] >>= _) _ _ ⟨p2, g, d, tk2, os⟩
  refine wpAny_bind (wpAny_newTuple ?_)
  have hsz : p2.objs.size = hp.objs.size := by rw [hp2.1, hp1.1, hs₁.1]
  have hz₃ : IsZipHeld p2 z TI TO T true := hp2.extBut _ _ S.zi2 (hp1.extBut _ _ S.zi1 hz₁)
  have hk : ∀ c o, c ≠ z → c ≠ i1 → c ≠ i2 → hp.get? c = some o → p2.get? c = some o := fun c o c1 c2 c3 e => hp2.extBut _ _ c3 (hp1.extBut _ _ c2 (hs₁.extBut _ _ c1 e))
  have j1 : St1 (i + 1) p2 := D1.over sn1 hp2 S.sep2_1
  refine wpAny_pure ⟨_, rfl, ?_⟩
  show Q (.ref p2.objs.size) ⟨p2.push { cls := .type "tuple", data := .seq #[x1, x2] }, g, d, tk2, os⟩
  have hp' : IsTupOf2 (p2.push { cls := .type "tuple", data := .seq #[x1, x2] }) p2.objs.size x1 x2 := Heap.get?_push_size _ rfl
  have hz4 : (p2.push { cls := .type "tuple", data := .seq #[x1, x2] }).objs.size = p2.objs.size + 1 := Heap.size_push ..
  rw [hsz] at hp' hz4 ⊢
  exact hQ x1 x2 _ tk2 hx1 hx2 (Heap.get?_push_of_some _ hz₃) (D1.frame _ _ _ j1 fun b _ o e => Heap.get?_push_of_some _ e) (D2.frame _ _ _ sn2 fun b _ o e => Heap.get?_push_of_some _ e) hp' hz4 fun c o c1 c2 c3 e => Heap.get?_push_of_some _ (hk c o c1 c2 c3 e)
theorem held_end {Q : Fin → Shared → Prop} (S : ZipSep2 z TI TO i1 i2 fp1 fp2) (D1 : Draws prog w A i1 fp1 n1 P1 St1) (D2 : Draws prog w A i2 fp2 n2 P2 St2)
    (hz : IsZipHeld s.heap z TI TO T f) (hT : s.heap.get? T = some oT) (hTI : IsTupOf2 s.heap TI (.ref i1) (.ref i2)) (st1 : St1 i s.heap) (st2 : St2 i s.heap) (hle1 : i ≤ n1) (hle2 : i ≤ n2) (hend : i = n1 ∨ i = n2)
    (hE : ∀ h' tk e, (∀ c o, c ≠ z → c ≠ i1 → c ≠ i2 → s.heap.get? c = some o → h'.get? c = some o) → (∃ o, h'.get? e = some o ∧ o.cls = .type "StopIteration") → E (.ref e) { s with heap := h', toks := tk }) :
    wpAny (model prog w) A (Builtin.«zip.__next__» ⟨[.ref z], []⟩) Q E s := by
  obtain ⟨hp, g, d, tk0, os⟩ := s
  show wpAny _ _ (field (.ref z) 2 >>= _) _ _ _
  refine wpAny_bind (wpAny_field hz rfl (x := .bool false) rfl ?_)
  show wpAny _ _ (field (.ref z) 3 >>= _) _ _ _
  refine wpAny_bind (wpAny_field hz rfl (x := .ref TI) rfl ?_)
  refine wpAny_bind (wpAny_seqItems hTI rfl ?_)
  show wpAny _ _ (Builtin.SmallTypes.ownedTupleIsFree (.ref z) >>= _) _ _ _
  refine wpAny_bind (wpAny_tupleHeld_zip hz hT fun h₁ hz₁ hs₁ => ?_)
  replace hs₁ : Heap.SameBut z hp h₁ := hs₁
  simp only [Bool.false_eq_true, if_false]
  refine wpAny_bind ?_
  rw [← Array.forIn_toList]
  simp only [List.forIn_cons, List.forIn_nil]
  refine wpAny_bind (wpAny_bind (wpAny_holding ?_))
  show wpAny _ _ (Builtin.SmallTypes.nextOf (.ref i1) >>= _) _ _ ⟨h₁, g, d, tk0, os⟩
  by_cases hlt1 : i < n1
  · refine wpAny_bind (D1.item i _ _ _ hlt1 (D1.over st1 hs₁ S.zf1) fun x1 p1 tk1 hx1 sn1 hp1 => wpAny_pure ?_)
    replace hp1 : Heap.SameBut i1 h₁ p1 := hp1
    refine wpAny_pure ?_
    refine wpAny_bind (wpAny_bind (wpAny_holding ?_))
    show wpAny _ _ (Builtin.SmallTypes.nextOf (.ref i2) >>= _) _ _ ⟨p1, g, d, tk1, os⟩
    have hi2 : i = n2 := by omega
    refine wpAny_bind (D2.done ⟨p1, g, d, tk1, os⟩ _ _ (by rw [← hi2]; exact D2.over (D2.over st2 hs₁ S.zf2) hp1 S.sep1_2) fun q e hq he => ?_)
    replace hq : Heap.ExtBut i2 p1 q := hq
    exact hE q tk1 e (fun c o cz c1 c2 x => hq _ _ c2 (hp1.extBut _ _ c1 (hs₁.extBut _ _ cz x))) he
  · have hi1 : i = n1 := by omega
    refine wpAny_bind (D1.done ⟨h₁, g, d, tk0, os⟩ _ _ (by rw [← hi1]; exact D1.over st1 hs₁ S.zf1) fun q e hq he => ?_)
    replace hq : Heap.ExtBut i1 h₁ q := hq
    exact hE q tk0 e (fun c o cz c1 c2 x => hq _ _ c1 (hs₁.extBut _ _ cz x)) he
theorem next_held {Q : Option Value → Shared → Prop} (S : ZipSep2 z TI TO i1 i2 fp1 fp2) (D1 : Draws prog w A.in1 i1 fp1 n1 P1 St1) (D2 : Draws prog w A.in1 i2 fp2 n2 P2 St2)
    (hz : IsZipHeld s.heap z TI TO T f) (hT : s.heap.get? T = some oT) (hTI : IsTupOf2 s.heap TI (.ref i1) (.ref i2)) (st1 : St1 i s.heap) (st2 : St2 i s.heap) (hlt1 : i < n1) (hlt2 : i < n2)
    (hQ : ∀ x1 x2 h' tk, P1 i x1 → P2 i x2 → IsZipHeld h' z TI TO T true → St1 (i + 1) h' → St2 (i + 1) h' → IsTupOf2 h' s.heap.objs.size x1 x2 → h'.objs.size = s.heap.objs.size + 1 →
      (∀ c o, c ≠ z → c ≠ i1 → c ≠ i2 → s.heap.get? c = some o → h'.get? c = some o) → Q (some (.ref s.heap.objs.size)) { s with heap := h', toks := tk }) :
    wpAny (model prog w) A (pyNext (.ref z)) Q E s := by
  have hTy : s.TypeIs (.ref z) "zip" := ⟨_, hz, rfl⟩
  unfold pyNext
  exact wpAny_bind (wpAny_attempt (wpAny_callSpecial?_slot (name := Str.ofString "__next__") hTy F.slot_zip_next
    (wpAny_call_entry F.slot_zip_next hTy F.entry_zip_next
      (held_item S D1 D2 hz hT hTI st1 st2 hlt1 hlt2 fun x1 x2 h' tk y1 y2 b1 d1 d2 b5 b6 b7 => wpAny_pure (hQ x1 x2 h' tk y1 y2 b1 d1 d2 b5 b6 b7)) (F.args_zip_next_1 _))))
theorem end_held {Q : Option Value → Shared → Prop} (S : ZipSep2 z TI TO i1 i2 fp1 fp2) (D1 : Draws prog w A.in1 i1 fp1 n1 P1 St1) (D2 : Draws prog w A.in1 i2 fp2 n2 P2 St2)
    (hz : IsZipHeld s.heap z TI TO T f) (hT : s.heap.get? T = some oT) (hTI : IsTupOf2 s.heap TI (.ref i1) (.ref i2)) (st1 : St1 i s.heap) (st2 : St2 i s.heap) (hle1 : i ≤ n1) (hle2 : i ≤ n2) (hend : i = n1 ∨ i = n2)
    (hQ : ∀ h' tk, (∀ c o, c ≠ z → c ≠ i1 → c ≠ i2 → s.heap.get? c = some o → h'.get? c = some o) → Q none { s with heap := h', toks := tk }) : wpAny (model prog w) A (pyNext (.ref z)) Q E s := by
  have hTy : s.TypeIs (.ref z) "zip" := ⟨_, hz, rfl⟩
  unfold pyNext
  refine wpAny_bind (wpAny_attempt (wpAny_callSpecial?_slot (name := Str.ofString "__next__") hTy F.slot_zip_next
    (wpAny_call_entry F.slot_zip_next hTy F.entry_zip_next (held_end S D1 D2 hz hT hTI st1 st2 hle1 hle2 hend fun h' tk e hk he => ?_) (F.args_zip_next_1 _))))
  obtain ⟨o, ho, hc⟩ := he
  refine wpAny_bind (wpAny_isInstance (T := "StopIteration") (b := true) ⟨o, ho, hc⟩ isSubtype_stop ?_)
  exact wpAny_pure (hQ _ _ hk)
end
/-! ### sources: a list or a tuple -/
open L2
def SqA (K : PySem.W.Frag) (H : Hp) : Bool → Addr → List V → Prop
  | true => SqL K H
  | false => SqT K H
def ItrA (h : Heap) : Bool → Addr → Addr → Nat → Prop
  | true => fun i a n => h.IsListIter i a n
  | false => fun i a n => h.IsTupleIter i a n
def IsA (h : Heap) : Bool → Addr → Array Value → Prop
  | true => fun a xs => h.IsList a xs
  | false => fun a xs => h.IsTuple a xs
theorem ItrA.at {h h' : Heap} : ∀ {k : Bool} {i a : Addr} {n : Nat}, ItrA h k i a n → (∀ o, h.get? i = some o → h'.get? i = some o) → ItrA h' k i a n
  | true, _, _, _, x, k => Heap.IsListIter.at x k
  | false, _, _, _, x, k => Heap.IsTupleIter.at x k
theorem ItrA.ob {h : Heap} : ∀ {k : Bool} {i a : Addr} {n : Nat}, ItrA h k i a n → ∃ o, h.get? i = some o ∧ ∀ v, o.data ≠ .cell v
  | true, _, _, _, ⟨o, e, _, d⟩ => ⟨o, e, fun v q => by rw [d] at q; cases q⟩
  | false, _, _, _, ⟨o, e, _, d⟩ => ⟨o, e, fun v q => by rw [d] at q; cases q⟩
theorem IsA.keeps {h h' : Heap} : ∀ {k : Bool} {a : Addr} {xs : Array Value}, IsA h k a xs → (∀ o, h.get? a = some o → h'.get? a = some o) → IsA h' k a xs
  | true, _, _, x, k => Heap.IsList.at x k
  | false, _, _, x, k => Heap.IsTuple.at x k
theorem IsA.lt {h : Heap} : ∀ {k : Bool} {a : Addr} {xs : Array Value}, IsA h k a xs → a < h.objs.size
  | true, _, _, ⟨_, e, _⟩ => Heap.lt_size e
  | false, _, _, ⟨_, e, _⟩ => Heap.lt_size e
theorem drawsA {prog : Program} {w : World} {A : Around} (hh : A.handled = none) (it l : Addr) (hne : l ≠ it) (items : Array Value) : ∀ k : Bool,
    Draws prog w A it [it, l] items.size (fun i v => items[i]? = some v) (fun i h => ItrA h k it l i ∧ IsA h k l items)
  | true => Draws.list hh it l hne items
  | false => Draws.tuple hh it l hne items
theorem seqA {X : Cx} {pins : List (Addr × Obj)} {σ : L2.St} {H : Hp} {s : Shared} {a : Addr} {xs : List V} (I : Inv X pins σ H s) : ∀ {k : Bool}, SqA X.K H k a xs → ∃ its, Vals xs its ∧ IsA s.heap k a its.toArray ∧ xs.length ≤ sizeLine
  | true, h => by
    obtain ⟨its, rv, p, hz⟩ := I.list h
    exact ⟨its, rv, p.isList, hz⟩
  | false, h => by
    obtain ⟨its, rv, p, hz⟩ := I.tuple h
    exact ⟨its, rv, p, hz⟩
theorem seqA_inj {X : Cx} {pins : List (Addr × Obj)} {σ : L2.St} {H : Hp} {s : Shared} {a : Addr} {xs ys : List V} (I : Inv X pins σ H s) : ∀ {k : Bool}, SqA X.K H k a xs → SqA X.K H k a ys → xs = ys
  | true, h, h' => I.list_inj h h'
  | false, h, h' => I.tuple_inj h h'
theorem sep_of {z TI TO i1 i2 a b : Addr} (D : ZipApart z TI TO i1 i2 a b) : ZipSep2 z TI TO i1 i2 [i1, a] [i2, b] where
  TIz := D.TIz
  TOz := D.TOz
  TITO := D.TITO
  TIi1 := D.TIi1
  mem1 := by simp
  zf1 := by simp; exact ⟨D.i1z.symm, D.l1z.symm⟩
  Tf1 := by simp; exact ⟨D.TOi1, D.l1TO.symm⟩
  TIi2 := D.TIi2
  mem2 := by simp
  zf2 := by simp; exact ⟨D.i2z.symm, D.l2z.symm⟩
  Tf2 := by simp; exact ⟨D.TOi2, D.l2TO.symm⟩
  sep1_2 := by simp; exact ⟨D.i12, D.l2i1.symm⟩
  sep2_1 := by simp; exact ⟨D.i12.symm, D.l1i2.symm⟩
/-- as both stand at each turn, the items in new pairs -/
def ItzA (K : PySem.W.Frag) (ka : Bool) (a : Addr) (kb : Bool) (b : Addr) : It :=
  ⟨fun i H => ∃ (xs ys : List V) (x y : V), SqA K H ka a xs ∧ SqA K H kb b ys ∧ xs[i]? = some x ∧ ys[i]? = some y,
    fun i H v H' => ∃ T x y, v = .ref T ∧ H T = none ∧ H' = upd H T (.tup [x, y]) ∧ (∀ xs, SqA K H ka a xs → xs[i]? = some x) ∧ ∀ ys, SqA K H kb b ys → ys[i]? = some y,
    fun i H => ∃ xs ys : List V, SqA K H ka a xs ∧ SqA K H kb b ys ∧ i ≤ xs.length ∧ i ≤ ys.length ∧ (xs.length ≤ i ∨ ys.length ≤ i)⟩
theorem turn_zipA {P : Program} {w : World} {K : PySem.W.Frag} {elts : List Expr} {kk : Nat} {tpos : Pos} {ka kb : Bool} {a b z TI TO i1 i2 : Addr} (D : ZipApart z TI TO i1 i2 a b) :
    Turn P w K (.Tuple elts kk tpos) (ItzA K ka a kb b) [z, TI, TO, i1, i2] z (fun i h => IsZip h z TI TO .none ∧ IsTupOf2 h TI (.ref i1) (.ref i2) ∧ (∃ x y, IsTupOf2 h TO x y) ∧ ItrA h ka i1 a i ∧ ItrA h kb i2 b i) where
  mem := by simp
  obj := fun i h st c hc => by
    obtain ⟨hz, hTI, ⟨x, y, hTO⟩, h1, h2⟩ := st
    have e' : c = z ∨ c = TI ∨ c = TO ∨ c = i1 ∨ c = i2 := by simpa using hc
    rcases e' with q | q | q | q | q
    · rw [q]; exact ⟨_, hz, fun v q => nomatch q⟩
    · rw [q]; exact ⟨_, hTI, fun v q => nomatch q⟩
    · rw [q]; exact ⟨_, hTO, fun v q => nomatch q⟩
    · rw [q]; exact h1.ob
    · rw [q]; exact h2.ob
  keep := fun i h h' st k => by
    obtain ⟨hz, hTI, ⟨x, y, hTO⟩, h1, h2⟩ := st
    exact ⟨k z (by simp) _ hz, k TI (by simp) _ hTI, ⟨x, y, k TO (by simp) _ hTO⟩, h1.at fun o q => k i1 (by simp) o q, h2.at fun o q => k i2 (by simp) o q⟩
  item := by
    intro X hP hw hK hc i pins s σ H E I hf st hg
    subst hP hw hK
    obtain ⟨hz, hTI, ⟨x0, y0, hTO⟩, h1, h2⟩ := st
    obtain ⟨xs, ys, x, y, hqx, hqy, hx, hy⟩ := hg
    obtain ⟨its, rv, p, _⟩ := seqA I hqx
    obtain ⟨its2, rv2, p2, _⟩ := seqA I hqy
    obtain ⟨u, hu, ru⟩ := rv.get hx
    obtain ⟨u2, hu2, ru2⟩ := rv2.get hy
    have hzl : z < s.heap.objs.size := Heap.lt_size hz
    have hi1 : i < its.toArray.size := by
      have := (List.getElem?_eq_some_iff.mp hu).1
      simpa using this
    have hi2 : i < its2.toArray.size := by
      have := (List.getElem?_eq_some_iff.mp hu2).1
      simpa using this
    refine wpAny_pyNext_zipD2_item (sep_of D) (drawsA (A := X.A.in1) (I.ok.hd hc) i1 a D.l1i1 its.toArray ka) (drawsA (A := X.A.in1) (I.ok.hd hc) i2 b D.l2i2 its2.toArray kb) hz hTI hTO ⟨h1, p⟩ ⟨h2, p2⟩ hi1 hi2 fun v1 v2 h' tk e1 e2 z' TO' h1' h2' hT hsz hk => ?_
    have e1 : u = v1 := by simpa [hu] using e1
    have e2 : u2 = v2 := by simpa [hu2] using e2
    subst e1 e2
    refine ⟨_, rfl, wpAny_letOwnedTupleGo_zip (s := { s with heap := h', toks := tk }) z' fun h'' z'' sb => ?_⟩
    have hT2 : h''.get? s.heap.objs.size = some { cls := .type "tuple", data := .seq #[u, u2] } := (sb.2 _ (Nat.ne_of_gt hzl)).trans hT
    have new : ObjOk X.prog X.w (upd H s.heap.objs.size (.tup [x, y])) h'' s.heap.objs.size (.tup [x, y]) :=
      ⟨by show 2 ≤ sizeLine; decide, [u, u2], .cons ru (.cons ru2 .nil), ⟨_, hT2, rfl, _, rfl⟩⟩
    have I1 : Inv X pins σ (upd H s.heap.objs.size (.tup [x, y])) { s with heap := h'', toks := tk } :=
      I.turnedNew (t' := tk) (ch := [z, TI, TO, i1, i2]) (fun c o hb q => (sb.2 c (fun q' => hb (by simp [q']))).trans (hk c o (fun q' => hb (by simp [q'])) (fun q' => hb (by simp [q'])) (fun q' => hb (by simp [q'])) (fun q' => hb (by simp [q'])) q)) hf (Nat.le_refl _) new
    refine ⟨.ref s.heap.objs.size, _, I1, rfl, ⟨_, x, y, rfl, I.hok.fresh (Nat.le_refl _), rfl, fun l hl => by rw [seqA_inj I hl hqx]; exact hx, fun l hl => by rw [seqA_inj I hl hqy]; exact hy⟩, ⟨z'', ?_, ⟨u, u2, ?_⟩, ?_, ?_⟩, fun c hcm => ?_⟩
    · exact (sb.2 _ D.TIz).trans (hk _ _ D.TIz D.TITO D.TIi1 D.TIi2 hTI)
    · exact (sb.2 _ D.TOz).trans TO'
    · exact h1'.1.at fun o q => (sb.2 _ D.i1z).trans q
    · exact h2'.1.at fun o q => (sb.2 _ D.i2z).trans q
    · have hlt : c < s.heap.objs.size := by
        have e' : c = z ∨ c = TI ∨ c = TO ∨ c = i1 ∨ c = i2 := by simpa using hcm
        rcases e' with q | q | q | q | q
        · rw [q]; exact hzl
        · rw [q]; exact Heap.lt_size hTI
        · rw [q]; exact Heap.lt_size hTO
        · rw [q]; obtain ⟨_, e1, _⟩ := h1.ob; exact Heap.lt_size e1
        · rw [q]; obtain ⟨_, e2, _⟩ := h2.ob; exact Heap.lt_size e2
      rw [upd_ne (Nat.ne_of_lt hlt)]
      exact (hf c hcm).1
  done := by
    intro X hP hw hK hc i pins s σ H E I hf st hg
    subst hP hw hK
    obtain ⟨hz, hTI, ⟨x0, y0, hTO⟩, h1, h2⟩ := st
    obtain ⟨xs, ys, hqx, hqy, hl1, hl2, hend⟩ := hg
    obtain ⟨its, rv, p, _⟩ := seqA I hqx
    obtain ⟨its2, rv2, p2, _⟩ := seqA I hqy
    have l1 := rv.length
    have l2 := rv2.length
    refine wpAny_pyNext_zipD2_end (sep_of D) (drawsA (A := X.A.in1) (I.ok.hd hc) i1 a D.l1i1 its.toArray ka) (drawsA (A := X.A.in1) (I.ok.hd hc) i2 b D.l2i2 its2.toArray kb) hz hTI hTO ⟨h1, p⟩ ⟨h2, p2⟩ (by simp; omega) (by simp; omega) (by simp; omega) fun h' tk hk => ⟨rfl, I.turnedL (t' := tk) (ch := [z, TI, TO, i1, i2]) (fun c o hb q =>
      hk c o (fun q' => hb (by simp [q'])) (fun q' => hb (by simp [q'])) (fun q' => hb (by simp [q'])) (fun q' => hb (by simp [q'])) q) hf⟩
  self := fun A i s Q E st h => wpAny_pyIter_zip st.1 h
/-- zip(a, b) begins -/
theorem begins {prog : Program} {w : World} {A : Around} {E : Value → Shared → Prop} {s : Shared} {a b : Addr} {xs ys : Array Value} {Q : Value → Shared → Prop} : ∀ (ka kb : Bool), IsA s.heap ka a xs → IsA s.heap kb b ys →
    (∀ h', IsZip h' (s.heap.objs.size + 4) (s.heap.objs.size + 2) (s.heap.objs.size + 3) .none → IsTupOf2 h' (s.heap.objs.size + 2) (.ref s.heap.objs.size) (.ref (s.heap.objs.size + 1)) →
      IsTupOf2 h' (s.heap.objs.size + 3) .none .none → ItrA h' ka s.heap.objs.size a 0 → ItrA h' kb (s.heap.objs.size + 1) b 0 → h'.objs.size = s.heap.objs.size + 5 →
      (∀ c o, s.heap.get? c = some o → h'.get? c = some o) → Q (.ref (s.heap.objs.size + 4)) { s with heap := h' }) → wpAny (model prog w) A (call (.type "zip") [.ref a, .ref b]) Q E s
  | true, true, h1, h2, h => zip_begins2 (begins_list a xs) (begins_list b ys) h1 h2 fun h' z1 z2 z3 z4 z5 z6 z7 => h h' z1 z2 z3 ⟨_, z4, rfl, rfl⟩ ⟨_, z5, rfl, rfl⟩ z6 z7
  | true, false, h1, h2, h => zip_begins2 (begins_list a xs) (begins_tuple b ys) h1 h2 fun h' z1 z2 z3 z4 z5 z6 z7 => h h' z1 z2 z3 ⟨_, z4, rfl, rfl⟩ ⟨_, z5, rfl, rfl⟩ z6 z7
  | false, true, h1, h2, h => zip_begins2 (begins_tuple a xs) (begins_list b ys) h1 h2 fun h' z1 z2 z3 z4 z5 z6 z7 => h h' z1 z2 z3 ⟨_, z4, rfl, rfl⟩ ⟨_, z5, rfl, rfl⟩ z6 z7
  | false, false, h1, h2, h => zip_begins2 (begins_tuple a xs) (begins_tuple b ys) h1 h2 fun h' z1 z2 z3 z4 z5 z6 z7 => h h' z1 z2 z3 ⟨_, z4, rfl, rfl⟩ ⟨_, z5, rfl, rfl⟩ z6 z7
def iZipM (K : PySem.W.Frag) (ta : TA) : TI := fun σ H R => ta σ H fun vs H1 => ∃ ka kb a b xs ys, vs = [.ref a, .ref b] ∧ SqA K H1 ka a xs ∧ SqA K H1 kb b ys ∧ R (ItzA K ka a kb b) H1
theorem pi_zipM {X : Cx} {e e2 : Expr} {ta : TA} {p pos tpos : Pos} {elts : List Expr} {kk : Nat} (hg : Gl X "zip") (hm : X.mg "zip" = none) (ha : PA X [e, e2] ta)
    (hs : starEach [e, e2] X.env = (false, eval e X.env) :: starEach [e2] X.env := by rfl) (hpl : (backTo pos (starEach [e2] X.env)).any (·.1) = false := by rfl) :
    PI X (.Tuple elts kk tpos) (.Call (.Name "zip" p) [e, e2] [] pos) (iZipM X.K ta) := by
  refine ⟨fun pins s σ H R I h => ?_⟩
  refine Call_ (ld_blt I hg hm PyProof.Rows.boot_zip (PyProof.Rows.callWith_type1 (thn (ha.run pos pins s σ H _ I h) fun us s1 ⟨vs, H1, I1, r1, q1⟩ => ?_) hs hpl))
  obtain ⟨ka, kb, a, b, xs, ys, ex, hqx, hqy, q⟩ := q1
  subst ex
  cases r1 with
  | cons r rr =>
    cases rr with
    | cons r' rr =>
      cases rr
      cases r
      cases r'
      have fresh5 : ∀ c, c ∈ [s1.heap.objs.size + 4, s1.heap.objs.size + 2, s1.heap.objs.size + 3, s1.heap.objs.size, s1.heap.objs.size + 1] → FpOk X pins H1 c := fun c hcm => by
        have e' : c = s1.heap.objs.size + 4 ∨ c = s1.heap.objs.size + 2 ∨ c = s1.heap.objs.size + 3 ∨ c = s1.heap.objs.size ∨ c = s1.heap.objs.size + 1 := by simpa using hcm
        have hle : s1.heap.objs.size ≤ c := by
          rcases e' with z | z | z | z | z <;> rw [z] <;> simp
        exact I1.fpOk hle (I1.hok.fresh hle)
      obtain ⟨its, rv, p1, _⟩ := seqA I1 hqx
      obtain ⟨its2, rv2, p2, _⟩ := seqA I1 hqy
      refine begins ka kb p1 p2 fun h' hz hTI hTO h1 h2 hsz hk => wpAny_pyIter_zip hz ?_
      have I2 : Inv X pins σ H1 { s1 with heap := h' } := I1.kept (t' := s1.toks) hk
      exact ⟨s1.heap.objs.size + 4, [s1.heap.objs.size + 4, s1.heap.objs.size + 2, s1.heap.objs.size + 3, s1.heap.objs.size, s1.heap.objs.size + 1], _, _, H1, rfl, I2, turn_zipA (PySem.W.ktu_apart s1.heap.objs.size a b p1.lt p2.lt), ⟨hz, hTI, ⟨_, _, hTO⟩, h1, h2⟩, fresh5, q⟩
end EVZ

set_option Elab.async false
set_option linter.all false
set_option maxRecDepth 100000
/-! list(zip(a, b)) -/
namespace EVZ
open PySem PySem.W PyProof.Rows L2
theorem ne_lt {a b c : Addr} (h : a < b) (h' : b ≤ c) : c ≠ a := fun e => Nat.lt_irrefl _ (Nat.lt_of_lt_of_le (e ▸ h) h')
theorem zip_no_len : typeLookup (.type "zip") "__len__" = pure none := am_miss_of_fast (by decide +kernel)
theorem zip_no_hint : typeLookup (.type "zip") "__length_hint__" = pure none := am_miss_of_fast (by decide +kernel)
/-- the tuples made so far -/
structure Mk (h : Heap) (b0 : Nat) (xs ys : Array Value) (Ts : List Addr) : Prop where
  up : ∀ T ∈ Ts, b0 ≤ T ∧ T < h.objs.size
  nd : Ts.Nodup
  at_ : ∀ (j : Nat) T, Ts[j]? = some T → ∃ x y, xs[j]? = some x ∧ ys[j]? = some y ∧ IsTupOf2 h T x y
theorem Mk.keeps {h h' : Heap} {b0 : Nat} {xs ys : Array Value} {Ts : List Addr} (m : Mk h b0 xs ys Ts) (hs : h.objs.size ≤ h'.objs.size) (k : ∀ b o, b0 ≤ b → h.get? b = some o → h'.get? b = some o) : Mk h' b0 xs ys Ts :=
  ⟨fun T hT => ⟨(m.up T hT).1, Nat.lt_of_lt_of_le (m.up T hT).2 hs⟩, m.nd, fun j T e => let ⟨x, y, e1, e2, e3⟩ := m.at_ j T e; ⟨x, y, e1, e2, k _ _ (m.up T (List.mem_of_getElem? e)).1 e3⟩⟩
theorem Mk.snoc {h : Heap} {b0 : Nat} {xs ys : Array Value} {Ts : List Addr} {T : Addr} {x y : Value} (m : Mk h b0 xs ys Ts) (hb : b0 ≤ T) (hl : T < h.objs.size) (hn : T ∉ Ts) (hx : xs[Ts.length]? = some x) (hy : ys[Ts.length]? = some y) (hT : IsTupOf2 h T x y) : Mk h b0 xs ys (Ts ++ [T]) := by
  refine ⟨fun U hU => ?_, ?_, fun j U e => ?_⟩
  · rcases List.mem_append.mp hU with hU | hU
    · exact m.up U hU
    · rw [List.mem_singleton.mp hU]; exact ⟨hb, hl⟩
  · rw [List.nodup_append]
    exact ⟨m.nd, by simp, fun a ha b hb e => hn (by rw [List.mem_singleton.mp hb] at e; rw [← e]; exact ha)⟩
  · by_cases hj : j < Ts.length
    · rw [List.getElem?_append_left hj] at e
      exact m.at_ j U e
    · have hj2 : j < (Ts ++ [T]).length := (List.getElem?_eq_some_iff.mp e).1
      have ej : j = Ts.length := by rw [List.length_append, List.length_singleton] at hj2; omega
      subst ej
      rw [List.getElem?_append_right (Nat.le_refl _)] at e
      simp at e
      subst e
      exact ⟨x, y, hx, hy, hT⟩
/-- the zip between two turns -/
def Zst (h : Heap) (z TI TO : Addr) : Prop := IsZip h z TI TO .none ∨ ∃ T f oT, IsZipHeld h z TI TO T f ∧ h.get? T = some oT
def lobj (acc : Array Value) (c : Nat) : Obj := { cls := .type "list", dict := none, data := .seq acc c, slots := #[] }
section
variable {prog : Program} {w : World} {A : Around} {E : Value → Shared → Prop} {R : Result → Shared → Prop} {z TI TO i1 i2 a b S : Addr} {xs ys : Array Value} {ka kb : Bool} {res : Value} {b0 : Nat}
/-- one turn of any zip -/
theorem next_any {s : Shared} {i : Nat} {Q : Option Value → Shared → Prop} (hh : A.handled = none) (D : ZipApart z TI TO i1 i2 a b) (hz : Zst s.heap z TI TO) (hTI : IsTupOf2 s.heap TI (.ref i1) (.ref i2)) (hTO : ∃ x y, IsTupOf2 s.heap TO x y)
    (h1 : ItrA s.heap ka i1 a i) (p1 : IsA s.heap ka a xs) (h2 : ItrA s.heap kb i2 b i) (p2 : IsA s.heap kb b ys) (l1 : i ≤ xs.size) (l2 : i ≤ ys.size)
    (hi : i < xs.size → i < ys.size → ∀ x y h' tk, xs[i]? = some x → ys[i]? = some y → (∃ f, IsZipHeld h' z TI TO s.heap.objs.size f ∨ ∃ T oT, IsZipHeld h' z TI TO T f ∧ h'.get? T = some oT) → (∃ x y, IsTupOf2 h' TO x y) → ItrA h' ka i1 a (i + 1) → ItrA h' kb i2 b (i + 1) → IsTupOf2 h' s.heap.objs.size x y →
      h'.objs.size = s.heap.objs.size + 1 → (∀ c o, c ≠ z → c ≠ TO → c ≠ i1 → c ≠ i2 → s.heap.get? c = some o → h'.get? c = some o) → Q (some (.ref s.heap.objs.size)) { s with heap := h', toks := tk })
    (he : (i = xs.size ∨ i = ys.size) → ∀ h' tk, (∀ c o, c ≠ z → c ≠ TO → c ≠ i1 → c ≠ i2 → s.heap.get? c = some o → h'.get? c = some o) → Q none { s with heap := h', toks := tk }) :
    wpAny (model prog w) A (pyNext (.ref z)) Q E s := by
  obtain ⟨x0, y0, hTO⟩ := hTO
  have D1 := drawsA (prog := prog) (w := w) (A := A.in1) hh i1 a D.l1i1 xs ka
  have D2 := drawsA (prog := prog) (w := w) (A := A.in1) hh i2 b D.l2i2 ys kb
  by_cases hlt : i < xs.size ∧ i < ys.size
  · rcases hz with hz | ⟨T, f, oT, hz, hT⟩
    · refine wpAny_pyNext_zipD2_item (sep_of D) D1 D2 hz hTI hTO ⟨h1, p1⟩ ⟨h2, p2⟩ hlt.1 hlt.2 fun v1 v2 h' tk e1 e2 z' TO' h1' h2' hT hsz hk => ?_
      exact hi hlt.1 hlt.2 v1 v2 h' tk e1 e2 ⟨false, .inl z'⟩ ⟨_, _, TO'⟩ h1'.1 h2'.1 hT hsz hk
    · refine next_held (sep_of D) D1 D2 hz hT hTI ⟨h1, p1⟩ ⟨h2, p2⟩ hlt.1 hlt.2 fun v1 v2 h' tk e1 e2 z' h1' h2' hT' hsz hk => ?_
      refine hi hlt.1 hlt.2 v1 v2 h' tk e1 e2 ?_ ⟨x0, y0, hk _ _ D.TOz D.TOi1 D.TOi2 hTO⟩ h1'.1 h2'.1 hT' hsz fun c o c1 _ c3 c4 e => hk c o c1 c3 c4 e
      refine ⟨true, .inr ⟨T, ?_⟩⟩
      by_cases c1 : T = z
      · exact ⟨_, z', by rw [c1]; exact z'⟩
      · by_cases c2 : T = i1
        · obtain ⟨o, eo, _⟩ := h1'.1.ob
          exact ⟨o, z', by rw [c2]; exact eo⟩
        · by_cases c3 : T = i2
          · obtain ⟨o, eo, _⟩ := h2'.1.ob
            exact ⟨o, z', by rw [c3]; exact eo⟩
          · exact ⟨oT, z', hk _ _ c1 c2 c3 hT⟩
  · have hend : i = xs.size ∨ i = ys.size := by omega
    rcases hz with hz | ⟨T, f, oT, hz, hT⟩
    · exact wpAny_pyNext_zipD2_end (sep_of D) D1 D2 hz hTI hTO ⟨h1, p1⟩ ⟨h2, p2⟩ l1 l2 hend fun h' tk hk => he hend h' tk hk
    · exact end_held (sep_of D) D1 D2 hz hT hTI ⟨h1, p1⟩ ⟨h2, p2⟩ l1 l2 hend fun h' tk hk => he hend h' tk fun c o c1 _ c3 c4 e => hk c o c1 c3 c4 e
theorem ext_loop (hh : A.handled = none) (D : ZipApart z TI TO i1 i2 a b) (hn : min xs.size ys.size ≤ sizeLine) (hS : ∀ c ∈ [z, TI, TO, i1, i2, a, b], S ≠ c) (hS0 : S < b0) (h0 : ∀ c ∈ [z, TI, TO, i1, i2, a, b], c < b0) :
    ∀ (k i : Nat) (s : Shared) (Ts : List Addr) (c : Nat), min xs.size ys.size - i = k → i ≤ xs.size → i ≤ ys.size → b0 ≤ s.heap.objs.size → Zst s.heap z TI TO → IsTupOf2 s.heap TI (.ref i1) (.ref i2) → (∃ x y, IsTupOf2 s.heap TO x y) →
      ItrA s.heap ka i1 a i → IsA s.heap ka a xs → ItrA s.heap kb i2 b i → IsA s.heap kb b ys → s.heap.get? S = some (lobj (Ts.map Value.ref).toArray c) → Ts.length = i → Mk s.heap b0 xs ys Ts →
      (∀ h' tk Ts' c', (∀ d o, d ∉ [z, TO, i1, i2, S] → s.heap.get? d = some o → h'.get? d = some o) → h'.get? S = some (lobj (Ts'.map Value.ref).toArray c') → Ts'.length = min xs.size ys.size → Mk h' b0 xs ys Ts' → R (.ok (.ret res)) { s with heap := h', toks := tk }) →
      codeAny (model prog w) A (.builtin "list.extend.loop" ⟨[.ref S, .ref z, res], []⟩) R s := by
  have Sz := hS z (by simp)
  have STI := hS TI (by simp)
  have STO := hS TO (by simp)
  have Si1 := hS i1 (by simp)
  have Si2 := hS i2 (by simp)
  have Sa := hS a (by simp)
  have Sb := hS b (by simp)
  have gz := h0 z (by simp)
  have gTO := h0 TO (by simp)
  have gi1 := h0 i1 (by simp)
  have gi2 := h0 i2 (by simp)
  intro k
  induction k with
  | zero =>
    intro i s Ts c hk l1 l2 hb0 hz hTI hTO h1 p1 h2 p2 hL hTs mk hR
    refine codeAny_builtin F.entry_extend_loop ?_
    rw [Around.under_plainId F.plain_extend_loop _]
    show wpAny _ A.in1 (pyNext (.ref z) >>= _) _ _ s
    refine wpAny_bind (next_any (A := A.in1) hh D hz hTI hTO h1 p1 h2 p2 l1 l2 (fun q1 q2 => by omega) fun _ h' tk hk => ?_)
    refine wpAny_pure (hR h' tk Ts c (fun d o hd e => ?_) (hk S _ Sz STO Si1 Si2 hL) (by omega) ?_)
    · simp only [List.mem_cons, List.not_mem_nil, or_false, not_or] at hd
      exact hk d o hd.1 hd.2.1 hd.2.2.1 hd.2.2.2.1 e
    · refine ⟨fun T hT => ⟨(mk.up T hT).1, ?_⟩, mk.nd, fun j T e => ?_⟩
      · obtain ⟨j, hj⟩ := List.mem_iff_getElem?.mp hT
        obtain ⟨x, y, _, _, e3⟩ := mk.at_ j T hj
        have g := (mk.up T hT).1
        exact Heap.lt_size (hk T _ (ne_lt gz g) (ne_lt gTO g) (ne_lt gi1 g) (ne_lt gi2 g) e3)
      · obtain ⟨x, y, e1, e2, e3⟩ := mk.at_ j T e
        have g := (mk.up T (List.mem_of_getElem? e)).1
        exact ⟨x, y, e1, e2, hk T _ (ne_lt gz g) (ne_lt gTO g) (ne_lt gi1 g) (ne_lt gi2 g) e3⟩
  | succ k ih =>
    intro i s Ts c hk l1 l2 hb0 hz hTI hTO h1 p1 h2 p2 hL hTs mk hR
    refine codeAny_builtin F.entry_extend_loop ?_
    rw [Around.under_plainId F.plain_extend_loop _]
    show wpAny _ A.in1 (pyNext (.ref z) >>= _) _ _ s
    refine wpAny_bind (next_any (A := A.in1) hh D hz hTI hTO h1 p1 h2 p2 l1 l2 (fun q1 q2 x y h' tk ex ey hz' hTO' h1' h2' hT' hsz hk' => ?_) fun q => by omega)
    have hL' : h'.get? S = some (lobj (Ts.map Value.ref).toArray c) := hk' S _ Sz STO Si1 Si2 hL
    show wpAny _ A.in1 (updateSeq S (·.push (.ref s.heap.objs.size)) >>= _) _ _ _
    refine wpAny_bind ?_
    have hup : ∀ d o, d ≠ S → h'.get? d = some o → (h'.update S (Obj.mapSeq (·.push (Value.ref s.heap.objs.size)))).get? d = some o := fun d o hd e => (Heap.get?_update_other _ _ (Ne.symm hd)).trans e
    have hL2 : (h'.update S (Obj.mapSeq (·.push (Value.ref s.heap.objs.size)))).get? S = some (Obj.mapSeq (·.push (Value.ref s.heap.objs.size)) (lobj (Ts.map Value.ref).toArray c)) := Heap.get?_update_self _ hL' rfl
    have hTS : s.heap.objs.size ≠ S := ne_lt hS0 hb0
    obtain ⟨c2, hc2⟩ : ∃ c2, Obj.mapSeq (·.push (Value.ref s.heap.objs.size)) (lobj (Ts.map Value.ref).toArray c) = lobj ((Ts.map Value.ref).toArray.push (Value.ref s.heap.objs.size)) c2 := ⟨_, rfl⟩
    have ak : a ≠ z ∧ a ≠ TO ∧ a ≠ i1 ∧ a ≠ i2 := ⟨D.l1z, D.l1TO, D.l1i1, D.l1i2⟩
    have bk : b ≠ z ∧ b ≠ TO ∧ b ≠ i1 ∧ b ≠ i2 := ⟨D.l2z, D.l2TO, D.l2i1, D.l2i2⟩
    refine wpAny_updateSeq hL' rfl (wpAny_pure ⟨plainId_quiet F.plain_extend_loop _, ih (i + 1) { s with heap := h'.update S (Obj.mapSeq (·.push (Value.ref s.heap.objs.size))), toks := tk } (Ts ++ [s.heap.objs.size]) c2 (by omega) (by omega) (by omega) ?_ ?_ ?_ ?_ ?_ ?_ ?_ ?_ ?_ ?_ ?_ ?_⟩) ?_ ?_
    · show b0 ≤ (h'.update S _).objs.size
      rw [Heap.size_update]; omega
    · obtain ⟨f, hz'⟩ := hz'
      rcases hz' with hz' | ⟨T, oT, hz', hT⟩
      · exact .inr ⟨_, f, _, hup _ _ Sz.symm hz', hup _ _ hTS hT'⟩
      · by_cases c1 : T = S
        · exact .inr ⟨T, f, _, hup _ _ Sz.symm hz', by rw [c1]; exact hL2⟩
        · exact .inr ⟨T, f, oT, hup _ _ Sz.symm hz', hup _ _ c1 hT⟩
    · exact hup _ _ STI.symm (hk' _ _ D.TIz D.TITO D.TIi1 D.TIi2 hTI)
    · obtain ⟨x', y', q⟩ := hTO'
      exact ⟨x', y', hup _ _ STO.symm q⟩
    · exact h1'.at fun o e => hup _ _ Si1.symm e
    · exact p1.keeps fun o e => hup _ _ Sa.symm (hk' _ _ ak.1 ak.2.1 ak.2.2.1 ak.2.2.2 e)
    · exact h2'.at fun o e => hup _ _ Si2.symm e
    · exact p2.keeps fun o e => hup _ _ Sb.symm (hk' _ _ bk.1 bk.2.1 bk.2.2.1 bk.2.2.2 e)
    · show (h'.update S _).get? S = _
      rw [hL2, hc2]
      simp
    · rw [List.length_append, List.length_singleton, hTs]
    · have mk' : Mk (h'.update S (Obj.mapSeq (·.push (Value.ref s.heap.objs.size)))) b0 xs ys Ts := by
        refine mk.keeps (by rw [Heap.size_update]; omega) fun d o hd e => ?_
        exact hup _ _ (ne_lt hS0 hd) (hk' d o (ne_lt gz hd) (ne_lt gTO hd) (ne_lt gi1 hd) (ne_lt gi2 hd) e)
      have hlt : s.heap.objs.size < (h'.update S (Obj.mapSeq (·.push (Value.ref s.heap.objs.size)))).objs.size := by rw [Heap.size_update, hsz]; exact Nat.lt_succ_self _
      refine mk'.snoc (T := s.heap.objs.size) hb0 hlt (fun hm => Nat.lt_irrefl _ (mk.up _ hm).2) ?_ ?_ (hup _ _ hTS hT')
      · rw [hTs]; exact ex
      · rw [hTs]; exact ey
    · intro h'' tk'' Ts' c' hk'' hS'' hlen mk''
      refine hR h'' tk'' Ts' c' (fun d o hd e => hk'' d o hd ?_) hS'' hlen mk''
      simp only [List.mem_cons, List.not_mem_nil, or_false, not_or] at hd
      exact hup _ _ hd.2.2.2.2 (hk' d o hd.1 hd.2.1 hd.2.2.1 hd.2.2.2.1 e)
    · show ((Ts.map Value.ref).toArray).size ≤ sizeLine
      simp; omega
    · show ((Ts.map Value.ref).toArray.push _).size ≤ sizeLine + 1
      simp; omega
end
section
variable {prog : Program} {w : World} {A : Around} {E : Value → Shared → Prop} {z TI TO i1 i2 a b : Addr} {xs ys : Array Value} {ka kb : Bool}
theorem list_zip {s : Shared} {Q : Value → Shared → Prop} (hh : A.handled = none) (D : ZipApart z TI TO i1 i2 a b) (hn : min xs.size ys.size ≤ sizeLine) (h0 : ∀ c ∈ [z, TI, TO, i1, i2, a, b], c < s.heap.objs.size) (hz : IsZip s.heap z TI TO .none) (hTI : IsTupOf2 s.heap TI (.ref i1) (.ref i2)) (hTO : ∃ x y, IsTupOf2 s.heap TO x y)
    (h1 : ItrA s.heap ka i1 a 0) (p1 : IsA s.heap ka a xs) (h2 : ItrA s.heap kb i2 b 0) (p2 : IsA s.heap kb b ys)
    (hQ : ∀ h' tk Ts c', (∀ d o, d ∉ [z, TO, i1, i2] → s.heap.get? d = some o → h'.get? d = some o) → h'.get? s.heap.objs.size = some (lobj (Ts.map Value.ref).toArray c') → Ts.length = min xs.size ys.size → Mk h' (s.heap.objs.size + 1) xs ys Ts → Q (.ref s.heap.objs.size) { s with heap := h', toks := tk }) :
    wpAny (model prog w) A (call (.type "list") [.ref z]) Q E s := by
  have hSc : ∀ c ∈ [z, TI, TO, i1, i2, a, b], s.heap.objs.size ≠ c := fun c hc => Nat.ne_of_gt (h0 c hc)
  have hSz : s.heap.objs.size ≠ z := hSc z (by simp)
  refine callType_codes (Q₁ := fun obj s₁ => obj = .ref s.heap.objs.size ∧ s₁ = { s with heap := s.heap.push { cls := .type "list", data := .seq #[] } }) F.called_list (F.typeCall_list_1 _) F.entry_list_init
    (code_list_new _ ⟨rfl, rfl⟩) fun obj s₁ h₁ => ?_
  obtain ⟨rfl, rfl⟩ := h₁
  have hS : (s.heap.push { cls := .type "list", data := .seq #[] }).get? s.heap.objs.size = some { cls := .type "list", data := .seq #[] } := Heap.get?_push_size _ rfl
  refine ⟨⟨_, hS, rfl⟩, F.args_list_init_2 _ _, ?_⟩
  show wpAny _ A.in1.in1 (do let old ← Builtin.List.listItems (.ref s.heap.objs.size); Builtin.List.listUpdate (.ref s.heap.objs.size) (fun _ => #[]); letGo old.toList.reverse; Builtin.List.listExtendWith (.ref s.heap.objs.size) (.ref z) .none) _ _ _
  refine wpAny_bind ?_
  unfold Builtin.List.listItems
  refine wpAny_bind (wpAny_seqItems hS rfl (wpAny_pure ?_))
  show wpAny _ A.in1.in1 (updateSeq s.heap.objs.size (fun _ => #[]) >>= fun _ => letGo (#[] : Array Value).toList.reverse >>= fun _ => Builtin.List.listExtendWith (.ref s.heap.objs.size) (.ref z) .none) _ _ _
  refine wpAny_bind (wpAny_updateSeq hS rfl ?_)
  have hS2 := Heap.get?_update_self (Obj.mapSeq (fun _ => (#[] : Array Value))) hS rfl
  refine wpAny_bind (wpAny_letGo ?_)
  unfold Builtin.List.listExtendWith
  have up : ∀ (h : Heap) (f : Obj → Obj), (∀ b o, s.heap.get? b = some o → h.get? b = some o) → ∀ b o, s.heap.get? b = some o → (h.update s.heap.objs.size f).get? b = some o := fun h f q b o e =>
    (Heap.get?_update_other _ _ (Ne.symm (Nat.ne_of_lt (Heap.lt_size e)))).trans (q b o e)
  have k1 : ∀ b o, s.heap.get? b = some o → (s.heap.push { cls := .type "list", data := .seq #[] }).get? b = some o := fun b o e => Heap.get?_push_of_some _ e
  have k2 := up _ (Obj.mapSeq (fun _ => (#[] : Array Value))) k1
  refine wpAny_bind (wpAny_typeOf (T := "zip") ⟨_, k2 _ _ hz, rfl⟩ ?_)
  have e1 : Builtin.List.listSameRef (.ref s.heap.objs.size) (.ref z) = false := by simp [Builtin.List.listSameRef, hSz]
  have e2 : (Value.type "zip" == Value.type "list") = false := by decide
  have e3 : (Value.type "zip" == Value.type "tuple") = false := by decide
  simp only [e1, e2, e3, Bool.or_false, Bool.false_eq_true, if_false]
  refine wpAny_bind (wpAny_pyIter_zip (s := { s with heap := _ }) (k2 _ _ hz) ?_)
  refine wpAny_bind (wpAny_holding ?_)
  unfold Builtin.List.listLengthHint
  refine wpAny_bind (wpAny_specialOf (s := { s with heap := _ }) (T := "zip") ⟨_, k2 _ _ hz, rfl⟩ zip_no_len ?_)
  show wpAny _ A.in1.in1 (specialOf (Value.ref z) (Str.ofString "__length_hint__") >>= _) _ _ _
  refine wpAny_bind (wpAny_specialOf (s := { s with heap := _ }) (T := "zip") ⟨_, k2 _ _ hz, rfl⟩ zip_no_hint ?_)
  refine wpAny_pure ?_
  show wpAny _ A.in1.in1 (rule "list.extend.makes-room" >>= fun _ => Builtin.List.listTouch (.ref s.heap.objs.size) >>= fun _ =>
    again (.builtin "list.extend.loop" ⟨[.ref s.heap.objs.size, .ref z, .none], []⟩)) _ _ _
  refine wpAny_bind (wpAny_rule ?_)
  refine wpAny_bind ?_
  show wpAny _ A.in1.in1 (updateSeq s.heap.objs.size (·.push .none) >>= fun _ => updateSeq s.heap.objs.size (·.pop)) _ _ _
  refine wpAny_bind (wpAny_updateSeq hS2 rfl ?_)
  have hS3 := Heap.get?_update_self (Obj.mapSeq (·.push Value.none)) hS2 rfl
  refine wpAny_updateSeq (hz := by seq_fits) hS3 rfl ?_
  have hS4 := Heap.get?_update_self (Obj.mapSeq (·.pop)) hS3 rfl
  have k4 := up _ (Obj.mapSeq (·.pop)) (up _ (Obj.mapSeq (·.push Value.none)) k2)
  refine wpAny_pure ⟨plainId_quiet F.plain_extend_loop _, ?_⟩
  have hsz : ((((s.heap.push { cls := .type "list", data := .seq #[] }).update s.heap.objs.size (Obj.mapSeq (fun _ => (#[] : Array Value)))).update s.heap.objs.size (Obj.mapSeq (·.push Value.none))).update s.heap.objs.size (Obj.mapSeq (·.pop))).objs.size = s.heap.objs.size + 1 := by
    rw [Heap.size_update, Heap.size_update, Heap.size_update, Heap.size_push]
  obtain ⟨c4, hc4⟩ : ∃ c4, ((((s.heap.push { cls := .type "list", data := .seq #[] }).update s.heap.objs.size (Obj.mapSeq (fun _ => (#[] : Array Value)))).update s.heap.objs.size (Obj.mapSeq (·.push Value.none))).update s.heap.objs.size (Obj.mapSeq (·.pop))).get? s.heap.objs.size = some (lobj (([] : List Addr).map Value.ref).toArray c4) := ⟨_, hS4⟩
  generalize ((((s.heap.push { cls := .type "list", data := .seq #[] }).update s.heap.objs.size (Obj.mapSeq (fun _ => (#[] : Array Value)))).update s.heap.objs.size (Obj.mapSeq (·.push Value.none))).update s.heap.objs.size (Obj.mapSeq (·.pop))) = h4 at hsz hc4 k4 ⊢
  refine ext_loop (A := A.in1) (b0 := s.heap.objs.size + 1) (ka := ka) (kb := kb) hh D hn hSc (Nat.lt_succ_self _) (fun c hc => Nat.lt_succ_of_lt (h0 c hc)) _ 0 { s with heap := h4 } [] c4 rfl (Nat.zero_le _) (Nat.zero_le _) (Nat.le_of_eq hsz.symm) (.inl (k4 _ _ hz)) (k4 _ _ hTI) ?_ ?_ ?_ ?_ ?_ hc4 rfl ⟨fun T hT => (nomatch hT), List.nodup_nil, fun j T e => (by simp at e)⟩ ?_
  · obtain ⟨x, y, q⟩ := hTO
    exact ⟨x, y, k4 _ _ q⟩
  · exact h1.at fun o e => k4 _ _ e
  · exact p1.keeps fun o e => k4 _ _ e
  · exact h2.at fun o e => k4 _ _ e
  · exact p2.keeps fun o e => k4 _ _ e
  · intro h' tk Ts' c' hk hS' hlen mk
    refine ⟨rfl, hQ h' tk Ts' c' (fun d o hd e => hk d o ?_ (k4 _ _ e)) hS' hlen mk⟩
    have hlt := Heap.lt_size e
    simp only [List.mem_cons, List.not_mem_nil, or_false, not_or] at hd ⊢
    exact ⟨hd.1, hd.2.1, hd.2.2.1, hd.2.2.2, Nat.ne_of_lt hlt⟩
end
/-- pairs of what stands at the same place -/
def pairUp : List V → List V → List (V × V)
  | x :: xs, y :: ys => (x, y) :: pairUp xs ys
  | _, _ => []
theorem Vals.getV : ∀ {xs : List V} {us : List Value} {i : Nat} {u : Value}, L2.Vals xs us → us[i]? = some u → ∃ x, xs[i]? = some x ∧ RelV x u
  | _, _, _, _, .nil, h => by simp at h
  | _, _, 0, _, .cons r _, h => by simp at h; subst h; exact ⟨_, rfl, r⟩
  | _, _, i + 1, _, .cons _ t, h => by
    obtain ⟨x, h1, h2⟩ := Vals.getV (i := i) t (by simpa using h)
    exact ⟨x, by simpa using h1, h2⟩
theorem pairUp_length : ∀ {xs ys : List V}, (pairUp xs ys).length = min xs.length ys.length
  | [], _ => by simp [pairUp]
  | _ :: _, [] => by simp [pairUp]
  | x :: xs, y :: ys => by
    unfold pairUp
    rw [List.length_cons, List.length_cons, List.length_cons, pairUp_length (xs := xs) (ys := ys)]
    omega
theorem pairUp_get : ∀ {xs ys : List V} {j : Nat} {x y : V}, xs[j]? = some x → ys[j]? = some y → (pairUp xs ys)[j]? = some (x, y)
  | [], _, _, _, _, h, _ => by simp at h
  | _ :: _, [], _, _, _, _, h => by simp at h
  | x :: xs, y :: ys, 0, _, _, h, h' => by simp at h h'; subst h h'; rfl
  | x :: xs, y :: ys, j + 1, _, _, h, h' => by
    simpa [pairUp] using pairUp_get (xs := xs) (ys := ys) (j := j) (by simpa using h) (by simpa using h')
/-- list(zip(a, b)): a new list of new pairs -/
def tLstZip (K : PySem.W.Frag) (ta : TA) : TE := fun σ H Q => ta σ H fun vs H1 => ∃ ka kb a b xs ys, vs = [V.ref a, V.ref b] ∧ SqA K H1 ka a xs ∧ SqA K H1 kb b ys ∧
  ∀ q (Ts : List Addr) H', Same H1 H' → H1 q = none → H' q = some (.lst (Ts.map V.ref)) → Ts.length = (pairUp xs ys).length → (∀ (j : Nat) (T : Addr) x y, Ts[j]? = some T → (pairUp xs ys)[j]? = some (x, y) → H' T = some (.tup [x, y])) → Q (.ref q) H'
theorem pe_listZip {X : Cx} {e e2 : Expr} {ta : TA} {p p2 pos pos2 : Pos} (hc : X.calm = true) (hl : Gl X "list") (hlm : X.mg "list" = none) (hg : Gl X "zip") (hm : X.mg "zip" = none) (ha : PA X [e, e2] ta)
    (hs : starEach [e, e2] X.env = (false, eval e X.env) :: starEach [e2] X.env := by rfl) (hpl : (backTo pos2 (starEach [e2] X.env)).any (·.1) = false := by rfl)
    (hs1 : starEach [Expr.Call (.Name "zip" p2) [e, e2] [] pos2] X.env = (false, eval (.Call (.Name "zip" p2) [e, e2] [] pos2) X.env) :: starEach [] X.env := by rfl) :
    PE X (.Call (.Name "list" p) [.Call (.Name "zip" p2) [e, e2] [] pos2] [] pos) (tLstZip X.K ta) := by
  refine ⟨fun pins s σ H Q I h => ?_⟩
  refine Call_ (ld_blt I hl hlm boot_list (PyProof.Rows.callWith_type1 (args_cons (Call_ (ld_blt I hg hm PyProof.Rows.boot_zip (PyProof.Rows.callWith_type1 (thn (ha.run pos2 pins s σ H _ I h) fun us s1 ⟨vs, H1, I1, r1, q1⟩ => ?_) hs hpl))) hs1) hs1))
  obtain ⟨ka, kb, a, b, xs, ys, ex, hqx, hqy, q⟩ := q1
  subst ex
  cases r1 with
  | cons r rr =>
    cases rr with
    | cons r' rr =>
      cases rr
      cases r
      cases r'
      obtain ⟨its, rv, p1, hz1⟩ := seqA I1 hqx
      obtain ⟨its2, rv2, p2, hz2⟩ := seqA I1 hqy
      have l1 := rv.length
      have l2 := rv2.length
      refine begins ka kb p1 p2 fun h' hz hTI hTO h1 h2 hsz hk => args_nil ?_
      have ap := PySem.W.ktu_apart s1.heap.objs.size a b p1.lt p2.lt
      have la := p1.lt
      have lb := p2.lt
      refine list_zip (s := { s1 with heap := h' }) (xs := its.toArray) (ys := its2.toArray) (ka := ka) (kb := kb) (I1.ok.hd hc) ap ?_ ?_ hz hTI ⟨_, _, hTO⟩ h1 (p1.keeps fun o e => hk _ _ e) h2 (p2.keeps fun o e => hk _ _ e) fun h2 tk Ts c' hk2 hL hlen mk => ?_
      · simp; omega
      · intro c hc
        have e' : c = s1.heap.objs.size + 4 ∨ c = s1.heap.objs.size + 2 ∨ c = s1.heap.objs.size + 3 ∨ c = s1.heap.objs.size ∨ c = s1.heap.objs.size + 1 ∨ c = a ∨ c = b := by simpa using hc
        show c < h'.objs.size
        rw [hsz]
        rcases e' with z | z | z | z | z | z | z <;> rw [z]
        · exact Nat.lt_succ_self _
        · exact Nat.add_lt_add_left (by decide) _
        · exact Nat.add_lt_add_left (by decide) _
        · exact Nat.lt_add_of_pos_right (by decide)
        · exact Nat.add_lt_add_left (by decide) _
        · exact Nat.lt_add_right _ la
        · exact Nat.lt_add_right _ lb
      · have kp : ∀ d o, s1.heap.get? d = some o → h2.get? d = some o := fun d o e => by
          have hlt := Heap.lt_size e
          refine hk2 d o ?_ (hk d o e)
          simp only [List.mem_cons, List.not_mem_nil, or_false, not_or]
          exact ⟨Nat.ne_of_lt (Nat.lt_add_right _ hlt), Nat.ne_of_lt (Nat.lt_add_right _ hlt), Nat.ne_of_lt hlt, Nat.ne_of_lt (Nat.lt_add_right _ hlt)⟩
        have hle : s1.heap.objs.size ≤ h'.objs.size := by rw [hsz]; exact Nat.le_add_right _ _
        have hpl' : (pairUp xs ys).length = min its.toArray.size its2.toArray.size := by rw [pairUp_length, l1, l2]; simp
        have lT : Ts.length ≤ sizeLine := by rw [hlen]; simp; omega
        have hSn : H1 h'.objs.size = none := I1.hok.fresh hle
        have hL' : h2.get? h'.objs.size = some (lobj (Ts.map Value.ref).toArray c') := hL
        have I3 : Inv X pins σ (upd H1 h'.objs.size (.lst (Ts.map V.ref))) { s1 with heap := h2, toks := tk } :=
          I1.laid kp hle (show ObjOk X.prog X.w _ h2 _ (.lst (Ts.map V.ref)) from ⟨by rw [List.length_map]; exact lT, Ts.map Value.ref, c', vals_refs Ts, hL'⟩)
        obtain ⟨H2, I4, sm, tp⟩ := L2.DX.takeT (P := fun T vs => ∃ j x y, Ts[j]? = some T ∧ (pairUp xs ys)[j]? = some (x, y) ∧ vs = [x, y]) I1 Ts _ I3 mk.nd fun T hT => by
          obtain ⟨j, hj⟩ := List.mem_iff_getElem?.mp hT
          obtain ⟨u, v, e1, e2, e3⟩ := mk.at_ j T hj
          have g := (mk.up T hT).1
          have g' : s1.heap.objs.size ≤ T := Nat.le_trans hle (Nat.le_of_succ_le g)
          obtain ⟨x, hx, rx⟩ := Vals.getV rv (by simpa using e1)
          obtain ⟨y, hy, ry⟩ := Vals.getV rv2 (by simpa using e2)
          refine ⟨g', ?_, [x, y], ⟨j, x, y, hj, pairUp_get hx hy, rfl⟩, fun H2 => ⟨by show 2 ≤ sizeLine; decide, [u, v], .cons rx (.cons ry .nil), ⟨_, e3, rfl, _, rfl⟩⟩⟩
          rw [upd_ne (ne_lt (Nat.lt_succ_self _) g)]
          exact I1.hok.fresh g'
        refine ⟨.ref h'.objs.size, H2, I4, rfl, q _ Ts H2 (fun d o e => sm d o (by rw [upd_ne (ne_of_none e hSn)]; exact e)) hSn (sm _ _ upd_same) (by rw [hlen, hpl']) fun j T x y hj hp => ?_⟩
        obtain ⟨vs, ⟨j', x', y', e1, e2, rfl⟩, e3⟩ := tp T (List.mem_of_getElem? hj)
        have ej : j = j' := by
          obtain ⟨q1, w1⟩ := List.getElem?_eq_some_iff.mp hj
          obtain ⟨q2, w2⟩ := List.getElem?_eq_some_iff.mp e1
          exact (List.getElem_inj mk.nd).mp (w1.trans w2.symm)
        subst ej
        rw [hp] at e2
        cases e2
        exact e3
end EVZ

set_option Elab.async false
set_option linter.all false
set_option maxRecDepth 100000
/-! sorted(set(xs)), xs a list of tuples of ints of any lengths -/
namespace EVZ
open PySem PySem.W PyProof.Rows L2
abbrev sh0 : Nat → Bool := fun _ => false
theorem items0 : ∀ {us : List Value} {k : List Int} (i : Nat), IntsAre us k → tupItems sh0 i us = some (k.map Sum.inl)
  | _, _, _, .nil => rfl
  | _, _, i, .cons n t h => by
    show (if sh0 i = true then none else (tupItems sh0 (i + 1) _).map (Sum.inl n :: ·)) = _
    rw [if_neg Bool.false_ne_true, items0 (i + 1) h]
    rfl
def kv (h : Heap) (v : Value) : List (Int ⊕ List Nat) := (tupKey h sh0 v).getD []
def ltv (h : Heap) (u v : Value) : Bool := lexLt itemOrd (kv h u) (kv h v)
theorem lex_asym (O : KeyOrd) (a b : List O.α) (h : lexLt O a b = true) : lexLt O b a = false := by
  cases h' : lexLt O b a with
  | false => rfl
  | true =>
    have := lex_trans a b a h h'
    rw [lex_irrefl] at this
    cases this
theorem ltv_swo (h : Heap) : SrtO.Swo (ltv h) := by
  refine ⟨fun x y e => lex_asym itemOrd _ _ e, fun x y z h1 h2 => ?_⟩
  cases h3 : ltv h z x with
  | false => rfl
  | true =>
    rcases lex_negTrans (O := itemOrd) (kv h z) (kv h y) (kv h x) h3 with q | q
    · rw [show ltv h z y = true from q] at h2; cases h2
    · rw [show ltv h y x = true from q] at h1; cases h1
section
variable {P : Program} {w : World} {A : Around} {E : Value → Shared → Prop} {s : Shared}
theorem isT_items {h : Heap} {k : List Int} {a : Addr} (x : IsT P w h k a) : ∃ (o : Obj) (vs : Array Value) (n : Nat), h.get? a = some o ∧ o.cls = .type "tuple" ∧ o.data = .seq vs n ∧ IntsAre vs.toList k := by
  obtain ⟨o, vs, n, h1, h2, h3, h4⟩ := x
  exact ⟨o, vs, n, h1, h2, h3, ints_of_items h4⟩
theorem isT_key {h : Heap} {k : List Int} {a : Addr} (x : IsT P w h k a) : tupKey h sh0 (.ref a) = some (k.map Sum.inl) := by
  obtain ⟨o, vs, n, h1, h2, h3, h4⟩ := isT_items x
  simp only [tupKey, h1, h3]
  exact items0 0 h4
theorem isT_kv {h : Heap} {k : List Int} {a : Addr} (x : IsT P w h k a) : kv h (.ref a) = k.map Sum.inl := by
  unfold kv
  rw [isT_key x]
  rfl
theorem firsts {h : Heap} : ∀ vs : List Value, (∀ v ∈ vs, ∃ b k, v = Value.ref b ∧ IsT P w h k b ∧ k ≠ []) → ∃ fs, TupsOf h sh0 vs fs ∧ fs.length = vs.length
  | [], _ => ⟨[], .nil, rfl⟩
  | v :: vs, x => by
    obtain ⟨fs, h1, h2⟩ := firsts vs fun u hu => x u (List.mem_cons_of_mem _ hu)
    obtain ⟨b, k, rfl, hk, ne⟩ := x v (List.mem_cons_self ..)
    obtain ⟨o, us, n, e1, e2, e3, e4⟩ := isT_items hk
    cases k with
    | nil => exact absurd rfl ne
    | cons i k =>
      generalize hl : us.toList = l at e4
      cases e4 with
      | cons n' t e4 =>
        refine ⟨.int i t :: fs, .cons ⟨b, o, us, n, rfl, e1, e2, e3, ?_, fun _ => ⟨i, t, rfl⟩, fun z => by cases z⟩ h1, by simp [h2]⟩
        rw [← Array.getElem?_toList, hl] <;> rfl
theorem tups_sortableO {a : Addr} {vs : List Value} (h0 : 0 < vs.length) (x : ∀ v ∈ vs, ∃ b k, v = Value.ref b ∧ IsT P w s.heap k b ∧ k ≠ []) (ha : ∀ o, s.heap.get? a = some o → o.cls ≠ .type "tuple") : SrtO.SortableO P w A s a vs (ltv s.heap) := by
  intro h' keep
  have kt : ∀ {k : List Int} {b : Addr}, IsT P w s.heap k b → IsT P w h' k b := fun {k b} y => by
    obtain ⟨o, us, n, e1, e2, e3, e4⟩ := y
    exact ⟨o, us, n, keep b o (fun z => by subst z; exact ha o e1 e2) e1, e2, e3, e4⟩
  obtain ⟨fs, h1, h2⟩ := firsts (h := h') vs fun v hv => let ⟨b, k, e, q, ne⟩ := x v hv; ⟨b, k, e, kt q, ne⟩
  refine ⟨tuples' true, fun Q E hq => tup_kind (by omega) h1 hq, fun p q hp hq => ?_⟩
  obtain ⟨b, k, e, y, _⟩ := x _ hp
  obtain ⟨b', k', e', y', _⟩ := x _ hq
  show wpAny (model P w) A (keyLt' (tuples' true) p.1 q.1) (fun r s' => s' = { s with heap := h' } ∧ r = ltv s.heap p.1 q.1) (fun _ _ => False) { s with heap := h' }
  rw [e, e']
  refine tup_ltAt (s := { s with heap := h' }) (shape := sh0) true A _ _ _ (k.map Sum.inl) (k'.map Sum.inl) (isT_key (kt y)) (isT_key (kt y')) ⟨rfl, ?_⟩
  show lexLt itemOrd _ _ = lexLt itemOrd _ _
  rw [isT_kv y, isT_kv y']
/-- sorted(set) -/
theorem sorted_setO {a : Addr} {L : List (Addr × List Int)} {es : Array (Int × Value)} {ep : Nat} {t : SetTable} {Q : Value → Shared → Prop} (R : SetTR P w s.heap a L es ep t) (hh : A.handled = none) (hne : L.length < 2 ∨ ∀ p ∈ L, p.2 ≠ [])
    (hQ : ∀ s' p (out : List Value) (c : Nat) (L' : List (Addr × List Int)), (∀ b o, s.heap.get? b = some o → s'.heap.get? b = some o) → s'.gens = s.gens → s'.os = s.os → s.heap.objs.size ≤ p →
      s'.heap.get? p = some (seqObj "list" out.toArray c) → out = L'.map (fun q => Value.ref q.1) → L'.Perm L → L'.Pairwise (fun q r => lexLt itemOrd (r.2.map Sum.inl) (q.2.map Sum.inl) = false) → Q (.ref p) s') :
    wpAny (model P w) A (call (.builtin "sorted") [.ref a]) Q E s := by
  obtain ⟨o, ho, hex, hd⟩ := R.ob
  have hfew := R.few
  have hsz := R.size
  refine Calls.call_function_entry kind_sorted plain_sorted entry_sorted (args_sorted1 _) ?_
  unfold Builtin.«sorted»
  refine wpAny_bind (m := checkCount "sorted" 1 1 _) (wpAny_pure ?_)
  refine wpAny_bind (collect_set (A := A.in1) hh ⟨o, ho, hex.1, hd⟩ R.fits (by unfold scanBound; omega) R.tab.ris R.led fun s1 vs k1 hz g1 o1 pm => ?_)
  have hes : es.toList.map (·.2) = L.map fun q => Value.ref q.1 := by
    rw [R.rows]
    unfold L2.rowsOf
    rw [List.map_map] <;> rfl
  rw [hes] at pm
  have hvl : vs.length < 64 := by rw [pm.length_eq, List.length_map]; exact hfew
  refine wpAny_bind (wpAny_newList ?_ (by rw [sizeLine_eq]; omega))
  have hoL : (s1.heap.push (seqObj "list" vs.toArray 0)).get? s1.heap.objs.size = some (seqObj "list" vs.toArray 0) := Heap.get?_push_size _ rfl
  have tk : ∀ q ∈ L, IsT P w (s1.heap.push (seqObj "list" vs.toArray 0)) q.2 q.1 := fun q hq => isT_keep (R.tup q hq) fun b u e => Heap.get?_push_of_some _ (k1 b u e)
  have of_vs : ∀ v ∈ vs, ∃ q ∈ L, v = Value.ref q.1 := fun v hv => by
    obtain ⟨q, hq, e⟩ := List.mem_map.mp (pm.mem_iff.mp hv)
    exact ⟨q, hq, e.symm⟩
  refine wpAny_bind (wpAny_holding (wpAny_call_entry slot_list_sort ⟨_, hoL, rfl⟩ entry_list_sort (SrtO.list_sort_ord (s := { s1 with heap := s1.heap.push (seqObj "list" vs.toArray 0) }) (ltv_swo (s1.heap.push (seqObj "list" vs.toArray 0))) hoL (by rw [sizeLine_eq]; omega) (fun h2 => tups_sortableO (by omega) (fun v hv => ?_) fun o' e' => ?_) fun out hs hb => ⟨_, rfl, ?_⟩) (args_list_sort _)))
  · obtain ⟨q, hq, e⟩ := of_vs v hv
    refine ⟨q.1, q.2, e, tk q hq, ?_⟩
    rcases hne with hne | hne
    · rw [pm.length_eq, List.length_map] at h2; omega
    · exact hne q hq
  · have e'' : some o' = some (seqObj "list" vs.toArray 0) := e'.symm.trans hoL
    cases e''
    intro c
    exact absurd (Value.type.inj c) (by decide)
  · obtain ⟨c, hc⟩ := sortedHeap_at (vs := vs) (out := out.toArray) hoL
    have ord : ∀ us : List Value, (∀ v ∈ us, ∃ q ∈ L, v = Value.ref q.1) → ∃ L1 : List (Addr × List Int), us = L1.map (fun q => Value.ref q.1) ∧ ∀ q ∈ L1, q ∈ L := by
      intro us
      induction us with
      | nil => intro _; exact ⟨[], rfl, fun q hq => (by cases hq)⟩
      | cons v us ih =>
        intro hv
        obtain ⟨q, hq, e⟩ := hv v List.mem_cons_self
        obtain ⟨L1, e1, hs⟩ := ih fun u hu => hv u (List.mem_cons_of_mem _ hu)
        refine ⟨q :: L1, by rw [List.map_cons, e, e1], fun r hr => ?_⟩
        rcases List.mem_cons.mp hr with z | z
        · rw [z]; exact hq
        · exact hs r z
    have one : ∀ q ∈ L, ∀ r ∈ L, q.1 = r.1 → q = r := fun q hq r hr e => by
      have a1 := R.tup q hq
      have a2 := R.tup r hr
      rw [e] at a1
      exact Prod.ext e (a1.inj a2)
    obtain ⟨L', e', hs'⟩ := ord out fun v hv => of_vs v (hb.perm.mem_iff.mp hv)
    have nref : (L.map fun q => Value.ref q.1).Nodup := by
      refine List.pairwise_map.mpr (List.Pairwise.imp_of_mem (fun {q r} hq hr hn e => ?_) (nodup_of_map R.nd))
      injection e with e
      exact hn (one q hq r hr e)
    have pmL : (L'.map fun q => Value.ref q.1).Perm (L.map fun q => Value.ref q.1) := by rw [← e']; exact hb.perm.trans pm
    have pL : L'.Perm L := by
      refine (List.perm_ext_iff_of_nodup (nodup_of_map (pmL.nodup_iff.mpr nref)) (nodup_of_map R.nd)).mpr fun q => ⟨hs' q, fun hq => ?_⟩
      obtain ⟨r, hr, e⟩ := List.mem_map.mp (pmL.mem_iff.mpr (List.mem_map.mpr ⟨q, hq, rfl⟩))
      injection e with e
      rw [← one r (hs' r hr) q hq e]
      exact hr
    have pw : L'.Pairwise (fun q r => lexLt itemOrd (r.2.map Sum.inl) (q.2.map Sum.inl) = false) := by
      rw [e'] at hs
      refine List.Pairwise.imp_of_mem (fun {q r} hq hr hlt => ?_) (List.pairwise_map.mp hs)
      have hlt : ltv _ (Value.ref r.1) (Value.ref q.1) = false := hlt
      unfold ltv at hlt
      rw [isT_kv (tk q (hs' q hq)), isT_kv (tk r (hs' r hr))] at hlt
      exact hlt
    refine wpAny_pure ⟨_, rfl, hQ _ s1.heap.objs.size out c L' (fun b u e => ?_) g1 o1 hz hc e' pL pw⟩
    have q := k1 b u e
    have hlt := Heap.lt_size q
    show (sortedHeap (s1.heap.push (seqObj "list" vs.toArray 0)) s1.heap.objs.size vs out.toArray).get? b = some u
    rw [sortedHeap_old (Nat.ne_of_lt hlt) (by rw [size_push']; exact Nat.lt_succ_of_lt hlt)]
    exact Heap.get?_push_of_some _ q
end
section
variable {X : Cx}
def rSortedO (K : PySem.W.Frag) (P : Program) (w : World) : List V → Hp → VK → Prop := fun vs H Q => ∃ (a : Addr) (L : List (Addr × List Int)), vs = [V.ref a] ∧ H a = some (SetTO P w a L) ∧ (∀ p ∈ L, SqT K H p.1 (p.2.map V.int)) ∧ ((∀ p ∈ L, p.2 = []) ∨ ∀ p ∈ L, p.2 ≠ []) ∧
  ∀ (L' : List (Addr × List Int)) (p : Addr), L'.Perm L → (L'.map (·.2)).Nodup → L'.length < 64 → L'.Pairwise (fun q r => lexLt itemOrd (r.2.map Sum.inl) (q.2.map Sum.inl) = false) → H p = none → Q (.ref p) (upd H p (.lst (L'.map fun q => V.ref q.1)))
theorem cr_sortedO (hc : X.calm = true) : CallR X (.builtin "sorted") (rSortedO X.K X.prog X.w) := by
  intro pins s σ H vs us Q I r h
  obtain ⟨a, L, rfl, ha, hk, hB, q⟩ := h
  have R0 : SetT0 X.prog X.w s.heap a L := (I.hok a _ ha).1
  obtain ⟨es, ep, t, R⟩ := R0.full fun p hp => I.isT (hk p hp)
  rw [Vals.ref1 r]
  have hB' : L.length < 2 ∨ ∀ p ∈ L, p.2 ≠ [] := by
    rcases hB with hB | hB
    · refine .inl ?_
      have nd := R.nd
      match L, hB, nd with
      | [], _, _ => simp
      | [_], _, _ => simp
      | p :: q :: L, hB, nd =>
        simp only [List.map_cons, List.nodup_cons] at nd
        rw [hB p (by simp), hB q (by simp)] at nd
        simp at nd
    · exact .inr hB
  refine sorted_setO R (I.ok.hd hc) hB' fun s' p out c L' k g o hp hg hout pm pw => ?_
  have hfew : L'.length < 64 := by rw [pm.length_eq]; exact R.few
  have hlen : (L'.map fun q => V.ref q.1).length ≤ sizeLine := by rw [List.length_map, sizeLine_eq]; omega
  have hn : H p = none := I.hok.fresh hp
  have hv : Vals (L'.map fun q => V.ref q.1) out := by rw [hout]; exact vals_of_refs L'
  have J : Inv X pins σ (upd H p (.lst (L'.map fun q => V.ref q.1))) { s with heap := s'.heap, gens := s'.gens, drawn := s'.drawn, toks := s'.toks } :=
    I.call (ch := []) (Un.laid k hp hn) (I.hok.laid k hp ⟨hlen, out, c, hv, hg⟩) (by rw [g]; exact I.bare) (fun _ z => nomatch z)
  have e : s' = { s with heap := s'.heap, gens := s'.gens, drawn := s'.drawn, toks := s'.toks } := by
    cases s'
    cases s
    cases o
    rfl
  rw [e]
  exact ⟨.ref p, _, J, rfl, q L' p pm ((pm.map (·.2)).nodup_iff.mpr R.nd) hfew pw hn⟩
end
end EVZ

set_option Elab.async false
set_option linter.all false
set_option maxRecDepth 100000
namespace EV
open PySem PySem.Spec PyProof.Rows L2

/-! ### sorted, each once: plain -/
def insU {α : Type} (lt : α → α → Bool) (x : α) : List α → List α
  | [] => [x]
  | y :: ys => match lt x y with
    | true => x :: y :: ys
    | false => match lt y x with
      | true => y :: insU lt x ys
      | false => y :: ys
def sortU {α : Type} (lt : α → α → Bool) : List α → List α
  | [] => []
  | x :: xs => insU lt x (sortU lt xs)
structure Tot {α : Type} (lt : α → α → Bool) : Prop where
  irrefl : ∀ a, lt a a = false
  trans : ∀ a b c, lt a b = true → lt b c = true → lt a c = true
  total : ∀ a b, lt a b = false → lt b a = false → a = b
section
variable {α : Type} {lt : α → α → Bool}
theorem mem_insU (T : Tot lt) {x z : α} : ∀ {ys : List α}, z ∈ insU lt x ys ↔ z = x ∨ z ∈ ys
  | [] => by simp [insU]
  | y :: ys => by
    unfold insU
    split
    · simp
    · rename_i h1
      split
      · simp only [List.mem_cons, mem_insU T (ys := ys)]
        constructor
        · rintro (h | h | h)
          · exact .inr (.inl h)
          · exact .inl h
          · exact .inr (.inr h)
        · rintro (h | h | h)
          · exact .inr (.inl h)
          · exact .inl h
          · exact .inr (.inr h)
      · rename_i h2
        have e := T.total x y h1 h2
        subst e
        simp
theorem mem_sortU (T : Tot lt) {z : α} : ∀ {xs : List α}, z ∈ sortU lt xs ↔ z ∈ xs
  | [] => by simp [sortU]
  | x :: xs => by
    unfold sortU
    rw [mem_insU T, mem_sortU T (xs := xs), List.mem_cons]
abbrev Strict (lt : α → α → Bool) (l : List α) : Prop := l.Pairwise fun a b => lt a b = true
theorem insU_strict (T : Tot lt) {x : α} : ∀ {ys : List α}, Strict lt ys → Strict lt (insU lt x ys)
  | [], _ => by simp [insU, Strict]
  | y :: ys, h => by
    obtain ⟨h1, h2⟩ := List.pairwise_cons.mp h
    unfold insU
    split
    · rename_i e
      exact List.pairwise_cons.mpr ⟨fun z hz => (List.mem_cons.mp hz).elim (fun q => by rw [q]; exact e) fun q => T.trans _ _ _ e (h1 z q), h⟩
    · split
      · rename_i e
        refine List.pairwise_cons.mpr ⟨fun z hz => ?_, insU_strict T h2⟩
        rcases (mem_insU T).mp hz with q | q
        · rw [q]; exact e
        · exact h1 z q
      · exact h
theorem sortU_strict (T : Tot lt) : ∀ xs : List α, Strict lt (sortU lt xs)
  | [] => List.Pairwise.nil
  | x :: xs => insU_strict T (sortU_strict T xs)
theorem strict_uniq (T : Tot lt) : ∀ {l m : List α}, Strict lt l → Strict lt m → (∀ z, z ∈ l ↔ z ∈ m) → l = m
  | [], [], _, _, _ => rfl
  | [], y :: ys, _, _, h => absurd ((h y).mpr (by simp)) (by simp)
  | x :: xs, [], _, _, h => absurd ((h x).mp (by simp)) (by simp)
  | x :: xs, y :: ys, hl, hm, h => by
    obtain ⟨l1, l2⟩ := List.pairwise_cons.mp hl
    obtain ⟨m1, m2⟩ := List.pairwise_cons.mp hm
    have asym : ∀ a b, lt a b = true → lt b a = true → False := fun a b p q => by
      have := T.trans a b a p q
      rw [T.irrefl] at this
      cases this
    have e : x = y := by
      rcases List.mem_cons.mp ((h x).mp (by simp)) with q | q
      · exact q
      · rcases List.mem_cons.mp ((h y).mpr (by simp)) with r | r
        · exact r.symm
        · exact (asym _ _ (m1 x q) (l1 y r)).elim
    subst e
    rw [strict_uniq T l2 m2 fun z => ?_]
    constructor
    · intro hz
      rcases List.mem_cons.mp ((h z).mp (List.mem_cons_of_mem _ hz)) with q | q
      · have := l1 z hz
        rw [q, T.irrefl] at this
        cases this
      · exact q
    · intro hz
      rcases List.mem_cons.mp ((h z).mpr (List.mem_cons_of_mem _ hz)) with q | q
      · have := m1 z hz
        rw [q, T.irrefl] at this
        cases this
      · exact q
theorem sortU_congr (T : Tot lt) {xs ys : List α} (h : ∀ z, z ∈ xs ↔ z ∈ ys) : sortU lt xs = sortU lt ys :=
  strict_uniq T (sortU_strict T _) (sortU_strict T _) fun z => by rw [mem_sortU T, mem_sortU T, h z]
theorem insU_length : ∀ {ys : List α} {x : α}, (insU lt x ys).length ≤ ys.length + 1
  | [], _ => Nat.le_refl _
  | y :: ys, x => by
    unfold insU
    split
    · exact Nat.le_refl _
    · split
      · rw [List.length_cons, List.length_cons]
        exact Nat.succ_le_succ insU_length
      · exact Nat.le_succ _
theorem sortU_length : ∀ {xs : List α}, (sortU lt xs).length ≤ xs.length
  | [] => Nat.le_refl _
  | x :: xs => Nat.le_trans insU_length (Nat.succ_le_succ sortU_length)
end
def ltI : List Int → List Int → Bool
  | [], [] => false
  | [], _ :: _ => true
  | _ :: _, [] => false
  | x :: r, y :: t => decide (x < y) || (!decide (y < x) && ltI r t)
theorem ltI_eq : ∀ a b : List Int, lexLt itemOrd (a.map Sum.inl) (b.map Sum.inl) = ltI a b
  | [], [] => rfl
  | [], _ :: _ => rfl
  | _ :: _, [] => rfl
  | x :: r, y :: t => by
    unfold ltI
    rw [← ltI_eq r t]
    rfl
theorem ltI_tot : Tot ltI := by
  refine ⟨fun a => ?_, fun a b c h1 h2 => ?_, fun a b h1 h2 => ?_⟩
  · rw [← ltI_eq]; exact lex_irrefl (O := itemOrd) _
  · rw [← ltI_eq] at h1 h2 ⊢; exact lex_trans (O := itemOrd) _ _ _ h1 h2
  · rw [← ltI_eq] at h1 h2
    have := lex_total (O := itemOrd) _ _ h1 h2
    exact (List.map_inj_right (fun _ _ e => Sum.inl.inj e)).mp this
/-- the tuples of ints of a list -/
def tupsOf : List D → Option (List (List Int))
  | [] => some []
  | .tup ds :: r => match intsOf ds, tupsOf r with
    | some k, some ks => some (k :: ks)
    | _, _ => none
  | _ => none
theorem tupsOf_eq : ∀ {ds : List D} {ks : List (List Int)}, tupsOf ds = some ks → ds = ks.map fun k => D.tup (k.map .int)
  | [], _, h => by cases h; rfl
  | .tup ds :: r, ks, h => by
    unfold tupsOf at h
    split at h
    · rename_i k ms e1 e2
      cases h
      rw [List.map_cons, ← tupsOf_eq e2, ← intsOf_eq e1]
    · cases h
  | .non :: _, _, h => by cases h
  | .bl _ :: _, _, h => by cases h
  | .int _ :: _, _, h => by cases h
  | .str _ :: _, _, h => by cases h
  | .lst _ :: _, _, h => by cases h
  | .dct _ _ :: _, _, h => by cases h
  | .set _ :: _, _, h => by cases h
  | .scr _ :: _, _, h => by cases h
def dSetT : List D → Option D
  | [.lst ds] => match tupsOf ds with
    | some ks => match decide (ks.length < 64) && (ks.all (fun k => k.isEmpty) || ks.all (fun k => !k.isEmpty)) with
      | true => some (.lst ((sortU ltI ks).map fun k => .tup (k.map .int)))
      | false => none
    | none => none
  | _ => none
section
variable {K : PySem.W.Frag} {H H' : Hp} {W : List Addr}
theorem rep_ints : ∀ {ns : List Int} {vs : List V}, Reps K H W vs (ns.map .int) → vs = ns.map V.int
  | [], _, h => by cases h; rfl
  | n :: ns, _, h => by
    cases h with
    | cons a b =>
      cases a
      rw [rep_ints b]
      rfl
theorem ints_rep : ∀ ns : List Int, Reps K H W (ns.map V.int) (ns.map .int)
  | [] => .nil
  | n :: ns => .cons (.int n) (ints_rep ns)
theorem rep_tups : ∀ {ks : List (List Int)} {vs : List V}, Reps K H W vs (ks.map fun k => D.tup (k.map .int)) → ∃ ps : List (Addr × List Int), vs = ps.map (fun p => V.ref p.1) ∧ ks = ps.map (·.2) ∧ ∀ p ∈ ps, SqT K H p.1 (p.2.map V.int)
  | [], _, h => by cases h; exact ⟨[], rfl, rfl, fun _ z => nomatch z⟩
  | k :: ks, _, h => by
    cases h with
    | cons a b =>
      obtain ⟨ps, e1, e2, e3⟩ := rep_tups b
      cases a with
      | tup ha ra =>
        rename_i ad xs
        have := rep_ints ra
        subst this
        exact ⟨(ad, k) :: ps, by rw [e1]; rfl, by rw [e2]; rfl, fun p hp => (List.mem_cons.mp hp).elim (fun q => by rw [q]; exact ha) fun q => e3 p q⟩
theorem tups_rep : ∀ {ps : List (Addr × List Int)}, (∀ p ∈ ps, SqT K H p.1 (p.2.map V.int)) → Reps K H W (ps.map fun p => V.ref p.1) ((ps.map (·.2)).map fun k => D.tup (k.map .int))
  | [], _ => .nil
  | p :: ps, h => .cons (.tup (h p (by simp)) (ints_rep _)) (tups_rep fun q hq => h q (by simp [hq]))
end
section
variable {X : Cx} {e e2 : Expr} {p p2 pos pos2 : Pos} {fe : Ex} {fs : Exs}
theorem sqt_same {K : PySem.W.Frag} {H H' : Hp} {a : Addr} {xs : List V} (h : SqT K H a xs) (s : Same H H') : SqT K H' a xs := by
  rcases h with (h | ⟨o, h⟩) | h
  · exact .inl (.inl (s _ _ h))
  · exact .inl (.inr ⟨o, s _ _ h⟩)
  · exact .inr h
theorem ev_sortSetT (hc : X.calm = true) (hu : X.A.units + 64 < cLine) (hg : Gl X "sorted") (hm : X.mg "sorted" = none) (hg2 : Gl X "set") (hm2 : X.mg "set" = none) (ha : EVs X [e] fs)
    (hs2 : starEach [e] X.env = (false, eval e X.env) :: starEach [] X.env := by rfl) (hpl2 : (backTo pos2 (starEach [] X.env)).any (·.1) = false := by rfl)
    (hs1 : starEach [Expr.Call (.Name "set" p2) [e] [] pos2] X.env = (false, eval (.Call (.Name "set" p2) [e] [] pos2) X.env) :: starEach [] X.env := by rfl) (hpl1 : (backTo pos (starEach [] X.env)).any (·.1) = false := by rfl) :
    EV X (.Call (.Name "sorted" p) [.Call (.Name "set" p2) [e] [] pos2] [] pos) (sCB dSetT fs) := by
  refine PE.weak (pe_callB (EVZ.cr_sortedO hc) hg hm (by rfl) (pa_cons (pe_callTy (cr_setOfT hc hu) hg2 hm2 (by rfl) ha (by decide) (by decide) hs2 hpl2) pa_nil hs1) (by decide) (by decide) hs1 hpl1) fun σ H Q q => ?_
  obtain ⟨W, S, σp, d, S', st, rs, e0, q⟩ := q
  unfold sCB at e0
  split at e0
  · cases e0
  · rename_i xs S1 e1
    split at e0
    · rename_i ds e2
      split at e0
      · rename_i d' e3
        cases e0
        unfold dSetT at e3
        split at e3
        · rename_i ds'
          split at e3
          · rename_i ks e4
            split at e3
            · rename_i hz
              cases e3
              have hz := Bool.and_eq_true_iff.mp hz
              refine tEVs_mk st rs e1 fun vs H1 W1 x1 st1 rs1 r1 => ?_
              obtain ⟨v, rfl, lk⟩ := (lks_of st1 r1 e2).one
              obtain ⟨a, us, rfl, hl, ru⟩ := lk.lst'
              rw [tupsOf_eq e4] at ru
              obtain ⟨ps, rfl, rfl, hps⟩ := rep_tups ru
              refine ⟨a, ps, rfl, SqL.of hl, hps, by simpa using of_decide_eq_true hz.1, fun A L hA hL1 hL2 => ?_⟩
              have sm := same_upd hA (SetTO X.prog X.w A L)
              refine ⟨A, L, rfl, upd_same, fun p hp => sqt_same (hps p (hL1 p hp)) sm, ?_, fun L' q0 pm nd hlen pw hq0 => ?_⟩
              · rcases Bool.or_eq_true_iff.mp hz.2 with h | h
                · refine .inl fun p hp => ?_
                  have := List.all_eq_true.mp h p.2 (List.mem_map.mpr ⟨p, hL1 p hp, rfl⟩)
                  exact List.isEmpty_iff.mp this
                · refine .inr fun p hp z => ?_
                  have := List.all_eq_true.mp h p.2 (List.mem_map.mpr ⟨p, hL1 p hp, rfl⟩)
                  rw [z] at this
                  cases this
              · have eL : L'.map (·.2) = sortU ltI (ps.map (·.2)) := by
                  refine strict_uniq ltI_tot ?_ (sortU_strict ltI_tot _) fun z => ?_
                  · refine List.pairwise_map.mpr (List.Pairwise.imp_of_mem ?_ (pw.and (List.pairwise_map.mp nd)))
                    rintro a b _ _ ⟨h1, h2⟩
                    rw [ltI_eq] at h1
                    cases h3 : ltI a.2 b.2 with
                    | true => rfl
                    | false => exact absurd (ltI_tot.total _ _ h3 h1) h2
                  · rw [mem_sortU ltI_tot]
                    constructor
                    · intro hz
                      obtain ⟨p, hp, rfl⟩ := List.mem_map.mp hz
                      exact List.mem_map.mpr ⟨p, hL1 p (pm.mem_iff.mp hp), rfl⟩
                    · intro hz
                      obtain ⟨p, hp, rfl⟩ := List.mem_map.mp hz
                      obtain ⟨p', hp', e'⟩ := List.mem_map.mp (hL2 p hp)
                      exact List.mem_map.mpr ⟨p', pm.mem_iff.mpr hp', e'⟩
                have sm2 := same_upd hq0 (.lst (L'.map fun q => V.ref q.1))
                have st2 := st1.same sm
                have rL : Reps X.K (upd H1 A (SetTO X.prog X.w A L)) W1 (L'.map fun q => V.ref q.1) ((sortU ltI (ps.map (·.2))).map fun k => D.tup (k.map .int)) := by
                  rw [← eL]
                  exact tups_rep fun p hp => sqt_same (hps p (hL1 p (pm.mem_iff.mp hp))) sm
                exact Res.lst (W := W1) (fun v H3 s3 r3 => q v H3 W1 ((x1.trans (.same sm)).trans (.same s3)) (st2.same s3) (.p r3)) st2 rL q0 hq0
            · cases e3
          · cases e3
        · cases e3
      · cases e0
    · cases e0

/-! ### zip -/
def zipD : List D → List D → List D
  | x :: xs, y :: ys => .tup [x, y] :: zipD xs ys
  | _, _ => []
/-- what is a list or a tuple -/
def seqD : D → Option (List D)
  | .lst xs => some xs
  | .tup xs => some xs
  | _ => none
def sZip (f : Exs) : Ix := fun σ S => match f σ S with
  | some ([.p a, .p b], S1) => match seqD a, seqD b with
    | some xs, some ys => some (zipD xs ys, S1)
    | _, _ => none
  | _ => none
theorem zipD_length : ∀ {xs ys : List D}, (zipD xs ys).length = min xs.length ys.length
  | [], _ => by simp [zipD]
  | _ :: _, [] => by simp [zipD]
  | x :: xs, y :: ys => by
    unfold zipD
    rw [List.length_cons, List.length_cons, List.length_cons, zipD_length (xs := xs) (ys := ys)]
    omega
theorem zipD_get : ∀ {xs ys : List D} {i : Nat} {x y : D}, xs[i]? = some x → ys[i]? = some y → (zipD xs ys)[i]? = some (.tup [x, y])
  | [], _, _, _, _, h, _ => by simp at h
  | _ :: _, [], _, _, _, _, h => by simp at h
  | x :: xs, y :: ys, 0, _, _, h, h' => by simp at h h'; subst h h'; rfl
  | x :: xs, y :: ys, j + 1, _, _, h, h' => by
    simpa [zipD] using zipD_get (xs := xs) (ys := ys) (i := j) (by simpa using h) (by simpa using h')
/-- a list (of no store) or a tuple, as it stands -/
inductive SqR (K : PySem.W.Frag) (H : Hp) (W : List Addr) : Bool → Addr → List V → Prop
  | l {a : Addr} {xs : List V} : H a = some (.lst xs) → a ∉ W → SqR K H W true a xs
  | t {a : Addr} {xs : List V} : SqT K H a xs → SqR K H W false a xs
theorem SqR.a {K : PySem.W.Frag} {H : Hp} {W : List Addr} {k : Bool} {a : Addr} {xs : List V} (h : SqR K H W k a xs) : EVZ.SqA K H k a xs := by
  cases h with
  | l h n => exact SqL.of h
  | t h => exact h
theorem SqR.ext {K : PySem.W.Frag} {H H' : Hp} {W W' : List Addr} {S : Sto} {k : Bool} {a : Addr} {xs : List V} (h : SqR K H W k a xs) (st : StOK K H W S) (x : Ext H W H' W') : SqR K H' W' k a xs := by
  cases h with
  | l h n => exact .l (x.keep _ _ h n) (x.out _ _ h n)
  | t h => exact .t (SqT.ext st x h)
theorem seqD_rep {K : PySem.W.Frag} {H : Hp} {W : List Addr} {v : V} {d : D} {ds : List D} (r : Rep K H W v d) (e : seqD d = some ds) : ∃ k a xs, v = .ref a ∧ SqR K H W k a xs ∧ Reps K H W xs ds := by
  unfold seqD at e
  split at e
  · cases e
    cases r with
    | lst h n r => exact ⟨true, _, _, rfl, .l h n, r⟩
  · cases e
    cases r with
    | tup h r => exact ⟨false, _, _, rfl, .t h, r⟩
  · cases e
theorem itOK_zip {K : PySem.W.Frag} {H : Hp} {W : List Addr} {ka kb : Bool} {a b : Addr} {xs ys : List V} {ds es : List D} (ha : SqR K H W ka a xs) (hb : SqR K H W kb b ys) (ra : Reps K H W xs ds) (rb : Reps K H W ys es) : ItOK K (EVZ.ItzA K ka a kb b) H W (zipD ds es) := by
  have l1 := ra.length
  have l2 := rb.length
  refine ⟨fun H W => SqR K H W ka a xs ∧ SqR K H W kb b ys ∧ Reps K H W xs ds ∧ Reps K H W ys es, YPair (fun i => xs[i]?) (fun i => ys[i]?), ?_, ⟨ha, hb, ra, rb⟩, fun H W S H' W' st g x => ⟨g.1.ext st x, g.2.1.ext st x, g.2.2.1.ext st x, g.2.2.2.ext st x⟩, fun i H W S v H' st g hi y => ?_⟩
  · rw [zipD_length]
    refine ⟨fun i H hi g => ?_, fun H g => ?_, fun i H v H' hi g y => ?_⟩
    · obtain ⟨W, g1, g2, _, _⟩ := g
      have h1 : i < xs.length := by omega
      have h2 : i < ys.length := by omega
      exact ⟨xs, ys, xs[i], ys[i], g1.a, g2.a, by simp [h1], by simp [h2]⟩
    · obtain ⟨W, g1, g2, _, _⟩ := g
      exact ⟨xs, ys, g1.a, g2.a, by omega, by omega, by omega⟩
    · obtain ⟨W, g1, g2, _, _⟩ := g
      obtain ⟨T, x, z, h1, h2, h3, h4, h5⟩ := y
      exact ⟨T, x, z, h1, h2, h3, h4 xs g1.a, h5 ys g2.a⟩
  · obtain ⟨T, x, z, rfl, hT, rfl, h4, h5⟩ := y
    obtain ⟨g1, g2, g3, g4⟩ := g
    obtain ⟨d1, e1, r1⟩ := g3.getV h4
    obtain ⟨d2, e2, r2⟩ := g4.getV h5
    have sm := same_upd hT (.tup [x, z])
    have ex : Ext H W (upd H T (.tup [x, z])) W := .same sm
    exact ⟨sm, _, zipD_get e1 e2, .tup (SqT.of upd_same) (.cons (r1.ext st ex) (.cons (r2.ext st ex) .nil))⟩
theorem ei_zip {tpos : Pos} {elts : List Expr} {kk : Nat} (hg : Gl X "zip") (hm : X.mg "zip" = none) (ha : EVs X [e, e2] fs)
    (hs : starEach [e, e2] X.env = (false, eval e X.env) :: starEach [e2] X.env := by rfl) (hpl : (backTo pos (starEach [e2] X.env)).any (·.1) = false := by rfl) :
    EI X (.Tuple elts kk tpos) (.Call (.Name "zip" p) [e, e2] [] pos) (sZip fs) := PI.weak (EVZ.pi_zipM hg hm ha hs hpl) fun σ H R q => by
  obtain ⟨W, S, σp, ds, S', st, rs, e0, q⟩ := q
  unfold sZip at e0
  split at e0
  · rename_i a b S1 e1
    split at e0
    · rename_i xs ys ea eb
      cases e0
      refine tEVs_mk st rs e1 fun vs H1 W1 x1 st1 rs1 r1 => ?_
      cases r1 with
      | cons ra r1 =>
        cases r1 with
        | cons rb r1 =>
          cases r1
          cases ra with
          | p ra =>
            cases rb with
            | p rb =>
              obtain ⟨ka, a, us, rfl, h1, r1⟩ := seqD_rep ra ea
              obtain ⟨kb, b, ws, rfl, h2, r2⟩ := seqD_rep rb eb
              exact ⟨ka, kb, a, b, us, ws, rfl, h1.a, h2.a, q _ H1 W1 x1 st1 rs1 (itOK_zip h1 h2 r1 r2)⟩
    · cases e0
  · cases e0
/-- list(zip(a, b)) -/
def dLstZip : List D → Option D
  | [a, b] => match seqD a, seqD b with
    | some xs, some ys => some (.lst (zipD xs ys))
    | _, _ => none
  | _ => none
theorem seqD_lk {K : PySem.W.Frag} {H : Hp} {W : List Addr} {v : V} {d : D} {ds : List D} (r : Lk K H W v d) (e : seqD d = some ds) : ∃ k a xs, v = .ref a ∧ EVZ.SqA K H k a xs ∧ Reps K H W xs ds := by
  cases r with
  | rep r =>
    obtain ⟨k, a, xs, e1, h, r⟩ := seqD_rep r e
    exact ⟨k, a, xs, e1, h.a, r⟩
  | lst h r => cases e; exact ⟨true, _, _, rfl, SqL.of h, r⟩
theorem reps_zip {K : PySem.W.Frag} {H : Hp} {W : List Addr} : ∀ {xs ys : List V} {ds es : List D} {Ts : List Addr}, Reps K H W xs ds → Reps K H W ys es → Ts.length = (EVZ.pairUp xs ys).length → (∀ (j : Nat) (T : Addr) x y, Ts[j]? = some T → (EVZ.pairUp xs ys)[j]? = some (x, y) → H T = some (.tup [x, y])) → Reps K H W (Ts.map V.ref) (zipD ds es)
  | _, _, _, _, [], .nil, _, _, _ => .nil
  | _, _, _, _, _ :: _, .nil, _, h, _ => by cases h
  | _, _, _, _, [], .cons _ _, .nil, _, _ => .nil
  | _, _, _, _, _ :: _, .cons _ _, .nil, h, _ => by cases h
  | _, _, _, _, [], .cons _ _, .cons _ _, h, _ => by cases h
  | x :: xs, y :: ys, d :: ds, e :: es, T :: Ts, .cons a a', .cons b b', h, g =>
    .cons (.tup (SqT.of (g 0 T x y rfl rfl)) (.cons a (.cons b .nil))) (reps_zip a' b' (by simpa [EVZ.pairUp] using h) fun j U u v h1 h2 => g (j + 1) U u v (by simpa using h1) (by simpa [EVZ.pairUp] using h2))
theorem ev_listZip (hc : X.calm = true) (hl : Gl X "list") (hlm : X.mg "list" = none) (hg : Gl X "zip") (hm : X.mg "zip" = none) (ha : EVs X [e, e2] fs)
    (hs : starEach [e, e2] X.env = (false, eval e X.env) :: starEach [e2] X.env := by rfl) (hpl : (backTo pos2 (starEach [e2] X.env)).any (·.1) = false := by rfl)
    (hs1 : starEach [Expr.Call (.Name "zip" p2) [e, e2] [] pos2] X.env = (false, eval (.Call (.Name "zip" p2) [e, e2] [] pos2) X.env) :: starEach [] X.env := by rfl) :
    EV X (.Call (.Name "list" p) [.Call (.Name "zip" p2) [e, e2] [] pos2] [] pos) (sCB dLstZip fs) := PE.weak (EVZ.pe_listZip hc hl hlm hg hm ha hs hpl hs1) fun σ H Q q => by
  obtain ⟨W, S, σp, d, S', st, rs, e0, q⟩ := q
  unfold sCB at e0
  split at e0
  · cases e0
  · rename_i xs S1 e1
    split at e0
    · rename_i ds e2
      split at e0
      · rename_i d' e3
        cases e0
        unfold dLstZip at e3
        split at e3
        · rename_i a b
          split at e3
          · rename_i us ws ea eb
            cases e3
            refine tEVs_mk st rs e1 fun vs H1 W1 x1 st1 rs1 r1 => ?_
            obtain ⟨v, u, rfl, la, lb⟩ := (lks_of st1 r1 e2).two
            obtain ⟨ka, a, xs', rfl, ha', ra⟩ := seqD_lk la ea
            obtain ⟨kb, b, ys', rfl, hb', rb⟩ := seqD_lk lb eb
            refine ⟨ka, kb, a, b, xs', ys', rfl, ha', hb', fun q0 Ts H2 sm hq0 hL hlen hT => ?_⟩
            have x2 : Ext H1 W1 H2 W1 := .same sm
            have st2 := st1.same sm
            exact q _ H2 W1 (x1.trans x2) st2 (.p (.lst hL (notin_new st1 hq0) (reps_zip (ra.ext st1 x2) (rb.ext st1 x2) hlen hT)))
          · cases e3
        · cases e3
      · cases e0
    · cases e0
end
end EV

set_option Elab.async false
set_option linter.all false
set_option maxRecDepth 100000
namespace EV
open PySem PySem.Spec PyProof.Rows L2

/-! ### dict(pairs) -/
def pairsK : List D → Option (List (Key × D))
  | [] => some []
  | .tup [k, v] :: r => match flatK k, pairsK r with
    | some k, some l => some ((k, v) :: l)
    | _, _ => none
  | _ => none
def putKD (kvs : List (Key × D)) (k : Key) (v : D) : List (Key × D) := match kvs.any fun kv => decide (kv.1 = k) with
  | true => kvs.map fun kv => if kv.1 = k then (kv.1, v) else kv
  | false => kvs ++ [(k, v)]
def mergeKD (kvs more : List (Key × D)) : List (Key × D) := more.foldl (fun acc kv => putKD acc kv.1 kv.2) kvs
def dDictP : List D → Option D
  | [.lst ds] => match pairsK ds with
    | some kvs => some (.dct ((mergeKD [] kvs).map fun q => keyD q.1) ((mergeKD [] kvs).map (·.2)))
    | none => none
  | _ => none
section
variable {K : PySem.W.Frag} {H : Hp} {W : List Addr}
inductive KVR (K : PySem.W.Frag) (H : Hp) (W : List Addr) : List (Key × V) → List (Key × D) → Prop
  | nil : KVR K H W [] []
  | cons {k : Key} {v : V} {d : D} {vs : List (Key × V)} {ds : List (Key × D)} : Rep K H W v d → KVR K H W vs ds → KVR K H W ((k, v) :: vs) ((k, d) :: ds)
theorem KVR.vals : ∀ {vs : List (Key × V)} {ds : List (Key × D)}, KVR K H W vs ds → Reps K H W (vs.map (·.2)) (ds.map (·.2)) ∧ vs.map (fun q => keyD q.1) = ds.map (fun q => keyD q.1)
  | _, _, .nil => ⟨.nil, rfl⟩
  | _, _, .cons r t => ⟨.cons r t.vals.1, by rw [List.map_cons, List.map_cons, t.vals.2]⟩
theorem KVR.any {k : Key} : ∀ {vs : List (Key × V)} {ds : List (Key × D)}, KVR K H W vs ds → (vs.any fun q => decide (q.1 = k)) = ds.any fun q => decide (q.1 = k)
  | _, _, .nil => rfl
  | _, _, .cons r t => by rw [List.any_cons, List.any_cons, t.any]
theorem KVR.map {k : Key} {v : V} {d : D} (r : Rep K H W v d) : ∀ {vs : List (Key × V)} {ds : List (Key × D)}, KVR K H W vs ds → KVR K H W (vs.map fun q => if q.1 = k then (q.1, v) else q) (ds.map fun q => if q.1 = k then (q.1, d) else q)
  | _, _, .nil => .nil
  | _, _, .cons (k := k') a t => by
    rw [List.map_cons, List.map_cons]
    by_cases e : k' = k
    · rw [if_pos e, if_pos e]; exact .cons r (t.map r)
    · rw [if_neg e, if_neg e]; exact .cons a (t.map r)
theorem KVR.snoc {k : Key} {v : V} {d : D} (r : Rep K H W v d) : ∀ {vs : List (Key × V)} {ds : List (Key × D)}, KVR K H W vs ds → KVR K H W (vs ++ [(k, v)]) (ds ++ [(k, d)])
  | _, _, .nil => .cons r .nil
  | _, _, .cons a t => .cons a (t.snoc r)
theorem KVR.put {k : Key} {v : V} {d : D} (r : Rep K H W v d) {vs : List (Key × V)} {ds : List (Key × D)} (h : KVR K H W vs ds) : KVR K H W (putK vs k v) (putKD ds k d) := by
  unfold putK putKD
  rw [h.any]
  cases hb : ds.any fun kv => decide (kv.1 = k) with
  | true => rw [if_pos rfl]; exact h.map r
  | false => rw [if_neg Bool.false_ne_true]; exact h.snoc r
theorem KVR.merge : ∀ {ms : List (Key × V)} {ns : List (Key × D)} {vs : List (Key × V)} {ds : List (Key × D)}, KVR K H W ms ns → KVR K H W vs ds → KVR K H W (mergeK vs ms) (mergeKD ds ns)
  | _, _, _, _, .nil, h => h
  | _, _, _, _, .cons (k := k) r t, h => by
    have z := KVR.merge t (h.put (k := k) r)
    exact z
theorem pairs_rep : ∀ {ds : List D} {kvs : List (Key × D)} {us : List V}, pairsK ds = some kvs → Reps K H W us ds → ∃ (ps : List Addr) (vs : List (Key × V)), us = ps.map V.ref ∧ Paired (fun p kv => SqT K H p [kV kv.1, kv.2]) ps vs ∧ KVR K H W vs kvs
  | [], _, _, h, r => by cases h; cases r; exact ⟨[], [], rfl, .nil, .nil⟩
  | .tup [k, v] :: r, kvs, _, h, .cons a b => by
    unfold pairsK at h
    split at h
    · rename_i k' l e1 e2
      cases h
      obtain ⟨ps, vs, e3, e4, e5⟩ := pairs_rep e2 b
      cases a with
      | tup hs hr =>
        cases hr with
        | cons rk hr =>
          cases hr with
          | cons rv hr =>
            cases hr
            rename_i ad _ _
            have ek := flatK_eq e1
            subst ek
            have := rep_keyD rk
            subst this
            exact ⟨_ :: ps, (k', _) :: vs, by rw [e3]; rfl, .cons hs e4, .cons rv e5⟩
    · cases h
  | .tup [] :: _, _, _, h, _ => by cases h
  | .tup [_] :: _, _, _, h, _ => by cases h
  | .tup (_ :: _ :: _ :: _) :: _, _, _, h, _ => by cases h
  | .non :: _, _, _, h, _ => by cases h
  | .bl _ :: _, _, _, h, _ => by cases h
  | .int _ :: _, _, _, h, _ => by cases h
  | .str _ :: _, _, _, h, _ => by cases h
  | .lst _ :: _, _, _, h, _ => by cases h
  | .dct _ _ :: _, _, _, h, _ => by cases h
  | .set _ :: _, _, _, h, _ => by cases h
  | .scr _ :: _, _, _, h, _ => by cases h
end
theorem cd_dict {X : Cx} (hc : X.calm = true) : CallD X (.type "dict") dDictP := by
  refine ⟨_, call_dictP hc, fun H W S vs ds d Q st hL e q => ?_⟩
  unfold dDictP at e
  split at e
  · split at e
    · rename_i ds' kvs ek
      cases e
      obtain ⟨v, rfl, h⟩ := hL.one
      obtain ⟨a, us, rfl, h1, r⟩ := h.lst'
      obtain ⟨ps, vs, rfl, h2, h3⟩ := pairs_rep ek r
      refine ⟨a, ps, vs, rfl, SqL.of h1, h2, fun p hp => ?_⟩
      have hm := KVR.merge h3 .nil
      have sm := same_upd hp (.dK (mergeK [] vs))
      obtain ⟨v1, v2⟩ := hm.vals
      exact q _ _ sm (.dk (.inl upd_same) v2.symm (v1.ext st (.same sm)))
    · cases e
  · cases e

/-! ### d.get(k, v) -/
def sGet2 (fo : Ex) (fs : Exs) : Ex := fun σ S => match fo σ S with
  | some (.p (.dct ks vs), S1) => match fs σ S1 with
    | some ([k, .p d], S2) => match rd S2 k with
      | some dk => match dlook ks vs dk with
        | some (some d') => some (.p d', S2)
        | some none => some (.p d, S2)
        | none => none
      | none => none
    | _ => none
  | _ => none
section
variable {X : Cx} {o e1 e2 : Expr} {fo : Ex} {fs : Exs} {apos cpos : Pos}
theorem ev_get2 (hu : X.A.units + 1 < cLine) (ho : EV X o fo) (ha : EVs X [e1, e2] fs) (hbase : attributeBase o "get" X.env (eval o X.env) = eval o X.env := by rfl)
    (hfew : ((backTo cpos (starEach [e1, e2] X.env)).all (fun x => !x.1) && (backToKw cpos (keywordEach [] X.env)).all (fun x => x.1.isSome)
      && decide (([e1, e2] : List Expr).length + ([] : List Keyword).length + (if ([] : List Keyword).isEmpty then 0 else 1) < 30)) = true := by rfl)
    (hline : (apos.endLine == cpos.line) = true := by rfl) (hs : starEach [e1, e2] X.env = (false, eval e1 X.env) :: starEach [e2] X.env := by rfl) (hplain : (backTo cpos (starEach [e2] X.env)).any (·.1) = false := by rfl) :
    EV X (.Call (.Attribute o "get" apos) [e1, e2] [] cpos) (sGet2 fo fs) := ⟨fun pins s σ H Q I h => by
  obtain ⟨W, S, σp, d, S', st, rs, e0, q⟩ := h
  unfold sGet2 at e0
  split at e0
  · rename_i ks vs S1 h1
    split at e0
    · rename_i k dd S2 h2
      split at e0
      · rename_i dk hk
        refine wpAny_Call_method_late hbase hfew hline rfl (thn (ho.run pins s σ H (fun v H1 => ∃ W1, Ext H W H1 W1 ∧ StOK X.K H1 W1 S1 ∧ RepS X.K H1 W1 σ σp ∧ Rep X.K H1 W1 v (.dct ks vs)) I (tEV_mk st rs h1 fun v H1 W1 x1 st1 rs1 r1 => ?_)) fun v s1 ⟨x, H1, I1, r1, W1, x1, st1, rs1, rx⟩ => ?_)
        · cases r1 with
          | p r1 => exact ⟨W1, x1, st1, rs1, r1⟩
        · -- the dict's type
          have ht : ∃ a, x = .ref a ∧ s1.TypeIs (.ref a) "dict" ∧ (∀ b, Value.ref a = .ref b → ∃ ob, s1.heap.get? b = some ob ∧ ob.dict = none) := by
            cases rx with
            | dk hR hk hr => exact ⟨_, rfl, dx_type I1 (.inl ⟨_, .inl 0, hR, rfl, rfl⟩)⟩
            | dt hR hk hr =>
              rename_i a kvs
              obtain ⟨z, hd, xs, rel, dd⟩ := dt_rd I1.hok hR
              exact ⟨_, rfl, dd.typeIs, fun b e => by
                obtain ⟨ob, es, ep, g1, g2, g3, _⟩ := dd
                cases e
                exact ⟨ob, g1, g2.2.1⟩⟩
          obtain ⟨a, rfl, t1, t2⟩ := ht
          cases (show v = Value.ref a from r1)
          refine ⟨"dict", "dict.get", PySem.F.plainAttrs_dict, PySem.F.slot_dict_get, PySem.F.type_dict_get, t1, t2, ?_⟩
          have hA := ha.run cpos pins s1 σ H1 (fun vs' H2 => ∃ W2, Ext H1 W1 H2 W2 ∧ StOK X.K H2 W2 S2 ∧ RepLs X.K H2 W2 vs' [k, .p dd]) I1 (tEVs_mk st1 rs1 h2 fun v H2 W2 x2 st2 rs2 r2 => ⟨W2, x2, st2, r2⟩)
          rw [hs] at hA ⊢
          refine Calls.callWith_builtin (by show (false || (backTo cpos (starEach [e2] X.env)).any (·.1)) = false; rw [hplain] <;> rfl) (Calls.evalArgs_plain ?_)
          refine thn hA fun us s2 ⟨vs', H2, I2, r2, W2, x2, st2, rr⟩ => ?_
          cases rr with
          | cons ra rr =>
            cases rr with
            | cons rb rr =>
              cases rr
              cases r2 with
              | cons va r2 =>
                cases r2 with
                | cons vb r2 =>
                  cases r2
                  cases rb with
                  | p rb =>
                    have lk := lk_of st2 ra hk
                    have rx2 := rx.ext st1 x2
                    have xx := x1.trans x2
                    cases hl : dlook ks vs dk with
                    | none => rw [hl] at e0; cases e0
                    | some o =>
                      rw [hl] at e0
                      obtain ⟨a', o', ea, dx, hv⟩ := dlook_dx rx2 lk hl
                      cases ea
                      refine dx_get2 hu I2 dx va vb fun w' s' I' rw' => ?_
                      rcases hv with ⟨rfl, rfl⟩ | ⟨d', u, rfl, rfl, ru⟩
                      · cases e0
                        exact ⟨_, H2, I', rw', q _ H2 W2 xx st2 (.p rb)⟩
                      · cases e0
                        exact ⟨u, H2, I', rw', q _ H2 W2 xx st2 (.p ru)⟩
      · cases e0
    · cases e0
  · cases e0⟩
end
/-! ### repr of what is True, False or an int -/
def dRepr1 : List D → Option D
  | [.bl b] => some (.str (if b then "True" else "False"))
  | _ => none
theorem call_repr_bl {X : Cx} : CallR X (.builtin "repr") (fun xs H Q => ∃ b, xs = [.bl b] ∧ Q (.str (if b then "True" else "False")) H) := by
  intro pins s σ H xs us Q I r h
  obtain ⟨b, rfl, q⟩ := h
  obtain ⟨u, rfl, rfl⟩ := vals1 r
  exact PySem.P.repr_of_bool ⟨.str _, H, I.tok _, ⟨_, rfl⟩, q⟩
theorem cd_repr1 {X : Cx} : CallD X (.builtin "repr") dRepr1 := by
  refine ⟨_, call_repr_bl, fun H W S vs ds d Q st hL e q => ?_⟩
  unfold dRepr1 at e
  split at e
  · cases e
    obtain ⟨v, rfl, h⟩ := hL.one
    rw [h.bl]
    exact ⟨_, rfl, q.here (.str _)⟩
  · cases e
end EV
namespace EV
open PySem PySem.Spec PyProof.Rows L2
abbrev dSetS := dSetT
/-! ### a law's end -/
theorem ints_reps {K : PySem.W.Frag} {H : Hp} {W : List Addr} : ∀ ns : List Int, Reps K H W (ns.map V.int) (ns.map D.int)
  | [] => .nil
  | n :: ns => .cons (.int n) (ints_reps ns)
theorem law_true {K : PySem.W.Frag} {F : Fn} {most : Nat} (hF : ∀ ns : List Int, ns.length ≤ most → ∃ S', F [.p (.scr (ns.map D.int))] [] = some (.p (.bl true), S')) {H : Hp} {a : Addr} {ns : List Int} {E : XK} (hl : ns.length ≤ most) (hO : Only H) (hS : SqL K H a (ns.map V.int)) :
    spF K F 1 [.ref a] H (fun v _ => v = .bl true) E := by
  obtain ⟨S', e⟩ := hF ns hl
  have sf : SqF K H a (ns.map V.int) := by
    rcases hS with (h | h) | h
    · rcases hO a with z | ⟨o, xs, z⟩
      · rw [z] at h; cases h
      · rw [z] at h; cases h
    · exact .inl h
    · exact .inr h
  refine ⟨[], [], _, _, S', ⟨rfl, List.nodup_nil, fun i a h => by simp at h⟩, .cons (.p (.scr sf (ints_reps ns))) .nil, rfl, e, fun v H' W' _ _ r => ?_⟩
  cases r with
  | p r => cases r; rfl
end EV

set_option Elab.async false
set_option linter.all false
set_option maxRecDepth 100000
namespace EV
open PySem PySem.Spec PyProof.Rows L2
theorem sVar_ap (i : Nat) {σ : PS} {S : Sto} : sVar i σ S = (match σ[i]? with 
    | some (some x) => some (x, S) 
    | _ => none) := Eq.trans rfl rfl
theorem sC_ap (d : D) {σ : PS} {S : Sto} : sC d σ S = (some (.p d, S)) := Eq.trans rfl rfl
theorem sNil_ap  {σ : PS} {S : Sto} : sNil  σ S = (some ([], S)) := Eq.trans rfl rfl
theorem sCons_ap (f : Ex) (g : Exs) {σ : PS} {S : Sto} : sCons f g σ S = (match f σ S with 
    | none => none 
    | some (x, S1) => match g σ S1 with 
      | none => none 
      | some (xs, S2) => some (x :: xs, S2)) := Eq.trans rfl rfl
theorem sTup_ap (f : Exs) {σ : PS} {S : Sto} : sTup f σ S = (match f σ S with 
    | none => none 
    | some (xs, S1) => match purs xs with 
      | some ds => match decide (ds.length ≤ sizeLine) with 
        | true => some (.p (.tup ds), S1) 
        | false => none 
      | none => none) := Eq.trans rfl rfl
theorem sLst_ap (f : Exs) {σ : PS} {S : Sto} : sLst f σ S = (match f σ S with 
    | none => none 
    | some (xs, S1) => match purs xs with 
      | some ds => match decide (ds.length ≤ sizeLine) with 
        | true => some (.p (.lst ds), S1) 
        | false => none 
      | none => none) := Eq.trans rfl rfl
theorem sMut_ap (f : Exs) {σ : PS} {S : Sto} : sMut f σ S = (match f σ S with 
    | none => none 
    | some (xs, S1) => match purs xs with 
      | some ds => match decide (ds.length ≤ sizeLine) with 
        | true => some (.m S1.length, S1 ++ [ds]) 
        | false => none 
      | none => none) := Eq.trans rfl rfl
theorem s2_ap (g : D → D → Option D) (fa fb : Ex) {σ : PS} {S : Sto} : s2 g fa fb σ S = (match fa σ S with 
    | none => none 
    | some (x, S1) => match fb σ S1 with 
      | none => none 
      | some (y, S2) => match rd S2 x, rd S2 y with 
        | some a, some b => match g a b with 
          | some d => some (.p d, S2) 
          | none => none 
        | _, _ => none) := Eq.trans rfl rfl
theorem sChain_ap (g g' : D → D → Option D) (fa fb fc : Ex) {σ : PS} {S : Sto} : sChain g g' fa fb fc σ S = (match fa σ S with 
    | none => none 
    | some (x, S1) => match fb σ S1 with 
      | none => none 
      | some (y, S2) => match rd S2 x, rd S2 y with 
        | some a, some b => match g a b with 
          | some (.bl false) => some (.p (.bl false), S2) 
          | some (.bl true) => match fc σ S2 with 
            | none => none 
            | some (z, S3) => match rd S3 y, rd S3 z with 
              | some b, some c => match g' b c with 
                | some d => some (.p d, S3) 
                | none => none 
              | _, _ => none 
          | _ => none 
        | _, _ => none) := Eq.trans rfl rfl
theorem sAnd_ap (fa fb : Ex) {σ : PS} {S : Sto} : sAnd fa fb σ S = (match fa σ S with 
    | some (.p (.bl true), S1) => fb σ S1 
    | some (.p (.bl false), S1) => some (.p (.bl false), S1) 
    | _ => none) := Eq.trans rfl rfl
theorem sOr_ap (fa fb : Ex) {σ : PS} {S : Sto} : sOr fa fb σ S = (match fa σ S with 
    | some (.p (.bl false), S1) => fb σ S1 
    | some (.p (.bl true), S1) => some (.p (.bl true), S1) 
    | _ => none) := Eq.trans rfl rfl
theorem sNot_ap (fa : Ex) {σ : PS} {S : Sto} : sNot fa σ S = (match fa σ S with 
    | some (.p (.bl b), S1) => some (.p (.bl (!b)), S1) 
    | _ => none) := Eq.trans rfl rfl
theorem sIf_ap (ft fa fb : Ex) {σ : PS} {S : Sto} : sIf ft fa fb σ S = (match ft σ S with 
    | some (.p (.bl true), S1) => fa σ S1 
    | some (.p (.bl false), S1) => fb σ S1 
    | _ => none) := Eq.trans rfl rfl
theorem s1_ap (g : D → Option D) (fa : Ex) {σ : PS} {S : Sto} : s1 g fa σ S = (match fa σ S with 
    | none => none 
    | some (x, S1) => match rd S1 x with 
      | some a => match g a with 
        | some d => some (.p d, S1) 
        | none => none 
      | none => none) := Eq.trans rfl rfl
theorem sNoPart_ap  {σ : PS} {S : Sto} : sNoPart  σ S = (some (none, S)) := Eq.trans rfl rfl
theorem sPart_ap (f : Ex) {σ : PS} {S : Sto} : sPart f σ S = (match f σ S with 
    | some (.p (.int i), S1) => some (some i, S1) 
    | _ => none) := Eq.trans rfl rfl
theorem sSl_ap (fa : Ex) (fl fh : Op) {σ : PS} {S : Sto} : sSl fa fl fh σ S = (match fa σ S with 
    | none => none 
    | some (x, S1) => match fl σ S1 with 
      | none => none 
      | some (lo, S2) => match fh σ S2 with 
        | none => none 
        | some (hi, S3) => match rd S3 x with 
          | some (.lst xs) => some (.p (.lst (cutD xs lo hi)), S3) 
          | some (.tup xs) => some (.p (.tup (cutD xs lo hi)), S3) 
          | _ => none) := Eq.trans rfl rfl
theorem sCB_ap (g : List D → Option D) (fs : Exs) {σ : PS} {S : Sto} : sCB g fs σ S = (match fs σ S with 
    | none => none 
    | some (xs, S1) => match rds S1 xs with 
      | some ds => match g ds with 
        | some d => some (.p d, S1) 
        | none => none 
      | none => none) := Eq.trans rfl rfl
theorem sCall_ap (n : Nat) (F : Fn) (fs : Exs) {σ : PS} {S : Sto} : sCall n F fs σ S = (match fs σ S with 
    | none => none 
    | some (xs, S1) => match decide (xs.length = n) with 
      | true => F xs S1 
      | false => none) := Eq.trans rfl rfl
theorem sSkip_ap  {σ : PS} {S : Sto} : sSkip  σ S = (some (.nx σ, S)) := Eq.trans rfl rfl
theorem sSeq_ap (f g : Sx) {σ : PS} {S : Sto} : sSeq f g σ S = (match f σ S with 
    | some (.nx σ1, S1) => g σ1 S1 
    | some (.rt v, S1) => some (.rt v, S1) 
    | none => none) := Eq.trans rfl rfl
theorem sRet_ap (f : Ex) {σ : PS} {S : Sto} : sRet f σ S = (match f σ S with 
    | some (v, S1) => some (.rt v, S1) 
    | none => none) := Eq.trans rfl rfl
theorem sRetN_ap  {σ : PS} {S : Sto} : sRetN  σ S = (some (.rt (.p .non), S)) := Eq.trans rfl rfl
theorem sDrop_ap (f : Ex) {σ : PS} {S : Sto} : sDrop f σ S = (match f σ S with 
    | some (_, S1) => some (.nx σ, S1) 
    | none => none) := Eq.trans rfl rfl
theorem sIfS_ap (t : Ex) (f g : Sx) {σ : PS} {S : Sto} : sIfS t f g σ S = (match t σ S with 
    | some (.p (.bl true), S1) => f σ S1 
    | some (.p (.bl false), S1) => g σ S1 
    | _ => none) := Eq.trans rfl rfl
theorem sBad_ap  {σ : PS} {S : Sto} : sBad  σ S = (none) := Eq.trans rfl rfl
theorem gN_ap (i : Nat) {v : Vl} {σ : PS} : gN i v σ = (some (σ.set i (some v))) := Eq.trans rfl rfl
theorem gT_ap (ts : List Tg) {v : Vl} {σ : PS} : gT ts v σ = (match v with 
    | .p (.tup ds) => gAll ts ds σ 
    | _ => none) := Eq.trans rfl rfl
theorem sAsg_ap (f : Ex) (g : Tg) {σ : PS} {S : Sto} : sAsg f g σ S = (match f σ S with 
    | some (v, S1) => match g v σ with 
      | some σ1 => some (.nx σ1, S1) 
      | none => none 
    | none => none) := Eq.trans rfl rfl
theorem sPar_ap (i j : Nat) (f : Exs) {σ : PS} {S : Sto} : sPar i j f σ S = (match f σ S with 
    | some ([v, w], S1) => some (.nx ((σ.set i (some v)).set j (some w)), S1) 
    | _ => none) := Eq.trans rfl rfl
theorem sSetIx_ap (fo fi fe : Ex) {σ : PS} {S : Sto} : sSetIx fo fi fe σ S = (match fe σ S with 
    | some (.p d, S1) => match fo σ S1 with 
      | some (.m k, S2) => match fi σ S2 with 
        | some (.p (.int i), S3) => match S3[k]? with 
          | some xs => match ixN xs.length i with 
            | some j => some (.nx σ, S3.set k (xs.set j d)) 
            | none => none 
          | none => none 
        | _ => none 
      | _ => none 
    | _ => none) := Eq.trans rfl rfl
theorem sApp_ap (fo fe : Ex) {σ : PS} {S : Sto} : sApp fo fe σ S = (match fo σ S with 
    | some (.m k, S1) => match fe σ S1 with 
      | some (.p d, S2) => match S2[k]? with 
        | some xs => match decide (xs.length < sizeLine) with 
          | true => some (.nx σ, S2.set k (xs ++ [d])) 
          | false => none 
        | none => none 
      | _ => none 
    | _ => none) := Eq.trans rfl rfl
theorem sIt_ap (f : Ex) {σ : PS} {S : Sto} : sIt f σ S = (match f σ S with 
    | some (.p (.lst ds), S1) => some (ds, S1) 
    | some (.p (.tup ds), S1) => some (ds, S1) 
    | _ => none) := Eq.trans rfl rfl
theorem sRng1_ap (f : Exs) {σ : PS} {S : Sto} : sRng1 f σ S = (match f σ S with 
    | some ([.p (.int j)], S1) => match inR j with 
      | true => some (upto 0 j.toNat, S1) 
      | false => none 
    | _ => none) := Eq.trans rfl rfl
theorem sRng2_ap (f : Exs) {σ : PS} {S : Sto} : sRng2 f σ S = (match f σ S with 
    | some ([.p (.int i), .p (.int j)], S1) => match inR i && inR j with 
      | true => some (upto i (j - i).toNat, S1) 
      | false => none 
    | _ => none) := Eq.trans rfl rfl
theorem sFor_ap (it : Ix) (g : Tg) (b : Sx) {σ : PS} {S : Sto} : sFor it g b σ S = (match it σ S with 
    | none => none 
    | some (ds, S1) => loopF g b ds σ S1) := Eq.trans rfl rfl
theorem sWhile_ap (n : Nat) (t : Ex) (b : Sx) {σ : PS} {S : Sto} : sWhile n t b σ S = (loopW t b n σ S) := Eq.trans rfl rfl
theorem sLC_ap (it : Ix) (g : Tg) (t e : Ex) (vs : List Nat) {σ : PS} {S : Sto} : sLC it g t e vs σ S = (match it σ S with 
    | none => none 
    | some (ds, S1) => match loopC (turnC g t e S1.length (wipeP σ vs)) ds (S1 ++ [[]]) with 
      | none => none 
      | some S2 => endF S1.length (.m S1.length) S2) := Eq.trans rfl rfl
theorem sYes_ap  {σ : PS} {S : Sto} : sYes  σ S = (some (.p (.bl true), S)) := Eq.trans rfl rfl
theorem sLC2_ap (it : Ix) (g : Tg) (t : Ex) (it1 : Ix) (g1 : Tg) (t1 e : Ex) (vs vs1 : List Nat) {σ : PS} {S : Sto} : sLC2 it g t it1 g1 t1 e vs vs1 σ S = (match it σ S with 
    | none => none 
    | some (ds, S1) => match loopC (turnD g t it1 vs1 g1 t1 e S1.length (wipeP σ vs)) ds (S1 ++ [[]]) with 
      | none => none 
      | some S2 => endF S1.length (.m S1.length) S2) := Eq.trans rfl rfl
theorem sZip_ap (f : Exs) {σ : PS} {S : Sto} : sZip f σ S = (match f σ S with 
    | some ([.p a, .p b], S1) => match seqD a, seqD b with 
      | some xs, some ys => some (zipD xs ys, S1) 
      | _, _ => none 
    | _ => none) := Eq.trans rfl rfl
theorem sGet2_ap (fo : Ex) (fs : Exs) {σ : PS} {S : Sto} : sGet2 fo fs σ S = (match fo σ S with 
    | some (.p (.dct ks vs), S1) => match fs σ S1 with 
      | some ([k, .p d], S2) => match rd S2 k with 
        | some dk => match dlook ks vs dk with 
          | some (some d') => some (.p d', S2) 
          | some none => some (.p d, S2) 
          | none => none 
        | none => none 
      | _ => none 
    | _ => none) := Eq.trans rfl rfl
theorem runB_ap (N : Nat) (b : Sx) {xs : List Vl} {S : Sto} : runB N b xs S = (match b (begin_ N xs) S with
  | some (.nx _, S') => endF S.length (.p .non) S'
  | some (.rt v, S') => endF S.length v S'
  | none => none) := Eq.trans rfl rfl
theorem runK_ap (N : Nat) (b : Sx) {xs : List Vl} {S : Sto} : runK N b xs S = (match b (begin_ N xs) S with
  | some (.nx _, S') => some (.p .non, S')
  | some (.rt v, S') => some (v, S')
  | none => none) := Eq.trans rfl rfl
theorem sIsi_ap (t : Ty) (fa : Ex) {σ : PS} {S : Sto} : sIsi t fa σ S = s1 (fun d => (isi t d).map .bl) fa σ S := Eq.trans rfl rfl
/-! ### a comprehension over data that the rest does not look at -/
theorem loopC_cons {f : D → Sto → Option Sto} {d : D} {ds : List D} {S S1 : Sto} (h : f d S = some S1) : loopC f (d :: ds) S = loopC f ds S1 := by
  show (match f d S with | some S1 => loopC f ds S1 | none => none) = _
  rw [h]
theorem turnC_yes {g : Tg} {t e : Ex} {n : Nat} {σ0 σ1 : PS} {d y : D} {S S1 S2 : Sto} (h1 : g (.p d) σ0 = some σ1) (h2 : t σ1 S = some (.p (.bl true), S1)) (h3 : e σ1 S1 = some (.p y, S2)) : turnC g t e n σ0 d S = pushA n y S2 := by
  unfold turnC
  rw [h1]
  simp only
  rw [h2]
  simp only
  rw [h3]
theorem turnC_no {g : Tg} {t e : Ex} {n : Nat} {σ0 σ1 : PS} {d : D} {S S1 : Sto} (h1 : g (.p d) σ0 = some σ1) (h2 : t σ1 S = some (.p (.bl false), S1)) : turnC g t e n σ0 d S = some S1 := by
  unfold turnC
  rw [h1]
  simp only
  rw [h2]
theorem pushA_ok {n : Nat} {y : D} {S S' : Sto} {acc : List D} (h1 : S[n]? = some acc) (h2 : acc.length < 16777216) (h3 : S.set n (acc ++ [y]) = S') : pushA n y S = some S' := by
  have h2' : decide (acc.length < sizeLine) = true := by rw [sizeLine_eq]; exact decide_eq_true h2
  unfold pushA
  rw [h1]
  simp only
  rw [h2', ← h3]
theorem loopC_map {α : Type} {g : Tg} {t e : Ex} {n : Nat} {σ0 : PS} {c : α → D} {p : α → Bool} {f : α → D} {S1 : Sto} : ∀ (xs : List α) (acc : List D),
    (∀ x ∈ xs, ∃ σ1, g (.p (c x)) σ0 = some σ1 ∧ (∀ S, t σ1 S = some (.p (.bl (p x)), S)) ∧ (p x = true → ∀ S, e σ1 S = some (.p (f x), S))) → n = S1.length → acc.length + xs.length ≤ 16777216 →
    loopC (turnC g t e n σ0) (xs.map c) (S1 ++ [acc]) = some (S1 ++ [acc ++ (xs.filter p).map f])
  | [], acc, _, _, _ => by simp [loopC]
  | x :: xs, acc, h, hn, hl => by
    obtain ⟨σ1, h1, h2, h3⟩ := h x (by simp)
    have ih := fun acc' hl' => loopC_map (S1 := S1) xs acc' (fun y hy => h y (by simp [hy])) hn hl'
    have hl' : acc.length + (xs.length + 1) ≤ 16777216 := hl
    rw [List.map_cons]
    cases hp : p x with
    | true =>
      rw [loopC_cons ((turnC_yes h1 ((h2 _).trans (by rw [hp])) (h3 hp _)).trans (pushA_ok (acc := acc) (S' := S1 ++ [acc ++ [f x]]) (by rw [hn]; simp) (by omega) (by rw [hn]; simp))), ih (acc ++ [f x]) (by simp; omega)]
      simp [hp]
    | false =>
      rw [loopC_cons (turnC_no h1 ((h2 _).trans (by rw [hp]))), ih acc (by omega)]
      simp [hp]
theorem sLC_map {α : Type} {it : Ix} {g : Tg} {t e : Ex} {vs : List Nat} {σ : PS} {S S1 : Sto} {c : α → D} {p : α → Bool} {f : α → D} {xs : List α} (hit : it σ S = some (xs.map c, S1))
    (h : ∀ x ∈ xs, ∃ σ1, g (.p (c x)) (wipeP σ vs) = some σ1 ∧ (∀ S, t σ1 S = some (.p (.bl (p x)), S)) ∧ (p x = true → ∀ S, e σ1 S = some (.p (f x), S))) (hl : xs.length ≤ 16777216) :
    sLC it g t e vs σ S = some (.p (.lst ((xs.filter p).map f)), S1) := by
  unfold sLC
  rw [hit]
  simp only
  rw [loopC_map (S1 := S1) xs [] h rfl (by simpa using hl)]
  simp [endF]
/-- .. with no test -/
theorem sLC_all {α : Type} {it : Ix} {g : Tg} {e : Ex} {vs : List Nat} {σ : PS} {S S1 : Sto} {c : α → D} {f : α → D} {xs : List α} (hit : it σ S = some (xs.map c, S1))
    (h : ∀ x ∈ xs, ∃ σ1, g (.p (c x)) (wipeP σ vs) = some σ1 ∧ ∀ S, e σ1 S = some (.p (f x), S)) (hl : xs.length ≤ 16777216) :
    sLC it g sYes e vs σ S = some (.p (.lst (xs.map f)), S1) := by
  have := sLC_map (p := fun _ => true) (f := f) (t := sYes) (e := e) (g := g) (vs := vs) hit (fun x hx => by
    obtain ⟨σ1, h1, h2⟩ := h x hx
    exact ⟨σ1, h1, fun S => rfl, fun _ => h2⟩) hl
  rw [List.filter_eq_self.mpr (fun _ _ => rfl)] at this
  exact this
/-! ### while -/
theorem loopW_false {t : Ex} {b : Sx} {n : Nat} {σ : PS} {S S1 : Sto} (h : t σ S = some (.p (.bl false), S1)) : loopW t b (n + 1) σ S = some (.nx σ, S1) := by
  unfold loopW
  rw [h]
theorem loopW_true {t : Ex} {b : Sx} {n : Nat} {σ : PS} {S S1 : Sto} (h : t σ S = some (.p (.bl true), S1)) : loopW t b (n + 1) σ S = match b σ S1 with
    | none => none
    | some (.nx σ2, S2) => loopW t b n σ2 S2
    | some (.rt v, S2) => some (.rt v, S2) := by
  conv => lhs; unfold loopW
  rw [h] <;> rfl
/-! ### for -/
theorem loopF_cons {g : Tg} {b : Sx} {d : D} {ds : List D} {σ σ1 : PS} {S : Sto} (h : g (.p d) σ = some σ1) : loopF g b (d :: ds) σ S = match b σ1 S with
    | none => none
    | some (.nx σ2, S2) => loopF g b ds σ2 S2
    | some (.rt v, S2) => some (.rt v, S2) := by
  conv => lhs; unfold loopF
  rw [h] <;> rfl
theorem sFor_it {it : Ix} {g : Tg} {b : Sx} {σ : PS} {S S1 : Sto} {ds : List D} (h : it σ S = some (ds, S1)) : sFor it g b σ S = loopF g b ds σ S1 := by
  unfold sFor
  rw [h]
/-! ### draws: the first list of the store is the cup -/
def CupOK (c : List D) : Prop := ∃ a b : Int, c = [.int a, .int b] ∧ 0 ≤ a ∧ 0 ≤ b ∧ b < 2 ^ 62
/-- a draw of something that is Q -/
def Drw (F : Sto → Option (Vl × Sto)) (Q : D → Prop) : Prop := ∀ c R, CupOK c → ∃ d c', Q d ∧ CupOK c' ∧ F (c :: R) = some (.p d, c' :: R)
theorem sLC_draw {it : Ix} {g : Tg} {e : Ex} {vs : List Nat} {σ : PS} {Q : D → Prop} {ds : List D} (h : ∀ d ∈ ds, ∃ σ1, g (.p d) (wipeP σ vs) = some σ1 ∧ Drw (e σ1) Q) (hl : ds.length ≤ 16777216) {c : List D} {R S : Sto} (hc : CupOK c)
    (hit : it σ S = some (ds, c :: R)) : ∃ ys c', ys.length = ds.length ∧ (∀ y ∈ ys, Q y) ∧ CupOK c' ∧ sLC it g sYes e vs σ S = some (.p (.lst ys), c' :: R) := by
  have key : ∀ (ds : List D) (acc c : List D), (∀ d ∈ ds, ∃ σ1, g (.p d) (wipeP σ vs) = some σ1 ∧ Drw (e σ1) Q) → acc.length + ds.length ≤ 16777216 → CupOK c →
      ∃ ys c', ys.length = ds.length ∧ (∀ y ∈ ys, Q y) ∧ CupOK c' ∧ loopC (turnC g sYes e (R.length + 1) (wipeP σ vs)) ds (c :: (R ++ [acc])) = some (c' :: (R ++ [acc ++ ys])) := by
    intro ds
    induction ds with
    | nil => intro acc c _ _ hc; exact ⟨[], c, rfl, by simp, hc, by simp [loopC]⟩
    | cons d ds ih =>
      intro acc c h hl hc
      obtain ⟨σ1, h1, h2⟩ := h d (by simp)
      obtain ⟨y, c1, q1, hc1, e1⟩ := h2 c (R ++ [acc]) hc
      have hl' : acc.length + (ds.length + 1) ≤ 16777216 := hl
      obtain ⟨ys, c', i1, i2, i3, i4⟩ := ih (acc ++ [y]) c1 (fun d hd => h d (by simp [hd])) (by simp; omega) hc1
      refine ⟨y :: ys, c', by simp [i1], fun z hz => ?_, i3, ?_⟩
      · rcases List.mem_cons.mp hz with q | q
        · rw [q]; exact q1
        · exact i2 z q
      · rw [loopC_cons ((turnC_yes h1 rfl e1).trans (pushA_ok (acc := acc) (S' := c1 :: (R ++ [acc ++ [y]])) (by simp) (by omega) (by simp))), i4]
        simp
  obtain ⟨ys, c', i1, i2, i3, i4⟩ := key ds [] c h (by simpa using hl) hc
  refine ⟨ys, c', i1, i2, i3, ?_⟩
  unfold sLC
  rw [hit]
  simp only [List.length_cons]
  have : (c :: R ++ [[]] : Sto) = c :: (R ++ [[]]) := rfl
  rw [this, i4]
  simp [endF]
end EV

set_option Elab.async false
set_option maxRecDepth 100000
set_option maxHeartbeats 0
set_option linter.all false
namespace K48
open PySem PySem.Spec PyProof.Rows L2
def top (i : Nat) : Stmt := PySem.Challenge.pw_nearlysure_k48_whole_guarded_tables_fill.main.body.getD i (.Pass ⟨0, 0, 0, 0⟩)
def dd (x : Str) (i : Nat) : He.DefD := ⟨(x, none), x, x, defArgs (top i), defBody (top i), defScope (top i), [], []⟩
def fn : List He.DefD := [dd "is_whole" 9, dd "is_tuple_of" 10, dd "fits_value" 11, dd "does_ascend" 12, dd "row_by" 13, dd "fits_unknowns" 18, dd "fits_cell" 19, dd "parts_within" 20, dd "fits_condition" 21, dd "holds_by" 22, dd "worths_by" 23, dd "need_unknowns" 24, dd "need_filling_of" 25, dd "fits_entry" 28, dd "fits_guarded" 29, dd "rows_filled" 30, dd "filled_guarded" 31, dd "need_guarded" 32, dd "is_guarded" 33, dd "guarded_filled" 34, dd "_law_cup" 36, dd "_law_roll" 37, dd "_law_some" 38, dd "_law_put" 39, dd "_law_some_unknowns" 40, dd "_law_any_cell" 41, dd "_law_condition" 42, dd "_law_true" 43, dd "_law_by" 44, dd "_law_cells" 45, dd "_law_worthy" 46, dd "_law_number" 47, dd "_law_is_cell" 48, dd "_law_weight" 49, dd "_law_guarded" 50, dd "_law_full" 51, dd "_law_spoilt" 52, dd "_law_fits" 53, dd "_law_right" 54, dd "law" 55]
def fa : List He.Fa := [.glo "is_whole", .glo "is_tuple_of", .glo "fits_value", .glo "does_ascend", .glo "row_by", .glo "fits_unknowns", .glo "fits_cell", .glo "parts_within", .glo "fits_condition", .glo "holds_by", .glo "worths_by", .glo "need_unknowns", .glo "need_filling_of", .glo "fits_entry", .glo "fits_guarded", .glo "rows_filled", .glo "filled_guarded", .glo "need_guarded", .glo "is_guarded", .glo "guarded_filled", .glo "_law_cup", .glo "_law_roll", .glo "_law_some", .glo "_law_put", .glo "_law_some_unknowns", .glo "_law_any_cell", .glo "_law_condition", .glo "_law_true", .glo "_law_by", .glo "_law_cells", .glo "_law_worthy", .glo "_law_number", .glo "_law_is_cell", .glo "_law_weight", .glo "_law_guarded", .glo "_law_full", .glo "_law_spoilt", .glo "_law_fits", .glo "_law_right", .glo "law", .free "ValueError", .free "abs", .free "all", .free "any", .free "bool", .free "dict", .free "int", .free "isinstance", .free "len", .free "list", .free "range", .free "repr", .free "set", .free "sorted", .free "str", .free "sum", .free "tuple", .free "zip", .int "GREATEST" (1000000), .int "LEAST" (-6), .int "COLUMNS" (6), .int "UNKNOWNS" (6), .int "PARTS" (1000), .int "DEEPEST" (12), .int "ENTRIES" (200)]
def ex (K : PySem.W.Frag) : Bool := true
abbrev R : PySem.W.OpenRow := PySem.W.OpenLaw.row PySem.Challenge.rw_nearlysure_k48_whole_guarded_tables_fill
def names0 : List Str := [("SureError" : Str), ("InvalidFilling" : Str), ("InvalidUnknowns" : Str), ("InvalidGuarded" : Str), ("GREATEST" : Str), ("LEAST" : Str), ("COLUMNS" : Str), ("is_whole" : Str), ("is_tuple_of" : Str), ("fits_value" : Str), ("does_ascend" : Str), ("row_by" : Str), ("UNKNOWNS" : Str), ("PARTS" : Str), ("DEEPEST" : Str), ("fits_unknowns" : Str), ("fits_cell" : Str), ("parts_within" : Str), ("fits_condition" : Str), ("holds_by" : Str), ("worths_by" : Str), ("need_unknowns" : Str), ("need_filling_of" : Str), ("ENTRIES" : Str), ("fits_entry" : Str), ("fits_guarded" : Str), ("rows_filled" : Str), ("filled_guarded" : Str), ("need_guarded" : Str), ("is_guarded" : Str), ("guarded_filled" : Str), ("_law_cup" : Str), ("_law_roll" : Str), ("_law_some" : Str), ("_law_put" : Str), ("_law_some_unknowns" : Str), ("_law_any_cell" : Str), ("_law_condition" : Str), ("_law_true" : Str), ("_law_by" : Str)]
def names1 : List Str := [("_law_cells" : Str), ("_law_worthy" : Str), ("_law_number" : Str), ("_law_is_cell" : Str), ("_law_weight" : Str), ("_law_guarded" : Str), ("_law_full" : Str), ("_law_spoilt" : Str), ("_law_fits" : Str), ("_law_right" : Str)]
def names : List Str := names0 ++ names1
def lawAt : Nat := 55
def nTop : Nat := 6560
abbrev AlE : Type := He.AlD × Bool
def obsE (n : Nat) (g : Addr → Option Obj) : AlE := (He.obsD fa fn (He.frG g (He.asD g n)), ex (He.frG g (He.asD g n)))
def valE : AlE := (He.valD fn, true)
def hookE (n : Nat) : PySem.W.Hook where
  α := AlE
  obs := fun s => obsE n s.heap.get?
  val := fun _ => valE
  says := fun _ h => ∃ K : PySem.W.Frag, K.In h ∧ He.SaysD fa fn K ∧ ex K = true
  of := fun _ _ e => ⟨_, He.frG_in, congrArg (fun z : AlE => z.1) e, congrArg (fun z : AlE => z.2) e⟩
  keeps := fun _ _ _ ⟨K, hK, c⟩ k => ⟨K, PySem.W.Frag.In.keeps hK k, c⟩
abbrev hk : PySem.W.Hook := hookE 2
def ob (s : PySem.W.SharedT) : AlE := obsE 2 (HandSHeadRun.getT s)
theorem ob_eq (s : PySem.W.SharedT) : ob s = hk.obs s.abs := by
  have e : HandSHeadRun.getT s = s.abs.heap.get? := funext fun a => HandSHeadRun.getT_eq s a
  show obsE 2 (HandSHeadRun.getT s) = obsE 2 s.abs.heap.get?
  rw [e]
theorem run (w : World) : HandSHeadRun.RunEq R (PySem.W.view R.prog [lawAt]) hk ob nTop names w := by
  intro os
  kernel_rfl
end K48

set_option Elab.async false
set_option linter.all false
set_option maxRecDepth 100000
set_option maxHeartbeats 0
namespace K48
open PySem PySem.Spec PyProof.Rows L2 EV
def b_is_whole : Sx := sRet (sAnd (sIsi .int (sVar 0)) (sAnd (sNot (sIsi .bool (sVar 0))) (sChain dLe dLe (sVar 1) (sVar 0) (sVar 2))))
def F_is_whole : Fn := runB 3 b_is_whole
def b_is_tuple_of : Sx := sRet (sAnd (sIsi .tup (sVar 0)) (sChain dLe dLe (sVar 1) (sCB dLen (sCons (sVar 0) (sNil))) (sVar 2)))
def F_is_tuple_of : Fn := runB 3 b_is_tuple_of
def b_fits_value : Sx := sRet (sCall 3 F_is_whole (sCons (sVar 0) (sCons (sC (.int 0)) (sCons (sC (.int (1000000))) (sNil)))))
def F_fits_value : Fn := runB 1 b_fits_value
def b_does_ascend : Sx := sRet (sCB dAll (sCons (sLC (sZip (sCons (sVar 0) (sCons (sSl (sVar 0) (sPart (sC (.int 1))) sNoPart) (sNil)))) (gT [gN 1, gN 2]) (sYes) (s2 dLt (sVar 1) (sVar 2)) [1, 2]) (sNil)))
def F_does_ascend : Fn := runB 3 b_does_ascend
def b_row_by : Sx := sRet (sCB dTuple (sCons (sLC (sIt (sVar 0)) (gN 2) (sYes) (sGet2 (sVar 1) (sCons (sVar 2) (sCons (sVar 2) (sNil)))) [2]) (sNil)))
def F_row_by : Fn := runB 3 b_row_by
def b_fits_unknowns : Sx := sRet (sAnd (sCall 3 F_is_tuple_of (sCons (sVar 0) (sCons (sC (.int 0)) (sCons (sC (.int (6))) (sNil))))) (sAnd (sCB dAll (sCons (sLC (sIt (sVar 0)) (gN 1) (sYes) (sCall 3 F_is_whole (sCons (sVar 1) (sCons (sC (.int (-6))) (sCons (s1 dNeg (sC (.int 1))) (sNil))))) [1]) (sNil))) (sCall 1 F_does_ascend (sCons (sVar 0) (sNil)))))
def F_fits_unknowns : Fn := runB 2 b_fits_unknowns
def b_fits_cell : Sx := sRet (sOr (sCall 1 F_fits_value (sCons (sVar 1) (sNil))) (sAnd (sCall 3 F_is_whole (sCons (sVar 1) (sCons (sC (.int (-6))) (sCons (s1 dNeg (sC (.int 1))) (sNil))))) (s2 (dInP id) (sVar 1) (sVar 0))))
def F_fits_cell : Fn := runB 2 b_fits_cell
def b_parts_within : Sx := sSeq (sIfS (sOr (sNot (sCall 3 F_is_tuple_of (sCons (sVar 1) (sCons (sC (.int 2)) (sCons (sC (.int 3)) (sNil)))))) (sNot (sIsi .str (s2 dIx (sVar 1) (sC (.int 0)))))) (sRet (sC .non)) (sSkip)) (sSeq (sPar 2 3 (sCons (s2 dIx (sVar 1) (sC (.int 0))) (sCons (sSl (sVar 1) (sPart (sC (.int 1))) sNoPart) (sNil)))) (sSeq (sIfS (s2 dEq (sVar 2) (sC (.str "same"))) (sRet (sIf (sAnd (s2 dEq (sCB dLen (sCons (sVar 3) (sNil))) (sC (.int 2))) (sCB dAll (sCons (sLC (sIt (sVar 3)) (gN 4) (sYes) (sCall 2 F_fits_cell (sCons (sVar 0) (sCons (sVar 4) (sNil)))) [4]) (sNil)))) (sLst (sNil)) (sC .non))) (sSkip)) (sSeq (sIfS (s2 dNe (sCB dLen (sCons (sVar 3) (sNil))) (sC (.int 1))) (sRet (sC .non)) (sSkip)) (sSeq (sIfS (s2 dEq (sVar 2) (sC (.str "not"))) (sRet (sLst (sCons (s2 dIx (sVar 3) (sC (.int 0))) (sNil)))) (sSkip)) (sRet (sIf (sAnd (s2 (dInP id) (sVar 2) (sTup (sCons (sC (.str "all")) (sCons (sC (.str "some")) (sNil))))) (sCall 3 F_is_tuple_of (sCons (s2 dIx (sVar 3) (sC (.int 0))) (sCons (sC (.int 0)) (sCons (sC (.int (1000))) (sNil)))))) (sCB dList (sCons (s2 dIx (sVar 3) (sC (.int 0))) (sNil))) (sC .non)))))))
def F_parts_within : Fn := runB 5 b_parts_within
def b_fits_condition : Sx := sSeq (sPar 2 3 (sCons (sLst (sCons (sTup (sCons (sVar 1) (sCons (sC (.int 0)) (sNil)))) (sNil))) (sCons (sC (.int 0)) (sNil)))) (sSeq (sWhile 1100 (s2 dNe (sVar 2) (sLst (sNil))) (sSeq (sAsg (sTup (sCons (s2 dIx (sVar 2) (sC (.int 0))) (sCons (sSl (sVar 2) (sPart (sC (.int 1))) sNoPart) (sCons (s2 dAdd (sVar 3) (sC (.int 1))) (sNil))))) (gT [gT [gN 5, gN 6], gN 2, gN 3])) (sSeq (sAsg (sCall 2 F_parts_within (sCons (sVar 0) (sCons (sVar 5) (sNil)))) (gN 4)) (sSeq (sIfS (sOr (s2 (dIsN id) (sVar 4) (sC .non)) (sOr (s2 dGt (sVar 6) (sC (.int (12)))) (s2 dGt (sVar 3) (sC (.int (1000)))))) (sRet (sC (.bl false))) (sSkip)) (sAsg (s2 dAdd (sLC (sIt (sVar 4)) (gN 7) (sYes) (sTup (sCons (sVar 7) (sCons (s2 dAdd (sVar 6) (sC (.int 1))) (sNil)))) [7]) (sVar 2)) (gN 2)))))) (sRet (sC (.bl true))))
def F_fits_condition : Fn := runB 8 b_fits_condition
def b_holds_by (Fs : Fn) : Sx := sSeq (sIfS (s2 dEq (s2 dIx (sVar 0) (sC (.int 0))) (sC (.str "same"))) (sRet (s2 dEq (sGet2 (sVar 1) (sCons (s2 dIx (sVar 0) (sC (.int 1))) (sCons (s2 dIx (sVar 0) (sC (.int 1))) (sNil)))) (sGet2 (sVar 1) (sCons (s2 dIx (sVar 0) (sC (.int 2))) (sCons (s2 dIx (sVar 0) (sC (.int 2))) (sNil)))))) (sSkip)) (sSeq (sIfS (s2 dEq (s2 dIx (sVar 0) (sC (.int 0))) (sC (.str "not"))) (sRet (sNot (sCall 2 Fs (sCons (s2 dIx (sVar 0) (sC (.int 1))) (sCons (sVar 1) (sNil)))))) (sSkip)) (sSeq (sIfS (s2 dEq (s2 dIx (sVar 0) (sC (.int 0))) (sC (.str "all"))) (sRet (sCB dAll (sCons (sLC (sIt (s2 dIx (sVar 0) (sC (.int 1)))) (gN 2) (sYes) (sCall 2 Fs (sCons (sVar 2) (sCons (sVar 1) (sNil)))) [2]) (sNil)))) (sSkip)) (sRet (sCB dAny (sCons (sLC (sIt (s2 dIx (sVar 0) (sC (.int 1)))) (gN 2) (sYes) (sCall 2 Fs (sCons (sVar 2) (sCons (sVar 1) (sNil)))) [2]) (sNil))))))
def F_holds_by : Nat → Fn
  | 0 => noF
  | n + 1 => runB 3 (b_holds_by (F_holds_by n))
def b_worths_by : Sx := sRet (sCB dDictP (sCons (sCB dLstZip (sCons (sVar 0) (sCons (sVar 1) (sNil)))) (sNil)))
def F_worths_by : Fn := runB 2 b_worths_by
def b_need_unknowns : Sx := sIfS (sNot (sCall 1 F_fits_unknowns (sCons (sVar 0) (sNil)))) (sBad) (sSkip)
def F_need_unknowns : Fn := runB 1 b_need_unknowns
def b_need_filling_of : Sx := sIfS (sOr (sNot (sCall 3 F_is_tuple_of (sCons (sVar 1) (sCons (sCB dLen (sCons (sVar 0) (sNil))) (sCons (sCB dLen (sCons (sVar 0) (sNil))) (sNil)))))) (sNot (sCB dAll (sCons (sLC (sIt (sVar 1)) (gN 2) (sYes) (sCall 1 F_fits_value (sCons (sVar 2) (sNil))) [2]) (sNil))))) (sBad) (sSkip)
def F_need_filling_of : Fn := runB 3 b_need_filling_of
def b_fits_entry : Sx := sSeq (sIfS (sOr (sNot (sCall 3 F_is_tuple_of (sCons (sVar 2) (sCons (sC (.int 2)) (sCons (sC (.int 2)) (sNil)))))) (sNot (sCall 3 F_is_tuple_of (sCons (s2 dIx (sVar 2) (sC (.int 0))) (sCons (sVar 1) (sCons (sVar 1) (sNil))))))) (sRet (sC (.bl false))) (sSkip)) (sRet (sAnd (sCB dAll (sCons (sLC (sIt (s2 dIx (sVar 2) (sC (.int 0)))) (gN 3) (sYes) (sCall 2 F_fits_cell (sCons (sVar 0) (sCons (sVar 3) (sNil)))) [3]) (sNil))) (sCall 2 F_fits_condition (sCons (sVar 0) (sCons (s2 dIx (sVar 2) (sC (.int 1))) (sNil))))))
def F_fits_entry : Fn := runB 4 b_fits_entry
def b_fits_guarded : Sx := sSeq (sIfS (sOr (sNot (sCall 3 F_is_tuple_of (sCons (sVar 1) (sCons (sC (.int 2)) (sCons (sC (.int 2)) (sNil)))))) (sOr (sNot (sCall 3 F_is_whole (sCons (s2 dIx (sVar 1) (sC (.int 0))) (sCons (sC (.int 0)) (sCons (sC (.int (6))) (sNil)))))) (sNot (sCall 3 F_is_tuple_of (sCons (s2 dIx (sVar 1) (sC (.int 1))) (sCons (sC (.int 0)) (sCons (sC (.int (200))) (sNil)))))))) (sRet (sC (.bl false))) (sSkip)) (sRet (sCB dAll (sCons (sLC (sIt (s2 dIx (sVar 1) (sC (.int 1)))) (gN 2) (sYes) (sCall 3 F_fits_entry (sCons (sVar 0) (sCons (s2 dIx (sVar 1) (sC (.int 0))) (sCons (sVar 2) (sNil))))) [2]) (sNil))))
def F_fits_guarded : Fn := runB 3 b_fits_guarded
def b_rows_filled : Sx := sRet (sCB dTuple (sCons (sCB dSetS (sCons (sLC (sIt (sVar 0)) (gN 2) (sYes) (sCall 2 F_row_by (sCons (sVar 2) (sCons (sVar 1) (sNil)))) [2]) (sNil))) (sNil)))
def F_rows_filled : Fn := runB 3 b_rows_filled
def b_filled_guarded : Sx := sRet (sCall 2 F_rows_filled (sCons (sLC (sIt (s2 dIx (sVar 0) (sC (.int 1)))) (gT [gN 2, gN 3]) (sCall 2 (F_holds_by 16) (sCons (sVar 3) (sCons (sVar 1) (sNil)))) (sVar 2) [2, 3]) (sCons (sVar 1) (sNil))))
def F_filled_guarded : Fn := runB 4 b_filled_guarded
def b_need_guarded : Sx := sIfS (sNot (sCall 2 F_fits_guarded (sCons (sVar 0) (sCons (sVar 1) (sNil))))) (sBad) (sSkip)
def F_need_guarded : Fn := runB 2 b_need_guarded
def b_is_guarded : Sx := sSeq (sDrop (sCall 1 F_need_unknowns (sCons (sVar 0) (sNil)))) (sRet (sCall 2 F_fits_guarded (sCons (sVar 0) (sCons (sVar 1) (sNil)))))
def F_is_guarded : Fn := runB 2 b_is_guarded
def b_guarded_filled : Sx := sSeq (sDrop (sCall 1 F_need_unknowns (sCons (sVar 0) (sNil)))) (sSeq (sDrop (sCall 2 F_need_guarded (sCons (sVar 0) (sCons (sVar 1) (sNil))))) (sSeq (sDrop (sCall 2 F_need_filling_of (sCons (sVar 0) (sCons (sVar 2) (sNil))))) (sRet (sCall 2 F_filled_guarded (sCons (sVar 1) (sCons (sCall 2 F_worths_by (sCons (sVar 0) (sCons (sVar 2) (sNil)))) (sNil)))))))
def F_guarded_filled : Fn := runB 3 b_guarded_filled
def b__law_cup : Sx := sSeq (sAsg (sCB dAbs (sCons (s2 dIx (s2 dAdd (sCB dList (sCons (sVar 0) (sNil))) (sLst (sCons (sC (.int 0)) (sNil)))) (sC (.int 0))) (sNil))) (gN 1)) (sRet (sMut (sCons (sIf (s2 dGe (sVar 1) (s2 dPow (sC (.int 10)) (sC (.int 18)))) (s2 dFDiv (sVar 1) (sC (.int 43))) (sC (.int 0))) (sCons (s2 dAdd (s2 dMod (sCB dIntT (sCons (s2 dAdd (s2 dMul (sVar 1) (sC (.int 251))) (sC (.int 2111))) (sNil))) (sC (.int 2077503307))) (sC (.int 137))) (sNil)))))
def F__law_cup : Fn := runK 2 b__law_cup
def b__law_roll : Sx := sSeq (sIfS (s2 dGt (s2 dIx (sVar 0) (sC (.int 0))) (sC (.int 0))) (sSeq (sAsg (s2 dMod (sCB dIntT (sCons (s2 dIx (sVar 0) (sC (.int 0))) (sNil))) (sVar 1)) (gN 3)) (sSeq (sSetIx (sVar 0) (sC (.int 0)) (s2 dFDiv (s2 dIx (sVar 0) (sC (.int 0))) (sVar 1))) (sRet (sVar 3)))) (sSkip)) (sSeq (sSetIx (sVar 0) (sC (.int 1)) (s2 dMod (sCB dIntT (sCons (s2 dAdd (s2 dMul (s2 dIx (sVar 0) (sC (.int 1))) (sC (.int 30983))) (sC (.int 7933))) (sNil))) (sC (.int 2147483563)))) (sSeq (sAsg (s2 dMod (sCB dIntT (sCons (s2 dMul (s2 dIx (sVar 0) (sC (.int 1))) (s2 dAdd (s2 dIx (sVar 0) (sC (.int 1))) (sC (.int 197)))) (sNil))) (sC (.int 2147483587))) (gN 2)) (sRet (s2 dMod (sCB dIntT (sCons (s2 dFDiv (sVar 2) (sC (.int 773))) (sNil))) (sVar 1)))))
def F__law_roll : Fn := runB 4 b__law_roll
def b__law_some : Sx := sRet (s2 dIx (sVar 1) (sCall 2 F__law_roll (sCons (sVar 0) (sCons (sCB dLen (sCons (sVar 1) (sNil))) (sNil)))))
def F__law_some : Fn := runB 2 b__law_some
def b__law_put : Sx := sRet (sCB dTuple (sCons (sLC (sIt (sVar 0)) (gN 2) (sYes) (sGet2 (sVar 1) (sCons (sVar 2) (sCons (sVar 2) (sNil)))) [2]) (sNil)))
def F__law_put : Fn := runB 3 b__law_put
def b__law_some_unknowns : Sx := sRet (sCall 2 F__law_some (sCons (sVar 0) (sCons (sLst (sCons (sTup (sNil)) (sCons (sTup (sCons (s1 dNeg (sC (.int 1))) (sNil))) (sCons (sTup (sCons (s1 dNeg (sC (.int 1))) (sNil))) (sCons (sTup (sCons (s1 dNeg (sC (.int 2))) (sCons (s1 dNeg (sC (.int 1))) (sNil)))) (sCons (sTup (sCons (s1 dNeg (sC (.int 2))) (sCons (s1 dNeg (sC (.int 1))) (sNil)))) (sCons (sTup (sCons (s1 dNeg (sC (.int 5))) (sCons (s1 dNeg (sC (.int 1))) (sNil)))) (sCons (sTup (sCons (s1 dNeg (sC (.int 6))) (sCons (s1 dNeg (sC (.int 3))) (sNil)))) (sCons (sTup (sCons (s1 dNeg (sC (.int 3))) (sCons (s1 dNeg (sC (.int 2))) (sCons (s1 dNeg (sC (.int 1))) (sNil))))) (sNil)))))))))) (sNil))))
def F__law_some_unknowns : Fn := runB 1 b__law_some_unknowns
def b__law_any_cell : Sx := sRet (sCall 2 F__law_some (sCons (sVar 0) (sCons (s2 dAdd (sLst (sCons (sC (.int 1)) (sCons (sC (.int 2)) (sCons (sC (.int 3)) (sNil))))) (s2 dMul (sCB dList (sCons (sVar 1) (sNil))) (sC (.int 2)))) (sNil))))
def F__law_any_cell : Fn := runB 2 b__law_any_cell
def b__law_condition (Fs : Fn) : Sx := sSeq (sAsg (sCall 2 F__law_roll (sCons (sVar 0) (sCons (sC (.int 6)) (sNil)))) (gN 3)) (sSeq (sIfS (sOr (s2 dEq (sVar 2) (sC (.int 0))) (s2 dLt (sVar 3) (sC (.int 2)))) (sRet (sTup (sCons (sC (.str "same")) (sCons (sCall 2 F__law_any_cell (sCons (sVar 0) (sCons (sVar 1) (sNil)))) (sCons (sCall 2 F__law_any_cell (sCons (sVar 0) (sCons (sVar 1) (sNil)))) (sNil)))))) (sSkip)) (sSeq (sIfS (s2 dEq (sVar 3) (sC (.int 2))) (sRet (sTup (sCons (sC (.str "not")) (sCons (sCall 3 Fs (sCons (sVar 0) (sCons (sVar 1) (sCons (s2 dSub (sVar 2) (sC (.int 1))) (sNil))))) (sNil))))) (sSkip)) (sRet (sTup (sCons (sCall 2 F__law_some (sCons (sVar 0) (sCons (sLst (sCons (sC (.str "all")) (sCons (sC (.str "some")) (sNil)))) (sNil)))) (sCons (sCB dTuple (sCons (sLC (sRng1 (sCons (sCall 2 F__law_roll (sCons (sVar 0) (sCons (sC (.int 4)) (sNil)))) (sNil))) (gN 4) (sYes) (sCall 3 Fs (sCons (sVar 0) (sCons (sVar 1) (sCons (s2 dSub (sVar 2) (sC (.int 1))) (sNil))))) [4]) (sNil))) (sNil)))))))
def F__law_condition : Nat → Fn
  | 0 => noF
  | n + 1 => runB 5 (b__law_condition (F__law_condition n))
def b__law_true (Fs : Fn) : Sx := sSeq (sAsg (s2 dIx (sVar 0) (sC (.int 0))) (gN 2)) (sSeq (sIfS (s2 dEq (sVar 2) (sC (.str "same"))) (sSeq (sAsg (sSl (sVar 0) (sPart (sC (.int 1))) sNoPart) (gT [gN 4, gN 5])) (sRet (s2 dEq (sGet2 (sVar 1) (sCons (sVar 4) (sCons (sVar 4) (sNil)))) (sGet2 (sVar 1) (sCons (sVar 5) (sCons (sVar 5) (sNil))))))) (sSkip)) (sSeq (sIfS (s2 dEq (sVar 2) (sC (.str "not"))) (sRet (sNot (sCall 2 Fs (sCons (s2 dIx (sVar 0) (sC (.int 1))) (sCons (sVar 1) (sNil)))))) (sSkip)) (sSeq (sAsg (sLC (sIt (s2 dIx (sVar 0) (sC (.int 1)))) (gN 6) (sYes) (sCall 2 Fs (sCons (sVar 6) (sCons (sVar 1) (sNil)))) [6]) (gN 3)) (sRet (sIf (s2 dEq (sVar 2) (sC (.str "all"))) (s2 (dInP not) (sC (.bl false)) (sVar 3)) (s2 (dInP id) (sC (.bl true)) (sVar 3)))))))
def F__law_true : Nat → Fn
  | 0 => noF
  | n + 1 => runB 7 (b__law_true (F__law_true n))
def b__law_by : Sx := sRet (sCB dDictP (sCons (sCB dLstZip (sCons (sVar 0) (sCons (sVar 1) (sNil)))) (sNil)))
def F__law_by : Fn := runB 2 b__law_by
def b__law_cells (Fs : Fn) : Sx := sSeq (sIfS (s2 dEq (s2 dIx (sVar 0) (sC (.int 0))) (sC (.str "same"))) (sRet (sCB dList (sCons (sSl (sVar 0) (sPart (sC (.int 1))) sNoPart) (sNil)))) (sSkip)) (sSeq (sIfS (s2 dEq (s2 dIx (sVar 0) (sC (.int 0))) (sC (.str "not"))) (sRet (sCall 1 Fs (sCons (s2 dIx (sVar 0) (sC (.int 1))) (sNil)))) (sSkip)) (sSeq (sAsg (sLst (sNil)) (gN 1)) (sSeq (sFor (sIt (s2 dIx (sVar 0) (sC (.int 1)))) (gN 2) (sAsg (s2 dAdd (sVar 1) (sCall 1 Fs (sCons (sVar 2) (sNil)))) (gN 1))) (sRet (sVar 1)))))
def F__law_cells : Nat → Fn
  | 0 => noF
  | n + 1 => runB 3 (b__law_cells (F__law_cells n))
def b__law_worthy : Sx := sRet (sCB dTuple (sCons (sCB dSetS (sCons (sLC (sIt (sVar 0)) (gN 1) (s2 dGe (sVar 1) (sC (.int 0))) (sVar 1) [1]) (sNil))) (sNil)))
def F__law_worthy : Fn := runB 2 b__law_worthy
def b__law_number : Sx := sRet (sAnd (sIsi .int (sVar 0)) (sAnd (sNot (sIsi .bool (sVar 0))) (sChain dLe dLe (sVar 1) (sVar 0) (sVar 2))))
def F__law_number : Fn := runB 3 b__law_number
def b__law_is_cell : Sx := sRet (sOr (sCall 3 F__law_number (sCons (sVar 1) (sCons (sC (.int 0)) (sCons (s2 dPow (sC (.int 10)) (sC (.int 6))) (sNil))))) (sAnd (sCall 3 F__law_number (sCons (sVar 1) (sCons (s1 dNeg (sC (.int 6))) (sCons (s1 dNeg (sC (.int 1))) (sNil))))) (s2 (dInP id) (sVar 1) (sVar 0))))
def F__law_is_cell : Fn := runB 2 b__law_is_cell
def b__law_weight (Fs : Fn) : Sx := sSeq (sIfS (sOr (sNot (sIsi .tup (sVar 1))) (sOr (s2 dEq (sVar 1) (sTup (sNil))) (sOr (sNot (sIsi .str (s2 dIx (sVar 1) (sC (.int 0))))) (s2 dLt (sVar 2) (sC (.int 0)))))) (sRet (sC (.int 5000))) (sSkip)) (sSeq (sIfS (s2 dEq (s2 dIx (sVar 1) (sC (.int 0))) (sC (.str "same"))) (sRet (sIf (sAnd (s2 dEq (sCB dLen (sCons (sVar 1) (sNil))) (sC (.int 3))) (sAnd (sCall 2 F__law_is_cell (sCons (sVar 0) (sCons (s2 dIx (sVar 1) (sC (.int 1))) (sNil)))) (sCall 2 F__law_is_cell (sCons (sVar 0) (sCons (s2 dIx (sVar 1) (sC (.int 2))) (sNil)))))) (sC (.int 1)) (sC (.int 5000)))) (sSkip)) (sSeq (sIfS (sOr (s2 dNe (sCB dLen (sCons (sVar 1) (sNil))) (sC (.int 2))) (s2 (dInP not) (s2 dIx (sVar 1) (sC (.int 0))) (sTup (sCons (sC (.str "not")) (sCons (sC (.str "all")) (sCons (sC (.str "some")) (sNil))))))) (sRet (sC (.int 5000))) (sSkip)) (sSeq (sIfS (s2 dEq (s2 dIx (sVar 1) (sC (.int 0))) (sC (.str "not"))) (sRet (s2 dAdd (sC (.int 1)) (sCall 3 Fs (sCons (sVar 0) (sCons (s2 dIx (sVar 1) (sC (.int 1))) (sCons (s2 dSub (sVar 2) (sC (.int 1))) (sNil))))))) (sSkip)) (sSeq (sIfS (sNot (sIsi .tup (s2 dIx (sVar 1) (sC (.int 1))))) (sRet (sC (.int 5000))) (sSkip)) (sRet (s2 dAdd (sC (.int 1)) (sCB dSum (sCons (sLC (sIt (s2 dIx (sVar 1) (sC (.int 1)))) (gN 3) (sYes) (sCall 3 Fs (sCons (sVar 0) (sCons (sVar 3) (sCons (s2 dSub (sVar 2) (sC (.int 1))) (sNil))))) [3]) (sNil)))))))))
def F__law_weight : Nat → Fn
  | 0 => noF
  | n + 1 => runB 4 (b__law_weight (F__law_weight n))
def b__law_guarded : Sx := sSeq (sAsg (sTup (sNil)) (gN 4)) (sSeq (sFor (sRng1 (sCons (sCall 2 F__law_roll (sCons (sVar 0) (sCons (s2 dAdd (sVar 3) (sC (.int 1))) (sNil)))) (sNil))) (gN 5) (sSeq (sAsg (sCB dTuple (sCons (sLC (sRng1 (sCons (sVar 2) (sNil))) (gN 8) (sYes) (sCall 2 F__law_any_cell (sCons (sVar 0) (sCons (sVar 1) (sNil)))) [8]) (sNil))) (gN 6)) (sSeq (sAsg (sIf (s2 dEq (sCall 2 F__law_roll (sCons (sVar 0) (sCons (sC (.int 3)) (sNil)))) (sC (.int 0))) (sTup (sCons (sC (.str "all")) (sCons (sTup (sNil)) (sNil)))) (sCall 3 (F__law_condition 16) (sCons (sVar 0) (sCons (sVar 1) (sCons (sC (.int 2)) (sNil)))))) (gN 7)) (sAsg (s2 dAdd (sVar 4) (sTup (sCons (sTup (sCons (sVar 6) (sCons (sVar 7) (sNil)))) (sNil)))) (gN 4))))) (sRet (sTup (sCons (sVar 2) (sCons (sVar 4) (sNil))))))
def F__law_guarded : Fn := runB 9 b__law_guarded
def b__law_full : Sx := sRet (sCB dTuple (sCons (sCB dSetS (sCons (sLC (sIt (s2 dIx (sVar 0) (sC (.int 1)))) (gT [gN 2, gN 3]) (sCall 2 (F__law_true 16) (sCons (sVar 3) (sCons (sVar 1) (sNil)))) (sCall 2 F__law_put (sCons (sVar 2) (sCons (sVar 1) (sNil)))) [2, 3]) (sNil))) (sNil)))
def F__law_full : Fn := runB 4 b__law_full
def b__law_spoilt (Fs : Fn) : Sx := sSeq (sIfS (sOr (sNot (sIsi .tup (sVar 1))) (sOr (s2 dEq (sVar 1) (sTup (sNil))) (s2 dEq (sCall 2 F__law_roll (sCons (sVar 0) (sCons (sC (.int 5)) (sNil)))) (sC (.int 0))))) (sRet (sCall 2 F__law_some (sCons (sVar 0) (sCons (sLst (sCons (sC .non) (sCons (sTup (sNil)) (sCons (sLst (sNil)) (sCons (sC (.int 0)) (sCons (sC (.int 1)) (sCons (sC (.int 6)) (sCons (sC (.int 7)) (sCons (s1 dNeg (sC (.int 1))) (sCons (s1 dNeg (sC (.int 4))) (sCons (sC (.bl true)) (sCons (sC (.str "same")) (sCons (sTup (sCons (sC (.int 1)) (sNil))) (sCons (sTup (sCons (sTup (sCons (sC (.int 1)) (sNil))) (sCons (sTup (sCons (sC (.str "all")) (sCons (sTup (sNil)) (sNil)))) (sNil)))) (sCons (sTup (sCons (sC (.str "all")) (sCons (sTup (sNil)) (sNil)))) (sCons (sTup (sCons (sC (.int 1)) (sCons (sTup (sNil)) (sNil)))) (sNil))))))))))))))))) (sNil))))) (sSkip)) (sSeq (sPar 2 3 (sCons (sCall 2 F__law_roll (sCons (sVar 0) (sCons (sCB dLen (sCons (sVar 1) (sNil))) (sNil)))) (sCons (sCall 2 F__law_roll (sCons (sVar 0) (sCons (sC (.int 9)) (sNil)))) (sNil)))) (sSeq (sIfS (s2 dLt (sVar 3) (sC (.int 2))) (sRet (s2 dAdd (s2 dAdd (sSl (sVar 1) sNoPart (sPart (sVar 2))) (sSl (sVar 1) (sPart (s2 dAdd (sVar 2) (sVar 3))) sNoPart)) (sIf (s2 dEq (sVar 3) (sC (.int 0))) (sSl (sVar 1) (sPart (sVar 2)) (sPart (s2 dAdd (sVar 2) (sC (.int 1))))) (sTup (sNil))))) (sSkip)) (sRet (sIf (s2 dEq (sVar 3) (sC (.int 2))) (sCB dList (sCons (sVar 1) (sNil))) (s2 dAdd (s2 dAdd (sSl (sVar 1) sNoPart (sPart (sVar 2))) (sTup (sCons (sCall 2 Fs (sCons (sVar 0) (sCons (s2 dIx (sVar 1) (sVar 2)) (sNil)))) (sNil)))) (sSl (sVar 1) (sPart (s2 dAdd (sVar 2) (sC (.int 1)))) sNoPart))))))
def F__law_spoilt : Nat → Fn
  | 0 => noF
  | n + 1 => runB 4 (b__law_spoilt (F__law_spoilt n))
def b__law_fits : Sx := sSeq (sIfS (sOr (sNot (sIsi .tup (sVar 1))) (sOr (s2 dNe (sCB dLen (sCons (sVar 1) (sNil))) (sC (.int 2))) (sOr (sNot (sCall 3 F__law_number (sCons (s2 dIx (sVar 1) (sC (.int 0))) (sCons (sC (.int 0)) (sCons (sC (.int 6)) (sNil)))))) (sOr (sNot (sIsi .tup (s2 dIx (sVar 1) (sC (.int 1))))) (s2 dGt (sCB dLen (sCons (s2 dIx (sVar 1) (sC (.int 1))) (sNil))) (sC (.int 200))))))) (sRet (sC (.bl false))) (sSkip)) (sSeq (sFor (sIt (s2 dIx (sVar 1) (sC (.int 1)))) (gN 2) (sSeq (sIfS (sOr (sNot (sIsi .tup (sVar 2))) (sOr (s2 dNe (sCB dLen (sCons (sVar 2) (sNil))) (sC (.int 2))) (sOr (sNot (sIsi .tup (s2 dIx (sVar 2) (sC (.int 0))))) (s2 dNe (sCB dLen (sCons (s2 dIx (sVar 2) (sC (.int 0))) (sNil))) (s2 dIx (sVar 1) (sC (.int 0))))))) (sRet (sC (.bl false))) (sSkip)) (sIfS (sOr (s2 dNe (sLC (sIt (s2 dIx (sVar 2) (sC (.int 0)))) (gN 3) (sNot (sCall 2 F__law_is_cell (sCons (sVar 0) (sCons (sVar 3) (sNil))))) (sVar 3) [3]) (sLst (sNil))) (s2 dGt (sCall 3 (F__law_weight 16) (sCons (sVar 0) (sCons (s2 dIx (sVar 2) (sC (.int 1))) (sCons (sC (.int 12)) (sNil))))) (sC (.int 1000)))) (sRet (sC (.bl false))) (sSkip)))) (sRet (sC (.bl true))))
def F__law_fits : Fn := runB 4 b__law_fits
def b__law_right : Sx := sSeq (sAsg (sCall 4 F__law_guarded (sCons (sVar 0) (sCons (sVar 1) (sCons (sCall 2 F__law_some (sCons (sVar 0) (sCons (sLst (sCons (sC (.int 0)) (sCons (sC (.int 1)) (sCons (sC (.int 1)) (sCons (sC (.int 2)) (sCons (sC (.int 3)) (sNil))))))) (sNil)))) (sCons (sC (.int 4)) (sNil)))))) (gN 2)) (sSeq (sAsg (sCB dTuple (sCons (sLC (sIt (sVar 1)) (gN 6) (sYes) (sCall 2 F__law_some (sCons (sVar 0) (sCons (sLst (sCons (sC (.int 1)) (sCons (sC (.int 2)) (sCons (sC (.int 3)) (sCons (sC (.int 5)) (sNil)))))) (sNil)))) [6]) (sNil))) (gN 3)) (sSeq (sIfS (sOr (s2 (dIsN not) (sCall 2 F_is_guarded (sCons (sVar 1) (sCons (sVar 2) (sNil)))) (sC (.bl true))) (s2 dNe (sCall 3 F_guarded_filled (sCons (sVar 1) (sCons (sVar 2) (sCons (sVar 3) (sNil))))) (sCall 2 F__law_full (sCons (sVar 2) (sCons (sCall 2 F__law_by (sCons (sVar 1) (sCons (sVar 3) (sNil)))) (sNil)))))) (sRet (sC (.bl false))) (sSkip)) (sSeq (sFor (sRng1 (sCons (sC (.int 3)) (sNil))) (gN 4) (sSeq (sAsg (sCall 2 (F__law_spoilt 16) (sCons (sVar 0) (sCons (sVar 2) (sNil)))) (gN 5)) (sIfS (s2 dNe (sCB dRepr1 (sCons (sCall 2 F_is_guarded (sCons (sVar 1) (sCons (sVar 5) (sNil)))) (sNil))) (sCB dRepr1 (sCons (sCall 2 F__law_fits (sCons (sVar 1) (sCons (sVar 5) (sNil)))) (sNil)))) (sRet (sC (.bl false))) (sSkip)))) (sRet (sC (.bl true))))))
def F__law_right : Fn := runB 7 b__law_right
def b_law : Sx := sSeq (sAsg (sCall 1 F__law_cup (sCons (sVar 0) (sNil))) (gN 1)) (sSeq (sFor (sRng1 (sCons (sC (.int 4)) (sNil))) (gN 2) (sIfS (sNot (sCall 2 F__law_right (sCons (sVar 1) (sCons (sCall 1 F__law_some_unknowns (sCons (sVar 1) (sNil))) (sNil))))) (sRet (sC (.bl false))) (sSkip))) (sSeq (sAsg (sTup (sCons (sC (.int 1)) (sCons (sTup (sCons (sTup (sCons (sTup (sCons (sC (.int 1)) (sNil))) (sCons (sTup (sCons (sC (.str "same")) (sCons (s1 dNeg (sC (.int 1))) (sCons (sC (.int 1)) (sNil))))) (sNil)))) (sCons (sTup (sCons (sTup (sCons (s1 dNeg (sC (.int 1))) (sNil))) (sCons (sTup (sCons (sC (.str "not")) (sCons (sTup (sCons (sC (.str "same")) (sCons (s1 dNeg (sC (.int 1))) (sCons (sC (.int 1)) (sNil))))) (sNil)))) (sNil)))) (sNil)))) (sNil)))) (gN 3)) (sSeq (sIfS (sOr (s2 dNe (sCall 3 F_guarded_filled (sCons (sTup (sCons (s1 dNeg (sC (.int 1))) (sNil))) (sCons (sVar 3) (sCons (sTup (sCons (sC (.int 1)) (sNil))) (sNil))))) (sTup (sCons (sTup (sCons (sC (.int 1)) (sNil))) (sNil)))) (sOr (s2 dNe (sCall 3 F_guarded_filled (sCons (sTup (sCons (s1 dNeg (sC (.int 1))) (sNil))) (sCons (sVar 3) (sCons (sTup (sCons (sC (.int 4)) (sNil))) (sNil))))) (sTup (sCons (sTup (sCons (sC (.int 4)) (sNil))) (sNil)))) (s2 (dIsN not) (sCall 2 F_is_guarded (sCons (sTup (sNil)) (sCons (sVar 3) (sNil)))) (sC (.bl false))))) (sRet (sC (.bl false))) (sSkip)) (sSeq (sAsg (sTup (sCons (sC (.int 2)) (sCons (sTup (sCons (sTup (sCons (sTup (sCons (s1 dNeg (sC (.int 1))) (sCons (sC (.int 3)) (sNil)))) (sCons (sTup (sCons (sC (.str "all")) (sCons (sTup (sNil)) (sNil)))) (sNil)))) (sCons (sTup (sCons (sTup (sCons (sC (.int 3)) (sCons (s1 dNeg (sC (.int 2))) (sNil)))) (sCons (sTup (sCons (sC (.str "all")) (sCons (sTup (sNil)) (sNil)))) (sNil)))) (sCons (sTup (sCons (sTup (sCons (s1 dNeg (sC (.int 2))) (sCons (s1 dNeg (sC (.int 1))) (sNil)))) (sCons (sTup (sCons (sC (.str "same")) (sCons (s1 dNeg (sC (.int 1))) (sCons (s1 dNeg (sC (.int 2))) (sNil))))) (sNil)))) (sNil))))) (sNil)))) (gN 4)) (sSeq (sIfS (sOr (s2 dNe (sCall 3 F_guarded_filled (sCons (sTup (sCons (s1 dNeg (sC (.int 2))) (sCons (s1 dNeg (sC (.int 1))) (sNil)))) (sCons (sVar 4) (sCons (sTup (sCons (sC (.int 3)) (sCons (sC (.int 3)) (sNil)))) (sNil))))) (sTup (sCons (sTup (sCons (sC (.int 3)) (sCons (sC (.int 3)) (sNil)))) (sNil)))) (sOr (s2 dNe (sCall 3 F_guarded_filled (sCons (sTup (sCons (s1 dNeg (sC (.int 2))) (sCons (s1 dNeg (sC (.int 1))) (sNil)))) (sCons (sVar 4) (sCons (sTup (sCons (sC (.int 4)) (sCons (sC (.int 3)) (sNil)))) (sNil))))) (sTup (sCons (sTup (sCons (sC (.int 3)) (sCons (sC (.int 3)) (sNil)))) (sCons (sTup (sCons (sC (.int 3)) (sCons (sC (.int 4)) (sNil)))) (sNil))))) (s2 dNe (sCall 3 F_guarded_filled (sCons (sTup (sCons (s1 dNeg (sC (.int 2))) (sCons (s1 dNeg (sC (.int 1))) (sNil)))) (sCons (sVar 4) (sCons (sTup (sCons (sC (.int 2)) (sCons (sC (.int 2)) (sNil)))) (sNil))))) (sTup (sCons (sTup (sCons (sC (.int 2)) (sCons (sC (.int 2)) (sNil)))) (sCons (sTup (sCons (sC (.int 2)) (sCons (sC (.int 3)) (sNil)))) (sCons (sTup (sCons (sC (.int 3)) (sCons (sC (.int 2)) (sNil)))) (sNil)))))))) (sRet (sC (.bl false))) (sSkip)) (sSeq (sAsg (sTup (sCons (sC (.int 0)) (sCons (sTup (sCons (sTup (sCons (sTup (sNil)) (sCons (sTup (sCons (sC (.str "some")) (sCons (sTup (sNil)) (sNil)))) (sNil)))) (sCons (sTup (sCons (sTup (sNil)) (sCons (sTup (sCons (sC (.str "same")) (sCons (s1 dNeg (sC (.int 1))) (sCons (sC (.int 2)) (sNil))))) (sNil)))) (sNil)))) (sNil)))) (gN 5)) (sSeq (sIfS (sOr (s2 dNe (sCall 3 F_guarded_filled (sCons (sTup (sCons (s1 dNeg (sC (.int 1))) (sNil))) (sCons (sVar 5) (sCons (sTup (sCons (sC (.int 2)) (sNil))) (sNil))))) (sTup (sCons (sTup (sNil)) (sNil)))) (sOr (s2 dNe (sCall 3 F_guarded_filled (sCons (sTup (sCons (s1 dNeg (sC (.int 1))) (sNil))) (sCons (sVar 5) (sCons (sTup (sCons (sC (.int 3)) (sNil))) (sNil))))) (sTup (sNil))) (s2 dNe (sCall 3 F_guarded_filled (sCons (sTup (sNil)) (sCons (sTup (sCons (sC (.int 4)) (sCons (sTup (sNil)) (sNil)))) (sCons (sTup (sNil)) (sNil))))) (sTup (sNil))))) (sRet (sC (.bl false))) (sSkip)) (sSeq (sAsg (sTup (sCons (sTup (sNil)) (sCons (sTup (sCons (sC (.str "all")) (sCons (sTup (sNil)) (sNil)))) (sNil)))) (gN 6)) (sRet (sAnd (s2 (dIsN id) (sCall 2 F_is_guarded (sCons (sTup (sNil)) (sCons (sTup (sCons (sC (.int 0)) (sCons (s2 dMul (sTup (sCons (sVar 6) (sNil))) (sC (.int 200))) (sNil)))) (sNil)))) (sC (.bl true))) (sAnd (s2 (dIsN id) (sCall 2 F_is_guarded (sCons (sTup (sNil)) (sCons (sTup (sCons (sC (.int 0)) (sCons (s2 dMul (sTup (sCons (sVar 6) (sNil))) (sC (.int 201))) (sNil)))) (sNil)))) (sC (.bl false))) (s2 (dIsN id) (sCall 2 F_is_guarded (sCons (sTup (sCons (s1 dNeg (sC (.int 1))) (sNil))) (sCons (sTup (sCons (sC (.int 6)) (sCons (sTup (sCons (sTup (sCons (s2 dMul (sTup (sCons (s1 dNeg (sC (.int 1))) (sNil))) (sC (.int 6))) (sCons (sTup (sCons (sC (.str "all")) (sCons (sTup (sNil)) (sNil)))) (sNil)))) (sNil))) (sNil)))) (sNil)))) (sC (.bl true))))))))))))))
def F_law : Fn := runB 7 b_law
end K48

set_option Elab.async false
set_option linter.all false
set_option maxRecDepth 100000
set_option maxHeartbeats 0
namespace K48
open PySem PySem.Spec PyProof.Rows L2 EV
theorem u0 {k : Nat} {A : Around} (r : Room k A) : A.units < cLine := by have := r.un; omega
theorem u1 {k : Nat} {A : Around} (r : Room k A) : A.units + 1 < cLine := by have := r.un; omega
theorem u64 {k : Nat} {A : Around} (r : Room k A) : A.units + 64 < cLine := by have := r.un; omega
theorem u65 {k : Nat} {A : Around} (r : Room k A) : A.units + 65 < cLine := by have := r.un; omega
theorem df_is_whole {P : Program} {w : World} {K : PySem.W.Frag} {mg : Str → Option Value} {base h : Heap} (KX : K.In h) (G : h.Ns mainGlobals mg) (c : He.SaysD fa fn K) : Df P w K mg base (0 + 1) "is_whole" 3 F_is_whole := by
  obtain ⟨fd, Fd⟩ := c.def_ 0 (d := dd "is_whole" 9) rfl
  have gl := He.glo_ok KX G (c.fact 0 (f := .glo "is_whole") rfl)
  have hb := Fd.bindsN (ps := [("value" : Str), ("low" : Str), ("high" : Str)]) fun _ _ _ _ _ _ us hl => match us, hl with | [_, _, _], _ => rfl
  have fr_int := He.free_ok KX G (c.fact 46 (f := .free "int") rfl)
  have fr_isinstance := He.free_ok KX G (c.fact 47 (f := .free "isinstance") rfl)
  have fr_bool := He.free_ok KX G (c.fact 44 (f := .free "bool") rfl)
  have nd : ([("value" : Str), ("low" : Str), ("high" : Str)] : List Str).Nodup := by decide +kernel
  exact df_of (k := 0) (N := [("value" : Str), ("low" : Str), ("high" : Str)]) (ps := [("value" : Str), ("low" : Str), ("high" : Str)]) (b := b_is_whole) Fd gl hb ⟨rfl, rfl, rfl, by decide +kernel, rfl, by decide +kernel, by decide +kernel⟩ fun cdv A outer s H E hr => evb_one (evs_ret (ev_and (ev_isi .int rfl (by rfl) fr_int (ev_var (pv 0)) (by rfl) fr_isinstance) (ev_and (ev_not (ev_isi .bool rfl (by rfl) fr_bool (ev_var (pv 0)) (by rfl) fr_isinstance)) (ev_and1 (ev_chain od_le od_le (ev_var (pv 1)) (ev_var (pv 0)) (ev_var (pv 2)))))))
theorem df_is_tuple_of {P : Program} {w : World} {K : PySem.W.Frag} {mg : Str → Option Value} {base h : Heap} (KX : K.In h) (G : h.Ns mainGlobals mg) (c : He.SaysD fa fn K) : Df P w K mg base (0 + 1) "is_tuple_of" 3 F_is_tuple_of := by
  obtain ⟨fd, Fd⟩ := c.def_ 1 (d := dd "is_tuple_of" 10) rfl
  have gl := He.glo_ok KX G (c.fact 1 (f := .glo "is_tuple_of") rfl)
  have hb := Fd.bindsN (ps := [("value" : Str), ("low" : Str), ("high" : Str)]) fun _ _ _ _ _ _ us hl => match us, hl with | [_, _, _], _ => rfl
  have fr_tuple := He.free_ok KX G (c.fact 56 (f := .free "tuple") rfl)
  have fr_isinstance := He.free_ok KX G (c.fact 47 (f := .free "isinstance") rfl)
  have fr_len := He.free_ok KX G (c.fact 48 (f := .free "len") rfl)
  have nd : ([("value" : Str), ("low" : Str), ("high" : Str)] : List Str).Nodup := by decide +kernel
  exact df_of (k := 0) (N := [("value" : Str), ("low" : Str), ("high" : Str)]) (ps := [("value" : Str), ("low" : Str), ("high" : Str)]) (b := b_is_tuple_of) Fd gl hb ⟨rfl, rfl, rfl, by decide +kernel, rfl, by decide +kernel, by decide +kernel⟩ fun cdv A outer s H E hr => evb_one (evs_ret (ev_and (ev_isi .tup rfl (by rfl) fr_tuple (ev_var (pv 0)) (by rfl) fr_isinstance) (ev_and1 (ev_chain od_le od_le (ev_var (pv 1)) (ev_callB cd_len (by rfl) fr_len (by rfl) (evs_cons (ev_var (pv 0)) (evs_nil))) (ev_var (pv 2))))))
theorem df_fits_value {P : Program} {w : World} {K : PySem.W.Frag} {mg : Str → Option Value} {base h : Heap} (KX : K.In h) (G : h.Ns mainGlobals mg) (c : He.SaysD fa fn K) : Df P w K mg base (1 + 1) "fits_value" 1 F_fits_value := by
  obtain ⟨fd, Fd⟩ := c.def_ 2 (d := dd "fits_value" 11) rfl
  have gl := He.glo_ok KX G (c.fact 2 (f := .glo "fits_value") rfl)
  have hb := Fd.bindsN (ps := [("value" : Str)]) fun _ _ _ _ _ _ us hl => match us, hl with | [_], _ => rfl
  have c_GREATEST := He.int_ok KX G (c.fact 58 (f := .int "GREATEST" (1000000)) rfl)
  have D_is_whole := df_is_whole (P := P) (w := w) (base := base) KX G c
  have nd : ([("value" : Str)] : List Str).Nodup := by decide +kernel
  exact df_of (k := 1) (N := [("value" : Str)]) (ps := [("value" : Str)]) (b := b_fits_value) Fd gl hb ⟨rfl, rfl, rfl, by decide +kernel, rfl, by decide +kernel, by decide +kernel⟩ fun cdv A outer s H E hr => evb_one (evs_ret (ev_call D_is_whole (hr.mono (by omega)) (by rfl) (evs_cons (ev_var (pv 0)) (evs_cons (ev_int) (evs_cons (ev_gint (by rfl) c_GREATEST) (evs_nil))))))
theorem df_does_ascend {P : Program} {w : World} {K : PySem.W.Frag} {mg : Str → Option Value} {base h : Heap} (KX : K.In h) (G : h.Ns mainGlobals mg) (c : He.SaysD fa fn K) : Df P w K mg base (0 + 1) "does_ascend" 1 F_does_ascend := by
  obtain ⟨fd, Fd⟩ := c.def_ 3 (d := dd "does_ascend" 12) rfl
  have gl := He.glo_ok KX G (c.fact 3 (f := .glo "does_ascend") rfl)
  have hb := Fd.bindsN (ps := [("items" : Str)]) fun _ _ _ _ _ _ us hl => match us, hl with | [_], _ => rfl
  have fr_zip := He.free_ok KX G (c.fact 57 (f := .free "zip") rfl)
  have fr_all := He.free_ok KX G (c.fact 42 (f := .free "all") rfl)
  have nd : ([("items" : Str), ("one" : Str), ("other" : Str)] : List Str).Nodup := by decide +kernel
  exact df_of (k := 0) (N := [("items" : Str), ("one" : Str), ("other" : Str)]) (ps := [("items" : Str)]) (b := b_does_ascend) Fd gl hb ⟨rfl, rfl, rfl, by decide +kernel, rfl, by decide +kernel, by decide +kernel⟩ fun cdv A outer s H E hr => evb_one (evs_ret (ev_callB (cd_all rfl) (by rfl) fr_all (by rfl) (evs_cons (ev_lc rfl nd (ei_zip (by rfl) fr_zip (evs_cons (ev_var (pv 0)) (evs_cons (ev_sl (ev_var (pv 0)) (evo_some (ev_int)) evo_none) (evs_nil)))) (blkOk_by (own := [("one", 1), ("other", 2)]) (by kernel_rfl)) (fun _ _ _ _ _ => eg_tup rfl (egs_cons (eg_name nd rfl (by first | exact .inl rfl | exact .inr rfl)) (egs_cons (eg_name nd rfl (by first | exact .inl rfl | exact .inr rfl)) (egs_nil)))) (fun _ _ _ _ _ => ecs_nil) (fun _ _ _ _ _ => ev_cmp (od_lt (u0 hr)) (ev_var (pv 1)) (ev_var (pv 2)) rfl) (by decide)) (evs_nil))))
theorem df_row_by {P : Program} {w : World} {K : PySem.W.Frag} {mg : Str → Option Value} {base h : Heap} (KX : K.In h) (G : h.Ns mainGlobals mg) (c : He.SaysD fa fn K) : Df P w K mg base (0 + 1) "row_by" 2 F_row_by := by
  obtain ⟨fd, Fd⟩ := c.def_ 4 (d := dd "row_by" 13) rfl
  have gl := He.glo_ok KX G (c.fact 4 (f := .glo "row_by") rfl)
  have hb := Fd.bindsN (ps := [("row" : Str), ("worths" : Str)]) fun _ _ _ _ _ _ us hl => match us, hl with | [_, _], _ => rfl
  have fr_tuple := He.free_ok KX G (c.fact 56 (f := .free "tuple") rfl)
  have nd : ([("row" : Str), ("worths" : Str), ("cell" : Str)] : List Str).Nodup := by decide +kernel
  exact df_of (k := 0) (N := [("row" : Str), ("worths" : Str), ("cell" : Str)]) (ps := [("row" : Str), ("worths" : Str)]) (b := b_row_by) Fd gl hb ⟨rfl, rfl, rfl, by decide +kernel, rfl, by decide +kernel, by decide +kernel⟩ fun cdv A outer s H E hr => evb_one (evs_ret (ev_callTy cd_tuple (by rfl) fr_tuple (by rfl) (evs_cons (ev_lc rfl nd (ei_seq (ev_var (pv 0))) (blkOk_by (own := [("cell", 2)]) (by kernel_rfl)) (fun _ _ _ _ _ => eg_name nd rfl (by first | exact .inl rfl | exact .inr rfl)) (fun _ _ _ _ _ => ecs_nil) (fun _ _ _ _ _ => ev_get2 (u1 hr) (ev_var (pv 1)) (evs_cons (ev_var (pv 2)) (evs_cons (ev_var (pv 2)) (evs_nil)))) (by decide)) (evs_nil))))
theorem df_fits_unknowns {P : Program} {w : World} {K : PySem.W.Frag} {mg : Str → Option Value} {base h : Heap} (KX : K.In h) (G : h.Ns mainGlobals mg) (c : He.SaysD fa fn K) : Df P w K mg base (1 + 1) "fits_unknowns" 1 F_fits_unknowns := by
  obtain ⟨fd, Fd⟩ := c.def_ 5 (d := dd "fits_unknowns" 18) rfl
  have gl := He.glo_ok KX G (c.fact 5 (f := .glo "fits_unknowns") rfl)
  have hb := Fd.bindsN (ps := [("value" : Str)]) fun _ _ _ _ _ _ us hl => match us, hl with | [_], _ => rfl
  have fr_all := He.free_ok KX G (c.fact 42 (f := .free "all") rfl)
  have c_UNKNOWNS := He.int_ok KX G (c.fact 61 (f := .int "UNKNOWNS" (6)) rfl)
  have c_LEAST := He.int_ok KX G (c.fact 59 (f := .int "LEAST" (-6)) rfl)
  have D_is_tuple_of := df_is_tuple_of (P := P) (w := w) (base := base) KX G c
  have D_is_whole := df_is_whole (P := P) (w := w) (base := base) KX G c
  have D_does_ascend := df_does_ascend (P := P) (w := w) (base := base) KX G c
  have nd : ([("value" : Str), ("cell" : Str)] : List Str).Nodup := by decide +kernel
  exact df_of (k := 1) (N := [("value" : Str), ("cell" : Str)]) (ps := [("value" : Str)]) (b := b_fits_unknowns) Fd gl hb ⟨rfl, rfl, rfl, by decide +kernel, rfl, by decide +kernel, by decide +kernel⟩ fun cdv A outer s H E hr => evb_one (evs_ret (ev_and (ev_call D_is_tuple_of (hr.mono (by omega)) (by rfl) (evs_cons (ev_var (pv 0)) (evs_cons (ev_int) (evs_cons (ev_gint (by rfl) c_UNKNOWNS) (evs_nil))))) (ev_and (ev_callB (cd_all rfl) (by rfl) fr_all (by rfl) (evs_cons (ev_lc rfl nd (ei_seq (ev_var (pv 0))) (blkOk_by (own := [("cell", 1)]) (by kernel_rfl)) (fun _ _ _ _ _ => eg_name nd rfl (by first | exact .inl rfl | exact .inr rfl)) (fun _ _ _ _ _ => ecs_nil) (fun _ _ _ _ _ => ev_call D_is_whole (hr.mono (by omega)) (by rfl) (evs_cons (ev_var (pv 1)) (evs_cons (ev_gint (by rfl) c_LEAST) (evs_cons (ev_un ud_neg (ev_int)) (evs_nil))))) (by decide)) (evs_nil))) (ev_and1 (ev_call D_does_ascend (hr.mono (by omega)) (by rfl) (evs_cons (ev_var (pv 0)) (evs_nil)))))))
theorem df_fits_cell {P : Program} {w : World} {K : PySem.W.Frag} {mg : Str → Option Value} {base h : Heap} (KX : K.In h) (G : h.Ns mainGlobals mg) (c : He.SaysD fa fn K) : Df P w K mg base (2 + 1) "fits_cell" 2 F_fits_cell := by
  obtain ⟨fd, Fd⟩ := c.def_ 6 (d := dd "fits_cell" 19) rfl
  have gl := He.glo_ok KX G (c.fact 6 (f := .glo "fits_cell") rfl)
  have hb := Fd.bindsN (ps := [("unknowns" : Str), ("value" : Str)]) fun _ _ _ _ _ _ us hl => match us, hl with | [_, _], _ => rfl
  have c_LEAST := He.int_ok KX G (c.fact 59 (f := .int "LEAST" (-6)) rfl)
  have D_fits_value := df_fits_value (P := P) (w := w) (base := base) KX G c
  have D_is_whole := df_is_whole (P := P) (w := w) (base := base) KX G c
  have nd : ([("unknowns" : Str), ("value" : Str)] : List Str).Nodup := by decide +kernel
  exact df_of (k := 2) (N := [("unknowns" : Str), ("value" : Str)]) (ps := [("unknowns" : Str), ("value" : Str)]) (b := b_fits_cell) Fd gl hb ⟨rfl, rfl, rfl, by decide +kernel, rfl, by decide +kernel, by decide +kernel⟩ fun cdv A outer s H E hr => evb_one (evs_ret (ev_or (ev_call D_fits_value (hr.mono (by omega)) (by rfl) (evs_cons (ev_var (pv 1)) (evs_nil))) (ev_and1 (ev_and (ev_call D_is_whole (hr.mono (by omega)) (by rfl) (evs_cons (ev_var (pv 1)) (evs_cons (ev_gint (by rfl) c_LEAST) (evs_cons (ev_un ud_neg (ev_int)) (evs_nil))))) (ev_and1 (ev_cmp (od_in (u65 hr)) (ev_var (pv 1)) (ev_var (pv 0)) rfl))))))
theorem df_parts_within {P : Program} {w : World} {K : PySem.W.Frag} {mg : Str → Option Value} {base h : Heap} (KX : K.In h) (G : h.Ns mainGlobals mg) (c : He.SaysD fa fn K) : Df P w K mg base (3 + 1) "parts_within" 2 F_parts_within := by
  obtain ⟨fd, Fd⟩ := c.def_ 7 (d := dd "parts_within" 20) rfl
  have gl := He.glo_ok KX G (c.fact 7 (f := .glo "parts_within") rfl)
  have hb := Fd.bindsN (ps := [("unknowns" : Str), ("value" : Str)]) fun _ _ _ _ _ _ us hl => match us, hl with | [_, _], _ => rfl
  have fr_str := He.free_ok KX G (c.fact 54 (f := .free "str") rfl)
  have fr_isinstance := He.free_ok KX G (c.fact 47 (f := .free "isinstance") rfl)
  have fr_len := He.free_ok KX G (c.fact 48 (f := .free "len") rfl)
  have fr_all := He.free_ok KX G (c.fact 42 (f := .free "all") rfl)
  have fr_list := He.free_ok KX G (c.fact 49 (f := .free "list") rfl)
  have c_PARTS := He.int_ok KX G (c.fact 62 (f := .int "PARTS" (1000)) rfl)
  have D_is_tuple_of := df_is_tuple_of (P := P) (w := w) (base := base) KX G c
  have D_fits_cell := df_fits_cell (P := P) (w := w) (base := base) KX G c
  have nd : ([("unknowns" : Str), ("value" : Str), ("word" : Str), ("rest" : Str), ("cell" : Str)] : List Str).Nodup := by decide +kernel
  exact df_of (k := 3) (N := [("unknowns" : Str), ("value" : Str), ("word" : Str), ("rest" : Str), ("cell" : Str)]) (ps := [("unknowns" : Str), ("value" : Str)]) (b := b_parts_within) Fd gl hb ⟨rfl, rfl, rfl, by decide +kernel, rfl, by decide +kernel, by decide +kernel⟩ fun cdv A outer s H E hr => evb_cons (evs_if (ETW.t (et_or (et_not (et_val (ev_call D_is_tuple_of (hr.mono (by omega)) (by rfl) (evs_cons (ev_var (pv 1)) (evs_cons (ev_int) (evs_cons (ev_int) (evs_nil))))))) (et_or1 (et_not (et_val (ev_isi .str rfl (by rfl) fr_str (ev_ix (u1 hr) (ev_var (pv 1)) (ev_int) (by intro _ _; rfl)) (by rfl) fr_isinstance)))))) (evb_one (evs_ret (ev_non))) (evb_nil)) (evb_cons (evs_par (i := 2) (j := 3) rfl nd rfl rfl (by decide) rfl rfl (evs_cons (ev_ix (u1 hr) (ev_var (pv 1)) (ev_int) (by intro _ _; rfl)) (evs_cons (ev_sl (ev_var (pv 1)) (evo_some (ev_int)) evo_none) (evs_nil))) (by rfl)) (evb_cons (evs_if (et_cmp (od_eq (u64 hr)) (ev_var (pv 2)) (ev_str) rfl) (evb_one (evs_ret (ev_if (ETW.t (et_and (et_cmp (od_eq (u64 hr)) (ev_callB cd_len (by rfl) fr_len (by rfl) (evs_cons (ev_var (pv 3)) (evs_nil))) (ev_int) rfl) (et_and1 (et_val (ev_callB (cd_all rfl) (by rfl) fr_all (by rfl) (evs_cons (ev_lc rfl nd (ei_seq (ev_var (pv 3))) (blkOk_by (own := [("cell", 4)]) (by kernel_rfl)) (fun _ _ _ _ _ => eg_name nd rfl (by first | exact .inl rfl | exact .inr rfl)) (fun _ _ _ _ _ => ecs_nil) (fun _ _ _ _ _ => ev_call D_fits_cell (hr.mono (by omega)) (by rfl) (evs_cons (ev_var (pv 0)) (evs_cons (ev_var (pv 4)) (evs_nil)))) (by decide)) (evs_nil))))))) (ev_lst (evs_nil)) (ev_non)))) (evb_nil)) (evb_cons (evs_if (et_cmp (od_ne (u64 hr)) (ev_callB cd_len (by rfl) fr_len (by rfl) (evs_cons (ev_var (pv 3)) (evs_nil))) (ev_int) rfl) (evb_one (evs_ret (ev_non))) (evb_nil)) (evb_cons (evs_if (et_cmp (od_eq (u64 hr)) (ev_var (pv 2)) (ev_str) rfl) (evb_one (evs_ret (ev_lst (evs_cons (ev_ix (u1 hr) (ev_var (pv 3)) (ev_int) (by intro _ _; rfl)) (evs_nil))))) (evb_nil)) (evb_one (evs_ret (ev_if (ETW.t (et_and (et_cmp (od_in (u65 hr)) (ev_var (pv 2)) (ev_tup (evs_cons (ev_str) (evs_cons (ev_str) (evs_nil)))) rfl) (et_and1 (et_val (ev_call D_is_tuple_of (hr.mono (by omega)) (by rfl) (evs_cons (ev_ix (u1 hr) (ev_var (pv 3)) (ev_int) (by intro _ _; rfl)) (evs_cons (ev_int) (evs_cons (ev_gint (by rfl) c_PARTS) (evs_nil))))))))) (ev_callTy cd_list (by rfl) fr_list (by rfl) (evs_cons (ev_ix (u1 hr) (ev_var (pv 3)) (ev_int) (by intro _ _; rfl)) (evs_nil))) (ev_non))))))))
theorem df_fits_condition {P : Program} {w : World} {K : PySem.W.Frag} {mg : Str → Option Value} {base h : Heap} (KX : K.In h) (G : h.Ns mainGlobals mg) (c : He.SaysD fa fn K) : Df P w K mg base (4 + 1) "fits_condition" 2 F_fits_condition := by
  obtain ⟨fd, Fd⟩ := c.def_ 8 (d := dd "fits_condition" 21) rfl
  have gl := He.glo_ok KX G (c.fact 8 (f := .glo "fits_condition") rfl)
  have hb := Fd.bindsN (ps := [("unknowns" : Str), ("value" : Str)]) fun _ _ _ _ _ _ us hl => match us, hl with | [_, _], _ => rfl
  have c_DEEPEST := He.int_ok KX G (c.fact 63 (f := .int "DEEPEST" (12)) rfl)
  have c_PARTS := He.int_ok KX G (c.fact 62 (f := .int "PARTS" (1000)) rfl)
  have D_parts_within := df_parts_within (P := P) (w := w) (base := base) KX G c
  have nd : ([("unknowns" : Str), ("value" : Str), ("line" : Str), ("many" : Str), ("within" : Str), ("part" : Str), ("depth" : Str), ("one" : Str)] : List Str).Nodup := by decide +kernel
  exact df_of (k := 4) (N := [("unknowns" : Str), ("value" : Str), ("line" : Str), ("many" : Str), ("within" : Str), ("part" : Str), ("depth" : Str), ("one" : Str)]) (ps := [("unknowns" : Str), ("value" : Str)]) (b := b_fits_condition) Fd gl hb ⟨rfl, rfl, rfl, by decide +kernel, rfl, by decide +kernel, by decide +kernel⟩ fun cdv A outer s H E hr => evb_cons (evs_par (i := 2) (j := 3) rfl nd rfl rfl (by decide) rfl rfl (evs_cons (ev_lst (evs_cons (ev_tup (evs_cons (ev_var (pv 1)) (evs_cons (ev_int) (evs_nil)))) (evs_nil))) (evs_cons (ev_int) (evs_nil))) (by rfl)) (evb_cons (evs_while 1100 rfl (et_cmp (od_ne (u64 hr)) (ev_var (pv 2)) (ev_lst (evs_nil)) rfl) (evb_cons (evs_asg (ev_tup (evs_cons (ev_ix (u1 hr) (ev_var (pv 2)) (ev_int) (by intro _ _; rfl)) (evs_cons (ev_sl (ev_var (pv 2)) (evo_some (ev_int)) evo_none) (evs_cons (ev_bin od_add (ev_var (pv 3)) (ev_int)) (evs_nil))))) (eg_tup rfl (egs_cons (eg_tup rfl (egs_cons (eg_name nd rfl (by first | exact .inl rfl | exact .inr rfl)) (egs_cons (eg_name nd rfl (by first | exact .inl rfl | exact .inr rfl)) (egs_nil)))) (egs_cons (eg_name nd rfl (by first | exact .inl rfl | exact .inr rfl)) (egs_cons (eg_name nd rfl (by first | exact .inl rfl | exact .inr rfl)) (egs_nil)))))) (evb_cons (evs_asg (ev_call D_parts_within (hr.mono (by omega)) (by rfl) (evs_cons (ev_var (pv 0)) (evs_cons (ev_var (pv 5)) (evs_nil)))) (eg_name nd rfl (by first | exact .inl rfl | exact .inr rfl))) (evb_cons (evs_if (ETW.t (et_or (et_cmp od_is (ev_var (pv 4)) (ev_non) rfl) (et_or (et_cmp od_gt (ev_var (pv 6)) (ev_gint (by rfl) c_DEEPEST) rfl) (et_or1 (et_cmp od_gt (ev_var (pv 3)) (ev_gint (by rfl) c_PARTS) rfl))))) (evb_one (evs_ret (ev_bl))) (evb_nil)) (evb_one (evs_asg (ev_bin od_add (ev_lc rfl nd (ei_seq (ev_var (pv 4))) (blkOk_by (own := [("one", 7)]) (by kernel_rfl)) (fun _ _ _ _ _ => eg_name nd rfl (by first | exact .inl rfl | exact .inr rfl)) (fun _ _ _ _ _ => ecs_nil) (fun _ _ _ _ _ => ev_tup (evs_cons (ev_var (pv 7)) (evs_cons (ev_bin od_add (ev_var (pv 6)) (ev_int)) (evs_nil)))) (by decide)) (ev_var (pv 2))) (eg_name nd rfl (by first | exact .inl rfl | exact .inr rfl)))))))) (evb_one (evs_ret (ev_bl))))
theorem df_holds_by {P : Program} {w : World} {K : PySem.W.Frag} {mg : Str → Option Value} {base h : Heap} (KX : K.In h) (G : h.Ns mainGlobals mg) (c : He.SaysD fa fn K) : ∀ n : Nat, Df P w K mg base (0 + n + 1) "holds_by" 2 (F_holds_by n) := by
  obtain ⟨fd, Fd⟩ := c.def_ 9 (d := dd "holds_by" 22) rfl
  have gl := He.glo_ok KX G (c.fact 9 (f := .glo "holds_by") rfl)
  have hb := Fd.bindsN (ps := [("condition" : Str), ("worths" : Str)]) fun _ _ _ _ _ _ us hl => match us, hl with | [_, _], _ => rfl
  have fr_all := He.free_ok KX G (c.fact 42 (f := .free "all") rfl)
  have fr_any := He.free_ok KX G (c.fact 43 (f := .free "any") rfl)
  have nd : ([("condition" : Str), ("worths" : Str), ("one" : Str)] : List Str).Nodup := by decide +kernel
  have sc : FnScope [("condition" : Str), ("worths" : Str), ("one" : Str)] [("condition" : Str), ("worths" : Str)] (dd "holds_by" 22).scope := ⟨rfl, rfl, rfl, by decide +kernel, rfl, by decide +kernel, by decide +kernel⟩
  intro n
  induction n with
  | zero => exact df_none (ps := [("condition" : Str), ("worths" : Str)]) Fd gl hb sc
  | succ n Ds => exact df_of (N := [("condition" : Str), ("worths" : Str), ("one" : Str)]) (ps := [("condition" : Str), ("worths" : Str)]) (b := b_holds_by (F_holds_by n)) Fd gl hb sc fun cdv A outer s H E hr => evb_cons (evs_if (et_cmp (od_eq (u64 hr)) (ev_ix (u1 hr) (ev_var (pv 0)) (ev_int) (by intro _ _; rfl)) (ev_str) rfl) (evb_one (evs_ret (ev_cmp (od_eq (u64 hr)) (ev_get2 (u1 hr) (ev_var (pv 1)) (evs_cons (ev_ix (u1 hr) (ev_var (pv 0)) (ev_int) (by intro _ _; rfl)) (evs_cons (ev_ix (u1 hr) (ev_var (pv 0)) (ev_int) (by intro _ _; rfl)) (evs_nil)))) (ev_get2 (u1 hr) (ev_var (pv 1)) (evs_cons (ev_ix (u1 hr) (ev_var (pv 0)) (ev_int) (by intro _ _; rfl)) (evs_cons (ev_ix (u1 hr) (ev_var (pv 0)) (ev_int) (by intro _ _; rfl)) (evs_nil)))) rfl))) (evb_nil)) (evb_cons (evs_if (et_cmp (od_eq (u64 hr)) (ev_ix (u1 hr) (ev_var (pv 0)) (ev_int) (by intro _ _; rfl)) (ev_str) rfl) (evb_one (evs_ret (ev_not (ev_call Ds (hr.mono (by omega)) (by rfl) (evs_cons (ev_ix (u1 hr) (ev_var (pv 0)) (ev_int) (by intro _ _; rfl)) (evs_cons (ev_var (pv 1)) (evs_nil))))))) (evb_nil)) (evb_cons (evs_if (et_cmp (od_eq (u64 hr)) (ev_ix (u1 hr) (ev_var (pv 0)) (ev_int) (by intro _ _; rfl)) (ev_str) rfl) (evb_one (evs_ret (ev_callB (cd_all rfl) (by rfl) fr_all (by rfl) (evs_cons (ev_lc rfl nd (ei_seq (ev_ix (u1 hr) (ev_var (pv 0)) (ev_int) (by intro _ _; rfl))) (blkOk_by (own := [("one", 2)]) (by kernel_rfl)) (fun _ _ _ _ _ => eg_name nd rfl (by first | exact .inl rfl | exact .inr rfl)) (fun _ _ _ _ _ => ecs_nil) (fun _ _ _ _ _ => ev_call Ds (hr.mono (by omega)) (by rfl) (evs_cons (ev_var (pv 2)) (evs_cons (ev_var (pv 1)) (evs_nil)))) (by decide)) (evs_nil))))) (evb_nil)) (evb_one (evs_ret (ev_callB (cd_any rfl) (by rfl) fr_any (by rfl) (evs_cons (ev_lc rfl nd (ei_seq (ev_ix (u1 hr) (ev_var (pv 0)) (ev_int) (by intro _ _; rfl))) (blkOk_by (own := [("one", 2)]) (by kernel_rfl)) (fun _ _ _ _ _ => eg_name nd rfl (by first | exact .inl rfl | exact .inr rfl)) (fun _ _ _ _ _ => ecs_nil) (fun _ _ _ _ _ => ev_call Ds (hr.mono (by omega)) (by rfl) (evs_cons (ev_var (pv 2)) (evs_cons (ev_var (pv 1)) (evs_nil)))) (by decide)) (evs_nil)))))))
theorem df_worths_by {P : Program} {w : World} {K : PySem.W.Frag} {mg : Str → Option Value} {base h : Heap} (KX : K.In h) (G : h.Ns mainGlobals mg) (c : He.SaysD fa fn K) : Df P w K mg base (0 + 1) "worths_by" 2 F_worths_by := by
  obtain ⟨fd, Fd⟩ := c.def_ 10 (d := dd "worths_by" 23) rfl
  have gl := He.glo_ok KX G (c.fact 10 (f := .glo "worths_by") rfl)
  have hb := Fd.bindsN (ps := [("unknowns" : Str), ("filling" : Str)]) fun _ _ _ _ _ _ us hl => match us, hl with | [_, _], _ => rfl
  have fr_list := He.free_ok KX G (c.fact 49 (f := .free "list") rfl)
  have fr_zip := He.free_ok KX G (c.fact 57 (f := .free "zip") rfl)
  have fr_dict := He.free_ok KX G (c.fact 45 (f := .free "dict") rfl)
  have nd : ([("unknowns" : Str), ("filling" : Str)] : List Str).Nodup := by decide +kernel
  exact df_of (k := 0) (N := [("unknowns" : Str), ("filling" : Str)]) (ps := [("unknowns" : Str), ("filling" : Str)]) (b := b_worths_by) Fd gl hb ⟨rfl, rfl, rfl, by decide +kernel, rfl, by decide +kernel, by decide +kernel⟩ fun cdv A outer s H E hr => evb_one (evs_ret (ev_callTy (cd_dict rfl) (by rfl) fr_dict (by rfl) (evs_cons (ev_listZip rfl (by rfl) fr_list (by rfl) fr_zip (evs_cons (ev_var (pv 0)) (evs_cons (ev_var (pv 1)) (evs_nil)))) (evs_nil))))
theorem df_need_unknowns {P : Program} {w : World} {K : PySem.W.Frag} {mg : Str → Option Value} {base h : Heap} (KX : K.In h) (G : h.Ns mainGlobals mg) (c : He.SaysD fa fn K) : Df P w K mg base (2 + 1) "need_unknowns" 1 F_need_unknowns := by
  obtain ⟨fd, Fd⟩ := c.def_ 11 (d := dd "need_unknowns" 24) rfl
  have gl := He.glo_ok KX G (c.fact 11 (f := .glo "need_unknowns") rfl)
  have hb := Fd.bindsN (ps := [("value" : Str)]) fun _ _ _ _ _ _ us hl => match us, hl with | [_], _ => rfl
  have D_fits_unknowns := df_fits_unknowns (P := P) (w := w) (base := base) KX G c
  have nd : ([("value" : Str)] : List Str).Nodup := by decide +kernel
  exact df_of (k := 2) (N := [("value" : Str)]) (ps := [("value" : Str)]) (b := b_need_unknowns) Fd gl hb ⟨rfl, rfl, rfl, by decide +kernel, rfl, by decide +kernel, by decide +kernel⟩ fun cdv A outer s H E hr => evb_one (evs_if (et_not (et_val (ev_call D_fits_unknowns (hr.mono (by omega)) (by rfl) (evs_cons (ev_var (pv 0)) (evs_nil))))) (evb_one (evs_bad)) (evb_nil))
theorem df_need_filling_of {P : Program} {w : World} {K : PySem.W.Frag} {mg : Str → Option Value} {base h : Heap} (KX : K.In h) (G : h.Ns mainGlobals mg) (c : He.SaysD fa fn K) : Df P w K mg base (2 + 1) "need_filling_of" 2 F_need_filling_of := by
  obtain ⟨fd, Fd⟩ := c.def_ 12 (d := dd "need_filling_of" 25) rfl
  have gl := He.glo_ok KX G (c.fact 12 (f := .glo "need_filling_of") rfl)
  have hb := Fd.bindsN (ps := [("unknowns" : Str), ("value" : Str)]) fun _ _ _ _ _ _ us hl => match us, hl with | [_, _], _ => rfl
  have fr_len := He.free_ok KX G (c.fact 48 (f := .free "len") rfl)
  have fr_all := He.free_ok KX G (c.fact 42 (f := .free "all") rfl)
  have D_is_tuple_of := df_is_tuple_of (P := P) (w := w) (base := base) KX G c
  have D_fits_value := df_fits_value (P := P) (w := w) (base := base) KX G c
  have nd : ([("unknowns" : Str), ("value" : Str), ("one" : Str)] : List Str).Nodup := by decide +kernel
  exact df_of (k := 2) (N := [("unknowns" : Str), ("value" : Str), ("one" : Str)]) (ps := [("unknowns" : Str), ("value" : Str)]) (b := b_need_filling_of) Fd gl hb ⟨rfl, rfl, rfl, by decide +kernel, rfl, by decide +kernel, by decide +kernel⟩ fun cdv A outer s H E hr => evb_one (evs_if (ETW.t (et_or (et_not (et_val (ev_call D_is_tuple_of (hr.mono (by omega)) (by rfl) (evs_cons (ev_var (pv 1)) (evs_cons (ev_callB cd_len (by rfl) fr_len (by rfl) (evs_cons (ev_var (pv 0)) (evs_nil))) (evs_cons (ev_callB cd_len (by rfl) fr_len (by rfl) (evs_cons (ev_var (pv 0)) (evs_nil))) (evs_nil))))))) (et_or1 (et_not (et_val (ev_callB (cd_all rfl) (by rfl) fr_all (by rfl) (evs_cons (ev_lc rfl nd (ei_seq (ev_var (pv 1))) (blkOk_by (own := [("one", 2)]) (by kernel_rfl)) (fun _ _ _ _ _ => eg_name nd rfl (by first | exact .inl rfl | exact .inr rfl)) (fun _ _ _ _ _ => ecs_nil) (fun _ _ _ _ _ => ev_call D_fits_value (hr.mono (by omega)) (by rfl) (evs_cons (ev_var (pv 2)) (evs_nil))) (by decide)) (evs_nil)))))))) (evb_one (evs_bad)) (evb_nil))
theorem df_fits_entry {P : Program} {w : World} {K : PySem.W.Frag} {mg : Str → Option Value} {base h : Heap} (KX : K.In h) (G : h.Ns mainGlobals mg) (c : He.SaysD fa fn K) : Df P w K mg base (5 + 1) "fits_entry" 3 F_fits_entry := by
  obtain ⟨fd, Fd⟩ := c.def_ 13 (d := dd "fits_entry" 28) rfl
  have gl := He.glo_ok KX G (c.fact 13 (f := .glo "fits_entry") rfl)
  have hb := Fd.bindsN (ps := [("unknowns" : Str), ("columns" : Str), ("value" : Str)]) fun _ _ _ _ _ _ us hl => match us, hl with | [_, _, _], _ => rfl
  have fr_all := He.free_ok KX G (c.fact 42 (f := .free "all") rfl)
  have D_is_tuple_of := df_is_tuple_of (P := P) (w := w) (base := base) KX G c
  have D_fits_cell := df_fits_cell (P := P) (w := w) (base := base) KX G c
  have D_fits_condition := df_fits_condition (P := P) (w := w) (base := base) KX G c
  have nd : ([("unknowns" : Str), ("columns" : Str), ("value" : Str), ("cell" : Str)] : List Str).Nodup := by decide +kernel
  exact df_of (k := 5) (N := [("unknowns" : Str), ("columns" : Str), ("value" : Str), ("cell" : Str)]) (ps := [("unknowns" : Str), ("columns" : Str), ("value" : Str)]) (b := b_fits_entry) Fd gl hb ⟨rfl, rfl, rfl, by decide +kernel, rfl, by decide +kernel, by decide +kernel⟩ fun cdv A outer s H E hr => evb_cons (evs_if (ETW.t (et_or (et_not (et_val (ev_call D_is_tuple_of (hr.mono (by omega)) (by rfl) (evs_cons (ev_var (pv 2)) (evs_cons (ev_int) (evs_cons (ev_int) (evs_nil))))))) (et_or1 (et_not (et_val (ev_call D_is_tuple_of (hr.mono (by omega)) (by rfl) (evs_cons (ev_ix (u1 hr) (ev_var (pv 2)) (ev_int) (by intro _ _; rfl)) (evs_cons (ev_var (pv 1)) (evs_cons (ev_var (pv 1)) (evs_nil)))))))))) (evb_one (evs_ret (ev_bl))) (evb_nil)) (evb_one (evs_ret (ev_and (ev_callB (cd_all rfl) (by rfl) fr_all (by rfl) (evs_cons (ev_lc rfl nd (ei_seq (ev_ix (u1 hr) (ev_var (pv 2)) (ev_int) (by intro _ _; rfl))) (blkOk_by (own := [("cell", 3)]) (by kernel_rfl)) (fun _ _ _ _ _ => eg_name nd rfl (by first | exact .inl rfl | exact .inr rfl)) (fun _ _ _ _ _ => ecs_nil) (fun _ _ _ _ _ => ev_call D_fits_cell (hr.mono (by omega)) (by rfl) (evs_cons (ev_var (pv 0)) (evs_cons (ev_var (pv 3)) (evs_nil)))) (by decide)) (evs_nil))) (ev_and1 (ev_call D_fits_condition (hr.mono (by omega)) (by rfl) (evs_cons (ev_var (pv 0)) (evs_cons (ev_ix (u1 hr) (ev_var (pv 2)) (ev_int) (by intro _ _; rfl)) (evs_nil))))))))
theorem df_fits_guarded {P : Program} {w : World} {K : PySem.W.Frag} {mg : Str → Option Value} {base h : Heap} (KX : K.In h) (G : h.Ns mainGlobals mg) (c : He.SaysD fa fn K) : Df P w K mg base (6 + 1) "fits_guarded" 2 F_fits_guarded := by
  obtain ⟨fd, Fd⟩ := c.def_ 14 (d := dd "fits_guarded" 29) rfl
  have gl := He.glo_ok KX G (c.fact 14 (f := .glo "fits_guarded") rfl)
  have hb := Fd.bindsN (ps := [("unknowns" : Str), ("value" : Str)]) fun _ _ _ _ _ _ us hl => match us, hl with | [_, _], _ => rfl
  have fr_all := He.free_ok KX G (c.fact 42 (f := .free "all") rfl)
  have c_COLUMNS := He.int_ok KX G (c.fact 60 (f := .int "COLUMNS" (6)) rfl)
  have c_ENTRIES := He.int_ok KX G (c.fact 64 (f := .int "ENTRIES" (200)) rfl)
  have D_is_tuple_of := df_is_tuple_of (P := P) (w := w) (base := base) KX G c
  have D_is_whole := df_is_whole (P := P) (w := w) (base := base) KX G c
  have D_fits_entry := df_fits_entry (P := P) (w := w) (base := base) KX G c
  have nd : ([("unknowns" : Str), ("value" : Str), ("entry" : Str)] : List Str).Nodup := by decide +kernel
  exact df_of (k := 6) (N := [("unknowns" : Str), ("value" : Str), ("entry" : Str)]) (ps := [("unknowns" : Str), ("value" : Str)]) (b := b_fits_guarded) Fd gl hb ⟨rfl, rfl, rfl, by decide +kernel, rfl, by decide +kernel, by decide +kernel⟩ fun cdv A outer s H E hr => evb_cons (evs_if (ETW.t (et_or (et_not (et_val (ev_call D_is_tuple_of (hr.mono (by omega)) (by rfl) (evs_cons (ev_var (pv 1)) (evs_cons (ev_int) (evs_cons (ev_int) (evs_nil))))))) (et_or (et_not (et_val (ev_call D_is_whole (hr.mono (by omega)) (by rfl) (evs_cons (ev_ix (u1 hr) (ev_var (pv 1)) (ev_int) (by intro _ _; rfl)) (evs_cons (ev_int) (evs_cons (ev_gint (by rfl) c_COLUMNS) (evs_nil))))))) (et_or1 (et_not (et_val (ev_call D_is_tuple_of (hr.mono (by omega)) (by rfl) (evs_cons (ev_ix (u1 hr) (ev_var (pv 1)) (ev_int) (by intro _ _; rfl)) (evs_cons (ev_int) (evs_cons (ev_gint (by rfl) c_ENTRIES) (evs_nil))))))))))) (evb_one (evs_ret (ev_bl))) (evb_nil)) (evb_one (evs_ret (ev_callB (cd_all rfl) (by rfl) fr_all (by rfl) (evs_cons (ev_lc rfl nd (ei_seq (ev_ix (u1 hr) (ev_var (pv 1)) (ev_int) (by intro _ _; rfl))) (blkOk_by (own := [("entry", 2)]) (by kernel_rfl)) (fun _ _ _ _ _ => eg_name nd rfl (by first | exact .inl rfl | exact .inr rfl)) (fun _ _ _ _ _ => ecs_nil) (fun _ _ _ _ _ => ev_call D_fits_entry (hr.mono (by omega)) (by rfl) (evs_cons (ev_var (pv 0)) (evs_cons (ev_ix (u1 hr) (ev_var (pv 1)) (ev_int) (by intro _ _; rfl)) (evs_cons (ev_var (pv 2)) (evs_nil))))) (by decide)) (evs_nil)))))
theorem df_rows_filled {P : Program} {w : World} {K : PySem.W.Frag} {mg : Str → Option Value} {base h : Heap} (KX : K.In h) (G : h.Ns mainGlobals mg) (c : He.SaysD fa fn K) : Df P w K mg base (1 + 1) "rows_filled" 2 F_rows_filled := by
  obtain ⟨fd, Fd⟩ := c.def_ 15 (d := dd "rows_filled" 30) rfl
  have gl := He.glo_ok KX G (c.fact 15 (f := .glo "rows_filled") rfl)
  have hb := Fd.bindsN (ps := [("rows" : Str), ("worths" : Str)]) fun _ _ _ _ _ _ us hl => match us, hl with | [_, _], _ => rfl
  have fr_sorted := He.free_ok KX G (c.fact 53 (f := .free "sorted") rfl)
  have fr_set := He.free_ok KX G (c.fact 52 (f := .free "set") rfl)
  have fr_tuple := He.free_ok KX G (c.fact 56 (f := .free "tuple") rfl)
  have D_row_by := df_row_by (P := P) (w := w) (base := base) KX G c
  have nd : ([("rows" : Str), ("worths" : Str), ("row" : Str)] : List Str).Nodup := by decide +kernel
  exact df_of (k := 1) (N := [("rows" : Str), ("worths" : Str), ("row" : Str)]) (ps := [("rows" : Str), ("worths" : Str)]) (b := b_rows_filled) Fd gl hb ⟨rfl, rfl, rfl, by decide +kernel, rfl, by decide +kernel, by decide +kernel⟩ fun cdv A outer s H E hr => evb_one (evs_ret (ev_callTy cd_tuple (by rfl) fr_tuple (by rfl) (evs_cons (ev_sortSetT rfl (u64 hr) (by rfl) fr_sorted (by rfl) fr_set (evs_cons (ev_lc rfl nd (ei_seq (ev_var (pv 0))) (blkOk_by (own := [("row", 2)]) (by kernel_rfl)) (fun _ _ _ _ _ => eg_name nd rfl (by first | exact .inl rfl | exact .inr rfl)) (fun _ _ _ _ _ => ecs_nil) (fun _ _ _ _ _ => ev_call D_row_by (hr.mono (by omega)) (by rfl) (evs_cons (ev_var (pv 2)) (evs_cons (ev_var (pv 1)) (evs_nil)))) (by decide)) (evs_nil))) (evs_nil))))
theorem df_filled_guarded {P : Program} {w : World} {K : PySem.W.Frag} {mg : Str → Option Value} {base h : Heap} (KX : K.In h) (G : h.Ns mainGlobals mg) (c : He.SaysD fa fn K) : Df P w K mg base (17 + 1) "filled_guarded" 2 F_filled_guarded := by
  obtain ⟨fd, Fd⟩ := c.def_ 16 (d := dd "filled_guarded" 31) rfl
  have gl := He.glo_ok KX G (c.fact 16 (f := .glo "filled_guarded") rfl)
  have hb := Fd.bindsN (ps := [("guarded" : Str), ("worths" : Str)]) fun _ _ _ _ _ _ us hl => match us, hl with | [_, _], _ => rfl
  have D_holds_by := df_holds_by (P := P) (w := w) (base := base) KX G c 16
  have D_rows_filled := df_rows_filled (P := P) (w := w) (base := base) KX G c
  have nd : ([("guarded" : Str), ("worths" : Str), ("row" : Str), ("condition" : Str)] : List Str).Nodup := by decide +kernel
  exact df_of (k := 17) (N := [("guarded" : Str), ("worths" : Str), ("row" : Str), ("condition" : Str)]) (ps := [("guarded" : Str), ("worths" : Str)]) (b := b_filled_guarded) Fd gl hb ⟨rfl, rfl, rfl, by decide +kernel, rfl, by decide +kernel, by decide +kernel⟩ fun cdv A outer s H E hr => evb_one (evs_ret (ev_call D_rows_filled (hr.mono (by omega)) (by rfl) (evs_cons (ev_lc rfl nd (ei_seq (ev_ix (u1 hr) (ev_var (pv 0)) (ev_int) (by intro _ _; rfl))) (blkOk_by (own := [("row", 2), ("condition", 3)]) (by kernel_rfl)) (fun _ _ _ _ _ => eg_tup rfl (egs_cons (eg_name nd rfl (by first | exact .inl rfl | exact .inr rfl)) (egs_cons (eg_name nd rfl (by first | exact .inl rfl | exact .inr rfl)) (egs_nil)))) (fun _ _ _ _ _ => ecs_one (et_val (ev_call D_holds_by (hr.mono (by omega)) (by rfl) (evs_cons (ev_var (pv 3)) (evs_cons (ev_var (pv 1)) (evs_nil)))))) (fun _ _ _ _ _ => ev_var (pv 2)) (by decide)) (evs_cons (ev_var (pv 1)) (evs_nil)))))
theorem df_need_guarded {P : Program} {w : World} {K : PySem.W.Frag} {mg : Str → Option Value} {base h : Heap} (KX : K.In h) (G : h.Ns mainGlobals mg) (c : He.SaysD fa fn K) : Df P w K mg base (7 + 1) "need_guarded" 2 F_need_guarded := by
  obtain ⟨fd, Fd⟩ := c.def_ 17 (d := dd "need_guarded" 32) rfl
  have gl := He.glo_ok KX G (c.fact 17 (f := .glo "need_guarded") rfl)
  have hb := Fd.bindsN (ps := [("unknowns" : Str), ("value" : Str)]) fun _ _ _ _ _ _ us hl => match us, hl with | [_, _], _ => rfl
  have D_fits_guarded := df_fits_guarded (P := P) (w := w) (base := base) KX G c
  have nd : ([("unknowns" : Str), ("value" : Str)] : List Str).Nodup := by decide +kernel
  exact df_of (k := 7) (N := [("unknowns" : Str), ("value" : Str)]) (ps := [("unknowns" : Str), ("value" : Str)]) (b := b_need_guarded) Fd gl hb ⟨rfl, rfl, rfl, by decide +kernel, rfl, by decide +kernel, by decide +kernel⟩ fun cdv A outer s H E hr => evb_one (evs_if (et_not (et_val (ev_call D_fits_guarded (hr.mono (by omega)) (by rfl) (evs_cons (ev_var (pv 0)) (evs_cons (ev_var (pv 1)) (evs_nil)))))) (evb_one (evs_bad)) (evb_nil))
theorem df_is_guarded {P : Program} {w : World} {K : PySem.W.Frag} {mg : Str → Option Value} {base h : Heap} (KX : K.In h) (G : h.Ns mainGlobals mg) (c : He.SaysD fa fn K) : Df P w K mg base (7 + 1) "is_guarded" 2 F_is_guarded := by
  obtain ⟨fd, Fd⟩ := c.def_ 18 (d := dd "is_guarded" 33) rfl
  have gl := He.glo_ok KX G (c.fact 18 (f := .glo "is_guarded") rfl)
  have hb := Fd.bindsN (ps := [("unknowns" : Str), ("value" : Str)]) fun _ _ _ _ _ _ us hl => match us, hl with | [_, _], _ => rfl
  have D_need_unknowns := df_need_unknowns (P := P) (w := w) (base := base) KX G c
  have D_fits_guarded := df_fits_guarded (P := P) (w := w) (base := base) KX G c
  have nd : ([("unknowns" : Str), ("value" : Str)] : List Str).Nodup := by decide +kernel
  exact df_of (k := 7) (N := [("unknowns" : Str), ("value" : Str)]) (ps := [("unknowns" : Str), ("value" : Str)]) (b := b_is_guarded) Fd gl hb ⟨rfl, rfl, rfl, by decide +kernel, rfl, by decide +kernel, by decide +kernel⟩ fun cdv A outer s H E hr => evb_cons (evs_drop (ev_call D_need_unknowns (hr.mono (by omega)) (by rfl) (evs_cons (ev_var (pv 0)) (evs_nil)))) (evb_one (evs_ret (ev_call D_fits_guarded (hr.mono (by omega)) (by rfl) (evs_cons (ev_var (pv 0)) (evs_cons (ev_var (pv 1)) (evs_nil))))))
theorem df_guarded_filled {P : Program} {w : World} {K : PySem.W.Frag} {mg : Str → Option Value} {base h : Heap} (KX : K.In h) (G : h.Ns mainGlobals mg) (c : He.SaysD fa fn K) : Df P w K mg base (18 + 1) "guarded_filled" 3 F_guarded_filled := by
  obtain ⟨fd, Fd⟩ := c.def_ 19 (d := dd "guarded_filled" 34) rfl
  have gl := He.glo_ok KX G (c.fact 19 (f := .glo "guarded_filled") rfl)
  have hb := Fd.bindsN (ps := [("unknowns" : Str), ("guarded" : Str), ("filling" : Str)]) fun _ _ _ _ _ _ us hl => match us, hl with | [_, _, _], _ => rfl
  have D_need_unknowns := df_need_unknowns (P := P) (w := w) (base := base) KX G c
  have D_need_guarded := df_need_guarded (P := P) (w := w) (base := base) KX G c
  have D_need_filling_of := df_need_filling_of (P := P) (w := w) (base := base) KX G c
  have D_worths_by := df_worths_by (P := P) (w := w) (base := base) KX G c
  have D_filled_guarded := df_filled_guarded (P := P) (w := w) (base := base) KX G c
  have nd : ([("unknowns" : Str), ("guarded" : Str), ("filling" : Str)] : List Str).Nodup := by decide +kernel
  exact df_of (k := 18) (N := [("unknowns" : Str), ("guarded" : Str), ("filling" : Str)]) (ps := [("unknowns" : Str), ("guarded" : Str), ("filling" : Str)]) (b := b_guarded_filled) Fd gl hb ⟨rfl, rfl, rfl, by decide +kernel, rfl, by decide +kernel, by decide +kernel⟩ fun cdv A outer s H E hr => evb_cons (evs_drop (ev_call D_need_unknowns (hr.mono (by omega)) (by rfl) (evs_cons (ev_var (pv 0)) (evs_nil)))) (evb_cons (evs_drop (ev_call D_need_guarded (hr.mono (by omega)) (by rfl) (evs_cons (ev_var (pv 0)) (evs_cons (ev_var (pv 1)) (evs_nil))))) (evb_cons (evs_drop (ev_call D_need_filling_of (hr.mono (by omega)) (by rfl) (evs_cons (ev_var (pv 0)) (evs_cons (ev_var (pv 2)) (evs_nil))))) (evb_one (evs_ret (ev_call D_filled_guarded (hr.mono (by omega)) (by rfl) (evs_cons (ev_var (pv 1)) (evs_cons (ev_call D_worths_by (hr.mono (by omega)) (by rfl) (evs_cons (ev_var (pv 0)) (evs_cons (ev_var (pv 2)) (evs_nil)))) (evs_nil))))))))
theorem df__law_cup {P : Program} {w : World} {K : PySem.W.Frag} {mg : Str → Option Value} {base h : Heap} (KX : K.In h) (G : h.Ns mainGlobals mg) (c : He.SaysD fa fn K) : Df P w K mg base (0 + 1) "_law_cup" 1 F__law_cup := by
  obtain ⟨fd, Fd⟩ := c.def_ 20 (d := dd "_law_cup" 36) rfl
  have gl := He.glo_ok KX G (c.fact 20 (f := .glo "_law_cup") rfl)
  have hb := Fd.bindsN (ps := [("script" : Str)]) fun _ _ _ _ _ _ us hl => match us, hl with | [_], _ => rfl
  have fr_list := He.free_ok KX G (c.fact 49 (f := .free "list") rfl)
  have fr_abs := He.free_ok KX G (c.fact 41 (f := .free "abs") rfl)
  have fr_int := He.free_ok KX G (c.fact 46 (f := .free "int") rfl)
  have nd : ([("script" : Str), ("cell" : Str)] : List Str).Nodup := by decide +kernel
  exact df_ofK (k := 0) (N := [("script" : Str), ("cell" : Str)]) (ps := [("script" : Str)]) (b := b__law_cup) Fd gl hb ⟨rfl, rfl, rfl, by decide +kernel, rfl, by decide +kernel, by decide +kernel⟩ fun cdv A outer s H E hr => evb_cons (evs_asg (ev_callB cd_abs (by rfl) fr_abs (by rfl) (evs_cons (ev_ix (u1 hr) (ev_bin od_add (ev_callTy cd_list (by rfl) fr_list (by rfl) (evs_cons (ev_var (pv 0)) (evs_nil))) (ev_lst (evs_cons (ev_int) (evs_nil)))) (ev_int) (by intro _ _; rfl)) (evs_nil))) (eg_name nd rfl (by first | exact .inl rfl | exact .inr rfl))) (evb_one (evs_ret (ev_mut (evs_cons (ev_if (et_cmp od_ge (ev_var (pv 1)) (ev_bin od_pow (ev_int) (ev_int)) rfl) (ev_bin od_fdiv (ev_var (pv 1)) (ev_int)) (ev_int)) (evs_cons (ev_bin od_add (ev_bin od_mod (ev_callTy cd_int (by rfl) fr_int (by rfl) (evs_cons (ev_bin od_add (ev_bin od_mul (ev_var (pv 1)) (ev_int)) (ev_int)) (evs_nil))) (ev_int)) (ev_int)) (evs_nil))))))
theorem df__law_roll {P : Program} {w : World} {K : PySem.W.Frag} {mg : Str → Option Value} {base h : Heap} (KX : K.In h) (G : h.Ns mainGlobals mg) (c : He.SaysD fa fn K) : Df P w K mg base (0 + 1) "_law_roll" 2 F__law_roll := by
  obtain ⟨fd, Fd⟩ := c.def_ 21 (d := dd "_law_roll" 37) rfl
  have gl := He.glo_ok KX G (c.fact 21 (f := .glo "_law_roll") rfl)
  have hb := Fd.bindsN (ps := [("cup" : Str), ("many" : Str)]) fun _ _ _ _ _ _ us hl => match us, hl with | [_, _], _ => rfl
  have fr_int := He.free_ok KX G (c.fact 46 (f := .free "int") rfl)
  have nd : ([("cup" : Str), ("many" : Str), ("deep" : Str), ("found" : Str)] : List Str).Nodup := by decide +kernel
  exact df_of (k := 0) (N := [("cup" : Str), ("many" : Str), ("deep" : Str), ("found" : Str)]) (ps := [("cup" : Str), ("many" : Str)]) (b := b__law_roll) Fd gl hb ⟨rfl, rfl, rfl, by decide +kernel, rfl, by decide +kernel, by decide +kernel⟩ fun cdv A outer s H E hr => evb_cons (evs_if (et_cmp od_gt (ev_ix (u1 hr) (ev_var (pv 0)) (ev_int) (by intro _ _; rfl)) (ev_int) rfl) (evb_cons (evs_asg (ev_bin od_mod (ev_callTy cd_int (by rfl) fr_int (by rfl) (evs_cons (ev_ix (u1 hr) (ev_var (pv 0)) (ev_int) (by intro _ _; rfl)) (evs_nil))) (ev_var (pv 1))) (eg_name nd rfl (by first | exact .inl rfl | exact .inr rfl))) (evb_cons (evs_setIx (ev_bin od_fdiv (ev_ix (u1 hr) (ev_var (pv 0)) (ev_int) (by intro _ _; rfl)) (ev_var (pv 1))) (ev_var (pv 0)) (ev_int)) (evb_one (evs_ret (ev_var (pv 3)))))) (evb_nil)) (evb_cons (evs_setIx (ev_bin od_mod (ev_callTy cd_int (by rfl) fr_int (by rfl) (evs_cons (ev_bin od_add (ev_bin od_mul (ev_ix (u1 hr) (ev_var (pv 0)) (ev_int) (by intro _ _; rfl)) (ev_int)) (ev_int)) (evs_nil))) (ev_int)) (ev_var (pv 0)) (ev_int)) (evb_cons (evs_asg (ev_bin od_mod (ev_callTy cd_int (by rfl) fr_int (by rfl) (evs_cons (ev_bin od_mul (ev_ix (u1 hr) (ev_var (pv 0)) (ev_int) (by intro _ _; rfl)) (ev_bin od_add (ev_ix (u1 hr) (ev_var (pv 0)) (ev_int) (by intro _ _; rfl)) (ev_int))) (evs_nil))) (ev_int)) (eg_name nd rfl (by first | exact .inl rfl | exact .inr rfl))) (evb_one (evs_ret (ev_bin od_mod (ev_callTy cd_int (by rfl) fr_int (by rfl) (evs_cons (ev_bin od_fdiv (ev_var (pv 2)) (ev_int)) (evs_nil))) (ev_var (pv 1)))))))
theorem df__law_some {P : Program} {w : World} {K : PySem.W.Frag} {mg : Str → Option Value} {base h : Heap} (KX : K.In h) (G : h.Ns mainGlobals mg) (c : He.SaysD fa fn K) : Df P w K mg base (1 + 1) "_law_some" 2 F__law_some := by
  obtain ⟨fd, Fd⟩ := c.def_ 22 (d := dd "_law_some" 38) rfl
  have gl := He.glo_ok KX G (c.fact 22 (f := .glo "_law_some") rfl)
  have hb := Fd.bindsN (ps := [("cup" : Str), ("things" : Str)]) fun _ _ _ _ _ _ us hl => match us, hl with | [_, _], _ => rfl
  have fr_len := He.free_ok KX G (c.fact 48 (f := .free "len") rfl)
  have D__law_roll := df__law_roll (P := P) (w := w) (base := base) KX G c
  have nd : ([("cup" : Str), ("things" : Str)] : List Str).Nodup := by decide +kernel
  exact df_of (k := 1) (N := [("cup" : Str), ("things" : Str)]) (ps := [("cup" : Str), ("things" : Str)]) (b := b__law_some) Fd gl hb ⟨rfl, rfl, rfl, by decide +kernel, rfl, by decide +kernel, by decide +kernel⟩ fun cdv A outer s H E hr => evb_one (evs_ret (ev_ix (u1 hr) (ev_var (pv 1)) (ev_call D__law_roll (hr.mono (by omega)) (by rfl) (evs_cons (ev_var (pv 0)) (evs_cons (ev_callB cd_len (by rfl) fr_len (by rfl) (evs_cons (ev_var (pv 1)) (evs_nil))) (evs_nil)))) (by intro _ _; rfl)))
theorem df__law_put {P : Program} {w : World} {K : PySem.W.Frag} {mg : Str → Option Value} {base h : Heap} (KX : K.In h) (G : h.Ns mainGlobals mg) (c : He.SaysD fa fn K) : Df P w K mg base (0 + 1) "_law_put" 2 F__law_put := by
  obtain ⟨fd, Fd⟩ := c.def_ 23 (d := dd "_law_put" 39) rfl
  have gl := He.glo_ok KX G (c.fact 23 (f := .glo "_law_put") rfl)
  have hb := Fd.bindsN (ps := [("row" : Str), ("worths" : Str)]) fun _ _ _ _ _ _ us hl => match us, hl with | [_, _], _ => rfl
  have fr_tuple := He.free_ok KX G (c.fact 56 (f := .free "tuple") rfl)
  have nd : ([("row" : Str), ("worths" : Str), ("cell" : Str)] : List Str).Nodup := by decide +kernel
  exact df_of (k := 0) (N := [("row" : Str), ("worths" : Str), ("cell" : Str)]) (ps := [("row" : Str), ("worths" : Str)]) (b := b__law_put) Fd gl hb ⟨rfl, rfl, rfl, by decide +kernel, rfl, by decide +kernel, by decide +kernel⟩ fun cdv A outer s H E hr => evb_one (evs_ret (ev_callTy cd_tuple (by rfl) fr_tuple (by rfl) (evs_cons (ev_lc rfl nd (ei_seq (ev_var (pv 0))) (blkOk_by (own := [("cell", 2)]) (by kernel_rfl)) (fun _ _ _ _ _ => eg_name nd rfl (by first | exact .inl rfl | exact .inr rfl)) (fun _ _ _ _ _ => ecs_nil) (fun _ _ _ _ _ => ev_get2 (u1 hr) (ev_var (pv 1)) (evs_cons (ev_var (pv 2)) (evs_cons (ev_var (pv 2)) (evs_nil)))) (by decide)) (evs_nil))))
theorem df__law_some_unknowns {P : Program} {w : World} {K : PySem.W.Frag} {mg : Str → Option Value} {base h : Heap} (KX : K.In h) (G : h.Ns mainGlobals mg) (c : He.SaysD fa fn K) : Df P w K mg base (2 + 1) "_law_some_unknowns" 1 F__law_some_unknowns := by
  obtain ⟨fd, Fd⟩ := c.def_ 24 (d := dd "_law_some_unknowns" 40) rfl
  have gl := He.glo_ok KX G (c.fact 24 (f := .glo "_law_some_unknowns") rfl)
  have hb := Fd.bindsN (ps := [("cup" : Str)]) fun _ _ _ _ _ _ us hl => match us, hl with | [_], _ => rfl
  have D__law_some := df__law_some (P := P) (w := w) (base := base) KX G c
  have nd : ([("cup" : Str)] : List Str).Nodup := by decide +kernel
  exact df_of (k := 2) (N := [("cup" : Str)]) (ps := [("cup" : Str)]) (b := b__law_some_unknowns) Fd gl hb ⟨rfl, rfl, rfl, by decide +kernel, rfl, by decide +kernel, by decide +kernel⟩ fun cdv A outer s H E hr => evb_one (evs_ret (ev_call D__law_some (hr.mono (by omega)) (by rfl) (evs_cons (ev_var (pv 0)) (evs_cons (ev_lst (evs_cons (ev_tup (evs_nil)) (evs_cons (ev_tup (evs_cons (ev_un ud_neg (ev_int)) (evs_nil))) (evs_cons (ev_tup (evs_cons (ev_un ud_neg (ev_int)) (evs_nil))) (evs_cons (ev_tup (evs_cons (ev_un ud_neg (ev_int)) (evs_cons (ev_un ud_neg (ev_int)) (evs_nil)))) (evs_cons (ev_tup (evs_cons (ev_un ud_neg (ev_int)) (evs_cons (ev_un ud_neg (ev_int)) (evs_nil)))) (evs_cons (ev_tup (evs_cons (ev_un ud_neg (ev_int)) (evs_cons (ev_un ud_neg (ev_int)) (evs_nil)))) (evs_cons (ev_tup (evs_cons (ev_un ud_neg (ev_int)) (evs_cons (ev_un ud_neg (ev_int)) (evs_nil)))) (evs_cons (ev_tup (evs_cons (ev_un ud_neg (ev_int)) (evs_cons (ev_un ud_neg (ev_int)) (evs_cons (ev_un ud_neg (ev_int)) (evs_nil))))) (evs_nil)))))))))) (evs_nil)))))
theorem df__law_any_cell {P : Program} {w : World} {K : PySem.W.Frag} {mg : Str → Option Value} {base h : Heap} (KX : K.In h) (G : h.Ns mainGlobals mg) (c : He.SaysD fa fn K) : Df P w K mg base (2 + 1) "_law_any_cell" 2 F__law_any_cell := by
  obtain ⟨fd, Fd⟩ := c.def_ 25 (d := dd "_law_any_cell" 41) rfl
  have gl := He.glo_ok KX G (c.fact 25 (f := .glo "_law_any_cell") rfl)
  have hb := Fd.bindsN (ps := [("cup" : Str), ("unknowns" : Str)]) fun _ _ _ _ _ _ us hl => match us, hl with | [_, _], _ => rfl
  have fr_list := He.free_ok KX G (c.fact 49 (f := .free "list") rfl)
  have D__law_some := df__law_some (P := P) (w := w) (base := base) KX G c
  have nd : ([("cup" : Str), ("unknowns" : Str)] : List Str).Nodup := by decide +kernel
  exact df_of (k := 2) (N := [("cup" : Str), ("unknowns" : Str)]) (ps := [("cup" : Str), ("unknowns" : Str)]) (b := b__law_any_cell) Fd gl hb ⟨rfl, rfl, rfl, by decide +kernel, rfl, by decide +kernel, by decide +kernel⟩ fun cdv A outer s H E hr => evb_one (evs_ret (ev_call D__law_some (hr.mono (by omega)) (by rfl) (evs_cons (ev_var (pv 0)) (evs_cons (ev_bin od_add (ev_lst (evs_cons (ev_int) (evs_cons (ev_int) (evs_cons (ev_int) (evs_nil))))) (ev_bin od_mul (ev_callTy cd_list (by rfl) fr_list (by rfl) (evs_cons (ev_var (pv 1)) (evs_nil))) (ev_int))) (evs_nil)))))
theorem df__law_condition {P : Program} {w : World} {K : PySem.W.Frag} {mg : Str → Option Value} {base h : Heap} (KX : K.In h) (G : h.Ns mainGlobals mg) (c : He.SaysD fa fn K) : ∀ n : Nat, Df P w K mg base (3 + n + 1) "_law_condition" 3 (F__law_condition n) := by
  obtain ⟨fd, Fd⟩ := c.def_ 26 (d := dd "_law_condition" 42) rfl
  have gl := He.glo_ok KX G (c.fact 26 (f := .glo "_law_condition") rfl)
  have hb := Fd.bindsN (ps := [("cup" : Str), ("unknowns" : Str), ("deep" : Str)]) fun _ _ _ _ _ _ us hl => match us, hl with | [_, _, _], _ => rfl
  have fr_range := He.free_ok KX G (c.fact 50 (f := .free "range") rfl)
  have fr_tuple := He.free_ok KX G (c.fact 56 (f := .free "tuple") rfl)
  have D__law_roll := df__law_roll (P := P) (w := w) (base := base) KX G c
  have D__law_any_cell := df__law_any_cell (P := P) (w := w) (base := base) KX G c
  have D__law_some := df__law_some (P := P) (w := w) (base := base) KX G c
  have nd : ([("cup" : Str), ("unknowns" : Str), ("deep" : Str), ("way" : Str), ("part" : Str)] : List Str).Nodup := by decide +kernel
  have sc : FnScope [("cup" : Str), ("unknowns" : Str), ("deep" : Str), ("way" : Str), ("part" : Str)] [("cup" : Str), ("unknowns" : Str), ("deep" : Str)] (dd "_law_condition" 42).scope := ⟨rfl, rfl, rfl, by decide +kernel, rfl, by decide +kernel, by decide +kernel⟩
  intro n
  induction n with
  | zero => exact df_none (ps := [("cup" : Str), ("unknowns" : Str), ("deep" : Str)]) Fd gl hb sc
  | succ n Ds => exact df_of (N := [("cup" : Str), ("unknowns" : Str), ("deep" : Str), ("way" : Str), ("part" : Str)]) (ps := [("cup" : Str), ("unknowns" : Str), ("deep" : Str)]) (b := b__law_condition (F__law_condition n)) Fd gl hb sc fun cdv A outer s H E hr => evb_cons (evs_asg (ev_call D__law_roll (hr.mono (by omega)) (by rfl) (evs_cons (ev_var (pv 0)) (evs_cons (ev_int) (evs_nil)))) (eg_name nd rfl (by first | exact .inl rfl | exact .inr rfl))) (evb_cons (evs_if (ETW.t (et_or (et_cmp (od_eq (u64 hr)) (ev_var (pv 2)) (ev_int) rfl) (et_or1 (et_cmp (od_lt (u0 hr)) (ev_var (pv 3)) (ev_int) rfl)))) (evb_one (evs_ret (ev_tup (evs_cons (ev_str) (evs_cons (ev_call D__law_any_cell (hr.mono (by omega)) (by rfl) (evs_cons (ev_var (pv 0)) (evs_cons (ev_var (pv 1)) (evs_nil)))) (evs_cons (ev_call D__law_any_cell (hr.mono (by omega)) (by rfl) (evs_cons (ev_var (pv 0)) (evs_cons (ev_var (pv 1)) (evs_nil)))) (evs_nil))))))) (evb_nil)) (evb_cons (evs_if (et_cmp (od_eq (u64 hr)) (ev_var (pv 3)) (ev_int) rfl) (evb_one (evs_ret (ev_tup (evs_cons (ev_str) (evs_cons (ev_call Ds (hr.mono (by omega)) (by rfl) (evs_cons (ev_var (pv 0)) (evs_cons (ev_var (pv 1)) (evs_cons (ev_bin od_sub (ev_var (pv 2)) (ev_int)) (evs_nil))))) (evs_nil)))))) (evb_nil)) (evb_one (evs_ret (ev_tup (evs_cons (ev_call D__law_some (hr.mono (by omega)) (by rfl) (evs_cons (ev_var (pv 0)) (evs_cons (ev_lst (evs_cons (ev_str) (evs_cons (ev_str) (evs_nil)))) (evs_nil)))) (evs_cons (ev_callTy cd_tuple (by rfl) fr_tuple (by rfl) (evs_cons (ev_lc rfl nd (ei_range1 (by rfl) fr_range (evs_cons (ev_call D__law_roll (hr.mono (by omega)) (by rfl) (evs_cons (ev_var (pv 0)) (evs_cons (ev_int) (evs_nil)))) (evs_nil))) (blkOk_by (own := [("part", 4)]) (by kernel_rfl)) (fun _ _ _ _ _ => eg_name nd rfl (by first | exact .inl rfl | exact .inr rfl)) (fun _ _ _ _ _ => ecs_nil) (fun _ _ _ _ _ => ev_call Ds (hr.mono (by omega)) (by rfl) (evs_cons (ev_var (pv 0)) (evs_cons (ev_var (pv 1)) (evs_cons (ev_bin od_sub (ev_var (pv 2)) (ev_int)) (evs_nil))))) (by decide)) (evs_nil))) (evs_nil))))))))
theorem df__law_true {P : Program} {w : World} {K : PySem.W.Frag} {mg : Str → Option Value} {base h : Heap} (KX : K.In h) (G : h.Ns mainGlobals mg) (c : He.SaysD fa fn K) : ∀ n : Nat, Df P w K mg base (0 + n + 1) "_law_true" 2 (F__law_true n) := by
  obtain ⟨fd, Fd⟩ := c.def_ 27 (d := dd "_law_true" 43) rfl
  have gl := He.glo_ok KX G (c.fact 27 (f := .glo "_law_true") rfl)
  have hb := Fd.bindsN (ps := [("condition" : Str), ("worths" : Str)]) fun _ _ _ _ _ _ us hl => match us, hl with | [_, _], _ => rfl
  have nd : ([("condition" : Str), ("worths" : Str), ("word" : Str), ("sides" : Str), ("one" : Str), ("two" : Str), ("part" : Str)] : List Str).Nodup := by decide +kernel
  have sc : FnScope [("condition" : Str), ("worths" : Str), ("word" : Str), ("sides" : Str), ("one" : Str), ("two" : Str), ("part" : Str)] [("condition" : Str), ("worths" : Str)] (dd "_law_true" 43).scope := ⟨rfl, rfl, rfl, by decide +kernel, rfl, by decide +kernel, by decide +kernel⟩
  intro n
  induction n with
  | zero => exact df_none (ps := [("condition" : Str), ("worths" : Str)]) Fd gl hb sc
  | succ n Ds => exact df_of (N := [("condition" : Str), ("worths" : Str), ("word" : Str), ("sides" : Str), ("one" : Str), ("two" : Str), ("part" : Str)]) (ps := [("condition" : Str), ("worths" : Str)]) (b := b__law_true (F__law_true n)) Fd gl hb sc fun cdv A outer s H E hr => evb_cons (evs_asg (ev_ix (u1 hr) (ev_var (pv 0)) (ev_int) (by intro _ _; rfl)) (eg_name nd rfl (by first | exact .inl rfl | exact .inr rfl))) (evb_cons (evs_if (et_cmp (od_eq (u64 hr)) (ev_var (pv 2)) (ev_str) rfl) (evb_cons (evs_asg (ev_sl (ev_var (pv 0)) (evo_some (ev_int)) evo_none) (eg_tup rfl (egs_cons (eg_name nd rfl (by first | exact .inl rfl | exact .inr rfl)) (egs_cons (eg_name nd rfl (by first | exact .inl rfl | exact .inr rfl)) (egs_nil))))) (evb_one (evs_ret (ev_cmp (od_eq (u64 hr)) (ev_get2 (u1 hr) (ev_var (pv 1)) (evs_cons (ev_var (pv 4)) (evs_cons (ev_var (pv 4)) (evs_nil)))) (ev_get2 (u1 hr) (ev_var (pv 1)) (evs_cons (ev_var (pv 5)) (evs_cons (ev_var (pv 5)) (evs_nil)))) rfl)))) (evb_nil)) (evb_cons (evs_if (et_cmp (od_eq (u64 hr)) (ev_var (pv 2)) (ev_str) rfl) (evb_one (evs_ret (ev_not (ev_call Ds (hr.mono (by omega)) (by rfl) (evs_cons (ev_ix (u1 hr) (ev_var (pv 0)) (ev_int) (by intro _ _; rfl)) (evs_cons (ev_var (pv 1)) (evs_nil))))))) (evb_nil)) (evb_cons (evs_setLc (i := 3) rfl nd rfl rfl (sw_true rfl rfl rfl rfl) (ei_seq (ev_ix (u1 hr) (ev_var (pv 0)) (ev_int) (by intro _ _; rfl))) (blkOk_by (own := [("part", 6)]) (by kernel_rfl)) (fun _ _ _ _ _ => eg_name nd rfl (by first | exact .inl rfl | exact .inr rfl)) (fun _ _ _ _ _ => ecs_nil) (fun _ _ _ _ _ => ev_call Ds (hr.mono (by omega)) (by rfl) (evs_cons (ev_var (pv 6)) (evs_cons (ev_var (pv 1)) (evs_nil)))) (by decide)) (evb_one (evs_ret (ev_if (et_cmp (od_eq (u64 hr)) (ev_var (pv 2)) (ev_str) rfl) (ev_cmp (od_notin (u65 hr)) (ev_bl) (ev_var (pv 3)) rfl) (ev_cmp (od_in (u65 hr)) (ev_bl) (ev_var (pv 3)) rfl)))))))
theorem df__law_by {P : Program} {w : World} {K : PySem.W.Frag} {mg : Str → Option Value} {base h : Heap} (KX : K.In h) (G : h.Ns mainGlobals mg) (c : He.SaysD fa fn K) : Df P w K mg base (0 + 1) "_law_by" 2 F__law_by := by
  obtain ⟨fd, Fd⟩ := c.def_ 28 (d := dd "_law_by" 44) rfl
  have gl := He.glo_ok KX G (c.fact 28 (f := .glo "_law_by") rfl)
  have hb := Fd.bindsN (ps := [("unknowns" : Str), ("filling" : Str)]) fun _ _ _ _ _ _ us hl => match us, hl with | [_, _], _ => rfl
  have fr_list := He.free_ok KX G (c.fact 49 (f := .free "list") rfl)
  have fr_zip := He.free_ok KX G (c.fact 57 (f := .free "zip") rfl)
  have fr_dict := He.free_ok KX G (c.fact 45 (f := .free "dict") rfl)
  have nd : ([("unknowns" : Str), ("filling" : Str)] : List Str).Nodup := by decide +kernel
  exact df_of (k := 0) (N := [("unknowns" : Str), ("filling" : Str)]) (ps := [("unknowns" : Str), ("filling" : Str)]) (b := b__law_by) Fd gl hb ⟨rfl, rfl, rfl, by decide +kernel, rfl, by decide +kernel, by decide +kernel⟩ fun cdv A outer s H E hr => evb_one (evs_ret (ev_callTy (cd_dict rfl) (by rfl) fr_dict (by rfl) (evs_cons (ev_listZip rfl (by rfl) fr_list (by rfl) fr_zip (evs_cons (ev_var (pv 0)) (evs_cons (ev_var (pv 1)) (evs_nil)))) (evs_nil))))
theorem df__law_cells {P : Program} {w : World} {K : PySem.W.Frag} {mg : Str → Option Value} {base h : Heap} (KX : K.In h) (G : h.Ns mainGlobals mg) (c : He.SaysD fa fn K) : ∀ n : Nat, Df P w K mg base (0 + n + 1) "_law_cells" 1 (F__law_cells n) := by
  obtain ⟨fd, Fd⟩ := c.def_ 29 (d := dd "_law_cells" 45) rfl
  have gl := He.glo_ok KX G (c.fact 29 (f := .glo "_law_cells") rfl)
  have hb := Fd.bindsN (ps := [("condition" : Str)]) fun _ _ _ _ _ _ us hl => match us, hl with | [_], _ => rfl
  have fr_list := He.free_ok KX G (c.fact 49 (f := .free "list") rfl)
  have nd : ([("condition" : Str), ("found" : Str), ("part" : Str)] : List Str).Nodup := by decide +kernel
  have sc : FnScope [("condition" : Str), ("found" : Str), ("part" : Str)] [("condition" : Str)] (dd "_law_cells" 45).scope := ⟨rfl, rfl, rfl, by decide +kernel, rfl, by decide +kernel, by decide +kernel⟩
  intro n
  induction n with
  | zero => exact df_none (ps := [("condition" : Str)]) Fd gl hb sc
  | succ n Ds => exact df_of (N := [("condition" : Str), ("found" : Str), ("part" : Str)]) (ps := [("condition" : Str)]) (b := b__law_cells (F__law_cells n)) Fd gl hb sc fun cdv A outer s H E hr => evb_cons (evs_if (et_cmp (od_eq (u64 hr)) (ev_ix (u1 hr) (ev_var (pv 0)) (ev_int) (by intro _ _; rfl)) (ev_str) rfl) (evb_one (evs_ret (ev_callTy cd_list (by rfl) fr_list (by rfl) (evs_cons (ev_sl (ev_var (pv 0)) (evo_some (ev_int)) evo_none) (evs_nil))))) (evb_nil)) (evb_cons (evs_if (et_cmp (od_eq (u64 hr)) (ev_ix (u1 hr) (ev_var (pv 0)) (ev_int) (by intro _ _; rfl)) (ev_str) rfl) (evb_one (evs_ret (ev_call Ds (hr.mono (by omega)) (by rfl) (evs_cons (ev_ix (u1 hr) (ev_var (pv 0)) (ev_int) (by intro _ _; rfl)) (evs_nil))))) (evb_nil)) (evb_cons (evs_asg (ev_lst (evs_nil)) (eg_name nd rfl (by first | exact .inl rfl | exact .inr rfl))) (evb_cons (evs_for rfl rfl (ei_seq (ev_ix (u1 hr) (ev_var (pv 0)) (ev_int) (by intro _ _; rfl))) (eg_name nd rfl (by first | exact .inl rfl | exact .inr rfl)) (evb_one (evs_asg (ev_bin od_add (ev_var (pv 1)) (ev_call Ds (hr.mono (by omega)) (by rfl) (evs_cons (ev_var (pv 2)) (evs_nil)))) (eg_name nd rfl (by first | exact .inl rfl | exact .inr rfl))))) (evb_one (evs_ret (ev_var (pv 1)))))))
theorem df__law_worthy {P : Program} {w : World} {K : PySem.W.Frag} {mg : Str → Option Value} {base h : Heap} (KX : K.In h) (G : h.Ns mainGlobals mg) (c : He.SaysD fa fn K) : Df P w K mg base (0 + 1) "_law_worthy" 1 F__law_worthy := by
  obtain ⟨fd, Fd⟩ := c.def_ 30 (d := dd "_law_worthy" 46) rfl
  have gl := He.glo_ok KX G (c.fact 30 (f := .glo "_law_worthy") rfl)
  have hb := Fd.bindsN (ps := [("cells" : Str)]) fun _ _ _ _ _ _ us hl => match us, hl with | [_], _ => rfl
  have fr_sorted := He.free_ok KX G (c.fact 53 (f := .free "sorted") rfl)
  have fr_set := He.free_ok KX G (c.fact 52 (f := .free "set") rfl)
  have fr_tuple := He.free_ok KX G (c.fact 56 (f := .free "tuple") rfl)
  have nd : ([("cells" : Str), ("cell" : Str)] : List Str).Nodup := by decide +kernel
  exact df_of (k := 0) (N := [("cells" : Str), ("cell" : Str)]) (ps := [("cells" : Str)]) (b := b__law_worthy) Fd gl hb ⟨rfl, rfl, rfl, by decide +kernel, rfl, by decide +kernel, by decide +kernel⟩ fun cdv A outer s H E hr => evb_one (evs_ret (ev_callTy cd_tuple (by rfl) fr_tuple (by rfl) (evs_cons (ev_sortSetT rfl (u64 hr) (by rfl) fr_sorted (by rfl) fr_set (evs_cons (ev_lc rfl nd (ei_seq (ev_var (pv 0))) (blkOk_by (own := [("cell", 1)]) (by kernel_rfl)) (fun _ _ _ _ _ => eg_name nd rfl (by first | exact .inl rfl | exact .inr rfl)) (fun _ _ _ _ _ => ecs_one (et_cmp od_ge (ev_var (pv 1)) (ev_int) rfl)) (fun _ _ _ _ _ => ev_var (pv 1)) (by decide)) (evs_nil))) (evs_nil))))
theorem df__law_number {P : Program} {w : World} {K : PySem.W.Frag} {mg : Str → Option Value} {base h : Heap} (KX : K.In h) (G : h.Ns mainGlobals mg) (c : He.SaysD fa fn K) : Df P w K mg base (0 + 1) "_law_number" 3 F__law_number := by
  obtain ⟨fd, Fd⟩ := c.def_ 31 (d := dd "_law_number" 47) rfl
  have gl := He.glo_ok KX G (c.fact 31 (f := .glo "_law_number") rfl)
  have hb := Fd.bindsN (ps := [("here" : Str), ("low" : Str), ("high" : Str)]) fun _ _ _ _ _ _ us hl => match us, hl with | [_, _, _], _ => rfl
  have fr_int := He.free_ok KX G (c.fact 46 (f := .free "int") rfl)
  have fr_isinstance := He.free_ok KX G (c.fact 47 (f := .free "isinstance") rfl)
  have fr_bool := He.free_ok KX G (c.fact 44 (f := .free "bool") rfl)
  have nd : ([("here" : Str), ("low" : Str), ("high" : Str)] : List Str).Nodup := by decide +kernel
  exact df_of (k := 0) (N := [("here" : Str), ("low" : Str), ("high" : Str)]) (ps := [("here" : Str), ("low" : Str), ("high" : Str)]) (b := b__law_number) Fd gl hb ⟨rfl, rfl, rfl, by decide +kernel, rfl, by decide +kernel, by decide +kernel⟩ fun cdv A outer s H E hr => evb_one (evs_ret (ev_and (ev_isi .int rfl (by rfl) fr_int (ev_var (pv 0)) (by rfl) fr_isinstance) (ev_and (ev_not (ev_isi .bool rfl (by rfl) fr_bool (ev_var (pv 0)) (by rfl) fr_isinstance)) (ev_and1 (ev_chain od_le od_le (ev_var (pv 1)) (ev_var (pv 0)) (ev_var (pv 2)))))))
theorem df__law_is_cell {P : Program} {w : World} {K : PySem.W.Frag} {mg : Str → Option Value} {base h : Heap} (KX : K.In h) (G : h.Ns mainGlobals mg) (c : He.SaysD fa fn K) : Df P w K mg base (1 + 1) "_law_is_cell" 2 F__law_is_cell := by
  obtain ⟨fd, Fd⟩ := c.def_ 32 (d := dd "_law_is_cell" 48) rfl
  have gl := He.glo_ok KX G (c.fact 32 (f := .glo "_law_is_cell") rfl)
  have hb := Fd.bindsN (ps := [("unknowns" : Str), ("here" : Str)]) fun _ _ _ _ _ _ us hl => match us, hl with | [_, _], _ => rfl
  have D__law_number := df__law_number (P := P) (w := w) (base := base) KX G c
  have nd : ([("unknowns" : Str), ("here" : Str)] : List Str).Nodup := by decide +kernel
  exact df_of (k := 1) (N := [("unknowns" : Str), ("here" : Str)]) (ps := [("unknowns" : Str), ("here" : Str)]) (b := b__law_is_cell) Fd gl hb ⟨rfl, rfl, rfl, by decide +kernel, rfl, by decide +kernel, by decide +kernel⟩ fun cdv A outer s H E hr => evb_one (evs_ret (ev_or (ev_call D__law_number (hr.mono (by omega)) (by rfl) (evs_cons (ev_var (pv 1)) (evs_cons (ev_int) (evs_cons (ev_bin od_pow (ev_int) (ev_int)) (evs_nil))))) (ev_and1 (ev_and (ev_call D__law_number (hr.mono (by omega)) (by rfl) (evs_cons (ev_var (pv 1)) (evs_cons (ev_un ud_neg (ev_int)) (evs_cons (ev_un ud_neg (ev_int)) (evs_nil))))) (ev_and1 (ev_cmp (od_in (u65 hr)) (ev_var (pv 1)) (ev_var (pv 0)) rfl))))))
theorem df__law_weight {P : Program} {w : World} {K : PySem.W.Frag} {mg : Str → Option Value} {base h : Heap} (KX : K.In h) (G : h.Ns mainGlobals mg) (c : He.SaysD fa fn K) : ∀ n : Nat, Df P w K mg base (2 + n + 1) "_law_weight" 3 (F__law_weight n) := by
  obtain ⟨fd, Fd⟩ := c.def_ 33 (d := dd "_law_weight" 49) rfl
  have gl := He.glo_ok KX G (c.fact 33 (f := .glo "_law_weight") rfl)
  have hb := Fd.bindsN (ps := [("unknowns" : Str), ("here" : Str), ("deep" : Str)]) fun _ _ _ _ _ _ us hl => match us, hl with | [_, _, _], _ => rfl
  have fr_tuple := He.free_ok KX G (c.fact 56 (f := .free "tuple") rfl)
  have fr_isinstance := He.free_ok KX G (c.fact 47 (f := .free "isinstance") rfl)
  have fr_str := He.free_ok KX G (c.fact 54 (f := .free "str") rfl)
  have fr_len := He.free_ok KX G (c.fact 48 (f := .free "len") rfl)
  have fr_sum := He.free_ok KX G (c.fact 55 (f := .free "sum") rfl)
  have D__law_is_cell := df__law_is_cell (P := P) (w := w) (base := base) KX G c
  have nd : ([("unknowns" : Str), ("here" : Str), ("deep" : Str), ("part" : Str)] : List Str).Nodup := by decide +kernel
  have sc : FnScope [("unknowns" : Str), ("here" : Str), ("deep" : Str), ("part" : Str)] [("unknowns" : Str), ("here" : Str), ("deep" : Str)] (dd "_law_weight" 49).scope := ⟨rfl, rfl, rfl, by decide +kernel, rfl, by decide +kernel, by decide +kernel⟩
  intro n
  induction n with
  | zero => exact df_none (ps := [("unknowns" : Str), ("here" : Str), ("deep" : Str)]) Fd gl hb sc
  | succ n Ds => exact df_of (N := [("unknowns" : Str), ("here" : Str), ("deep" : Str), ("part" : Str)]) (ps := [("unknowns" : Str), ("here" : Str), ("deep" : Str)]) (b := b__law_weight (F__law_weight n)) Fd gl hb sc fun cdv A outer s H E hr => evb_cons (evs_if (ETW.t (et_or (et_not (et_val (ev_isi .tup rfl (by rfl) fr_tuple (ev_var (pv 1)) (by rfl) fr_isinstance))) (et_or (et_cmp (od_eq (u64 hr)) (ev_var (pv 1)) (ev_tup (evs_nil)) rfl) (et_or (et_not (et_val (ev_isi .str rfl (by rfl) fr_str (ev_ix (u1 hr) (ev_var (pv 1)) (ev_int) (by intro _ _; rfl)) (by rfl) fr_isinstance))) (et_or1 (et_cmp (od_lt (u0 hr)) (ev_var (pv 2)) (ev_int) rfl)))))) (evb_one (evs_ret (ev_int))) (evb_nil)) (evb_cons (evs_if (et_cmp (od_eq (u64 hr)) (ev_ix (u1 hr) (ev_var (pv 1)) (ev_int) (by intro _ _; rfl)) (ev_str) rfl) (evb_one (evs_ret (ev_if (ETW.t (et_and (et_cmp (od_eq (u64 hr)) (ev_callB cd_len (by rfl) fr_len (by rfl) (evs_cons (ev_var (pv 1)) (evs_nil))) (ev_int) rfl) (et_and (et_val (ev_call D__law_is_cell (hr.mono (by omega)) (by rfl) (evs_cons (ev_var (pv 0)) (evs_cons (ev_ix (u1 hr) (ev_var (pv 1)) (ev_int) (by intro _ _; rfl)) (evs_nil))))) (et_and1 (et_val (ev_call D__law_is_cell (hr.mono (by omega)) (by rfl) (evs_cons (ev_var (pv 0)) (evs_cons (ev_ix (u1 hr) (ev_var (pv 1)) (ev_int) (by intro _ _; rfl)) (evs_nil))))))))) (ev_int) (ev_int)))) (evb_nil)) (evb_cons (evs_if (ETW.t (et_or (et_cmp (od_ne (u64 hr)) (ev_callB cd_len (by rfl) fr_len (by rfl) (evs_cons (ev_var (pv 1)) (evs_nil))) (ev_int) rfl) (et_or1 (et_cmp (od_notin (u65 hr)) (ev_ix (u1 hr) (ev_var (pv 1)) (ev_int) (by intro _ _; rfl)) (ev_tup (evs_cons (ev_str) (evs_cons (ev_str) (evs_cons (ev_str) (evs_nil))))) rfl)))) (evb_one (evs_ret (ev_int))) (evb_nil)) (evb_cons (evs_if (et_cmp (od_eq (u64 hr)) (ev_ix (u1 hr) (ev_var (pv 1)) (ev_int) (by intro _ _; rfl)) (ev_str) rfl) (evb_one (evs_ret (ev_bin od_add (ev_int) (ev_call Ds (hr.mono (by omega)) (by rfl) (evs_cons (ev_var (pv 0)) (evs_cons (ev_ix (u1 hr) (ev_var (pv 1)) (ev_int) (by intro _ _; rfl)) (evs_cons (ev_bin od_sub (ev_var (pv 2)) (ev_int)) (evs_nil)))))))) (evb_nil)) (evb_cons (evs_if (et_not (et_val (ev_isi .tup rfl (by rfl) fr_tuple (ev_ix (u1 hr) (ev_var (pv 1)) (ev_int) (by intro _ _; rfl)) (by rfl) fr_isinstance))) (evb_one (evs_ret (ev_int))) (evb_nil)) (evb_one (evs_ret (ev_bin od_add (ev_int) (ev_callB (cd_sum rfl) (by rfl) fr_sum (by rfl) (evs_cons (ev_lc rfl nd (ei_seq (ev_ix (u1 hr) (ev_var (pv 1)) (ev_int) (by intro _ _; rfl))) (blkOk_by (own := [("part", 3)]) (by kernel_rfl)) (fun _ _ _ _ _ => eg_name nd rfl (by first | exact .inl rfl | exact .inr rfl)) (fun _ _ _ _ _ => ecs_nil) (fun _ _ _ _ _ => ev_call Ds (hr.mono (by omega)) (by rfl) (evs_cons (ev_var (pv 0)) (evs_cons (ev_var (pv 3)) (evs_cons (ev_bin od_sub (ev_var (pv 2)) (ev_int)) (evs_nil))))) (by decide)) (evs_nil))))))))))
theorem df__law_guarded {P : Program} {w : World} {K : PySem.W.Frag} {mg : Str → Option Value} {base h : Heap} (KX : K.In h) (G : h.Ns mainGlobals mg) (c : He.SaysD fa fn K) : Df P w K mg base (20 + 1) "_law_guarded" 4 F__law_guarded := by
  obtain ⟨fd, Fd⟩ := c.def_ 34 (d := dd "_law_guarded" 50) rfl
  have gl := He.glo_ok KX G (c.fact 34 (f := .glo "_law_guarded") rfl)
  have hb := Fd.bindsN (ps := [("cup" : Str), ("unknowns" : Str), ("columns" : Str), ("most" : Str)]) fun _ _ _ _ _ _ us hl => match us, hl with | [_, _, _, _], _ => rfl
  have fr_range := He.free_ok KX G (c.fact 50 (f := .free "range") rfl)
  have fr_tuple := He.free_ok KX G (c.fact 56 (f := .free "tuple") rfl)
  have D__law_roll := df__law_roll (P := P) (w := w) (base := base) KX G c
  have D__law_any_cell := df__law_any_cell (P := P) (w := w) (base := base) KX G c
  have D__law_condition := df__law_condition (P := P) (w := w) (base := base) KX G c 16
  have nd : ([("cup" : Str), ("unknowns" : Str), ("columns" : Str), ("most" : Str), ("found" : Str), ("entry" : Str), ("row" : Str), ("condition" : Str), ("column" : Str)] : List Str).Nodup := by decide +kernel
  exact df_of (k := 20) (N := [("cup" : Str), ("unknowns" : Str), ("columns" : Str), ("most" : Str), ("found" : Str), ("entry" : Str), ("row" : Str), ("condition" : Str), ("column" : Str)]) (ps := [("cup" : Str), ("unknowns" : Str), ("columns" : Str), ("most" : Str)]) (b := b__law_guarded) Fd gl hb ⟨rfl, rfl, rfl, by decide +kernel, rfl, by decide +kernel, by decide +kernel⟩ fun cdv A outer s H E hr => evb_cons (evs_asg (ev_tup (evs_nil)) (eg_name nd rfl (by first | exact .inl rfl | exact .inr rfl))) (evb_cons (evs_for rfl rfl (ei_range1 (by rfl) fr_range (evs_cons (ev_call D__law_roll (hr.mono (by omega)) (by rfl) (evs_cons (ev_var (pv 0)) (evs_cons (ev_bin od_add (ev_var (pv 3)) (ev_int)) (evs_nil)))) (evs_nil))) (eg_name nd rfl (by first | exact .inl rfl | exact .inr rfl)) (evb_cons (evs_asg (ev_callTy cd_tuple (by rfl) fr_tuple (by rfl) (evs_cons (ev_lc rfl nd (ei_range1 (by rfl) fr_range (evs_cons (ev_var (pv 2)) (evs_nil))) (blkOk_by (own := [("column", 8)]) (by kernel_rfl)) (fun _ _ _ _ _ => eg_name nd rfl (by first | exact .inl rfl | exact .inr rfl)) (fun _ _ _ _ _ => ecs_nil) (fun _ _ _ _ _ => ev_call D__law_any_cell (hr.mono (by omega)) (by rfl) (evs_cons (ev_var (pv 0)) (evs_cons (ev_var (pv 1)) (evs_nil)))) (by decide)) (evs_nil))) (eg_name nd rfl (by first | exact .inl rfl | exact .inr rfl))) (evb_cons (evs_asg (ev_if (et_cmp (od_eq (u64 hr)) (ev_call D__law_roll (hr.mono (by omega)) (by rfl) (evs_cons (ev_var (pv 0)) (evs_cons (ev_int) (evs_nil)))) (ev_int) rfl) (ev_tup (evs_cons (ev_str) (evs_cons (ev_tup (evs_nil)) (evs_nil)))) (ev_call D__law_condition (hr.mono (by omega)) (by rfl) (evs_cons (ev_var (pv 0)) (evs_cons (ev_var (pv 1)) (evs_cons (ev_int) (evs_nil)))))) (eg_name nd rfl (by first | exact .inl rfl | exact .inr rfl))) (evb_one (evs_asg (ev_bin od_add (ev_var (pv 4)) (ev_tup (evs_cons (ev_tup (evs_cons (ev_var (pv 6)) (evs_cons (ev_var (pv 7)) (evs_nil)))) (evs_nil)))) (eg_name nd rfl (by first | exact .inl rfl | exact .inr rfl))))))) (evb_one (evs_ret (ev_tup (evs_cons (ev_var (pv 2)) (evs_cons (ev_var (pv 4)) (evs_nil)))))))
theorem df__law_full {P : Program} {w : World} {K : PySem.W.Frag} {mg : Str → Option Value} {base h : Heap} (KX : K.In h) (G : h.Ns mainGlobals mg) (c : He.SaysD fa fn K) : Df P w K mg base (17 + 1) "_law_full" 2 F__law_full := by
  obtain ⟨fd, Fd⟩ := c.def_ 35 (d := dd "_law_full" 51) rfl
  have gl := He.glo_ok KX G (c.fact 35 (f := .glo "_law_full") rfl)
  have hb := Fd.bindsN (ps := [("guarded" : Str), ("worths" : Str)]) fun _ _ _ _ _ _ us hl => match us, hl with | [_, _], _ => rfl
  have fr_sorted := He.free_ok KX G (c.fact 53 (f := .free "sorted") rfl)
  have fr_set := He.free_ok KX G (c.fact 52 (f := .free "set") rfl)
  have fr_tuple := He.free_ok KX G (c.fact 56 (f := .free "tuple") rfl)
  have D__law_true := df__law_true (P := P) (w := w) (base := base) KX G c 16
  have D__law_put := df__law_put (P := P) (w := w) (base := base) KX G c
  have nd : ([("guarded" : Str), ("worths" : Str), ("row" : Str), ("condition" : Str)] : List Str).Nodup := by decide +kernel
  exact df_of (k := 17) (N := [("guarded" : Str), ("worths" : Str), ("row" : Str), ("condition" : Str)]) (ps := [("guarded" : Str), ("worths" : Str)]) (b := b__law_full) Fd gl hb ⟨rfl, rfl, rfl, by decide +kernel, rfl, by decide +kernel, by decide +kernel⟩ fun cdv A outer s H E hr => evb_one (evs_ret (ev_callTy cd_tuple (by rfl) fr_tuple (by rfl) (evs_cons (ev_sortSetT rfl (u64 hr) (by rfl) fr_sorted (by rfl) fr_set (evs_cons (ev_lc rfl nd (ei_seq (ev_ix (u1 hr) (ev_var (pv 0)) (ev_int) (by intro _ _; rfl))) (blkOk_by (own := [("row", 2), ("condition", 3)]) (by kernel_rfl)) (fun _ _ _ _ _ => eg_tup rfl (egs_cons (eg_name nd rfl (by first | exact .inl rfl | exact .inr rfl)) (egs_cons (eg_name nd rfl (by first | exact .inl rfl | exact .inr rfl)) (egs_nil)))) (fun _ _ _ _ _ => ecs_one (et_val (ev_call D__law_true (hr.mono (by omega)) (by rfl) (evs_cons (ev_var (pv 3)) (evs_cons (ev_var (pv 1)) (evs_nil)))))) (fun _ _ _ _ _ => ev_call D__law_put (hr.mono (by omega)) (by rfl) (evs_cons (ev_var (pv 2)) (evs_cons (ev_var (pv 1)) (evs_nil)))) (by decide)) (evs_nil))) (evs_nil))))
theorem df__law_spoilt {P : Program} {w : World} {K : PySem.W.Frag} {mg : Str → Option Value} {base h : Heap} (KX : K.In h) (G : h.Ns mainGlobals mg) (c : He.SaysD fa fn K) : ∀ n : Nat, Df P w K mg base (2 + n + 1) "_law_spoilt" 2 (F__law_spoilt n) := by
  obtain ⟨fd, Fd⟩ := c.def_ 36 (d := dd "_law_spoilt" 52) rfl
  have gl := He.glo_ok KX G (c.fact 36 (f := .glo "_law_spoilt") rfl)
  have hb := Fd.bindsN (ps := [("cup" : Str), ("here" : Str)]) fun _ _ _ _ _ _ us hl => match us, hl with | [_, _], _ => rfl
  have fr_tuple := He.free_ok KX G (c.fact 56 (f := .free "tuple") rfl)
  have fr_isinstance := He.free_ok KX G (c.fact 47 (f := .free "isinstance") rfl)
  have fr_len := He.free_ok KX G (c.fact 48 (f := .free "len") rfl)
  have fr_list := He.free_ok KX G (c.fact 49 (f := .free "list") rfl)
  have D__law_roll := df__law_roll (P := P) (w := w) (base := base) KX G c
  have D__law_some := df__law_some (P := P) (w := w) (base := base) KX G c
  have nd : ([("cup" : Str), ("here" : Str), ("at" : Str), ("way" : Str)] : List Str).Nodup := by decide +kernel
  have sc : FnScope [("cup" : Str), ("here" : Str), ("at" : Str), ("way" : Str)] [("cup" : Str), ("here" : Str)] (dd "_law_spoilt" 52).scope := ⟨rfl, rfl, rfl, by decide +kernel, rfl, by decide +kernel, by decide +kernel⟩
  intro n
  induction n with
  | zero => exact df_none (ps := [("cup" : Str), ("here" : Str)]) Fd gl hb sc
  | succ n Ds => exact df_of (N := [("cup" : Str), ("here" : Str), ("at" : Str), ("way" : Str)]) (ps := [("cup" : Str), ("here" : Str)]) (b := b__law_spoilt (F__law_spoilt n)) Fd gl hb sc fun cdv A outer s H E hr => evb_cons (evs_if (ETW.t (et_or (et_not (et_val (ev_isi .tup rfl (by rfl) fr_tuple (ev_var (pv 1)) (by rfl) fr_isinstance))) (et_or (et_cmp (od_eq (u64 hr)) (ev_var (pv 1)) (ev_tup (evs_nil)) rfl) (et_or1 (et_cmp (od_eq (u64 hr)) (ev_call D__law_roll (hr.mono (by omega)) (by rfl) (evs_cons (ev_var (pv 0)) (evs_cons (ev_int) (evs_nil)))) (ev_int) rfl))))) (evb_one (evs_ret (ev_call D__law_some (hr.mono (by omega)) (by rfl) (evs_cons (ev_var (pv 0)) (evs_cons (ev_lst (evs_cons (ev_non) (evs_cons (ev_tup (evs_nil)) (evs_cons (ev_lst (evs_nil)) (evs_cons (ev_int) (evs_cons (ev_int) (evs_cons (ev_int) (evs_cons (ev_int) (evs_cons (ev_un ud_neg (ev_int)) (evs_cons (ev_un ud_neg (ev_int)) (evs_cons (ev_bl) (evs_cons (ev_str) (evs_cons (ev_tup (evs_cons (ev_int) (evs_nil))) (evs_cons (ev_tup (evs_cons (ev_tup (evs_cons (ev_int) (evs_nil))) (evs_cons (ev_tup (evs_cons (ev_str) (evs_cons (ev_tup (evs_nil)) (evs_nil)))) (evs_nil)))) (evs_cons (ev_tup (evs_cons (ev_str) (evs_cons (ev_tup (evs_nil)) (evs_nil)))) (evs_cons (ev_tup (evs_cons (ev_int) (evs_cons (ev_tup (evs_nil)) (evs_nil)))) (evs_nil))))))))))))))))) (evs_nil)))))) (evb_nil)) (evb_cons (evs_par (i := 2) (j := 3) rfl nd rfl rfl (by decide) rfl rfl (evs_cons (ev_call D__law_roll (hr.mono (by omega)) (by rfl) (evs_cons (ev_var (pv 0)) (evs_cons (ev_callB cd_len (by rfl) fr_len (by rfl) (evs_cons (ev_var (pv 1)) (evs_nil))) (evs_nil)))) (evs_cons (ev_call D__law_roll (hr.mono (by omega)) (by rfl) (evs_cons (ev_var (pv 0)) (evs_cons (ev_int) (evs_nil)))) (evs_nil))) (by rfl)) (evb_cons (evs_if (et_cmp (od_lt (u0 hr)) (ev_var (pv 3)) (ev_int) rfl) (evb_one (evs_ret (ev_bin od_add (ev_bin od_add (ev_sl (ev_var (pv 1)) evo_none (evo_some (ev_var (pv 2)))) (ev_sl (ev_var (pv 1)) (evo_some (ev_bin od_add (ev_var (pv 2)) (ev_var (pv 3)))) evo_none)) (ev_if (et_cmp (od_eq (u64 hr)) (ev_var (pv 3)) (ev_int) rfl) (ev_sl (ev_var (pv 1)) (evo_some (ev_var (pv 2))) (evo_some (ev_bin od_add (ev_var (pv 2)) (ev_int)))) (ev_tup (evs_nil)))))) (evb_nil)) (evb_one (evs_ret (ev_if (et_cmp (od_eq (u64 hr)) (ev_var (pv 3)) (ev_int) rfl) (ev_callTy cd_list (by rfl) fr_list (by rfl) (evs_cons (ev_var (pv 1)) (evs_nil))) (ev_bin od_add (ev_bin od_add (ev_sl (ev_var (pv 1)) evo_none (evo_some (ev_var (pv 2)))) (ev_tup (evs_cons (ev_call Ds (hr.mono (by omega)) (by rfl) (evs_cons (ev_var (pv 0)) (evs_cons (ev_ix (u1 hr) (ev_var (pv 1)) (ev_var (pv 2)) (by intro _ _; rfl)) (evs_nil)))) (evs_nil)))) (ev_sl (ev_var (pv 1)) (evo_some (ev_bin od_add (ev_var (pv 2)) (ev_int))) evo_none)))))))
theorem df__law_fits {P : Program} {w : World} {K : PySem.W.Frag} {mg : Str → Option Value} {base h : Heap} (KX : K.In h) (G : h.Ns mainGlobals mg) (c : He.SaysD fa fn K) : Df P w K mg base (19 + 1) "_law_fits" 2 F__law_fits := by
  obtain ⟨fd, Fd⟩ := c.def_ 37 (d := dd "_law_fits" 53) rfl
  have gl := He.glo_ok KX G (c.fact 37 (f := .glo "_law_fits") rfl)
  have hb := Fd.bindsN (ps := [("unknowns" : Str), ("here" : Str)]) fun _ _ _ _ _ _ us hl => match us, hl with | [_, _], _ => rfl
  have fr_tuple := He.free_ok KX G (c.fact 56 (f := .free "tuple") rfl)
  have fr_isinstance := He.free_ok KX G (c.fact 47 (f := .free "isinstance") rfl)
  have fr_len := He.free_ok KX G (c.fact 48 (f := .free "len") rfl)
  have D__law_number := df__law_number (P := P) (w := w) (base := base) KX G c
  have D__law_is_cell := df__law_is_cell (P := P) (w := w) (base := base) KX G c
  have D__law_weight := df__law_weight (P := P) (w := w) (base := base) KX G c 16
  have nd : ([("unknowns" : Str), ("here" : Str), ("entry" : Str), ("cell" : Str)] : List Str).Nodup := by decide +kernel
  exact df_of (k := 19) (N := [("unknowns" : Str), ("here" : Str), ("entry" : Str), ("cell" : Str)]) (ps := [("unknowns" : Str), ("here" : Str)]) (b := b__law_fits) Fd gl hb ⟨rfl, rfl, rfl, by decide +kernel, rfl, by decide +kernel, by decide +kernel⟩ fun cdv A outer s H E hr => evb_cons (evs_if (ETW.t (et_or (et_not (et_val (ev_isi .tup rfl (by rfl) fr_tuple (ev_var (pv 1)) (by rfl) fr_isinstance))) (et_or (et_cmp (od_ne (u64 hr)) (ev_callB cd_len (by rfl) fr_len (by rfl) (evs_cons (ev_var (pv 1)) (evs_nil))) (ev_int) rfl) (et_or (et_not (et_val (ev_call D__law_number (hr.mono (by omega)) (by rfl) (evs_cons (ev_ix (u1 hr) (ev_var (pv 1)) (ev_int) (by intro _ _; rfl)) (evs_cons (ev_int) (evs_cons (ev_int) (evs_nil))))))) (et_or (et_not (et_val (ev_isi .tup rfl (by rfl) fr_tuple (ev_ix (u1 hr) (ev_var (pv 1)) (ev_int) (by intro _ _; rfl)) (by rfl) fr_isinstance))) (et_or1 (et_cmp od_gt (ev_callB cd_len (by rfl) fr_len (by rfl) (evs_cons (ev_ix (u1 hr) (ev_var (pv 1)) (ev_int) (by intro _ _; rfl)) (evs_nil))) (ev_int) rfl))))))) (evb_one (evs_ret (ev_bl))) (evb_nil)) (evb_cons (evs_for rfl rfl (ei_seq (ev_ix (u1 hr) (ev_var (pv 1)) (ev_int) (by intro _ _; rfl))) (eg_name nd rfl (by first | exact .inl rfl | exact .inr rfl)) (evb_cons (evs_if (ETW.t (et_or (et_not (et_val (ev_isi .tup rfl (by rfl) fr_tuple (ev_var (pv 2)) (by rfl) fr_isinstance))) (et_or (et_cmp (od_ne (u64 hr)) (ev_callB cd_len (by rfl) fr_len (by rfl) (evs_cons (ev_var (pv 2)) (evs_nil))) (ev_int) rfl) (et_or (et_not (et_val (ev_isi .tup rfl (by rfl) fr_tuple (ev_ix (u1 hr) (ev_var (pv 2)) (ev_int) (by intro _ _; rfl)) (by rfl) fr_isinstance))) (et_or1 (et_cmp (od_ne (u64 hr)) (ev_callB cd_len (by rfl) fr_len (by rfl) (evs_cons (ev_ix (u1 hr) (ev_var (pv 2)) (ev_int) (by intro _ _; rfl)) (evs_nil))) (ev_ix (u1 hr) (ev_var (pv 1)) (ev_int) (by intro _ _; rfl)) rfl)))))) (evb_one (evs_ret (ev_bl))) (evb_nil)) (evb_one (evs_if (ETW.t (et_or (et_cmp (od_ne (u64 hr)) (ev_lc rfl nd (ei_seq (ev_ix (u1 hr) (ev_var (pv 2)) (ev_int) (by intro _ _; rfl))) (blkOk_by (own := [("cell", 3)]) (by kernel_rfl)) (fun _ _ _ _ _ => eg_name nd rfl (by first | exact .inl rfl | exact .inr rfl)) (fun _ _ _ _ _ => ecs_one (et_not (et_val (ev_call D__law_is_cell (hr.mono (by omega)) (by rfl) (evs_cons (ev_var (pv 0)) (evs_cons (ev_var (pv 3)) (evs_nil))))))) (fun _ _ _ _ _ => ev_var (pv 3)) (by decide)) (ev_lst (evs_nil)) rfl) (et_or1 (et_cmp od_gt (ev_call D__law_weight (hr.mono (by omega)) (by rfl) (evs_cons (ev_var (pv 0)) (evs_cons (ev_ix (u1 hr) (ev_var (pv 2)) (ev_int) (by intro _ _; rfl)) (evs_cons (ev_int) (evs_nil))))) (ev_int) rfl)))) (evb_one (evs_ret (ev_bl))) (evb_nil))))) (evb_one (evs_ret (ev_bl))))
theorem df__law_right {P : Program} {w : World} {K : PySem.W.Frag} {mg : Str → Option Value} {base h : Heap} (KX : K.In h) (G : h.Ns mainGlobals mg) (c : He.SaysD fa fn K) : Df P w K mg base (21 + 1) "_law_right" 2 F__law_right := by
  obtain ⟨fd, Fd⟩ := c.def_ 38 (d := dd "_law_right" 54) rfl
  have gl := He.glo_ok KX G (c.fact 38 (f := .glo "_law_right") rfl)
  have hb := Fd.bindsN (ps := [("cup" : Str), ("unknowns" : Str)]) fun _ _ _ _ _ _ us hl => match us, hl with | [_, _], _ => rfl
  have fr_tuple := He.free_ok KX G (c.fact 56 (f := .free "tuple") rfl)
  have fr_range := He.free_ok KX G (c.fact 50 (f := .free "range") rfl)
  have fr_repr := He.free_ok KX G (c.fact 51 (f := .free "repr") rfl)
  have D__law_some := df__law_some (P := P) (w := w) (base := base) KX G c
  have D__law_guarded := df__law_guarded (P := P) (w := w) (base := base) KX G c
  have D_is_guarded := df_is_guarded (P := P) (w := w) (base := base) KX G c
  have D_guarded_filled := df_guarded_filled (P := P) (w := w) (base := base) KX G c
  have D__law_by := df__law_by (P := P) (w := w) (base := base) KX G c
  have D__law_full := df__law_full (P := P) (w := w) (base := base) KX G c
  have D__law_spoilt := df__law_spoilt (P := P) (w := w) (base := base) KX G c 16
  have D__law_fits := df__law_fits (P := P) (w := w) (base := base) KX G c
  have nd : ([("cup" : Str), ("unknowns" : Str), ("guarded" : Str), ("filling" : Str), ("turn" : Str), ("value" : Str), ("unknown" : Str)] : List Str).Nodup := by decide +kernel
  exact df_of (k := 21) (N := [("cup" : Str), ("unknowns" : Str), ("guarded" : Str), ("filling" : Str), ("turn" : Str), ("value" : Str), ("unknown" : Str)]) (ps := [("cup" : Str), ("unknowns" : Str)]) (b := b__law_right) Fd gl hb ⟨rfl, rfl, rfl, by decide +kernel, rfl, by decide +kernel, by decide +kernel⟩ fun cdv A outer s H E hr => evb_cons (evs_asg (ev_call D__law_guarded (hr.mono (by omega)) (by rfl) (evs_cons (ev_var (pv 0)) (evs_cons (ev_var (pv 1)) (evs_cons (ev_call D__law_some (hr.mono (by omega)) (by rfl) (evs_cons (ev_var (pv 0)) (evs_cons (ev_lst (evs_cons (ev_int) (evs_cons (ev_int) (evs_cons (ev_int) (evs_cons (ev_int) (evs_cons (ev_int) (evs_nil))))))) (evs_nil)))) (evs_cons (ev_int) (evs_nil)))))) (eg_name nd rfl (by first | exact .inl rfl | exact .inr rfl))) (evb_cons (evs_asg (ev_callTy cd_tuple (by rfl) fr_tuple (by rfl) (evs_cons (ev_lc rfl nd (ei_seq (ev_var (pv 1))) (blkOk_by (own := [("unknown", 6)]) (by kernel_rfl)) (fun _ _ _ _ _ => eg_name nd rfl (by first | exact .inl rfl | exact .inr rfl)) (fun _ _ _ _ _ => ecs_nil) (fun _ _ _ _ _ => ev_call D__law_some (hr.mono (by omega)) (by rfl) (evs_cons (ev_var (pv 0)) (evs_cons (ev_lst (evs_cons (ev_int) (evs_cons (ev_int) (evs_cons (ev_int) (evs_cons (ev_int) (evs_nil)))))) (evs_nil)))) (by decide)) (evs_nil))) (eg_name nd rfl (by first | exact .inl rfl | exact .inr rfl))) (evb_cons (evs_if (ETW.t (et_or (et_cmp od_isnot (ev_call D_is_guarded (hr.mono (by omega)) (by rfl) (evs_cons (ev_var (pv 1)) (evs_cons (ev_var (pv 2)) (evs_nil)))) (ev_bl) rfl) (et_or1 (et_cmp (od_ne (u64 hr)) (ev_call D_guarded_filled (hr.mono (by omega)) (by rfl) (evs_cons (ev_var (pv 1)) (evs_cons (ev_var (pv 2)) (evs_cons (ev_var (pv 3)) (evs_nil))))) (ev_call D__law_full (hr.mono (by omega)) (by rfl) (evs_cons (ev_var (pv 2)) (evs_cons (ev_call D__law_by (hr.mono (by omega)) (by rfl) (evs_cons (ev_var (pv 1)) (evs_cons (ev_var (pv 3)) (evs_nil)))) (evs_nil)))) rfl)))) (evb_one (evs_ret (ev_bl))) (evb_nil)) (evb_cons (evs_for rfl rfl (ei_range1 (by rfl) fr_range (evs_cons (ev_int) (evs_nil))) (eg_name nd rfl (by first | exact .inl rfl | exact .inr rfl)) (evb_cons (evs_asg (ev_call D__law_spoilt (hr.mono (by omega)) (by rfl) (evs_cons (ev_var (pv 0)) (evs_cons (ev_var (pv 2)) (evs_nil)))) (eg_name nd rfl (by first | exact .inl rfl | exact .inr rfl))) (evb_one (evs_if (et_cmp (od_ne (u64 hr)) (ev_callB cd_repr1 (by rfl) fr_repr (by rfl) (evs_cons (ev_call D_is_guarded (hr.mono (by omega)) (by rfl) (evs_cons (ev_var (pv 1)) (evs_cons (ev_var (pv 5)) (evs_nil)))) (evs_nil))) (ev_callB cd_repr1 (by rfl) fr_repr (by rfl) (evs_cons (ev_call D__law_fits (hr.mono (by omega)) (by rfl) (evs_cons (ev_var (pv 1)) (evs_cons (ev_var (pv 5)) (evs_nil)))) (evs_nil))) rfl) (evb_one (evs_ret (ev_bl))) (evb_nil))))) (evb_one (evs_ret (ev_bl))))))
theorem law_ok {P : Program} {w : World} {K : PySem.W.Frag} {mg : Str → Option Value} {h : Heap} {fad : Addr} (KX : K.In h) (G : h.Ns mainGlobals mg) (c : He.SaysD fa fn K) (hmg : mg ("law" : Str) = some (.ref fad)) : ∃ fd : FuncData, (∀ (s : Shared) (v : Value), BindsTo s fd ⟨[v], []⟩ [("script", v)]) ∧ ∀ base : Heap, FnOk P w K mg base CX0 (22 + 1) fad fd ["script"] (spF K F_law 1) := by
  obtain ⟨fd, Fd⟩ := c.def_ 39 (d := dd "law" 55) rfl
  have gl := He.glo_ok KX G (c.fact 39 (f := .glo "law") rfl)
  have fr_range := He.free_ok KX G (c.fact 50 (f := .free "range") rfl)
  have nd : ([("script" : Str), ("cup" : Str), ("turn" : Str), ("gt" : Str), ("two" : Str), ("none" : Str), ("entry" : Str)] : List Str).Nodup := by decide +kernel
  have e := hmg.symm.trans gl
  cases e
  have b := FunD.bindsA (ps := ["script"]) Fd fun _ _ _ _ _ _ us hl => match us, hl with | [_], _ => rfl
  refine ⟨fd, fun s v => b s [v] rfl, fun base => ?_⟩
  have D__law_cup := df__law_cup (P := P) (w := w) (base := base) KX G c
  have D__law_some_unknowns := df__law_some_unknowns (P := P) (w := w) (base := base) KX G c
  have D__law_right := df__law_right (P := P) (w := w) (base := base) KX G c
  have D_guarded_filled := df_guarded_filled (P := P) (w := w) (base := base) KX G c
  have D_is_guarded := df_is_guarded (P := P) (w := w) (base := base) KX G c
  exact ok_of (k := 22) (N := [("script" : Str), ("cup" : Str), ("turn" : Str), ("gt" : Str), ("two" : Str), ("none" : Str), ("entry" : Str)]) (ps := [("script" : Str)]) (b := b_law) Fd ⟨rfl, rfl, rfl, by decide +kernel, rfl, by decide +kernel, by decide +kernel⟩ fun cdv A outer s H E hr => evb_cons (evs_asg (ev_call D__law_cup (hr.mono (by omega)) (by rfl) (evs_cons (ev_var (pv 0)) (evs_nil))) (eg_name nd rfl (by first | exact .inl rfl | exact .inr rfl))) (evb_cons (evs_for rfl rfl (ei_range1 (by rfl) fr_range (evs_cons (ev_int) (evs_nil))) (eg_name nd rfl (by first | exact .inl rfl | exact .inr rfl)) (evb_one (evs_if (et_not (et_val (ev_call D__law_right (hr.mono (by omega)) (by rfl) (evs_cons (ev_var (pv 1)) (evs_cons (ev_call D__law_some_unknowns (hr.mono (by omega)) (by rfl) (evs_cons (ev_var (pv 1)) (evs_nil))) (evs_nil)))))) (evb_one (evs_ret (ev_bl))) (evb_nil)))) (evb_cons (evs_asg (ev_tup (evs_cons (ev_int) (evs_cons (ev_tup (evs_cons (ev_tup (evs_cons (ev_tup (evs_cons (ev_int) (evs_nil))) (evs_cons (ev_tup (evs_cons (ev_str) (evs_cons (ev_un ud_neg (ev_int)) (evs_cons (ev_int) (evs_nil))))) (evs_nil)))) (evs_cons (ev_tup (evs_cons (ev_tup (evs_cons (ev_un ud_neg (ev_int)) (evs_nil))) (evs_cons (ev_tup (evs_cons (ev_str) (evs_cons (ev_tup (evs_cons (ev_str) (evs_cons (ev_un ud_neg (ev_int)) (evs_cons (ev_int) (evs_nil))))) (evs_nil)))) (evs_nil)))) (evs_nil)))) (evs_nil)))) (eg_name nd rfl (by first | exact .inl rfl | exact .inr rfl))) (evb_cons (evs_if (ETW.t (et_or (et_cmp (od_ne (u64 hr)) (ev_call D_guarded_filled (hr.mono (by omega)) (by rfl) (evs_cons (ev_tup (evs_cons (ev_un ud_neg (ev_int)) (evs_nil))) (evs_cons (ev_var (pv 3)) (evs_cons (ev_tup (evs_cons (ev_int) (evs_nil))) (evs_nil))))) (ev_tup (evs_cons (ev_tup (evs_cons (ev_int) (evs_nil))) (evs_nil))) rfl) (et_or (et_cmp (od_ne (u64 hr)) (ev_call D_guarded_filled (hr.mono (by omega)) (by rfl) (evs_cons (ev_tup (evs_cons (ev_un ud_neg (ev_int)) (evs_nil))) (evs_cons (ev_var (pv 3)) (evs_cons (ev_tup (evs_cons (ev_int) (evs_nil))) (evs_nil))))) (ev_tup (evs_cons (ev_tup (evs_cons (ev_int) (evs_nil))) (evs_nil))) rfl) (et_or1 (et_cmp od_isnot (ev_call D_is_guarded (hr.mono (by omega)) (by rfl) (evs_cons (ev_tup (evs_nil)) (evs_cons (ev_var (pv 3)) (evs_nil)))) (ev_bl) rfl))))) (evb_one (evs_ret (ev_bl))) (evb_nil)) (evb_cons (evs_asg (ev_tup (evs_cons (ev_int) (evs_cons (ev_tup (evs_cons (ev_tup (evs_cons (ev_tup (evs_cons (ev_un ud_neg (ev_int)) (evs_cons (ev_int) (evs_nil)))) (evs_cons (ev_tup (evs_cons (ev_str) (evs_cons (ev_tup (evs_nil)) (evs_nil)))) (evs_nil)))) (evs_cons (ev_tup (evs_cons (ev_tup (evs_cons (ev_int) (evs_cons (ev_un ud_neg (ev_int)) (evs_nil)))) (evs_cons (ev_tup (evs_cons (ev_str) (evs_cons (ev_tup (evs_nil)) (evs_nil)))) (evs_nil)))) (evs_cons (ev_tup (evs_cons (ev_tup (evs_cons (ev_un ud_neg (ev_int)) (evs_cons (ev_un ud_neg (ev_int)) (evs_nil)))) (evs_cons (ev_tup (evs_cons (ev_str) (evs_cons (ev_un ud_neg (ev_int)) (evs_cons (ev_un ud_neg (ev_int)) (evs_nil))))) (evs_nil)))) (evs_nil))))) (evs_nil)))) (eg_name nd rfl (by first | exact .inl rfl | exact .inr rfl))) (evb_cons (evs_if (ETW.t (et_or (et_cmp (od_ne (u64 hr)) (ev_call D_guarded_filled (hr.mono (by omega)) (by rfl) (evs_cons (ev_tup (evs_cons (ev_un ud_neg (ev_int)) (evs_cons (ev_un ud_neg (ev_int)) (evs_nil)))) (evs_cons (ev_var (pv 4)) (evs_cons (ev_tup (evs_cons (ev_int) (evs_cons (ev_int) (evs_nil)))) (evs_nil))))) (ev_tup (evs_cons (ev_tup (evs_cons (ev_int) (evs_cons (ev_int) (evs_nil)))) (evs_nil))) rfl) (et_or (et_cmp (od_ne (u64 hr)) (ev_call D_guarded_filled (hr.mono (by omega)) (by rfl) (evs_cons (ev_tup (evs_cons (ev_un ud_neg (ev_int)) (evs_cons (ev_un ud_neg (ev_int)) (evs_nil)))) (evs_cons (ev_var (pv 4)) (evs_cons (ev_tup (evs_cons (ev_int) (evs_cons (ev_int) (evs_nil)))) (evs_nil))))) (ev_tup (evs_cons (ev_tup (evs_cons (ev_int) (evs_cons (ev_int) (evs_nil)))) (evs_cons (ev_tup (evs_cons (ev_int) (evs_cons (ev_int) (evs_nil)))) (evs_nil)))) rfl) (et_or1 (et_cmp (od_ne (u64 hr)) (ev_call D_guarded_filled (hr.mono (by omega)) (by rfl) (evs_cons (ev_tup (evs_cons (ev_un ud_neg (ev_int)) (evs_cons (ev_un ud_neg (ev_int)) (evs_nil)))) (evs_cons (ev_var (pv 4)) (evs_cons (ev_tup (evs_cons (ev_int) (evs_cons (ev_int) (evs_nil)))) (evs_nil))))) (ev_tup (evs_cons (ev_tup (evs_cons (ev_int) (evs_cons (ev_int) (evs_nil)))) (evs_cons (ev_tup (evs_cons (ev_int) (evs_cons (ev_int) (evs_nil)))) (evs_cons (ev_tup (evs_cons (ev_int) (evs_cons (ev_int) (evs_nil)))) (evs_nil))))) rfl))))) (evb_one (evs_ret (ev_bl))) (evb_nil)) (evb_cons (evs_asg (ev_tup (evs_cons (ev_int) (evs_cons (ev_tup (evs_cons (ev_tup (evs_cons (ev_tup (evs_nil)) (evs_cons (ev_tup (evs_cons (ev_str) (evs_cons (ev_tup (evs_nil)) (evs_nil)))) (evs_nil)))) (evs_cons (ev_tup (evs_cons (ev_tup (evs_nil)) (evs_cons (ev_tup (evs_cons (ev_str) (evs_cons (ev_un ud_neg (ev_int)) (evs_cons (ev_int) (evs_nil))))) (evs_nil)))) (evs_nil)))) (evs_nil)))) (eg_name nd rfl (by first | exact .inl rfl | exact .inr rfl))) (evb_cons (evs_if (ETW.t (et_or (et_cmp (od_ne (u64 hr)) (ev_call D_guarded_filled (hr.mono (by omega)) (by rfl) (evs_cons (ev_tup (evs_cons (ev_un ud_neg (ev_int)) (evs_nil))) (evs_cons (ev_var (pv 5)) (evs_cons (ev_tup (evs_cons (ev_int) (evs_nil))) (evs_nil))))) (ev_tup (evs_cons (ev_tup (evs_nil)) (evs_nil))) rfl) (et_or (et_cmp (od_ne (u64 hr)) (ev_call D_guarded_filled (hr.mono (by omega)) (by rfl) (evs_cons (ev_tup (evs_cons (ev_un ud_neg (ev_int)) (evs_nil))) (evs_cons (ev_var (pv 5)) (evs_cons (ev_tup (evs_cons (ev_int) (evs_nil))) (evs_nil))))) (ev_tup (evs_nil)) rfl) (et_or1 (et_cmp (od_ne (u64 hr)) (ev_call D_guarded_filled (hr.mono (by omega)) (by rfl) (evs_cons (ev_tup (evs_nil)) (evs_cons (ev_tup (evs_cons (ev_int) (evs_cons (ev_tup (evs_nil)) (evs_nil)))) (evs_cons (ev_tup (evs_nil)) (evs_nil))))) (ev_tup (evs_nil)) rfl))))) (evb_one (evs_ret (ev_bl))) (evb_nil)) (evb_cons (evs_asg (ev_tup (evs_cons (ev_tup (evs_nil)) (evs_cons (ev_tup (evs_cons (ev_str) (evs_cons (ev_tup (evs_nil)) (evs_nil)))) (evs_nil)))) (eg_name nd rfl (by first | exact .inl rfl | exact .inr rfl))) (evb_one (evs_ret (ev_and (ev_cmp od_is (ev_call D_is_guarded (hr.mono (by omega)) (by rfl) (evs_cons (ev_tup (evs_nil)) (evs_cons (ev_tup (evs_cons (ev_int) (evs_cons (ev_bin od_mul (ev_tup (evs_cons (ev_var (pv 6)) (evs_nil))) (ev_int)) (evs_nil)))) (evs_nil)))) (ev_bl) rfl) (ev_and (ev_cmp od_is (ev_call D_is_guarded (hr.mono (by omega)) (by rfl) (evs_cons (ev_tup (evs_nil)) (evs_cons (ev_tup (evs_cons (ev_int) (evs_cons (ev_bin od_mul (ev_tup (evs_cons (ev_var (pv 6)) (evs_nil))) (ev_int)) (evs_nil)))) (evs_nil)))) (ev_bl) rfl) (ev_and1 (ev_cmp od_is (ev_call D_is_guarded (hr.mono (by omega)) (by rfl) (evs_cons (ev_tup (evs_cons (ev_un ud_neg (ev_int)) (evs_nil))) (evs_cons (ev_tup (evs_cons (ev_int) (evs_cons (ev_tup (evs_cons (ev_tup (evs_cons (ev_bin od_mul (ev_tup (evs_cons (ev_un ud_neg (ev_int)) (evs_nil))) (ev_int)) (evs_cons (ev_tup (evs_cons (ev_str) (evs_cons (ev_tup (evs_nil)) (evs_nil)))) (evs_nil)))) (evs_nil))) (evs_nil)))) (evs_nil)))) (ev_bl) rfl))))))))))))))
abbrev lawLevel : Nat := 23
end K48

set_option Elab.async false
set_option linter.all false
set_option maxRecDepth 100000
namespace K48
open PySem PySem.Spec PyProof.Rows L2 EV
/-- whole, no bool, within -/
def wholeB (lo hi : Int) : D → Bool
  | .int i => decide (lo ≤ i) && decide (i ≤ hi)
  | _ => false
/-- what isinstance may be asked of -/
def plain : D → Bool
  | .dct _ _ => false
  | .set _ => false
  | .scr _ => false
  | _ => true
theorem F_whole {d : D} {lo hi : Int} (h : plain d = true) (S : Sto) : F_is_whole [.p d, .p (.int lo), .p (.int hi)] S = some (.p (.bl (wholeB lo hi d)), S) := by
  cases d with
  | int i =>
    by_cases h1 : lo ≤ i
    · simp [sVar_ap, sC_ap, sNil_ap, sCons_ap, sTup_ap, sLst_ap, sMut_ap, s2_ap, sChain_ap, sAnd_ap, sOr_ap, sNot_ap, sIf_ap, s1_ap, sNoPart_ap, sPart_ap, sSl_ap, sCB_ap, sCall_ap, sSkip_ap, sSeq_ap, sRet_ap, sRetN_ap, sDrop_ap, sIfS_ap, sBad_ap, gN_ap, gT_ap, sAsg_ap, sPar_ap, sSetIx_ap, sApp_ap, sIt_ap, sRng1_ap, sRng2_ap, sYes_ap, sZip_ap, sGet2_ap, runB_ap, runK_ap, sIsi_ap, gAll, begin_, endF, rd, rds, purs, pur, isi, dCmp, dInt, mulOk, sizeLine_eq, F_is_whole, b_is_whole, wholeB, h1]
    · simp [sVar_ap, sC_ap, sNil_ap, sCons_ap, sTup_ap, sLst_ap, sMut_ap, s2_ap, sChain_ap, sAnd_ap, sOr_ap, sNot_ap, sIf_ap, s1_ap, sNoPart_ap, sPart_ap, sSl_ap, sCB_ap, sCall_ap, sSkip_ap, sSeq_ap, sRet_ap, sRetN_ap, sDrop_ap, sIfS_ap, sBad_ap, gN_ap, gT_ap, sAsg_ap, sPar_ap, sSetIx_ap, sApp_ap, sIt_ap, sRng1_ap, sRng2_ap, sYes_ap, sZip_ap, sGet2_ap, runB_ap, runK_ap, sIsi_ap, gAll, begin_, endF, rd, rds, purs, pur, isi, dCmp, dInt, mulOk, sizeLine_eq, F_is_whole, b_is_whole, wholeB, h1]
  | dct _ _ => cases h
  | set _ => cases h
  | scr _ => cases h
  | _ => simp [sVar_ap, sC_ap, sNil_ap, sCons_ap, sTup_ap, sLst_ap, sMut_ap, s2_ap, sChain_ap, sAnd_ap, sOr_ap, sNot_ap, sIf_ap, s1_ap, sNoPart_ap, sPart_ap, sSl_ap, sCB_ap, sCall_ap, sSkip_ap, sSeq_ap, sRet_ap, sRetN_ap, sDrop_ap, sIfS_ap, sBad_ap, gN_ap, gT_ap, sAsg_ap, sPar_ap, sSetIx_ap, sApp_ap, sIt_ap, sRng1_ap, sRng2_ap, sYes_ap, sZip_ap, sGet2_ap, runB_ap, runK_ap, sIsi_ap, gAll, begin_, endF, rd, rds, purs, pur, isi, dCmp, dInt, mulOk, sizeLine_eq, F_is_whole, b_is_whole, wholeB]
theorem number_eq : F__law_number = F_is_whole := rfl
theorem put_eq : F__law_put = F_row_by := rfl
theorem by_eq : F__law_by = F_worths_by := rfl
def tupLen (lo hi : Int) : D → Bool
  | .tup ds => decide (lo ≤ ds.length) && decide ((ds.length : Int) ≤ hi)
  | _ => false
theorem F_tuple_of {d : D} {lo hi : Int} (h : plain d = true) (S : Sto) : F_is_tuple_of [.p d, .p (.int lo), .p (.int hi)] S = some (.p (.bl (tupLen lo hi d)), S) := by
  cases d with
  | tup ds =>
    by_cases h1 : lo ≤ ds.length
    · simp [sVar_ap, sC_ap, sNil_ap, sCons_ap, sTup_ap, sLst_ap, sMut_ap, s2_ap, sChain_ap, sAnd_ap, sOr_ap, sNot_ap, sIf_ap, s1_ap, sNoPart_ap, sPart_ap, sSl_ap, sCB_ap, sCall_ap, sSkip_ap, sSeq_ap, sRet_ap, sRetN_ap, sDrop_ap, sIfS_ap, sBad_ap, gN_ap, gT_ap, sAsg_ap, sPar_ap, sSetIx_ap, sApp_ap, sIt_ap, sRng1_ap, sRng2_ap, sYes_ap, sZip_ap, sGet2_ap, runB_ap, runK_ap, sIsi_ap, gAll, begin_, endF, rd, rds, purs, pur, isi, dCmp, dInt, mulOk, sizeLine_eq, F_is_tuple_of, b_is_tuple_of, tupLen, h1, dLen]
    · simp [sVar_ap, sC_ap, sNil_ap, sCons_ap, sTup_ap, sLst_ap, sMut_ap, s2_ap, sChain_ap, sAnd_ap, sOr_ap, sNot_ap, sIf_ap, s1_ap, sNoPart_ap, sPart_ap, sSl_ap, sCB_ap, sCall_ap, sSkip_ap, sSeq_ap, sRet_ap, sRetN_ap, sDrop_ap, sIfS_ap, sBad_ap, gN_ap, gT_ap, sAsg_ap, sPar_ap, sSetIx_ap, sApp_ap, sIt_ap, sRng1_ap, sRng2_ap, sYes_ap, sZip_ap, sGet2_ap, runB_ap, runK_ap, sIsi_ap, gAll, begin_, endF, rd, rds, purs, pur, isi, dCmp, dInt, mulOk, sizeLine_eq, F_is_tuple_of, b_is_tuple_of, tupLen, h1, dLen]
  | dct _ _ => cases h
  | set _ => cases h
  | scr _ => cases h
  | _ => simp [sVar_ap, sC_ap, sNil_ap, sCons_ap, sTup_ap, sLst_ap, sMut_ap, s2_ap, sChain_ap, sAnd_ap, sOr_ap, sNot_ap, sIf_ap, s1_ap, sNoPart_ap, sPart_ap, sSl_ap, sCB_ap, sCall_ap, sSkip_ap, sSeq_ap, sRet_ap, sRetN_ap, sDrop_ap, sIfS_ap, sBad_ap, gN_ap, gT_ap, sAsg_ap, sPar_ap, sSetIx_ap, sApp_ap, sIt_ap, sRng1_ap, sRng2_ap, sYes_ap, sZip_ap, sGet2_ap, runB_ap, runK_ap, sIsi_ap, gAll, begin_, endF, rd, rds, purs, pur, isi, dCmp, dInt, mulOk, sizeLine_eq, F_is_tuple_of, b_is_tuple_of, tupLen]
/-- data of drawn shapes: not deep, not long -/
def tame : Nat → D → Bool
  | _, .non => true
  | _, .bl _ => true
  | _, .int _ => true
  | _, .str w => PyData.strOk w
  | 0, _ => false
  | n + 1, .tup xs => decide (xs.length ≤ 100) && xs.all (tame n)
  | n + 1, .lst xs => decide (xs.length ≤ 100) && xs.all (tame n)
  | _, _ => false
theorem okDs_all {n : Nat} : ∀ {xs : List D}, (∀ x ∈ xs, okD n x = true) → okDs n xs = true
  | [], _ => by simp [okDs]
  | x :: xs, h => by
    unfold okDs
    rw [h x (by simp), okDs_all fun y hy => h y (by simp [hy])]
    rfl
theorem tame_ok : ∀ {n : Nat} {d : D}, tame n d = true → okD n d = true := by
  intro n
  induction n with
  | zero => intro d h; cases d <;> simp_all [tame, okD]
  | succ n ih =>
    intro d h
    cases d with
    | tup xs =>
      simp only [tame, Bool.and_eq_true, List.all_eq_true] at h
      exact okDs_all fun x hx => ih (h.2 x hx)
    | lst xs =>
      simp only [tame, Bool.and_eq_true, List.all_eq_true] at h
      exact okDs_all fun x hx => ih (h.2 x hx)
    | _ => simp_all [tame, okD]
theorem okD_mono : ∀ {n m : Nat} {d : D}, n ≤ m → okD n d = true → okD m d = true := by
  intro n
  induction n with
  | zero => intro m d _ h; cases d <;> first | (cases m <;> simp_all [okD]; done) | cases h
  | succ n ih =>
    intro m d hm h
    cases m with
    | zero => omega
    | succ m =>
      have all : ∀ {xs : List D}, okDs n xs = true → okDs m xs = true := by
        intro xs
        induction xs with
        | nil => intro _; simp [okDs]
        | cons x xs ihx =>
          intro h
          unfold okDs at h ⊢
          obtain ⟨h1, h2⟩ := Bool.and_eq_true_iff.mp h
          rw [ih (by omega) h1, ihx h2]
          rfl
      cases d <;> first | rfl | (simp only [okD] at h ⊢; first | exact all h | exact h) | cases h
theorem tame_plain {n : Nat} {d : D} (h : tame n d = true) : plain d = true := by cases n <;> cases d <;> simp_all [tame, plain]
theorem tame_mono : ∀ {n m : Nat} {d : D}, n ≤ m → tame n d = true → tame m d = true := by
  intro n
  induction n with
  | zero => intro m d _ h; cases d <;> first | (cases m <;> simp_all [tame]; done) | cases h
  | succ n ih =>
    intro m d hm h
    cases m with
    | zero => omega
    | succ m =>
      cases d <;> first | rfl | (simp only [tame, Bool.and_eq_true, List.all_eq_true] at h ⊢; first | exact ⟨h.1, fun x hx => ih (by omega) (h.2 x hx)⟩ | exact h) | cases h
theorem tame64 {n : Nat} {d : D} (h : tame n d = true) (hn : n ≤ 64) : okD 64 d = true := okD_mono hn (tame_ok h)
theorem tame_kids {n : Nat} {xs : List D} (h : tame n (.tup xs) = true) : ∃ m, n = m + 1 ∧ xs.length ≤ 100 ∧ ∀ x ∈ xs, tame m x = true := by
  cases n with
  | zero => cases h
  | succ n =>
    simp only [tame, Bool.and_eq_true, decide_eq_true_eq, List.all_eq_true] at h
    exact ⟨n, rfl, h.1, h.2⟩
theorem okInts {n : Nat} : ∀ us : List Int, okDs n (us.map D.int) = true
  | [] => by simp [okDs]
  | u :: us => by
    rw [List.map_cons]
    unfold okDs
    rw [okInts us]
    cases n <;> rfl
abbrev uD (us : List Int) : D := .tup (us.map .int)
def inU (us : List Int) (d : D) : Bool := (us.map D.int).any fun u => eqv u d
def cellB (us : List Int) (d : D) : Bool := wholeB 0 1000000 d || (wholeB (-6) (-1) d && inU us d)
theorem F_value {d : D} (h : plain d = true) (S : Sto) : F_fits_value [.p d] S = some (.p (.bl (wholeB 0 1000000 d)), S) := by
  simp [sVar_ap, sC_ap, sNil_ap, sCons_ap, sTup_ap, sLst_ap, sMut_ap, s2_ap, sChain_ap, sAnd_ap, sOr_ap, sNot_ap, sIf_ap, s1_ap, sNoPart_ap, sPart_ap, sSl_ap, sCB_ap, sCall_ap, sSkip_ap, sSeq_ap, sRet_ap, sRetN_ap, sDrop_ap, sIfS_ap, sBad_ap, gN_ap, gT_ap, sAsg_ap, sPar_ap, sSetIx_ap, sApp_ap, sIt_ap, sRng1_ap, sRng2_ap, sYes_ap, sZip_ap, sGet2_ap, runB_ap, runK_ap, sIsi_ap, gAll, begin_, endF, rd, rds, purs, pur, isi, dCmp, dInt, mulOk, sizeLine_eq, F_fits_value, b_fits_value, F_whole h]
theorem in_us {us : List Int} {d : D} (h : wholeB (-6) (-1) d = true) : dInP id d (uD us) = some (.bl (inU us d)) := by
  cases d with
  | int i =>
    have h1 : okD 64 (uD us) = true := okInts us
    have h2 : okD 64 (.int i) = true := rfl
    show (match okD 64 (.int i) && okD 64 (uD us) with | true => _ | false => _) = _
    rw [h1, h2]
    rfl
  | _ => cases h
theorem F_cell {us : List Int} {d : D} (h : plain d = true) (S : Sto) : F_fits_cell [.p (uD us), .p d] S = some (.p (.bl (cellB us d)), S) := by
  have w := F_whole (lo := -6) (hi := -1) h
  unfold cellB
  cases h1 : wholeB 0 1000000 d with
  | true => simp [sVar_ap, sC_ap, sNil_ap, sCons_ap, sTup_ap, sLst_ap, sMut_ap, s2_ap, sChain_ap, sAnd_ap, sOr_ap, sNot_ap, sIf_ap, s1_ap, sNoPart_ap, sPart_ap, sSl_ap, sCB_ap, sCall_ap, sSkip_ap, sSeq_ap, sRet_ap, sRetN_ap, sDrop_ap, sIfS_ap, sBad_ap, gN_ap, gT_ap, sAsg_ap, sPar_ap, sSetIx_ap, sApp_ap, sIt_ap, sRng1_ap, sRng2_ap, sYes_ap, sZip_ap, sGet2_ap, runB_ap, runK_ap, sIsi_ap, gAll, begin_, endF, rd, rds, purs, pur, isi, dCmp, dInt, mulOk, sizeLine_eq, F_fits_cell, b_fits_cell, F_value h, h1]
  | false =>
    cases h2 : wholeB (-6) (-1) d with
    | false =>
      rw [h2] at w
      simp [sVar_ap, sC_ap, sNil_ap, sCons_ap, sTup_ap, sLst_ap, sMut_ap, s2_ap, sChain_ap, sAnd_ap, sOr_ap, sNot_ap, sIf_ap, s1_ap, sNoPart_ap, sPart_ap, sSl_ap, sCB_ap, sCall_ap, sSkip_ap, sSeq_ap, sRet_ap, sRetN_ap, sDrop_ap, sIfS_ap, sBad_ap, gN_ap, gT_ap, sAsg_ap, sPar_ap, sSetIx_ap, sApp_ap, sIt_ap, sRng1_ap, sRng2_ap, sYes_ap, sZip_ap, sGet2_ap, runB_ap, runK_ap, sIsi_ap, gAll, begin_, endF, rd, rds, purs, pur, isi, dCmp, dInt, mulOk, sizeLine_eq, F_fits_cell, b_fits_cell, F_value h, h1, dNeg, w]
    | true =>
      rw [h2] at w
      have := in_us (us := us) h2
      simp [sVar_ap, sC_ap, sNil_ap, sCons_ap, sTup_ap, sLst_ap, sMut_ap, s2_ap, sChain_ap, sAnd_ap, sOr_ap, sNot_ap, sIf_ap, s1_ap, sNoPart_ap, sPart_ap, sSl_ap, sCB_ap, sCall_ap, sSkip_ap, sSeq_ap, sRet_ap, sRetN_ap, sDrop_ap, sIfS_ap, sBad_ap, gN_ap, gT_ap, sAsg_ap, sPar_ap, sSetIx_ap, sApp_ap, sIt_ap, sRng1_ap, sRng2_ap, sYes_ap, sZip_ap, sGet2_ap, runB_ap, runK_ap, sIsi_ap, gAll, begin_, endF, rd, rds, purs, pur, isi, dCmp, dInt, mulOk, sizeLine_eq, F_fits_cell, b_fits_cell, F_value h, h1, dNeg, w, this]
theorem F_law_cell {us : List Int} {d : D} (h : plain d = true) (S : Sto) : F__law_is_cell [.p (uD us), .p d] S = some (.p (.bl (cellB us d)), S) := by
  have w0 := F_whole (lo := 0) (hi := 1000000) h
  have w := F_whole (lo := -6) (hi := -1) h
  have p : dPow (.int 10) (.int 6) = some (.int 1000000) := by simp [dPow, dInt]
  unfold cellB
  cases h1 : wholeB 0 1000000 d with
  | true =>
    rw [h1] at w0
    simp [sVar_ap, sC_ap, sNil_ap, sCons_ap, sTup_ap, sLst_ap, sMut_ap, s2_ap, sChain_ap, sAnd_ap, sOr_ap, sNot_ap, sIf_ap, s1_ap, sNoPart_ap, sPart_ap, sSl_ap, sCB_ap, sCall_ap, sSkip_ap, sSeq_ap, sRet_ap, sRetN_ap, sDrop_ap, sIfS_ap, sBad_ap, gN_ap, gT_ap, sAsg_ap, sPar_ap, sSetIx_ap, sApp_ap, sIt_ap, sRng1_ap, sRng2_ap, sYes_ap, sZip_ap, sGet2_ap, runB_ap, runK_ap, sIsi_ap, gAll, begin_, endF, rd, rds, purs, pur, isi, dCmp, dInt, mulOk, sizeLine_eq, F__law_is_cell, b__law_is_cell, number_eq, p, w0]
  | false =>
    rw [h1] at w0
    cases h2 : wholeB (-6) (-1) d with
    | false =>
      rw [h2] at w
      simp [sVar_ap, sC_ap, sNil_ap, sCons_ap, sTup_ap, sLst_ap, sMut_ap, s2_ap, sChain_ap, sAnd_ap, sOr_ap, sNot_ap, sIf_ap, s1_ap, sNoPart_ap, sPart_ap, sSl_ap, sCB_ap, sCall_ap, sSkip_ap, sSeq_ap, sRet_ap, sRetN_ap, sDrop_ap, sIfS_ap, sBad_ap, gN_ap, gT_ap, sAsg_ap, sPar_ap, sSetIx_ap, sApp_ap, sIt_ap, sRng1_ap, sRng2_ap, sYes_ap, sZip_ap, sGet2_ap, runB_ap, runK_ap, sIsi_ap, gAll, begin_, endF, rd, rds, purs, pur, isi, dCmp, dInt, mulOk, sizeLine_eq, F__law_is_cell, b__law_is_cell, number_eq, p, w0, dNeg, w]
    | true =>
      rw [h2] at w
      have := in_us (us := us) h2
      simp [sVar_ap, sC_ap, sNil_ap, sCons_ap, sTup_ap, sLst_ap, sMut_ap, s2_ap, sChain_ap, sAnd_ap, sOr_ap, sNot_ap, sIf_ap, s1_ap, sNoPart_ap, sPart_ap, sSl_ap, sCB_ap, sCall_ap, sSkip_ap, sSeq_ap, sRet_ap, sRetN_ap, sDrop_ap, sIfS_ap, sBad_ap, gN_ap, gT_ap, sAsg_ap, sPar_ap, sSetIx_ap, sApp_ap, sIt_ap, sRng1_ap, sRng2_ap, sYes_ap, sZip_ap, sGet2_ap, runB_ap, runK_ap, sIsi_ap, gAll, begin_, endF, rd, rds, purs, pur, isi, dCmp, dInt, mulOk, sizeLine_eq, F__law_is_cell, b__law_is_cell, number_eq, p, w0, dNeg, w, this]
end K48

set_option Elab.async false
set_option linter.all false
set_option maxRecDepth 100000
set_option maxHeartbeats 1000000
namespace K48
open PySem PySem.Spec PyProof.Rows L2 EV
theorem eq_str {a b : Str} (ha : PyData.strOk a = true) (hb : PyData.strOk b = true) : dEq (.str a) (.str b) = some (.bl (a == b)) := by
  have h1 : okD 64 (.str a) = true := ha
  have h2 : okD 64 (.str b) = true := hb
  show (match okD 64 (.str a) && okD 64 (.str b) with | true => _ | false => _) = _
  rw [h1, h2]
  rfl
theorem eq_int (a b : Int) : dEq (.int a) (.int b) = some (.bl (a == b)) := rfl
theorem ne_int (a b : Int) : dNe (.int a) (.int b) = some (.bl (!(a == b))) := rfl
theorem ok_same : PyData.strOk ("same" : Str) = true := by decide +kernel
theorem ok_not : PyData.strOk ("not" : Str) = true := by decide +kernel
theorem ok_all : PyData.strOk ("all" : Str) = true := by decide +kernel
theorem ok_some : PyData.strOk ("some" : Str) = true := by decide +kernel
theorem in_strs {w : Str} {l : List Str} (hw : PyData.strOk w = true) (hl : ∀ x ∈ l, PyData.strOk x = true) (p : Bool → Bool) : dInP p (.str w) (.tup (l.map .str)) = some (.bl (p (l.any fun x => x == w))) := by
  have h1 : okD 64 (.str w) = true := hw
  have h2 : okD 64 (.tup (l.map D.str)) = true := by
    refine okDs_all fun x hx => ?_
    obtain ⟨y, hy, rfl⟩ := List.mem_map.mp hx
    exact hl y hy
  show (match okD 64 (.str w) && okD 64 (.tup (l.map D.str)) with | true => _ | false => _) = _
  rw [h1, h2, List.any_map]
  rfl
def andOr (w : Str) : Bool := w == "all" || w == "some"
theorem in_all_some {w : Str} (hw : PyData.strOk w = true) : dInP id (.str w) (.tup [.str "all", .str "some"]) = some (.bl (andOr w)) := by
  have := in_strs (w := w) (l := ["all", "some"]) hw (fun x hx => by simp at hx; rcases hx with rfl | rfl; exact ok_all; exact ok_some) id
  rw [List.map_cons, List.map_cons, List.map_nil] at this
  rw [this]
  unfold andOr
  simp [Bool.beq_comm, BEq.comm]
/-- the parts of a condition, none where it is none -/
def partsD (us : List Int) : D → Option (List D)
  | .tup [.str w, a] => if w = "not" then some [a] else if andOr w = true ∧ w ≠ "same" then (match a with
    | .tup ds => if ds.length ≤ 1000 then some ds else none
    | _ => none) else none
  | .tup [.str w, a, b] => if w = "same" ∧ cellB us a = true ∧ cellB us b = true then some [] else none
  | _ => none
def partsV (us : List Int) (d : D) : D := match partsD us d with
  | none => .non
  | some ps => .lst ps
theorem not_same_andOr {w : Str} (h : andOr w = true) : w ≠ "same" ∧ w ≠ "not" := by
  constructor
  · rintro rfl
    exact absurd h (by decide +kernel)
  · rintro rfl
    exact absurd h (by decide +kernel)
theorem same_not : ¬ (("same" : Str) = "not") := by decide +kernel
theorem boolsOf_map {α : Type} {f : α → Bool} : ∀ xs : List α, boolsOf (xs.map fun x => D.bl (f x)) = some (xs.map f)
  | [] => rfl
  | x :: xs => by
    rw [List.map_cons, List.map_cons]
    show (boolsOf _).map _ = _
    rw [boolsOf_map xs]
    rfl
theorem dAll_map {α : Type} {f : α → Bool} (xs : List α) : dAll [.lst (xs.map fun x => D.bl (f x))] = some (.bl (xs.all f)) := by
  show (boolsOf (xs.map fun x => D.bl (f x))).map (fun bs => D.bl (bs.all id)) = _
  rw [boolsOf_map]
  simp
theorem same_ne_not : (("same" : Str) == "not") = false := by decide +kernel
theorem F_parts {n : Nat} {us : List Int} {d : D} (h : tame n d = true) (hn : n ≤ 64) (S : Sto) : F_parts_within [.p (uD us), .p d] S = some (.p (partsV us d), S) := by
  have tl := F_tuple_of (lo := 2) (hi := 3) (tame_plain h)
  cases d with
  | tup ds =>
    obtain ⟨m, rfl, hl, hk⟩ := tame_kids h
    match ds, hl, hk with
    | [], _, _ => 
      have e : tupLen 2 3 (.tup []) = false := by decide
      rw [e] at tl
      simp [sVar_ap, sC_ap, sNil_ap, sCons_ap, sTup_ap, sLst_ap, sMut_ap, s2_ap, sChain_ap, sAnd_ap, sOr_ap, sNot_ap, sIf_ap, s1_ap, sNoPart_ap, sPart_ap, sSl_ap, sCB_ap, sCall_ap, sSkip_ap, sSeq_ap, sRet_ap, sRetN_ap, sDrop_ap, sIfS_ap, sBad_ap, gN_ap, gT_ap, sAsg_ap, sPar_ap, sSetIx_ap, sApp_ap, sIt_ap, sRng1_ap, sRng2_ap, sYes_ap, sZip_ap, sGet2_ap, runB_ap, runK_ap, sIsi_ap, gAll, begin_, endF, rd, rds, purs, pur, isi, dCmp, dInt, mulOk, sizeLine_eq, F_parts_within, b_parts_within, tl, partsV, partsD]
    | [x], _, _ =>
      have e : tupLen 2 3 (.tup [x]) = false := by simp [tupLen]
      rw [e] at tl
      cases x <;> simp [sVar_ap, sC_ap, sNil_ap, sCons_ap, sTup_ap, sLst_ap, sMut_ap, s2_ap, sChain_ap, sAnd_ap, sOr_ap, sNot_ap, sIf_ap, s1_ap, sNoPart_ap, sPart_ap, sSl_ap, sCB_ap, sCall_ap, sSkip_ap, sSeq_ap, sRet_ap, sRetN_ap, sDrop_ap, sIfS_ap, sBad_ap, gN_ap, gT_ap, sAsg_ap, sPar_ap, sSetIx_ap, sApp_ap, sIt_ap, sRng1_ap, sRng2_ap, sYes_ap, sZip_ap, sGet2_ap, runB_ap, runK_ap, sIsi_ap, gAll, begin_, endF, rd, rds, purs, pur, isi, dCmp, dInt, mulOk, sizeLine_eq, F_parts_within, b_parts_within, tl, partsV, partsD]
    | x :: y :: z :: u :: r, _, _ =>
      have e : tupLen 2 3 (.tup (x :: y :: z :: u :: r)) = false := by simp [tupLen]; omega
      rw [e] at tl
      cases x <;> simp [sVar_ap, sC_ap, sNil_ap, sCons_ap, sTup_ap, sLst_ap, sMut_ap, s2_ap, sChain_ap, sAnd_ap, sOr_ap, sNot_ap, sIf_ap, s1_ap, sNoPart_ap, sPart_ap, sSl_ap, sCB_ap, sCall_ap, sSkip_ap, sSeq_ap, sRet_ap, sRetN_ap, sDrop_ap, sIfS_ap, sBad_ap, gN_ap, gT_ap, sAsg_ap, sPar_ap, sSetIx_ap, sApp_ap, sIt_ap, sRng1_ap, sRng2_ap, sYes_ap, sZip_ap, sGet2_ap, runB_ap, runK_ap, sIsi_ap, gAll, begin_, endF, rd, rds, purs, pur, isi, dCmp, dInt, mulOk, sizeLine_eq, F_parts_within, b_parts_within, tl, partsV, partsD]
    | [x, y], _, hk =>
      have e : tupLen 2 3 (.tup [x, y]) = true := by simp [tupLen]
      rw [e] at tl
      have hx := hk x (by simp)
      have hy := hk y (by simp)
      cases x with
      | str w =>
        have hw : PyData.strOk w = true := by cases m <;> exact hx
        have e1 := eq_str hw ok_same
        have e2 := eq_str hw ok_not
        have e3 := in_all_some hw
        have ix0 : dIx (.tup [.str w, y]) (.int 0) = some (.str w) := rfl
        have cut : cutD [D.str w, y] (some 1) none = [y] := rfl
        have ixy : dIx (.tup [y]) (.int 0) = some y := rfl
        by_cases hs : w = "same"
        · subst hs
          simp only [BEq.rfl] at e1
          simp [sVar_ap, sC_ap, sNil_ap, sCons_ap, sTup_ap, sLst_ap, sMut_ap, s2_ap, sChain_ap, sAnd_ap, sOr_ap, sNot_ap, sIf_ap, s1_ap, sNoPart_ap, sPart_ap, sSl_ap, sCB_ap, sCall_ap, sSkip_ap, sSeq_ap, sRet_ap, sRetN_ap, sDrop_ap, sIfS_ap, sBad_ap, gN_ap, gT_ap, sAsg_ap, sPar_ap, sSetIx_ap, sApp_ap, sIt_ap, sRng1_ap, sRng2_ap, sYes_ap, sZip_ap, sGet2_ap, runB_ap, runK_ap, sIsi_ap, gAll, begin_, endF, rd, rds, purs, pur, isi, dCmp, dInt, mulOk, sizeLine_eq, F_parts_within, b_parts_within, tl, partsV, partsD, ix0, cut, e1, dLen, ne_int, eq_int, same_ne_not, same_not]
        · have hs' : (w == "same") = false := by simpa using hs
          rw [hs'] at e1
          by_cases hn' : w = "not"
          · subst hn'
            simp only [BEq.rfl] at e2
            simp [sVar_ap, sC_ap, sNil_ap, sCons_ap, sTup_ap, sLst_ap, sMut_ap, s2_ap, sChain_ap, sAnd_ap, sOr_ap, sNot_ap, sIf_ap, s1_ap, sNoPart_ap, sPart_ap, sSl_ap, sCB_ap, sCall_ap, sSkip_ap, sSeq_ap, sRet_ap, sRetN_ap, sDrop_ap, sIfS_ap, sBad_ap, gN_ap, gT_ap, sAsg_ap, sPar_ap, sSetIx_ap, sApp_ap, sIt_ap, sRng1_ap, sRng2_ap, sYes_ap, sZip_ap, sGet2_ap, runB_ap, runK_ap, sIsi_ap, gAll, begin_, endF, rd, rds, purs, pur, isi, dCmp, dInt, mulOk, sizeLine_eq, F_parts_within, b_parts_within, tl, partsV, partsD, ix0, cut, ixy, e1, e2, dLen, ne_int, eq_int]
          · have hn2 : (w == "not") = false := by simpa using hn'
            rw [hn2] at e2
            have ty := F_tuple_of (lo := 0) (hi := 1000) (tame_plain hy)
            cases ha : andOr w with
            | false =>
              rw [ha] at e3
              simp [sVar_ap, sC_ap, sNil_ap, sCons_ap, sTup_ap, sLst_ap, sMut_ap, s2_ap, sChain_ap, sAnd_ap, sOr_ap, sNot_ap, sIf_ap, s1_ap, sNoPart_ap, sPart_ap, sSl_ap, sCB_ap, sCall_ap, sSkip_ap, sSeq_ap, sRet_ap, sRetN_ap, sDrop_ap, sIfS_ap, sBad_ap, gN_ap, gT_ap, sAsg_ap, sPar_ap, sSetIx_ap, sApp_ap, sIt_ap, sRng1_ap, sRng2_ap, sYes_ap, sZip_ap, sGet2_ap, runB_ap, runK_ap, sIsi_ap, gAll, begin_, endF, rd, rds, purs, pur, isi, dCmp, dInt, mulOk, sizeLine_eq, F_parts_within, b_parts_within, tl, partsV, partsD, ix0, cut, ixy, e1, e2, e3, dLen, ne_int, eq_int, hn', ha]
            | true =>
              rw [ha] at e3
              cases y with
              | tup ds =>
                obtain ⟨m', rfl, hl', _⟩ := tame_kids hy
                have e4 : tupLen 0 1000 (.tup ds) = true := by simp [tupLen]; omega
                rw [e4] at ty
                have e5 : ds.length ≤ 1000 := by omega
                simp [sVar_ap, sC_ap, sNil_ap, sCons_ap, sTup_ap, sLst_ap, sMut_ap, s2_ap, sChain_ap, sAnd_ap, sOr_ap, sNot_ap, sIf_ap, s1_ap, sNoPart_ap, sPart_ap, sSl_ap, sCB_ap, sCall_ap, sSkip_ap, sSeq_ap, sRet_ap, sRetN_ap, sDrop_ap, sIfS_ap, sBad_ap, gN_ap, gT_ap, sAsg_ap, sPar_ap, sSetIx_ap, sApp_ap, sIt_ap, sRng1_ap, sRng2_ap, sYes_ap, sZip_ap, sGet2_ap, runB_ap, runK_ap, sIsi_ap, gAll, begin_, endF, rd, rds, purs, pur, isi, dCmp, dInt, mulOk, sizeLine_eq, F_parts_within, b_parts_within, tl, partsV, partsD, ix0, cut, ixy, e1, e2, e3, dLen, ne_int, eq_int, hn', ha, hs, ty, dList, e5]
              | _ =>
                simp only [tupLen] at ty
                simp [sVar_ap, sC_ap, sNil_ap, sCons_ap, sTup_ap, sLst_ap, sMut_ap, s2_ap, sChain_ap, sAnd_ap, sOr_ap, sNot_ap, sIf_ap, s1_ap, sNoPart_ap, sPart_ap, sSl_ap, sCB_ap, sCall_ap, sSkip_ap, sSeq_ap, sRet_ap, sRetN_ap, sDrop_ap, sIfS_ap, sBad_ap, gN_ap, gT_ap, sAsg_ap, sPar_ap, sSetIx_ap, sApp_ap, sIt_ap, sRng1_ap, sRng2_ap, sYes_ap, sZip_ap, sGet2_ap, runB_ap, runK_ap, sIsi_ap, gAll, begin_, endF, rd, rds, purs, pur, isi, dCmp, dInt, mulOk, sizeLine_eq, F_parts_within, b_parts_within, tl, partsV, partsD, ix0, cut, ixy, e1, e2, e3, dLen, ne_int, eq_int, hn', ha, hs, ty]
      | dct _ _ => cases m <;> cases hx
      | set _ => cases m <;> cases hx
      | scr _ => cases m <;> cases hx
      | _ => simp [sVar_ap, sC_ap, sNil_ap, sCons_ap, sTup_ap, sLst_ap, sMut_ap, s2_ap, sChain_ap, sAnd_ap, sOr_ap, sNot_ap, sIf_ap, s1_ap, sNoPart_ap, sPart_ap, sSl_ap, sCB_ap, sCall_ap, sSkip_ap, sSeq_ap, sRet_ap, sRetN_ap, sDrop_ap, sIfS_ap, sBad_ap, gN_ap, gT_ap, sAsg_ap, sPar_ap, sSetIx_ap, sApp_ap, sIt_ap, sRng1_ap, sRng2_ap, sYes_ap, sZip_ap, sGet2_ap, runB_ap, runK_ap, sIsi_ap, gAll, begin_, endF, rd, rds, purs, pur, isi, dCmp, dInt, mulOk, sizeLine_eq, F_parts_within, b_parts_within, tl, partsV, partsD, show ∀ x y : D, dIx (.tup [x, y]) (.int 0) = some x from fun _ _ => rfl]
    | [x, y, z], _, hk =>
      have e : tupLen 2 3 (.tup [x, y, z]) = true := by simp [tupLen]
      rw [e] at tl
      have hx := hk x (by simp)
      have hy := hk y (by simp)
      have hz := hk z (by simp)
      cases x with
      | str w =>
        have hw : PyData.strOk w = true := by cases m <;> exact hx
        have e1 := eq_str hw ok_same
        have ix0 : dIx (.tup [.str w, y, z]) (.int 0) = some (.str w) := rfl
        have cut : cutD [D.str w, y, z] (some 1) none = [y, z] := rfl
        by_cases hs : w = "same"
        · subst hs
          simp only [BEq.rfl] at e1
          have lc : ∀ S : Sto, sLC (sIt (sVar 3)) (gN 4) sYes (sCall 2 F_fits_cell (sCons (sVar 0) (sCons (sVar 4) sNil))) [4] [some (Vl.p (uD us)), some (Vl.p (D.tup [D.str "same", y, z])), some (Vl.p (D.str "same")), some (Vl.p (D.tup [y, z])), none] S =
              some (.p (.lst [.bl (cellB us y), .bl (cellB us z)]), S) := fun S => by
            refine sLC_all (xs := [y, z]) (c := id) (f := fun d => .bl (cellB us d)) rfl (fun d hd => ⟨_, rfl, fun S => ?_⟩) (by simp)
            have hd' : plain d = true := by
              rcases List.mem_cons.mp hd with q | q
              · rw [q]; exact tame_plain hy
              · rw [List.mem_singleton.mp q]; exact tame_plain hz
            simp [sVar_ap, sC_ap, sNil_ap, sCons_ap, sTup_ap, sLst_ap, sMut_ap, s2_ap, sChain_ap, sAnd_ap, sOr_ap, sNot_ap, sIf_ap, s1_ap, sNoPart_ap, sPart_ap, sSl_ap, sCB_ap, sCall_ap, sSkip_ap, sSeq_ap, sRet_ap, sRetN_ap, sDrop_ap, sIfS_ap, sBad_ap, gN_ap, gT_ap, sAsg_ap, sPar_ap, sSetIx_ap, sApp_ap, sIt_ap, sRng1_ap, sRng2_ap, sYes_ap, sZip_ap, sGet2_ap, runB_ap, runK_ap, sIsi_ap, gAll, begin_, endF, rd, rds, purs, pur, isi, dCmp, dInt, mulOk, sizeLine_eq, F_cell hd', wipeP]
          have al : dAll [.lst [.bl (cellB us y), .bl (cellB us z)]] = some (.bl (cellB us y && cellB us z)) := dAll_map (f := cellB us) [y, z] |>.trans (by simp)
          cases h1 : cellB us y && cellB us z with
          | true =>
            obtain ⟨h2, h3⟩ := Bool.and_eq_true_iff.mp h1
            rw [h1, h2, h3] at al
            simp [sVar_ap, sC_ap, sNil_ap, sCons_ap, sTup_ap, sLst_ap, sMut_ap, s2_ap, sChain_ap, sAnd_ap, sOr_ap, sNot_ap, sIf_ap, s1_ap, sNoPart_ap, sPart_ap, sSl_ap, sCB_ap, sCall_ap, sSkip_ap, sSeq_ap, sRet_ap, sRetN_ap, sDrop_ap, sIfS_ap, sBad_ap, gN_ap, gT_ap, sAsg_ap, sPar_ap, sSetIx_ap, sApp_ap, sIt_ap, sRng1_ap, sRng2_ap, sYes_ap, sZip_ap, sGet2_ap, runB_ap, runK_ap, sIsi_ap, gAll, begin_, endF, rd, rds, purs, pur, isi, dCmp, dInt, mulOk, sizeLine_eq, F_parts_within, b_parts_within, tl, partsV, partsD, ix0, cut, e1, dLen, ne_int, eq_int, lc, al, h2, h3]
          | false =>
            rw [h1] at al
            have h2 : ¬ (cellB us y = true ∧ cellB us z = true) := fun q => by rw [q.1, q.2] at h1; cases h1
            simp [sVar_ap, sC_ap, sNil_ap, sCons_ap, sTup_ap, sLst_ap, sMut_ap, s2_ap, sChain_ap, sAnd_ap, sOr_ap, sNot_ap, sIf_ap, s1_ap, sNoPart_ap, sPart_ap, sSl_ap, sCB_ap, sCall_ap, sSkip_ap, sSeq_ap, sRet_ap, sRetN_ap, sDrop_ap, sIfS_ap, sBad_ap, gN_ap, gT_ap, sAsg_ap, sPar_ap, sSetIx_ap, sApp_ap, sIt_ap, sRng1_ap, sRng2_ap, sYes_ap, sZip_ap, sGet2_ap, runB_ap, runK_ap, sIsi_ap, gAll, begin_, endF, rd, rds, purs, pur, isi, dCmp, dInt, mulOk, sizeLine_eq, F_parts_within, b_parts_within, tl, partsV, partsD, ix0, cut, e1, dLen, ne_int, eq_int, lc, al, h2]
        · have hs' : (w == "same") = false := by simpa using hs
          rw [hs'] at e1
          simp [sVar_ap, sC_ap, sNil_ap, sCons_ap, sTup_ap, sLst_ap, sMut_ap, s2_ap, sChain_ap, sAnd_ap, sOr_ap, sNot_ap, sIf_ap, s1_ap, sNoPart_ap, sPart_ap, sSl_ap, sCB_ap, sCall_ap, sSkip_ap, sSeq_ap, sRet_ap, sRetN_ap, sDrop_ap, sIfS_ap, sBad_ap, gN_ap, gT_ap, sAsg_ap, sPar_ap, sSetIx_ap, sApp_ap, sIt_ap, sRng1_ap, sRng2_ap, sYes_ap, sZip_ap, sGet2_ap, runB_ap, runK_ap, sIsi_ap, gAll, begin_, endF, rd, rds, purs, pur, isi, dCmp, dInt, mulOk, sizeLine_eq, F_parts_within, b_parts_within, tl, partsV, partsD, ix0, cut, e1, dLen, ne_int, eq_int, hs]
      | dct _ _ => cases m <;> cases hx
      | set _ => cases m <;> cases hx
      | scr _ => cases m <;> cases hx
      | _ => simp [sVar_ap, sC_ap, sNil_ap, sCons_ap, sTup_ap, sLst_ap, sMut_ap, s2_ap, sChain_ap, sAnd_ap, sOr_ap, sNot_ap, sIf_ap, s1_ap, sNoPart_ap, sPart_ap, sSl_ap, sCB_ap, sCall_ap, sSkip_ap, sSeq_ap, sRet_ap, sRetN_ap, sDrop_ap, sIfS_ap, sBad_ap, gN_ap, gT_ap, sAsg_ap, sPar_ap, sSetIx_ap, sApp_ap, sIt_ap, sRng1_ap, sRng2_ap, sYes_ap, sZip_ap, sGet2_ap, runB_ap, runK_ap, sIsi_ap, gAll, begin_, endF, rd, rds, purs, pur, isi, dCmp, dInt, mulOk, sizeLine_eq, F_parts_within, b_parts_within, tl, partsV, partsD, show ∀ x y z : D, dIx (.tup [x, y, z]) (.int 0) = some x from fun _ _ _ => rfl]
  | dct _ _ => cases n <;> cases h
  | set _ => cases n <;> cases h
  | scr _ => cases n <;> cases h
  | _ => simp [sVar_ap, sC_ap, sNil_ap, sCons_ap, sTup_ap, sLst_ap, sMut_ap, s2_ap, sChain_ap, sAnd_ap, sOr_ap, sNot_ap, sIf_ap, s1_ap, sNoPart_ap, sPart_ap, sSl_ap, sCB_ap, sCall_ap, sSkip_ap, sSeq_ap, sRet_ap, sRetN_ap, sDrop_ap, sIfS_ap, sBad_ap, gN_ap, gT_ap, sAsg_ap, sPar_ap, sSetIx_ap, sApp_ap, sIt_ap, sRng1_ap, sRng2_ap, sYes_ap, sZip_ap, sGet2_ap, runB_ap, runK_ap, sIsi_ap, gAll, begin_, endF, rd, rds, purs, pur, isi, dCmp, dInt, mulOk, sizeLine_eq, F_parts_within, b_parts_within, tl, tupLen, partsV, partsD]
/-- how many parts a condition has; 5000 where it is none, or too deep -/
def Wt (us : List Int) : Nat → D → Nat
  | 0, _ => 5000
  | n + 1, d => match partsD us d with
    | none => 5000
    | some ps => 1 + (ps.map (Wt us n)).sum
theorem Wt_pos (us : List Int) : ∀ n d, 1 ≤ Wt us n d
  | 0, _ => by simp [Wt]
  | n + 1, d => by
    unfold Wt
    split <;> omega
theorem parts_tame {us : List Int} {n : Nat} {d : D} {ps : List D} (h : tame n d = true) (e : partsD us d = some ps) : ps.length ≤ 100 ∧ ∀ p ∈ ps, tame n p = true := by
  unfold partsD at e
  split at e
  · rename_i w a
    obtain ⟨m, rfl, _, hk⟩ := tame_kids h
    have ha := hk a (by simp)
    split at e
    · cases e
      exact ⟨by simp, fun p hp => by rw [List.mem_singleton.mp hp]; exact tame_mono (Nat.le_succ m) ha⟩
    · split at e
      · split at e
        · split at e
          · cases e
            obtain ⟨m', rfl, hl, hk'⟩ := tame_kids ha
            exact ⟨hl, fun p hp => tame_mono (by omega) (hk' p hp)⟩
          · cases e
        · cases e
      · cases e
  · split at e
    · cases e; exact ⟨by simp, fun _ h => by simp at h⟩
    · cases e
  · cases e
abbrev itD (p : D × Nat) : D := .tup [p.1, .int p.2]
def total (us : List Int) (l : List (D × Nat)) : Nat := (l.map fun p => Wt us (13 - p.2) p.1).sum
theorem ne_nil {l : List D} (h : okD 64 (.lst l) = true) : dNe (.lst l) (.lst []) = some (.bl (!l.isEmpty)) := by
  have h2 : okD 64 (.lst []) = true := rfl
  show (match okD 64 (.lst l) && okD 64 (.lst []) with | true => _ | false => _) = _
  rw [h, h2]
  cases l <;> rfl
theorem line_ok {n : Nat} {l : List (D × Nat)} (hn : n ≤ 60) (h : ∀ p ∈ l, tame n p.1 = true) : okD 64 (.lst (l.map itD)) = true := by
  refine okDs_all fun x hx => ?_
  obtain ⟨p, hp, rfl⟩ := List.mem_map.mp hx
  show (okD 62 p.1 && (okD 62 (.int p.2) && true)) = true
  rw [okD_mono (by omega) (tame_ok (h p hp))]
  rfl
abbrev cT : Ex := s2 dNe (sVar 2) (sLst (sNil))
abbrev cB : Sx := (sSeq (sAsg (sTup (sCons (s2 dIx (sVar 2) (sC (.int 0))) (sCons (sSl (sVar 2) (sPart (sC (.int 1))) sNoPart) (sCons (s2 dAdd (sVar 3) (sC (.int 1))) (sNil))))) (gT [gT [gN 5, gN 6], gN 2, gN 3])) (sSeq (sAsg (sCall 2 F_parts_within (sCons (sVar 0) (sCons (sVar 5) (sNil)))) (gN 4)) (sSeq (sIfS (sOr (s2 (dIsN id) (sVar 4) (sC .non)) (sOr (s2 dGt (sVar 6) (sC (.int (12)))) (s2 dGt (sVar 3) (sC (.int (1000)))))) (sRet (sC (.bl false))) (sSkip)) (sAsg (s2 dAdd (sLC (sIt (sVar 4)) (gN 7) (sYes) (sTup (sCons (sVar 7) (sCons (s2 dAdd (sVar 6) (sC (.int 1))) (sNil)))) [7]) (sVar 2)) (gN 2)))))
theorem fits_condition_eq : b_fits_condition = sSeq (sPar 2 3 (sCons (sLst (sCons (sTup (sCons (sVar 1) (sCons (sC (.int 0)) (sNil)))) (sNil))) (sCons (sC (.int 0)) (sNil)))) (sSeq (sWhile 1100 cT cB) (sRet (sC (.bl true)))) := rfl
theorem turn {us : List Int} {n : Nat} {v d : D} {δ many : Nat} {rest : List (D × Nat)} {a b c e : Option Vl} (hn : n ≤ 60) (hd : tame n d = true) (hr : ∀ p ∈ rest, tame n p.1 = true) (hl : rest.length ≤ 1000000) (S : Sto) :
    cB [some (.p (uD us)), some (.p v), some (.p (.lst (((d, δ) :: rest).map itD))), some (.p (.int many)), a, b, c, e] S = match partsD us d with
      | none => some (.rt (.p (.bl false)), S)
      | some ps => if 12 < δ ∨ 1000 ≤ many then some (.rt (.p (.bl false)), S) else
        some (.nx [some (.p (uD us)), some (.p v), some (.p (.lst ((ps.map (fun p => (p, δ + 1)) ++ rest).map itD))), some (.p (.int (many + 1 : Nat))), some (.p (.lst ps)), some (.p d), some (.p (.int δ)), e], S) := by
  have fp := F_parts (us := us) hd (by omega)
  have ix : dIx (.lst (itD (d, δ) :: rest.map itD)) (.int 0) = some (itD (d, δ)) := by
    show atI _ _ = _
    simp [atI, ixN]
  have cut : EV.cutD (itD (d, δ) :: rest.map itD) (some 1) none = rest.map itD := by
    unfold EV.cutD
    simp [HT.sIx, List.take_of_length_le]
  have add1 : dAdd (.int many) (.int 1) = some (.int (many + 1 : Nat)) := rfl
  cases hp : partsD us d with
  | none =>
    have fv : partsV us d = .non := by unfold partsV; rw [hp]
    rw [fv] at fp
    simp [sVar_ap, sC_ap, sNil_ap, sCons_ap, sTup_ap, sLst_ap, sMut_ap, s2_ap, sChain_ap, sAnd_ap, sOr_ap, sNot_ap, sIf_ap, s1_ap, sNoPart_ap, sPart_ap, sSl_ap, sCB_ap, sCall_ap, sSkip_ap, sSeq_ap, sRet_ap, sRetN_ap, sDrop_ap, sIfS_ap, sBad_ap, gN_ap, gT_ap, sAsg_ap, sPar_ap, sSetIx_ap, sApp_ap, sIt_ap, sRng1_ap, sRng2_ap, sYes_ap, sZip_ap, sGet2_ap, runB_ap, runK_ap, sIsi_ap, gAll, begin_, endF, rd, rds, purs, pur, isi, dCmp, dInt, mulOk, sizeLine_eq, ix, cut, add1, fp, dIsN, EV.isNon]
  | some ps =>
    have fv : partsV us d = .lst ps := by unfold partsV; rw [hp]
    rw [fv] at fp
    obtain ⟨p1, p2⟩ := parts_tame hd hp
    by_cases h1 : 12 < δ
    · have h1' : (12 : Int) < δ := by omega
      simp [sVar_ap, sC_ap, sNil_ap, sCons_ap, sTup_ap, sLst_ap, sMut_ap, s2_ap, sChain_ap, sAnd_ap, sOr_ap, sNot_ap, sIf_ap, s1_ap, sNoPart_ap, sPart_ap, sSl_ap, sCB_ap, sCall_ap, sSkip_ap, sSeq_ap, sRet_ap, sRetN_ap, sDrop_ap, sIfS_ap, sBad_ap, gN_ap, gT_ap, sAsg_ap, sPar_ap, sSetIx_ap, sApp_ap, sIt_ap, sRng1_ap, sRng2_ap, sYes_ap, sZip_ap, sGet2_ap, runB_ap, runK_ap, sIsi_ap, gAll, begin_, endF, rd, rds, purs, pur, isi, dCmp, dInt, mulOk, sizeLine_eq, ix, cut, add1, fp, dIsN, EV.isNon, h1, h1']
    · have h1' : ¬ (12 : Int) < δ := by omega
      by_cases h2 : 1000 ≤ many
      · have h2' : (1000 : Int) < (many : Int) + 1 := by omega
        simp [sVar_ap, sC_ap, sNil_ap, sCons_ap, sTup_ap, sLst_ap, sMut_ap, s2_ap, sChain_ap, sAnd_ap, sOr_ap, sNot_ap, sIf_ap, s1_ap, sNoPart_ap, sPart_ap, sSl_ap, sCB_ap, sCall_ap, sSkip_ap, sSeq_ap, sRet_ap, sRetN_ap, sDrop_ap, sIfS_ap, sBad_ap, gN_ap, gT_ap, sAsg_ap, sPar_ap, sSetIx_ap, sApp_ap, sIt_ap, sRng1_ap, sRng2_ap, sYes_ap, sZip_ap, sGet2_ap, runB_ap, runK_ap, sIsi_ap, gAll, begin_, endF, rd, rds, purs, pur, isi, dCmp, dInt, mulOk, sizeLine_eq, ix, cut, add1, fp, dIsN, EV.isNon, h1, h2, h1', h2']
      · have h2' : ¬ (1000 : Int) < (many : Int) + 1 := by omega
        have lc : ∀ S : Sto, sLC (sIt (sVar 4)) (gN 7) (sYes) (sTup (sCons (sVar 7) (sCons (s2 dAdd (sVar 6) (sC (.int 1))) (sNil)))) [7] [some (.p (uD us)), some (.p v), some (.p (.lst (rest.map itD))), some (.p (.int ((many : Int) + 1))), some (.p (.lst ps)), some (.p d), some (.p (.int δ)), e] S =
            some (.p (.lst (ps.map fun p => itD (p, δ + 1))), S) := fun S => by
          refine sLC_all (xs := ps) (c := id) (f := fun p => itD (p, δ + 1)) (by simp [sIt_ap, sVar_ap]) (fun x hx => ⟨_, rfl, fun S => ?_⟩) (by omega)
          simp [sVar_ap, sC_ap, sNil_ap, sCons_ap, sTup_ap, sLst_ap, sMut_ap, s2_ap, sChain_ap, sAnd_ap, sOr_ap, sNot_ap, sIf_ap, s1_ap, sNoPart_ap, sPart_ap, sSl_ap, sCB_ap, sCall_ap, sSkip_ap, sSeq_ap, sRet_ap, sRetN_ap, sDrop_ap, sIfS_ap, sBad_ap, gN_ap, gT_ap, sAsg_ap, sPar_ap, sSetIx_ap, sApp_ap, sIt_ap, sRng1_ap, sRng2_ap, sYes_ap, sZip_ap, sGet2_ap, runB_ap, runK_ap, sIsi_ap, gAll, begin_, endF, rd, rds, purs, pur, isi, dCmp, dInt, mulOk, sizeLine_eq, wipeP, dAdd]
        have ad : dAdd (.lst (ps.map fun p => itD (p, δ + 1))) (.lst (rest.map itD)) = some (.lst ((ps.map (fun p => (p, δ + 1)) ++ rest).map itD)) := by
          simp only [dAdd, sizeLine_eq]
          rw [decide_eq_true (by simp; omega)]
          simp
        simp [sVar_ap, sC_ap, sNil_ap, sCons_ap, sTup_ap, sLst_ap, sMut_ap, s2_ap, sChain_ap, sAnd_ap, sOr_ap, sNot_ap, sIf_ap, s1_ap, sNoPart_ap, sPart_ap, sSl_ap, sCB_ap, sCall_ap, sSkip_ap, sSeq_ap, sRet_ap, sRetN_ap, sDrop_ap, sIfS_ap, sBad_ap, gN_ap, gT_ap, sAsg_ap, sPar_ap, sSetIx_ap, sApp_ap, sIt_ap, sRng1_ap, sRng2_ap, sYes_ap, sZip_ap, sGet2_ap, runB_ap, runK_ap, sIsi_ap, gAll, begin_, endF, rd, rds, purs, pur, isi, dCmp, dInt, mulOk, sizeLine_eq, ix, cut, add1, fp, dIsN, EV.isNon, h1, h2, h1', h2', lc, ad]
end K48

set_option Elab.async false
set_option linter.all false
set_option maxRecDepth 100000
set_option maxHeartbeats 1000000
namespace K48
open PySem PySem.Spec PyProof.Rows L2 EV
theorem total_cons (us : List Int) (p : D × Nat) (l : List (D × Nat)) : total us (p :: l) = Wt us (13 - p.2) p.1 + total us l := by simp [total]
theorem total_app (us : List Int) (l m : List (D × Nat)) : total us (l ++ m) = total us l + total us m := by simp [total]
theorem cT_eq {l : List D} {σ : PS} (h2 : σ[2]? = some (some (.p (.lst l)))) (h : okD 64 (.lst l) = true) (S : Sto) : cT σ S = some (.p (.bl (!l.isEmpty)), S) := by
  have := ne_nil h
  simp [sVar_ap, sC_ap, sNil_ap, sCons_ap, sTup_ap, sLst_ap, sMut_ap, s2_ap, sChain_ap, sAnd_ap, sOr_ap, sNot_ap, sIf_ap, s1_ap, sNoPart_ap, sPart_ap, sSl_ap, sCB_ap, sCall_ap, sSkip_ap, sSeq_ap, sRet_ap, sRetN_ap, sDrop_ap, sIfS_ap, sBad_ap, gN_ap, gT_ap, sAsg_ap, sPar_ap, sSetIx_ap, sApp_ap, sIt_ap, sRng1_ap, sRng2_ap, sYes_ap, sZip_ap, sGet2_ap, runB_ap, runK_ap, sIsi_ap, gAll, begin_, endF, rd, rds, purs, pur, isi, dCmp, dInt, mulOk, sizeLine_eq, h2, this]
theorem loop_ok {us : List Int} {n : Nat} (hn : n ≤ 60) (v : D) (S : Sto) : ∀ (fuel : Nat) (l : List (D × Nat)) (many : Nat) (a b c e : Option Vl), many ≤ 1000 → 1001 < fuel + many → l.length ≤ 100 * many + 1 → (∀ p ∈ l, tame n p.1 = true) →
    (many + total us l ≤ 1000 → ∃ σ', loopW cT cB fuel [some (.p (uD us)), some (.p v), some (.p (.lst (l.map itD))), some (.p (.int many)), a, b, c, e] S = some (.nx σ', S)) ∧
    (1000 < many + total us l → loopW cT cB fuel [some (.p (uD us)), some (.p v), some (.p (.lst (l.map itD))), some (.p (.int many)), a, b, c, e] S = some (.rt (.p (.bl false)), S)) := by
  intro fuel
  induction fuel with
  | zero => intro l many a b c e h1 h2; omega
  | succ fuel ih =>
    intro l many a b c e h1 h2 h3 h4
    have ct := cT_eq (σ := [some (.p (uD us)), some (.p v), some (.p (.lst (l.map itD))), some (.p (.int many)), a, b, c, e]) rfl (line_ok hn h4) S
    cases l with
    | nil =>
      refine ⟨fun _ => ⟨[some (.p (uD us)), some (.p v), some (.p (.lst (([] : List (D × Nat)).map itD))), some (.p (.int many)), a, b, c, e], ?_⟩, fun h => by simp [total] at h; omega⟩
      · exact loopW_false ct
    | cons p rest =>
      obtain ⟨d, δ⟩ := p
      have hd : tame n d = true := h4 (d, δ) (by simp)
      have hr : ∀ p ∈ rest, tame n p.1 = true := fun p hp => h4 p (by simp [hp])
      have hl : rest.length + 1 ≤ 100 * many + 1 := by simpa using h3
      have tn := turn (us := us) (v := v) (d := d) (δ := δ) (many := many) (rest := rest) (a := a) (b := b) (c := c) (e := e) hn hd hr (by omega) S
      have step : loopW cT cB (fuel + 1) [some (.p (uD us)), some (.p v), some (.p (.lst (((d, δ) :: rest).map itD))), some (.p (.int many)), a, b, c, e] S =
          match cB [some (.p (uD us)), some (.p v), some (.p (.lst (((d, δ) :: rest).map itD))), some (.p (.int many)), a, b, c, e] S with
          | none => none
          | some (.nx σ2, S2) => loopW cT cB fuel σ2 S2
          | some (.rt v, S2) => some (.rt v, S2) := by
        exact loopW_true ct
      rw [step, tn, total_cons]
      cases hp : partsD us d with
      | none =>
        have w : Wt us (13 - δ) d = 5000 := by
          cases h : 13 - δ with
          | zero => rfl
          | succ k => unfold Wt; rw [hp]
        exact ⟨fun h => by simp only [w] at h; omega, fun _ => rfl⟩
      | some ps =>
        simp only
        have wp := Wt_pos us (13 - δ) d
        by_cases hb : 12 < δ ∨ 1000 ≤ many
        · rw [if_pos hb]
          refine ⟨fun h => ?_, fun _ => rfl⟩
          rcases hb with hb | hb
          · have : 13 - δ = 0 := by omega
            simp only [this] at h
            simp only [Wt] at h
            omega
          · omega
        · rw [if_neg hb]
          obtain ⟨p1, p2⟩ := parts_tame hd hp
          have w : Wt us (13 - δ) d = 1 + (ps.map (Wt us (13 - (δ + 1)))).sum := by
            have : 13 - δ = (13 - (δ + 1)) + 1 := by omega
            rw [this]
            conv => lhs; unfold Wt
            rw [hp]
          have t2 : total us (ps.map (fun p => (p, δ + 1)) ++ rest) = (ps.map (Wt us (13 - (δ + 1)))).sum + total us rest := by
            rw [total_app]
            unfold total
            rw [List.map_map]
            rfl
          have r := ih (ps.map (fun p => (p, δ + 1)) ++ rest) (many + 1) (some (.p (.lst ps))) (some (.p d)) (some (.p (.int δ))) e (by omega) (by omega) (by simp; omega) fun p hp' => by
            rcases List.mem_append.mp hp' with q | q
            · obtain ⟨x, hx, rfl⟩ := List.mem_map.mp q
              exact p2 x hx
            · exact hr p q
          rw [t2] at r
          exact ⟨fun h => r.1 (by simp only [w] at h; omega), fun h => r.2 (by simp only [w] at h; omega)⟩
theorem F_condition {us : List Int} {n : Nat} {v : D} (h : tame n v = true) (hn : n ≤ 60) (S : Sto) : F_fits_condition [.p (uD us), .p v] S = some (.p (.bl (decide (Wt us 13 v ≤ 1000))), S) := by
  have lp := loop_ok (us := us) hn v S 1100 [(v, 0)] 0 none none none none (by omega) (by omega) (by simp) (fun p hp => by rw [List.mem_singleton.mp hp]; exact h)
  have t : total us [(v, 0)] = Wt us 13 v := by simp [total]
  rw [t] at lp
  have l0 : [(v, 0)].map itD = [D.tup [v, .int 0]] := rfl
  rw [l0] at lp
  have sw : ∀ σ S, sWhile 1100 cT cB σ S = loopW cT cB 1100 σ S := fun _ _ => rfl
  by_cases hw : Wt us 13 v ≤ 1000
  · obtain ⟨σ', e⟩ := lp.1 (by omega)
    have e : loopW cT cB 1100 [some (.p (uD us)), some (.p v), some (.p (.lst [D.tup [v, .int 0]])), some (.p (.int 0)), none, none, none, none] S = _ := e
    unfold F_fits_condition
    rw [fits_condition_eq]
    generalize cT = ct at sw e
    generalize cB = cb at sw e
    simp [sVar_ap, sC_ap, sNil_ap, sCons_ap, sTup_ap, sLst_ap, sMut_ap, s2_ap, sChain_ap, sAnd_ap, sOr_ap, sNot_ap, sIf_ap, s1_ap, sNoPart_ap, sPart_ap, sSl_ap, sCB_ap, sCall_ap, sSkip_ap, sSeq_ap, sRet_ap, sRetN_ap, sDrop_ap, sIfS_ap, sBad_ap, gN_ap, gT_ap, sAsg_ap, sPar_ap, sSetIx_ap, sApp_ap, sIt_ap, sRng1_ap, sRng2_ap, sYes_ap, sZip_ap, sGet2_ap, runB_ap, runK_ap, sIsi_ap, gAll, begin_, endF, rd, rds, purs, pur, isi, dCmp, dInt, mulOk, sizeLine_eq, sw, e, hw]
  · have e := lp.2 (by omega)
    have e : loopW cT cB 1100 [some (.p (uD us)), some (.p v), some (.p (.lst [D.tup [v, .int 0]])), some (.p (.int 0)), none, none, none, none] S = _ := e
    unfold F_fits_condition
    rw [fits_condition_eq]
    generalize cT = ct at sw e
    generalize cB = cb at sw e
    simp [sVar_ap, sC_ap, sNil_ap, sCons_ap, sTup_ap, sLst_ap, sMut_ap, s2_ap, sChain_ap, sAnd_ap, sOr_ap, sNot_ap, sIf_ap, s1_ap, sNoPart_ap, sPart_ap, sSl_ap, sCB_ap, sCall_ap, sSkip_ap, sSeq_ap, sRet_ap, sRetN_ap, sDrop_ap, sIfS_ap, sBad_ap, gN_ap, gT_ap, sAsg_ap, sPar_ap, sSetIx_ap, sApp_ap, sIt_ap, sRng1_ap, sRng2_ap, sYes_ap, sZip_ap, sGet2_ap, runB_ap, runK_ap, sIsi_ap, gAll, begin_, endF, rd, rds, purs, pur, isi, dCmp, dInt, mulOk, sizeLine_eq, sw, e, hw]
end K48

set_option Elab.async false
set_option linter.all false
set_option maxRecDepth 100000
set_option maxHeartbeats 1000000
namespace K48
open PySem PySem.Spec PyProof.Rows L2 EV
theorem eq_empty {l : List D} (h : okD 64 (.tup l) = true) : dEq (.tup l) (.tup []) = some (.bl l.isEmpty) := by
  have h2 : okD 64 (.tup []) = true := rfl
  show (match okD 64 (.tup l) && okD 64 (.tup []) with | true => _ | false => _) = _
  rw [h, h2]
  cases l <;> rfl
def word3 (w : Str) : Bool := w == "not" || w == "all" || w == "some"
theorem in_word3 {w : Str} (hw : PyData.strOk w = true) : dInP not (.str w) (.tup [.str "not", .str "all", .str "some"]) = some (.bl (!word3 w)) := by
  have := in_strs (w := w) (l := ["not", "all", "some"]) hw (fun x hx => by simp at hx; rcases hx with rfl | rfl | rfl; exact ok_not; exact ok_all; exact ok_some) not
  rw [List.map_cons, List.map_cons, List.map_cons, List.map_nil] at this
  rw [this]
  unfold word3
  simp [BEq.comm, Bool.or_assoc]
theorem dSum_map {α : Type} {f : α → Int} (xs : List α) : dSum [.lst (xs.map fun x => D.int (f x))] = some (.int (xs.map f).sum) := by
  have h : ∀ xs : List α, intsOf (xs.map fun x => D.int (f x)) = some (xs.map f) := by
    intro xs
    induction xs with
    | nil => rfl
    | cons x xs ih =>
      rw [List.map_cons, List.map_cons]
      show (intsOf _).map _ = _
      rw [ih]
      rfl
  show (intsOf (xs.map fun x => D.int (f x))).map (fun ns => D.int ns.sum) = _
  rw [h]
  rfl
theorem sum_cast {α : Type} (f : α → Nat) : ∀ xs : List α, ((xs.map fun x => (f x : Int)).sum) = ((xs.map f).sum : Nat)
  | [] => rfl
  | x :: xs => by rw [List.map_cons, List.sum_cons, List.map_cons, List.sum_cons, sum_cast f xs]; simp
theorem W_none {us : List Int} {d : D} (h : partsD us d = none) (n : Nat) : Wt us n d = 5000 := by
  cases n with
  | zero => rfl
  | succ n => unfold Wt; rw [h]
theorem F_weight {us : List Int} : ∀ (m n k : Nat) (d : D), n < m → k ≤ 60 → tame k d = true → ∀ S : Sto, F__law_weight m [.p (uD us), .p d, .p (.int ((n : Int) - 1))] S = some (.p (.int (Wt us n d)), S) := by
  intro m
  induction m with
  | zero => intro n k d h; omega
  | succ m ih =>
    intro n k d hn hk h S
    have run : ∀ xs S, F__law_weight (m + 1) xs S = runB 4 (b__law_weight (F__law_weight m)) xs S := fun _ _ => rfl
    rw [run]
    have pd : (∀ ds, d ≠ .tup ds) → partsD us d = none := by
      intro hq
      cases d <;> first | exact absurd rfl (hq _) | rfl
    cases d with
    | tup ds =>
      have emp := eq_empty (tame64 h (by omega))
      obtain ⟨k', rfl, hl, hkk⟩ := tame_kids h
      cases ds with
      | nil =>
        have w := W_none (us := us) (d := .tup []) rfl n
        simp [sVar_ap, sC_ap, sNil_ap, sCons_ap, sTup_ap, sLst_ap, sMut_ap, s2_ap, sChain_ap, sAnd_ap, sOr_ap, sNot_ap, sIf_ap, s1_ap, sNoPart_ap, sPart_ap, sSl_ap, sCB_ap, sCall_ap, sSkip_ap, sSeq_ap, sRet_ap, sRetN_ap, sDrop_ap, sIfS_ap, sBad_ap, gN_ap, gT_ap, sAsg_ap, sPar_ap, sSetIx_ap, sApp_ap, sIt_ap, sRng1_ap, sRng2_ap, sYes_ap, sZip_ap, sGet2_ap, runB_ap, runK_ap, sIsi_ap, gAll, begin_, endF, rd, rds, purs, pur, isi, dCmp, dInt, mulOk, sizeLine_eq, b__law_weight, emp, w]
      | cons x r =>
        have ix0 : dIx (.tup (x :: r)) (.int 0) = some x := by
          show atI _ _ = _
          simp [atI, ixN]
        have hx := hkk x (by simp)
        have pn : (∀ w, x ≠ .str w) → partsD us (.tup (x :: r)) = none := by
          intro hq
          cases x <;> first | exact absurd rfl (hq _) | (rcases r with _ | ⟨a, _ | ⟨b, _ | ⟨c, r⟩⟩⟩ <;> rfl)
        cases x with
        | dct _ _ => cases k' <;> cases hx
        | set _ => cases k' <;> cases hx
        | scr _ => cases k' <;> cases hx
        | str w =>
          have hw : PyData.strOk w = true := by cases k' <;> exact hx
          cases n with
          | zero =>
            simp [sVar_ap, sC_ap, sNil_ap, sCons_ap, sTup_ap, sLst_ap, sMut_ap, s2_ap, sChain_ap, sAnd_ap, sOr_ap, sNot_ap, sIf_ap, s1_ap, sNoPart_ap, sPart_ap, sSl_ap, sCB_ap, sCall_ap, sSkip_ap, sSeq_ap, sRet_ap, sRetN_ap, sDrop_ap, sIfS_ap, sBad_ap, gN_ap, gT_ap, sAsg_ap, sPar_ap, sSetIx_ap, sApp_ap, sIt_ap, sRng1_ap, sRng2_ap, sYes_ap, sZip_ap, sGet2_ap, runB_ap, runK_ap, sIsi_ap, gAll, begin_, endF, rd, rds, purs, pur, isi, dCmp, dInt, mulOk, sizeLine_eq, b__law_weight, emp, ix0, dLt, Wt]
          | succ n =>
            have e1 := eq_str hw ok_same
            have e2 := eq_str hw ok_not
            have e3 := in_word3 hw
            have nn : ¬ ((n + 1 : Nat) : Int) - 1 < 0 := by omega
            have nn' : ¬ (n : Int) < 0 := by omega
            by_cases hs : w = "same"
            · subst hs
              simp only [BEq.rfl] at e1
              match r, hl, hkk with
              | [a, b], _, hkk =>
                have ha := hkk a (by simp)
                have hb := hkk b (by simp)
                have ix1 : dIx (.tup [.str "same", a, b]) (.int 1) = some a := rfl
                have ix2 : dIx (.tup [.str "same", a, b]) (.int 2) = some b := rfl
                have f1 := F_law_cell (us := us) (tame_plain ha)
                have f2 := F_law_cell (us := us) (tame_plain hb)
                cases c1 : cellB us a with
                | false =>
                  rw [c1] at f1
                  simp [sVar_ap, sC_ap, sNil_ap, sCons_ap, sTup_ap, sLst_ap, sMut_ap, s2_ap, sChain_ap, sAnd_ap, sOr_ap, sNot_ap, sIf_ap, s1_ap, sNoPart_ap, sPart_ap, sSl_ap, sCB_ap, sCall_ap, sSkip_ap, sSeq_ap, sRet_ap, sRetN_ap, sDrop_ap, sIfS_ap, sBad_ap, gN_ap, gT_ap, sAsg_ap, sPar_ap, sSetIx_ap, sApp_ap, sIt_ap, sRng1_ap, sRng2_ap, sYes_ap, sZip_ap, sGet2_ap, runB_ap, runK_ap, sIsi_ap, gAll, begin_, endF, rd, rds, purs, pur, isi, dCmp, dInt, mulOk, sizeLine_eq, b__law_weight, emp, ix0, dLt, nn', e1, dLen, eq_int, ix1, ix2, f1, f2, Wt, partsD, c1]
                | true =>
                  rw [c1] at f1
                  cases c2 : cellB us b with
                  | false =>
                    rw [c2] at f2
                    simp [sVar_ap, sC_ap, sNil_ap, sCons_ap, sTup_ap, sLst_ap, sMut_ap, s2_ap, sChain_ap, sAnd_ap, sOr_ap, sNot_ap, sIf_ap, s1_ap, sNoPart_ap, sPart_ap, sSl_ap, sCB_ap, sCall_ap, sSkip_ap, sSeq_ap, sRet_ap, sRetN_ap, sDrop_ap, sIfS_ap, sBad_ap, gN_ap, gT_ap, sAsg_ap, sPar_ap, sSetIx_ap, sApp_ap, sIt_ap, sRng1_ap, sRng2_ap, sYes_ap, sZip_ap, sGet2_ap, runB_ap, runK_ap, sIsi_ap, gAll, begin_, endF, rd, rds, purs, pur, isi, dCmp, dInt, mulOk, sizeLine_eq, b__law_weight, emp, ix0, dLt, nn', e1, dLen, eq_int, ix1, ix2, f1, f2, Wt, partsD, c1, c2]
                  | true =>
                    rw [c2] at f2
                    simp [sVar_ap, sC_ap, sNil_ap, sCons_ap, sTup_ap, sLst_ap, sMut_ap, s2_ap, sChain_ap, sAnd_ap, sOr_ap, sNot_ap, sIf_ap, s1_ap, sNoPart_ap, sPart_ap, sSl_ap, sCB_ap, sCall_ap, sSkip_ap, sSeq_ap, sRet_ap, sRetN_ap, sDrop_ap, sIfS_ap, sBad_ap, gN_ap, gT_ap, sAsg_ap, sPar_ap, sSetIx_ap, sApp_ap, sIt_ap, sRng1_ap, sRng2_ap, sYes_ap, sZip_ap, sGet2_ap, runB_ap, runK_ap, sIsi_ap, gAll, begin_, endF, rd, rds, purs, pur, isi, dCmp, dInt, mulOk, sizeLine_eq, b__law_weight, emp, ix0, dLt, nn', e1, dLen, eq_int, ix1, ix2, f1, f2, Wt, partsD, c1, c2]
              | [], _, _ => 
                simp [sVar_ap, sC_ap, sNil_ap, sCons_ap, sTup_ap, sLst_ap, sMut_ap, s2_ap, sChain_ap, sAnd_ap, sOr_ap, sNot_ap, sIf_ap, s1_ap, sNoPart_ap, sPart_ap, sSl_ap, sCB_ap, sCall_ap, sSkip_ap, sSeq_ap, sRet_ap, sRetN_ap, sDrop_ap, sIfS_ap, sBad_ap, gN_ap, gT_ap, sAsg_ap, sPar_ap, sSetIx_ap, sApp_ap, sIt_ap, sRng1_ap, sRng2_ap, sYes_ap, sZip_ap, sGet2_ap, runB_ap, runK_ap, sIsi_ap, gAll, begin_, endF, rd, rds, purs, pur, isi, dCmp, dInt, mulOk, sizeLine_eq, b__law_weight, emp, ix0, dLt, nn', e1, dLen, eq_int, Wt, partsD]
              | [a], _, _ =>
                simp [sVar_ap, sC_ap, sNil_ap, sCons_ap, sTup_ap, sLst_ap, sMut_ap, s2_ap, sChain_ap, sAnd_ap, sOr_ap, sNot_ap, sIf_ap, s1_ap, sNoPart_ap, sPart_ap, sSl_ap, sCB_ap, sCall_ap, sSkip_ap, sSeq_ap, sRet_ap, sRetN_ap, sDrop_ap, sIfS_ap, sBad_ap, gN_ap, gT_ap, sAsg_ap, sPar_ap, sSetIx_ap, sApp_ap, sIt_ap, sRng1_ap, sRng2_ap, sYes_ap, sZip_ap, sGet2_ap, runB_ap, runK_ap, sIsi_ap, gAll, begin_, endF, rd, rds, purs, pur, isi, dCmp, dInt, mulOk, sizeLine_eq, b__law_weight, emp, ix0, dLt, nn', e1, dLen, eq_int, Wt, partsD, same_not]
              | a :: b :: c :: r, _, _ =>
                have l3 : ((r.length : Int) + 1 + 1 + 1 + 1 == 3) = false := beq_eq_false_iff_ne.mpr (by omega)
                simp [sVar_ap, sC_ap, sNil_ap, sCons_ap, sTup_ap, sLst_ap, sMut_ap, s2_ap, sChain_ap, sAnd_ap, sOr_ap, sNot_ap, sIf_ap, s1_ap, sNoPart_ap, sPart_ap, sSl_ap, sCB_ap, sCall_ap, sSkip_ap, sSeq_ap, sRet_ap, sRetN_ap, sDrop_ap, sIfS_ap, sBad_ap, gN_ap, gT_ap, sAsg_ap, sPar_ap, sSetIx_ap, sApp_ap, sIt_ap, sRng1_ap, sRng2_ap, sYes_ap, sZip_ap, sGet2_ap, runB_ap, runK_ap, sIsi_ap, gAll, begin_, endF, rd, rds, purs, pur, isi, dCmp, dInt, mulOk, sizeLine_eq, b__law_weight, emp, ix0, dLt, nn', e1, dLen, eq_int, Wt, partsD, l3]
            · have hs' : (w == "same") = false := by simpa using hs
              rw [hs'] at e1
              match r, hl, hkk with
              | [], _, _ =>
                simp [sVar_ap, sC_ap, sNil_ap, sCons_ap, sTup_ap, sLst_ap, sMut_ap, s2_ap, sChain_ap, sAnd_ap, sOr_ap, sNot_ap, sIf_ap, s1_ap, sNoPart_ap, sPart_ap, sSl_ap, sCB_ap, sCall_ap, sSkip_ap, sSeq_ap, sRet_ap, sRetN_ap, sDrop_ap, sIfS_ap, sBad_ap, gN_ap, gT_ap, sAsg_ap, sPar_ap, sSetIx_ap, sApp_ap, sIt_ap, sRng1_ap, sRng2_ap, sYes_ap, sZip_ap, sGet2_ap, runB_ap, runK_ap, sIsi_ap, gAll, begin_, endF, rd, rds, purs, pur, isi, dCmp, dInt, mulOk, sizeLine_eq, b__law_weight, emp, ix0, dLt, nn', e1, dLen, ne_int, Wt, partsD]
              | a :: b :: r, _, _ =>
                have l2 : ((r.length : Int) + 1 + 1 + 1 == 2) = false := beq_eq_false_iff_ne.mpr (by omega)
                have pn : partsD us (.tup (.str w :: a :: b :: r)) = none := by
                  cases r <;> simp [partsD, hs]
                simp [sVar_ap, sC_ap, sNil_ap, sCons_ap, sTup_ap, sLst_ap, sMut_ap, s2_ap, sChain_ap, sAnd_ap, sOr_ap, sNot_ap, sIf_ap, s1_ap, sNoPart_ap, sPart_ap, sSl_ap, sCB_ap, sCall_ap, sSkip_ap, sSeq_ap, sRet_ap, sRetN_ap, sDrop_ap, sIfS_ap, sBad_ap, gN_ap, gT_ap, sAsg_ap, sPar_ap, sSetIx_ap, sApp_ap, sIt_ap, sRng1_ap, sRng2_ap, sYes_ap, sZip_ap, sGet2_ap, runB_ap, runK_ap, sIsi_ap, gAll, begin_, endF, rd, rds, purs, pur, isi, dCmp, dInt, mulOk, sizeLine_eq, b__law_weight, emp, ix0, dLt, nn', e1, dLen, ne_int, Wt, pn, l2]
              | [a], _, hkk =>
                have ha := hkk a (by simp)
                have ix1 : dIx (.tup [.str w, a]) (.int 1) = some a := rfl
                by_cases hn' : w = "not"
                · subst hn'
                  simp only [BEq.rfl] at e2
                  have w3 : word3 "not" = true := by decide +kernel
                  rw [w3] at e3
                  have rc := ih n k' a (by omega) (by omega) ha S
                  have sb : dSub (.int ((n + 1 : Nat) - 1)) (.int 1) = some (.int ((n : Int) - 1)) := by simp [dSub, dInt]
                  have sb' : dSub (.int (n : Int)) (.int 1) = some (.int ((n : Int) - 1)) := rfl
                  simp [sVar_ap, sC_ap, sNil_ap, sCons_ap, sTup_ap, sLst_ap, sMut_ap, s2_ap, sChain_ap, sAnd_ap, sOr_ap, sNot_ap, sIf_ap, s1_ap, sNoPart_ap, sPart_ap, sSl_ap, sCB_ap, sCall_ap, sSkip_ap, sSeq_ap, sRet_ap, sRetN_ap, sDrop_ap, sIfS_ap, sBad_ap, gN_ap, gT_ap, sAsg_ap, sPar_ap, sSetIx_ap, sApp_ap, sIt_ap, sRng1_ap, sRng2_ap, sYes_ap, sZip_ap, sGet2_ap, runB_ap, runK_ap, sIsi_ap, gAll, begin_, endF, rd, rds, purs, pur, isi, dCmp, dInt, mulOk, sizeLine_eq, b__law_weight, emp, ix0, dLt, nn', e1, e2, e3, dLen, ne_int, eq_int, Wt, partsD, ix1, sb', rc, dAdd]
                · have hn2 : (w == "not") = false := by simpa using hn'
                  rw [hn2] at e2
                  have w3 : word3 w = andOr w := by unfold word3 andOr; rw [hn2]; rfl
                  rw [w3] at e3
                  cases hao : andOr w with
                  | false =>
                    rw [hao] at e3
                    simp [sVar_ap, sC_ap, sNil_ap, sCons_ap, sTup_ap, sLst_ap, sMut_ap, s2_ap, sChain_ap, sAnd_ap, sOr_ap, sNot_ap, sIf_ap, s1_ap, sNoPart_ap, sPart_ap, sSl_ap, sCB_ap, sCall_ap, sSkip_ap, sSeq_ap, sRet_ap, sRetN_ap, sDrop_ap, sIfS_ap, sBad_ap, gN_ap, gT_ap, sAsg_ap, sPar_ap, sSetIx_ap, sApp_ap, sIt_ap, sRng1_ap, sRng2_ap, sYes_ap, sZip_ap, sGet2_ap, runB_ap, runK_ap, sIsi_ap, gAll, begin_, endF, rd, rds, purs, pur, isi, dCmp, dInt, mulOk, sizeLine_eq, b__law_weight, emp, ix0, dLt, nn', e1, e2, e3, dLen, ne_int, eq_int, Wt, partsD, hao, hn']
                  | true =>
                    rw [hao] at e3
                    cases a with
                    | tup ps =>
                      obtain ⟨k2, rfl, hl2, hk2⟩ := tame_kids ha
                      have l1000 : ps.length ≤ 1000 := by omega
                      have lc : ∀ S : Sto, sLC (sIt (s2 dIx (sVar 1) (sC (.int 1)))) (gN 3) (sYes) (sCall 3 (F__law_weight m) (sCons (sVar 0) (sCons (sVar 3) (sCons (s2 dSub (sVar 2) (sC (.int 1))) (sNil))))) [3] [some (.p (uD us)), some (.p (.tup [.str w, .tup ps])), some (.p (.int (n : Int))), none] S =
                          some (.p (.lst (ps.map fun p => .int (Wt us n p : Nat))), S) := fun S => by
                        refine sLC_all (xs := ps) (c := id) (f := fun p => .int (Wt us n p : Nat)) (by simp [sVar_ap, sC_ap, sNil_ap, sCons_ap, sTup_ap, sLst_ap, sMut_ap, s2_ap, sChain_ap, sAnd_ap, sOr_ap, sNot_ap, sIf_ap, s1_ap, sNoPart_ap, sPart_ap, sSl_ap, sCB_ap, sCall_ap, sSkip_ap, sSeq_ap, sRet_ap, sRetN_ap, sDrop_ap, sIfS_ap, sBad_ap, gN_ap, gT_ap, sAsg_ap, sPar_ap, sSetIx_ap, sApp_ap, sIt_ap, sRng1_ap, sRng2_ap, sYes_ap, sZip_ap, sGet2_ap, runB_ap, runK_ap, sIsi_ap, gAll, begin_, endF, rd, rds, purs, pur, isi, dCmp, dInt, mulOk, sizeLine_eq, ix1]) (fun x hx => ⟨_, rfl, fun S => ?_⟩) (by omega)
                        have rc := ih n k2 x (by omega) (by omega) (hk2 x hx) S
                        have sb' : dSub (.int (n : Int)) (.int 1) = some (.int ((n : Int) - 1)) := rfl
                        simp [sVar_ap, sC_ap, sNil_ap, sCons_ap, sTup_ap, sLst_ap, sMut_ap, s2_ap, sChain_ap, sAnd_ap, sOr_ap, sNot_ap, sIf_ap, s1_ap, sNoPart_ap, sPart_ap, sSl_ap, sCB_ap, sCall_ap, sSkip_ap, sSeq_ap, sRet_ap, sRetN_ap, sDrop_ap, sIfS_ap, sBad_ap, gN_ap, gT_ap, sAsg_ap, sPar_ap, sSetIx_ap, sApp_ap, sIt_ap, sRng1_ap, sRng2_ap, sYes_ap, sZip_ap, sGet2_ap, runB_ap, runK_ap, sIsi_ap, gAll, begin_, endF, rd, rds, purs, pur, isi, dCmp, dInt, mulOk, sizeLine_eq, wipeP, sb', rc]
                      have sm := dSum_map (f := fun p => (Wt us n p : Int)) ps
                      rw [sum_cast] at sm
                      simp [sVar_ap, sC_ap, sNil_ap, sCons_ap, sTup_ap, sLst_ap, sMut_ap, s2_ap, sChain_ap, sAnd_ap, sOr_ap, sNot_ap, sIf_ap, s1_ap, sNoPart_ap, sPart_ap, sSl_ap, sCB_ap, sCall_ap, sSkip_ap, sSeq_ap, sRet_ap, sRetN_ap, sDrop_ap, sIfS_ap, sBad_ap, gN_ap, gT_ap, sAsg_ap, sPar_ap, sSetIx_ap, sApp_ap, sIt_ap, sRng1_ap, sRng2_ap, sYes_ap, sZip_ap, sGet2_ap, runB_ap, runK_ap, sIsi_ap, gAll, begin_, endF, rd, rds, purs, pur, isi, dCmp, dInt, mulOk, sizeLine_eq, b__law_weight, emp, ix0, dLt, nn', e1, e2, e3, dLen, ne_int, eq_int, Wt, partsD, hao, hn', hs, ix1, lc, sm, dAdd, l1000]
                    | dct _ _ => cases k' <;> cases ha
                    | set _ => cases k' <;> cases ha
                    | scr _ => cases k' <;> cases ha
                    | _ =>
                      simp [sVar_ap, sC_ap, sNil_ap, sCons_ap, sTup_ap, sLst_ap, sMut_ap, s2_ap, sChain_ap, sAnd_ap, sOr_ap, sNot_ap, sIf_ap, s1_ap, sNoPart_ap, sPart_ap, sSl_ap, sCB_ap, sCall_ap, sSkip_ap, sSeq_ap, sRet_ap, sRetN_ap, sDrop_ap, sIfS_ap, sBad_ap, gN_ap, gT_ap, sAsg_ap, sPar_ap, sSetIx_ap, sApp_ap, sIt_ap, sRng1_ap, sRng2_ap, sYes_ap, sZip_ap, sGet2_ap, runB_ap, runK_ap, sIsi_ap, gAll, begin_, endF, rd, rds, purs, pur, isi, dCmp, dInt, mulOk, sizeLine_eq, b__law_weight, emp, ix0, dLt, nn', e1, e2, e3, dLen, ne_int, eq_int, Wt, partsD, hao, hn', hs, ix1]
        | _ =>
          have w := W_none (pn (by intro w e; cases e)) n
          simp [sVar_ap, sC_ap, sNil_ap, sCons_ap, sTup_ap, sLst_ap, sMut_ap, s2_ap, sChain_ap, sAnd_ap, sOr_ap, sNot_ap, sIf_ap, s1_ap, sNoPart_ap, sPart_ap, sSl_ap, sCB_ap, sCall_ap, sSkip_ap, sSeq_ap, sRet_ap, sRetN_ap, sDrop_ap, sIfS_ap, sBad_ap, gN_ap, gT_ap, sAsg_ap, sPar_ap, sSetIx_ap, sApp_ap, sIt_ap, sRng1_ap, sRng2_ap, sYes_ap, sZip_ap, sGet2_ap, runB_ap, runK_ap, sIsi_ap, gAll, begin_, endF, rd, rds, purs, pur, isi, dCmp, dInt, mulOk, sizeLine_eq, b__law_weight, emp, ix0, w]
    | dct _ _ => cases k <;> cases h
    | set _ => cases k <;> cases h
    | scr _ => cases k <;> cases h
    | _ =>
      have w := W_none (pd (by intro w e; cases e)) n
      simp [sVar_ap, sC_ap, sNil_ap, sCons_ap, sTup_ap, sLst_ap, sMut_ap, s2_ap, sChain_ap, sAnd_ap, sOr_ap, sNot_ap, sIf_ap, s1_ap, sNoPart_ap, sPart_ap, sSl_ap, sCB_ap, sCall_ap, sSkip_ap, sSeq_ap, sRet_ap, sRetN_ap, sDrop_ap, sIfS_ap, sBad_ap, gN_ap, gT_ap, sAsg_ap, sPar_ap, sSetIx_ap, sApp_ap, sIt_ap, sRng1_ap, sRng2_ap, sYes_ap, sZip_ap, sGet2_ap, runB_ap, runK_ap, sIsi_ap, gAll, begin_, endF, rd, rds, purs, pur, isi, dCmp, dInt, mulOk, sizeLine_eq, b__law_weight, w]
end K48

set_option Elab.async false
set_option linter.all false
set_option maxRecDepth 100000
set_option maxHeartbeats 1000000
namespace K48
open PySem PySem.Spec PyProof.Rows L2 EV
def entryB (us : List Int) (cols : Int) : D → Bool
  | .tup [.tup row, cond] => decide ((row.length : Int) = cols) && (row.all (cellB us) && decide (Wt us 13 cond ≤ 1000))
  | _ => false
def fgB (us : List Int) : D → Bool
  | .tup [.int c, .tup es] => (decide (0 ≤ c) && decide (c ≤ 6)) && (decide (es.length ≤ 200) && es.all (entryB us c))
  | _ => false
theorem tupLen_2 (a b : D) : tupLen 2 2 (.tup [a, b]) = true := by simp [tupLen]
theorem ix0 (a : D) (r : List D) : dIx (.tup (a :: r)) (.int 0) = some a := by
  show atI _ _ = _
  simp [atI, ixN]
theorem ix1 (a b : D) (r : List D) : dIx (.tup (a :: b :: r)) (.int 1) = some b := by
  show atI _ _ = _
  have h : (1 : Int) < (r.length : Int) + 1 + 1 := by omega
  simp [atI, ixN, h]
theorem tupLen_n {l : List D} (h : l.length ≠ 2) : tupLen 2 2 (.tup l) = false := by
  simp only [tupLen]
  by_cases h1 : (2 : Int) ≤ l.length
  · have : ¬ ((l.length : Int) ≤ 2) := by omega
    simp [this]
  · simp [h1]
theorem F_entry {us : List Int} {cols : Int} {n : Nat} {d : D} (h : tame n d = true) (hn : n ≤ 60) (S : Sto) : F_fits_entry [.p (uD us), .p (.int cols), .p d] S = some (.p (.bl (entryB us cols d)), S) := by
  have tl := F_tuple_of (lo := 2) (hi := 2) (tame_plain h)
  cases d with
  | tup ds =>
    obtain ⟨m, rfl, hl, hk⟩ := tame_kids h
    by_cases h2 : ds.length = 2
    · match ds, h2, hk with
      | [a, b], _, hk =>
        rw [tupLen_2] at tl
        have ha := hk a (by simp)
        have hb := hk b (by simp)
        have t2 := F_tuple_of (lo := cols) (hi := cols) (tame_plain ha)
        have fc := F_condition (us := us) hb (by omega)
        cases a with
        | tup row =>
          obtain ⟨m', rfl, hl', hk'⟩ := tame_kids ha
          by_cases hc : (row.length : Int) = cols
          · have e : tupLen cols cols (.tup row) = true := by simp [tupLen, hc]
            rw [e] at t2
            have lc : ∀ S : Sto, sLC (sIt (s2 dIx (sVar 2) (sC (.int 0)))) (gN 3) (sYes) (sCall 2 F_fits_cell (sCons (sVar 0) (sCons (sVar 3) (sNil)))) [3] [some (.p (uD us)), some (.p (.int cols)), some (.p (.tup [.tup row, b])), none] S =
                some (.p (.lst (row.map fun x => .bl (cellB us x))), S) := fun S => by
              refine sLC_all (xs := row) (c := id) (f := fun x => .bl (cellB us x)) (by simp [sVar_ap, sC_ap, sNil_ap, sCons_ap, sTup_ap, sLst_ap, sMut_ap, s2_ap, sChain_ap, sAnd_ap, sOr_ap, sNot_ap, sIf_ap, s1_ap, sNoPart_ap, sPart_ap, sSl_ap, sCB_ap, sCall_ap, sSkip_ap, sSeq_ap, sRet_ap, sRetN_ap, sDrop_ap, sIfS_ap, sBad_ap, gN_ap, gT_ap, sAsg_ap, sPar_ap, sSetIx_ap, sApp_ap, sIt_ap, sRng1_ap, sRng2_ap, sYes_ap, sZip_ap, sGet2_ap, runB_ap, runK_ap, sIsi_ap, gAll, begin_, endF, rd, rds, purs, pur, isi, dCmp, dInt, mulOk, sizeLine_eq, ix0]) (fun x hx => ⟨_, rfl, fun S => ?_⟩) (by omega)
              simp [sVar_ap, sC_ap, sNil_ap, sCons_ap, sTup_ap, sLst_ap, sMut_ap, s2_ap, sChain_ap, sAnd_ap, sOr_ap, sNot_ap, sIf_ap, s1_ap, sNoPart_ap, sPart_ap, sSl_ap, sCB_ap, sCall_ap, sSkip_ap, sSeq_ap, sRet_ap, sRetN_ap, sDrop_ap, sIfS_ap, sBad_ap, gN_ap, gT_ap, sAsg_ap, sPar_ap, sSetIx_ap, sApp_ap, sIt_ap, sRng1_ap, sRng2_ap, sYes_ap, sZip_ap, sGet2_ap, runB_ap, runK_ap, sIsi_ap, gAll, begin_, endF, rd, rds, purs, pur, isi, dCmp, dInt, mulOk, sizeLine_eq, wipeP, F_cell (us := us) (tame_plain (hk' x hx))]
            have al := dAll_map (f := cellB us) row
            have al' : dAll [.lst (row.map fun x => .bl (cellB us x))] = some (.bl (row.all (cellB us))) := al
            cases hr : row.all (cellB us) with
            | true =>
              rw [hr] at al'
              simp [sVar_ap, sC_ap, sNil_ap, sCons_ap, sTup_ap, sLst_ap, sMut_ap, s2_ap, sChain_ap, sAnd_ap, sOr_ap, sNot_ap, sIf_ap, s1_ap, sNoPart_ap, sPart_ap, sSl_ap, sCB_ap, sCall_ap, sSkip_ap, sSeq_ap, sRet_ap, sRetN_ap, sDrop_ap, sIfS_ap, sBad_ap, gN_ap, gT_ap, sAsg_ap, sPar_ap, sSetIx_ap, sApp_ap, sIt_ap, sRng1_ap, sRng2_ap, sYes_ap, sZip_ap, sGet2_ap, runB_ap, runK_ap, sIsi_ap, gAll, begin_, endF, rd, rds, purs, pur, isi, dCmp, dInt, mulOk, sizeLine_eq, F_fits_entry, b_fits_entry, tl, ix0, ix1, t2, lc, al', fc, entryB, hc, hr]
            | false =>
              rw [hr] at al'
              simp [sVar_ap, sC_ap, sNil_ap, sCons_ap, sTup_ap, sLst_ap, sMut_ap, s2_ap, sChain_ap, sAnd_ap, sOr_ap, sNot_ap, sIf_ap, s1_ap, sNoPart_ap, sPart_ap, sSl_ap, sCB_ap, sCall_ap, sSkip_ap, sSeq_ap, sRet_ap, sRetN_ap, sDrop_ap, sIfS_ap, sBad_ap, gN_ap, gT_ap, sAsg_ap, sPar_ap, sSetIx_ap, sApp_ap, sIt_ap, sRng1_ap, sRng2_ap, sYes_ap, sZip_ap, sGet2_ap, runB_ap, runK_ap, sIsi_ap, gAll, begin_, endF, rd, rds, purs, pur, isi, dCmp, dInt, mulOk, sizeLine_eq, F_fits_entry, b_fits_entry, tl, ix0, ix1, t2, lc, al', fc, entryB, hc, hr]
          · have e : tupLen cols cols (.tup row) = false := by
              simp only [tupLen]
              by_cases h1 : cols ≤ row.length
              · have : ¬ ((row.length : Int) ≤ cols) := by omega
                simp [this]
              · simp [h1]
            rw [e] at t2
            simp [sVar_ap, sC_ap, sNil_ap, sCons_ap, sTup_ap, sLst_ap, sMut_ap, s2_ap, sChain_ap, sAnd_ap, sOr_ap, sNot_ap, sIf_ap, s1_ap, sNoPart_ap, sPart_ap, sSl_ap, sCB_ap, sCall_ap, sSkip_ap, sSeq_ap, sRet_ap, sRetN_ap, sDrop_ap, sIfS_ap, sBad_ap, gN_ap, gT_ap, sAsg_ap, sPar_ap, sSetIx_ap, sApp_ap, sIt_ap, sRng1_ap, sRng2_ap, sYes_ap, sZip_ap, sGet2_ap, runB_ap, runK_ap, sIsi_ap, gAll, begin_, endF, rd, rds, purs, pur, isi, dCmp, dInt, mulOk, sizeLine_eq, F_fits_entry, b_fits_entry, tl, ix0, t2, entryB, hc]
        | dct _ _ => cases m <;> cases ha
        | set _ => cases m <;> cases ha
        | scr _ => cases m <;> cases ha
        | _ =>
          simp only [tupLen] at t2
          simp [sVar_ap, sC_ap, sNil_ap, sCons_ap, sTup_ap, sLst_ap, sMut_ap, s2_ap, sChain_ap, sAnd_ap, sOr_ap, sNot_ap, sIf_ap, s1_ap, sNoPart_ap, sPart_ap, sSl_ap, sCB_ap, sCall_ap, sSkip_ap, sSeq_ap, sRet_ap, sRetN_ap, sDrop_ap, sIfS_ap, sBad_ap, gN_ap, gT_ap, sAsg_ap, sPar_ap, sSetIx_ap, sApp_ap, sIt_ap, sRng1_ap, sRng2_ap, sYes_ap, sZip_ap, sGet2_ap, runB_ap, runK_ap, sIsi_ap, gAll, begin_, endF, rd, rds, purs, pur, isi, dCmp, dInt, mulOk, sizeLine_eq, F_fits_entry, b_fits_entry, tl, ix0, t2, entryB]
    · rw [tupLen_n h2] at tl
      have eb : entryB us cols (.tup ds) = false := by
        rcases ds with _ | ⟨a, _ | ⟨b, _ | ⟨c, r⟩⟩⟩
        · rfl
        · cases a <;> rfl
        · exact absurd rfl h2
        · cases a <;> rfl
      simp [sVar_ap, sC_ap, sNil_ap, sCons_ap, sTup_ap, sLst_ap, sMut_ap, s2_ap, sChain_ap, sAnd_ap, sOr_ap, sNot_ap, sIf_ap, s1_ap, sNoPart_ap, sPart_ap, sSl_ap, sCB_ap, sCall_ap, sSkip_ap, sSeq_ap, sRet_ap, sRetN_ap, sDrop_ap, sIfS_ap, sBad_ap, gN_ap, gT_ap, sAsg_ap, sPar_ap, sSetIx_ap, sApp_ap, sIt_ap, sRng1_ap, sRng2_ap, sYes_ap, sZip_ap, sGet2_ap, runB_ap, runK_ap, sIsi_ap, gAll, begin_, endF, rd, rds, purs, pur, isi, dCmp, dInt, mulOk, sizeLine_eq, F_fits_entry, b_fits_entry, tl, eb]
  | dct _ _ => cases n <;> cases h
  | set _ => cases n <;> cases h
  | scr _ => cases n <;> cases h
  | _ =>
    simp only [tupLen] at tl
    simp [sVar_ap, sC_ap, sNil_ap, sCons_ap, sTup_ap, sLst_ap, sMut_ap, s2_ap, sChain_ap, sAnd_ap, sOr_ap, sNot_ap, sIf_ap, s1_ap, sNoPart_ap, sPart_ap, sSl_ap, sCB_ap, sCall_ap, sSkip_ap, sSeq_ap, sRet_ap, sRetN_ap, sDrop_ap, sIfS_ap, sBad_ap, gN_ap, gT_ap, sAsg_ap, sPar_ap, sSetIx_ap, sApp_ap, sIt_ap, sRng1_ap, sRng2_ap, sYes_ap, sZip_ap, sGet2_ap, runB_ap, runK_ap, sIsi_ap, gAll, begin_, endF, rd, rds, purs, pur, isi, dCmp, dInt, mulOk, sizeLine_eq, F_fits_entry, b_fits_entry, tl, entryB]
theorem whole_non {d : D} (h : ∀ i, d ≠ .int i) (lo hi : Int) : wholeB lo hi d = false := by
  cases d <;> first | rfl | exact absurd rfl (h _)
theorem fg_none {us : List Int} {a b : D} (h : ∀ i, a ≠ .int i) : fgB us (.tup [a, b]) = false := by
  cases a <;> first | rfl | exact absurd rfl (h _)
theorem fg_len {us : List Int} {ds : List D} (h2 : ds.length ≠ 2) : fgB us (.tup ds) = false := by
  rcases ds with _ | ⟨a, _ | ⟨b, _ | ⟨c, r⟩⟩⟩
  · rfl
  · cases a <;> rfl
  · exact absurd rfl h2
  · cases a <;> cases b <;> rfl
theorem F_guarded {us : List Int} {n : Nat} {d : D} (h : tame n d = true) (hn : n ≤ 60) (S : Sto) : F_fits_guarded [.p (uD us), .p d] S = some (.p (.bl (fgB us d)), S) := by
  have tl := F_tuple_of (lo := 2) (hi := 2) (tame_plain h)
  cases d with
  | tup ds =>
    obtain ⟨m, rfl, hl, hk⟩ := tame_kids h
    by_cases h2 : ds.length = 2
    · match ds, h2, hk with
      | [a, b], _, hk =>
        rw [tupLen_2] at tl
        have ha := hk a (by simp)
        have hb := hk b (by simp)
        have wh := F_whole (lo := 0) (hi := 6) (tame_plain ha)
        have t2 := F_tuple_of (lo := 0) (hi := 200) (tame_plain hb)
        by_cases hi : ∃ i, a = .int i
        · obtain ⟨i, rfl⟩ := hi
          cases hw : wholeB 0 6 (.int i) with
          | false =>
            rw [hw] at wh
            have hw' : (decide (0 ≤ i) && decide (i ≤ 6)) = false := hw
            have fb : fgB us (.tup [.int i, b]) = false := by
              cases b <;> first | rfl | (simp only [fgB]; rw [hw']; rfl)
            simp [sVar_ap, sC_ap, sNil_ap, sCons_ap, sTup_ap, sLst_ap, sMut_ap, s2_ap, sChain_ap, sAnd_ap, sOr_ap, sNot_ap, sIf_ap, s1_ap, sNoPart_ap, sPart_ap, sSl_ap, sCB_ap, sCall_ap, sSkip_ap, sSeq_ap, sRet_ap, sRetN_ap, sDrop_ap, sIfS_ap, sBad_ap, gN_ap, gT_ap, sAsg_ap, sPar_ap, sSetIx_ap, sApp_ap, sIt_ap, sRng1_ap, sRng2_ap, sYes_ap, sZip_ap, sGet2_ap, runB_ap, runK_ap, sIsi_ap, gAll, begin_, endF, rd, rds, purs, pur, isi, dCmp, dInt, mulOk, sizeLine_eq, F_fits_guarded, b_fits_guarded, tl, ix0, wh, fb]
          | true =>
            rw [hw] at wh
            have hw' : (decide (0 ≤ i) && decide (i ≤ 6)) = true := hw
            cases b with
            | tup es =>
              obtain ⟨m', rfl, hl', hk'⟩ := tame_kids hb
              have e : tupLen 0 200 (.tup es) = true := by simp [tupLen]; omega
              rw [e] at t2
              have lc : ∀ S : Sto, sLC (sIt (s2 dIx (sVar 1) (sC (.int 1)))) (gN 2) (sYes) (sCall 3 F_fits_entry (sCons (sVar 0) (sCons (s2 dIx (sVar 1) (sC (.int 0))) (sCons (sVar 2) (sNil))))) [2] [some (.p (uD us)), some (.p (.tup [.int i, .tup es])), none] S =
                  some (.p (.lst (es.map fun x => .bl (entryB us i x))), S) := fun S => by
                refine sLC_all (xs := es) (c := id) (f := fun x => .bl (entryB us i x)) (by simp [sVar_ap, sC_ap, sNil_ap, sCons_ap, sTup_ap, sLst_ap, sMut_ap, s2_ap, sChain_ap, sAnd_ap, sOr_ap, sNot_ap, sIf_ap, s1_ap, sNoPart_ap, sPart_ap, sSl_ap, sCB_ap, sCall_ap, sSkip_ap, sSeq_ap, sRet_ap, sRetN_ap, sDrop_ap, sIfS_ap, sBad_ap, gN_ap, gT_ap, sAsg_ap, sPar_ap, sSetIx_ap, sApp_ap, sIt_ap, sRng1_ap, sRng2_ap, sYes_ap, sZip_ap, sGet2_ap, runB_ap, runK_ap, sIsi_ap, gAll, begin_, endF, rd, rds, purs, pur, isi, dCmp, dInt, mulOk, sizeLine_eq, ix1]) (fun x hx => ⟨_, rfl, fun S => ?_⟩) (by omega)
                simp [sVar_ap, sC_ap, sNil_ap, sCons_ap, sTup_ap, sLst_ap, sMut_ap, s2_ap, sChain_ap, sAnd_ap, sOr_ap, sNot_ap, sIf_ap, s1_ap, sNoPart_ap, sPart_ap, sSl_ap, sCB_ap, sCall_ap, sSkip_ap, sSeq_ap, sRet_ap, sRetN_ap, sDrop_ap, sIfS_ap, sBad_ap, gN_ap, gT_ap, sAsg_ap, sPar_ap, sSetIx_ap, sApp_ap, sIt_ap, sRng1_ap, sRng2_ap, sYes_ap, sZip_ap, sGet2_ap, runB_ap, runK_ap, sIsi_ap, gAll, begin_, endF, rd, rds, purs, pur, isi, dCmp, dInt, mulOk, sizeLine_eq, wipeP, ix0, F_entry (us := us) (cols := i) (hk' x hx) (by omega)]
              have al : dAll [.lst (es.map fun x => .bl (entryB us i x))] = some (.bl (es.all (entryB us i))) := dAll_map (f := entryB us i) es
              have l200 : es.length ≤ 200 := by omega
              have fb : fgB us (.tup [.int i, .tup es]) = es.all (entryB us i) := by
                simp only [fgB]
                rw [hw', decide_eq_true l200]
                rfl
              simp [sVar_ap, sC_ap, sNil_ap, sCons_ap, sTup_ap, sLst_ap, sMut_ap, s2_ap, sChain_ap, sAnd_ap, sOr_ap, sNot_ap, sIf_ap, s1_ap, sNoPart_ap, sPart_ap, sSl_ap, sCB_ap, sCall_ap, sSkip_ap, sSeq_ap, sRet_ap, sRetN_ap, sDrop_ap, sIfS_ap, sBad_ap, gN_ap, gT_ap, sAsg_ap, sPar_ap, sSetIx_ap, sApp_ap, sIt_ap, sRng1_ap, sRng2_ap, sYes_ap, sZip_ap, sGet2_ap, runB_ap, runK_ap, sIsi_ap, gAll, begin_, endF, rd, rds, purs, pur, isi, dCmp, dInt, mulOk, sizeLine_eq, F_fits_guarded, b_fits_guarded, tl, ix0, ix1, wh, t2, lc, al, fb]
            | dct _ _ => cases m <;> cases hb
            | set _ => cases m <;> cases hb
            | scr _ => cases m <;> cases hb
            | _ =>
              simp only [tupLen] at t2
              simp [sVar_ap, sC_ap, sNil_ap, sCons_ap, sTup_ap, sLst_ap, sMut_ap, s2_ap, sChain_ap, sAnd_ap, sOr_ap, sNot_ap, sIf_ap, s1_ap, sNoPart_ap, sPart_ap, sSl_ap, sCB_ap, sCall_ap, sSkip_ap, sSeq_ap, sRet_ap, sRetN_ap, sDrop_ap, sIfS_ap, sBad_ap, gN_ap, gT_ap, sAsg_ap, sPar_ap, sSetIx_ap, sApp_ap, sIt_ap, sRng1_ap, sRng2_ap, sYes_ap, sZip_ap, sGet2_ap, runB_ap, runK_ap, sIsi_ap, gAll, begin_, endF, rd, rds, purs, pur, isi, dCmp, dInt, mulOk, sizeLine_eq, F_fits_guarded, b_fits_guarded, tl, ix0, ix1, wh, t2, fgB]
        · have hi' : ∀ i, a ≠ .int i := fun i e => hi ⟨i, e⟩
          rw [whole_non hi'] at wh
          simp [sVar_ap, sC_ap, sNil_ap, sCons_ap, sTup_ap, sLst_ap, sMut_ap, s2_ap, sChain_ap, sAnd_ap, sOr_ap, sNot_ap, sIf_ap, s1_ap, sNoPart_ap, sPart_ap, sSl_ap, sCB_ap, sCall_ap, sSkip_ap, sSeq_ap, sRet_ap, sRetN_ap, sDrop_ap, sIfS_ap, sBad_ap, gN_ap, gT_ap, sAsg_ap, sPar_ap, sSetIx_ap, sApp_ap, sIt_ap, sRng1_ap, sRng2_ap, sYes_ap, sZip_ap, sGet2_ap, runB_ap, runK_ap, sIsi_ap, gAll, begin_, endF, rd, rds, purs, pur, isi, dCmp, dInt, mulOk, sizeLine_eq, F_fits_guarded, b_fits_guarded, tl, ix0, wh, fg_none hi']
    · rw [tupLen_n h2] at tl
      simp [sVar_ap, sC_ap, sNil_ap, sCons_ap, sTup_ap, sLst_ap, sMut_ap, s2_ap, sChain_ap, sAnd_ap, sOr_ap, sNot_ap, sIf_ap, s1_ap, sNoPart_ap, sPart_ap, sSl_ap, sCB_ap, sCall_ap, sSkip_ap, sSeq_ap, sRet_ap, sRetN_ap, sDrop_ap, sIfS_ap, sBad_ap, gN_ap, gT_ap, sAsg_ap, sPar_ap, sSetIx_ap, sApp_ap, sIt_ap, sRng1_ap, sRng2_ap, sYes_ap, sZip_ap, sGet2_ap, runB_ap, runK_ap, sIsi_ap, gAll, begin_, endF, rd, rds, purs, pur, isi, dCmp, dInt, mulOk, sizeLine_eq, F_fits_guarded, b_fits_guarded, tl, fg_len h2]
  | dct _ _ => cases n <;> cases h
  | set _ => cases n <;> cases h
  | scr _ => cases n <;> cases h
  | _ =>
    simp only [tupLen] at tl
    simp [sVar_ap, sC_ap, sNil_ap, sCons_ap, sTup_ap, sLst_ap, sMut_ap, s2_ap, sChain_ap, sAnd_ap, sOr_ap, sNot_ap, sIf_ap, s1_ap, sNoPart_ap, sPart_ap, sSl_ap, sCB_ap, sCall_ap, sSkip_ap, sSeq_ap, sRet_ap, sRetN_ap, sDrop_ap, sIfS_ap, sBad_ap, gN_ap, gT_ap, sAsg_ap, sPar_ap, sSetIx_ap, sApp_ap, sIt_ap, sRng1_ap, sRng2_ap, sYes_ap, sZip_ap, sGet2_ap, runB_ap, runK_ap, sIsi_ap, gAll, begin_, endF, rd, rds, purs, pur, isi, dCmp, dInt, mulOk, sizeLine_eq, F_fits_guarded, b_fits_guarded, tl, fgB]
end K48

set_option Elab.async false
set_option linter.all false
set_option maxRecDepth 100000
set_option maxHeartbeats 1000000
namespace K48
open PySem PySem.Spec PyProof.Rows L2 EV
abbrev bL : Sx := (sSeq (sIfS (sOr (sNot (sIsi .tup (sVar 2))) (sOr (s2 dNe (sCB dLen (sCons (sVar 2) (sNil))) (sC (.int 2))) (sOr (sNot (sIsi .tup (s2 dIx (sVar 2) (sC (.int 0))))) (s2 dNe (sCB dLen (sCons (s2 dIx (sVar 2) (sC (.int 0))) (sNil))) (s2 dIx (sVar 1) (sC (.int 0))))))) (sRet (sC (.bl false))) (sSkip)) (sIfS (sOr (s2 dNe (sLC (sIt (s2 dIx (sVar 2) (sC (.int 0)))) (gN 3) (sNot (sCall 2 F__law_is_cell (sCons (sVar 0) (sCons (sVar 3) (sNil))))) (sVar 3) [3]) (sLst (sNil))) (s2 dGt (sCall 3 (F__law_weight 16) (sCons (sVar 0) (sCons (s2 dIx (sVar 2) (sC (.int 1))) (sCons (sC (.int 12)) (sNil))))) (sC (.int 1000)))) (sRet (sC (.bl false))) (sSkip)))
theorem law_fits_eq : b__law_fits = sSeq (sIfS (sOr (sNot (sIsi .tup (sVar 1))) (sOr (s2 dNe (sCB dLen (sCons (sVar 1) (sNil))) (sC (.int 2))) (sOr (sNot (sCall 3 F__law_number (sCons (s2 dIx (sVar 1) (sC (.int 0))) (sCons (sC (.int 0)) (sCons (sC (.int 6)) (sNil)))))) (sOr (sNot (sIsi .tup (s2 dIx (sVar 1) (sC (.int 1))))) (s2 dGt (sCB dLen (sCons (s2 dIx (sVar 1) (sC (.int 1))) (sNil))) (sC (.int 200))))))) (sRet (sC (.bl false))) (sSkip)) (sSeq (sFor (sIt (s2 dIx (sVar 1) (sC (.int 1)))) (gN 2) bL) (sRet (sC (.bl true)))) := rfl
theorem entry_len {us : List Int} {i : Int} {ds : List D} (h2 : ds.length ≠ 2) : entryB us i (.tup ds) = false := by
  rcases ds with _ | ⟨a, _ | ⟨b, _ | ⟨c, r⟩⟩⟩
  · rfl
  · cases a <;> rfl
  · exact absurd rfl h2
  · cases a <;> rfl
theorem body_ok {us : List Int} {i : Int} {es : List D} {n : Nat} {d : D} {c : Option Vl} (h : tame n d = true) (hn : n ≤ 60) (S : Sto) :
    bL [some (.p (uD us)), some (.p (.tup [.int i, .tup es])), some (.p d), c] S = match entryB us i d with
      | true => some (.nx [some (.p (uD us)), some (.p (.tup [.int i, .tup es])), some (.p d), c], S)
      | false => some (.rt (.p (.bl false)), S) := by
  cases d with
  | tup ds =>
    obtain ⟨m, rfl, hl, hk⟩ := tame_kids h
    by_cases h2 : ds.length = 2
    · match ds, h2, hk with
      | [a, b], _, hk =>
        have ha := hk a (by simp)
        have hb := hk b (by simp)
        cases a with
        | tup row =>
          obtain ⟨m', rfl, hl', hk'⟩ := tame_kids ha
          by_cases hc : (row.length : Int) = i
          · have lc : ∀ S : Sto, sLC (sIt (s2 dIx (sVar 2) (sC (.int 0)))) (gN 3) (sNot (sCall 2 F__law_is_cell (sCons (sVar 0) (sCons (sVar 3) (sNil))))) (sVar 3) [3] [some (.p (uD us)), some (.p (.tup [.int i, .tup es])), some (.p (.tup [.tup row, b])), c] S =
                some (.p (.lst (row.filter fun x => !cellB us x)), S) := fun S => by
              have := sLC_map (S1 := S) (S := S) (it := sIt (s2 dIx (sVar 2) (sC (.int 0)))) (g := gN 3) (t := sNot (sCall 2 F__law_is_cell (sCons (sVar 0) (sCons (sVar 3) (sNil))))) (e := sVar 3) (vs := [3]) (σ := [some (.p (uD us)), some (.p (.tup [.int i, .tup es])), some (.p (.tup [.tup row, b])), c])
                (xs := row) (c := id) (p := fun x => !cellB us x) (f := id) (by simp [sVar_ap, sC_ap, sNil_ap, sCons_ap, sTup_ap, sLst_ap, sMut_ap, s2_ap, sChain_ap, sAnd_ap, sOr_ap, sNot_ap, sIf_ap, s1_ap, sNoPart_ap, sPart_ap, sSl_ap, sCB_ap, sCall_ap, sSkip_ap, sSeq_ap, sRet_ap, sRetN_ap, sDrop_ap, sIfS_ap, sBad_ap, gN_ap, gT_ap, sAsg_ap, sPar_ap, sSetIx_ap, sApp_ap, sIt_ap, sRng1_ap, sRng2_ap, sYes_ap, sZip_ap, sGet2_ap, runB_ap, runK_ap, sIsi_ap, gAll, begin_, endF, rd, rds, purs, pur, isi, dCmp, dInt, mulOk, sizeLine_eq, ix0]) (fun x hx => ⟨_, rfl, fun S => ?_, fun _ S => ?_⟩) (by omega)
              · rw [this, List.map_id]
              · simp [sVar_ap, sC_ap, sNil_ap, sCons_ap, sTup_ap, sLst_ap, sMut_ap, s2_ap, sChain_ap, sAnd_ap, sOr_ap, sNot_ap, sIf_ap, s1_ap, sNoPart_ap, sPart_ap, sSl_ap, sCB_ap, sCall_ap, sSkip_ap, sSeq_ap, sRet_ap, sRetN_ap, sDrop_ap, sIfS_ap, sBad_ap, gN_ap, gT_ap, sAsg_ap, sPar_ap, sSetIx_ap, sApp_ap, sIt_ap, sRng1_ap, sRng2_ap, sYes_ap, sZip_ap, sGet2_ap, runB_ap, runK_ap, sIsi_ap, gAll, begin_, endF, rd, rds, purs, pur, isi, dCmp, dInt, mulOk, sizeLine_eq, wipeP, F_law_cell (us := us) (tame_plain (hk' x hx))]
              · simp [sVar_ap, sC_ap, sNil_ap, sCons_ap, sTup_ap, sLst_ap, sMut_ap, s2_ap, sChain_ap, sAnd_ap, sOr_ap, sNot_ap, sIf_ap, s1_ap, sNoPart_ap, sPart_ap, sSl_ap, sCB_ap, sCall_ap, sSkip_ap, sSeq_ap, sRet_ap, sRetN_ap, sDrop_ap, sIfS_ap, sBad_ap, gN_ap, gT_ap, sAsg_ap, sPar_ap, sSetIx_ap, sApp_ap, sIt_ap, sRng1_ap, sRng2_ap, sYes_ap, sZip_ap, sGet2_ap, runB_ap, runK_ap, sIsi_ap, gAll, begin_, endF, rd, rds, purs, pur, isi, dCmp, dInt, mulOk, sizeLine_eq, wipeP]
            have nn := ne_nil (l := row.filter fun x => !cellB us x) (show okDs 63 _ = true from okDs_all fun x hx => okD_mono (n := m') (by omega) (tame_ok (hk' x (List.mem_filter.mp hx).1)))
            have fe : (row.filter fun x => !cellB us x).isEmpty = row.all (cellB us) := by
              rw [Bool.eq_iff_iff, List.isEmpty_iff, List.filter_eq_nil_iff, List.all_eq_true]
              simp
            rw [fe] at nn
            have fw := F_weight (us := us) 16 13 (m' + 1) b (by omega) (by omega) hb
            have c12 : ((13 : Nat) : Int) - 1 = 12 := rfl
            rw [c12] at fw
            have nb : (!((row.length : Int) == i)) = false := by rw [hc]; simp
            cases hr : row.all (cellB us) with
            | false =>
              rw [hr] at nn
              simp [sVar_ap, sC_ap, sNil_ap, sCons_ap, sTup_ap, sLst_ap, sMut_ap, s2_ap, sChain_ap, sAnd_ap, sOr_ap, sNot_ap, sIf_ap, s1_ap, sNoPart_ap, sPart_ap, sSl_ap, sCB_ap, sCall_ap, sSkip_ap, sSeq_ap, sRet_ap, sRetN_ap, sDrop_ap, sIfS_ap, sBad_ap, gN_ap, gT_ap, sAsg_ap, sPar_ap, sSetIx_ap, sApp_ap, sIt_ap, sRng1_ap, sRng2_ap, sYes_ap, sZip_ap, sGet2_ap, runB_ap, runK_ap, sIsi_ap, gAll, begin_, endF, rd, rds, purs, pur, isi, dCmp, dInt, mulOk, sizeLine_eq, ix0, ix1, dLen, ne_int, nb, lc, nn, entryB, hc, hr]
            | true =>
              rw [hr] at nn
              by_cases hw : Wt us 13 b ≤ 1000
              · have hw' : ¬ ((1000 : Int) < (Wt us 13 b : Int)) := by omega
                simp [sVar_ap, sC_ap, sNil_ap, sCons_ap, sTup_ap, sLst_ap, sMut_ap, s2_ap, sChain_ap, sAnd_ap, sOr_ap, sNot_ap, sIf_ap, s1_ap, sNoPart_ap, sPart_ap, sSl_ap, sCB_ap, sCall_ap, sSkip_ap, sSeq_ap, sRet_ap, sRetN_ap, sDrop_ap, sIfS_ap, sBad_ap, gN_ap, gT_ap, sAsg_ap, sPar_ap, sSetIx_ap, sApp_ap, sIt_ap, sRng1_ap, sRng2_ap, sYes_ap, sZip_ap, sGet2_ap, runB_ap, runK_ap, sIsi_ap, gAll, begin_, endF, rd, rds, purs, pur, isi, dCmp, dInt, mulOk, sizeLine_eq, ix0, ix1, dLen, ne_int, nb, lc, nn, entryB, hc, hr, fw, hw, hw']
              · have hw' : (1000 : Int) < (Wt us 13 b : Int) := by omega
                simp [sVar_ap, sC_ap, sNil_ap, sCons_ap, sTup_ap, sLst_ap, sMut_ap, s2_ap, sChain_ap, sAnd_ap, sOr_ap, sNot_ap, sIf_ap, s1_ap, sNoPart_ap, sPart_ap, sSl_ap, sCB_ap, sCall_ap, sSkip_ap, sSeq_ap, sRet_ap, sRetN_ap, sDrop_ap, sIfS_ap, sBad_ap, gN_ap, gT_ap, sAsg_ap, sPar_ap, sSetIx_ap, sApp_ap, sIt_ap, sRng1_ap, sRng2_ap, sYes_ap, sZip_ap, sGet2_ap, runB_ap, runK_ap, sIsi_ap, gAll, begin_, endF, rd, rds, purs, pur, isi, dCmp, dInt, mulOk, sizeLine_eq, ix0, ix1, dLen, ne_int, nb, lc, nn, entryB, hc, hr, fw, hw, hw']
          · have nb : (!((row.length : Int) == i)) = true := by simpa using hc
            simp [sVar_ap, sC_ap, sNil_ap, sCons_ap, sTup_ap, sLst_ap, sMut_ap, s2_ap, sChain_ap, sAnd_ap, sOr_ap, sNot_ap, sIf_ap, s1_ap, sNoPart_ap, sPart_ap, sSl_ap, sCB_ap, sCall_ap, sSkip_ap, sSeq_ap, sRet_ap, sRetN_ap, sDrop_ap, sIfS_ap, sBad_ap, gN_ap, gT_ap, sAsg_ap, sPar_ap, sSetIx_ap, sApp_ap, sIt_ap, sRng1_ap, sRng2_ap, sYes_ap, sZip_ap, sGet2_ap, runB_ap, runK_ap, sIsi_ap, gAll, begin_, endF, rd, rds, purs, pur, isi, dCmp, dInt, mulOk, sizeLine_eq, ix0, ix1, dLen, ne_int, nb, entryB, hc]
        | dct _ _ => cases m <;> cases ha
        | set _ => cases m <;> cases ha
        | scr _ => cases m <;> cases ha
        | _ => simp [sVar_ap, sC_ap, sNil_ap, sCons_ap, sTup_ap, sLst_ap, sMut_ap, s2_ap, sChain_ap, sAnd_ap, sOr_ap, sNot_ap, sIf_ap, s1_ap, sNoPart_ap, sPart_ap, sSl_ap, sCB_ap, sCall_ap, sSkip_ap, sSeq_ap, sRet_ap, sRetN_ap, sDrop_ap, sIfS_ap, sBad_ap, gN_ap, gT_ap, sAsg_ap, sPar_ap, sSetIx_ap, sApp_ap, sIt_ap, sRng1_ap, sRng2_ap, sYes_ap, sZip_ap, sGet2_ap, runB_ap, runK_ap, sIsi_ap, gAll, begin_, endF, rd, rds, purs, pur, isi, dCmp, dInt, mulOk, sizeLine_eq, ix0, dLen, ne_int, entryB]
    · have nb : (!((ds.length : Int) == 2)) = true := by simp; omega
      simp [sVar_ap, sC_ap, sNil_ap, sCons_ap, sTup_ap, sLst_ap, sMut_ap, s2_ap, sChain_ap, sAnd_ap, sOr_ap, sNot_ap, sIf_ap, s1_ap, sNoPart_ap, sPart_ap, sSl_ap, sCB_ap, sCall_ap, sSkip_ap, sSeq_ap, sRet_ap, sRetN_ap, sDrop_ap, sIfS_ap, sBad_ap, gN_ap, gT_ap, sAsg_ap, sPar_ap, sSetIx_ap, sApp_ap, sIt_ap, sRng1_ap, sRng2_ap, sYes_ap, sZip_ap, sGet2_ap, runB_ap, runK_ap, sIsi_ap, gAll, begin_, endF, rd, rds, purs, pur, isi, dCmp, dInt, mulOk, sizeLine_eq, dLen, ne_int, nb, entry_len h2]
  | dct _ _ => cases n <;> cases h
  | set _ => cases n <;> cases h
  | scr _ => cases n <;> cases h
  | _ => simp [sVar_ap, sC_ap, sNil_ap, sCons_ap, sTup_ap, sLst_ap, sMut_ap, s2_ap, sChain_ap, sAnd_ap, sOr_ap, sNot_ap, sIf_ap, s1_ap, sNoPart_ap, sPart_ap, sSl_ap, sCB_ap, sCall_ap, sSkip_ap, sSeq_ap, sRet_ap, sRetN_ap, sDrop_ap, sIfS_ap, sBad_ap, gN_ap, gT_ap, sAsg_ap, sPar_ap, sSetIx_ap, sApp_ap, sIt_ap, sRng1_ap, sRng2_ap, sYes_ap, sZip_ap, sGet2_ap, runB_ap, runK_ap, sIsi_ap, gAll, begin_, endF, rd, rds, purs, pur, isi, dCmp, dInt, mulOk, sizeLine_eq, entryB]
theorem for_ok {us : List Int} {i : Int} {es : List D} {n : Nat} (hn : n ≤ 60) (S : Sto) : ∀ (ds : List D) (x : Option Vl), (∀ d ∈ ds, tame n d = true) →
    (ds.all (entryB us i) = true → ∃ σ', loopF (gN 2) bL ds [some (.p (uD us)), some (.p (.tup [.int i, .tup es])), x, none] S = some (.nx σ', S)) ∧
    (ds.all (entryB us i) = false → loopF (gN 2) bL ds [some (.p (uD us)), some (.p (.tup [.int i, .tup es])), x, none] S = some (.rt (.p (.bl false)), S))
  | [], x, _ => ⟨fun _ => ⟨_, rfl⟩, fun h => by cases h⟩
  | d :: ds, x, h => by
    have hb := body_ok (us := us) (i := i) (es := es) (c := none) (h d (by simp)) hn S
    have ih := for_ok (us := us) (i := i) (es := es) hn S ds (some (.p d)) fun y hy => h y (by simp [hy])
    have st : gN 2 (.p d) [some (.p (uD us)), some (.p (.tup [.int i, .tup es])), x, none] = some [some (.p (uD us)), some (.p (.tup [.int i, .tup es])), some (.p d), none] := rfl
    rw [loopF_cons st, hb]
    cases he : entryB us i d with
    | true => simpa [he] using ih
    | false => simp [he]
theorem F_fits {us : List Int} {n : Nat} {d : D} (h : tame n d = true) (hn : n ≤ 60) (S : Sto) : F__law_fits [.p (uD us), .p d] S = some (.p (.bl (fgB us d)), S) := by
  unfold F__law_fits
  rw [law_fits_eq]
  cases d with
  | tup ds =>
    obtain ⟨m, rfl, hl, hk⟩ := tame_kids h
    by_cases h2 : ds.length = 2
    · match ds, h2, hk with
      | [a, b], _, hk =>
        have ha := hk a (by simp)
        have hb := hk b (by simp)
        have wh := F_whole (lo := 0) (hi := 6) (tame_plain ha)
        rw [number_eq]
        by_cases hi : ∃ i, a = .int i
        · obtain ⟨i, rfl⟩ := hi
          cases hw : wholeB 0 6 (.int i) with
          | false =>
            rw [hw] at wh
            have hw' : (decide (0 ≤ i) && decide (i ≤ 6)) = false := hw
            have fb : fgB us (.tup [.int i, b]) = false := by
              cases b <;> first | rfl | (simp only [fgB]; rw [hw']; rfl)
            generalize bL = bl
            simp [sVar_ap, sC_ap, sNil_ap, sCons_ap, sTup_ap, sLst_ap, sMut_ap, s2_ap, sChain_ap, sAnd_ap, sOr_ap, sNot_ap, sIf_ap, s1_ap, sNoPart_ap, sPart_ap, sSl_ap, sCB_ap, sCall_ap, sSkip_ap, sSeq_ap, sRet_ap, sRetN_ap, sDrop_ap, sIfS_ap, sBad_ap, gN_ap, gT_ap, sAsg_ap, sPar_ap, sSetIx_ap, sApp_ap, sIt_ap, sRng1_ap, sRng2_ap, sYes_ap, sZip_ap, sGet2_ap, runB_ap, runK_ap, sIsi_ap, gAll, begin_, endF, rd, rds, purs, pur, isi, dCmp, dInt, mulOk, sizeLine_eq, dLen, ne_int, ix0, wh, fb]
          | true =>
            rw [hw] at wh
            have hw' : (decide (0 ≤ i) && decide (i ≤ 6)) = true := hw
            cases b with
            | tup es =>
              obtain ⟨m', rfl, hl', hk'⟩ := tame_kids hb
              have l200 : es.length ≤ 200 := by omega
              have nl : ¬ ((200 : Int) < (es.length : Int)) := by omega
              have fb : fgB us (.tup [.int i, .tup es]) = es.all (entryB us i) := by
                simp only [fgB]
                rw [hw', decide_eq_true l200]
                rfl
              have fo := for_ok (us := us) (i := i) (es := es) (n := m') (by omega) S es none hk'
              have it : ∀ S, sIt (s2 dIx (sVar 1) (sC (.int 1))) [some (.p (uD us)), some (.p (.tup [.int i, .tup es])), none, none] S = some (es, S) := fun S => by simp [sVar_ap, sC_ap, sNil_ap, sCons_ap, sTup_ap, sLst_ap, sMut_ap, s2_ap, sChain_ap, sAnd_ap, sOr_ap, sNot_ap, sIf_ap, s1_ap, sNoPart_ap, sPart_ap, sSl_ap, sCB_ap, sCall_ap, sSkip_ap, sSeq_ap, sRet_ap, sRetN_ap, sDrop_ap, sIfS_ap, sBad_ap, gN_ap, gT_ap, sAsg_ap, sPar_ap, sSetIx_ap, sApp_ap, sIt_ap, sRng1_ap, sRng2_ap, sYes_ap, sZip_ap, sGet2_ap, runB_ap, runK_ap, sIsi_ap, gAll, begin_, endF, rd, rds, purs, pur, isi, dCmp, dInt, mulOk, sizeLine_eq, ix1]
              have sf : ∀ bl S, sFor (sIt (s2 dIx (sVar 1) (sC (.int 1)))) (gN 2) bl [some (.p (uD us)), some (.p (.tup [.int i, .tup es])), none, none] S = loopF (gN 2) bl es [some (.p (uD us)), some (.p (.tup [.int i, .tup es])), none, none] S := fun bl S => sFor_it (it S)
              cases hall : es.all (entryB us i) with
              | true =>
                obtain ⟨σ', e⟩ := fo.1 hall
                generalize bL = bl at e
                simp [sVar_ap, sC_ap, sNil_ap, sCons_ap, sTup_ap, sLst_ap, sMut_ap, s2_ap, sChain_ap, sAnd_ap, sOr_ap, sNot_ap, sIf_ap, s1_ap, sNoPart_ap, sPart_ap, sSl_ap, sCB_ap, sCall_ap, sSkip_ap, sSeq_ap, sRet_ap, sRetN_ap, sDrop_ap, sIfS_ap, sBad_ap, gN_ap, gT_ap, sAsg_ap, sPar_ap, sSetIx_ap, sApp_ap, sIt_ap, sRng1_ap, sRng2_ap, sYes_ap, sZip_ap, sGet2_ap, runB_ap, runK_ap, sIsi_ap, gAll, begin_, endF, rd, rds, purs, pur, isi, dCmp, dInt, mulOk, sizeLine_eq, dLen, ne_int, ix0, ix1, wh, nl, fb, hall, sf, e]
              | false =>
                have e := fo.2 hall
                generalize bL = bl at e
                simp [sVar_ap, sC_ap, sNil_ap, sCons_ap, sTup_ap, sLst_ap, sMut_ap, s2_ap, sChain_ap, sAnd_ap, sOr_ap, sNot_ap, sIf_ap, s1_ap, sNoPart_ap, sPart_ap, sSl_ap, sCB_ap, sCall_ap, sSkip_ap, sSeq_ap, sRet_ap, sRetN_ap, sDrop_ap, sIfS_ap, sBad_ap, gN_ap, gT_ap, sAsg_ap, sPar_ap, sSetIx_ap, sApp_ap, sIt_ap, sRng1_ap, sRng2_ap, sYes_ap, sZip_ap, sGet2_ap, runB_ap, runK_ap, sIsi_ap, gAll, begin_, endF, rd, rds, purs, pur, isi, dCmp, dInt, mulOk, sizeLine_eq, dLen, ne_int, ix0, ix1, wh, nl, fb, hall, sf, e]
            | dct _ _ => cases m <;> cases hb
            | set _ => cases m <;> cases hb
            | scr _ => cases m <;> cases hb
            | _ =>
              generalize bL = bl
              simp [sVar_ap, sC_ap, sNil_ap, sCons_ap, sTup_ap, sLst_ap, sMut_ap, s2_ap, sChain_ap, sAnd_ap, sOr_ap, sNot_ap, sIf_ap, s1_ap, sNoPart_ap, sPart_ap, sSl_ap, sCB_ap, sCall_ap, sSkip_ap, sSeq_ap, sRet_ap, sRetN_ap, sDrop_ap, sIfS_ap, sBad_ap, gN_ap, gT_ap, sAsg_ap, sPar_ap, sSetIx_ap, sApp_ap, sIt_ap, sRng1_ap, sRng2_ap, sYes_ap, sZip_ap, sGet2_ap, runB_ap, runK_ap, sIsi_ap, gAll, begin_, endF, rd, rds, purs, pur, isi, dCmp, dInt, mulOk, sizeLine_eq, dLen, ne_int, ix0, ix1, wh, fgB]
        · have hi' : ∀ i, a ≠ .int i := fun i e => hi ⟨i, e⟩
          rw [whole_non hi'] at wh
          generalize bL = bl
          simp [sVar_ap, sC_ap, sNil_ap, sCons_ap, sTup_ap, sLst_ap, sMut_ap, s2_ap, sChain_ap, sAnd_ap, sOr_ap, sNot_ap, sIf_ap, s1_ap, sNoPart_ap, sPart_ap, sSl_ap, sCB_ap, sCall_ap, sSkip_ap, sSeq_ap, sRet_ap, sRetN_ap, sDrop_ap, sIfS_ap, sBad_ap, gN_ap, gT_ap, sAsg_ap, sPar_ap, sSetIx_ap, sApp_ap, sIt_ap, sRng1_ap, sRng2_ap, sYes_ap, sZip_ap, sGet2_ap, runB_ap, runK_ap, sIsi_ap, gAll, begin_, endF, rd, rds, purs, pur, isi, dCmp, dInt, mulOk, sizeLine_eq, dLen, ne_int, ix0, wh, fg_none hi']
    · have nb : (!((ds.length : Int) == 2)) = true := by simp; omega
      generalize bL = bl
      simp [sVar_ap, sC_ap, sNil_ap, sCons_ap, sTup_ap, sLst_ap, sMut_ap, s2_ap, sChain_ap, sAnd_ap, sOr_ap, sNot_ap, sIf_ap, s1_ap, sNoPart_ap, sPart_ap, sSl_ap, sCB_ap, sCall_ap, sSkip_ap, sSeq_ap, sRet_ap, sRetN_ap, sDrop_ap, sIfS_ap, sBad_ap, gN_ap, gT_ap, sAsg_ap, sPar_ap, sSetIx_ap, sApp_ap, sIt_ap, sRng1_ap, sRng2_ap, sYes_ap, sZip_ap, sGet2_ap, runB_ap, runK_ap, sIsi_ap, gAll, begin_, endF, rd, rds, purs, pur, isi, dCmp, dInt, mulOk, sizeLine_eq, dLen, ne_int, nb, fg_len h2]
  | dct _ _ => cases n <;> cases h
  | set _ => cases n <;> cases h
  | scr _ => cases n <;> cases h
  | _ =>
    generalize bL = bl
    simp [sVar_ap, sC_ap, sNil_ap, sCons_ap, sTup_ap, sLst_ap, sMut_ap, s2_ap, sChain_ap, sAnd_ap, sOr_ap, sNot_ap, sIf_ap, s1_ap, sNoPart_ap, sPart_ap, sSl_ap, sCB_ap, sCall_ap, sSkip_ap, sSeq_ap, sRet_ap, sRetN_ap, sDrop_ap, sIfS_ap, sBad_ap, gN_ap, gT_ap, sAsg_ap, sPar_ap, sSetIx_ap, sApp_ap, sIt_ap, sRng1_ap, sRng2_ap, sYes_ap, sZip_ap, sGet2_ap, runB_ap, runK_ap, sIsi_ap, gAll, begin_, endF, rd, rds, purs, pur, isi, dCmp, dInt, mulOk, sizeLine_eq, fgB]
end K48

set_option Elab.async false
set_option linter.all false
set_option maxRecDepth 100000
set_option maxHeartbeats 1000000
namespace K48
open PySem PySem.Spec PyProof.Rows L2 EV
theorem fmod_b {i n : Int} (h : 0 < n) : 0 ≤ i.fmod n ∧ i.fmod n < n := ⟨Int.fmod_nonneg_of_pos _ h, Int.fmod_lt_of_pos _ h⟩
theorem roll {n : Int} (h : 0 < n) (h2 : n < 1000000) : Drw (F__law_roll [.m 0, .p (.int n)]) (fun d => ∃ r : Int, d = .int r ∧ 0 ≤ r ∧ r < n) := by
  intro c R hc
  obtain ⟨a, b, rfl, ha, hb, hb2⟩ := hc
  have n0 : n ≠ 0 := by omega
  have na : n.natAbs < 1073741824 := by omega
  by_cases hp : 0 < a
  · obtain ⟨r1, r2⟩ := fmod_b (i := a) h
    refine ⟨.int (a.fmod n), [.int (a.fdiv n), .int b], ⟨_, rfl, r1, r2⟩, ⟨_, _, rfl, Int.fdiv_nonneg ha (by omega), hb, hb2⟩, ?_⟩
    simp [sVar_ap, sC_ap, sNil_ap, sCons_ap, sTup_ap, sLst_ap, sMut_ap, s2_ap, sChain_ap, sAnd_ap, sOr_ap, sNot_ap, sIf_ap, s1_ap, sNoPart_ap, sPart_ap, sSl_ap, sCB_ap, sCall_ap, sSkip_ap, sSeq_ap, sRet_ap, sRetN_ap, sDrop_ap, sIfS_ap, sBad_ap, gN_ap, gT_ap, sAsg_ap, sPar_ap, sSetIx_ap, sApp_ap, sIt_ap, sRng1_ap, sRng2_ap, sYes_ap, sZip_ap, sGet2_ap, runB_ap, runK_ap, sIsi_ap, gAll, begin_, endF, rd, rds, purs, pur, isi, dCmp, dInt, mulOk, sizeLine_eq, F__law_roll, b__law_roll, dIx, atI, ixN, dIntT, hp, n0, na]
  · obtain ⟨q1, q2⟩ := fmod_b (i := b * 30983 + 7933) (n := 2147483563) (by decide)
    generalize hx : (b * 30983 + 7933).fmod 2147483563 = x at q1 q2
    generalize hy : (x * (x + 197)).fmod 2147483587 = y
    obtain ⟨r1, r2⟩ := fmod_b (i := y.fdiv 773) h
    refine ⟨.int ((y.fdiv 773).fmod n), [.int a, .int x], ⟨_, rfl, r1, r2⟩, ⟨_, _, rfl, ha, q1, by omega⟩, ?_⟩
    have m1 : -18446744073709551616 < x := by omega
    have m2 : x < 18446744073709551616 := by omega
    simp [sVar_ap, sC_ap, sNil_ap, sCons_ap, sTup_ap, sLst_ap, sMut_ap, s2_ap, sChain_ap, sAnd_ap, sOr_ap, sNot_ap, sIf_ap, s1_ap, sNoPart_ap, sPart_ap, sSl_ap, sCB_ap, sCall_ap, sSkip_ap, sSeq_ap, sRet_ap, sRetN_ap, sDrop_ap, sIfS_ap, sBad_ap, gN_ap, gT_ap, sAsg_ap, sPar_ap, sSetIx_ap, sApp_ap, sIt_ap, sRng1_ap, sRng2_ap, sYes_ap, sZip_ap, sGet2_ap, runB_ap, runK_ap, sIsi_ap, gAll, begin_, endF, rd, rds, purs, pur, isi, dCmp, dInt, mulOk, sizeLine_eq, F__law_roll, b__law_roll, dIx, atI, ixN, dIntT, hp, n0, na, dAdd, dMul, hx, hy, m1, m2]
theorem some_ {ds : List D} (h : ds ≠ []) (h2 : ds.length < 1000000) : Drw (F__law_some [.m 0, .p (.lst ds)]) (fun d => d ∈ ds) := by
  intro c R hc
  have hl : 0 < ds.length := List.length_pos_iff.mpr h
  obtain ⟨d, c', ⟨r, rfl, r1, r2⟩, hc', e⟩ := roll (n := (ds.length : Int)) (by omega) (by omega) c R hc
  have hr : r.toNat < ds.length := by omega
  refine ⟨ds[r.toNat], c', List.getElem_mem hr, hc', ?_⟩
  have ix : dIx (.lst ds) (.int r) = some ds[r.toNat] := by
    show atI _ _ = _
    simp [atI, ixN, r1, r2, hr]
  simp [sVar_ap, sC_ap, sNil_ap, sCons_ap, sTup_ap, sLst_ap, sMut_ap, s2_ap, sChain_ap, sAnd_ap, sOr_ap, sNot_ap, sIf_ap, s1_ap, sNoPart_ap, sPart_ap, sSl_ap, sCB_ap, sCall_ap, sSkip_ap, sSeq_ap, sRet_ap, sRetN_ap, sDrop_ap, sIfS_ap, sBad_ap, gN_ap, gT_ap, sAsg_ap, sPar_ap, sSetIx_ap, sApp_ap, sIt_ap, sRng1_ap, sRng2_ap, sYes_ap, sZip_ap, sGet2_ap, runB_ap, runK_ap, sIsi_ap, gAll, begin_, endF, rd, rds, purs, pur, isi, dCmp, dInt, mulOk, sizeLine_eq, F__law_some, b__law_some, dLen, e, ix]
def CellI (us : List Int) (a : Int) : Prop := a ∈ us ∨ a = 1 ∨ a = 2 ∨ a = 3
theorem any_cell {us : List Int} (hu : us.length ≤ 10) : Drw (F__law_any_cell [.m 0, .p (uD us)]) (fun d => ∃ a, d = .int a ∧ CellI us a) := by
  intro c R hc
  obtain ⟨d, c', hd, hc', e⟩ := some_ (ds := [.int 1, .int 2, .int 3] ++ (us.map D.int ++ us.map D.int)) (by simp) (by simp; omega) c R hc
  refine ⟨d, c', ?_, hc', ?_⟩
  · simp only [List.mem_append, List.mem_cons, List.mem_map, List.not_mem_nil, or_false] at hd
    rcases hd with (h | h | h) | (⟨a, ha, h⟩ | ⟨a, ha, h⟩)
    · exact ⟨1, h, .inr (.inl rfl)⟩
    · exact ⟨2, h, .inr (.inr (.inl rfl))⟩
    · exact ⟨3, h, .inr (.inr (.inr rfl))⟩
    · exact ⟨a, h.symm, .inl ha⟩
    · exact ⟨a, h.symm, .inl ha⟩
  · have ml : dMul (.lst (us.map D.int)) (.int 2) = some (.lst (us.map D.int ++ us.map D.int)) := by
      have : us.length * 2 ≤ 16777216 := by omega
      simp [dMul, sizeLine_eq, this, List.replicate]
    have ad : dAdd (.lst [.int 1, .int 2, .int 3]) (.lst (us.map D.int ++ us.map D.int)) = some (.lst ([.int 1, .int 2, .int 3] ++ (us.map D.int ++ us.map D.int))) := by
      simp only [dAdd, sizeLine_eq]
      rw [decide_eq_true (by simp; omega)]
    simp only [List.cons_append, List.nil_append] at e ad
    simp [sVar_ap, sC_ap, sNil_ap, sCons_ap, sTup_ap, sLst_ap, sMut_ap, s2_ap, sChain_ap, sAnd_ap, sOr_ap, sNot_ap, sIf_ap, s1_ap, sNoPart_ap, sPart_ap, sSl_ap, sCB_ap, sCall_ap, sSkip_ap, sSeq_ap, sRet_ap, sRetN_ap, sDrop_ap, sIfS_ap, sBad_ap, gN_ap, gT_ap, sAsg_ap, sPar_ap, sSetIx_ap, sApp_ap, sIt_ap, sRng1_ap, sRng2_ap, sYes_ap, sZip_ap, sGet2_ap, runB_ap, runK_ap, sIsi_ap, gAll, begin_, endF, rd, rds, purs, pur, isi, dCmp, dInt, mulOk, sizeLine_eq, F__law_any_cell, b__law_any_cell, dList, ml, ad, e]
def CnD (us : List Int) : Nat → D → Prop
  | 0, d => ∃ a b, CellI us a ∧ CellI us b ∧ d = .tup [.str "same", .int a, .int b]
  | n + 1, d => (∃ a b, CellI us a ∧ CellI us b ∧ d = .tup [.str "same", .int a, .int b]) ∨ (∃ c, CnD us n c ∧ d = .tup [.str "not", c]) ∨
      ∃ w cs, (w = ("all" : Str) ∨ w = "some") ∧ cs.length ≤ 3 ∧ (∀ c ∈ cs, CnD us n c) ∧ d = .tup [.str w, .tup cs]
theorem CnD.same {us : List Int} {a b : Int} (ha : CellI us a) (hb : CellI us b) : ∀ n, CnD us n (.tup [.str "same", .int a, .int b])
  | 0 => ⟨a, b, ha, hb, rfl⟩
  | _ + 1 => .inl ⟨a, b, ha, hb, rfl⟩
theorem upto_mem {n : Nat} : ∀ {lo : Int} {d : D}, d ∈ upto lo n → ∃ i, d = .int i := by
  induction n with
  | zero => intro lo d h; cases h
  | succ n ih =>
    intro lo d h
    unfold upto at h
    rcases List.mem_cons.mp h with q | q
    · exact ⟨_, q⟩
    · exact ih q
theorem condition {us : List Int} (hu : us.length ≤ 10) : ∀ (m n : Nat), n < m → Drw (F__law_condition m [.m 0, .p (uD us), .p (.int (n : Int))]) (CnD us n) := by
  intro m
  induction m with
  | zero => intro n h; omega
  | succ m ih =>
    intro n hn c R hc
    have run : ∀ xs S, F__law_condition (m + 1) xs S = runB 5 (b__law_condition (F__law_condition m)) xs S := fun _ _ => rfl
    obtain ⟨d, c1, ⟨r, rfl, r1, r2⟩, hc1, e1⟩ := roll (n := 6) (by decide) (by decide) c R hc
    by_cases h0 : n = 0 ∨ r < 2
    · obtain ⟨d2, c2, ⟨x, rfl, hx⟩, hc2, e2⟩ := any_cell hu c1 R hc1
      obtain ⟨d3, c3, ⟨y, rfl, hy⟩, hc3, e3⟩ := any_cell hu c2 R hc2
      refine ⟨_, c3, CnD.same hx hy n, hc3, ?_⟩
      rw [run]
      by_cases hn0 : n = 0
      · subst hn0
        simp [sVar_ap, sC_ap, sNil_ap, sCons_ap, sTup_ap, sLst_ap, sMut_ap, s2_ap, sChain_ap, sAnd_ap, sOr_ap, sNot_ap, sIf_ap, s1_ap, sNoPart_ap, sPart_ap, sSl_ap, sCB_ap, sCall_ap, sSkip_ap, sSeq_ap, sRet_ap, sRetN_ap, sDrop_ap, sIfS_ap, sBad_ap, gN_ap, gT_ap, sAsg_ap, sPar_ap, sSetIx_ap, sApp_ap, sIt_ap, sRng1_ap, sRng2_ap, sYes_ap, sZip_ap, sGet2_ap, runB_ap, runK_ap, sIsi_ap, gAll, begin_, endF, rd, rds, purs, pur, isi, dCmp, dInt, mulOk, sizeLine_eq, b__law_condition, e1, e2, e3, eq_int]
      · have hr : r < 2 := h0.resolve_left hn0
        have hn1 : ((n : Int) == 0) = false := beq_eq_false_iff_ne.mpr (by omega)
        simp [sVar_ap, sC_ap, sNil_ap, sCons_ap, sTup_ap, sLst_ap, sMut_ap, s2_ap, sChain_ap, sAnd_ap, sOr_ap, sNot_ap, sIf_ap, s1_ap, sNoPart_ap, sPart_ap, sSl_ap, sCB_ap, sCall_ap, sSkip_ap, sSeq_ap, sRet_ap, sRetN_ap, sDrop_ap, sIfS_ap, sBad_ap, gN_ap, gT_ap, sAsg_ap, sPar_ap, sSetIx_ap, sApp_ap, sIt_ap, sRng1_ap, sRng2_ap, sYes_ap, sZip_ap, sGet2_ap, runB_ap, runK_ap, sIsi_ap, gAll, begin_, endF, rd, rds, purs, pur, isi, dCmp, dInt, mulOk, sizeLine_eq, b__law_condition, e1, e2, e3, eq_int, hn1, dLt, hr]
    · cases n with
      | zero => exact absurd (.inl rfl) h0
      | succ n =>
        have hr : ¬ r < 2 := fun z => h0 (.inr z)
        have sb : dSub (.int ((n : Int) + 1)) (.int 1) = some (.int (n : Int)) := by simp [dSub, dInt]
        have hn0 : (((n : Int) + 1) == 0) = false := beq_eq_false_iff_ne.mpr (by omega)
        by_cases hr2 : r = 2
        · obtain ⟨d2, c2, hd2, hc2, e2⟩ := ih n (by omega) c1 R hc1
          refine ⟨.tup [.str "not", d2], c2, .inr (.inl ⟨d2, hd2, rfl⟩), hc2, ?_⟩
          rw [run]
          simp [sVar_ap, sC_ap, sNil_ap, sCons_ap, sTup_ap, sLst_ap, sMut_ap, s2_ap, sChain_ap, sAnd_ap, sOr_ap, sNot_ap, sIf_ap, s1_ap, sNoPart_ap, sPart_ap, sSl_ap, sCB_ap, sCall_ap, sSkip_ap, sSeq_ap, sRet_ap, sRetN_ap, sDrop_ap, sIfS_ap, sBad_ap, gN_ap, gT_ap, sAsg_ap, sPar_ap, sSetIx_ap, sApp_ap, sIt_ap, sRng1_ap, sRng2_ap, sYes_ap, sZip_ap, sGet2_ap, runB_ap, runK_ap, sIsi_ap, gAll, begin_, endF, rd, rds, purs, pur, isi, dCmp, dInt, mulOk, sizeLine_eq, b__law_condition, e1, eq_int, hn0, dLt, hr, hr2, sb, e2]
        · obtain ⟨w, c2, hw, hc2, e2⟩ := some_ (ds := [.str "all", .str "some"]) (by simp) (by simp) c1 R hc1
          obtain ⟨d3, c3, ⟨k, rfl, k1, k2⟩, hc3, e3⟩ := roll (n := 4) (by decide) (by decide) c2 R hc2
          have it : sRng1 (sCons (sCall 2 F__law_roll (sCons (sVar 0) (sCons (sC (.int 4)) (sNil)))) (sNil)) [some (.m 0), some (.p (uD us)), some (.p (.int ((n : Int) + 1))), some (.p (.int r)), none] (c2 :: R) = some (upto 0 k.toNat, c3 :: R) := by
            have q1 : -4611686018427387904 ≤ k := by omega
            have q2 : k < 4611686018427387904 := by omega
            simp [sVar_ap, sC_ap, sNil_ap, sCons_ap, sTup_ap, sLst_ap, sMut_ap, s2_ap, sChain_ap, sAnd_ap, sOr_ap, sNot_ap, sIf_ap, s1_ap, sNoPart_ap, sPart_ap, sSl_ap, sCB_ap, sCall_ap, sSkip_ap, sSeq_ap, sRet_ap, sRetN_ap, sDrop_ap, sIfS_ap, sBad_ap, gN_ap, gT_ap, sAsg_ap, sPar_ap, sSetIx_ap, sApp_ap, sIt_ap, sRng1_ap, sRng2_ap, sYes_ap, sZip_ap, sGet2_ap, runB_ap, runK_ap, sIsi_ap, gAll, begin_, endF, rd, rds, purs, pur, isi, dCmp, dInt, mulOk, sizeLine_eq, e3, EV.inR, q1, q2]
          obtain ⟨ys, c4, y1, y2, hc4, e4⟩ := sLC_draw (it := sRng1 (sCons (sCall 2 F__law_roll (sCons (sVar 0) (sCons (sC (.int 4)) (sNil)))) (sNil))) (g := gN 4) (e := sCall 3 (F__law_condition m) (sCons (sVar 0) (sCons (sVar 1) (sCons (s2 dSub (sVar 2) (sC (.int 1))) (sNil)))))
            (vs := [4]) (σ := [some (.m 0), some (.p (uD us)), some (.p (.int ((n : Int) + 1))), some (.p (.int r)), none]) (Q := CnD us n) (ds := upto 0 k.toNat) (fun d hd => ⟨_, rfl, fun c R hc => by
              obtain ⟨d5, c5, hd5, hc5, e5⟩ := ih n (by omega) c R hc
              exact ⟨d5, c5, hd5, hc5, by simp [sVar_ap, sC_ap, sNil_ap, sCons_ap, sTup_ap, sLst_ap, sMut_ap, s2_ap, sChain_ap, sAnd_ap, sOr_ap, sNot_ap, sIf_ap, s1_ap, sNoPart_ap, sPart_ap, sSl_ap, sCB_ap, sCall_ap, sSkip_ap, sSeq_ap, sRet_ap, sRetN_ap, sDrop_ap, sIfS_ap, sBad_ap, gN_ap, gT_ap, sAsg_ap, sPar_ap, sSetIx_ap, sApp_ap, sIt_ap, sRng1_ap, sRng2_ap, sYes_ap, sZip_ap, sGet2_ap, runB_ap, runK_ap, sIsi_ap, gAll, begin_, endF, rd, rds, purs, pur, isi, dCmp, dInt, mulOk, sizeLine_eq, wipeP, sb, e5]⟩⟩) (by rw [upto_length]; omega) hc3 it
          have hlen : ys.length ≤ 3 := by rw [y1, upto_length]; omega
          have hw' : ∃ w', w = .str w' ∧ (w' = ("all" : Str) ∨ w' = "some") := by
            simp at hw
            rcases hw with rfl | rfl
            · exact ⟨_, rfl, .inl rfl⟩
            · exact ⟨_, rfl, .inr rfl⟩
          obtain ⟨w', rfl, hw'⟩ := hw'
          refine ⟨.tup [.str w', .tup ys], c4, .inr (.inr ⟨w', ys, hw', hlen, y2, rfl⟩), hc4, ?_⟩
          rw [run]
          have hr2' : (r == 2) = false := beq_eq_false_iff_ne.mpr hr2
          simp [sVar_ap, sC_ap, sNil_ap, sCons_ap, sTup_ap, sLst_ap, sMut_ap, s2_ap, sChain_ap, sAnd_ap, sOr_ap, sNot_ap, sIf_ap, s1_ap, sNoPart_ap, sPart_ap, sSl_ap, sCB_ap, sCall_ap, sSkip_ap, sSeq_ap, sRet_ap, sRetN_ap, sDrop_ap, sIfS_ap, sBad_ap, gN_ap, gT_ap, sAsg_ap, sPar_ap, sSetIx_ap, sApp_ap, sIt_ap, sRng1_ap, sRng2_ap, sYes_ap, sZip_ap, sGet2_ap, runB_ap, runK_ap, sIsi_ap, gAll, begin_, endF, rd, rds, purs, pur, isi, dCmp, dInt, mulOk, sizeLine_eq, b__law_condition, e1, eq_int, hn0, dLt, hr, hr2', e2, e4, dTuple]
end K48

set_option Elab.async false
set_option linter.all false
set_option maxRecDepth 100000
set_option maxHeartbeats 1000000
namespace K48
open PySem PySem.Spec PyProof.Rows L2 EV
theorem ints_from {P : Int → Prop} : ∀ {ys : List D}, (∀ y ∈ ys, ∃ a, y = .int a ∧ P a) → ∃ row : List Int, ys = row.map .int ∧ ∀ a ∈ row, P a
  | [], _ => ⟨[], rfl, by simp⟩
  | y :: ys, h => by
    obtain ⟨a, rfl, ha⟩ := h y (by simp)
    obtain ⟨row, rfl, hr⟩ := ints_from (ys := ys) fun z hz => h z (by simp [hz])
    exact ⟨a :: row, rfl, fun x hx => (List.mem_cons.mp hx).elim (fun q => by rw [q]; exact ha) (hr x)⟩
def EntOK (us : List Int) (cols : Nat) (e : D) : Prop := ∃ (row : List Int) (cond : D), e = .tup [.tup (row.map .int), cond] ∧ row.length = cols ∧ (∀ a ∈ row, CellI us a) ∧ CnD us 2 cond
def GOK (us : List Int) (cols : Nat) (d : D) : Prop := ∃ es, d = .tup [.int cols, .tup es] ∧ es.length ≤ 4 ∧ ∀ e ∈ es, EntOK us cols e
abbrev bG : Sx := (sSeq (sAsg (sCB dTuple (sCons (sLC (sRng1 (sCons (sVar 2) (sNil))) (gN 8) (sYes) (sCall 2 F__law_any_cell (sCons (sVar 0) (sCons (sVar 1) (sNil)))) [8]) (sNil))) (gN 6)) (sSeq (sAsg (sIf (s2 dEq (sCall 2 F__law_roll (sCons (sVar 0) (sCons (sC (.int 3)) (sNil)))) (sC (.int 0))) (sTup (sCons (sC (.str "all")) (sCons (sTup (sNil)) (sNil)))) (sCall 3 (F__law_condition 16) (sCons (sVar 0) (sCons (sVar 1) (sCons (sC (.int 2)) (sNil)))))) (gN 7)) (sAsg (s2 dAdd (sVar 4) (sTup (sCons (sTup (sCons (sVar 6) (sCons (sVar 7) (sNil)))) (sNil)))) (gN 4))))
theorem guarded_eq : b__law_guarded = sSeq (sAsg (sTup (sNil)) (gN 4)) (sSeq (sFor (sRng1 (sCons (sCall 2 F__law_roll (sCons (sVar 0) (sCons (s2 dAdd (sVar 3) (sC (.int 1))) (sNil)))) (sNil))) (gN 5) bG) (sRet (sTup (sCons (sVar 2) (sCons (sVar 4) (sNil)))))) := rfl
theorem all_nil (us : List Int) : CnD us 2 (.tup [.str "all", .tup []]) := .inr (.inr ⟨"all", [], .inl rfl, by simp, by simp, rfl⟩)
theorem add_one {es : List D} (h : es.length ≤ 100) (x : D) : dAdd (.tup es) (.tup [x]) = some (.tup (es ++ [x])) := by
  simp only [dAdd, sizeLine_eq]
  rw [decide_eq_true (by simp; omega)]
theorem draw_any {us : List Int} (hu : us.length ≤ 10) {x2 x3 x4 a5 a6 a7 x8 : Option Vl} : Drw (sCall 2 F__law_any_cell (sCons (sVar 0) (sCons (sVar 1) (sNil))) [some (.m 0), some (.p (uD us)), x2, x3, x4, a5, a6, a7, x8]) (fun d => ∃ a, d = .int a ∧ CellI us a) := by
  intro c R hc
  obtain ⟨d5, c5, hd5, hc5, e5⟩ := any_cell hu c R hc
  refine ⟨d5, c5, hd5, hc5, ?_⟩
  simp [sVar_ap, sC_ap, sNil_ap, sCons_ap, sTup_ap, sLst_ap, sMut_ap, s2_ap, sChain_ap, sAnd_ap, sOr_ap, sNot_ap, sIf_ap, s1_ap, sNoPart_ap, sPart_ap, sSl_ap, sCB_ap, sCall_ap, sSkip_ap, sSeq_ap, sRet_ap, sRetN_ap, sDrop_ap, sIfS_ap, sBad_ap, gN_ap, gT_ap, sAsg_ap, sPar_ap, sSetIx_ap, sApp_ap, sIt_ap, sRng1_ap, sRng2_ap, sYes_ap, sZip_ap, sGet2_ap, runB_ap, runK_ap, sIsi_ap, gAll, begin_, endF, rd, rds, purs, pur, isi, dCmp, dInt, mulOk, sizeLine_eq, e5]
theorem rng_slot {x0 x1 x3 x4 a5 a6 a7 x8 : Option Vl} {k : Int} (h1 : -4611686018427387904 ≤ k) (h2 : k < 4611686018427387904) (S : Sto) : sRng1 (sCons (sVar 2) (sNil)) [x0, x1, some (.p (.int k)), x3, x4, a5, a6, a7, x8] S = some (upto 0 k.toNat, S) := by
  simp [sVar_ap, sC_ap, sNil_ap, sCons_ap, sTup_ap, sLst_ap, sMut_ap, s2_ap, sChain_ap, sAnd_ap, sOr_ap, sNot_ap, sIf_ap, s1_ap, sNoPart_ap, sPart_ap, sSl_ap, sCB_ap, sCall_ap, sSkip_ap, sSeq_ap, sRet_ap, sRetN_ap, sDrop_ap, sIfS_ap, sBad_ap, gN_ap, gT_ap, sAsg_ap, sPar_ap, sSetIx_ap, sApp_ap, sIt_ap, sRng1_ap, sRng2_ap, sYes_ap, sZip_ap, sGet2_ap, runB_ap, runK_ap, sIsi_ap, gAll, begin_, endF, rd, rds, purs, pur, isi, dCmp, dInt, mulOk, sizeLine_eq, EV.inR, h1, h2]
theorem g_turn {us : List Int} (hu : us.length ≤ 10) {cols : Nat} (hcol : cols ≤ 10) {most : D} {es : List D} (he : es.length ≤ 100) {a5 a6 a7 : Option Vl} {c : List D} {R : Sto} (hc : CupOK c) :
    ∃ e c' b6 b7, EntOK us cols e ∧ CupOK c' ∧ bG [some (.m 0), some (.p (uD us)), some (.p (.int cols)), some (.p most), some (.p (.tup es)), a5, a6, a7, none] (c :: R) =
      some (.nx [some (.m 0), some (.p (uD us)), some (.p (.int cols)), some (.p most), some (.p (.tup (es ++ [e]))), a5, b6, b7, none], c' :: R) := by
  have q1 : (cols : Int) < 4611686018427387904 := by omega
  have q2 : -4611686018427387904 ≤ (cols : Int) := by omega
  have it : sRng1 (sCons (sVar 2) (sNil)) [some (.m 0), some (.p (uD us)), some (.p (.int cols)), some (.p most), some (.p (.tup es)), a5, a6, a7, none] (c :: R) = some (upto 0 cols, c :: R) := rng_slot q2 q1 _
  have ln : (upto 0 cols).length ≤ 16777216 := by rw [upto_length]; omega
  have dr : ∀ d ∈ upto 0 cols, ∃ σ1, gN 8 (.p d) (wipeP [some (.m 0), some (.p (uD us)), some (.p (.int cols)), some (.p most), some (.p (.tup es)), a5, a6, a7, none] [8]) = some σ1 ∧ Drw (sCall 2 F__law_any_cell (sCons (sVar 0) (sCons (sVar 1) (sNil))) σ1) (fun d => ∃ a, d = .int a ∧ CellI us a) :=
    fun d hd => ⟨[some (.m 0), some (.p (uD us)), some (.p (.int cols)), some (.p most), some (.p (.tup es)), a5, a6, a7, some (.p d)], rfl, draw_any hu⟩
  obtain ⟨ys, c1, y1, y2, hc1, e1⟩ := sLC_draw dr ln hc it
  obtain ⟨row, rfl, hrow⟩ := ints_from y2
  have hlen : row.length = cols := by rw [upto_length, List.length_map] at y1; exact y1
  have ad := add_one he
  obtain ⟨d2, c2, ⟨r, rfl, r1, r2⟩, hc2, e2⟩ := roll (n := 3) (by decide) (by decide) c1 R hc1
  by_cases hr : r = 0
  · refine ⟨.tup [.tup (row.map .int), .tup [.str "all", .tup []]], c2, some (.p (.tup (row.map .int))), some (.p (.tup [.str "all", .tup []])), ⟨row, _, rfl, hlen, hrow, all_nil us⟩, hc2, ?_⟩
    simp [sVar_ap, sC_ap, sNil_ap, sCons_ap, sTup_ap, sLst_ap, sMut_ap, s2_ap, sChain_ap, sAnd_ap, sOr_ap, sNot_ap, sIf_ap, s1_ap, sNoPart_ap, sPart_ap, sSl_ap, sCB_ap, sCall_ap, sSkip_ap, sSeq_ap, sRet_ap, sRetN_ap, sDrop_ap, sIfS_ap, sBad_ap, gN_ap, gT_ap, sAsg_ap, sPar_ap, sSetIx_ap, sApp_ap, sIt_ap, sRng1_ap, sRng2_ap, sYes_ap, sZip_ap, sGet2_ap, runB_ap, runK_ap, sIsi_ap, gAll, begin_, endF, rd, rds, purs, pur, isi, dCmp, dInt, mulOk, sizeLine_eq, e1, dTuple, e2, eq_int, hr, ad]
  · have hr' : (r == 0) = false := beq_eq_false_iff_ne.mpr hr
    obtain ⟨d3, c3, hd3, hc3, e3⟩ := condition hu 16 2 (by decide) c2 R hc2
    have two : ((2 : Nat) : Int) = 2 := rfl
    rw [two] at e3
    refine ⟨.tup [.tup (row.map .int), d3], c3, some (.p (.tup (row.map .int))), some (.p d3), ⟨row, _, rfl, hlen, hrow, hd3⟩, hc3, ?_⟩
    simp [sVar_ap, sC_ap, sNil_ap, sCons_ap, sTup_ap, sLst_ap, sMut_ap, s2_ap, sChain_ap, sAnd_ap, sOr_ap, sNot_ap, sIf_ap, s1_ap, sNoPart_ap, sPart_ap, sSl_ap, sCB_ap, sCall_ap, sSkip_ap, sSeq_ap, sRet_ap, sRetN_ap, sDrop_ap, sIfS_ap, sBad_ap, gN_ap, gT_ap, sAsg_ap, sPar_ap, sSetIx_ap, sApp_ap, sIt_ap, sRng1_ap, sRng2_ap, sYes_ap, sZip_ap, sGet2_ap, runB_ap, runK_ap, sIsi_ap, gAll, begin_, endF, rd, rds, purs, pur, isi, dCmp, dInt, mulOk, sizeLine_eq, e1, dTuple, e2, eq_int, hr', e3, ad]
theorem g_loop {us : List Int} (hu : us.length ≤ 10) {cols : Nat} (hcol : cols ≤ 10) {most : D} {R : Sto} : ∀ (ds es : List D) (a5 a6 a7 : Option Vl) (c : List D), es.length + ds.length ≤ 100 → CupOK c →
    ∃ es2 c' b5 b6 b7, es2.length = ds.length ∧ (∀ e ∈ es2, EntOK us cols e) ∧ CupOK c' ∧ loopF (gN 5) bG ds [some (.m 0), some (.p (uD us)), some (.p (.int cols)), some (.p most), some (.p (.tup es)), a5, a6, a7, none] (c :: R) =
      some (.nx [some (.m 0), some (.p (uD us)), some (.p (.int cols)), some (.p most), some (.p (.tup (es ++ es2))), b5, b6, b7, none], c' :: R)
  | [], es, a5, a6, a7, c, _, hc => ⟨[], c, a5, a6, a7, rfl, by simp, hc, by simp [loopF]⟩
  | d :: ds, es, a5, a6, a7, c, hl, hc => by
    have hl' : es.length + (ds.length + 1) ≤ 100 := hl
    obtain ⟨e, c1, b6, b7, he, hc1, e1⟩ := g_turn hu hcol (most := most) (es := es) (by omega) (a5 := some (.p d)) (a6 := a6) (a7 := a7) (R := R) hc
    obtain ⟨es2, c', b5', b6', b7', h1, h2, h3, h4⟩ := g_loop hu hcol (most := most) (R := R) ds (es ++ [e]) (some (.p d)) b6 b7 c1 (by simp; omega) hc1
    have st : gN 5 (.p d) [some (.m 0), some (.p (uD us)), some (.p (.int cols)), some (.p most), some (.p (.tup es)), a5, a6, a7, none] = some [some (.m 0), some (.p (uD us)), some (.p (.int cols)), some (.p most), some (.p (.tup es)), some (.p d), a6, a7, none] := rfl
    refine ⟨e :: es2, c', b5', b6', b7', by simp [h1], fun x hx => (List.mem_cons.mp hx).elim (fun q => by rw [q]; exact he) (h2 x), h3, ?_⟩
    rw [loopF_cons st, e1]
    simp only
    rw [h4]
    simp
theorem guarded {us : List Int} (hu : us.length ≤ 10) {cols : Nat} (hcol : cols ≤ 10) : Drw (F__law_guarded [.m 0, .p (uD us), .p (.int cols), .p (.int 4)]) (GOK us cols) := by
  intro c R hc
  obtain ⟨d, c1, ⟨k, rfl, k1, k2⟩, hc1, e1⟩ := roll (n := 5) (by decide) (by decide) c R hc
  obtain ⟨es2, c2, b5, b6, b7, h1, h2, hc2, e2⟩ := g_loop hu hcol (most := .int 4) (R := R) (upto 0 k.toNat) [] none none none c1 (by rw [upto_length]; simp; omega) hc1
  refine ⟨_, c2, ⟨es2, rfl, by rw [h1, upto_length]; omega, h2⟩, hc2, ?_⟩
  have q1 : -4611686018427387904 ≤ k := by omega
  have q2 : k < 4611686018427387904 := by omega
  have it : sRng1 (sCons (sCall 2 F__law_roll (sCons (sVar 0) (sCons (s2 dAdd (sVar 3) (sC (.int 1))) (sNil)))) (sNil)) [some (.m 0), some (.p (uD us)), some (.p (.int cols)), some (.p (.int 4)), some (.p (.tup [])), none, none, none, none] (c :: R) = some (upto 0 k.toNat, c1 :: R) := by
    simp [sVar_ap, sC_ap, sNil_ap, sCons_ap, sTup_ap, sLst_ap, sMut_ap, s2_ap, sChain_ap, sAnd_ap, sOr_ap, sNot_ap, sIf_ap, s1_ap, sNoPart_ap, sPart_ap, sSl_ap, sCB_ap, sCall_ap, sSkip_ap, sSeq_ap, sRet_ap, sRetN_ap, sDrop_ap, sIfS_ap, sBad_ap, gN_ap, gT_ap, sAsg_ap, sPar_ap, sSetIx_ap, sApp_ap, sIt_ap, sRng1_ap, sRng2_ap, sYes_ap, sZip_ap, sGet2_ap, runB_ap, runK_ap, sIsi_ap, gAll, begin_, endF, rd, rds, purs, pur, isi, dCmp, dInt, mulOk, sizeLine_eq, dAdd, e1, EV.inR, q1, q2]
  have sf := sFor_it (b := bG) (g := gN 5) it
  rw [e2] at sf
  unfold F__law_guarded
  rw [guarded_eq]
  generalize bG = bg at sf
  simp [sVar_ap, sC_ap, sNil_ap, sCons_ap, sTup_ap, sLst_ap, sMut_ap, s2_ap, sChain_ap, sAnd_ap, sOr_ap, sNot_ap, sIf_ap, s1_ap, sNoPart_ap, sPart_ap, sSl_ap, sCB_ap, sCall_ap, sSkip_ap, sSeq_ap, sRet_ap, sRetN_ap, sDrop_ap, sIfS_ap, sBad_ap, gN_ap, gT_ap, sAsg_ap, sPar_ap, sSetIx_ap, sApp_ap, sIt_ap, sRng1_ap, sRng2_ap, sYes_ap, sZip_ap, sGet2_ap, runB_ap, runK_ap, sIsi_ap, gAll, begin_, endF, rd, rds, purs, pur, isi, dCmp, dInt, mulOk, sizeLine_eq, sf]
/-- data like the drawn, and shorter -/
def short : Nat → D → Bool
  | _, .non => true
  | _, .bl _ => true
  | _, .int _ => true
  | _, .str w => PyData.strOk w
  | 0, _ => false
  | n + 1, .tup xs => decide (xs.length ≤ 50) && xs.all (short n)
  | _, _ => false
theorem short_tame : ∀ {n : Nat} {d : D}, short n d = true → tame n d = true := by
  intro n
  induction n with
  | zero => intro d h; cases d <;> simp_all [tame, short]
  | succ n ih =>
    intro d h
    cases d with
    | tup xs =>
      simp only [short, tame, Bool.and_eq_true, List.all_eq_true, decide_eq_true_eq] at h ⊢
      exact ⟨by omega, fun x hx => ih (h.2 x hx)⟩
    | _ => simp_all [tame, short]
theorem short_tup {n : Nat} {xs : List D} (h1 : xs.length ≤ 50) (h2 : ∀ x ∈ xs, short n x = true) : short (n + 1) (.tup xs) = true := by
  simp only [short, Bool.and_eq_true, List.all_eq_true, decide_eq_true_eq]
  exact ⟨h1, h2⟩
theorem tame_tup {n : Nat} {xs : List D} (h1 : xs.length ≤ 100) (h2 : ∀ x ∈ xs, tame n x = true) : tame (n + 1) (.tup xs) = true := by
  simp only [tame, Bool.and_eq_true, List.all_eq_true, decide_eq_true_eq]
  exact ⟨h1, h2⟩
theorem short_mono : ∀ {n m : Nat} {d : D}, n ≤ m → short n d = true → short m d = true := by
  intro n
  induction n with
  | zero => intro m d _ h; cases d <;> first | (cases m <;> simp_all [short]; done) | cases h
  | succ n ih =>
    intro m d hm h
    cases m with
    | zero => omega
    | succ m =>
      cases d <;> first | rfl | (simp only [short, Bool.and_eq_true, List.all_eq_true] at h ⊢; first | exact ⟨h.1, fun x hx => ih (by omega) (h.2 x hx)⟩ | exact h) | cases h
theorem cn_short {us : List Int} : ∀ {n : Nat} {d : D}, CnD us n d → short (2 * n + 1) d = true := by
  have sm : ∀ (a b : Int) k, short (k + 1) (.tup [.str "same", .int a, .int b]) = true := fun a b k => short_tup (by simp) fun x hx => by
    simp at hx
    rcases hx with rfl | rfl | rfl
    · cases k <;> exact ok_same
    · cases k <;> rfl
    · cases k <;> rfl
  intro n
  induction n with
  | zero => rintro d ⟨a, b, _, _, rfl⟩; exact sm a b 0
  | succ n ih =>
    rintro d (⟨a, b, _, _, rfl⟩ | ⟨c, hc, rfl⟩ | ⟨w, cs, hw, hl, hcs, rfl⟩)
    · exact sm a b _
    · refine short_tup (by simp) fun x hx => ?_
      simp at hx
      rcases hx with rfl | rfl
      · exact ok_not
      · exact short_mono (by omega) (ih hc)
    · refine short_tup (by simp) fun x hx => ?_
      simp at hx
      rcases hx with rfl | rfl
      · rcases hw with rfl | rfl
        · exact ok_all
        · exact ok_some
      · exact short_tup (by omega) fun c hc => ih (hcs c hc)
theorem g_short {us : List Int} {cols : Nat} (hcol : cols ≤ 10) {d : D} (h : GOK us cols d) : short 9 d = true := by
  obtain ⟨es, rfl, hl, he⟩ := h
  refine short_tup (by simp) fun x hx => ?_
  simp at hx
  rcases hx with rfl | rfl
  · rfl
  · refine short_tup (n := 7) (by omega) fun e h => ?_
    obtain ⟨row, cond, rfl, hr, _, hc⟩ := he e h
    refine short_tup (n := 6) (by simp) fun x hx => ?_
    simp at hx
    rcases hx with rfl | rfl
    · refine short_tup (n := 5) (by simp; omega) fun x hx => ?_
      obtain ⟨a, _, rfl⟩ := List.mem_map.mp hx
      rfl
    · exact short_mono (by decide) (cn_short hc)
end K48

set_option Elab.async false
set_option linter.all false
set_option maxRecDepth 100000
set_option maxHeartbeats 1000000
namespace K48
open PySem PySem.Spec PyProof.Rows L2 EV
abbrev lits : List D := [.non, .tup [], .lst [], .int 0, .int 1, .int 6, .int 7, .int (-1), .int (-4), .bl true, .str "same", .tup [.int 1], .tup [.tup [.int 1], .tup [.str "all", .tup []]], .tup [.str "all", .tup []], .tup [.int 1, .tup []]]
theorem lits_tame : ∀ d ∈ lits, tame 4 d = true := by
  have h : (lits.all fun d => tame 4 d) = true := by decide +kernel
  exact fun d hd => List.all_eq_true.mp h d hd
theorem cut_mem {ds : List D} {lo hi : Option Int} {x : D} (h : x ∈ EV.cutD ds lo hi) : x ∈ ds := List.mem_of_mem_drop (List.mem_of_mem_take h)
theorem cut_len {ds : List D} {lo hi : Option Int} : (EV.cutD ds lo hi).length ≤ ds.length := by
  unfold EV.cutD
  rw [List.length_take, List.length_drop]
  omega
theorem cut_pre {ds : List D} {k : Int} (h0 : 0 ≤ k) : (EV.cutD ds none (some k)).length ≤ k.toNat := by
  unfold EV.cutD
  refine Nat.le_trans (List.length_take_le _ _) ?_
  have : ¬ k < 0 := by omega
  simp [HT.sIx, this]
  omega
theorem cut_suf {ds : List D} {k : Int} (h0 : 0 ≤ k) (h1 : k ≤ ds.length) : (EV.cutD ds (some k) none).length ≤ ds.length - k.toNat := by
  unfold EV.cutD
  rw [List.length_take, List.length_drop]
  have e : HT.sIx ds.length 0 (some k) = k.toNat := by
    have : ¬ k < 0 := by omega
    simp [HT.sIx, this]
    omega
  rw [e]
  omega
theorem cut_one {ds : List D} {k : Int} (h0 : 0 ≤ k) : (EV.cutD ds (some k) (some (k + 1))).length ≤ 1 := by
  unfold EV.cutD
  rw [List.length_take]
  have a : ¬ k < 0 := by omega
  have b : ¬ k + 1 < 0 := by omega
  simp [HT.sIx, a, b]
  omega
theorem add_tup {xs ys : List D} (h : xs.length + ys.length ≤ 1000) : dAdd (.tup xs) (.tup ys) = some (.tup (xs ++ ys)) := by
  simp only [dAdd, sizeLine_eq]
  rw [decide_eq_true (by omega)]
theorem spoilt : ∀ (m k : Nat) (d : D), k < m → short k d = true → k ≤ 40 → Drw (F__law_spoilt m [.m 0, .p d]) (fun x => tame (k + 4) x = true) := by
  intro m
  induction m with
  | zero => intro k d h; omega
  | succ m ih =>
    intro k d hk hd hk40 c R hc
    have run : ∀ xs S, F__law_spoilt (m + 1) xs S = runB 4 (b__law_spoilt (F__law_spoilt m)) xs S := fun _ _ => rfl
    have lit : ∀ c R, CupOK c → ∃ x c', tame (k + 4) x = true ∧ CupOK c' ∧ F__law_some [.m 0, .p (.lst lits)] (c :: R) = some (.p x, c' :: R) := fun c R hc => by
      obtain ⟨x, c', h1, h2, h3⟩ := some_ (ds := lits) (by simp) (by decide) c R hc
      exact ⟨x, c', tame_mono (by omega) (lits_tame x h1), h2, h3⟩
    by_cases ht : ∃ ds, d = .tup ds ∧ ds ≠ []
    · obtain ⟨ds, rfl, hne⟩ := ht
      have emp := eq_empty (tame64 (short_tame hd) (by omega))
      have emp' : ds.isEmpty = false := by cases ds <;> simp_all
      rw [emp'] at emp
      obtain ⟨k', rfl, hl, hkk⟩ : ∃ k', k = k' + 1 ∧ ds.length ≤ 50 ∧ ∀ x ∈ ds, short k' x = true := by
        cases k with
        | zero => cases hd
        | succ k' =>
          simp only [short, Bool.and_eq_true, decide_eq_true_eq, List.all_eq_true] at hd
          exact ⟨k', rfl, hd.1, hd.2⟩
      have hl0 : 0 < ds.length := List.length_pos_iff.mpr hne
      obtain ⟨dr, c1, ⟨r, rfl, r1, r2⟩, hc1, e1⟩ := roll (n := 5) (by decide) (by decide) c R hc
      by_cases hr : r = 0
      · subst hr
        obtain ⟨x, c2, hx, hc2, e2⟩ := lit c1 R hc1
        refine ⟨x, c2, hx, hc2, ?_⟩
        rw [run]
        simp [sVar_ap, sC_ap, sNil_ap, sCons_ap, sTup_ap, sLst_ap, sMut_ap, s2_ap, sChain_ap, sAnd_ap, sOr_ap, sNot_ap, sIf_ap, s1_ap, sNoPart_ap, sPart_ap, sSl_ap, sCB_ap, sCall_ap, sSkip_ap, sSeq_ap, sRet_ap, sRetN_ap, sDrop_ap, sIfS_ap, sBad_ap, gN_ap, gT_ap, sAsg_ap, sPar_ap, sSetIx_ap, sApp_ap, sIt_ap, sRng1_ap, sRng2_ap, sYes_ap, sZip_ap, sGet2_ap, runB_ap, runK_ap, sIsi_ap, gAll, begin_, endF, rd, rds, purs, pur, isi, dCmp, dInt, mulOk, sizeLine_eq, b__law_spoilt, emp, e1, eq_int, dNeg, e2]
      · have hr' : (r == 0) = false := beq_eq_false_iff_ne.mpr hr
        obtain ⟨da, c2, ⟨a, rfl, a1, a2⟩, hc2, e2⟩ := roll (n := (ds.length : Int)) (by omega) (by omega) c1 R hc1
        obtain ⟨dw, c3, ⟨w, rfl, w1, w2⟩, hc3, e3⟩ := roll (n := 9) (by decide) (by decide) c2 R hc2
        have hin : ∀ {lo hi : Option Int} {x : D}, x ∈ EV.cutD ds lo hi → tame (k' + 4) x = true := fun h => tame_mono (by omega) (short_tame (hkk _ (cut_mem h)))
        have p1 := cut_pre (ds := ds) a1
        by_cases hw : w < 2
        · have p2 := cut_suf (ds := ds) (k := a + w) (by omega) (by omega)
          have p3 := cut_one (ds := ds) a1
          have ad1 := add_tup (xs := EV.cutD ds none (some a)) (ys := EV.cutD ds (some (a + w)) none) (by omega)
          have aw : dAdd (.int a) (.int w) = some (.int (a + w)) := rfl
          have a_1 : dAdd (.int a) (.int 1) = some (.int (a + 1)) := rfl
          by_cases hw0 : w = 0
          · have hw0' : (w == 0) = true := by simpa using hw0
            have ad2 := add_tup (xs := EV.cutD ds none (some a) ++ EV.cutD ds (some (a + w)) none) (ys := EV.cutD ds (some a) (some (a + 1))) (by simp; omega)
            refine ⟨.tup (EV.cutD ds none (some a) ++ EV.cutD ds (some (a + w)) none ++ EV.cutD ds (some a) (some (a + 1))), c3, tame_tup (n := k' + 4) (by simp; omega) fun x hx => ?_, hc3, ?_⟩
            · rcases List.mem_append.mp hx with hx | hx
              · rcases List.mem_append.mp hx with hx | hx
                · exact hin hx
                · exact hin hx
              · exact hin hx
            · rw [run]
              simp [sVar_ap, sC_ap, sNil_ap, sCons_ap, sTup_ap, sLst_ap, sMut_ap, s2_ap, sChain_ap, sAnd_ap, sOr_ap, sNot_ap, sIf_ap, s1_ap, sNoPart_ap, sPart_ap, sSl_ap, sCB_ap, sCall_ap, sSkip_ap, sSeq_ap, sRet_ap, sRetN_ap, sDrop_ap, sIfS_ap, sBad_ap, gN_ap, gT_ap, sAsg_ap, sPar_ap, sSetIx_ap, sApp_ap, sIt_ap, sRng1_ap, sRng2_ap, sYes_ap, sZip_ap, sGet2_ap, runB_ap, runK_ap, sIsi_ap, gAll, begin_, endF, rd, rds, purs, pur, isi, dCmp, dInt, mulOk, sizeLine_eq, b__law_spoilt, emp, e1, eq_int, hr', dLen, e2, e3, dLt, hw, aw, ad1, hw0', a_1, ad2]
          · have hw0' : (w == 0) = false := beq_eq_false_iff_ne.mpr hw0
            have ad2 := add_tup (xs := EV.cutD ds none (some a) ++ EV.cutD ds (some (a + w)) none) (ys := []) (by simp; omega)
            rw [List.append_nil] at ad2
            refine ⟨.tup (EV.cutD ds none (some a) ++ EV.cutD ds (some (a + w)) none), c3, tame_tup (n := k' + 4) (by simp; omega) fun x hx => ?_, hc3, ?_⟩
            · rcases List.mem_append.mp hx with hx | hx
              · exact hin hx
              · exact hin hx
            · rw [run]
              simp [sVar_ap, sC_ap, sNil_ap, sCons_ap, sTup_ap, sLst_ap, sMut_ap, s2_ap, sChain_ap, sAnd_ap, sOr_ap, sNot_ap, sIf_ap, s1_ap, sNoPart_ap, sPart_ap, sSl_ap, sCB_ap, sCall_ap, sSkip_ap, sSeq_ap, sRet_ap, sRetN_ap, sDrop_ap, sIfS_ap, sBad_ap, gN_ap, gT_ap, sAsg_ap, sPar_ap, sSetIx_ap, sApp_ap, sIt_ap, sRng1_ap, sRng2_ap, sYes_ap, sZip_ap, sGet2_ap, runB_ap, runK_ap, sIsi_ap, gAll, begin_, endF, rd, rds, purs, pur, isi, dCmp, dInt, mulOk, sizeLine_eq, b__law_spoilt, emp, e1, eq_int, hr', dLen, e2, e3, dLt, hw, aw, ad1, hw0', a_1, ad2]
        · by_cases hw2 : w = 2
          · have hw2' : (w == 2) = true := by simpa using hw2
            refine ⟨.lst ds, c3, ?_, hc3, ?_⟩
            · show tame (k' + 4 + 1) (.lst ds) = true
              simp only [tame, Bool.and_eq_true, List.all_eq_true, decide_eq_true_eq]
              exact ⟨by omega, fun x hx => tame_mono (by omega) (short_tame (hkk x hx))⟩
            · rw [run]
              simp [sVar_ap, sC_ap, sNil_ap, sCons_ap, sTup_ap, sLst_ap, sMut_ap, s2_ap, sChain_ap, sAnd_ap, sOr_ap, sNot_ap, sIf_ap, s1_ap, sNoPart_ap, sPart_ap, sSl_ap, sCB_ap, sCall_ap, sSkip_ap, sSeq_ap, sRet_ap, sRetN_ap, sDrop_ap, sIfS_ap, sBad_ap, gN_ap, gT_ap, sAsg_ap, sPar_ap, sSetIx_ap, sApp_ap, sIt_ap, sRng1_ap, sRng2_ap, sYes_ap, sZip_ap, sGet2_ap, runB_ap, runK_ap, sIsi_ap, gAll, begin_, endF, rd, rds, purs, pur, isi, dCmp, dInt, mulOk, sizeLine_eq, b__law_spoilt, emp, e1, eq_int, hr', dLen, e2, e3, dLt, hw, hw2', dList]
          · have hw2' : (w == 2) = false := beq_eq_false_iff_ne.mpr hw2
            have hat : a.toNat < ds.length := by omega
            have ix : dIx (.tup ds) (.int a) = some ds[a.toNat] := by
              show atI _ _ = _
              simp [atI, ixN, a1, a2, hat]
            obtain ⟨x, c4, hx, hc4, e4⟩ := ih k' ds[a.toNat] (by omega) (hkk _ (List.getElem_mem hat)) (by omega) c3 R hc3
            have p2 := cut_suf (ds := ds) (k := a + 1) (by omega) (by omega)
            have a_1 : dAdd (.int a) (.int 1) = some (.int (a + 1)) := rfl
            have ad1 := add_tup (xs := EV.cutD ds none (some a)) (ys := [x]) (by simp; omega)
            have ad2 := add_tup (xs := EV.cutD ds none (some a) ++ [x]) (ys := EV.cutD ds (some (a + 1)) none) (by simp; omega)
            refine ⟨.tup (EV.cutD ds none (some a) ++ [x] ++ EV.cutD ds (some (a + 1)) none), c4, tame_tup (n := k' + 4) (by simp; omega) fun y hy => ?_, hc4, ?_⟩
            · rcases List.mem_append.mp hy with hy | hy
              · rcases List.mem_append.mp hy with hy | hy
                · exact hin hy
                · rw [List.mem_singleton.mp hy]; exact hx
              · exact hin hy
            · rw [run]
              simp [sVar_ap, sC_ap, sNil_ap, sCons_ap, sTup_ap, sLst_ap, sMut_ap, s2_ap, sChain_ap, sAnd_ap, sOr_ap, sNot_ap, sIf_ap, s1_ap, sNoPart_ap, sPart_ap, sSl_ap, sCB_ap, sCall_ap, sSkip_ap, sSeq_ap, sRet_ap, sRetN_ap, sDrop_ap, sIfS_ap, sBad_ap, gN_ap, gT_ap, sAsg_ap, sPar_ap, sSetIx_ap, sApp_ap, sIt_ap, sRng1_ap, sRng2_ap, sYes_ap, sZip_ap, sGet2_ap, runB_ap, runK_ap, sIsi_ap, gAll, begin_, endF, rd, rds, purs, pur, isi, dCmp, dInt, mulOk, sizeLine_eq, b__law_spoilt, emp, e1, eq_int, hr', dLen, e2, e3, dLt, hw, hw2', ix, e4, ad1, a_1, ad2]
    · obtain ⟨x, c1, hx, hc1, e1⟩ := lit c R hc
      refine ⟨x, c1, hx, hc1, ?_⟩
      rw [run]
      have pl := tame_plain (short_tame hd)
      cases d with
      | tup ds =>
        have : ds = [] := Decidable.byContradiction fun z => ht ⟨ds, rfl, z⟩
        subst this
        have emp : dEq (.tup []) (.tup []) = some (.bl true) := rfl
        simp [sVar_ap, sC_ap, sNil_ap, sCons_ap, sTup_ap, sLst_ap, sMut_ap, s2_ap, sChain_ap, sAnd_ap, sOr_ap, sNot_ap, sIf_ap, s1_ap, sNoPart_ap, sPart_ap, sSl_ap, sCB_ap, sCall_ap, sSkip_ap, sSeq_ap, sRet_ap, sRetN_ap, sDrop_ap, sIfS_ap, sBad_ap, gN_ap, gT_ap, sAsg_ap, sPar_ap, sSetIx_ap, sApp_ap, sIt_ap, sRng1_ap, sRng2_ap, sYes_ap, sZip_ap, sGet2_ap, runB_ap, runK_ap, sIsi_ap, gAll, begin_, endF, rd, rds, purs, pur, isi, dCmp, dInt, mulOk, sizeLine_eq, b__law_spoilt, emp, dNeg, e1]
      | dct _ _ => cases pl
      | set _ => cases pl
      | scr _ => cases pl
      | _ => simp [sVar_ap, sC_ap, sNil_ap, sCons_ap, sTup_ap, sLst_ap, sMut_ap, s2_ap, sChain_ap, sAnd_ap, sOr_ap, sNot_ap, sIf_ap, s1_ap, sNoPart_ap, sPart_ap, sSl_ap, sCB_ap, sCall_ap, sSkip_ap, sSeq_ap, sRet_ap, sRetN_ap, sDrop_ap, sIfS_ap, sBad_ap, gN_ap, gT_ap, sAsg_ap, sPar_ap, sSetIx_ap, sApp_ap, sIt_ap, sRng1_ap, sRng2_ap, sYes_ap, sZip_ap, sGet2_ap, runB_ap, runK_ap, sIsi_ap, gAll, begin_, endF, rd, rds, purs, pur, isi, dCmp, dInt, mulOk, sizeLine_eq, b__law_spoilt, dNeg, e1]
end K48

set_option Elab.async false
set_option linter.all false
set_option maxRecDepth 100000
set_option maxHeartbeats 1000000
namespace K48
open PySem PySem.Spec PyProof.Rows L2 EV
/-- worths: a dict of ints that means f -/
def WD (w : D) (f : Int → Int) : Prop := ∃ ks vs, w = .dct ks vs ∧ ∀ i, (dlook ks vs (.int i) = some none ∧ f i = i) ∨ dlook ks vs (.int i) = some (some (.int (f i)))
theorem get_ok {w : D} {f : Int → Int} (h : WD w f) {i : Int} {σ : PS} {S : Sto} {fo : Ex} {fs : Exs} (h1 : fo σ S = some (.p w, S)) (h2 : fs σ S = some ([.p (.int i), .p (.int i)], S)) : sGet2 fo fs σ S = some (.p (.int (f i)), S) := by
  obtain ⟨ks, vs, rfl, hl⟩ := h
  rcases hl i with ⟨e1, e2⟩ | e1
  · simp [sVar_ap, sC_ap, sNil_ap, sCons_ap, sTup_ap, sLst_ap, sMut_ap, s2_ap, sChain_ap, sAnd_ap, sOr_ap, sNot_ap, sIf_ap, s1_ap, sNoPart_ap, sPart_ap, sSl_ap, sCB_ap, sCall_ap, sSkip_ap, sSeq_ap, sRet_ap, sRetN_ap, sDrop_ap, sIfS_ap, sBad_ap, gN_ap, gT_ap, sAsg_ap, sPar_ap, sSetIx_ap, sApp_ap, sIt_ap, sRng1_ap, sRng2_ap, sYes_ap, sZip_ap, sGet2_ap, runB_ap, runK_ap, sIsi_ap, gAll, begin_, endF, rd, rds, purs, pur, isi, dCmp, dInt, mulOk, sizeLine_eq, h1, h2, e1, e2]
  · simp [sVar_ap, sC_ap, sNil_ap, sCons_ap, sTup_ap, sLst_ap, sMut_ap, s2_ap, sChain_ap, sAnd_ap, sOr_ap, sNot_ap, sIf_ap, s1_ap, sNoPart_ap, sPart_ap, sSl_ap, sCB_ap, sCall_ap, sSkip_ap, sSeq_ap, sRet_ap, sRetN_ap, sDrop_ap, sIfS_ap, sBad_ap, gN_ap, gT_ap, sAsg_ap, sPar_ap, sSetIx_ap, sApp_ap, sIt_ap, sRng1_ap, sRng2_ap, sYes_ap, sZip_ap, sGet2_ap, runB_ap, runK_ap, sIsi_ap, gAll, begin_, endF, rd, rds, purs, pur, isi, dCmp, dInt, mulOk, sizeLine_eq, h1, h2, e1]
theorem row_by {w : D} {f : Int → Int} (h : WD w f) (row : List Int) (hl : row.length ≤ 1000) (S : Sto) : F_row_by [.p (.tup (row.map .int)), .p w] S = some (.p (.tup ((row.map f).map .int)), S) := by
  have lc : ∀ S : Sto, sLC (sIt (sVar 0)) (gN 2) (sYes) (sGet2 (sVar 1) (sCons (sVar 2) (sCons (sVar 2) (sNil)))) [2] [some (.p (.tup (row.map .int))), some (.p w), none] S = some (.p (.lst ((row.map f).map .int)), S) := fun S => by
    have := sLC_all (S := S) (S1 := S) (it := sIt (sVar 0)) (g := gN 2) (e := sGet2 (sVar 1) (sCons (sVar 2) (sCons (sVar 2) (sNil)))) (vs := [2]) (σ := [some (.p (.tup (row.map .int))), some (.p w), none]) (xs := row) (c := D.int) (f := fun i => D.int (f i)) (by simp [sVar_ap, sC_ap, sNil_ap, sCons_ap, sTup_ap, sLst_ap, sMut_ap, s2_ap, sChain_ap, sAnd_ap, sOr_ap, sNot_ap, sIf_ap, s1_ap, sNoPart_ap, sPart_ap, sSl_ap, sCB_ap, sCall_ap, sSkip_ap, sSeq_ap, sRet_ap, sRetN_ap, sDrop_ap, sIfS_ap, sBad_ap, gN_ap, gT_ap, sAsg_ap, sPar_ap, sSetIx_ap, sApp_ap, sIt_ap, sRng1_ap, sRng2_ap, sYes_ap, sZip_ap, sGet2_ap, runB_ap, runK_ap, sIsi_ap, gAll, begin_, endF, rd, rds, purs, pur, isi, dCmp, dInt, mulOk, sizeLine_eq]) (fun i hi => ⟨[some (.p (.tup (row.map .int))), some (.p w), some (.p (.int i))], rfl, fun S => get_ok h rfl rfl⟩) (by omega)
    rw [this, List.map_map]
    rfl
  simp [sVar_ap, sC_ap, sNil_ap, sCons_ap, sTup_ap, sLst_ap, sMut_ap, s2_ap, sChain_ap, sAnd_ap, sOr_ap, sNot_ap, sIf_ap, s1_ap, sNoPart_ap, sPart_ap, sSl_ap, sCB_ap, sCall_ap, sSkip_ap, sSeq_ap, sRet_ap, sRetN_ap, sDrop_ap, sIfS_ap, sBad_ap, gN_ap, gT_ap, sAsg_ap, sPar_ap, sSetIx_ap, sApp_ap, sIt_ap, sRng1_ap, sRng2_ap, sYes_ap, sZip_ap, sGet2_ap, runB_ap, runK_ap, sIsi_ap, gAll, begin_, endF, rd, rds, purs, pur, isi, dCmp, dInt, mulOk, sizeLine_eq, F_row_by, b_row_by, lc, dTuple]
theorem any_map {α : Type} (f : α → Bool) (xs : List α) : dAny [.lst (xs.map fun x => D.bl (f x))] = some (.bl (xs.any f)) := by
  show (boolsOf (xs.map fun x => D.bl (f x))).map (fun bs => D.bl (bs.any id)) = _
  rw [boolsOf_map]
  simp
theorem ok_bools {α : Type} (f : α → Bool) (n : Nat) : ∀ xs : List α, okDs n (xs.map fun x => D.bl (f x)) = true
  | [] => by simp [okDs]
  | x :: xs => by
    rw [List.map_cons]
    unfold okDs
    rw [ok_bools f n xs]
    cases n <;> rfl
theorem in_bools {α : Type} (f : α → Bool) (b : Bool) (p : Bool → Bool) (xs : List α) : dInP p (.bl b) (.lst (xs.map fun x => D.bl (f x))) = some (.bl (p (xs.any fun x => f x == b))) := by
  have h1 : okD 64 (.lst (xs.map fun x => D.bl (f x))) = true := ok_bools f 63 xs
  have h2 : okD 64 (.bl b) = true := rfl
  show (match okD 64 (.bl b) && okD 64 (.lst (xs.map fun x => D.bl (f x))) with | true => _ | false => _) = _
  rw [h1, h2, List.any_map]
  rfl
theorem all_word : (("all" : Str) == "same") = false := by decide +kernel
theorem some_word : (("some" : Str) == "same") = false := by decide +kernel
theorem all_word2 : (("all" : Str) == "not") = false := by decide +kernel
theorem some_word2 : (("some" : Str) == "not") = false := by decide +kernel
theorem some_word3 : (("some" : Str) == "all") = false := by decide +kernel
theorem not_word : (("not" : Str) == "same") = false := by decide +kernel
theorem all_eq (f : D → Bool) (cs : List D) : (!(cs.any fun x => f x == false)) = cs.all f := by
  rw [Bool.eq_iff_iff]
  simp [List.any_eq_false]
theorem any_eq (f : D → Bool) (cs : List D) : (cs.any fun x => f x == true) = cs.any f := by
  rw [Bool.eq_iff_iff]
  simp
theorem cut2 (a b c : D) : EV.cutD [a, b, c] (some 1) none = [b, c] := rfl
theorem holds {us : List Int} {w : D} {f : Int → Int} (h : WD w f) : ∀ (n m k : Nat) (d : D), n < m → n < k → CnD us n d → ∃ b, (∀ S, F_holds_by m [.p d, .p w] S = some (.p (.bl b), S)) ∧ ∀ S, F__law_true k [.p d, .p w] S = some (.p (.bl b), S) := by
  have same : ∀ (m k : Nat) (a b : Int), ∃ r, (∀ S, F_holds_by (m + 1) [.p (.tup [.str "same", .int a, .int b]), .p w] S = some (.p (.bl r), S)) ∧ ∀ S, F__law_true (k + 1) [.p (.tup [.str "same", .int a, .int b]), .p w] S = some (.p (.bl r), S) := by
    intro m k a b
    have r1 : ∀ xs S, F_holds_by (m + 1) xs S = runB 3 (b_holds_by (F_holds_by m)) xs S := fun _ _ => rfl
    have r2 : ∀ xs S, F__law_true (k + 1) xs S = runB 7 (b__law_true (F__law_true k)) xs S := fun _ _ => rfl
    have e1 := eq_str ok_same ok_same
    simp only [BEq.rfl] at e1
    have i0 := ix0 (.str "same") [.int a, .int b]
    have i1 := ix1 (.str "same") (.int a) [.int b]
    have i2 : dIx (.tup [.str "same", .int a, .int b]) (.int 2) = some (.int b) := rfl
    refine ⟨f a == f b, fun S => ?_, fun S => ?_⟩
    · have g1 := get_ok (fo := sVar 1) (fs := sCons (s2 dIx (sVar 0) (sC (.int 1))) (sCons (s2 dIx (sVar 0) (sC (.int 1))) (sNil))) (σ := [some (.p (.tup [.str "same", .int a, .int b])), some (.p w), none]) (S := S) (i := a) h rfl (by simp [sVar_ap, sC_ap, sNil_ap, sCons_ap, sTup_ap, sLst_ap, sMut_ap, s2_ap, sChain_ap, sAnd_ap, sOr_ap, sNot_ap, sIf_ap, s1_ap, sNoPart_ap, sPart_ap, sSl_ap, sCB_ap, sCall_ap, sSkip_ap, sSeq_ap, sRet_ap, sRetN_ap, sDrop_ap, sIfS_ap, sBad_ap, gN_ap, gT_ap, sAsg_ap, sPar_ap, sSetIx_ap, sApp_ap, sIt_ap, sRng1_ap, sRng2_ap, sYes_ap, sZip_ap, sGet2_ap, runB_ap, runK_ap, sIsi_ap, gAll, begin_, endF, rd, rds, purs, pur, isi, dCmp, dInt, mulOk, sizeLine_eq, i1])
      have g2 := get_ok (fo := sVar 1) (fs := sCons (s2 dIx (sVar 0) (sC (.int 2))) (sCons (s2 dIx (sVar 0) (sC (.int 2))) (sNil))) (σ := [some (.p (.tup [.str "same", .int a, .int b])), some (.p w), none]) (S := S) (i := b) h rfl (by simp [sVar_ap, sC_ap, sNil_ap, sCons_ap, sTup_ap, sLst_ap, sMut_ap, s2_ap, sChain_ap, sAnd_ap, sOr_ap, sNot_ap, sIf_ap, s1_ap, sNoPart_ap, sPart_ap, sSl_ap, sCB_ap, sCall_ap, sSkip_ap, sSeq_ap, sRet_ap, sRetN_ap, sDrop_ap, sIfS_ap, sBad_ap, gN_ap, gT_ap, sAsg_ap, sPar_ap, sSetIx_ap, sApp_ap, sIt_ap, sRng1_ap, sRng2_ap, sYes_ap, sZip_ap, sGet2_ap, runB_ap, runK_ap, sIsi_ap, gAll, begin_, endF, rd, rds, purs, pur, isi, dCmp, dInt, mulOk, sizeLine_eq, i2])
      rw [r1]
      generalize hg : sGet2 = gg at g1 g2
      unfold b_holds_by
      rw [hg]
      simp [sVar_ap, sC_ap, sNil_ap, sCons_ap, sTup_ap, sLst_ap, sMut_ap, s2_ap, sChain_ap, sAnd_ap, sOr_ap, sNot_ap, sIf_ap, s1_ap, sNoPart_ap, sPart_ap, sSl_ap, sCB_ap, sCall_ap, sSkip_ap, sSeq_ap, sRet_ap, sRetN_ap, sDrop_ap, sIfS_ap, sBad_ap, gN_ap, gT_ap, sAsg_ap, sPar_ap, sSetIx_ap, sApp_ap, sIt_ap, sRng1_ap, sRng2_ap, sYes_ap, sZip_ap, sGet2_ap, runB_ap, runK_ap, sIsi_ap, gAll, begin_, endF, rd, rds, purs, pur, isi, dCmp, dInt, mulOk, sizeLine_eq, i0, e1, g1, g2, eq_int]
    · have g1 := get_ok (fo := sVar 1) (fs := sCons (sVar 4) (sCons (sVar 4) (sNil))) (σ := [some (.p (.tup [.str "same", .int a, .int b])), some (.p w), some (.p (.str "same")), none, some (.p (.int a)), some (.p (.int b)), none]) (S := S) (i := a) h rfl rfl
      have g2 := get_ok (fo := sVar 1) (fs := sCons (sVar 5) (sCons (sVar 5) (sNil))) (σ := [some (.p (.tup [.str "same", .int a, .int b])), some (.p w), some (.p (.str "same")), none, some (.p (.int a)), some (.p (.int b)), none]) (S := S) (i := b) h rfl rfl
      rw [r2]
      generalize hg : sGet2 = gg at g1 g2
      unfold b__law_true
      rw [hg]
      simp [sVar_ap, sC_ap, sNil_ap, sCons_ap, sTup_ap, sLst_ap, sMut_ap, s2_ap, sChain_ap, sAnd_ap, sOr_ap, sNot_ap, sIf_ap, s1_ap, sNoPart_ap, sPart_ap, sSl_ap, sCB_ap, sCall_ap, sSkip_ap, sSeq_ap, sRet_ap, sRetN_ap, sDrop_ap, sIfS_ap, sBad_ap, gN_ap, gT_ap, sAsg_ap, sPar_ap, sSetIx_ap, sApp_ap, sIt_ap, sRng1_ap, sRng2_ap, sYes_ap, sZip_ap, sGet2_ap, runB_ap, runK_ap, sIsi_ap, gAll, begin_, endF, rd, rds, purs, pur, isi, dCmp, dInt, mulOk, sizeLine_eq, i0, e1, cut2, g1, g2, eq_int]
  intro n
  induction n with
  | zero =>
    rintro m k d hm hk ⟨a, b, _, _, rfl⟩
    obtain ⟨m, rfl⟩ : ∃ m', m = m' + 1 := ⟨m - 1, by omega⟩
    obtain ⟨k, rfl⟩ : ∃ k', k = k' + 1 := ⟨k - 1, by omega⟩
    exact same m k a b
  | succ n ih =>
    rintro m k d hm hk hd
    obtain ⟨m, rfl⟩ : ∃ m', m = m' + 1 := ⟨m - 1, by omega⟩
    obtain ⟨k, rfl⟩ : ∃ k', k = k' + 1 := ⟨k - 1, by omega⟩
    have r1 : ∀ xs S, F_holds_by (m + 1) xs S = runB 3 (b_holds_by (F_holds_by m)) xs S := fun _ _ => rfl
    have r2 : ∀ xs S, F__law_true (k + 1) xs S = runB 7 (b__law_true (F__law_true k)) xs S := fun _ _ => rfl
    rcases hd with ⟨a, b, _, _, rfl⟩ | ⟨c, hc, rfl⟩ | ⟨x, cs, hx, hl, hcs, rfl⟩
    · exact same m k a b
    · obtain ⟨b, h1, h2⟩ := ih m k c (by omega) (by omega) hc
      have e1 := eq_str ok_not ok_same
      rw [not_word] at e1
      have e2 := eq_str ok_not ok_not
      simp only [BEq.rfl] at e2
      have i0 := ix0 (.str "not") [c]
      have i1 := ix1 (.str "not") c []
      refine ⟨!b, fun S => ?_, fun S => ?_⟩
      · rw [r1]
        simp [sVar_ap, sC_ap, sNil_ap, sCons_ap, sTup_ap, sLst_ap, sMut_ap, s2_ap, sChain_ap, sAnd_ap, sOr_ap, sNot_ap, sIf_ap, s1_ap, sNoPart_ap, sPart_ap, sSl_ap, sCB_ap, sCall_ap, sSkip_ap, sSeq_ap, sRet_ap, sRetN_ap, sDrop_ap, sIfS_ap, sBad_ap, gN_ap, gT_ap, sAsg_ap, sPar_ap, sSetIx_ap, sApp_ap, sIt_ap, sRng1_ap, sRng2_ap, sYes_ap, sZip_ap, sGet2_ap, runB_ap, runK_ap, sIsi_ap, gAll, begin_, endF, rd, rds, purs, pur, isi, dCmp, dInt, mulOk, sizeLine_eq, b_holds_by, i0, i1, e1, e2, h1]
      · rw [r2]
        simp [sVar_ap, sC_ap, sNil_ap, sCons_ap, sTup_ap, sLst_ap, sMut_ap, s2_ap, sChain_ap, sAnd_ap, sOr_ap, sNot_ap, sIf_ap, s1_ap, sNoPart_ap, sPart_ap, sSl_ap, sCB_ap, sCall_ap, sSkip_ap, sSeq_ap, sRet_ap, sRetN_ap, sDrop_ap, sIfS_ap, sBad_ap, gN_ap, gT_ap, sAsg_ap, sPar_ap, sSetIx_ap, sApp_ap, sIt_ap, sRng1_ap, sRng2_ap, sYes_ap, sZip_ap, sGet2_ap, runB_ap, runK_ap, sIsi_ap, gAll, begin_, endF, rd, rds, purs, pur, isi, dCmp, dInt, mulOk, sizeLine_eq, b__law_true, i0, i1, e1, e2, h2]
    · obtain ⟨p, hp⟩ : ∃ p : D → Bool, ∀ c ∈ cs, (∀ S, F_holds_by m [.p c, .p w] S = some (.p (.bl (p c)), S)) ∧ ∀ S, F__law_true k [.p c, .p w] S = some (.p (.bl (p c)), S) := by
        classical
        refine ⟨fun c => if hc : c ∈ cs then Classical.choose (ih m k c (by omega) (by omega) (hcs c hc)) else false, fun c hc => ?_⟩
        simp only [dif_pos hc]
        exact Classical.choose_spec (ih m k c (by omega) (by omega) (hcs c hc))
      have i0 := ix0 (.str x) [.tup cs]
      have i1 := ix1 (.str x) (.tup cs) []
      have l1 : ∀ S : Sto, sLC (sIt (s2 dIx (sVar 0) (sC (.int 1)))) (gN 2) (sYes) (sCall 2 (F_holds_by m) (sCons (sVar 2) (sCons (sVar 1) (sNil)))) [2] [some (.p (.tup [.str x, .tup cs])), some (.p w), none] S = some (.p (.lst (cs.map fun c => .bl (p c))), S) := fun S => by
        refine sLC_all (xs := cs) (c := id) (f := fun c => .bl (p c)) (by simp [sVar_ap, sC_ap, sNil_ap, sCons_ap, sTup_ap, sLst_ap, sMut_ap, s2_ap, sChain_ap, sAnd_ap, sOr_ap, sNot_ap, sIf_ap, s1_ap, sNoPart_ap, sPart_ap, sSl_ap, sCB_ap, sCall_ap, sSkip_ap, sSeq_ap, sRet_ap, sRetN_ap, sDrop_ap, sIfS_ap, sBad_ap, gN_ap, gT_ap, sAsg_ap, sPar_ap, sSetIx_ap, sApp_ap, sIt_ap, sRng1_ap, sRng2_ap, sYes_ap, sZip_ap, sGet2_ap, runB_ap, runK_ap, sIsi_ap, gAll, begin_, endF, rd, rds, purs, pur, isi, dCmp, dInt, mulOk, sizeLine_eq, i1]) (fun c hc => ⟨[some (.p (.tup [.str x, .tup cs])), some (.p w), some (.p c)], rfl, fun S => ?_⟩) (by omega)
        simp [sVar_ap, sC_ap, sNil_ap, sCons_ap, sTup_ap, sLst_ap, sMut_ap, s2_ap, sChain_ap, sAnd_ap, sOr_ap, sNot_ap, sIf_ap, s1_ap, sNoPart_ap, sPart_ap, sSl_ap, sCB_ap, sCall_ap, sSkip_ap, sSeq_ap, sRet_ap, sRetN_ap, sDrop_ap, sIfS_ap, sBad_ap, gN_ap, gT_ap, sAsg_ap, sPar_ap, sSetIx_ap, sApp_ap, sIt_ap, sRng1_ap, sRng2_ap, sYes_ap, sZip_ap, sGet2_ap, runB_ap, runK_ap, sIsi_ap, gAll, begin_, endF, rd, rds, purs, pur, isi, dCmp, dInt, mulOk, sizeLine_eq, (hp c hc).1]
      have l2 : ∀ S : Sto, sLC (sIt (s2 dIx (sVar 0) (sC (.int 1)))) (gN 6) (sYes) (sCall 2 (F__law_true k) (sCons (sVar 6) (sCons (sVar 1) (sNil)))) [6] [some (.p (.tup [.str x, .tup cs])), some (.p w), some (.p (.str x)), none, none, none, none] S = some (.p (.lst (cs.map fun c => .bl (p c))), S) := fun S => by
        refine sLC_all (xs := cs) (c := id) (f := fun c => .bl (p c)) (by simp [sVar_ap, sC_ap, sNil_ap, sCons_ap, sTup_ap, sLst_ap, sMut_ap, s2_ap, sChain_ap, sAnd_ap, sOr_ap, sNot_ap, sIf_ap, s1_ap, sNoPart_ap, sPart_ap, sSl_ap, sCB_ap, sCall_ap, sSkip_ap, sSeq_ap, sRet_ap, sRetN_ap, sDrop_ap, sIfS_ap, sBad_ap, gN_ap, gT_ap, sAsg_ap, sPar_ap, sSetIx_ap, sApp_ap, sIt_ap, sRng1_ap, sRng2_ap, sYes_ap, sZip_ap, sGet2_ap, runB_ap, runK_ap, sIsi_ap, gAll, begin_, endF, rd, rds, purs, pur, isi, dCmp, dInt, mulOk, sizeLine_eq, i1]) (fun c hc => ⟨[some (.p (.tup [.str x, .tup cs])), some (.p w), some (.p (.str x)), none, none, none, some (.p c)], rfl, fun S => ?_⟩) (by omega)
        simp [sVar_ap, sC_ap, sNil_ap, sCons_ap, sTup_ap, sLst_ap, sMut_ap, s2_ap, sChain_ap, sAnd_ap, sOr_ap, sNot_ap, sIf_ap, s1_ap, sNoPart_ap, sPart_ap, sSl_ap, sCB_ap, sCall_ap, sSkip_ap, sSeq_ap, sRet_ap, sRetN_ap, sDrop_ap, sIfS_ap, sBad_ap, gN_ap, gT_ap, sAsg_ap, sPar_ap, sSetIx_ap, sApp_ap, sIt_ap, sRng1_ap, sRng2_ap, sYes_ap, sZip_ap, sGet2_ap, runB_ap, runK_ap, sIsi_ap, gAll, begin_, endF, rd, rds, purs, pur, isi, dCmp, dInt, mulOk, sizeLine_eq, (hp c hc).2]
      have al := dAll_map (f := p) cs
      have an := any_map p cs
      have nf := in_bools p false not cs
      rw [all_eq] at nf
      have nt := in_bools p true id cs
      simp only [id] at nt
      rw [any_eq] at nt
      have nt' : dInP id (.bl true) (.lst (cs.map fun c => .bl (p c))) = some (.bl (cs.any p)) := nt
      rcases hx with rfl | rfl
      · have e1 := eq_str ok_all ok_same
        rw [all_word] at e1
        have e2 := eq_str ok_all ok_not
        rw [all_word2] at e2
        have e3 := eq_str ok_all ok_all
        simp only [BEq.rfl] at e3
        refine ⟨cs.all p, fun S => ?_, fun S => ?_⟩
        · rw [r1]
          simp [sVar_ap, sC_ap, sNil_ap, sCons_ap, sTup_ap, sLst_ap, sMut_ap, s2_ap, sChain_ap, sAnd_ap, sOr_ap, sNot_ap, sIf_ap, s1_ap, sNoPart_ap, sPart_ap, sSl_ap, sCB_ap, sCall_ap, sSkip_ap, sSeq_ap, sRet_ap, sRetN_ap, sDrop_ap, sIfS_ap, sBad_ap, gN_ap, gT_ap, sAsg_ap, sPar_ap, sSetIx_ap, sApp_ap, sIt_ap, sRng1_ap, sRng2_ap, sYes_ap, sZip_ap, sGet2_ap, runB_ap, runK_ap, sIsi_ap, gAll, begin_, endF, rd, rds, purs, pur, isi, dCmp, dInt, mulOk, sizeLine_eq, b_holds_by, i0, i1, e1, e2, e3, l1, al]
        · rw [r2]
          simp [sVar_ap, sC_ap, sNil_ap, sCons_ap, sTup_ap, sLst_ap, sMut_ap, s2_ap, sChain_ap, sAnd_ap, sOr_ap, sNot_ap, sIf_ap, s1_ap, sNoPart_ap, sPart_ap, sSl_ap, sCB_ap, sCall_ap, sSkip_ap, sSeq_ap, sRet_ap, sRetN_ap, sDrop_ap, sIfS_ap, sBad_ap, gN_ap, gT_ap, sAsg_ap, sPar_ap, sSetIx_ap, sApp_ap, sIt_ap, sRng1_ap, sRng2_ap, sYes_ap, sZip_ap, sGet2_ap, runB_ap, runK_ap, sIsi_ap, gAll, begin_, endF, rd, rds, purs, pur, isi, dCmp, dInt, mulOk, sizeLine_eq, b__law_true, i0, i1, e1, e2, e3, l2, nf]
      · have e1 := eq_str ok_some ok_same
        rw [some_word] at e1
        have e2 := eq_str ok_some ok_not
        rw [some_word2] at e2
        have e3 := eq_str ok_some ok_all
        rw [some_word3] at e3
        refine ⟨cs.any p, fun S => ?_, fun S => ?_⟩
        · rw [r1]
          simp [sVar_ap, sC_ap, sNil_ap, sCons_ap, sTup_ap, sLst_ap, sMut_ap, s2_ap, sChain_ap, sAnd_ap, sOr_ap, sNot_ap, sIf_ap, s1_ap, sNoPart_ap, sPart_ap, sSl_ap, sCB_ap, sCall_ap, sSkip_ap, sSeq_ap, sRet_ap, sRetN_ap, sDrop_ap, sIfS_ap, sBad_ap, gN_ap, gT_ap, sAsg_ap, sPar_ap, sSetIx_ap, sApp_ap, sIt_ap, sRng1_ap, sRng2_ap, sYes_ap, sZip_ap, sGet2_ap, runB_ap, runK_ap, sIsi_ap, gAll, begin_, endF, rd, rds, purs, pur, isi, dCmp, dInt, mulOk, sizeLine_eq, b_holds_by, i0, i1, e1, e2, e3, l1, an]
        · rw [r2]
          simp [sVar_ap, sC_ap, sNil_ap, sCons_ap, sTup_ap, sLst_ap, sMut_ap, s2_ap, sChain_ap, sAnd_ap, sOr_ap, sNot_ap, sIf_ap, s1_ap, sNoPart_ap, sPart_ap, sSl_ap, sCB_ap, sCall_ap, sSkip_ap, sSeq_ap, sRet_ap, sRetN_ap, sDrop_ap, sIfS_ap, sBad_ap, gN_ap, gT_ap, sAsg_ap, sPar_ap, sSetIx_ap, sApp_ap, sIt_ap, sRng1_ap, sRng2_ap, sYes_ap, sZip_ap, sGet2_ap, runB_ap, runK_ap, sIsi_ap, gAll, begin_, endF, rd, rds, purs, pur, isi, dCmp, dInt, mulOk, sizeLine_eq, b__law_true, i0, i1, e1, e2, e3, l2, nt']
end K48

set_option Elab.async false
set_option linter.all false
set_option maxRecDepth 100000
set_option maxHeartbeats 1000000
namespace K48
open PySem PySem.Spec PyProof.Rows L2 EV
def UL : List (List Int) := [[], [-1], [-2, -1], [-5, -1], [-6, -3], [-3, -2, -1]]
theorem look_ints (i : Int) : ∀ us fs : List Int, us.length = fs.length → lookK (.inl (.inl i)) (us.map D.int) (fs.map D.int) = some none ∨ ∃ j, lookK (.inl (.inl i)) (us.map D.int) (fs.map D.int) = some (some (.int j))
  | [], [], _ => .inl rfl
  | u :: us, f :: fs, h => by
    rw [List.map_cons, List.map_cons, look_inl (a := .inl u) rfl]
    by_cases e : (Sum.inl u : Key) = .inl i
    · rw [if_pos e]; exact .inr ⟨f, rfl⟩
    · rw [if_neg e]; exact look_ints i us fs (by simpa using h)
  | [], _ :: _, h => by cases h
  | _ :: _, [], h => by cases h
theorem wd_of {us fs : List Int} (h : us.length = fs.length) : ∃ f, WD (.dct (us.map D.int) (fs.map D.int)) f := by
  refine ⟨fun i => match lookK (.inl (.inl i)) (us.map D.int) (fs.map D.int) with
    | some (some (.int j)) => j
    | _ => i, _, _, rfl, fun i => ?_⟩
  show (lookK _ _ _ = _ ∧ _) ∨ lookK _ _ _ = _
  rcases look_ints i us fs h with e | ⟨j, e⟩
  · left
    exact ⟨e, by show (match lookK (.inl (.inl i)) (us.map D.int) (fs.map D.int) with | some (some (.int j)) => j | _ => i) = i; rw [e]⟩
  · right
    show lookK (.inl (.inl i)) _ _ = some (some (.int (match lookK (.inl (.inl i)) (us.map D.int) (fs.map D.int) with | some (some (.int j)) => j | _ => i)))
    rw [e]
theorem worths {us fs : List Int} (hu : us ∈ UL) (h : us.length = fs.length) (c : List D) : F_worths_by [.p (uD us), .p (uD fs)] [c] = some (.p (.dct (us.map D.int) (fs.map D.int)), [c]) := by
  simp only [UL, List.mem_cons, List.not_mem_nil, or_false] at hu
  rcases hu with rfl | rfl | rfl | rfl | rfl | rfl
  · match fs, h with
    | [], _ => rfl
  · match fs, h with
    | [a], _ => rfl
  · match fs, h with
    | [a, b], _ => rfl
  · match fs, h with
    | [a, b], _ => rfl
  · match fs, h with
    | [a, b], _ => rfl
  · match fs, h with
    | [a, b, d], _ => rfl
theorem need_u {us : List Int} (hu : us ∈ UL) (c : List D) : F_need_unknowns [.p (uD us)] [c] = some (.p .non, [c]) := by
  simp only [UL, List.mem_cons, List.not_mem_nil, or_false] at hu
  rcases hu with rfl | rfl | rfl | rfl | rfl | rfl <;> kernel_rfl
theorem ul_len {us : List Int} (hu : us ∈ UL) : us.length ≤ 3 := by
  simp only [UL, List.mem_cons, List.not_mem_nil, or_false] at hu
  rcases hu with rfl | rfl | rfl | rfl | rfl | rfl <;> decide
theorem ul_neg {us : List Int} (hu : us ∈ UL) : ∀ a ∈ us, -6 ≤ a ∧ a ≤ -1 := by
  simp only [UL, List.mem_cons, List.not_mem_nil, or_false] at hu
  rcases hu with rfl | rfl | rfl | rfl | rfl | rfl <;> (intro a ha; first | (simp at ha; done) | (simp at ha; omega))
theorem cell_ok {us : List Int} (hu : us ∈ UL) {a : Int} (h : CellI us a) : cellB us (.int a) = true := by
  unfold cellB
  rcases h with h | h
  · obtain ⟨h1, h2⟩ := ul_neg hu a h
    have e : wholeB (-6) (-1) (.int a) = true := by simp [wholeB, h1, h2]
    have e2 : inU us (.int a) = true := by
      unfold inU
      rw [List.any_eq_true]
      exact ⟨.int a, List.mem_map.mpr ⟨a, h, rfl⟩, by simp [eqv]⟩
    rw [e, e2]
    simp
  · have : wholeB 0 1000000 (.int a) = true := by
      simp [wholeB]
      omega
    rw [this]
    rfl
theorem sum_le {f : D → Nat} {b : Nat} : ∀ {cs : List D}, (∀ c ∈ cs, f c ≤ b) → (cs.map f).sum ≤ cs.length * b
  | [], _ => by simp
  | c :: cs, h => by
    have h1 := h c (by simp)
    have h2 := sum_le (f := f) (b := b) (cs := cs) fun x hx => h x (by simp [hx])
    rw [List.map_cons, List.sum_cons, List.length_cons, Nat.add_mul]
    omega
theorem wt_le {us : List Int} (hu : us ∈ UL) : ∀ (n k : Nat) (d : D), CnD us n d → n < k → Wt us k d ≤ 4 ^ (n + 1) := by
  have same : ∀ (k : Nat) (a b : Int), CellI us a → CellI us b → Wt us (k + 1) (.tup [.str "same", .int a, .int b]) = 1 := fun k a b ha hb => by
    have : partsD us (.tup [.str "same", .int a, .int b]) = some [] := by simp [partsD, cell_ok hu ha, cell_ok hu hb]
    unfold Wt
    rw [this]
    rfl
  intro n
  induction n with
  | zero =>
    rintro k d ⟨a, b, ha, hb, rfl⟩ hk
    obtain ⟨k, rfl⟩ : ∃ k', k = k' + 1 := ⟨k - 1, by omega⟩
    rw [same k a b ha hb]
    decide
  | succ n ih =>
    intro k d hd hk
    obtain ⟨k, rfl⟩ : ∃ k', k = k' + 1 := ⟨k - 1, by omega⟩
    have pp : 0 < 4 ^ (n + 1) := Nat.pow_pos (by decide)
    have p4 : 4 ^ (n + 1 + 1) = 4 * 4 ^ (n + 1) := by rw [Nat.pow_succ, Nat.mul_comm]
    rcases hd with ⟨a, b, ha, hb, rfl⟩ | ⟨c, hc, rfl⟩ | ⟨x, cs, hx, hl, hcs, rfl⟩
    · rw [same k a b ha hb]; omega
    · have e : partsD us (.tup [.str "not", c]) = some [c] := by simp [partsD]
      unfold Wt
      rw [e]
      have := ih k c hc (by omega)
      simp only [List.map_cons, List.map_nil, List.sum_cons, List.sum_nil]
      omega
    · have ao : andOr x = true := by rcases hx with rfl | rfl <;> decide +kernel
      obtain ⟨n1, n2⟩ := not_same_andOr ao
      have l1000 : cs.length ≤ 1000 := by omega
      have e : partsD us (.tup [.str x, .tup cs]) = some cs := by simp [partsD, ao, n1, n2, l1000]
      unfold Wt
      rw [e]
      have := sum_le (f := Wt us k) (b := 4 ^ (n + 1)) (cs := cs) fun c hc => ih k c (hcs c hc) (by omega)
      have : cs.length * 4 ^ (n + 1) ≤ 3 * 4 ^ (n + 1) := Nat.mul_le_mul_right _ hl
      simp only
      omega
theorem fg_true {us : List Int} (hu : us ∈ UL) {cols : Nat} (hc : cols ≤ 6) {g : D} (h : GOK us cols g) : fgB us g = true := by
  obtain ⟨es, rfl, hl, he⟩ := h
  have h1 : (cols : Int) ≤ 6 := by omega
  have h2 : es.length ≤ 200 := by omega
  have h3 : es.all (entryB us cols) = true := by
    rw [List.all_eq_true]
    intro e hm
    obtain ⟨row, cond, rfl, hr, hrow, hcd⟩ := he e hm
    have w := wt_le hu 2 13 cond hcd (by decide)
    have w2 : Wt us 13 cond ≤ 1000 := Nat.le_trans w (by decide)
    have ra : ((row.map D.int).all (cellB us)) = true := by
      rw [List.all_eq_true]
      intro x hx
      obtain ⟨a, ha, rfl⟩ := List.mem_map.mp hx
      exact cell_ok hu (hrow a ha)
    simp only [entryB]
    rw [ra, decide_eq_true w2, decide_eq_true (by rw [List.length_map, hr])]
    rfl
  simp only [fgB]
  rw [h3, decide_eq_true h1, decide_eq_true h2, decide_eq_true (Int.natCast_nonneg cols)]
  rfl
theorem tups_ints : ∀ ks : List (List Int), tupsOf (ks.map fun k => D.tup (k.map .int)) = some ks
  | [] => rfl
  | k :: ks => by
    have h : ∀ k : List Int, intsOf (k.map D.int) = some k := by
      intro k
      induction k with
      | nil => rfl
      | cons i k ih =>
        rw [List.map_cons]
        show (intsOf _).map _ = _
        rw [ih]
        rfl
    rw [List.map_cons]
    show (match intsOf (k.map D.int), tupsOf (ks.map fun k => D.tup (k.map .int)) with | some k, some ks => some (k :: ks) | _, _ => none) = _
    rw [h, tups_ints ks]
theorem set_ok {ks : List (List Int)} {n : Nat} (hl : ks.length < 64) (hn : ∀ k ∈ ks, k.length = n) : dSetT [.lst (ks.map fun k => D.tup (k.map .int))] = some (.lst ((sortU ltI ks).map fun k => .tup (k.map .int))) := by
  show (match tupsOf (ks.map fun k => D.tup (k.map .int)) with | some ks => _ | none => none) = _
  rw [tups_ints]
  have : (decide (ks.length < 64) && (ks.all (fun k => k.isEmpty) || ks.all (fun k => !k.isEmpty))) = true := by
    rw [decide_eq_true hl]
    cases n with
    | zero =>
      have : ks.all (fun k => k.isEmpty) = true := List.all_eq_true.mpr fun k hk => List.isEmpty_iff.mpr (List.length_eq_zero_iff.mp (hn k hk))
      rw [this]; rfl
    | succ n =>
      have : ks.all (fun k => !k.isEmpty) = true := List.all_eq_true.mpr fun k hk => by
        have q := hn k hk
        match k, q with
        | _ :: _, _ => rfl
      rw [this]; simp
  simp only [this]
theorem pairs_from {us : List Int} {cols : Nat} : ∀ {es : List D}, (∀ e ∈ es, EntOK us cols e) → ∃ xs : List (List Int × D), es = xs.map (fun x => D.tup [.tup (x.1.map .int), x.2]) ∧ ∀ x ∈ xs, x.1.length = cols ∧ CnD us 2 x.2
  | [], _ => ⟨[], rfl, by simp⟩
  | e :: es, h => by
    obtain ⟨row, cond, rfl, h1, _, h3⟩ := h e (by simp)
    obtain ⟨xs, rfl, hx⟩ := pairs_from (es := es) fun z hz => h z (by simp [hz])
    refine ⟨(row, cond) :: xs, rfl, fun x hm => ?_⟩
    rcases List.mem_cons.mp hm with q | q
    · rw [q]; exact ⟨h1, h3⟩
    · exact hx x q
theorem full {us : List Int} {cols : Nat} (hc : cols ≤ 6) {g w : D} {f : Int → Int} (h : GOK us cols g) (hw : WD w f) : ∃ ks : List (List Int), (∀ S, F_filled_guarded [.p g, .p w] S = some (.p (.tup (ks.map fun k => .tup (k.map .int))), S)) ∧ ∀ S, F__law_full [.p g, .p w] S = some (.p (.tup (ks.map fun k => .tup (k.map .int))), S) := by
  obtain ⟨es, rfl, hl, he⟩ := h
  obtain ⟨xs, rfl, hx⟩ := pairs_from he
  rw [List.length_map] at hl
  obtain ⟨p, hp⟩ : ∃ p : D → Bool, ∀ d, CnD us 2 d → (∀ S, F_holds_by 16 [.p d, .p w] S = some (.p (.bl (p d)), S)) ∧ ∀ S, F__law_true 16 [.p d, .p w] S = some (.p (.bl (p d)), S) := by
    classical
    refine ⟨fun d => if hd : CnD us 2 d then Classical.choose (holds hw 2 16 16 d (by decide) (by decide) hd) else false, fun d hd => ?_⟩
    simp only [dif_pos hd]
    exact Classical.choose_spec (holds hw 2 16 16 d (by decide) (by decide) hd)
  generalize hT : F_holds_by 16 = T at hp
  generalize hT2 : F__law_true 16 = T2 at hp
  let ks := sortU ltI ((xs.filter fun x => p x.2).map fun x => x.1.map f)
  let g : D := .tup [.int cols, .tup (xs.map fun x => D.tup [.tup (x.1.map .int), x.2])]
  have fl : (xs.filter fun x => p x.2).length ≤ 4 := Nat.le_trans (List.length_filter_le _ _) hl
  have st := set_ok (ks := (xs.filter fun x => p x.2).map fun x => x.1.map f) (n := cols) (by rw [List.length_map]; omega) fun k hk => by
    obtain ⟨x, hm, rfl⟩ := List.mem_map.mp hk
    rw [List.length_map]
    exact (hx x (List.mem_filter.mp hm).1).1
  rw [List.map_map] at st
  refine ⟨ks, fun S => ?_, fun S => ?_⟩
  · have l1 : ∀ S : Sto, sLC (sIt (s2 dIx (sVar 0) (sC (.int 1)))) (gT [gN 2, gN 3]) (sCall 2 T (sCons (sVar 3) (sCons (sVar 1) (sNil)))) (sVar 2) [2, 3] [some (.p g), some (.p w), none, none] S = some (.p (.lst ((xs.filter fun x => p x.2).map fun x => .tup (x.1.map .int))), S) := fun S => by
      refine sLC_map (xs := xs) (c := fun x => D.tup [.tup (x.1.map .int), x.2]) (p := fun x => p x.2) (f := fun x => .tup (x.1.map .int)) ?_ ?_ ?_
      · simp [sVar_ap, sC_ap, sNil_ap, sCons_ap, sTup_ap, sLst_ap, sMut_ap, s2_ap, sChain_ap, sAnd_ap, sOr_ap, sNot_ap, sIf_ap, s1_ap, sNoPart_ap, sPart_ap, sSl_ap, sCB_ap, sCall_ap, sSkip_ap, sSeq_ap, sRet_ap, sRetN_ap, sDrop_ap, sIfS_ap, sBad_ap, gN_ap, gT_ap, sAsg_ap, sPar_ap, sSetIx_ap, sApp_ap, sIt_ap, sRng1_ap, sRng2_ap, sYes_ap, sZip_ap, sGet2_ap, runB_ap, runK_ap, sIsi_ap, gAll, begin_, endF, rd, rds, purs, pur, isi, dCmp, dInt, mulOk, sizeLine_eq, g, ix1]
      · refine fun x hm => ⟨[some (.p g), some (.p w), some (.p (.tup (x.1.map .int))), some (.p x.2)], rfl, fun S => ?_, fun _ S => ?_⟩
        · simp [sVar_ap, sC_ap, sNil_ap, sCons_ap, sTup_ap, sLst_ap, sMut_ap, s2_ap, sChain_ap, sAnd_ap, sOr_ap, sNot_ap, sIf_ap, s1_ap, sNoPart_ap, sPart_ap, sSl_ap, sCB_ap, sCall_ap, sSkip_ap, sSeq_ap, sRet_ap, sRetN_ap, sDrop_ap, sIfS_ap, sBad_ap, gN_ap, gT_ap, sAsg_ap, sPar_ap, sSetIx_ap, sApp_ap, sIt_ap, sRng1_ap, sRng2_ap, sYes_ap, sZip_ap, sGet2_ap, runB_ap, runK_ap, sIsi_ap, gAll, begin_, endF, rd, rds, purs, pur, isi, dCmp, dInt, mulOk, sizeLine_eq, (hp x.2 (hx x hm).2).1]
        · simp [sVar_ap, sC_ap, sNil_ap, sCons_ap, sTup_ap, sLst_ap, sMut_ap, s2_ap, sChain_ap, sAnd_ap, sOr_ap, sNot_ap, sIf_ap, s1_ap, sNoPart_ap, sPart_ap, sSl_ap, sCB_ap, sCall_ap, sSkip_ap, sSeq_ap, sRet_ap, sRetN_ap, sDrop_ap, sIfS_ap, sBad_ap, gN_ap, gT_ap, sAsg_ap, sPar_ap, sSetIx_ap, sApp_ap, sIt_ap, sRng1_ap, sRng2_ap, sYes_ap, sZip_ap, sGet2_ap, runB_ap, runK_ap, sIsi_ap, gAll, begin_, endF, rd, rds, purs, pur, isi, dCmp, dInt, mulOk, sizeLine_eq]
      · omega
    have l2 : ∀ S : Sto, sLC (sIt (sVar 0)) (gN 2) (sYes) (sCall 2 F_row_by (sCons (sVar 2) (sCons (sVar 1) (sNil)))) [2] [some (.p (.lst ((xs.filter fun x => p x.2).map fun x => .tup (x.1.map .int)))), some (.p w), none] S =
        some (.p (.lst ((xs.filter fun x => p x.2).map ((fun k => D.tup (k.map .int)) ∘ fun x => x.1.map f))), S) := fun S => by
      refine sLC_all (xs := xs.filter fun x => p x.2) (c := fun x => D.tup (x.1.map .int)) (f := (fun k => D.tup (k.map .int)) ∘ fun x => x.1.map f) ?_ ?_ (by omega)
      · simp [sVar_ap, sC_ap, sNil_ap, sCons_ap, sTup_ap, sLst_ap, sMut_ap, s2_ap, sChain_ap, sAnd_ap, sOr_ap, sNot_ap, sIf_ap, s1_ap, sNoPart_ap, sPart_ap, sSl_ap, sCB_ap, sCall_ap, sSkip_ap, sSeq_ap, sRet_ap, sRetN_ap, sDrop_ap, sIfS_ap, sBad_ap, gN_ap, gT_ap, sAsg_ap, sPar_ap, sSetIx_ap, sApp_ap, sIt_ap, sRng1_ap, sRng2_ap, sYes_ap, sZip_ap, sGet2_ap, runB_ap, runK_ap, sIsi_ap, gAll, begin_, endF, rd, rds, purs, pur, isi, dCmp, dInt, mulOk, sizeLine_eq]
      refine fun x hm => ⟨[some (.p (.lst ((xs.filter fun x => p x.2).map fun x => .tup (x.1.map .int)))), some (.p w), some (.p (.tup (x.1.map .int)))], rfl, fun S => ?_⟩
      have rb := row_by hw x.1 (by rw [(hx x (List.mem_filter.mp hm).1).1]; omega)
      simp [sVar_ap, sC_ap, sNil_ap, sCons_ap, sTup_ap, sLst_ap, sMut_ap, s2_ap, sChain_ap, sAnd_ap, sOr_ap, sNot_ap, sIf_ap, s1_ap, sNoPart_ap, sPart_ap, sSl_ap, sCB_ap, sCall_ap, sSkip_ap, sSeq_ap, sRet_ap, sRetN_ap, sDrop_ap, sIfS_ap, sBad_ap, gN_ap, gT_ap, sAsg_ap, sPar_ap, sSetIx_ap, sApp_ap, sIt_ap, sRng1_ap, sRng2_ap, sYes_ap, sZip_ap, sGet2_ap, runB_ap, runK_ap, sIsi_ap, gAll, begin_, endF, rd, rds, purs, pur, isi, dCmp, dInt, mulOk, sizeLine_eq, rb]
    have l3 : ∀ S, F_rows_filled [.p (.lst ((xs.filter fun x => p x.2).map fun x => .tup (x.1.map .int))), .p w] S = some (.p (.tup (ks.map fun k => .tup (k.map .int))), S) := fun S => by
      simp [sVar_ap, sC_ap, sNil_ap, sCons_ap, sTup_ap, sLst_ap, sMut_ap, s2_ap, sChain_ap, sAnd_ap, sOr_ap, sNot_ap, sIf_ap, s1_ap, sNoPart_ap, sPart_ap, sSl_ap, sCB_ap, sCall_ap, sSkip_ap, sSeq_ap, sRet_ap, sRetN_ap, sDrop_ap, sIfS_ap, sBad_ap, gN_ap, gT_ap, sAsg_ap, sPar_ap, sSetIx_ap, sApp_ap, sIt_ap, sRng1_ap, sRng2_ap, sYes_ap, sZip_ap, sGet2_ap, runB_ap, runK_ap, sIsi_ap, gAll, begin_, endF, rd, rds, purs, pur, isi, dCmp, dInt, mulOk, sizeLine_eq, F_rows_filled, b_rows_filled, l2, st, dTuple, ks]
    show F_filled_guarded [.p g, .p w] S = _
    unfold F_filled_guarded b_filled_guarded
    rw [hT]
    simp [sVar_ap, sC_ap, sNil_ap, sCons_ap, sTup_ap, sLst_ap, sMut_ap, s2_ap, sChain_ap, sAnd_ap, sOr_ap, sNot_ap, sIf_ap, s1_ap, sNoPart_ap, sPart_ap, sSl_ap, sCB_ap, sCall_ap, sSkip_ap, sSeq_ap, sRet_ap, sRetN_ap, sDrop_ap, sIfS_ap, sBad_ap, gN_ap, gT_ap, sAsg_ap, sPar_ap, sSetIx_ap, sApp_ap, sIt_ap, sRng1_ap, sRng2_ap, sYes_ap, sZip_ap, sGet2_ap, runB_ap, runK_ap, sIsi_ap, gAll, begin_, endF, rd, rds, purs, pur, isi, dCmp, dInt, mulOk, sizeLine_eq, l1, l3]
  · have l1 : ∀ S : Sto, sLC (sIt (s2 dIx (sVar 0) (sC (.int 1)))) (gT [gN 2, gN 3]) (sCall 2 T2 (sCons (sVar 3) (sCons (sVar 1) (sNil)))) (sCall 2 F__law_put (sCons (sVar 2) (sCons (sVar 1) (sNil)))) [2, 3] [some (.p g), some (.p w), none, none] S =
        some (.p (.lst ((xs.filter fun x => p x.2).map ((fun k => D.tup (k.map .int)) ∘ fun x => x.1.map f))), S) := fun S => by
      refine sLC_map (xs := xs) (c := fun x => D.tup [.tup (x.1.map .int), x.2]) (p := fun x => p x.2) (f := (fun k => D.tup (k.map .int)) ∘ fun x => x.1.map f) ?_ ?_ (by omega)
      · simp [sVar_ap, sC_ap, sNil_ap, sCons_ap, sTup_ap, sLst_ap, sMut_ap, s2_ap, sChain_ap, sAnd_ap, sOr_ap, sNot_ap, sIf_ap, s1_ap, sNoPart_ap, sPart_ap, sSl_ap, sCB_ap, sCall_ap, sSkip_ap, sSeq_ap, sRet_ap, sRetN_ap, sDrop_ap, sIfS_ap, sBad_ap, gN_ap, gT_ap, sAsg_ap, sPar_ap, sSetIx_ap, sApp_ap, sIt_ap, sRng1_ap, sRng2_ap, sYes_ap, sZip_ap, sGet2_ap, runB_ap, runK_ap, sIsi_ap, gAll, begin_, endF, rd, rds, purs, pur, isi, dCmp, dInt, mulOk, sizeLine_eq, g, ix1]
      refine fun x hm => ⟨[some (.p g), some (.p w), some (.p (.tup (x.1.map .int))), some (.p x.2)], rfl, fun S => ?_, fun _ S => ?_⟩
      · simp [sVar_ap, sC_ap, sNil_ap, sCons_ap, sTup_ap, sLst_ap, sMut_ap, s2_ap, sChain_ap, sAnd_ap, sOr_ap, sNot_ap, sIf_ap, s1_ap, sNoPart_ap, sPart_ap, sSl_ap, sCB_ap, sCall_ap, sSkip_ap, sSeq_ap, sRet_ap, sRetN_ap, sDrop_ap, sIfS_ap, sBad_ap, gN_ap, gT_ap, sAsg_ap, sPar_ap, sSetIx_ap, sApp_ap, sIt_ap, sRng1_ap, sRng2_ap, sYes_ap, sZip_ap, sGet2_ap, runB_ap, runK_ap, sIsi_ap, gAll, begin_, endF, rd, rds, purs, pur, isi, dCmp, dInt, mulOk, sizeLine_eq, (hp x.2 (hx x hm).2).2]
      · have rb := row_by hw x.1 (by rw [(hx x hm).1]; omega)
        rw [put_eq]
        simp [sVar_ap, sC_ap, sNil_ap, sCons_ap, sTup_ap, sLst_ap, sMut_ap, s2_ap, sChain_ap, sAnd_ap, sOr_ap, sNot_ap, sIf_ap, s1_ap, sNoPart_ap, sPart_ap, sSl_ap, sCB_ap, sCall_ap, sSkip_ap, sSeq_ap, sRet_ap, sRetN_ap, sDrop_ap, sIfS_ap, sBad_ap, gN_ap, gT_ap, sAsg_ap, sPar_ap, sSetIx_ap, sApp_ap, sIt_ap, sRng1_ap, sRng2_ap, sYes_ap, sZip_ap, sGet2_ap, runB_ap, runK_ap, sIsi_ap, gAll, begin_, endF, rd, rds, purs, pur, isi, dCmp, dInt, mulOk, sizeLine_eq, rb]
    show F__law_full [.p g, .p w] S = _
    unfold F__law_full b__law_full
    rw [hT2]
    simp [sVar_ap, sC_ap, sNil_ap, sCons_ap, sTup_ap, sLst_ap, sMut_ap, s2_ap, sChain_ap, sAnd_ap, sOr_ap, sNot_ap, sIf_ap, s1_ap, sNoPart_ap, sPart_ap, sSl_ap, sCB_ap, sCall_ap, sSkip_ap, sSeq_ap, sRet_ap, sRetN_ap, sDrop_ap, sIfS_ap, sBad_ap, gN_ap, gT_ap, sAsg_ap, sPar_ap, sSetIx_ap, sApp_ap, sIt_ap, sRng1_ap, sRng2_ap, sYes_ap, sZip_ap, sGet2_ap, runB_ap, runK_ap, sIsi_ap, gAll, begin_, endF, rd, rds, purs, pur, isi, dCmp, dInt, mulOk, sizeLine_eq, l1, st, dTuple, ks]
end K48

set_option Elab.async false
set_option linter.all false
set_option maxRecDepth 100000
set_option maxHeartbeats 1000000
namespace K48
open PySem PySem.Spec PyProof.Rows L2 EV
theorem unknowns : Drw (F__law_some_unknowns [.m 0]) (fun d => ∃ us, us ∈ UL ∧ d = uD us) := by
  intro c R hc
  obtain ⟨d, c', hd, hc', e⟩ := some_ (ds := [uD [], uD [-1], uD [-1], uD [-2, -1], uD [-2, -1], uD [-5, -1], uD [-6, -3], uD [-3, -2, -1]]) (by simp) (by simp) c R hc
  refine ⟨d, c', ?_, hc', ?_⟩
  · simp only [List.mem_cons, List.not_mem_nil, or_false] at hd
    rcases hd with h | h | h | h | h | h | h | h
    · exact ⟨_, by simp [UL], h⟩
    · exact ⟨_, by simp [UL], h⟩
    · exact ⟨_, by simp [UL], h⟩
    · exact ⟨_, by simp [UL], h⟩
    · exact ⟨_, by simp [UL], h⟩
    · exact ⟨_, by simp [UL], h⟩
    · exact ⟨_, by simp [UL], h⟩
    · exact ⟨_, by simp [UL], h⟩
  · simp only [uD, List.map_cons, List.map_nil] at e
    simp [sVar_ap, sC_ap, sNil_ap, sCons_ap, sTup_ap, sLst_ap, sMut_ap, s2_ap, sChain_ap, sAnd_ap, sOr_ap, sNot_ap, sIf_ap, s1_ap, sNoPart_ap, sPart_ap, sSl_ap, sCB_ap, sCall_ap, sSkip_ap, sSeq_ap, sRet_ap, sRetN_ap, sDrop_ap, sIfS_ap, sBad_ap, gN_ap, gT_ap, sAsg_ap, sPar_ap, sSetIx_ap, sApp_ap, sIt_ap, sRng1_ap, sRng2_ap, sYes_ap, sZip_ap, sGet2_ap, runB_ap, runK_ap, sIsi_ap, gAll, begin_, endF, rd, rds, purs, pur, isi, dCmp, dInt, mulOk, sizeLine_eq, F__law_some_unknowns, b__law_some_unknowns, dNeg, e]
theorem plain_u (us : List Int) : plain (uD us) = true := rfl
theorem need_fill {us fs : List Int} (hu : us ∈ UL) (hl : fs.length = us.length) (hf : ∀ a ∈ fs, 1 ≤ a ∧ a ≤ 5) (S : Sto) : F_need_filling_of [.p (uD us), .p (uD fs)] S = some (.p .non, S) := by
  have l3 := ul_len hu
  have t : F_is_tuple_of [.p (uD fs), .p (.int (us.length : Int)), .p (.int (us.length : Int))] S = some (.p (.bl true), S) := by
    rw [F_tuple_of (plain_u fs)]
    simp [tupLen, hl]
  have ln : dLen [uD us] = some (.int (us.length : Int)) := by simp [dLen, uD]
  have l : sLC (sIt (sVar 1)) (gN 2) (sYes) (sCall 1 F_fits_value (sCons (sVar 2) (sNil))) [2] [some (.p (uD us)), some (.p (uD fs)), none] S = some (.p (.lst (fs.map fun i => D.bl (wholeB 0 1000000 (.int i)))), S) := by
    refine sLC_all (xs := fs) (c := D.int) (f := fun i => D.bl (wholeB 0 1000000 (.int i))) ?_ ?_ (by omega)
    · simp [sVar_ap, sC_ap, sNil_ap, sCons_ap, sTup_ap, sLst_ap, sMut_ap, s2_ap, sChain_ap, sAnd_ap, sOr_ap, sNot_ap, sIf_ap, s1_ap, sNoPart_ap, sPart_ap, sSl_ap, sCB_ap, sCall_ap, sSkip_ap, sSeq_ap, sRet_ap, sRetN_ap, sDrop_ap, sIfS_ap, sBad_ap, gN_ap, gT_ap, sAsg_ap, sPar_ap, sSetIx_ap, sApp_ap, sIt_ap, sRng1_ap, sRng2_ap, sYes_ap, sZip_ap, sGet2_ap, runB_ap, runK_ap, sIsi_ap, gAll, begin_, endF, rd, rds, purs, pur, isi, dCmp, dInt, mulOk, sizeLine_eq, uD]
    · refine fun x hx => ⟨[some (.p (uD us)), some (.p (uD fs)), some (.p (.int x))], rfl, fun S => ?_⟩
      have := F_value (d := .int x) rfl S
      simp [sVar_ap, sC_ap, sNil_ap, sCons_ap, sTup_ap, sLst_ap, sMut_ap, s2_ap, sChain_ap, sAnd_ap, sOr_ap, sNot_ap, sIf_ap, s1_ap, sNoPart_ap, sPart_ap, sSl_ap, sCB_ap, sCall_ap, sSkip_ap, sSeq_ap, sRet_ap, sRetN_ap, sDrop_ap, sIfS_ap, sBad_ap, gN_ap, gT_ap, sAsg_ap, sPar_ap, sSetIx_ap, sApp_ap, sIt_ap, sRng1_ap, sRng2_ap, sYes_ap, sZip_ap, sGet2_ap, runB_ap, runK_ap, sIsi_ap, gAll, begin_, endF, rd, rds, purs, pur, isi, dCmp, dInt, mulOk, sizeLine_eq, this]
  have al : dAll [.lst (fs.map fun i => D.bl (wholeB 0 1000000 (.int i)))] = some (.bl true) := by
    rw [dAll_map]
    have : fs.all (fun i => wholeB 0 1000000 (.int i)) = true := by
      rw [List.all_eq_true]
      intro i hi
      obtain ⟨h1, h2⟩ := hf i hi
      simp [wholeB]
      omega
    rw [this]
  simp [sVar_ap, sC_ap, sNil_ap, sCons_ap, sTup_ap, sLst_ap, sMut_ap, s2_ap, sChain_ap, sAnd_ap, sOr_ap, sNot_ap, sIf_ap, s1_ap, sNoPart_ap, sPart_ap, sSl_ap, sCB_ap, sCall_ap, sSkip_ap, sSeq_ap, sRet_ap, sRetN_ap, sDrop_ap, sIfS_ap, sBad_ap, gN_ap, gT_ap, sAsg_ap, sPar_ap, sSetIx_ap, sApp_ap, sIt_ap, sRng1_ap, sRng2_ap, sYes_ap, sZip_ap, sGet2_ap, runB_ap, runK_ap, sIsi_ap, gAll, begin_, endF, rd, rds, purs, pur, isi, dCmp, dInt, mulOk, sizeLine_eq, F_need_filling_of, b_need_filling_of, ln, t, l, al]
theorem is_g {us : List Int} (hu : us ∈ UL) {n : Nat} {d : D} (h : tame n d = true) (hn : n ≤ 60) (c : List D) : F_is_guarded [.p (uD us), .p d] [c] = some (.p (.bl (fgB us d)), [c]) := by
  simp [sVar_ap, sC_ap, sNil_ap, sCons_ap, sTup_ap, sLst_ap, sMut_ap, s2_ap, sChain_ap, sAnd_ap, sOr_ap, sNot_ap, sIf_ap, s1_ap, sNoPart_ap, sPart_ap, sSl_ap, sCB_ap, sCall_ap, sSkip_ap, sSeq_ap, sRet_ap, sRetN_ap, sDrop_ap, sIfS_ap, sBad_ap, gN_ap, gT_ap, sAsg_ap, sPar_ap, sSetIx_ap, sApp_ap, sIt_ap, sRng1_ap, sRng2_ap, sYes_ap, sZip_ap, sGet2_ap, runB_ap, runK_ap, sIsi_ap, gAll, begin_, endF, rd, rds, purs, pur, isi, dCmp, dInt, mulOk, sizeLine_eq, F_is_guarded, b_is_guarded, need_u hu c, F_guarded h hn [c]]
theorem need_g {us : List Int} {n : Nat} {d : D} (h : tame n d = true) (hn : n ≤ 60) (hf : fgB us d = true) (S : Sto) : F_need_guarded [.p (uD us), .p d] S = some (.p .non, S) := by
  simp [sVar_ap, sC_ap, sNil_ap, sCons_ap, sTup_ap, sLst_ap, sMut_ap, s2_ap, sChain_ap, sAnd_ap, sOr_ap, sNot_ap, sIf_ap, s1_ap, sNoPart_ap, sPart_ap, sSl_ap, sCB_ap, sCall_ap, sSkip_ap, sSeq_ap, sRet_ap, sRetN_ap, sDrop_ap, sIfS_ap, sBad_ap, gN_ap, gT_ap, sAsg_ap, sPar_ap, sSetIx_ap, sApp_ap, sIt_ap, sRng1_ap, sRng2_ap, sYes_ap, sZip_ap, sGet2_ap, runB_ap, runK_ap, sIsi_ap, gAll, begin_, endF, rd, rds, purs, pur, isi, dCmp, dInt, mulOk, sizeLine_eq, F_need_guarded, b_need_guarded, F_guarded h hn S, hf]
theorem eqvs_ints : ∀ k : List Int, eqvs (k.map D.int) (k.map D.int) = true
  | [] => rfl
  | i :: k => by
    rw [List.map_cons]
    show (eqv (.int i) (.int i) && eqvs _ _) = true
    rw [eqvs_ints k]
    simp [eqv]
theorem eqvs_tups : ∀ ks : List (List Int), eqvs (ks.map fun k => D.tup (k.map .int)) (ks.map fun k => D.tup (k.map .int)) = true
  | [] => rfl
  | k :: ks => by
    rw [List.map_cons]
    show (eqvs _ _ && eqvs _ _) = true
    rw [eqvs_tups ks, eqvs_ints k]
    rfl
theorem ok_ints (n : Nat) : ∀ k : List Int, okDs n (k.map D.int) = true
  | [] => by cases n <;> rfl
  | i :: k => by
    rw [List.map_cons]
    unfold okDs
    rw [ok_ints n k]
    cases n <;> rfl
theorem ok_tups (n : Nat) : ∀ ks : List (List Int), okDs (n + 1) (ks.map fun k => D.tup (k.map .int)) = true
  | [] => rfl
  | k :: ks => by
    rw [List.map_cons]
    unfold okDs
    rw [ok_tups n ks]
    show (okDs n (k.map D.int) && true) = true
    rw [ok_ints n k]
    rfl
theorem same_tups (ks : List (List Int)) : dNe (.tup (ks.map fun k => D.tup (k.map .int))) (.tup (ks.map fun k => D.tup (k.map .int))) = some (.bl false) := by
  have h1 : okD 64 (.tup (ks.map fun k => D.tup (k.map .int))) = true := ok_tups 62 ks
  have h2 : eqv (.tup (ks.map fun k => D.tup (k.map .int))) (.tup (ks.map fun k => D.tup (k.map .int))) = true := eqvs_tups ks
  show (match okD 64 (.tup (ks.map fun k => D.tup (k.map .int))) && okD 64 (.tup (ks.map fun k => D.tup (k.map .int))) with | true => _ | false => none) = _
  rw [h1, h2]
  rfl
theorem same_word (b : Bool) : dNe (.str (if b then "True" else "False")) (.str (if b then "True" else "False")) = some (.bl false) := by cases b <;> kernel_rfl
theorem repr_b (b : Bool) : dRepr1 [.bl b] = some (.str (if b then "True" else "False")) := rfl
theorem drawn {us : List Int} {x2 x3 x4 x5 x6 : Option Vl} : Drw (sCall 2 F__law_some (sCons (sVar 0) (sCons (sLst (sCons (sC (.int 1)) (sCons (sC (.int 2)) (sCons (sC (.int 3)) (sCons (sC (.int 5)) (sNil)))))) (sNil))) [some (.m 0), some (.p (uD us)), x2, x3, x4, x5, x6]) (fun d => ∃ a, d = .int a ∧ (1 ≤ a ∧ a ≤ 5)) := by
  intro c R hc
  obtain ⟨d, c', hd, hc', e⟩ := some_ (ds := [.int 1, .int 2, .int 3, .int 5]) (by simp) (by simp) c R hc
  refine ⟨d, c', ?_, hc', ?_⟩
  · simp only [List.mem_cons, List.not_mem_nil, or_false] at hd
    rcases hd with h | h | h | h
    · exact ⟨_, h, by decide⟩
    · exact ⟨_, h, by decide⟩
    · exact ⟨_, h, by decide⟩
    · exact ⟨_, h, by decide⟩
  · simp [sVar_ap, sC_ap, sNil_ap, sCons_ap, sTup_ap, sLst_ap, sMut_ap, s2_ap, sChain_ap, sAnd_ap, sOr_ap, sNot_ap, sIf_ap, s1_ap, sNoPart_ap, sPart_ap, sSl_ap, sCB_ap, sCall_ap, sSkip_ap, sSeq_ap, sRet_ap, sRetN_ap, sDrop_ap, sIfS_ap, sBad_ap, gN_ap, gT_ap, sAsg_ap, sPar_ap, sSetIx_ap, sApp_ap, sIt_ap, sRng1_ap, sRng2_ap, sYes_ap, sZip_ap, sGet2_ap, runB_ap, runK_ap, sIsi_ap, gAll, begin_, endF, rd, rds, purs, pur, isi, dCmp, dInt, mulOk, sizeLine_eq, e]
abbrev bR : Sx := (sSeq (sAsg (sCall 2 (F__law_spoilt 16) (sCons (sVar 0) (sCons (sVar 2) (sNil)))) (gN 5)) (sIfS (s2 dNe (sCB dRepr1 (sCons (sCall 2 F_is_guarded (sCons (sVar 1) (sCons (sVar 5) (sNil)))) (sNil))) (sCB dRepr1 (sCons (sCall 2 F__law_fits (sCons (sVar 1) (sCons (sVar 5) (sNil)))) (sNil)))) (sRet (sC (.bl false))) (sSkip)))
theorem r_turn {us : List Int} (hu : us ∈ UL) {g f : D} (hg : short 9 g = true) {a4 a5 a6 : Option Vl} {c : List D} (hc : CupOK c) :
    ∃ c' b5, CupOK c' ∧ bR [some (.m 0), some (.p (uD us)), some (.p g), some (.p f), a4, a5, a6] [c] = some (.nx [some (.m 0), some (.p (uD us)), some (.p g), some (.p f), a4, b5, a6], [c']) := by
  obtain ⟨d, c', hd, hc', e⟩ := spoilt 16 9 g (by decide) hg (by decide) c [] hc
  have h1 := is_g hu hd (by decide) c'
  have h2 := F_fits (us := us) hd (by decide) [c']
  have h3 := same_word (fgB us d)
  refine ⟨c', some (.p d), hc', ?_⟩
  simp [sVar_ap, sC_ap, sNil_ap, sCons_ap, sTup_ap, sLst_ap, sMut_ap, s2_ap, sChain_ap, sAnd_ap, sOr_ap, sNot_ap, sIf_ap, s1_ap, sNoPart_ap, sPart_ap, sSl_ap, sCB_ap, sCall_ap, sSkip_ap, sSeq_ap, sRet_ap, sRetN_ap, sDrop_ap, sIfS_ap, sBad_ap, gN_ap, gT_ap, sAsg_ap, sPar_ap, sSetIx_ap, sApp_ap, sIt_ap, sRng1_ap, sRng2_ap, sYes_ap, sZip_ap, sGet2_ap, runB_ap, runK_ap, sIsi_ap, gAll, begin_, endF, rd, rds, purs, pur, isi, dCmp, dInt, mulOk, sizeLine_eq, e, h1, h2, repr_b, h3]
theorem r_loop {us : List Int} (hu : us ∈ UL) {g f : D} (hg : short 9 g = true) {a6 : Option Vl} : ∀ (ds : List D) (a4 a5 : Option Vl) (c : List D), CupOK c →
    ∃ c' b4 b5, CupOK c' ∧ loopF (gN 4) bR ds [some (.m 0), some (.p (uD us)), some (.p g), some (.p f), a4, a5, a6] [c] = some (.nx [some (.m 0), some (.p (uD us)), some (.p g), some (.p f), b4, b5, a6], [c'])
  | [], a4, a5, c, hc => ⟨c, a4, a5, hc, rfl⟩
  | d :: ds, a4, a5, c, hc => by
    obtain ⟨c1, b5, hc1, e1⟩ := r_turn hu hg (f := f) (a4 := some (.p d)) (a5 := a5) (a6 := a6) hc
    obtain ⟨c', b4, b5', hc', e2⟩ := r_loop hu hg (f := f) (a6 := a6) ds (some (.p d)) b5 c1 hc1
    have st : gN 4 (.p d) [some (.m 0), some (.p (uD us)), some (.p g), some (.p f), a4, a5, a6] = some [some (.m 0), some (.p (uD us)), some (.p g), some (.p f), some (.p d), a5, a6] := rfl
    refine ⟨c', b4, b5', hc', ?_⟩
    rw [loopF_cons st, e1]
    exact e2
theorem right {us : List Int} (hu : us ∈ UL) {c : List D} (hc : CupOK c) : ∃ c', CupOK c' ∧ F__law_right [.m 0, .p (uD us)] [c] = some (.p (.bl true), [c']) := by
  have l3 := ul_len hu
  obtain ⟨d, c1, hd, hc1, e1⟩ := some_ (ds := [.int 0, .int 1, .int 1, .int 2, .int 3]) (by simp) (by simp) c [] hc
  obtain ⟨cols, rfl, hcol⟩ : ∃ k : Nat, d = .int (k : Int) ∧ k ≤ 3 := by
    simp only [List.mem_cons, List.not_mem_nil, or_false] at hd
    rcases hd with h | h | h | h | h
    · exact ⟨0, h, by decide⟩
    · exact ⟨1, h, by decide⟩
    · exact ⟨1, h, by decide⟩
    · exact ⟨2, h, by decide⟩
    · exact ⟨3, h, by decide⟩
  obtain ⟨g, c2, hg, hc2, e2⟩ := guarded (us := us) (by omega) (cols := cols) (by omega) c1 [] hc1
  have sh := g_short (us := us) (cols := cols) (by omega) hg
  have tm := short_tame sh
  have it : sIt (sVar 1) [some (.m 0), some (.p (uD us)), some (.p g), none, none, none, none] [c2] = some (us.map D.int, [c2]) := by simp [sVar_ap, sC_ap, sNil_ap, sCons_ap, sTup_ap, sLst_ap, sMut_ap, s2_ap, sChain_ap, sAnd_ap, sOr_ap, sNot_ap, sIf_ap, s1_ap, sNoPart_ap, sPart_ap, sSl_ap, sCB_ap, sCall_ap, sSkip_ap, sSeq_ap, sRet_ap, sRetN_ap, sDrop_ap, sIfS_ap, sBad_ap, gN_ap, gT_ap, sAsg_ap, sPar_ap, sSetIx_ap, sApp_ap, sIt_ap, sRng1_ap, sRng2_ap, sYes_ap, sZip_ap, sGet2_ap, runB_ap, runK_ap, sIsi_ap, gAll, begin_, endF, rd, rds, purs, pur, isi, dCmp, dInt, mulOk, sizeLine_eq]
  obtain ⟨ys, c3, y1, y2, hc3, e3⟩ := sLC_draw (it := sIt (sVar 1)) (g := gN 6) (e := sCall 2 F__law_some (sCons (sVar 0) (sCons (sLst (sCons (sC (.int 1)) (sCons (sC (.int 2)) (sCons (sC (.int 3)) (sCons (sC (.int 5)) (sNil)))))) (sNil))))
    (vs := [6]) (σ := [some (.m 0), some (.p (uD us)), some (.p g), none, none, none, none]) (Q := fun d => ∃ a, d = .int a ∧ (1 ≤ a ∧ a ≤ 5)) (ds := us.map D.int) (R := [])
    (fun d hd => ⟨[some (.m 0), some (.p (uD us)), some (.p g), none, none, none, some (.p d)], rfl, drawn⟩) (by rw [List.length_map]; omega) hc2 it
  obtain ⟨fs, rfl, hfs⟩ := ints_from y2
  rw [List.length_map, List.length_map] at y1
  obtain ⟨f, hw⟩ := wd_of (us := us) (fs := fs) y1.symm
  have fg := fg_true hu (cols := cols) (by omega) hg
  obtain ⟨ks, f1, f2⟩ := full (us := us) (cols := cols) (by omega) hg hw
  have i1 := is_g hu tm (by decide) c3
  rw [fg] at i1
  have wb := worths hu y1.symm c3
  have g1 : F_guarded_filled [.p (uD us), .p g, .p (uD fs)] [c3] = some (.p (.tup (ks.map fun k => .tup (k.map .int))), [c3]) := by
    simp [sVar_ap, sC_ap, sNil_ap, sCons_ap, sTup_ap, sLst_ap, sMut_ap, s2_ap, sChain_ap, sAnd_ap, sOr_ap, sNot_ap, sIf_ap, s1_ap, sNoPart_ap, sPart_ap, sSl_ap, sCB_ap, sCall_ap, sSkip_ap, sSeq_ap, sRet_ap, sRetN_ap, sDrop_ap, sIfS_ap, sBad_ap, gN_ap, gT_ap, sAsg_ap, sPar_ap, sSetIx_ap, sApp_ap, sIt_ap, sRng1_ap, sRng2_ap, sYes_ap, sZip_ap, sGet2_ap, runB_ap, runK_ap, sIsi_ap, gAll, begin_, endF, rd, rds, purs, pur, isi, dCmp, dInt, mulOk, sizeLine_eq, F_guarded_filled, b_guarded_filled, need_u hu c3, need_g tm (by decide) fg [c3], need_fill hu y1 hfs [c3], wb, f1]
  have sm := same_tups ks
  obtain ⟨c4, b4, b5, hc4, e4⟩ := r_loop hu sh (f := uD fs) (a6 := none) (upto 0 3) none none c3 hc3
  have it2 : sRng1 (sCons (sC (.int 3)) (sNil)) [some (.m 0), some (.p (uD us)), some (.p g), some (.p (uD fs)), none, none, none] [c3] = some (upto 0 3, [c3]) := rfl
  refine ⟨c4, hc4, ?_⟩
  rw [← by_eq] at wb
  simp [sVar_ap, sC_ap, sNil_ap, sCons_ap, sTup_ap, sLst_ap, sMut_ap, s2_ap, sChain_ap, sAnd_ap, sOr_ap, sNot_ap, sIf_ap, s1_ap, sNoPart_ap, sPart_ap, sSl_ap, sCB_ap, sCall_ap, sSkip_ap, sSeq_ap, sRet_ap, sRetN_ap, sDrop_ap, sIfS_ap, sBad_ap, gN_ap, gT_ap, sAsg_ap, sPar_ap, sSetIx_ap, sApp_ap, sIt_ap, sRng1_ap, sRng2_ap, sYes_ap, sZip_ap, sGet2_ap, runB_ap, runK_ap, sIsi_ap, gAll, begin_, endF, rd, rds, purs, pur, isi, dCmp, dInt, mulOk, sizeLine_eq, F__law_right, b__law_right, e1, e2, e3, dTuple, i1, g1, wb, f2, sm, dIsN, sFor_it it2, e4]
end K48

set_option Elab.async false
set_option linter.all false
set_option maxRecDepth 100000
set_option maxHeartbeats 1000000
namespace K48
open PySem PySem.Spec PyProof.Rows L2 EV
theorem pow18 : ∃ B, dPow (.int 10) (.int 18) = some (.int B) := ⟨1000000000000000000, by kernel_rfl⟩
theorem cup_end (y : Int) (hy : 0 ≤ y) (S : Sto) (x0 : Option Vl) : ∃ c, CupOK c ∧ (sMut (sCons (sIf (s2 dGe (sVar 1) (s2 dPow (sC (.int 10)) (sC (.int 18)))) (s2 dFDiv (sVar 1) (sC (.int 43))) (sC (.int 0))) (sCons (s2 dAdd (s2 dMod (sCB dIntT (sCons (s2 dAdd (s2 dMul (sVar 1) (sC (.int 251))) (sC (.int 2111))) (sNil))) (sC (.int 2077503307))) (sC (.int 137))) (sNil)))) [x0, some (.p (.int y))] S = some (.m S.length, S ++ [c]) := by
  obtain ⟨B, hB⟩ := pow18
  obtain ⟨q1, q2⟩ := fmod_b (i := y * 251 + 2111) (n := 2077503307) (by decide)
  generalize hz : (y * 251 + 2111).fmod 2077503307 = z at q1 q2
  by_cases h : B ≤ y
  · refine ⟨[.int (y.fdiv 43), .int (z + 137)], ⟨_, _, rfl, Int.fdiv_nonneg hy (by decide), by omega, by omega⟩, ?_⟩
    simp [sVar_ap, sC_ap, sNil_ap, sCons_ap, sTup_ap, sLst_ap, sMut_ap, s2_ap, sChain_ap, sAnd_ap, sOr_ap, sNot_ap, sIf_ap, s1_ap, sNoPart_ap, sPart_ap, sSl_ap, sCB_ap, sCall_ap, sSkip_ap, sSeq_ap, sRet_ap, sRetN_ap, sDrop_ap, sIfS_ap, sBad_ap, gN_ap, gT_ap, sAsg_ap, sPar_ap, sSetIx_ap, sApp_ap, sIt_ap, sRng1_ap, sRng2_ap, sYes_ap, sZip_ap, sGet2_ap, runB_ap, runK_ap, sIsi_ap, gAll, begin_, endF, rd, rds, purs, pur, isi, dCmp, dInt, mulOk, sizeLine_eq, dIntT, dAdd, dMul, hB, hz, h]
  · refine ⟨[.int 0, .int (z + 137)], ⟨_, _, rfl, by decide, by omega, by omega⟩, ?_⟩
    simp [sVar_ap, sC_ap, sNil_ap, sCons_ap, sTup_ap, sLst_ap, sMut_ap, s2_ap, sChain_ap, sAnd_ap, sOr_ap, sNot_ap, sIf_ap, s1_ap, sNoPart_ap, sPart_ap, sSl_ap, sCB_ap, sCall_ap, sSkip_ap, sSeq_ap, sRet_ap, sRetN_ap, sDrop_ap, sIfS_ap, sBad_ap, gN_ap, gT_ap, sAsg_ap, sPar_ap, sSetIx_ap, sApp_ap, sIt_ap, sRng1_ap, sRng2_ap, sYes_ap, sZip_ap, sGet2_ap, runB_ap, runK_ap, sIsi_ap, gAll, begin_, endF, rd, rds, purs, pur, isi, dCmp, dInt, mulOk, sizeLine_eq, dIntT, dAdd, dMul, hB, hz, h]
theorem cup_head (ns : List Int) (hl : ns.length ≤ 63) (S : Sto) : ∃ y : Int, 0 ≤ y ∧ sCB dAbs (sCons (s2 dIx (s2 dAdd (sCB dList (sCons (sVar 0) (sNil))) (sLst (sCons (sC (.int 0)) (sNil)))) (sC (.int 0))) (sNil)) [some (.p (.scr (ns.map D.int))), none] S = some (.p (.int y), S) := by
  have ad : dAdd (.lst (ns.map D.int)) (.lst [.int 0]) = some (.lst (ns.map D.int ++ [.int 0])) := by
    simp only [dAdd, sizeLine_eq]
    rw [decide_eq_true (by simp; omega)]
  have ix : ∃ x : Int, dIx (.lst (ns.map D.int ++ [.int 0])) (.int 0) = some (.int x) := by
    cases ns with
    | nil => exact ⟨0, rfl⟩
    | cons n ns => 
      have q : (0 : Int) < ns.length + 1 + 1 := by omega
      exact ⟨n, by simp [dIx, atI, ixN, q]⟩
  obtain ⟨x, ix⟩ := ix
  refine ⟨if x < 0 then -x else x, by split <;> omega, ?_⟩
  simp [sVar_ap, sC_ap, sNil_ap, sCons_ap, sTup_ap, sLst_ap, sMut_ap, s2_ap, sChain_ap, sAnd_ap, sOr_ap, sNot_ap, sIf_ap, s1_ap, sNoPart_ap, sPart_ap, sSl_ap, sCB_ap, sCall_ap, sSkip_ap, sSeq_ap, sRet_ap, sRetN_ap, sDrop_ap, sIfS_ap, sBad_ap, gN_ap, gT_ap, sAsg_ap, sPar_ap, sSetIx_ap, sApp_ap, sIt_ap, sRng1_ap, sRng2_ap, sYes_ap, sZip_ap, sGet2_ap, runB_ap, runK_ap, sIsi_ap, gAll, begin_, endF, rd, rds, purs, pur, isi, dCmp, dInt, mulOk, sizeLine_eq, dList, ad, ix, dAbs]
theorem k_two {A M : Ex} {x0 : Vl} {y : D} {c : List D} (h1 : A [some x0, none] [] = some (.p y, [])) (h2 : M [some x0, some (.p y)] [] = some (.m 0, [c])) : runK 2 (sSeq (sAsg A (gN 1)) (sRet M)) [x0] [] = some (.m 0, [c]) := by
  simp [sVar_ap, sC_ap, sNil_ap, sCons_ap, sTup_ap, sLst_ap, sMut_ap, s2_ap, sChain_ap, sAnd_ap, sOr_ap, sNot_ap, sIf_ap, s1_ap, sNoPart_ap, sPart_ap, sSl_ap, sCB_ap, sCall_ap, sSkip_ap, sSeq_ap, sRet_ap, sRetN_ap, sDrop_ap, sIfS_ap, sBad_ap, gN_ap, gT_ap, sAsg_ap, sPar_ap, sSetIx_ap, sApp_ap, sIt_ap, sRng1_ap, sRng2_ap, sYes_ap, sZip_ap, sGet2_ap, runB_ap, runK_ap, sIsi_ap, gAll, begin_, endF, rd, rds, purs, pur, isi, dCmp, dInt, mulOk, sizeLine_eq, h1, h2]
theorem cup (ns : List Int) (hl : ns.length ≤ 63) : ∃ c, CupOK c ∧ F__law_cup [.p (.scr (ns.map D.int))] [] = some (.m 0, [c]) := by
  obtain ⟨y, hy, e1⟩ := cup_head ns hl []
  obtain ⟨c, hc, e2⟩ := cup_end y hy [] (some (.p (.scr (ns.map D.int))))
  refine ⟨c, hc, ?_⟩
  exact k_two e1 e2
abbrev bT : Sx := (sIfS (sNot (sCall 2 F__law_right (sCons (sVar 1) (sCons (sCall 1 F__law_some_unknowns (sCons (sVar 1) (sNil))) (sNil))))) (sRet (sC (.bl false))) (sSkip))
theorem t_turn {x0 a2 a3 a4 a5 a6 : Option Vl} {c : List D} (hc : CupOK c) : ∃ c', CupOK c' ∧ bT [x0, some (.m 0), a2, a3, a4, a5, a6] [c] = some (.nx [x0, some (.m 0), a2, a3, a4, a5, a6], [c']) := by
  obtain ⟨d, c1, ⟨us, hu, rfl⟩, hc1, e1⟩ := unknowns c [] hc
  obtain ⟨c2, hc2, e2⟩ := right hu hc1
  refine ⟨c2, hc2, ?_⟩
  simp [sVar_ap, sC_ap, sNil_ap, sCons_ap, sTup_ap, sLst_ap, sMut_ap, s2_ap, sChain_ap, sAnd_ap, sOr_ap, sNot_ap, sIf_ap, s1_ap, sNoPart_ap, sPart_ap, sSl_ap, sCB_ap, sCall_ap, sSkip_ap, sSeq_ap, sRet_ap, sRetN_ap, sDrop_ap, sIfS_ap, sBad_ap, gN_ap, gT_ap, sAsg_ap, sPar_ap, sSetIx_ap, sApp_ap, sIt_ap, sRng1_ap, sRng2_ap, sYes_ap, sZip_ap, sGet2_ap, runB_ap, runK_ap, sIsi_ap, gAll, begin_, endF, rd, rds, purs, pur, isi, dCmp, dInt, mulOk, sizeLine_eq, e1, e2]
theorem t_loop {x0 a3 a4 a5 a6 : Option Vl} : ∀ (ds : List D) (a2 : Option Vl) (c : List D), CupOK c → ∃ c' b2, CupOK c' ∧ loopF (gN 2) bT ds [x0, some (.m 0), a2, a3, a4, a5, a6] [c] = some (.nx [x0, some (.m 0), b2, a3, a4, a5, a6], [c'])
  | [], a2, c, hc => ⟨c, a2, hc, rfl⟩
  | d :: ds, a2, c, hc => by
    obtain ⟨c1, hc1, e1⟩ := t_turn (x0 := x0) (a2 := some (.p d)) (a3 := a3) (a4 := a4) (a5 := a5) (a6 := a6) hc
    obtain ⟨c', b2, hc', e2⟩ := t_loop (x0 := x0) (a3 := a3) (a4 := a4) (a5 := a5) (a6 := a6) ds (some (.p d)) c1 hc1
    have st : gN 2 (.p d) [x0, some (.m 0), a2, a3, a4, a5, a6] = some [x0, some (.m 0), some (.p d), a3, a4, a5, a6] := rfl
    refine ⟨c', b2, hc', ?_⟩
    rw [loopF_cons st, e1]
    exact e2
theorem law_split : ∃ R : Sx, b_law = sSeq (sAsg (sCall 1 F__law_cup (sCons (sVar 0) (sNil))) (gN 1)) (sSeq (sFor (sRng1 (sCons (sC (.int 4)) (sNil))) (gN 2) bT) R) ∧
    ∀ (x0 x2 : Option Vl) (c : List D), ∃ σ, R [x0, some (.m 0), x2, none, none, none, none] [c] = some (.rt (.p (.bl true)), σ) ∧ σ = [c] :=
  ⟨_, rfl, fun x0 x2 c => ⟨[c], by kernel_rfl, rfl⟩⟩
theorem law_all : ∀ ns : List Int, ns.length ≤ 63 → ∃ S', F_law [.p (.scr (ns.map EV.D.int))] [] = some (.p (.bl true), S') := by
  intro ns hl
  obtain ⟨R, e0, hR⟩ := law_split
  obtain ⟨c, hc, e1⟩ := cup ns hl
  obtain ⟨c', b2, hc', e2⟩ := t_loop (x0 := some (.p (.scr (ns.map EV.D.int)))) (a3 := none) (a4 := none) (a5 := none) (a6 := none) (upto 0 4) none c hc
  obtain ⟨σ, e3, rfl⟩ := hR (some (.p (.scr (ns.map EV.D.int)))) b2 c'
  have it : sRng1 (sCons (sC (.int 4)) (sNil)) [some (.p (.scr (ns.map EV.D.int))), some (.m 0), none, none, none, none, none] [c] = some (upto 0 4, [c]) := rfl
  refine ⟨[], ?_⟩
  unfold F_law
  rw [e0]
  clear hR e0
  simp [sVar_ap, sC_ap, sNil_ap, sCons_ap, sTup_ap, sLst_ap, sMut_ap, s2_ap, sChain_ap, sAnd_ap, sOr_ap, sNot_ap, sIf_ap, s1_ap, sNoPart_ap, sPart_ap, sSl_ap, sCB_ap, sCall_ap, sSkip_ap, sSeq_ap, sRet_ap, sRetN_ap, sDrop_ap, sIfS_ap, sBad_ap, gN_ap, gT_ap, sAsg_ap, sPar_ap, sSetIx_ap, sApp_ap, sIt_ap, sRng1_ap, sRng2_ap, sYes_ap, sZip_ap, sGet2_ap, runB_ap, runK_ap, sIsi_ap, gAll, begin_, endF, rd, rds, purs, pur, isi, dCmp, dInt, mulOk, sizeLine_eq, e1, sFor_it it, e2, e3]
end K48

set_option Elab.async false
set_option linter.all false
set_option maxRecDepth 100000
set_option maxHeartbeats 0
open PySem PySem.W PySem.Calls PyProof.Rows
theorem PySem.Challenge.cw_nearlysure_k48_whole_guarded_tables_fill_holds : PySem.Challenge.rw_nearlysure_k48_whole_guarded_tables_fill.Holds := by
  w_on; o_law
  refine HandSHeadRun.head_any (r := OpenLaw.row PySem.Challenge.rw_nearlysure_k48_whole_guarded_tables_fill) (q := view (OpenLaw.row PySem.Challenge.rw_nearlysure_k48_whole_guarded_tables_fill).prog [K48.lawAt]) (H := K48.hk) (ob := K48.ob) (M := K48.nTop) (loose := K48.names) (d := HandSHeadRun.topDef (OpenLaw.row PySem.Challenge.rw_nearlysure_k48_whole_guarded_tables_fill).prog K48.lawAt) (kwd := []) K48.ob_eq
    (by kernel_rfl) (fun s => by kernel_rfl) K48.run (by kernel_rfl) (by kernel_rfl) (by kernel_rfl) (by rfl) (by first | assumption | decide +kernel) (by decide +kernel) ⟨rfl, rfl, rfl, rfl, rfl, by decide +kernel⟩ ?hw ?hc
  case hw => w_witness2
  case hc =>
    refine L2.walk_ofE (l := PySem.Challenge.rw_nearlysure_k48_whole_guarded_tables_fill) (n := 63) (k := K48.lawLevel) (x := "script") (CX := L2.CX0) rfl (by decide) (by kernel_rfl) ⟨rfl, by decide, by decide⟩ ?F (fun _ _ _ _ z => z)
    intro w mg fa h Y G hmg0
    obtain ⟨K, KX, c, _⟩ := Y
    have hmg : mg ("law" : PySem.Str) = some (.ref fa) := by
      have e : (HandSHeadRun.topDef (OpenLaw.row PySem.Challenge.rw_nearlysure_k48_whole_guarded_tables_fill).prog K48.lawAt).name = ("law" : PySem.Str) := by kernel_rfl
      rw [← e]
      exact hmg0
    obtain ⟨fd, hb, hF⟩ := K48.law_ok (P := (PySem.Challenge.rw_nearlysure_k48_whole_guarded_tables_fill).prog) (w := w) KX G c hmg
    exact ⟨K, fd, EV.spF K K48.F_law 1, KX, hb, fun H a ns hl hO hS => EV.law_true K48.law_all hl hO hS, fun base _ _ => hF base⟩

