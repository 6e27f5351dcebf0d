import PyProof.Rows.All
import Wide.All
import OpenK.AllK
import Wide.FinOn
import KE.KLam
import HandS.ForMost
import HandS.ForExc
import HandS.Wide
import HandS.WideBits
import HandS.IsInst
import HandS.ExcIs
import HandS.Style
import HandS.Deep
import HandS.Zip
import HandS.HotCalls
import HandS.Lambda
import HandS.EndTab
import HandS.HeadWalk
import HandS.Head2
import HandS.HeadHook4
import HandS.TupSets
import HandS.Small
import HandS.TryOnly
import KE.GoesComp
import HandS.Conv
import KE.SortKeyHeap
import PySem.Challenge.RW_abovenought_k60_whole_forms
set_option Elab.async false
set_option linter.all false
set_option maxRecDepth 100000
set_option maxHeartbeats 4000000
/-! A logic of data over the hand layer: what stands in a slot is told as data (PyData), heaps are out of sight. -/
namespace An
open PySem PySem.Spec PyProof.Rows L2
abbrev D := PyData
/-! ### the best readings -/
section
variable {X : Cx}
@[irreducible] def we (X : Cx) (e : Expr) : TE := fun σ H Q => ∀ (pins : List (Addr × Obj)) (s : Shared), Inv X pins σ H s → wpAny (model X.prog X.w) X.A (eval e X.env) (EP X pins σ Q) X.xe s
@[irreducible] def wt (X : Cx) (e : Expr) : TT := fun σ H Q => ∀ (pins : List (Addr × Obj)) (s : Shared), Inv X pins σ H s → wpAny (model X.prog X.w) X.A (isTrue e X.env (eval e X.env)) (TP X pins σ Q) X.xe s
@[irreducible] def ww (X : Cx) (e : Expr) : TT := fun σ H Q => ∀ (whole : Sem Value) (pins : List (Addr × Obj)) (s : Shared), Inv X pins σ H s → wpAny (model X.prog X.w) X.A (isTrue e X.env whole) (TP X pins σ Q) X.xe s
@[irreducible] def wa (X : Cx) (es : List Expr) : TA := fun σ H Q => ∀ (pos : Pos) (pins : List (Addr × Obj)) (s : Shared), Inv X pins σ H s → wpAny (model X.prog X.w) X.A (spliced (backTo pos (starEach es X.env))) (AP X pins σ Q) X.xe s
@[irreducible] def wss (X : Cx) (st : List Stmt) : TS := fun D σ H => ∀ (pins : List (Addr × Obj)) (s : Shared), Inv X pins σ H s → wpAny (model X.prog X.w) X.A (execs st X.env) (SP X pins D) X.xe s
@[irreducible] def ws (X : Cx) (st : Stmt) : TS := fun D σ H => ∀ (pins : List (Addr × Obj)) (s : Shared), Inv X pins σ H s → wpAny (model X.prog X.w) X.A (exec st X.env) (SP X pins D) X.xe s
theorem pe_we {e : Expr} : PE X e (we X e) := ⟨fun pins s _ _ _ I h => by unfold we at h; exact h pins s I⟩
theorem pt_wt {e : Expr} : PT X e (wt X e) := ⟨fun pins s _ _ _ I h => by unfold wt at h; exact h pins s I⟩
theorem pw_ww {e : Expr} : PW X e (ww X e) := ⟨fun wh pins s _ _ _ I h => by unfold ww at h; exact h wh pins s I⟩
theorem pa_wa {es : List Expr} : PA X es (wa X es) := ⟨fun pos pins s _ _ _ I h => by unfold wa at h; exact h pos pins s I⟩
theorem pss_wss {st : List Stmt} : PSs X st (wss X st) := ⟨fun pins s _ _ _ I h => by unfold wss at h; exact h pins s I⟩
theorem ps_ws {st : Stmt} : PS X st (ws X st) := ⟨fun pins s _ _ _ I h => by unfold ws at h; exact h pins s I⟩
theorem we_of {e : Expr} {t : TE} {σ : L2.St} {H : Hp} {Q : VK} (h : PE X e t) (q : t σ H Q) : we X e σ H Q := by
  unfold we
  exact fun pins s I => h.run pins s σ H Q I q
theorem wt_of {e : Expr} {t : TT} {σ : L2.St} {H : Hp} {Q : Bool → Hp → Prop} (h : PT X e t) (q : t σ H Q) : wt X e σ H Q := by
  unfold wt
  exact fun pins s I => h.run pins s σ H Q I q
theorem ww_of {e : Expr} {t : TT} {σ : L2.St} {H : Hp} {Q : Bool → Hp → Prop} (h : PW X e t) (q : t σ H Q) : ww X e σ H Q := by
  unfold ww
  exact fun wh pins s I => h.run wh pins s σ H Q I q
theorem wa_of {es : List Expr} {t : TA} {σ : L2.St} {H : Hp} {Q : List V → Hp → Prop} (h : PA X es t) (q : t σ H Q) : wa X es σ H Q := by
  unfold wa
  exact fun pos pins s I => h.run pos pins s σ H Q I q
theorem wss_of {st : List Stmt} {t : TS} {σ : L2.St} {H : Hp} {E : Ends} (h : PSs X st t) (q : t E σ H) : wss X st E σ H := by
  unfold wss
  exact fun pins s I => h.run pins s σ H E I q
theorem ws_of {st : Stmt} {t : TS} {σ : L2.St} {H : Hp} {E : Ends} (h : PS X st t) (q : t E σ H) : ws X st E σ H := by
  unfold ws
  exact fun pins s I => h.run pins s σ H E I q
end
/-! ### heaps and data -/
/-- all but the tables of code objects is kept -/
def Keep (H H' : Hp) : Prop := ∀ a o, H a = some o → (∀ ps, o ≠ .tbl ps) → H' a = some o
theorem Keep.refl (H : Hp) : Keep H H := fun _ _ h _ => h
theorem Keep.trans {H H1 H2 : Hp} (a : Keep H H1) (b : Keep H1 H2) : Keep H H2 := fun c o h n => b c o (a c o h n) n
theorem Keep.of {H H' : Hp} (e : Same H H') : Keep H H' := fun b o h _ => e b o h
noncomputable def off (S : Addr → Prop) (H : Hp) : Hp := fun a => open Classical in if S a then none else H a
theorem off_some {S : Addr → Prop} {H : Hp} {a : Addr} {o : HO} (h : off S H a = some o) : ¬ S a ∧ H a = some o := by
  unfold off at h
  by_cases hs : S a
  · rw [if_pos hs] at h
    cases h
  · rw [if_neg hs] at h
    exact ⟨hs, h⟩
theorem off_of {S : Addr → Prop} {H : Hp} {a : Addr} {o : HO} (n : ¬ S a) (h : H a = some o) : off S H a = some o := by
  unfold off
  rw [if_neg n]
  exact h
theorem off_keep {S S' : Addr → Prop} {H H' : Hp} (k : Keep H H') (s : ∀ a, S' a → S a) : Keep (off S H) (off S' H') := fun a o h n => by
  obtain ⟨h1, h2⟩ := off_some h
  exact off_of (fun z => h1 (s a z)) (k a o h2 n)
theorem off_in {S : Addr → Prop} {H : Hp} : Keep (off S H) H := fun a o h _ => (off_some h).2
theorem rd_keep {H H' : Hp} {a : Addr} {xs : List V} (k : Keep H H') (h : Rd H a (.lst xs)) : Rd H' a (.lst xs) := by
  rcases h with h | ⟨o, h⟩
  · exact .inl (k _ _ h fun _ z => nomatch z)
  · exact .inr ⟨o, k _ _ h fun _ z => nomatch z⟩
theorem sql_keep {K : PySem.W.Frag} {H H' : Hp} {a : Addr} {xs : List V} (k : Keep H H') (h : SqL K H a xs) : SqL K H' a xs := by
  rcases h with (h | ⟨o, h⟩) | h
  · exact .inl (.inl (k _ _ h fun _ z => nomatch z))
  · exact .inl (.inr ⟨o, k _ _ h fun _ z => nomatch z⟩)
  · exact .inr h
theorem sqt_keep {K : PySem.W.Frag} {H H' : Hp} {a : Addr} {xs : List V} (k : Keep H H') (h : SqT K H a xs) : SqT K H' a xs := by
  rcases h with (h | ⟨o, h⟩) | h
  · exact .inl (.inl (k _ _ h fun _ z => nomatch z))
  · exact .inl (.inr ⟨o, k _ _ h fun _ z => nomatch z⟩)
  · exact .inr h
/-! data of any depth: lists that are tracked or locked, tuples that are tracked or written -/
mutual
inductive Dt (K : PySem.W.Frag) (H : Hp) : V → D → Prop
  | non : Dt K H .non .none
  | bl (b : Bool) : Dt K H (.bl b) (.bool b)
  | int (i : Int) : Dt K H (.int i) (.int i)
  | str (x : Str) : Dt K H (.str x) (.str x)
  | lst {a : Addr} {xs : List V} {ds : List D} : Rd H a (.lst xs) → DtAll K H xs ds → Dt K H (.ref a) (.list ds)
  | tup {a : Addr} {xs : List V} {ds : List D} : SqT K H a xs → DtAll K H xs ds → Dt K H (.ref a) (.tuple ds)
inductive DtAll (K : PySem.W.Frag) (H : Hp) : List V → List D → Prop
  | nil : DtAll K H [] []
  | cons {v : V} {vs : List V} {d : D} {ds : List D} : Dt K H v d → DtAll K H vs ds → DtAll K H (v :: vs) (d :: ds)
end
mutual
theorem Dt.dp {K : PySem.W.Frag} {H : Hp} : ∀ (d : D) (v : V), Dt K H v d → Dp K H v d
  | .none, _, h => by cases h; exact .non
  | .bool b, _, h => by cases h; exact .bl b
  | .int i, _, h => by cases h; exact .int i
  | .str x, _, h => by cases h; exact .str x
  | .list ds, _, h => by
    cases h with
    | lst hs ha => exact .lst (.inl hs) (DtAll.dp ds _ ha)
  | .tuple ds, _, h => by
    cases h with
    | tup hs ha => exact .tup hs (DtAll.dp ds _ ha)
  | .dict _, _, h => by cases h
theorem DtAll.dp {K : PySem.W.Frag} {H : Hp} : ∀ (ds : List D) (vs : List V), DtAll K H vs ds → DpAll K H vs ds
  | [], _, h => by cases h; exact .nil
  | d :: ds, _, h => by
    cases h with
    | cons h1 h2 => exact .cons (Dt.dp d _ h1) (DtAll.dp ds _ h2)
end
mutual
theorem dp_keep {K : PySem.W.Frag} {H H' : Hp} (k : Keep H H') : ∀ (d : D) (v : V), Dt K H v d → Dt K H' v d
  | .none, _, h => by cases h; exact .non
  | .bool b, _, h => by cases h; exact .bl b
  | .int i, _, h => by cases h; exact .int i
  | .str x, _, h => by cases h; exact .str x
  | .list ds, _, h => by
    cases h with
    | lst hs ha => exact .lst (rd_keep k hs) (dps_keep k ds _ ha)
  | .tuple ds, _, h => by
    cases h with
    | tup hs ha => exact .tup (sqt_keep k hs) (dps_keep k ds _ ha)
  | .dict _, _, h => by cases h
theorem dps_keep {K : PySem.W.Frag} {H H' : Hp} (k : Keep H H') : ∀ (ds : List D) (vs : List V), DtAll K H vs ds → DtAll K H' vs ds
  | [], _, h => by cases h; exact .nil
  | d :: ds, _, h => by
    cases h with
    | cons h1 h2 => exact .cons (dp_keep k d _ h1) (dps_keep k ds _ h2)
end
section
variable {K : PySem.W.Frag} {H : Hp}
theorem dps_len : ∀ {vs : List V} {ds : List D}, DtAll K H vs ds → vs.length = ds.length
  | _, _, .nil => rfl
  | _, _, .cons _ t => congrArg Nat.succ (dps_len t)
theorem dps_get : ∀ {vs : List V} {ds : List D} {i : Nat} {d : D}, DtAll K H vs ds → ds[i]? = some d → ∃ v, vs[i]? = some v ∧ Dt K H v d
  | _, _, _, _, .nil, h => by simp at h
  | _, _, 0, d, .cons h t, e => by
    simp at e
    subst e
    exact ⟨_, rfl, h⟩
  | _, _, i + 1, d, .cons h t, e => by
    simp at e
    obtain ⟨v, e1, e2⟩ := dps_get t e
    exact ⟨v, by simpa using e1, e2⟩
theorem dps_getV : ∀ {vs : List V} {ds : List D} {i : Nat} {v : V}, DtAll K H vs ds → vs[i]? = some v → ∃ d, ds[i]? = some d ∧ Dt K H v d
  | _, _, _, _, .nil, h => by simp at h
  | _, _, 0, d, .cons h t, e => by
    simp at e
    subst e
    exact ⟨_, rfl, h⟩
  | _, _, i + 1, d, .cons h t, e => by
    simp at e
    obtain ⟨v, e1, e2⟩ := dps_getV t e
    exact ⟨v, by simpa using e1, e2⟩
theorem dps_app : ∀ {vs ws : List V} {ds es : List D}, DtAll K H vs ds → DtAll K H ws es → DtAll K H (vs ++ ws) (ds ++ es)
  | _, _, _, _, .nil, s => s
  | _, _, _, _, .cons h t, s => .cons h (dps_app t s)
theorem dps_one {v : V} {d : D} (h : Dt K H v d) : DtAll K H [v] [d] := .cons h .nil
theorem dps_set : ∀ {vs : List V} {ds : List D} {v : V} {d : D} (i : Nat), DtAll K H vs ds → Dt K H v d → DtAll K H (vs.set i v) (ds.set i d)
  | _, _, _, _, _, .nil, _ => .nil
  | _, _, _, _, 0, .cons _ t, h => .cons h t
  | _, _, _, _, i + 1, .cons q t, h => .cons q (dps_set i t h)
theorem dps_take : ∀ {vs : List V} {ds : List D} (n : Nat), DtAll K H vs ds → DtAll K H (vs.take n) (ds.take n)
  | _, _, 0, _ => .nil
  | _, _, _ + 1, .nil => .nil
  | _, _, n + 1, .cons r t => .cons r (dps_take n t)
theorem dps_drop : ∀ {vs : List V} {ds : List D} (n : Nat), DtAll K H vs ds → DtAll K H (vs.drop n) (ds.drop n)
  | _, _, 0, r => r
  | _, _, _ + 1, .nil => .nil
  | _, _, n + 1, .cons _ t => dps_drop n t
theorem dps_rev {vs : List V} {ds : List D} (h : DtAll K H vs ds) : DtAll K H vs.reverse ds.reverse := by
  induction vs generalizing ds with
  | nil => cases h; exact .nil
  | cons v r ih =>
    cases h with
    | cons h1 h2 =>
      rw [List.reverse_cons, List.reverse_cons]
      exact dps_app (ih h2) (dps_one h1)
end
/-- what may be changed -/
def MutO : HO → Prop
  | .lst _ => True
  | .dK _ => True
  | .dT _ => True
  | .ins _ _ _ => True
  | .own _ => True
  | .frz _ _ => True
  | .ext φ => ∀ c q, HO.ext φ ≠ LamX.CodeO c q
  | _ => False
theorem MutO.nt {o : HO} (h : MutO o) : ∀ ps, o ≠ .tbl ps := fun ps e => by
  subst e
  exact h
/-- there is something there that may be changed -/
def NT (H : Hp) (a : Addr) : Prop := ∃ o, H a = some o ∧ MutO o
theorem NT.lst {H : Hp} {a : Addr} {xs : List V} (h : H a = some (.lst xs)) : NT H a := ⟨_, h, trivial⟩
theorem NT.there {H : Hp} {a : Addr} (h : NT H a) : H a ≠ none := by
  obtain ⟨o, e, _⟩ := h
  rw [e]
  exact fun z => nomatch z
theorem NT.keep {H H' : Hp} {a : Addr} (h : NT H a) (k : Keep H H') : H' a = H a := by
  obtain ⟨o, e, n⟩ := h
  rw [e, k a o e n.nt]
theorem NT.mono {H H' : Hp} {a : Addr} (h : NT H a) (k : Keep H H') : NT H' a := by
  obtain ⟨o, e, n⟩ := h
  exact ⟨o, k a o e n.nt, n⟩
/-- how heaps may follow one another in a body -/
class Rel (R : Hp → Hp → Prop) : Prop where
  /-- a heap that has come stands to itself so -/
  ends : ∀ {H H'}, R H H' → R H' H'
  trans : ∀ {H H1 H2}, R H H1 → R H1 H2 → R H H2
  more : ∀ {H H1 H2}, R H H1 → Same H1 H2 → R H H2
  keep : ∀ {H H'}, R H H' → Keep H H'
  dom : ∀ {H H' : Hp} {a : Addr}, R H H' → H a ≠ none → H' a ≠ none
  /-- what the first heap doesn't know may change -/
  chg : ∀ {H H' : Hp} {a : Addr} {o : HO}, R H H' → H a = none → NT H' a → MutO o → R H (upd H' a o)
  /-- the heap without some things -/
  cutr : ∀ {H H1 : Hp} {C : Addr → Prop}, R H H1 → (∀ a, C a → NT H1 a) → R (off C H1) H1
instance relSame : Rel Same where
  ends := fun {H H'} _ => Same.refl H'
  trans := Same.trans
  more := Same.trans
  keep := Keep.of
  dom := fun {H H' a} h n => by
    cases e : H a with
    | none => exact absurd e n
    | some o => rw [h a o e]; exact fun z => nomatch z
  chg := fun {H H' a o} h n _ _ b u e => by
    rw [upd_ne (ne_of_none e n)]
    exact h b u e
  cutr := fun _ _ a o e => (off_some e).2
theorem Rel.free {R : Hp → Hp → Prop} [Rel R] {H H' : Hp} {a : Addr} (h : R H H') (n : H' a = none) : H a = none := by
  cases e : H a with
  | none => rfl
  | some o => exact absurd n (Rel.dom h (by rw [e]; exact fun z => nomatch z))
theorem Rel.chgL {R : Hp → Hp → Prop} [Rel R] {H H' : Hp} {a : Addr} {xs : List V} (h : R H H') (n : H a = none) (k : ∃ ys, H' a = some (.lst ys)) : R H (upd H' a (.lst xs)) := by
  obtain ⟨ys, e⟩ := k
  exact Rel.chg h n (NT.lst e) trivial
theorem same_new {H : Hp} {p : Addr} {o : HO} (h : H p = none) : Same H (upd H p o) := fun b x e => by
  rw [upd_ne (ne_of_none e h)]
  exact e
/-! ### slots -/
/-- a thing of one's own, of any make: by its value, the addresses that are its own, the heap, and the heap of data -/
structure Bx where
  at_ : PySem.W.Frag → V → List Addr → Hp → Hp → Prop
  keep : ∀ {K : PySem.W.Frag} {v : V} {fs : List Addr} {H Hd H' Hd' : Hp}, at_ K v fs H Hd → (∀ a ∈ fs, H' a = H a) → Keep Hd Hd' → at_ K v fs H' Hd'
inductive Ow where
  | l (ds : List D)
  | b (B : Bx) (fs : List Addr)
instance : Coe (List D) Ow := ⟨Ow.l⟩
/-- a thing that stays as it is, of any make: by its value and the heap of data -/
structure Fix where
  at_ : PySem.W.Frag → V → Hp → Prop
  keep : ∀ {K : PySem.W.Frag} {v : V} {H H' : Hp}, at_ K v H → Keep H H' → at_ K v H'
/-- what is told of a slot: nothing; data; a thing of this body's own, which it may change; a value; a thing that stays -/
inductive Sl where
  | no
  | dat (d : D)
  | own (o : Ow)
  | val (v : V)
  | fix (F : Fix)
/-- what belongs to a slot -/
def Fx (x : Sl) (v : Option V) (a : Addr) : Prop := match x with
  | .own (.l _) => v = some (.ref a)
  | .own (.b _ fs) => a ∈ fs
  | _ => False
/-- what stands in a slot -/
def Okx (K : PySem.W.Frag) (x : Sl) (v : Option V) (H Hd : Hp) : Prop := match x with
  | .no => True
  | .dat d => ∃ u, v = some u ∧ Dt K Hd u d
  | .val u => v = some u
  | .fix F => ∃ u, v = some u ∧ F.at_ K u Hd
  | .own (.l ds) => ∃ l vs, v = some (.ref l) ∧ H l = some (.lst vs) ∧ DtAll K Hd vs ds
  | .own (.b B fs) => ∃ u, v = some u ∧ B.at_ K u fs H Hd
theorem Okx.keep {K : PySem.W.Frag} {x : Sl} {v : Option V} {H Hd H' Hd' : Hp} (h : Okx K x v H Hd) (f : ∀ a, Fx x v a → H' a = H a) (k : Keep Hd Hd') : Okx K x v H' Hd' := by
  match x, h, f with
  | .no, _, _ => exact trivial
  | .dat d, ⟨u, e, h⟩, _ => exact ⟨u, e, dp_keep k _ _ h⟩
  | .val u, h, _ => exact h
  | .fix F, ⟨u, e, h⟩, _ => exact ⟨u, e, F.keep h k⟩
  | .own (.l ds), ⟨l, vs, e, h1, h2⟩, f => exact ⟨l, vs, e, (f l e).trans h1, dps_keep k _ _ h2⟩
  | .own (.b B fs), ⟨u, e, h⟩, f => exact ⟨u, e, B.keep h f k⟩
def Fp (γ : List Sl) (σ : L2.St) (i : Nat) (a : Addr) : Prop := ∃ x v, γ[i]? = some x ∧ σ[i]? = some v ∧ Fx x v a
def Sx (S0 : Addr → Prop) (γ : List Sl) (σ : L2.St) (a : Addr) : Prop := S0 a ∨ ∃ i, Fp γ σ i a
structure SI (R : Hp → Hp → Prop) (K : PySem.W.Frag) (H0 : Hp) (S0 : Addr → Prop) (γ : List Sl) (σ : L2.St) (H : Hp) : Prop where
  rel : R H0 H
  dom : ∀ a, S0 a → H0 a ≠ none
  len : σ.length = γ.length
  ok : ∀ (i : Nat) (x : Sl), γ[i]? = some x → ∃ v, σ[i]? = some v ∧ Okx K x v H (off (Sx S0 γ σ) H)
  fp : ∀ (i : Nat) (a : Addr), Fp γ σ i a → H0 a = none ∧ NT H a
  inj : ∀ (i j : Nat) (a : Addr), Fp γ σ i a → Fp γ σ j a → i = j
theorem set_get {α : Type} {l : List α} {i j : Nat} {x y : α} (h : (l.set i x)[j]? = some y) : (j = i ∧ y = x ∧ i < l.length) ∨ (j ≠ i ∧ l[j]? = some y) := by
  by_cases hj : i = j
  · subst hj
    rw [List.getElem?_set_self'] at h
    cases q : l[i]? with
    | none => rw [q] at h; cases h
    | some z =>
      rw [q] at h
      cases h
      exact .inl ⟨rfl, rfl, (List.getElem?_eq_some_iff.mp q).1⟩
  · rw [List.getElem?_set_ne hj] at h
    exact .inr ⟨fun z => hj z.symm, h⟩
theorem fp_set {γ : List Sl} {σ : L2.St} {i j : Nat} {x : Sl} {v : Option V} {a : Addr} (h : Fp (γ.set i x) (σ.set i v) j a) : (j = i ∧ Fx x v a) ∨ (j ≠ i ∧ Fp γ σ j a) := by
  obtain ⟨y, w, h1, h2, h3⟩ := h
  rcases set_get h1 with ⟨rfl, rfl, _⟩ | ⟨nj, e⟩
  · rcases set_get h2 with ⟨_, rfl, _⟩ | ⟨nj, _⟩
    · exact .inl ⟨rfl, h3⟩
    · exact absurd rfl nj
  · rcases set_get h2 with ⟨e2, _, _⟩ | ⟨_, e2⟩
    · exact absurd e2 nj
    · exact .inr ⟨nj, y, w, e, e2, h3⟩
section
variable {R : Hp → Hp → Prop} [Rel R] {K : PySem.W.Frag} {H0 H H' : Hp} {S0 : Addr → Prop} {γ : List Sl} {σ : L2.St}
theorem SI.dat (s : SI R K H0 S0 γ σ H) (i : Nat) (d : D) (h : γ[i]? = some (.dat d)) : ∃ v, σ[i]? = some (some v) ∧ Dt K (off (Sx S0 γ σ) H) v d := by
  obtain ⟨v, e, u, rfl, h⟩ := s.ok i _ h
  exact ⟨u, e, h⟩
theorem SI.val (s : SI R K H0 S0 γ σ H) (i : Nat) (v : V) (h : γ[i]? = some (.val v)) : σ[i]? = some (some v) := by
  obtain ⟨u, e, h⟩ := s.ok i _ h
  rw [e, show u = some v from h]
theorem SI.own (s : SI R K H0 S0 γ σ H) (i : Nat) (ds : List D) (h : γ[i]? = some (.own (.l ds))) : ∃ l vs, σ[i]? = some (some (.ref l)) ∧ H0 l = none ∧ H l = some (.lst vs) ∧ DtAll K (off (Sx S0 γ σ) H) vs ds := by
  obtain ⟨v, e, l, vs, rfl, h1, h2⟩ := s.ok i _ h
  exact ⟨l, vs, e, (s.fp i l ⟨_, _, h, e, rfl⟩).1, h1, h2⟩
theorem SI.box (s : SI R K H0 S0 γ σ H) (i : Nat) {B : Bx} {fs : List Addr} (h : γ[i]? = some (.own (.b B fs))) : ∃ v, σ[i]? = some (some v) ∧ B.at_ K v fs H (off (Sx S0 γ σ) H) ∧ ∀ a ∈ fs, H0 a = none ∧ NT H a := by
  obtain ⟨v, e, u, rfl, h1⟩ := s.ok i _ h
  exact ⟨u, e, h1, fun a ha => s.fp i a ⟨_, _, h, e, ha⟩⟩
/-- the heap as it is -/
theorem SI.ref (s : SI R K H0 S0 γ σ H) : R H H := Rel.ends s.rel
theorem SI.mono (s : SI R K H0 S0 γ σ H) (r : R H H') : SI R K H0 S0 γ σ H' where
  rel := Rel.trans s.rel r
  dom := s.dom
  len := s.len
  ok := fun i x h => by
    obtain ⟨v, e, h1⟩ := s.ok i x h
    exact ⟨v, e, h1.keep (fun a f => (s.fp i a ⟨x, v, h, e, f⟩).2.keep (Rel.keep r)) (off_keep (Rel.keep r) fun _ z => z)⟩
  fp := fun i a h => ⟨(s.fp i a h).1, (s.fp i a h).2.mono (Rel.keep r)⟩
  inj := s.inj
theorem SI.there (s : SI R K H0 S0 γ σ H) {a : Addr} (h : Sx S0 γ σ a) : H a ≠ none := by
  rcases h with h | ⟨i, h⟩
  · exact Rel.dom s.rel (s.dom a h)
  · exact (s.fp i a h).2.there
/-- a slot is set -/
theorem SI.updS (s : SI R K H0 S0 γ σ H) (i : Nat) (v : Option V) (x : Sl) (rel : R H0 H') (f0 : ∀ a, Fx x v a → H0 a = none ∧ NT H' a ∧ ∀ j, j ≠ i → ¬ Fp γ σ j a) (oth : ∀ j a, j ≠ i → Fp γ σ j a → H' a = H a)
    (kp : Keep (off (Sx S0 γ σ) H) (off (Sx S0 (γ.set i x) (σ.set i v)) H')) (new : Okx K x v H' (off (Sx S0 (γ.set i x) (σ.set i v)) H')) : SI R K H0 S0 (γ.set i x) (σ.set i v) H' where
  rel := rel
  dom := s.dom
  len := by rw [List.length_set, List.length_set]; exact s.len
  ok := fun j y h => by
    rcases set_get h with ⟨rfl, rfl, hl⟩ | ⟨nj, e⟩
    · exact ⟨v, by rw [List.getElem?_set_self (by rw [s.len]; exact hl)], new⟩
    · obtain ⟨u, e1, h1⟩ := s.ok j y e
      refine ⟨u, by rw [List.getElem?_set_ne (fun z => nj z.symm)]; exact e1, h1.keep (fun a f => oth j a nj ⟨y, u, e, e1, f⟩) kp⟩
  fp := fun j a h => by
    rcases fp_set h with ⟨_, f⟩ | ⟨nj, f⟩
    · exact ⟨(f0 a f).1, (f0 a f).2.1⟩
    · obtain ⟨q1, o, q2, q3⟩ := s.fp j a f
      exact ⟨q1, o, by rw [oth j a nj f]; exact q2, q3⟩
  inj := fun j k a h1 h2 => by
    rcases fp_set h1 with ⟨e1, f1⟩ | ⟨n1, f1⟩
    · rcases fp_set h2 with ⟨e2, f2⟩ | ⟨n2, f2⟩
      · rw [e1, e2]
      · exact absurd f2 ((f0 a f1).2.2 k n2)
    · rcases fp_set h2 with ⟨e2, f2⟩ | ⟨n2, f2⟩
      · exact absurd f1 ((f0 a f2).2.2 j n1)
      · exact s.inj j k a f1 f2
theorem sx_set {i : Nat} {x : Sl} {v : Option V} (h : ∀ a, Fx x v a → Sx S0 γ σ a) : ∀ a, Sx S0 (γ.set i x) (σ.set i v) a → Sx S0 γ σ a := fun a z => by
  rcases z with z | ⟨j, z⟩
  · exact .inl z
  · rcases fp_set z with ⟨_, f⟩ | ⟨_, f⟩
    · exact h a f
    · exact .inr ⟨j, f⟩
theorem sx_dat {i : Nat} {d : D} {v : Option V} : ∀ a, Sx S0 (γ.set i (.dat d)) (σ.set i v) a → Sx S0 γ σ a := sx_set (x := .dat d) fun _ f => False.elim f
theorem sx_no {i : Nat} {v : Option V} : ∀ a, Sx S0 (γ.set i .no) (σ.set i v) a → Sx S0 γ σ a := sx_set (x := .no) fun _ f => False.elim f
/-- a slot is set to something that is not a thing of one's own -/
theorem SI.put (s : SI R K H0 S0 γ σ H) (i : Nat) (v : Option V) (x : Sl) (hx : ∀ a, ¬ Fx x v a) (hd : Okx K x v H (off (Sx S0 γ σ) H)) : SI R K H0 S0 (γ.set i x) (σ.set i v) H := by
  have kp : Keep (off (Sx S0 γ σ) H) (off (Sx S0 (γ.set i x) (σ.set i v)) H) := off_keep (Keep.refl H) (sx_set fun a f => absurd f (hx a))
  exact s.updS i v x s.rel (fun a f => absurd f (hx a)) (fun _ _ _ _ => rfl) kp (hd.keep (fun _ _ => rfl) kp)
theorem SI.putD (s : SI R K H0 S0 γ σ H) (i : Nat) {v : V} {d : D} (h : Dt K (off (Sx S0 γ σ) H) v d) : SI R K H0 S0 (γ.set i (.dat d)) (σ.set i (some v)) H :=
  s.put i (some v) (.dat d) (fun _ z => z) ⟨v, rfl, h⟩
theorem SI.putV (s : SI R K H0 S0 γ σ H) (i : Nat) {v : V} : SI R K H0 S0 (γ.set i (.val v)) (σ.set i (some v)) H :=
  s.put i (some v) (.val v) (fun _ z => z) rfl
theorem SI.putN (s : SI R K H0 S0 γ σ H) (i : Nat) {v : Option V} : SI R K H0 S0 (γ.set i .no) (σ.set i v) H :=
  s.put i v .no (fun _ z => z) trivial
/-- a new thing of one's own -/
theorem SI.putB (s : SI R K H0 S0 γ σ H) (i : Nat) {v : Option V} {o : Ow} (r : R H H') (hn : ∀ a, Fx (.own o) v a → H a = none ∧ NT H' a) (hd : Okx K (.own o) v H' (off (fun a => Fx (.own o) v a ∨ Sx S0 γ σ a) H')) : SI R K H0 S0 (γ.set i (.own o)) (σ.set i v) H' := by
  have s' := s.mono r
  have sub : ∀ a, Sx S0 (γ.set i (.own o)) (σ.set i v) a → Fx (.own o) v a ∨ Sx S0 γ σ a := fun a z => by
    rcases z with z | ⟨j, z⟩
    · exact .inr (.inl z)
    · rcases fp_set z with ⟨_, f⟩ | ⟨_, f⟩
      · exact .inl f
      · exact .inr (.inr ⟨j, f⟩)
  refine s.updS i v (.own o) s'.rel (fun a f => ⟨Rel.free s.rel (hn a f).1, (hn a f).2, fun j _ z => (s.fp j a z).2.there (hn a f).1⟩) (fun j a _ f => (s.fp j a f).2.keep (Rel.keep r)) (fun a u e n => ?_) (hd.keep (fun _ _ => rfl) (off_keep (Keep.refl H') sub))
  obtain ⟨h1, h2⟩ := off_some e
  refine off_of (fun z => ?_) (Rel.keep r a u h2 n)
  rcases sub a z with f | z
  · rw [(hn a f).1] at h2; cases h2
  · exact h1 z
/-- a new list of one's own -/
theorem SI.putO (s : SI R K H0 S0 γ σ H) (i : Nat) {p : Addr} {vs : List V} {ds : List D} (r : R H H') (hn : H p = none) (hp : H' p = some (.lst vs)) (hd : DtAll K (off (fun a => a = p ∨ Sx S0 γ σ a) H') vs ds) : SI R K H0 S0 (γ.set i (.own (.l ds))) (σ.set i (some (.ref p))) H' := by
  refine s.putB i r (fun a f => ?_) ⟨p, vs, rfl, hp, dps_keep (off_keep (Keep.refl H') fun a z => ?_) _ _ hd⟩
  · have e : some (V.ref p) = some (V.ref a) := f
    injection e with e
    injection e with e
    subst e
    exact ⟨hn, NT.lst hp⟩
  · rcases z with f | z
    · have e : some (V.ref p) = some (V.ref a) := f
      injection e with e
      injection e with e
      exact .inl e.symm
    · exact .inr z
/-- a thing of one's own is changed, at one address of its own -/
theorem SI.mutB (s : SI R K H0 S0 γ σ H) {i : Nat} {v : Option V} {x : Sl} {o : Ow} {l : Addr} {u : HO} (hi : γ[i]? = some x) (hv : σ[i]? = some v) (hl : Fx x v l) (hu : MutO u) (hx : ∀ a, Fx (.own o) v a ↔ Fx x v a)
    (hw : Okx K (.own o) v (upd H l u) (off (Sx S0 γ σ) (upd H l u))) : SI R K H0 S0 (γ.set i (.own o)) σ (upd H l u) := by
  have hσ : σ.set i v = σ := by
    have hlt := (List.getElem?_eq_some_iff.mp hv).1
    have e := (List.getElem?_eq_some_iff.mp hv).2
    rw [← e]
    exact List.set_getElem_self hlt
  have fl : Fp γ σ i l := ⟨x, v, hi, hv, hl⟩
  obtain ⟨q1, q2⟩ := s.fp i l fl
  have sub : ∀ a, Sx S0 (γ.set i (.own o)) (σ.set i v) a → Sx S0 γ σ a := sx_set fun a f => .inr ⟨i, x, v, hi, hv, (hx a).mp f⟩
  have t := s.updS (H' := L2.upd H l u) i v (.own o) (Rel.chg s.rel q1 q2 hu) (fun a f => ?_) (fun j a nj f => ?_) (fun a w e n => ?_) (hw.keep (fun _ _ => rfl) (off_keep (Keep.refl _) sub))
  · rw [hσ] at t
    exact t
  · have f' : Fp γ σ i a := ⟨x, v, hi, hv, (hx a).mp f⟩
    refine ⟨(s.fp i a f').1, ?_, fun j nj z => nj (s.inj j i a z f')⟩
    by_cases ha : a = l
    · subst ha
      exact ⟨u, upd_same, hu⟩
    · obtain ⟨w, w1, w2⟩ := (s.fp i a f').2
      exact ⟨w, by rw [upd_ne ha]; exact w1, w2⟩
  · have ha : a ≠ l := fun z => nj (s.inj j i a f (z ▸ fl))
    rw [upd_ne ha]
  · obtain ⟨h1, h2⟩ := off_some e
    refine off_of (fun z => h1 (sub a z)) ?_
    rw [upd_ne (fun (z : a = l) => h1 (.inr ⟨i, z ▸ fl⟩))]
    exact h2
/-- a list of one's own is changed -/
theorem SI.mutO (s : SI R K H0 S0 γ σ H) {i : Nat} {l : Addr} {ds es : List D} {ws : List V} (hi : γ[i]? = some (.own (.l ds))) (hl : σ[i]? = some (some (.ref l))) (hw : DtAll K (off (Sx S0 γ σ) H) ws es) : SI R K H0 S0 (γ.set i (.own (.l es))) σ (L2.upd H l (.lst ws)) := by
  refine s.mutB hi hl rfl trivial (fun _ => Iff.rfl) ⟨l, ws, rfl, upd_same, dps_keep (fun a o e n => ?_) _ _ hw⟩
  obtain ⟨h1, h2⟩ := off_some e
  refine off_of h1 ?_
  rw [upd_ne (fun z => h1 (.inr ⟨i, _, _, hi, hl, by rw [z]; rfl⟩))]
  exact h2
/-- a list of one's own is handed on: from now on it is data -/
theorem SI.freeze (s : SI R K H0 S0 γ σ H) {i : Nat} {ds : List D} (hi : γ[i]? = some (.own (.l ds))) : SI R K H0 S0 (γ.set i (.dat (.list ds))) σ H := by
  obtain ⟨l, vs, e1, h0, e3, e4⟩ := s.own i ds hi
  have hσ : σ.set i (some (.ref l)) = σ := by
    have hlt := (List.getElem?_eq_some_iff.mp e1).1
    have e := (List.getElem?_eq_some_iff.mp e1).2
    rw [← e]
    exact List.set_getElem_self hlt
  have sub : ∀ a, Sx S0 (γ.set i (.dat (.list ds))) (σ.set i (some (.ref l))) a → Sx S0 γ σ a := sx_set fun a f => False.elim f
  have kp : Keep (off (Sx S0 γ σ) H) (off (Sx S0 (γ.set i (.dat (.list ds))) (σ.set i (some (.ref l)))) H) := off_keep (Keep.refl H) sub
  have nl : ¬ Sx S0 (γ.set i (.dat (.list ds))) (σ.set i (some (.ref l))) l := fun z => by
    rcases z with z | ⟨j, z⟩
    · exact s.dom l z h0
    · rcases fp_set z with ⟨_, f⟩ | ⟨nj, f⟩
      · exact f
      · exact nj (s.inj j i l f ⟨_, _, hi, e1, rfl⟩)
  have t := s.updS i (some (.ref l)) (.dat (.list ds)) s.rel (fun a f => False.elim f) (fun _ _ _ _ => rfl) kp ⟨_, rfl, .lst (.inl (off_of nl e3)) (dps_keep kp _ _ e4)⟩
  rw [hσ] at t
  exact t
/-- a thing of one's own is left as it is from now on -/
theorem SI.freezeB (s : SI R K H0 S0 γ σ H) {i : Nat} {B : Bx} {fs : List Addr} {F : Fix} (hi : γ[i]? = some (.own (.b B fs))) (h : ∀ v Hd Hd', B.at_ K v fs H Hd → (∀ a ∈ fs, Hd' a = H a) → Keep Hd Hd' → F.at_ K v Hd') : SI R K H0 S0 (γ.set i (.fix F)) σ H := by
  obtain ⟨v, e1, h1, h2⟩ := s.box i hi
  have hσ : σ.set i (some v) = σ := by
    have hlt := (List.getElem?_eq_some_iff.mp e1).1
    have e := (List.getElem?_eq_some_iff.mp e1).2
    rw [← e]
    exact List.set_getElem_self hlt
  have sub : ∀ a, Sx S0 (γ.set i (.fix F)) (σ.set i (some v)) a → Sx S0 γ σ a := sx_set fun a f => False.elim f
  have kp : Keep (off (Sx S0 γ σ) H) (off (Sx S0 (γ.set i (.fix F)) (σ.set i (some v))) H) := off_keep (Keep.refl H) sub
  have nl : ∀ l ∈ fs, ¬ Sx S0 (γ.set i (.fix F)) (σ.set i (some v)) l := fun l hl z => by
    rcases z with z | ⟨j, z⟩
    · exact s.dom l z (h2 l hl).1
    · rcases fp_set z with ⟨_, f⟩ | ⟨nj, f⟩
      · exact f
      · exact nj (s.inj j i l f ⟨_, _, hi, e1, hl⟩)
  have t := s.updS i (some v) (.fix F) s.rel (fun a f => False.elim f) (fun _ _ _ _ => rfl) kp ⟨v, rfl, h v _ _ h1 (fun a ha => by
    unfold off
    rw [if_neg (nl a ha)]) kp⟩
  rw [hσ] at t
  exact t
theorem SI.fix (s : SI R K H0 S0 γ σ H) (i : Nat) {F : Fix} (h : γ[i]? = some (.fix F)) : ∃ v, σ[i]? = some (some v) ∧ F.at_ K v (off (Sx S0 γ σ) H) := by
  obtain ⟨v, e, u, rfl, h⟩ := s.ok i _ h
  exact ⟨u, e, h⟩
end
end An

/-! Expressions: what they come to. -/
namespace An
open PySem PySem.Spec PyProof.Rows L2
/-- e comes to a value that is the data d -/
def EE (R : Hp → Hp → Prop) (X : Cx) (γ : List Sl) (e : Expr) (d : D) : Prop :=
  ∀ (H0 : Hp) (S0 : Addr → Prop) (σ : L2.St) (H : Hp) (Q : VK), SI R X.K H0 S0 γ σ H → (∀ v H2, R H H2 → Dt X.K (off (Sx S0 γ σ) H2) v d → Q v H2) → we X e σ H Q
/-- e comes to a new list of ds -/
def EF (R : Hp → Hp → Prop) (X : Cx) (γ : List Sl) (e : Expr) (ds : List D) : Prop :=
  ∀ (H0 : Hp) (S0 : Addr → Prop) (σ : L2.St) (H : Hp) (Q : VK), SI R X.K H0 S0 γ σ H → (∀ p vs H2, H p = none → R H H2 → H2 p = some (.lst vs) → DtAll X.K (off (fun a => a = p ∨ Sx S0 γ σ a) H2) vs ds → Q (.ref p) H2) → we X e σ H Q
/-- e comes to the value v -/
def EV (R : Hp → Hp → Prop) (X : Cx) (γ : List Sl) (e : Expr) (v : V) : Prop :=
  ∀ (H0 : Hp) (S0 : Addr → Prop) (σ : L2.St) (H : Hp) (Q : VK), SI R X.K H0 S0 γ σ H → (∀ H2, R H H2 → Q v H2) → we X e σ H Q
def ET (R : Hp → Hp → Prop) (X : Cx) (γ : List Sl) (e : Expr) (b : Bool) : Prop :=
  ∀ (H0 : Hp) (S0 : Addr → Prop) (σ : L2.St) (H : Hp) (Q : Bool → Hp → Prop), SI R X.K H0 S0 γ σ H → (∀ H2, R H H2 → Q b H2) → wt X e σ H Q
def EW (R : Hp → Hp → Prop) (X : Cx) (γ : List Sl) (e : Expr) (b : Bool) : Prop :=
  ∀ (H0 : Hp) (S0 : Addr → Prop) (σ : L2.St) (H : Hp) (Q : Bool → Hp → Prop), SI R X.K H0 S0 γ σ H → (∀ H2, R H H2 → Q b H2) → ww X e σ H Q
def EA (R : Hp → Hp → Prop) (X : Cx) (γ : List Sl) (es : List Expr) (ds : List D) : Prop :=
  ∀ (H0 : Hp) (S0 : Addr → Prop) (σ : L2.St) (H : Hp) (Q : List V → Hp → Prop), SI R X.K H0 S0 γ σ H → (∀ vs H2, R H H2 → DtAll X.K (off (Sx S0 γ σ) H2) vs ds → Q vs H2) → wa X es σ H Q
section
variable {R : Hp → Hp → Prop} [Rel R] {X : Cx} {γ : List Sl} {pos : Pos}
theorem dt_up {K : PySem.W.Frag} {S : Addr → Prop} {H H' : Hp} {v : V} {d : D} (r : R H H') (h : Dt K (off S H) v d) : Dt K (off S H') v d := dp_keep (off_keep (Rel.keep r) fun _ z => z) _ _ h
theorem dts_up {K : PySem.W.Frag} {S : Addr → Prop} {H H' : Hp} {v : List V} {d : List D} (r : R H H') (h : DtAll K (off S H) v d) : DtAll K (off S H') v d := dps_keep (off_keep (Rel.keep r) fun _ z => z) _ _ h
theorem dt_in {K : PySem.W.Frag} {S : Addr → Prop} {H : Hp} {v : V} {d : D} (h : Dt K (off S H) v d) : Dt K H v d := dp_keep off_in _ _ h
theorem dts_in {K : PySem.W.Frag} {S : Addr → Prop} {H : Hp} {v : List V} {d : List D} (h : DtAll K (off S H) v d) : DtAll K H v d := dps_keep off_in _ _ h
theorem dt_new {K : PySem.W.Frag} {S : Addr → Prop} {H : Hp} {p : Addr} {o : HO} {v : V} {d : D} (n : H p = none) (h : Dt K (off S H) v d) : Dt K (off S (upd H p o)) v d := dp_keep (off_keep (Keep.of (same_new n)) fun _ z => z) _ _ h
theorem dts_new {K : PySem.W.Frag} {S : Addr → Prop} {H : Hp} {p : Addr} {o : HO} {v : List V} {d : List D} (n : H p = none) (h : DtAll K (off S H) v d) : DtAll K (off S (upd H p o)) v d := dps_keep (off_keep (Keep.of (same_new n)) fun _ z => z) _ _ h
/-- data that was there ahead of a new object doesn't hold it -/
theorem dts_newO {K : PySem.W.Frag} {S : Addr → Prop} {H : Hp} {p : Addr} {o : HO} {v : List V} {d : List D} (n : H p = none) (h : DtAll K (off S H) v d) : DtAll K (off (fun a => a = p ∨ S a) (upd H p o)) v d := by
  refine dps_keep (fun a u e z => ?_) _ _ h
  obtain ⟨h1, h2⟩ := off_some e
  have na : a ≠ p := ne_of_none h2 n
  refine off_of (fun q => ?_) ?_
  · rcases q with q | q
    · exact na q
    · exact h1 q
  · rw [upd_ne na]
    exact h2
theorem ee_is {e : Expr} {d d' : D} (h : EE R X γ e d) (q : d = d') : EE R X γ e d' := by
  rw [← q]
  exact h
theorem ef_ee {e : Expr} {ds : List D} (h : EF R X γ e ds) : EE R X γ e (.list ds) := fun H0 S0 σ H Q s k => h H0 S0 σ H Q s fun p vs H2 n r hp hd => by
  refine k (.ref p) H2 r (.lst (.inl (off_of (fun z => ?_) hp)) (dps_keep (off_keep (Keep.refl H2) fun a z => .inr z) _ _ hd))
  exact s.there z n
theorem ef_is {e : Expr} {ds ds' : List D} (h : EF R X γ e ds) (q : ds = ds') : EF R X γ e ds' := by
  rw [← q]
  exact h
/-! ### names, constants -/
theorem ee_var (i : Nat) {x : Str} {d : D} (h : γ[i]? = some (.dat d) := by rfl) (hN : X.N[i]? = some x := by rfl) (hv : Vis X.env.scope x := by first | exact Or.inl rfl | exact Or.inr (Or.inl rfl) | exact Or.inr (Or.inr rfl))
    (hd : (x == ("__debug__" : Str)) = false := by decide) (hcd : (x == ("__classdict__" : Str)) = false := by decide) : EE R X γ (.Name x pos) d := fun H0 S0 σ H Q s k => by
  obtain ⟨v, h1, h2⟩ := s.dat i d h
  exact we_of (pe_var hN hv hd hcd) ⟨v, h1, k v H (s.ref) h2⟩
theorem ev_var (i : Nat) {x : Str} {v : V} (h : γ[i]? = some (.val v) := by rfl) (hN : X.N[i]? = some x := by rfl) (hv : Vis X.env.scope x := by first | exact Or.inl rfl | exact Or.inr (Or.inl rfl) | exact Or.inr (Or.inr rfl))
    (hd : (x == ("__debug__" : Str)) = false := by decide) (hcd : (x == ("__classdict__" : Str)) = false := by decide) : EV R X γ (.Name x pos) v := fun H0 S0 σ H Q s k =>
  we_of (pe_var hN hv hd hcd) ⟨v, s.val i v h, k H (s.ref)⟩
theorem ee_int {i : Int} {j : Nat} : EE R X γ (.Constant (.int i) j pos) (.int i) := fun _ _ _ H Q s k => we_of pe_int (k _ H (s.ref) (.int i))
theorem ee_bl {b : Bool} {j : Nat} : EE R X γ (.Constant (.bool b) j pos) (.bool b) := fun _ _ _ H Q s k => we_of pe_bl (k _ H (s.ref) (.bl b))
theorem ee_non {j : Nat} : EE R X γ (.Constant .none j pos) .none := fun _ _ _ H Q s k => we_of pe_non (k _ H (s.ref) .non)
theorem ee_str {x : Str} {j : Nat} : EE R X γ (.Constant (.str x) j pos) (.str x) := fun _ _ _ H Q s k => we_of pe_str (k _ H (s.ref) (.str x))
/-- a module's constant: d at every heap -/
def KD (K : PySem.W.Frag) (mg : Str → Option Value) (x : Str) (d : D) : Prop := ∃ (v : V) (u : Value), mg x = some u ∧ RelV v u ∧ ∀ H : Hp, Dt K H v d
theorem ee_glob {x : Str} {d : D} (c : KD X.K X.mg x d) (hg : Gl X x := by rfl) (hd : (x == ("__debug__" : Str)) = false := by decide) : EE R X γ (.Name x pos) d := fun _ _ _ H Q s k => by
  obtain ⟨v, u, h1, h2, h3⟩ := c
  exact we_of (pe_glob hg h1 h2 hd) (k _ H (s.ref) (h3 _))
theorem ev_glob {x : Str} {v : V} {u : Value} (hm : X.mg x = some u) (r : RelV v u) (hg : Gl X x := by rfl) (hd : (x == ("__debug__" : Str)) = false := by decide) : EV R X γ (.Name x pos) v := fun _ _ _ H Q s k =>
  we_of (pe_glob hg hm r hd) (k H (s.ref))
theorem ev_bltn {x : Str} {v : V} {u : Value} (hm : X.mg x = none) (hv : bootBuiltins x = some u) (r : RelV v u) (hg : Gl X x := by rfl) (hn : x ≠ "__name__" := by decide) (hd : (x == ("__debug__" : Str)) = false := by decide) : EV R X γ (.Name x pos) v := fun _ _ _ H Q s k =>
  we_of (pe_bltn hg hm hv r hn hd) (k H (s.ref))
/-! ### argument lists, displays -/
theorem ea_nil : EA R X γ [] [] := fun _ _ _ H Q s k => wa_of pa_nil (k [] H (s.ref) .nil)
theorem ea_cons {e : Expr} {es : List Expr} {d : D} {ds : List D} (h : EE R X γ e d) (t : EA R X γ es ds) (hs : starEach (e :: es) X.env = (false, eval e X.env) :: starEach es X.env := by rfl) : EA R X γ (e :: es) (d :: ds) := fun H0 S0 σ H Q s k =>
  wa_of (pa_cons pe_we pa_wa hs) (h H0 S0 σ H _ s fun v H1 r1 d1 => t H0 S0 σ H1 _ (s.mono r1) fun vs H2 r2 d2 => k (v :: vs) H2 (Rel.trans r1 r2) (.cons (dt_up r2 d1) d2))
theorem ee_tup {es : List Expr} {x1} {ds : List D} (h : EA R X γ es ds) (hl : ds.length ≤ 1000 := by exact Nat.le_of_ble_eq_true rfl) : EE R X γ (.Tuple es x1 pos) (.tuple ds) := fun H0 S0 σ H Q s k =>
  we_of (pe_tup pa_wa) (h H0 S0 σ H _ s fun vs H1 r1 d1 => ⟨by rw [dps_len d1]; exact Nat.le_of_lt (small1000 hl), fun p n => by
    have sd := s.mono r1
    refine k (.ref p) _ (Rel.more r1 (same_new n)) (.tup (.inl (.inl (off_of (fun z => sd.there z n) upd_same))) (dts_new n d1))⟩)
theorem ef_lst {es : List Expr} {ds : List D} (h : EA R X γ es ds) (hl : ds.length ≤ 1000 := by exact Nat.le_of_ble_eq_true rfl) : EF R X γ (.List es pos) ds := fun H0 S0 σ H Q s k =>
  we_of (pe_lst pa_wa) (h H0 S0 σ H _ s fun vs H1 r1 d1 => ⟨by rw [dps_len d1]; exact Nat.le_of_lt (small1000 hl), fun p n =>
    k p vs _ (Rel.free r1 n) (Rel.more r1 (same_new n)) upd_same (dts_newO n d1)⟩)
theorem ee_lst {es : List Expr} {ds : List D} (h : EA R X γ es ds) (hl : ds.length ≤ 1000 := by exact Nat.le_of_ble_eq_true rfl) : EE R X γ (.List es pos) (.list ds) := ef_ee (ef_lst h hl)
/-! ### operators on data -/
/-- an operator, by data: what comes is no new object -/
def OpD (X : Cx) (f : Value → Value → Sem Value) (a b c : D) : Prop := ∃ r : R2, OpR X f r ∧ ∀ (H : Hp) (x y : V) (Q : VK), Dt X.K H x a → Dt X.K H y b → (∀ z, (∀ H', Dt X.K H' z c) → Q z H) → r x y H Q
theorem ee_op {a b : Expr} {op : Operator} {x y z : D} (ha : EE R X γ a x) (hb : EE R X γ b y) (ho : OpD X (binaryOp op) x y z) : EE R X γ (.BinOp a op b pos) z := fun H0 S0 σ H Q s k => by
  obtain ⟨r, h1, h2⟩ := ho
  exact we_of (pe_op h1 pe_we pe_we) (ha H0 S0 σ H _ s fun v H1 r1 d1 => hb H0 S0 σ H1 _ (s.mono r1) fun u H2 r2 d2 => h2 H2 v u Q (dt_in (dt_up r2 d1)) (dt_in d2) fun z q => k z H2 (Rel.trans r1 r2) (q _))
theorem ee_cmp {a b : Expr} {op : CmpOp} {x y z : D} (ha : EE R X γ a x) (hb : EE R X γ b y) (ho : OpD X (compareOp op) x y z) (hm : behindInMarks op b = false) : EE R X γ (.Compare a [op] [b] pos) z := fun H0 S0 σ H Q s k => by
  obtain ⟨r, h1, h2⟩ := ho
  exact we_of (pe_cmpR h1 pe_we pe_we hm) (ha H0 S0 σ H _ s fun v H1 r1 d1 => hb H0 S0 σ H1 _ (s.mono r1) fun u H2 r2 d2 => h2 H2 v u Q (dt_in (dt_up r2 d1)) (dt_in d2) fun z q => k z H2 (Rel.trans r1 r2) (q _))
theorem et_cmp {a b : Expr} {op : CmpOp} {x y : D} {c : Bool} (ha : EE R X γ a x) (hb : EE R X γ b y) (ho : OpD X (compareOp op) x y (.bool c)) (hm : behindInMarks op b = false) : ET R X γ (.Compare a [op] [b] pos) c := fun H0 S0 σ H Q s k => by
  obtain ⟨r, h1, h2⟩ := ho
  exact wt_of (pt_cmpR h1 pe_we pe_we hm) (ha H0 S0 σ H _ s fun v H1 r1 d1 => hb H0 S0 σ H1 _ (s.mono r1) fun u H2 r2 d2 => h2 H2 v u _ (dt_in (dt_up r2 d1)) (dt_in d2) fun z q => by
    have e := q H2
    cases e
    exact ⟨c, rfl, k H2 (Rel.trans r1 r2)⟩)
theorem opd_I0 {f : Value → Value → Sem Value} {g : Int → Int → V} {i j : Int} {c : D} (h : OpR X f (rI0 g)) (hc : ∀ H, Dt X.K H (g i j) c) : OpD X f (.int i) (.int j) c := ⟨_, h, fun H x y Q hx hy k => by
  cases hx
  cases hy
  exact ⟨i, j, rfl, rfl, k _ hc⟩⟩
theorem opd_I {f : Value → Value → Sem Value} {C : Int → Int → Prop} {g : Int → Int → V} {i j : Int} {c : D} (h : OpR X f (rI C g)) (hC : C i j) (hc : ∀ H, Dt X.K H (g i j) c) : OpD X f (.int i) (.int j) c := ⟨_, h, fun H x y Q hx hy k => by
  cases hx
  cases hy
  exact ⟨i, j, rfl, rfl, hC, k _ hc⟩⟩
theorem od_add {i j : Int} : OpD X (binaryOp .Add) (.int i) (.int j) (.int (i + j)) := opd_I0 op_add fun _ => .int _
theorem od_sub {i j : Int} : OpD X (binaryOp .Sub) (.int i) (.int j) (.int (i - j)) := opd_I0 op_sub fun _ => .int _
theorem od_mul {i j : Int} (h : CMulX i j) : OpD X (binaryOp .Mult) (.int i) (.int j) (.int (i * j)) := opd_I op_mulX h fun _ => .int _
theorem od_mod {i j : Int} (h : 0 < j) : OpD X (binaryOp .Mod) (.int i) (.int j) (.int (i % j)) := opd_I op_mod h fun _ => .int _
theorem od_lt {i j : Int} : OpD X (compareOp .Lt) (.int i) (.int j) (.bool (decide (i < j))) := opd_I0 op_lt fun _ => .bl _
theorem od_le {i j : Int} : OpD X (compareOp .LtE) (.int i) (.int j) (.bool (decide (i ≤ j))) := opd_I0 op_le fun _ => .bl _
theorem od_gt {i j : Int} : OpD X (compareOp .Gt) (.int i) (.int j) (.bool (decide (j < i))) := opd_I0 op_gt fun _ => .bl _
theorem od_ge {i j : Int} : OpD X (compareOp .GtE) (.int i) (.int j) (.bool (decide (j ≤ i))) := opd_I0 op_ge fun _ => .bl _
/-- what a body's context has besides: no one looks at a great division -/
structure Gx (X : Cx) (k : Nat) : Prop where
  room : Room k X.A
  big : 40 ≤ k
  ns : X.base.NoSeer
  tree : X.prog.given.tree = none
  stk : ∃ env l, X.stack = env :: l ∧ env.scope.isGenerator = false ∧ env.scope.isCoroutine = false ∧ env.builtins = builtinsNs ∧ env.globals = mainGlobals
theorem Gx.blk {k : Nat} (g : Gx X k) {s : Shared} {H : Hp} {scope : Scope} {cenv : Env} {fp : List Addr} : Gx (X.blk s H scope cenv fp) k := ⟨g.room, g.big, g.ns, g.tree, g.stk⟩
theorem Gx.pylong {k : Nat} (g : Gx X k) {pins : List (Addr × Obj)} {σ : L2.St} {H : Hp} {s : Shared} (I : Inv X pins σ H s) : PySem.PylongRoom (model X.prog X.w) X.A s := by
  obtain ⟨env, l, e, h1, h2, h3, h4⟩ := g.stk
  refine PySem.PylongRoom.of I.nolimit ?_ (PySem.SeerAt.of (env := env) (l := l) (g.ns.keeps I.bk) g.tree (by rw [I.ok.frames, e]) h1 h2 h3 h4)
  have h5 := g.room.dp
  have h6 := g.big
  show X.A.depth + 100 < recursionLimit
  omega
/-- // by a positive number of any size -/
theorem op_fdivR {k : Nat} (g : Gx X k) : OpR X (binaryOp .FloorDiv) (rI (fun _ j => 0 < j) fun i j => .int (i / j)) := by
  intro pins s σ H x y v u Q I rx ry h
  obtain ⟨i, j, rfl, rfl, hj, q⟩ := h
  have hj' : 0 < j := hj
  obtain ⟨t, rfl⟩ := rx
  obtain ⟨t', rfl⟩ := ry
  refine floordiv_int (by omega) ?_ (.inr (g.pylong I))
  rw [Int.fdiv_eq_ediv_of_nonneg i (by omega)]
  exact ⟨.int (i / j), H, I.tok _, ⟨_, rfl⟩, q⟩
theorem od_fdiv {i j : Int} {k : Nat} (g : Gx X k) (h : 0 < j) : OpD X (binaryOp .FloorDiv) (.int i) (.int j) (.int (i / j)) := opd_I (op_fdivR g) h fun _ => .int _
theorem od_eq {a b : D} {k : Nat} (g : Gx X k) (ha : SeqAt.shaped a = true) (hb : SeqAt.shaped b = true) : OpD X (compareOp .Eq) a b (.bool (PyData.eqv a b)) := ⟨_, op_eqD g.room.units, fun H x y Q hx hy k => ⟨a, b, hx.dp, hy.dp, ha, hb, k _ fun _ => .bl _⟩⟩
theorem od_ne {a b : D} {k : Nat} (g : Gx X k) (ha : SeqAt.shaped a = true) (hb : SeqAt.shaped b = true) : OpD X (compareOp .NotEq) a b (.bool (!PyData.eqv a b)) := ⟨_, op_neD g.room.units, fun H x y Q hx hy k => ⟨a, b, hx.dp, hy.dp, ha, hb, k _ fun _ => .bl _⟩⟩
theorem od_isN {a : D} : OpD X (compareOp .Is) a .none (.bool (match a with | .none => true | _ => false)) := ⟨_, op_isN, fun H x y Q hx hy k => by
  cases hy
  refine ⟨rfl, ?_⟩
  cases hx with
  | non => exact k _ fun _ => .bl true
  | bl b => exact k _ fun _ => .bl false
  | int i => exact k _ fun _ => .bl false
  | str z => exact k _ fun _ => .bl false
  | lst h1 h2 => exact k _ fun _ => .bl false
  | tup h1 h2 => exact k _ fun _ => .bl false⟩
theorem od_notN {a : D} : OpD X (compareOp .IsNot) a .none (.bool (match a with | .none => false | _ => true)) := ⟨_, op_notN, fun H x y Q hx hy k => by
  cases hy
  refine ⟨rfl, ?_⟩
  cases hx with
  | non => exact k _ fun _ => .bl false
  | bl b => exact k _ fun _ => .bl true
  | int i => exact k _ fun _ => .bl true
  | str z => exact k _ fun _ => .bl true
  | lst h1 h2 => exact k _ fun _ => .bl true
  | tup h1 h2 => exact k _ fun _ => .bl true⟩
/-- -n, n written -/
theorem ee_neg {a : Expr} {i : Int} (ha : EE R X γ a (.int i)) : EE R X γ (.UnaryOp .USub a pos) (.int (-i)) := fun H0 S0 σ H Q s k =>
  we_of (pe_un un_neg pe_we) (ha H0 S0 σ H _ s fun v H1 r1 d1 => by
    cases d1
    exact ⟨i, rfl, k _ H1 r1 (.int _)⟩)
/-- a chain of two comparisons -/
theorem ee_chain {a b c : Expr} {op op' : CmpOp} {x y z : D} {p : Bool} {w : Bool} (ha : EE R X γ a x) (hb : EE R X γ b y) (hc : EE R X γ c z) (ho : OpD X (compareOp op) x y (.bool p)) (ho' : OpD X (compareOp op') y z (.bool w)) (hm : lastMarks [op, op'] [b, c] = false := by with_unfolding_all rfl) :
    EE R X γ (.Compare a [op, op'] [b, c] pos) (.bool (p && w)) := fun H0 S0 σ H Q s k => by
  obtain ⟨r, h1, h2⟩ := ho
  obtain ⟨r', h1', h2'⟩ := ho'
  refine we_of (pe_chain h1 h1' pe_we pe_we pe_we hm) (ha H0 S0 σ H _ s fun v H1 r1 d1 => hb H0 S0 σ H1 _ (s.mono r1) fun u H2 r2 d2 => h2 H2 v u _ (dt_in (dt_up r2 d1)) (dt_in d2) fun t q => ?_)
  have e := q H2
  cases e
  refine ⟨p, rfl, ?_⟩
  cases p with
  | true =>
    rw [if_pos rfl]
    refine hc H0 S0 σ H2 _ (s.mono (Rel.trans r1 r2)) fun v3 H3 r3 d3 => h2' H3 u v3 Q (dt_in (dt_up r3 d2)) (dt_in d3) fun t q => ?_
    have e := q H3
    cases e
    exact k _ H3 (Rel.trans (Rel.trans r1 r2) r3) (q _)
  | false =>
    rw [if_neg Bool.false_ne_true]
    exact k _ H2 (Rel.trans r1 r2) (.bl false)
/-- .. as a test -/
theorem et_chain {a b c : Expr} {op op' : CmpOp} {x y z : D} {p : Bool} {w : Bool} (ha : EE R X γ a x) (hb : EE R X γ b y) (hc : EE R X γ c z) (ho : OpD X (compareOp op) x y (.bool p)) (ho' : OpD X (compareOp op') y z (.bool w)) (hm : lastMarks [op, op'] [b, c] = false := by with_unfolding_all rfl) :
    ET R X γ (.Compare a [op, op'] [b, c] pos) (p && w) := fun H0 S0 σ H Q s k => by
  obtain ⟨r, h1, h2⟩ := ho
  obtain ⟨r', h1', h2'⟩ := ho'
  refine wt_of (pt_chain h1 h1' pe_we pe_we pe_we hm) (ha H0 S0 σ H _ s fun v H1 r1 d1 => hb H0 S0 σ H1 _ (s.mono r1) fun u H2 r2 d2 => h2 H2 v u _ (dt_in (dt_up r2 d1)) (dt_in d2) fun t q => ?_)
  have e := q H2
  cases e
  refine ⟨p, rfl, ?_⟩
  cases p with
  | true =>
    rw [if_pos rfl]
    refine hc H0 S0 σ H2 _ (s.mono (Rel.trans r1 r2)) fun v3 H3 r3 d3 => h2' H3 u v3 _ (dt_in (dt_up r3 d2)) (dt_in d3) fun t q => ?_
    have e := q H3
    cases e
    exact ⟨_, rfl, k H3 (Rel.trans (Rel.trans r1 r2) r3)⟩
  | false =>
    rw [if_neg Bool.false_ne_true]
    exact ⟨_, rfl, k H2 (Rel.trans r1 r2)⟩
/-! ### truth -/
theorem et_val {e : Expr} {b : Bool} (h : EE R X γ e (.bool b)) (he : ∀ whole, isTrue e X.env whole = (do let v ← whole; standAt e.pos; holding [v] (truthy v)) := by intro _; rfl) : ET R X γ e b := fun H0 S0 σ H Q s k =>
  wt_of (pt_val pe_we he) (h H0 S0 σ H _ s fun v H1 r1 d1 => by
    cases d1
    exact ⟨b, rfl, k H1 r1⟩)
theorem et_is {e : Expr} {b b' : Bool} (h : ET R X γ e b) (q : b = b') : ET R X γ e b' := by
  rw [← q]
  exact h
theorem ew_and1 {a : Expr} {b : Bool} (h : ET R X γ a b) : EW R X γ (.BoolOp .And [a] pos) b := fun H0 S0 σ H Q s k => ww_of (pw_and1 pt_wt) (h H0 S0 σ H _ s k)
theorem ew_or1 {a : Expr} {b : Bool} (h : ET R X γ a b) : EW R X γ (.BoolOp .Or [a] pos) b := fun H0 S0 σ H Q s k => ww_of (pw_or1 pt_wt) (h H0 S0 σ H _ s k)
theorem ew_and {a c : Expr} {rest : List Expr} {p q : Bool} (h : ET R X γ a p) (t : p = true → EW R X γ (.BoolOp .And (c :: rest) pos) q) : EW R X γ (.BoolOp .And (a :: c :: rest) pos) (p && q) := fun H0 S0 σ H Q s k =>
  ww_of (pw_and pt_wt pw_ww) (h H0 S0 σ H _ s fun H1 r1 => by
    cases p with
    | true =>
      rw [if_pos rfl]
      exact t rfl H0 S0 σ H1 _ (s.mono r1) fun H2 r2 => k H2 (Rel.trans r1 r2)
    | false =>
      rw [if_neg Bool.false_ne_true]
      exact k H1 r1)
theorem ew_or {a c : Expr} {rest : List Expr} {p q : Bool} (h : ET R X γ a p) (t : p = false → EW R X γ (.BoolOp .Or (c :: rest) pos) q) : EW R X γ (.BoolOp .Or (a :: c :: rest) pos) (p || q) := fun H0 S0 σ H Q s k =>
  ww_of (pw_or pt_wt pw_ww) (h H0 S0 σ H _ s fun H1 r1 => by
    cases p with
    | true =>
      rw [if_pos rfl]
      exact k H1 r1
    | false =>
      rw [if_neg Bool.false_ne_true]
      exact t rfl H0 S0 σ H1 _ (s.mono r1) fun H2 r2 => k H2 (Rel.trans r1 r2))
/-- the first of several is so: the others aren't looked at -/
theorem et_ew_or {a c : Expr} {rest : List Expr} (h : ET R X γ a true) : EW R X γ (.BoolOp .Or (a :: c :: rest) pos) true := ew_or (q := true) h (fun z => nomatch z)
theorem ew_et {e : Expr} {b : Bool} (h : EW R X γ e b) : ET R X γ e b := fun H0 S0 σ H Q s k => wt_of pw_ww.pt (h H0 S0 σ H Q s k)
theorem et_not {a : Expr} {b : Bool} (h : ET R X γ a b) : ET R X γ (.UnaryOp .Not a pos) (!b) := fun H0 S0 σ H Q s k => wt_of (pt_not pt_wt) (h H0 S0 σ H _ s k)
/-! .. as values -/
theorem ee_one {op} {a : Expr} {d : D} (h : EE R X γ a d) : EE R X γ (.BoolOp op [a] pos) d := fun H0 S0 σ H Q s k => we_of (pe_one pe_we) (h H0 S0 σ H Q s k)
theorem ee_and {a c : Expr} {rest : List Expr} {p q : Bool} (h : EE R X γ a (.bool p)) (t : p = true → EE R X γ (.BoolOp .And (c :: rest) pos) (.bool q)) : EE R X γ (.BoolOp .And (a :: c :: rest) pos) (.bool (p && q)) := fun H0 S0 σ H Q s k =>
  we_of (pe_and pe_we pe_we) (h H0 S0 σ H _ s fun v H1 r1 d1 => by
    cases d1
    refine ⟨p, rfl, ?_⟩
    cases p with
    | true =>
      rw [if_pos rfl]
      exact t rfl H0 S0 σ H1 _ (s.mono r1) fun v H2 r2 => k v H2 (Rel.trans r1 r2)
    | false =>
      rw [if_neg Bool.false_ne_true]
      exact k _ H1 r1 (.bl false))
theorem ee_or {a c : Expr} {rest : List Expr} {p q : Bool} (h : EE R X γ a (.bool p)) (t : p = false → EE R X γ (.BoolOp .Or (c :: rest) pos) (.bool q)) : EE R X γ (.BoolOp .Or (a :: c :: rest) pos) (.bool (p || q)) := fun H0 S0 σ H Q s k =>
  we_of (pe_or pe_we pe_we) (h H0 S0 σ H _ s fun v H1 r1 d1 => by
    cases d1
    refine ⟨p, rfl, ?_⟩
    cases p with
    | true =>
      rw [if_pos rfl]
      exact k _ H1 r1 (.bl true)
    | false =>
      rw [if_neg Bool.false_ne_true]
      exact t rfl H0 S0 σ H1 _ (s.mono r1) fun v H2 r2 => k v H2 (Rel.trans r1 r2))
theorem ee_not {a : Expr} {b : Bool} (h : EE R X γ a (.bool b)) : EE R X γ (.UnaryOp .Not a pos) (.bool (!b)) := fun H0 S0 σ H Q s k =>
  we_of (pe_not pe_we) (h H0 S0 σ H _ s fun v H1 r1 d1 => by
    cases d1
    exact ⟨b, rfl, k _ H1 r1 (.bl _)⟩)
theorem ee_if {c a b : Expr} {p : Bool} {d : D} (h : ET R X γ c p) (h1 : p = true → EE R X γ a d) (h2 : p = false → EE R X γ b d) : EE R X γ (.IfExp c a b pos) d := fun H0 S0 σ H Q s k =>
  we_of (pe_ifExp pt_wt pe_we pe_we) (h H0 S0 σ H _ s fun H1 r1 => by
    cases p with
    | true =>
      rw [if_pos rfl]
      exact h1 rfl H0 S0 σ H1 _ (s.mono r1) fun v H2 r2 => k v H2 (Rel.trans r1 r2)
    | false =>
      rw [if_neg Bool.false_ne_true]
      exact h2 rfl H0 S0 σ H1 _ (s.mono r1) fun v H2 r2 => k v H2 (Rel.trans r1 r2))
/-! ### items, slices -/
def ixD : D → Int → Option D
  | .list ds, i => atI ds i
  | .tuple ds, i => atI ds i
  | _, _ => none
theorem atI_dts {K : PySem.W.Frag} {H : Hp} {vs : List V} {ds : List D} {i : Int} {d : D} (h : DtAll K H vs ds) (e : atI ds i = some d) : ∃ v, atI vs i = some v ∧ Dt K H v d := by
  unfold atI at e ⊢
  rw [dps_len h]
  cases q : ixN ds.length i with
  | none => rw [q] at e; cases e
  | some j =>
    rw [q] at e
    exact dps_get h e
theorem ee_ix {a b : Expr} {x d : D} {i : Int} (ha : EE R X γ a x) (hb : EE R X γ b (.int i)) (h : ixD x i = some d) (hs : PlainIx b := by exact fun _ _ => rfl) : EE R X γ (.Subscript a b pos) d := fun H0 S0 σ H Q s k => by
  cases x with
  | list ds =>
    exact we_of (pe_ix ix_list pe_we pe_we hs) (ha H0 S0 σ H _ s fun v H1 r1 d1 => hb H0 S0 σ H1 _ (s.mono r1) fun u H2 r2 d2 => by
      cases d2
      have d1' := dt_up r2 d1
      cases d1' with
      | lst h1 h2 =>
        obtain ⟨w, e1, e2⟩ := atI_dts h2 h
        exact ⟨_, _, i, w, rfl, rfl, (.inl (rd_keep off_in h1)), e1, k w H2 (Rel.trans r1 r2) e2⟩)
  | tuple ds =>
    exact we_of (pe_ix ix_tup pe_we pe_we hs) (ha H0 S0 σ H _ s fun v H1 r1 d1 => hb H0 S0 σ H1 _ (s.mono r1) fun u H2 r2 d2 => by
      cases d2
      have d1' := dt_up r2 d1
      cases d1' with
      | tup h1 h2 =>
        obtain ⟨w, e1, e2⟩ := atI_dts h2 h
        exact ⟨_, _, i, w, rfl, rfl, sqt_keep off_in h1, e1, k w H2 (Rel.trans r1 r2) e2⟩)
  | _ => cases h
/-- an item of a list of one's own -/
theorem ee_ixO (j : Nat) {x : Str} {b : Expr} {ds : List D} {d : D} {i : Int} {p : Pos} (hj : γ[j]? = some (.own ds) := by rfl) (hb : EE R X γ b (.int i)) (h : atI ds i = some d) (hs : PlainIx b := by exact fun _ _ => rfl) (hN : X.N[j]? = some x := by rfl)
    (hv : Vis X.env.scope x := by first | exact Or.inl rfl | exact Or.inr (Or.inl rfl) | exact Or.inr (Or.inr rfl)) (hd : (x == ("__debug__" : Str)) = false := by decide) (hcd : (x == ("__classdict__" : Str)) = false := by decide) :
    EE R X γ (.Subscript (.Name x p) b pos) d := fun H0 S0 σ H Q s k => by
  obtain ⟨l, vs, h1, _, _, _⟩ := s.own j ds hj
  refine we_of (pe_ix ix_list (pe_var hN hv hd hcd) pe_we hs) ⟨_, h1, hb H0 S0 σ H _ s fun u H2 r2 d2 => ?_⟩
  cases d2
  obtain ⟨l', vs', a1, _, a3, a4⟩ := (s.mono r2).own j ds hj
  rw [h1] at a1
  cases a1
  obtain ⟨w, e1, e2⟩ := atI_dts a4 h
  exact ⟨_, _, i, w, rfl, rfl, SqL.of a3, e1, k w H2 r2 e2⟩
/-- the bounds of a slice -/
def EO (R : Hp → Hp → Prop) (X : Cx) (γ : List Sl) (e : Option Expr) (i : Option Int) : Prop :=
  ∃ t : TO, PO X e t ∧ ∀ (H0 : Hp) (S0 : Addr → Prop) (σ : L2.St) (H : Hp) (Q : Option Int → Hp → Prop), SI R X.K H0 S0 γ σ H → (∀ H2, R H H2 → Q i H2) → t σ H Q
theorem eo_none : EO R X γ none none := ⟨_, po_none, fun _ _ _ H _ s k => k H (s.ref)⟩
theorem eo_some {e : Expr} {i : Int} (h : EE R X γ e (.int i)) : EO R X γ (some e) (some i) := ⟨_, po_some pe_we, fun H0 S0 σ H Q s k => h H0 S0 σ H _ s fun v H1 r1 d1 => by
  cases d1
  exact ⟨i, rfl, k H1 r1⟩⟩
def cutD (ds : List D) (lo hi : Option Int) : List D := (ds.drop (HT.sIx ds.length 0 lo)).take (HT.sIx ds.length ds.length hi - HT.sIx ds.length 0 lo)
theorem cut_dts {K : PySem.W.Frag} {H : Hp} {vs : List V} {ds : List D} {lo hi : Option Int} (h : DtAll K H vs ds) : DtAll K H (cutV vs lo hi) (cutD ds lo hi) := by
  unfold cutV cutD
  rw [dps_len h]
  exact dps_take _ (dps_drop _ h)
theorem ef_slice {e : Expr} {lo hi : Option Expr} {ds : List D} {l u : Option Int} {p2 : Pos} (he : EE R X γ e (.list ds)) (hl : EO R X γ lo l) (hu : EO R X γ hi u) : EF R X γ (.Subscript e (.Slice lo hi none p2) pos) (cutD ds l u) := fun H0 S0 σ H Q s k => by
  obtain ⟨tl, p1, q1⟩ := hl
  obtain ⟨th, p3, q3⟩ := hu
  refine we_of (pe_slice sl_list pe_we p1 p3) (he H0 S0 σ H _ s fun v H1 r1 d1 => q1 H0 S0 σ H1 _ (s.mono r1) fun H2 r2 => q3 H0 S0 σ H2 _ (s.mono (Rel.trans r1 r2)) fun H3 r3 => ?_)
  have d3 := dt_up r3 (dt_up r2 d1)
  cases d3 with
  | lst h1 h2 =>
    refine ⟨_, _, rfl, (.inl (rd_keep off_in h1)), fun p n => ?_⟩
    have rr := Rel.trans (Rel.trans r1 r2) r3
    exact k p _ _ (Rel.free rr n) (Rel.more rr (same_new n)) upd_same (dts_newO n (cut_dts h2))
theorem rd_obj {pins : List (Addr × Obj)} {σ : L2.St} {H : Hp} {s : Shared} {a : Addr} {xs : List V} (I : Inv X pins σ H s) (h : Rd H a (.lst xs)) : xs.length ≤ sizeLine ∧ ∃ (its : List Value) (n : Nat), Vals xs its ∧ s.heap.get? a = some { cls := .type "list", data := .seq its.toArray n } := by
  obtain ⟨z, its, n, r, e⟩ := h.ok I.hok
  exact ⟨z, its, n, r, e⟩
/-- xs + ys, locked ones too -/
theorem op_catR : OpR X (binaryOp .Add) (fun x y H Q => ∃ a b us ws, x = .ref a ∧ y = .ref b ∧ Rd H a (.lst us) ∧ Rd H b (.lst ws) ∧ us.length + ws.length ≤ sizeLine ∧ ∀ p, H p = none → Q (.ref p) (upd H p (.lst (us ++ ws)))) := by
  intro pins s σ H x y v u Q I rx ry h
  obtain ⟨a, b, us, ws, rfl, rfl, h1, h2, hz, q⟩ := h
  cases rx
  cases ry
  obtain ⟨_, its, n, r, e⟩ := rd_obj I h1
  obtain ⟨_, jts, m, t, f⟩ := rd_obj I h2
  have l1 := r.length
  have l2 := t.length
  refine PySem.P.add_list e f ?_ (by simp only [List.size_toArray]; omega)
  rw [show its.toArray ++ jts.toArray = (its ++ jts).toArray by simp]
  exact ⟨.ref _, _, I.lnew (t' := s.toks) (r.append t) (by simp only [List.length_append]; exact hz), rfl, q _ (I.hok.fresh (Nat.le_refl _))⟩
/-- xs + ys -/
theorem ef_cat {a b : Expr} {ds es : List D} (ha : EE R X γ a (.list ds)) (hb : EE R X γ b (.list es)) (hl : ds.length + es.length ≤ 1000) : EF R X γ (.BinOp a .Add b pos) (ds ++ es) := fun H0 S0 σ H Q s k =>
  we_of (pe_op op_catR pe_we pe_we) (ha H0 S0 σ H _ s fun v H1 r1 d1 => hb H0 S0 σ H1 _ (s.mono r1) fun u H2 r2 d2 => by
    have d1' := dt_up r2 d1
    cases d1' with
    | lst h1 h2 =>
      cases d2 with
      | lst h3 h4 =>
        refine ⟨_, _, _, _, rfl, rfl, rd_keep off_in h1, rd_keep off_in h3, ?_, fun p n => ?_⟩
        · rw [dps_len h2, dps_len h4]
          exact Nat.le_of_lt (small1000 hl)
        · have rr := Rel.trans r1 r2
          exact k p _ _ (Rel.free rr n) (Rel.more rr (same_new n)) upd_same (dts_newO n (dps_app h2 h4)))
theorem dps_rep {K : PySem.W.Frag} {H : Hp} {vs : List V} {ds : List D} (h : DtAll K H vs ds) : ∀ n : Nat, DtAll K H (List.replicate n vs).flatten (List.replicate n ds).flatten
  | 0 => .nil
  | n + 1 => by
    rw [List.replicate_succ, List.replicate_succ, List.flatten_cons, List.flatten_cons]
    exact dps_app h (dps_rep h n)
/-- xs * n, xs a new list -/
theorem ef_rep {a b : Expr} {ds : List D} {n : Int} (ha : EF R X γ a ds) (hb : EE R X γ b (.int n)) (hn : -1000 ≤ n ∧ n ≤ 1000) (hl : ds.length * n.toNat ≤ 1000) : EF R X γ (.BinOp a .Mult b pos) (List.replicate n.toNat ds).flatten := fun H0 S0 σ H Q s k =>
  we_of (pe_op op_rep pe_we pe_we) (ha H0 S0 σ H _ s fun l vs H1 n1 r1 h1 d1 => hb H0 S0 σ H1 _ (s.mono r1) fun u H2 r2 d2 => by
    cases d2
    have h2 := Rel.keep r2 _ _ h1 fun _ z => nomatch z
    have d3 : DtAll X.K (off (Sx S0 γ σ) H2) vs ds := dps_keep (off_keep (Keep.refl H2) fun a z => .inr z) _ _ (dts_up r2 d1)
    refine ⟨_, n, _, rfl, rfl, h2, by omega, by omega, ?_, fun p z => ?_⟩
    · rw [dps_len d1]
      exact Nat.le_of_lt (small1000 hl)
    · have rr := Rel.trans r1 r2
      exact k p _ _ (Rel.free rr z) (Rel.more rr (same_new z)) upd_same (dts_newO z (dps_rep d3 _)))
/-! ### built-ins called by name -/
/-- a built-in by data: what comes is no new object -/
def CallD (X : Cx) (f : Value) (xs : List D) (c : D) : Prop := ∃ r : List V → Hp → VK → Prop, CallR X f r ∧ ∀ (H : Hp) (vs : List V) (Q : VK), DtAll X.K H vs xs → (∀ z, (∀ H', Dt X.K H' z c) → Q z H) → r vs H Q
theorem ee_callB {x : Str} {id : String} {e : Expr} {es : List Expr} {p : Pos} {xs : List D} {c : D} (ha : EA R X γ (e :: es) xs) (hc : CallD X (.builtin id) xs c) (hm : X.mg x = none) (hv : bootBuiltins x = some (.builtin id)) (hg : Gl X x := by rfl)
    (hn : x ≠ "__name__" := by decide) (hdb : (x == ("__debug__" : Str)) = false := by decide) (he : starEach (e :: es) X.env = (false, eval e X.env) :: starEach es X.env := by rfl) (hpl : (backTo pos (starEach es X.env)).any (·.1) = false := by rfl) :
    EE R X γ (.Call (.Name x p) (e :: es) [] pos) c := fun H0 S0 σ H Q s k => by
  obtain ⟨r, h1, h2⟩ := hc
  exact we_of (pe_callB h1 hg hm hv pa_wa hn hdb he hpl) (ha H0 S0 σ H _ s fun vs H1 r1 d1 => h2 H1 vs Q (dts_in d1) fun z q => k z H1 r1 (q _))
theorem ee_callTy {x : Str} {T : String} {e : Expr} {es : List Expr} {p : Pos} {xs : List D} {c : D} (ha : EA R X γ (e :: es) xs) (hc : CallD X (.type T) xs c) (hm : X.mg x = none) (hv : bootBuiltins x = some (.type T)) (hg : Gl X x := by rfl)
    (hn : x ≠ "__name__" := by decide) (hdb : (x == ("__debug__" : Str)) = false := by decide) (he : starEach (e :: es) X.env = (false, eval e X.env) :: starEach es X.env := by rfl) (hpl : (backTo pos (starEach es X.env)).any (·.1) = false := by rfl) :
    EE R X γ (.Call (.Name x p) (e :: es) [] pos) c := fun H0 S0 σ H Q s k => by
  obtain ⟨r, h1, h2⟩ := hc
  exact we_of (pe_callTy h1 hg hm hv pa_wa hn hdb he hpl) (ha H0 S0 σ H _ s fun vs H1 r1 d1 => h2 H1 vs Q (dts_in d1) fun z q => k z H1 r1 (q _))
end
end An

/-! What is walked, comprehensions, statements. -/
namespace An
open PySem PySem.Spec PyProof.Rows L2
/-! ### targets -/
@[irreducible] def wg (X : Cx) (tg : Expr) : TG := fun v σ H Q => ∀ (pins : List (Addr × Obj)) (s : Shared) (u : Value), Inv X pins σ H s → RelV v u → wpAny (model X.prog X.w) X.A (assign tg X.env u) (fun _ s' => ∃ σ' H', Inv X pins σ' H' s' ∧ Q σ' H') X.xe s
theorem pg_wg {X : Cx} {tg : Expr} : PG X tg (wg X tg) := ⟨fun pins s _ _ _ u _ I r h => by unfold wg at h; exact h pins s u I r⟩
theorem wg_of {X : Cx} {tg : Expr} {t : TG} {v : V} {σ : L2.St} {H : Hp} {Q : L2.St → Hp → Prop} (h : PG X tg t) (q : t v σ H Q) : wg X tg v σ H Q := by
  unfold wg
  exact fun pins s u I r => h.run pins s σ H v u Q I r q
/-- the target takes the data d: the slots js are set -/
def EG (R : Hp → Hp → Prop) (X : Cx) (γ : List Sl) (tg : Expr) (d : D) (γ' : List Sl) : Prop :=
  ∀ (H0 : Hp) (S0 : Addr → Prop) (σ : L2.St) (H : Hp) (v : V) (Q : L2.St → Hp → Prop), SI R X.K H0 S0 γ σ H → Dt X.K (off (Sx S0 γ σ) H) v d → (∀ σ', SI R X.K H0 S0 γ' σ' H → Q σ' H) → wg X tg v σ H Q
section
variable {R : Hp → Hp → Prop} [Rel R] {X : Cx} {γ : List Sl} {pos : Pos}
theorem eg_name {i : Nat} {x : Str} {d : D} (hN : X.N.Nodup) (hi : X.N[i]? = some x := by rfl) (hx : Loc X.env.scope x := by first | exact Or.inl rfl | exact Or.inr rfl)
    (hf : X.fn x = true ∨ X.env.scope.names.lookup x = some .local := by first | exact .inl rfl | exact .inr rfl | assumption) : EG R X γ (.Name x pos) d (γ.set i (.dat d)) := fun H0 S0 σ H v Q s h k =>
  wg_of (pg_name hN hi hx hf) (k _ (s.putD i h))
theorem eg_pair {i j : Nat} {x y : Str} {d1 d2 : D} {p1 p2 : Pos} {kk : Nat} (hc : X.calm = true) (hN : X.N.Nodup) (hi : X.N[i]? = some x := by rfl) (hj : X.N[j]? = some y := by rfl) (hx : Loc X.env.scope x := by first | exact Or.inl rfl | exact Or.inr rfl)
    (hy : Loc X.env.scope y := by first | exact Or.inl rfl | exact Or.inr rfl)
    (hf : X.fn x = true ∨ X.env.scope.names.lookup x = some .local := by first | exact .inl rfl | exact .inr rfl | assumption) (hg : X.fn y = true ∨ X.env.scope.names.lookup y = some .local := by first | exact .inl rfl | exact .inr rfl | assumption)
    (ho : ∀ es, γ[i]? ≠ some (.own es)) :
    EG R X γ (.Tuple [.Name x p1, .Name y p2] kk pos) (.tuple [d1, d2]) ((γ.set i (.dat d1)).set j (.dat d2)) := fun H0 S0 σ H v Q s h k => by
  cases h with
  | tup h1 h2 =>
    cases h2 with
    | cons e1 r1 =>
      cases r1 with
      | cons e2 r2 =>
        cases r2
        refine wg_of (pg_tup hc (pgs_cons (pg_name hN hi hx hf) (pgs_cons (pg_name hN hj hy hg) pgs_nil))) ⟨_, _, rfl, sqt_keep off_in h1, rfl, _, _, rfl, _, _, rfl, rfl, ?_⟩
        have s1 := s.putD i e1
        exact k _ (s1.putD j (dp_keep (off_keep (Keep.refl H) sx_dat) _ _ e2))
/-! ### what is walked -/
/-- J walks ds, as long as the heap H1 is kept but for S -/
structure ItD (K : PySem.W.Frag) (S : Addr → Prop) (J : It) (ds : List D) (H1 : Hp) : Prop where
  go : ∀ (i : Nat) (H' : Hp) (S' : Addr → Prop), Keep (off S H1) (off S' H') → i < ds.length → J.go i H'
  stop : ∀ (i : Nat) (H' : Hp) (S' : Addr → Prop), Keep (off S H1) (off S' H') → ds.length ≤ i → J.stop i H'
  yld : ∀ (i : Nat) (H' : Hp) (S' : Addr → Prop) (x : V) (H'' : Hp) (d : D), Keep (off S H1) (off S' H') → (∀ a, S' a → H' a ≠ none) → J.yld i H' x H'' → ds[i]? = some d → Same H' H'' ∧ Dt K (off S' H'') x d
def EI (R : Hp → Hp → Prop) (X : Cx) (γ : List Sl) (tg iter : Expr) (ds : List D) : Prop :=
  ∃ wi : TI, PI X tg iter wi ∧ ∀ (H0 : Hp) (S0 : Addr → Prop) (σ : L2.St) (H : Hp) (Rk : It → Hp → Prop), SI R X.K H0 S0 γ σ H → (∀ J H1, R H H1 → ItD X.K (Sx S0 γ σ) J ds H1 → Rk J H1) → wi σ H Rk
theorem itd_list {K : PySem.W.Frag} {S : Addr → Prop} {H1 : Hp} {a : Addr} {ds : List D} (h : Dt K (off S H1) (.ref a) (.list ds)) : ItD K S (Itl K a) ds H1 := by
  have up : ∀ (H' : Hp) (S' : Addr → Prop), Keep (off S H1) (off S' H') → ∃ xs, SqL K H' a xs ∧ DtAll K (off S' H') xs ds := fun H' S' k => by
    have h' := dp_keep k _ _ h
    cases h' with
    | lst h1 h2 => exact ⟨_, (.inl (rd_keep off_in h1)), h2⟩
  refine ⟨fun i H' S' k hi => ?_, fun i H' S' k hi => ?_, fun i H' S' x H'' d k hd y hx => ?_⟩
  · obtain ⟨xs, h1, h2⟩ := up H' S' k
    obtain ⟨v, e, _⟩ := dps_get h2 (List.getElem?_eq_getElem hi)
    exact ⟨xs, v, h1, e⟩
  · obtain ⟨xs, h1, h2⟩ := up H' S' k
    exact ⟨xs, h1, by rw [dps_len h2]; exact hi⟩
  · obtain ⟨e, y⟩ := y
    subst e
    obtain ⟨xs, h1, h2⟩ := up _ S' k
    obtain ⟨v, e, q⟩ := dps_get h2 hx
    have e2 := y xs h1
    rw [e] at e2
    cases e2
    exact ⟨Same.refl _, q⟩
theorem itd_tup {K : PySem.W.Frag} {S : Addr → Prop} {H1 : Hp} {a : Addr} {ds : List D} (h : Dt K (off S H1) (.ref a) (.tuple ds)) : ItD K S (Itt K a) ds H1 := by
  have up : ∀ (H' : Hp) (S' : Addr → Prop), Keep (off S H1) (off S' H') → ∃ xs, SqT K H' a xs ∧ DtAll K (off S' H') xs ds := fun H' S' k => by
    have h' := dp_keep k _ _ h
    cases h' with
    | tup h1 h2 => exact ⟨_, sqt_keep off_in h1, h2⟩
  refine ⟨fun i H' S' k hi => ?_, fun i H' S' k hi => ?_, fun i H' S' x H'' d k hd y hx => ?_⟩
  · obtain ⟨xs, h1, h2⟩ := up H' S' k
    obtain ⟨v, e, _⟩ := dps_get h2 (List.getElem?_eq_getElem hi)
    exact ⟨xs, v, h1, e⟩
  · obtain ⟨xs, h1, h2⟩ := up H' S' k
    exact ⟨xs, h1, by rw [dps_len h2]; exact hi⟩
  · obtain ⟨e, y⟩ := y
    subst e
    obtain ⟨xs, h1, h2⟩ := up _ S' k
    obtain ⟨v, e, q⟩ := dps_get h2 hx
    have e2 := y xs h1
    rw [e] at e2
    cases e2
    exact ⟨Same.refl _, q⟩
theorem ei_list {tg l : Expr} {ds : List D} (h : EE R X γ l (.list ds)) : EI R X γ tg l ds := ⟨_, pi_list pe_we, fun H0 S0 σ H Rk s k => h H0 S0 σ H _ s fun v H1 r1 d1 => by
  cases d1 with
  | lst h1 h2 => exact ⟨_, rfl, ⟨_, (.inl (rd_keep off_in h1))⟩, k _ H1 r1 (itd_list (.lst h1 h2))⟩⟩
theorem ei_tup {tg l : Expr} {ds : List D} (h : EE R X γ l (.tuple ds)) : EI R X γ tg l ds := ⟨_, pi_tup pe_we, fun H0 S0 σ H Rk s k => h H0 S0 σ H _ s fun v H1 r1 d1 => by
  cases d1 with
  | tup h1 h2 => exact ⟨_, rfl, ⟨_, sqt_keep off_in h1⟩, k _ H1 r1 (itd_tup (.tup h1 h2))⟩⟩
def rangeD (lo : Int) (n : Nat) : List D := (List.range n).map fun i => .int (lo + (i : Nat))
theorem itd_range {K : PySem.W.Frag} {S : Addr → Prop} {H1 : Hp} {lo : Int} {n : Nat} : ItD K S (Itr lo n) (rangeD lo n) H1 := by
  have hl : (rangeD lo n).length = n := by simp [rangeD]
  refine ⟨fun i H' S' k hi => ?_, fun i H' S' k hi => ?_, fun i H' S' x H'' d k hd y hx => ?_⟩
  · rw [hl] at hi
    exact hi
  · rw [hl] at hi
    exact hi
  · obtain ⟨e, e2⟩ := y
    subst e e2
    have hi : i < n := by
      have := (List.getElem?_eq_some_iff.mp hx).1
      rw [hl] at this
      exact this
    have : d = .int (lo + (i : Nat)) := by
      unfold rangeD at hx
      rw [List.getElem?_map, List.getElem?_range hi] at hx
      exact (Option.some.inj hx).symm
    subst this
    exact ⟨Same.refl _, .int _⟩
theorem ei_range1 {tg a : Expr} {p : Pos} {n : Int} (h : EE R X γ a (.int n)) (hn : -1000000 ≤ n ∧ n ≤ 1000000) (hm : X.mg "range" = none) (hg : Gl X "range" := by rfl) (hs : starEach [a] X.env = [(false, eval a X.env)] := by rfl) : EI R X γ tg (.Call (.Name "range" p) [a] [] pos) (rangeD 0 n.toNat) :=
  ⟨_, pi_range1 hg hm pa_wa hs, fun H0 S0 σ H Rk s k => (ea_cons h ea_nil hs) H0 S0 σ H _ s fun vs H1 r1 d1 => by
    cases d1 with
    | cons d1 t =>
      cases t
      cases d1
      exact ⟨n, rfl, by omega, by omega, k _ H1 r1 itd_range⟩⟩
def enumD (ds : List D) : List D := (List.range ds.length).map fun (i : Nat) => .tuple [.int (i : Nat), ds.getD i .none]
theorem enumD_len (ds : List D) : (enumD ds).length = ds.length := by simp [enumD]
theorem enumD_get {ds : List D} {i : Nat} {d : D} (h : (enumD ds)[i]? = some d) : ∃ e, ds[i]? = some e ∧ d = .tuple [.int (i : Nat), e] := by
  have hi : i < ds.length := by
    have := (List.getElem?_eq_some_iff.mp h).1
    rw [enumD_len] at this
    exact this
  unfold enumD at h
  rw [List.getElem?_map, List.getElem?_range hi] at h
  refine ⟨ds[i], List.getElem?_eq_getElem hi, ?_⟩
  have e := (Option.some.inj h).symm
  rw [e]
  simp [List.getD, List.getElem?_eq_getElem hi]
theorem ei_enum {elts : List Expr} {kk : Nat} {tpos p : Pos} {a : Expr} {ds : List D} (h : EE R X γ a (.list ds)) (hm : X.mg "enumerate" = none) (hg : Gl X "enumerate" := by rfl) (hs : starEach [a] X.env = [(false, eval a X.env)] := by rfl) :
    EI R X γ (.Tuple elts kk tpos) (.Call (.Name "enumerate" p) [a] [] pos) (enumD ds) := ⟨_, pi_enum hg hm pa_wa hs, fun H0 S0 σ H Rk s k => (ea_cons h ea_nil hs) H0 S0 σ H _ s fun vs H1 r1 d1 => by
  cases d1 with
  | cons d1 t =>
    cases t
    cases d1 with
    | lst h1 h2 =>
      rename_i a xs
      refine ⟨a, xs, rfl, (.inl (rd_keep off_in h1)), k _ H1 r1 ?_⟩
      have base := itd_list (K := X.K) (S := Sx S0 γ σ) (H1 := H1) (.lst h1 h2)
      refine ⟨fun i H' S' kp hi => ?_, fun i H' S' kp hi => ?_, fun i H' S' x H'' d kp hd y hx => ?_⟩
      · rw [enumD_len] at hi
        exact base.go i H' S' kp hi
      · rw [enumD_len] at hi
        exact base.stop i H' S' kp hi
      · obtain ⟨e, he, rfl⟩ := enumD_get hx
        obtain ⟨T, z, rfl, nT, rfl, hz⟩ := y
        obtain ⟨_, q⟩ := base.yld i H' S' z H' e kp hd ⟨rfl, hz⟩ he
        refine ⟨same_new nT, .tup (.inl (.inl (off_of (fun w => hd T w nT) upd_same))) (.cons (.int _) (.cons (dt_new nT q) .nil))⟩⟩
def zipD (ds es : List D) : List D := (List.range (min ds.length es.length)).map fun (i : Nat) => .tuple [ds.getD i .none, es.getD i .none]
theorem zipD_len (ds es : List D) : (zipD ds es).length = min ds.length es.length := by simp [zipD]
theorem zipD_get {ds es : List D} {i : Nat} {d : D} (h : (zipD ds es)[i]? = some d) : ∃ a b, ds[i]? = some a ∧ es[i]? = some b ∧ d = .tuple [a, b] := by
  have hi : i < min ds.length es.length := by
    have := (List.getElem?_eq_some_iff.mp h).1
    rw [zipD_len] at this
    exact this
  unfold zipD at h
  rw [List.getElem?_map, List.getElem?_range hi] at h
  have h1 : i < ds.length := by omega
  have h2 : i < es.length := by omega
  refine ⟨ds[i], es[i], List.getElem?_eq_getElem h1, List.getElem?_eq_getElem h2, ?_⟩
  have e := (Option.some.inj h).symm
  rw [e]
  simp [List.getD, List.getElem?_eq_getElem h1, List.getElem?_eq_getElem h2]
theorem ei_zip {elts : List Expr} {kk : Nat} {tpos p : Pos} {a b : Expr} {ds es : List D} (h : EE R X γ a (.list ds)) (h' : EE R X γ b (.list es)) (hm : X.mg "zip" = none) (hg : Gl X "zip" := by rfl)
    (hs : starEach [a, b] X.env = (false, eval a X.env) :: starEach [b] X.env := by rfl) (hs2 : starEach [b] X.env = [(false, eval b X.env)] := by rfl) (hpl : (backTo pos (starEach [b] X.env)).any (·.1) = false := by rfl) :
    EI R X γ (.Tuple elts kk tpos) (.Call (.Name "zip" p) [a, b] [] pos) (zipD ds es) := ⟨_, pi_zip hg hm pa_wa hs hpl, fun H0 S0 σ H Rk s k => (ea_cons h (ea_cons h' ea_nil hs2) hs) H0 S0 σ H _ s fun vs H1 r1 d1 => by
  cases d1 with
  | cons d1 t =>
    cases t with
    | cons d2 t =>
      cases t
      cases d1 with
      | lst h1 h2 =>
        cases d2 with
        | lst h3 h4 =>
          rename_i a xs b ys
          refine ⟨a, b, xs, ys, rfl, (.inl (rd_keep off_in h1)), (.inl (rd_keep off_in h3)), k _ H1 r1 ?_⟩
          have ba := itd_list (K := X.K) (S := Sx S0 γ σ) (H1 := H1) (.lst h1 h2)
          have bb := itd_list (K := X.K) (S := Sx S0 γ σ) (H1 := H1) (.lst h3 h4)
          refine ⟨fun i H' S' kp hi => ?_, fun i H' S' kp hi => ?_, fun i H' S' x H'' d kp hd y hx => ?_⟩
          · rw [zipD_len] at hi
            obtain ⟨us, u, e1, e2⟩ := ba.go i H' S' kp (by omega)
            obtain ⟨ws, w, e3, e4⟩ := bb.go i H' S' kp (by omega)
            exact ⟨us, ws, u, w, e1, e3, e2, e4⟩
          · rw [zipD_len] at hi
            have up : ∀ {c : Addr} {zs : List V} {fs : List D}, Rd (off (Sx S0 γ σ) H1) c (.lst zs) → SqL X.K H' c zs := fun {c zs fs} e => .inl (rd_keep off_in (rd_keep kp e))
            refine ⟨xs, ys, up (fs := ds) h1, up (fs := es) h3, ?_⟩
            rw [dps_len h2, dps_len h4]
            omega
          · obtain ⟨p, q, hp, hq, rfl⟩ := zipD_get hx
            obtain ⟨T, u, w, rfl, nT, rfl, hu, hw⟩ := y
            obtain ⟨_, q1⟩ := ba.yld i H' S' u H' p kp hd ⟨rfl, hu⟩ hp
            obtain ⟨_, q2⟩ := bb.yld i H' S' w H' q kp hd ⟨rfl, hw⟩ hq
            exact ⟨same_new nT, .tup (.inl (.inl (off_of (fun w => hd T w nT) upd_same))) (.cons (dt_new nT q1) (.cons (dt_new nT q2) .nil))⟩⟩
/-! ### the base of a part of a body: the heap but the things of one's own -/
def isOwn (γ : List Sl) (σ : L2.St) (a : Addr) : Prop := ∃ i, Fp γ σ i a
noncomputable abbrev cutO (γ : List Sl) (σ : L2.St) (H : Hp) : Hp := off (isOwn γ σ) H
theorem cutO_none {γ : List Sl} {σ : L2.St} {H : Hp} {a : Addr} (h : isOwn γ σ a) : cutO γ σ H a = none := by
  unfold cutO off
  rw [if_pos h]
theorem SI.rebase {K : PySem.W.Frag} {H0 H : Hp} {S0 : Addr → Prop} {σ : L2.St} (s : SI R K H0 S0 γ σ H) : SI R K (cutO γ σ H) S0 γ σ H where
  rel := Rel.cutr s.rel fun a ⟨i, f⟩ => (s.fp i a f).2
  dom := fun a ha z => by
    have h1 := s.dom a ha
    have h2 := Rel.dom s.rel h1
    unfold cutO off at z
    by_cases hs : isOwn γ σ a
    · obtain ⟨i, f⟩ := hs
      exact h1 (s.fp i a f).1
    · rw [if_neg hs] at z
      exact h2 z
  len := s.len
  ok := s.ok
  fp := fun i a f => ⟨cutO_none ⟨i, f⟩, (s.fp i a f).2⟩
  inj := s.inj
/-- back to the first base -/
theorem SI.back {K : PySem.W.Frag} {H0 H H' : Hp} {S0 : Addr → Prop} {γ' : List Sl} {σ σ' : L2.St} (s : SI R K H0 S0 γ σ H) (t : SI R K (cutO γ σ H) S0 γ' σ' H') (hc : R H0 (cutO γ σ H)) : SI R K H0 S0 γ' σ' H' where
  rel := Rel.trans hc t.rel
  dom := s.dom
  len := t.len
  ok := t.ok
  fp := fun i a f => ⟨Rel.free hc (t.fp i a f).1, (t.fp i a f).2⟩
  inj := t.inj
end
/-- a relation that holds of the heap without things that the first heap doesn't know -/
class RelC (R : Hp → Hp → Prop) : Prop extends Rel R where
  cut : ∀ {H H1 : Hp} {C : Addr → Prop}, R H H1 → (∀ a, C a → H a = none ∧ NT H1 a) → R H (off C H1)
instance : RelC Same where
  cut := fun {H H1 C} h c a o e => by
    refine off_of (fun z => ?_) (h a o e)
    rw [(c a z).1] at e
    cases e
section
variable {R : Hp → Hp → Prop} [RelC R] {X : Cx} {γ : List Sl} {pos : Pos}
theorem SI.cutR {K : PySem.W.Frag} {H0 H : Hp} {S0 : Addr → Prop} {σ : L2.St} (s : SI R K H0 S0 γ σ H) : R H0 (cutO γ σ H) := RelC.cut s.rel fun a ⟨i, f⟩ => s.fp i a f
/-- what stood ahead of a part of a body, outside of one's own things, stands -/
theorem SI.kept {K : PySem.W.Frag} {H0 H H' : Hp} {S0 : Addr → Prop} {γ' : List Sl} {σ σ' : L2.St} (s : SI R K H0 S0 γ σ H) (t : SI R K (cutO γ σ H) S0 γ' σ' H') : Keep (off (Sx S0 γ σ) H) (off (Sx S0 γ' σ') H') := fun a o e n => by
  obtain ⟨h1, h2⟩ := off_some e
  have h3 : cutO γ σ H a = some o := off_of (fun z => h1 (.inr z)) h2
  refine off_of (fun z => ?_) (Rel.keep t.rel a o h3 n)
  rcases z with z | ⟨i, f⟩
  · exact h1 (.inl z)
  · have := (t.fp i a f).1
    rw [h3] at this
    cases this
/-- one address more is left alone -/
theorem SI.avoid {K : PySem.W.Frag} {H0 H H' : Hp} {S0 : Addr → Prop} {σ : L2.St} {p : Addr} (s : SI R K H0 S0 γ σ H) (r : R H H') (n : H p = none) (hp : H' p ≠ none) : SI R K (cutO γ σ H') (fun a => a = p ∨ S0 a) γ σ H' := by
  have sm := s.mono r
  have s' := sm.rebase
  have up : Keep (off (Sx S0 γ σ) H) (off (Sx (fun a => a = p ∨ S0 a) γ σ) H') := fun a o e nn => by
    obtain ⟨h1, h2⟩ := off_some e
    refine off_of (fun z => ?_) (Rel.keep r a o h2 nn)
    rcases z with (z | z) | z
    · rw [z, n] at h2
      cases h2
    · exact h1 (.inl z)
    · exact h1 (.inr z)
  refine ⟨s'.rel, fun a ha => ?_, s.len, fun i x h => ?_, s'.fp, s.inj⟩
  · rcases ha with rfl | ha
    · intro z
      unfold cutO off at z
      by_cases hs : isOwn γ σ a
      · obtain ⟨i, f⟩ := hs
        exact (s.fp i a f).2.there n
      · rw [if_neg hs] at z
        exact hp z
    · exact s'.dom a ha
  · obtain ⟨v, h1, h2⟩ := s.ok i x h
    exact ⟨v, h1, h2.keep (fun a f => (s.fp i a ⟨x, v, h, h1, f⟩).2.keep (Rel.keep r)) up⟩
/-! ### comprehensions -/
def wipeS (γ : List Sl) : List Nat → List Sl
  | [] => γ
  | v :: vs => (wipeS γ vs).set v .no
theorem SI.wipe {K : PySem.W.Frag} {H0 H : Hp} {S0 : Addr → Prop} {σ : L2.St} (s : SI R K H0 S0 γ σ H) : ∀ vs : List Nat, SI R K H0 S0 (wipeS γ vs) (L2.wipe σ vs) H
  | [] => s
  | v :: vs => (s.wipe vs).putN v
theorem wipeS_get {γ : List Sl} {j : Nat} : ∀ {vs : List Nat}, j ∉ vs → (wipeS γ vs)[j]? = γ[j]?
  | [], _ => rfl
  | v :: vs, h => by
    unfold wipeS
    rw [List.getElem?_set_ne (fun z => h (by rw [z]; exact List.mem_cons_self)), wipeS_get (fun z => h (List.mem_cons_of_mem _ z))]
theorem wipe_get {σ : L2.St} {j : Nat} : ∀ {vs : List Nat}, j ∉ vs → (L2.wipe σ vs)[j]? = σ[j]?
  | [], _ => rfl
  | v :: vs, h => by
    unfold L2.wipe
    rw [List.getElem?_set_ne (fun z => h (by rw [z]; exact List.mem_cons_self)), wipe_get (fun z => h (List.mem_cons_of_mem _ z))]
/-- a block with pins -/
abbrev blkP (X : Cx) (pn : List (Addr × Obj)) (s : Shared) (H : Hp) (scope : Scope) (ce : Env) (fp : List Addr) : Cx := { X.blk s H scope ce fp with pn := pn }
/-- a reading by which a new list of ds comes -/
def ELc (R : Hp → Hp → Prop) (X : Cx) (γ : List Sl) (mk : TE → Prop) (ds : List D) : Prop := ∃ t : TE, mk t ∧ ∀ (H0 : Hp) (S0 : Addr → Prop) (σ : L2.St) (H : Hp) (Q : VK), SI R X.K H0 S0 γ σ H →
  (∀ p vs H2, H p = none → R H H2 → H2 p = some (.lst vs) → DtAll X.K (off (fun a => a = p ∨ Sx S0 γ σ a) H2) vs ds → Q (.ref p) H2) → t σ H Q
/-- a comprehension's: as a value, and stored at once to a local name -/
def EL (R : Hp → Hp → Prop) (X : Cx) (γ : List Sl) (e : Expr) (ds : List D) : Prop := ELc R X γ (fun t => PE X e t ∧ ∀ (i : Nat) (y : Str) (py spos : Pos), X.N[i]? = some y → X.env.scope.names.lookup y = some .local → swapsWith e (some (.Name y py)) spos.line X.env = pure true → PS X (.Assign [.Name y py] e spos) (tAsg t (gName i))) ds
theorem ELc.ef {e : Expr} {ds : List D} (h : ELc R X γ (fun t => PE X e t) ds) : EF R X γ e ds := fun H0 S0 σ H Q s k => by
  obtain ⟨t, h1, h2⟩ := h
  exact we_of h1 (h2 H0 S0 σ H Q s k)
theorem EL.ef {e : Expr} {ds : List D} (h : EL R X γ e ds) : EF R X γ e ds := fun H0 S0 σ H Q s k => by
  obtain ⟨t, h1, h2⟩ := h
  exact we_of h1.1 (h2 H0 S0 σ H Q s k)
/-- [elt for tg in iter if ..]: to each item's data what comes of it, or nothing -/
theorem lc_gen {mk : TE → Prop} (pn : List (Addr × Obj)) {wi : TI} {elt tg iter : Expr} {ifs : List Expr} {scope : Scope} {own : List (Str × Nat)} {g : TG} {L : List (D × Option D)} (hwi : ∀ (H0 : Hp) (S0 : Addr → Prop) (σ : L2.St) (H : Hp) (Rk : It → Hp → Prop), SI R X.K H0 S0 γ σ H → (∀ J H1, R H H1 → ItD X.K (Sx S0 γ σ) J (L.map (·.1)) H1 → Rk J H1) → wi σ H Rk)
    (hpe : ∀ (tt : TT) (te : TE), (∀ (s : Shared) (H : Hp) (C : Addr) (cl : List (Str × Addr)) (fp : List Addr), PTs (blkP X pn s H scope (compEnvC scope cl C X.env) fp) ifs tt) → (∀ (s : Shared) (H : Hp) (C : Addr) (cl : List (Str × Addr)) (fp : List Addr), PE (blkP X pn s H scope (compEnvC scope cl C X.env) fp) elt te) →
      mk (tLc wi g tt te (own.map (·.2))))
    (hown : ∀ j ∈ own.map (·.2), ∀ es, γ[j]? ≠ some (.own es))
    (ht : ∀ e ∈ L, ∃ γ' : List Sl, wipeS γ' (own.map (·.2)) = wipeS γ (own.map (·.2)) ∧ (∀ (H0 : Hp) (S0 : Addr → Prop) (σ : L2.St) (H : Hp) (v : V) (Q : L2.St → Hp → Prop), SI R X.K H0 S0 (wipeS γ (own.map (·.2))) (L2.wipe σ (own.map (·.2))) H → Dt X.K (off (Sx S0 (wipeS γ (own.map (·.2))) (L2.wipe σ (own.map (·.2)))) H) v e.1 →
        (∀ σ', L2.wipe σ' (own.map (·.2)) = L2.wipe σ (own.map (·.2)) → SI R X.K H0 S0 γ' σ' H → Q σ' H) → g v (L2.wipe σ (own.map (·.2))) H Q) ∧
      (∀ (s : Shared) (H : Hp) (C : Addr) (cl : List (Str × Addr)) (fp : List Addr), (ifs = [] ∧ e.2.isSome = true) ∨ (∃ c, ifs = [c] ∧ ET R (blkP X pn s H scope (compEnvC scope cl C X.env) fp) γ' c e.2.isSome)) ∧
      (∀ r, e.2 = some r → ∀ (s : Shared) (H : Hp) (C : Addr) (cl : List (Str × Addr)) (fp : List Addr), EE R (blkP X pn s H scope (compEnvC scope cl C X.env) fp) γ' elt r))
    (hl : L.length ≤ 1000) :
    ELc R X γ mk (L.filterMap (·.2)) := by
  -- the reading of the tests and of the element: whatever context
  have pts : ∀ (s : Shared) (H : Hp) (C : Addr) (cl : List (Str × Addr)) (fp : List Addr), PTs (blkP X pn s H scope (compEnvC scope cl C X.env) fp) ifs (fun σ' H' Q' => ∀ (s : Shared) (H : Hp) (C : Addr) (cl : List (Str × Addr)) (fp : List Addr), (ifs = [] ∧ Q' true H') ∨ ∃ c, ifs = [c] ∧ wt (blkP X pn s H scope (compEnvC scope cl C X.env) fp) c σ' H' Q') := fun s1 H1 C cl fp => ⟨fun pins s2 σ2 H2 Q2 I2 h2 => by
      rcases h2 s1 H1 C cl fp with ⟨e, q⟩ | ⟨c, e, q⟩
      · subst e
        exact (pts_nil (X := blkP X pn s1 H1 scope (compEnvC scope cl C X.env) fp)).run pins s2 σ2 H2 Q2 I2 q
      · subst e
        exact (pts_one (pt_wt (X := blkP X pn s1 H1 scope (compEnvC scope cl C X.env) fp) (e := c))).run pins s2 σ2 H2 Q2 I2 q⟩
  have pel : ∀ (s : Shared) (H : Hp) (C : Addr) (cl : List (Str × Addr)) (fp : List Addr), PE (blkP X pn s H scope (compEnvC scope cl C X.env) fp) elt (fun σ' H' Q' => ∀ (s : Shared) (H : Hp) (C : Addr) (cl : List (Str × Addr)) (fp : List Addr), we (blkP X pn s H scope (compEnvC scope cl C X.env) fp) elt σ' H' Q') := fun s1 H1 C cl fp => ⟨fun pins s2 σ2 H2 Q2 I2 h2 => pe_we.run pins s2 σ2 H2 Q2 I2 (h2 s1 H1 C cl fp)⟩
  refine ⟨_, hpe _ _ pts pel, fun H0 S0 σ H Q s k => hwi H0 S0 σ H _ s fun J H1 r1 itd Dl hD => ?_⟩
  have s1 := s.mono r1
  have sw := s1.wipe (own.map (·.2))
  -- what has been made after i turns
  let made : Nat → List D := fun i => (L.take i).filterMap (·.2)
  have hln : (L.map (·.1)).length = L.length := by rw [List.length_map]
  refine ⟨fun i m H' => m = L.length - i ∧ i ≤ L.length ∧ R H1 H' ∧ ∃ vs, H' Dl = some (.lst vs) ∧ DtAll X.K (off (fun a => a = Dl ∨ Sx S0 γ σ a) H') vs (made i), ⟨L.length, by simp, Nat.zero_le _, Rel.more s1.ref (same_new hD), [], upd_same, .nil⟩, ?_⟩
  rintro i m H' ⟨rfl, hle, r', vs, hDl, hvs⟩
  have kp : Keep (off (Sx S0 γ σ) H1) (off (fun a => a = Dl ∨ Sx S0 γ σ a) H') := fun a u e n => by
    obtain ⟨h1, h2⟩ := off_some e
    refine off_of (fun z => ?_) (Rel.keep r' a u h2 n)
    rcases z with z | z
    · rw [z, hD] at h2
      cases h2
    · exact h1 z
  by_cases hlt : i < L.length
  · have hLi : L[i]? = some L[i] := List.getElem?_eq_getElem hlt
    have hdi : (L.map (·.1))[i]? = some L[i].1 := by rw [List.getElem?_map, hLi]; rfl
    obtain ⟨γ', hwg, hgt, htt, hel⟩ := ht L[i] (List.getElem_mem hlt)
    refine .inr ⟨itd.go i H' _ kp (by rw [hln]; exact hlt), fun H2 => R H1 H2 ∧ ∃ vs, H2 Dl = some (.lst vs) ∧ DtAll X.K (off (fun a => a = Dl ∨ Sx S0 γ σ a) H2) vs (made (i + 1)), fun H2 h2 => ⟨L.length - (i + 1), by omega, rfl, hlt, h2.1, h2.2⟩, fun x H2 hy => ?_⟩
    obtain ⟨sm, dx⟩ := itd.yld i H' _ x H2 L[i].1 kp (fun a z => by
      rcases z with z | z
      · rw [z, hDl]
        exact fun q => nomatch q
      · exact (s1.mono r').there z) hy hdi
    have r2 : R H1 H2 := Rel.more r' sm
    have hDl2 : H2 Dl = some (.lst vs) := sm _ _ hDl
    -- the slots without the comprehension's own
    have sa := sw.avoid r2 hD (by rw [hDl2]; exact fun q => nomatch q)
    have subw : ∀ (vv : List Nat) (a : Addr), Sx S0 (wipeS γ vv) (L2.wipe σ vv) a → Sx S0 γ σ a := fun vv => by
      induction vv with
      | nil => exact fun a z => z
      | cons v vv ih => exact fun a z => ih a (sx_no a z)
    have subs : ∀ a, Sx (fun a => a = Dl ∨ S0 a) (wipeS γ (own.map (·.2))) (L2.wipe σ (own.map (·.2))) a → a = Dl ∨ Sx S0 γ σ a := fun a z => by
      rcases z with (z | z) | z
      · exact .inl z
      · exact .inr (.inl z)
      · exact .inr (subw _ a (.inr z))
    refine hgt _ _ σ H2 x _ sa (dp_keep (off_keep (Keep.refl H2) subs) _ _ dx) fun σ' hw sg => ⟨hw, ?_⟩
    have step : made (i + 1) = made i ++ L[i].2.toList := by
      show (L.take (i + 1)).filterMap (·.2) = (L.take i).filterMap (·.2) ++ _
      rw [List.take_add_one, hLi]
      show (L.take i ++ [L[i]]).filterMap (·.2) = _
      rw [List.filterMap_append]
      congr 1
    have hml : (made i).length ≤ 1000 := by
      show ((L.take i).filterMap (·.2)).length ≤ 1000
      exact Nat.le_trans (List.length_filterMap_le _ _) (by rw [List.length_take]; omega)
    -- behind the element
    have fin : ∀ (H3 : Hp) (rr : D), R H2 H3 → L[i].2 = some rr → (∀ (s : Shared) (H : Hp) (C : Addr) (cl : List (Str × Addr)) (fp : List Addr), we (blkP X pn s H scope (compEnvC scope cl C X.env) fp) elt σ' H3 fun y H4 => ∃ acc, H4 Dl = some (.lst acc) ∧ acc.length < sizeLine ∧ R H1 (upd H4 Dl (.lst (acc ++ [y]))) ∧ ∃ vs, (upd H4 Dl (.lst (acc ++ [y]))) Dl = some (.lst vs) ∧ DtAll X.K (off (fun a => a = Dl ∨ Sx S0 γ σ a) (upd H4 Dl (.lst (acc ++ [y])))) vs (made (i + 1))) := fun H3 rr r3 hp s4 H4 C cl fp => by
      refine hel rr hp s4 H4 C cl fp _ _ σ' H3 _ (sg.mono r3) fun y H5 r5 dy => ?_
      have r35 := Rel.trans r3 r5
      have hD5 : H5 Dl = some (.lst vs) := Rel.keep r35 _ _ hDl2 (fun _ z => nomatch z)
      refine ⟨vs, hD5, Nat.lt_of_le_of_lt (by rw [dps_len hvs]; exact hml) (by decide), Rel.chgL (Rel.trans r2 r35) hD ⟨_, hD5⟩, vs ++ [y], upd_same, ?_⟩
      rw [step, hp]
      have k5 : Keep (off (fun a => a = Dl ∨ Sx S0 γ σ a) H5) (off (fun a => a = Dl ∨ Sx S0 γ σ a) (upd H5 Dl (.lst (vs ++ [y])))) := fun a u e n => by
        obtain ⟨h1, h2⟩ := off_some e
        refine off_of h1 ?_
        rw [upd_ne (fun z => h1 (.inl z))]
        exact h2
      refine dps_app (dps_keep (k5) _ _ (dts_up r35 (dps_keep (off_keep (Keep.of sm) fun _ z => z) _ _ hvs))) (dps_one (dp_keep k5 _ _ ?_))
      -- what comes does not hold a list of one's own: those stand in the slots that are left
      refine dp_keep (off_keep (Keep.refl H5) fun a z => ?_) _ _ dy
      rcases z with z | z
      · exact .inl (.inl z)
      · rcases z with z | ⟨j, y, v, z1, z2, z3⟩
        · exact .inl (.inr z)
        · have nj : j ∉ own.map (·.2) := fun q => by
            match y, z1, z3 with
            | .own o, z1, _ => exact hown j q o z1
          refine .inr ⟨j, y, v, ?_, ?_, z3⟩
          · rw [← wipeS_get nj, hwg, wipeS_get nj]
            exact z1
          · rw [← wipe_get nj, hw, wipe_get nj]
            exact z2
    show ∀ (s : Shared) (H : Hp) (C : Addr) (cl : List (Str × Addr)) (fp : List Addr), _ ∨ _
    intro s2 H3 C cl fp
    rcases htt s2 H3 C cl fp with ⟨e, hp⟩ | ⟨c, e, hct⟩
    · obtain ⟨rr, hr⟩ := Option.isSome_iff_exists.mp hp
      exact .inl ⟨e, iteT fun s H C cl fp => fin H2 rr (Rel.ends r2) hr s H C cl fp⟩
    · refine .inr ⟨c, e, hct _ _ σ' H2 _ sg fun H4 r4 => ?_⟩
      cases hp : L[i].2 with
      | some rr =>
        exact iteT fun s H C cl fp => fin H4 rr r4 hp s H C cl fp
      | none =>
        refine iteF ⟨Rel.trans r2 r4, vs, Rel.keep r4 _ _ hDl2 (fun _ z => nomatch z), ?_⟩
        rw [step, hp, Option.toList, List.append_nil]
        exact dts_up r4 (dps_keep (off_keep (Keep.of sm) fun _ z => z) _ _ hvs)
  · have e : i = L.length := by omega
    subst e
    refine .inl ⟨itd.stop _ H' _ kp (by rw [hln]; exact Nat.le_refl _), k Dl vs H' (Rel.free r1 hD) (Rel.trans r1 r') hDl ?_⟩
    have : made L.length = L.filterMap (·.2) := by
      show (L.take L.length).filterMap (·.2) = _
      rw [List.take_length]
    rw [this] at hvs
    exact hvs
theorem el_lc {elt tg iter : Expr} {ifs : List Expr} {scope : Scope} {own : List (Str × Nat)} {g : TG} {L : List (D × Option D)} (hc : X.calm = true) (hN : X.N.Nodup) (hi : EI R X γ tg iter (L.map (·.1))) (ok : BlkOk X.N X.env.scope scope own)
    (hg : ∀ (s : Shared) (H : Hp) (C : Addr) (cl : List (Str × Addr)) (fp : List Addr), PG (X.blk s H scope (compEnvC scope cl C X.env) fp) tg g)
    (hown : ∀ j ∈ own.map (·.2), ∀ es, γ[j]? ≠ some (.own es))
    (ht : ∀ e ∈ L, ∃ γ' : List Sl, wipeS γ' (own.map (·.2)) = wipeS γ (own.map (·.2)) ∧ (∀ (H0 : Hp) (S0 : Addr → Prop) (σ : L2.St) (H : Hp) (v : V) (Q : L2.St → Hp → Prop), SI R X.K H0 S0 (wipeS γ (own.map (·.2))) (L2.wipe σ (own.map (·.2))) H → Dt X.K (off (Sx S0 (wipeS γ (own.map (·.2))) (L2.wipe σ (own.map (·.2)))) H) v e.1 →
        (∀ σ', L2.wipe σ' (own.map (·.2)) = L2.wipe σ (own.map (·.2)) → SI R X.K H0 S0 γ' σ' H → Q σ' H) → g v (L2.wipe σ (own.map (·.2))) H Q) ∧
      (∀ (s : Shared) (H : Hp) (C : Addr) (cl : List (Str × Addr)) (fp : List Addr), (ifs = [] ∧ e.2.isSome = true) ∨ (∃ c, ifs = [c] ∧ ET R (X.blk s H scope (compEnvC scope cl C X.env) fp) γ' c e.2.isSome)) ∧
      (∀ r, e.2 = some r → ∀ (s : Shared) (H : Hp) (C : Addr) (cl : List (Str × Addr)) (fp : List Addr), EE R (X.blk s H scope (compEnvC scope cl C X.env) fp) γ' elt r))
    (hl : L.length ≤ 1000) (hs : ∀ x, foldedSetIterable iter X.env x = pure x := by intro _; rfl) :
    EL R X γ (.ListComp elt [⟨tg, iter, ifs, 0⟩] scope pos) (L.filterMap (·.2)) := by
  obtain ⟨wi, hpi, hwi⟩ := hi
  exact lc_gen (iter := iter) (tg := tg) [] hwi (fun tt te h1 h2 => ⟨pe_lc hc hN hpi ok hg h1 h2 hs, fun i y py spos hy hyl hsw => ps_setLc hc hN hy hyl hsw hpi ok hg h1 h2 hs⟩) hown ht hl
end
end An

/-! Comprehensions by their targets; statements; calls. -/
namespace An
open PySem PySem.Spec PyProof.Rows L2
section
variable {R : Hp → Hp → Prop} [RelC R] {X : Cx} {γ : List Sl} {pos : Pos}
/-- [elt for x in iter], [.. if c]: items are f of L, o tells what comes -/
theorem el_lc1 {α : Type} {elt iter : Expr} {ifs : List Expr} {scope : Scope} (x : Str) (j : Nat) (L : List α) (f : α → D) (o : α → Option D) {tp : Pos} (hc : X.calm = true) (hN : X.N.Nodup) (hi : EI R X γ (.Name x tp) iter (L.map f)) (ok : BlkOk X.N X.env.scope scope [(x, j)])
    (hg : ∀ (s : Shared) (H : Hp) (C : Addr) (cl : List (Str × Addr)) (fp : List Addr), PG (X.blk s H scope (compEnvC scope cl C X.env) fp) (.Name x tp) (gName j)) (hown : ∀ es, γ[j]? ≠ some (.own es))
    (hp : ∀ a ∈ L, ∀ (s : Shared) (H : Hp) (C : Addr) (cl : List (Str × Addr)) (fp : List Addr), (ifs = [] ∧ (o a).isSome = true) ∨ (∃ c, ifs = [c] ∧ ET R (X.blk s H scope (compEnvC scope cl C X.env) fp) (γ.set j (.dat (f a))) c (o a).isSome))
    (ht : ∀ a ∈ L, ∀ r, o a = some r → ∀ (s : Shared) (H : Hp) (C : Addr) (cl : List (Str × Addr)) (fp : List Addr), EE R (X.blk s H scope (compEnvC scope cl C X.env) fp) (γ.set j (.dat (f a))) elt r)
    (hl : L.length ≤ 1000) (hs : ∀ x, foldedSetIterable iter X.env x = pure x := by intro _; rfl) : EL R X γ (.ListComp elt [⟨.Name x tp, iter, ifs, 0⟩] scope pos) (L.filterMap o) := by
  have h := el_lc (pos := pos) (L := L.map fun a => (f a, o a)) (elt := elt) (ifs := ifs) (own := [(x, j)]) hc hN (by rw [List.map_map]; exact hi) ok hg (fun i hi es => by
    have e : i = j := by simpa using hi
    rw [e]
    exact hown es) (fun q hq => by
      obtain ⟨a, ha, rfl⟩ := List.mem_map.mp hq
      refine ⟨γ.set j (.dat (f a)), ?_, fun H0 S0 σ H v Q s h k => ?_, fun s H C cl fp => hp a ha s H C cl fp, fun r e => ht a ha r e⟩
      · show (γ.set j (.dat (f a))).set j .no = γ.set j .no
        rw [List.set_set]
      · show Q ((σ.set j none).set j (some v)) H
        refine k _ ?_ ?_
        · show ((σ.set j none).set j (some v)).set j none = σ.set j none
          rw [List.set_set, List.set_set]
        · have s2 := s.putD j h
          have e : (γ.set j .no).set j (.dat (f a)) = γ.set j (.dat (f a)) := List.set_set ..
          have s3 : SI R X.K H0 S0 ((γ.set j .no).set j (.dat (f a))) ((σ.set j none).set j (some v)) H := s2
          rw [e] at s3
          exact s3) (by rw [List.length_map]; exact hl) hs
  rw [List.filterMap_map] at h
  exact h
theorem ef_lc1 {α : Type} {elt iter : Expr} {ifs : List Expr} {scope : Scope} (x : Str) (j : Nat) (L : List α) (f : α → D) (o : α → Option D) {tp : Pos} (hc : X.calm = true) (hN : X.N.Nodup) (hi : EI R X γ (.Name x tp) iter (L.map f)) (ok : BlkOk X.N X.env.scope scope [(x, j)])
    (hg : ∀ (s : Shared) (H : Hp) (C : Addr) (cl : List (Str × Addr)) (fp : List Addr), PG (X.blk s H scope (compEnvC scope cl C X.env) fp) (.Name x tp) (gName j)) (hown : ∀ es, γ[j]? ≠ some (.own es))
    (hp : ∀ a ∈ L, ∀ (s : Shared) (H : Hp) (C : Addr) (cl : List (Str × Addr)) (fp : List Addr), (ifs = [] ∧ (o a).isSome = true) ∨ (∃ c, ifs = [c] ∧ ET R (X.blk s H scope (compEnvC scope cl C X.env) fp) (γ.set j (.dat (f a))) c (o a).isSome))
    (ht : ∀ a ∈ L, ∀ r, o a = some r → ∀ (s : Shared) (H : Hp) (C : Addr) (cl : List (Str × Addr)) (fp : List Addr), EE R (X.blk s H scope (compEnvC scope cl C X.env) fp) (γ.set j (.dat (f a))) elt r)
    (hl : L.length ≤ 1000) (hs : ∀ x, foldedSetIterable iter X.env x = pure x := by intro _; rfl) : EF R X γ (.ListComp elt [⟨.Name x tp, iter, ifs, 0⟩] scope pos) (L.filterMap o) :=
  (el_lc1 (pos := pos) x j L f o hc hN hi ok hg hown hp ht hl hs).ef
/-- [elt for x in iter] -/
theorem el_mapA {α : Type} {elt iter : Expr} {scope : Scope} (x : Str) (j : Nat) (L : List α) (f g : α → D) {tp : Pos} (hc : X.calm = true) (hN : X.N.Nodup) (hi : EI R X γ (.Name x tp) iter (L.map f)) (ok : BlkOk X.N X.env.scope scope [(x, j)])
    (hg : ∀ (s : Shared) (H : Hp) (C : Addr) (cl : List (Str × Addr)) (fp : List Addr), PG (X.blk s H scope (compEnvC scope cl C X.env) fp) (.Name x tp) (gName j)) (hown : ∀ es, γ[j]? ≠ some (.own es))
    (ht : ∀ a ∈ L, ∀ (s : Shared) (H : Hp) (C : Addr) (cl : List (Str × Addr)) (fp : List Addr), EE R (X.blk s H scope (compEnvC scope cl C X.env) fp) (γ.set j (.dat (f a))) elt (g a))
    (hl : L.length ≤ 1000) (hs : ∀ x, foldedSetIterable iter X.env x = pure x := by intro _; rfl) : EL R X γ (.ListComp elt [⟨.Name x tp, iter, [], 0⟩] scope pos) (L.map g) := by
  have h := el_lc1 (pos := pos) x j L f (fun a => some (g a)) (elt := elt) (ifs := []) hc hN hi ok hg hown (fun a ha s H C cl fp => .inl ⟨rfl, rfl⟩) (fun a ha r e => by cases e; exact ht a ha) hl hs
  rw [show (fun a => some (g a)) = (some ∘ g) from rfl, List.filterMap_eq_map] at h
  exact h
theorem ef_mapA {α : Type} {elt iter : Expr} {scope : Scope} (x : Str) (j : Nat) (L : List α) (f g : α → D) {tp : Pos} (hc : X.calm = true) (hN : X.N.Nodup) (hi : EI R X γ (.Name x tp) iter (L.map f)) (ok : BlkOk X.N X.env.scope scope [(x, j)])
    (hg : ∀ (s : Shared) (H : Hp) (C : Addr) (cl : List (Str × Addr)) (fp : List Addr), PG (X.blk s H scope (compEnvC scope cl C X.env) fp) (.Name x tp) (gName j)) (hown : ∀ es, γ[j]? ≠ some (.own es))
    (ht : ∀ a ∈ L, ∀ (s : Shared) (H : Hp) (C : Addr) (cl : List (Str × Addr)) (fp : List Addr), EE R (X.blk s H scope (compEnvC scope cl C X.env) fp) (γ.set j (.dat (f a))) elt (g a))
    (hl : L.length ≤ 1000) (hs : ∀ x, foldedSetIterable iter X.env x = pure x := by intro _; rfl) : EF R X γ (.ListComp elt [⟨.Name x tp, iter, [], 0⟩] scope pos) (L.map g) :=
  (el_mapA (pos := pos) x j L f g hc hN hi ok hg hown ht hl hs).ef
theorem filterMap_if {α β : Type} (p : α → Bool) (g : α → β) : ∀ L : List α, L.filterMap (fun a => if p a = true then some (g a) else none) = (L.filter p).map g
  | [] => rfl
  | a :: L => by
    rw [List.filterMap_cons, List.filter_cons, filterMap_if p g L]
    by_cases h : p a = true
    · rw [if_pos h, if_pos h]
      rfl
    · rw [if_neg h, if_neg h]
/-- [elt for x in iter if c] -/
theorem el_selA {α : Type} {elt iter c : Expr} {scope : Scope} (x : Str) (j : Nat) (L : List α) (f : α → D) (p : α → Bool) (g : α → D) {tp : Pos} (hc : X.calm = true) (hN : X.N.Nodup) (hi : EI R X γ (.Name x tp) iter (L.map f)) (ok : BlkOk X.N X.env.scope scope [(x, j)])
    (hg : ∀ (s : Shared) (H : Hp) (C : Addr) (cl : List (Str × Addr)) (fp : List Addr), PG (X.blk s H scope (compEnvC scope cl C X.env) fp) (.Name x tp) (gName j)) (hown : ∀ es, γ[j]? ≠ some (.own es))
    (hp : ∀ a ∈ L, ∀ (s : Shared) (H : Hp) (C : Addr) (cl : List (Str × Addr)) (fp : List Addr), ET R (X.blk s H scope (compEnvC scope cl C X.env) fp) (γ.set j (.dat (f a))) c (p a))
    (ht : ∀ a ∈ L, p a = true → ∀ (s : Shared) (H : Hp) (C : Addr) (cl : List (Str × Addr)) (fp : List Addr), EE R (X.blk s H scope (compEnvC scope cl C X.env) fp) (γ.set j (.dat (f a))) elt (g a))
    (hl : L.length ≤ 1000) (hs : ∀ x, foldedSetIterable iter X.env x = pure x := by intro _; rfl) : EL R X γ (.ListComp elt [⟨.Name x tp, iter, [c], 0⟩] scope pos) ((L.filter p).map g) := by
  have h := el_lc1 (pos := pos) x j L f (fun a => if p a = true then some (g a) else none) (elt := elt) (ifs := [c]) hc hN hi ok hg hown (fun a ha s H C cl fp => .inr ⟨c, rfl, by
    have := hp a ha s H C cl fp
    cases e : p a with
    | true => rw [e] at this; simpa using this
    | false => rw [e] at this; simpa using this⟩) (fun a ha r e => by
    by_cases q : p a = true
    · rw [if_pos q] at e
      cases e
      exact ht a ha q
    · rw [if_neg q] at e
      cases e) hl hs
  rw [filterMap_if] at h
  exact h
theorem ef_selA {α : Type} {elt iter c : Expr} {scope : Scope} (x : Str) (j : Nat) (L : List α) (f : α → D) (p : α → Bool) (g : α → D) {tp : Pos} (hc : X.calm = true) (hN : X.N.Nodup) (hi : EI R X γ (.Name x tp) iter (L.map f)) (ok : BlkOk X.N X.env.scope scope [(x, j)])
    (hg : ∀ (s : Shared) (H : Hp) (C : Addr) (cl : List (Str × Addr)) (fp : List Addr), PG (X.blk s H scope (compEnvC scope cl C X.env) fp) (.Name x tp) (gName j)) (hown : ∀ es, γ[j]? ≠ some (.own es))
    (hp : ∀ a ∈ L, ∀ (s : Shared) (H : Hp) (C : Addr) (cl : List (Str × Addr)) (fp : List Addr), ET R (X.blk s H scope (compEnvC scope cl C X.env) fp) (γ.set j (.dat (f a))) c (p a))
    (ht : ∀ a ∈ L, p a = true → ∀ (s : Shared) (H : Hp) (C : Addr) (cl : List (Str × Addr)) (fp : List Addr), EE R (X.blk s H scope (compEnvC scope cl C X.env) fp) (γ.set j (.dat (f a))) elt (g a))
    (hl : L.length ≤ 1000) (hs : ∀ x, foldedSetIterable iter X.env x = pure x := by intro _; rfl) : EF R X γ (.ListComp elt [⟨.Name x tp, iter, [c], 0⟩] scope pos) ((L.filter p).map g) :=
  (el_selA (pos := pos) x j L f p g hc hN hi ok hg hown hp ht hl hs).ef
theorem ef_map {elt iter : Expr} {scope : Scope} (x : Str) (j : Nat) {ds : List D} {tp : Pos} (o : D → D) (hc : X.calm = true) (hN : X.N.Nodup) (hi : EI R X γ (.Name x tp) iter ds) (ok : BlkOk X.N X.env.scope scope [(x, j)])
    (hg : ∀ (s : Shared) (H : Hp) (C : Addr) (cl : List (Str × Addr)) (fp : List Addr), PG (X.blk s H scope (compEnvC scope cl C X.env) fp) (.Name x tp) (gName j)) (hown : ∀ es, γ[j]? ≠ some (.own es))
    (ht : ∀ d ∈ ds, ∀ (s : Shared) (H : Hp) (C : Addr) (cl : List (Str × Addr)) (fp : List Addr), EE R (X.blk s H scope (compEnvC scope cl C X.env) fp) (γ.set j (.dat d)) elt (o d))
    (hl : ds.length ≤ 1000) (hs : ∀ x, foldedSetIterable iter X.env x = pure x := by intro _; rfl) : EF R X γ (.ListComp elt [⟨.Name x tp, iter, [], 0⟩] scope pos) (ds.map o) :=
  ef_mapA x j ds id o hc hN (by rw [List.map_id]; exact hi) ok hg hown ht hl hs
/-- the slots of a pair's names -/
theorem SI.putDD {K : PySem.W.Frag} {H0 H : Hp} {S0 : Addr → Prop} {σ : L2.St} (s : SI R K H0 S0 γ σ H) (i j : Nat) {v w : V} {d e : D} (h : Dt K (off (Sx S0 γ σ) H) v d) (h' : Dt K (off (Sx S0 γ σ) H) w e) : SI R K H0 S0 ((γ.set i (.dat d)).set j (.dat e)) ((σ.set i (some v)).set j (some w)) H := by
  have s1 := s.putD i h
  exact s1.putD j (dp_keep (off_keep (Keep.refl H) sx_dat) _ _ h')
/-- [elt for a, b in iter], [.. if c]: each item a pair -/
theorem el_lc2A {α : Type} {elt iter : Expr} {ifs : List Expr} {scope : Scope} (x y : Str) (i j : Nat) (L : List α) (f1 f2 : α → D) (o : α → Option D) {p1 p2 tp : Pos} {kk : Nat} (hij : i ≠ j) (hc : X.calm = true) (hN : X.N.Nodup)
    (hi : EI R X γ (.Tuple [.Name x p1, .Name y p2] kk tp) iter (L.map fun a => .tuple [f1 a, f2 a])) (ok : BlkOk X.N X.env.scope scope [(x, i), (y, j)])
    (hg : ∀ (s : Shared) (H : Hp) (C : Addr) (cl : List (Str × Addr)) (fp : List Addr), PG (X.blk s H scope (compEnvC scope cl C X.env) fp) (.Tuple [.Name x p1, .Name y p2] kk tp) (gTup X.K 2 (gCons (gName i) (gCons (gName j) gNil)))) (ho1 : ∀ es, γ[i]? ≠ some (.own es)) (ho2 : ∀ es, γ[j]? ≠ some (.own es))
    (hp : ∀ a ∈ L, ∀ (s : Shared) (H : Hp) (C : Addr) (cl : List (Str × Addr)) (fp : List Addr), (ifs = [] ∧ (o a).isSome = true) ∨ (∃ c, ifs = [c] ∧ ET R (X.blk s H scope (compEnvC scope cl C X.env) fp) ((γ.set i (.dat (f1 a))).set j (.dat (f2 a))) c (o a).isSome))
    (ht : ∀ a ∈ L, ∀ r, o a = some r → ∀ (s : Shared) (H : Hp) (C : Addr) (cl : List (Str × Addr)) (fp : List Addr), EE R (X.blk s H scope (compEnvC scope cl C X.env) fp) ((γ.set i (.dat (f1 a))).set j (.dat (f2 a))) elt r)
    (hl : L.length ≤ 1000) (hs : ∀ x, foldedSetIterable iter X.env x = pure x := by intro _; rfl) : EL R X γ (.ListComp elt [⟨.Tuple [.Name x p1, .Name y p2] kk tp, iter, ifs, 0⟩] scope pos) (L.filterMap o) := by
  have h := el_lc (pos := pos) (L := L.map fun a => (.tuple [f1 a, f2 a], o a)) (elt := elt) (ifs := ifs) (own := [(x, i), (y, j)]) hc hN (by rw [List.map_map]; exact hi) ok hg (fun k hk es => by
    have e : k = i ∨ k = j := by simpa using hk
    rcases e with e | e
    · rw [e]
      exact ho1 es
    · rw [e]
      exact ho2 es) (fun d hd => by
    obtain ⟨q, hq, rfl⟩ := List.mem_map.mp hd
    refine ⟨(γ.set i (.dat (f1 q))).set j (.dat (f2 q)), ?_, fun H0 S0 σ H v Q s h k => ?_, fun s H C cl fp => hp q hq s H C cl fp, fun r e => ht q hq r e⟩
    · show (((γ.set i (.dat (f1 q))).set j (.dat (f2 q))).set j .no).set i .no = (γ.set j .no).set i .no
      rw [List.set_set, List.set_comm _ _ hij, List.set_set]
    · cases h with
      | tup h1 h2 =>
        cases h2 with
        | cons e1 r1 =>
          cases r1 with
          | cons e2 r2 =>
            cases r2
            rename_i a v1 v2
            refine ⟨_, _, rfl, sqt_keep off_in h1, rfl, _, _, rfl, _, _, rfl, rfl, ?_⟩
            refine k ((((σ.set j none).set i none).set i (some v1)).set j (some v2)) ?_ ?_
            · show (((((σ.set j none).set i none).set i (some v1)).set j (some v2)).set j none).set i none = (σ.set j none).set i none
              rw [List.set_set, List.set_comm _ _ hij.symm, List.set_set, List.set_set, List.set_comm _ _ hij, List.set_set]
            · have s2 := s.putDD i j e1 e2
              have e : ((((γ.set j .no).set i .no).set i (.dat (f1 q))).set j (.dat (f2 q))) = (γ.set i (.dat (f1 q))).set j (.dat (f2 q)) := by
                rw [List.set_set, List.set_comm _ _ hij.symm, List.set_set]
              have s3 : SI R X.K H0 S0 ((((γ.set j .no).set i .no).set i (.dat (f1 q))).set j (.dat (f2 q))) ((((σ.set j none).set i none).set i (some v1)).set j (some v2)) H := s2
              rw [e] at s3
              exact s3) (by rw [List.length_map]; exact hl) hs
  rw [List.filterMap_map] at h
  exact h
theorem ef_lc2A {α : Type} {elt iter : Expr} {ifs : List Expr} {scope : Scope} (x y : Str) (i j : Nat) (L : List α) (f1 f2 : α → D) (o : α → Option D) {p1 p2 tp : Pos} {kk : Nat} (hij : i ≠ j) (hc : X.calm = true) (hN : X.N.Nodup)
    (hi : EI R X γ (.Tuple [.Name x p1, .Name y p2] kk tp) iter (L.map fun a => .tuple [f1 a, f2 a])) (ok : BlkOk X.N X.env.scope scope [(x, i), (y, j)])
    (hg : ∀ (s : Shared) (H : Hp) (C : Addr) (cl : List (Str × Addr)) (fp : List Addr), PG (X.blk s H scope (compEnvC scope cl C X.env) fp) (.Tuple [.Name x p1, .Name y p2] kk tp) (gTup X.K 2 (gCons (gName i) (gCons (gName j) gNil)))) (ho1 : ∀ es, γ[i]? ≠ some (.own es)) (ho2 : ∀ es, γ[j]? ≠ some (.own es))
    (hp : ∀ a ∈ L, ∀ (s : Shared) (H : Hp) (C : Addr) (cl : List (Str × Addr)) (fp : List Addr), (ifs = [] ∧ (o a).isSome = true) ∨ (∃ c, ifs = [c] ∧ ET R (X.blk s H scope (compEnvC scope cl C X.env) fp) ((γ.set i (.dat (f1 a))).set j (.dat (f2 a))) c (o a).isSome))
    (ht : ∀ a ∈ L, ∀ r, o a = some r → ∀ (s : Shared) (H : Hp) (C : Addr) (cl : List (Str × Addr)) (fp : List Addr), EE R (X.blk s H scope (compEnvC scope cl C X.env) fp) ((γ.set i (.dat (f1 a))).set j (.dat (f2 a))) elt r)
    (hl : L.length ≤ 1000) (hs : ∀ x, foldedSetIterable iter X.env x = pure x := by intro _; rfl) : EF R X γ (.ListComp elt [⟨.Tuple [.Name x p1, .Name y p2] kk tp, iter, ifs, 0⟩] scope pos) (L.filterMap o) :=
  (el_lc2A (pos := pos) x y i j L f1 f2 o hij hc hN hi ok hg ho1 ho2 hp ht hl hs).ef
theorem el_map2A {α : Type} {elt iter : Expr} {scope : Scope} (x y : Str) (i j : Nat) (L : List α) (f1 f2 g : α → D) {p1 p2 tp : Pos} {kk : Nat} (hij : i ≠ j) (hc : X.calm = true) (hN : X.N.Nodup)
    (hi : EI R X γ (.Tuple [.Name x p1, .Name y p2] kk tp) iter (L.map fun a => .tuple [f1 a, f2 a])) (ok : BlkOk X.N X.env.scope scope [(x, i), (y, j)])
    (hg : ∀ (s : Shared) (H : Hp) (C : Addr) (cl : List (Str × Addr)) (fp : List Addr), PG (X.blk s H scope (compEnvC scope cl C X.env) fp) (.Tuple [.Name x p1, .Name y p2] kk tp) (gTup X.K 2 (gCons (gName i) (gCons (gName j) gNil)))) (ho1 : ∀ es, γ[i]? ≠ some (.own es)) (ho2 : ∀ es, γ[j]? ≠ some (.own es))
    (ht : ∀ a ∈ L, ∀ (s : Shared) (H : Hp) (C : Addr) (cl : List (Str × Addr)) (fp : List Addr), EE R (X.blk s H scope (compEnvC scope cl C X.env) fp) ((γ.set i (.dat (f1 a))).set j (.dat (f2 a))) elt (g a))
    (hl : L.length ≤ 1000) (hs : ∀ x, foldedSetIterable iter X.env x = pure x := by intro _; rfl) : EL R X γ (.ListComp elt [⟨.Tuple [.Name x p1, .Name y p2] kk tp, iter, [], 0⟩] scope pos) (L.map g) := by
  have h := el_lc2A (pos := pos) x y i j L f1 f2 (fun a => some (g a)) (elt := elt) (ifs := []) hij hc hN hi ok hg ho1 ho2 (fun a ha s H C cl fp => .inl ⟨rfl, rfl⟩) (fun a ha r e => by cases e; exact ht a ha) hl hs
  rw [show (fun a => some (g a)) = (some ∘ g) from rfl, List.filterMap_eq_map] at h
  exact h
theorem ef_map2A {α : Type} {elt iter : Expr} {scope : Scope} (x y : Str) (i j : Nat) (L : List α) (f1 f2 g : α → D) {p1 p2 tp : Pos} {kk : Nat} (hij : i ≠ j) (hc : X.calm = true) (hN : X.N.Nodup)
    (hi : EI R X γ (.Tuple [.Name x p1, .Name y p2] kk tp) iter (L.map fun a => .tuple [f1 a, f2 a])) (ok : BlkOk X.N X.env.scope scope [(x, i), (y, j)])
    (hg : ∀ (s : Shared) (H : Hp) (C : Addr) (cl : List (Str × Addr)) (fp : List Addr), PG (X.blk s H scope (compEnvC scope cl C X.env) fp) (.Tuple [.Name x p1, .Name y p2] kk tp) (gTup X.K 2 (gCons (gName i) (gCons (gName j) gNil)))) (ho1 : ∀ es, γ[i]? ≠ some (.own es)) (ho2 : ∀ es, γ[j]? ≠ some (.own es))
    (ht : ∀ a ∈ L, ∀ (s : Shared) (H : Hp) (C : Addr) (cl : List (Str × Addr)) (fp : List Addr), EE R (X.blk s H scope (compEnvC scope cl C X.env) fp) ((γ.set i (.dat (f1 a))).set j (.dat (f2 a))) elt (g a))
    (hl : L.length ≤ 1000) (hs : ∀ x, foldedSetIterable iter X.env x = pure x := by intro _; rfl) : EF R X γ (.ListComp elt [⟨.Tuple [.Name x p1, .Name y p2] kk tp, iter, [], 0⟩] scope pos) (L.map g) :=
  (el_map2A (pos := pos) x y i j L f1 f2 g hij hc hN hi ok hg ho1 ho2 ht hl hs).ef
theorem el_sel2A {α : Type} {elt iter c : Expr} {scope : Scope} (x y : Str) (i j : Nat) (L : List α) (f1 f2 : α → D) (p : α → Bool) (g : α → D) {p1 p2 tp : Pos} {kk : Nat} (hij : i ≠ j) (hc : X.calm = true) (hN : X.N.Nodup)
    (hi : EI R X γ (.Tuple [.Name x p1, .Name y p2] kk tp) iter (L.map fun a => .tuple [f1 a, f2 a])) (ok : BlkOk X.N X.env.scope scope [(x, i), (y, j)])
    (hg : ∀ (s : Shared) (H : Hp) (C : Addr) (cl : List (Str × Addr)) (fp : List Addr), PG (X.blk s H scope (compEnvC scope cl C X.env) fp) (.Tuple [.Name x p1, .Name y p2] kk tp) (gTup X.K 2 (gCons (gName i) (gCons (gName j) gNil)))) (ho1 : ∀ es, γ[i]? ≠ some (.own es)) (ho2 : ∀ es, γ[j]? ≠ some (.own es))
    (hp : ∀ a ∈ L, ∀ (s : Shared) (H : Hp) (C : Addr) (cl : List (Str × Addr)) (fp : List Addr), ET R (X.blk s H scope (compEnvC scope cl C X.env) fp) ((γ.set i (.dat (f1 a))).set j (.dat (f2 a))) c (p a))
    (ht : ∀ a ∈ L, p a = true → ∀ (s : Shared) (H : Hp) (C : Addr) (cl : List (Str × Addr)) (fp : List Addr), EE R (X.blk s H scope (compEnvC scope cl C X.env) fp) ((γ.set i (.dat (f1 a))).set j (.dat (f2 a))) elt (g a))
    (hl : L.length ≤ 1000) (hs : ∀ x, foldedSetIterable iter X.env x = pure x := by intro _; rfl) : EL R X γ (.ListComp elt [⟨.Tuple [.Name x p1, .Name y p2] kk tp, iter, [c], 0⟩] scope pos) ((L.filter p).map g) := by
  have h := el_lc2A (pos := pos) x y i j L f1 f2 (fun a => if p a = true then some (g a) else none) (elt := elt) (ifs := [c]) hij hc hN hi ok hg ho1 ho2 (fun a ha s H C cl fp => .inr ⟨c, rfl, by
    have := hp a ha s H C cl fp
    cases e : p a with
    | true => rw [e] at this; simpa using this
    | false => rw [e] at this; simpa using this⟩) (fun a ha r e => by
    by_cases q : p a = true
    · rw [if_pos q] at e
      cases e
      exact ht a ha q
    · rw [if_neg q] at e
      cases e) hl hs
  rw [filterMap_if] at h
  exact h
theorem ef_sel2A {α : Type} {elt iter c : Expr} {scope : Scope} (x y : Str) (i j : Nat) (L : List α) (f1 f2 : α → D) (p : α → Bool) (g : α → D) {p1 p2 tp : Pos} {kk : Nat} (hij : i ≠ j) (hc : X.calm = true) (hN : X.N.Nodup)
    (hi : EI R X γ (.Tuple [.Name x p1, .Name y p2] kk tp) iter (L.map fun a => .tuple [f1 a, f2 a])) (ok : BlkOk X.N X.env.scope scope [(x, i), (y, j)])
    (hg : ∀ (s : Shared) (H : Hp) (C : Addr) (cl : List (Str × Addr)) (fp : List Addr), PG (X.blk s H scope (compEnvC scope cl C X.env) fp) (.Tuple [.Name x p1, .Name y p2] kk tp) (gTup X.K 2 (gCons (gName i) (gCons (gName j) gNil)))) (ho1 : ∀ es, γ[i]? ≠ some (.own es)) (ho2 : ∀ es, γ[j]? ≠ some (.own es))
    (hp : ∀ a ∈ L, ∀ (s : Shared) (H : Hp) (C : Addr) (cl : List (Str × Addr)) (fp : List Addr), ET R (X.blk s H scope (compEnvC scope cl C X.env) fp) ((γ.set i (.dat (f1 a))).set j (.dat (f2 a))) c (p a))
    (ht : ∀ a ∈ L, p a = true → ∀ (s : Shared) (H : Hp) (C : Addr) (cl : List (Str × Addr)) (fp : List Addr), EE R (X.blk s H scope (compEnvC scope cl C X.env) fp) ((γ.set i (.dat (f1 a))).set j (.dat (f2 a))) elt (g a))
    (hl : L.length ≤ 1000) (hs : ∀ x, foldedSetIterable iter X.env x = pure x := by intro _; rfl) : EF R X γ (.ListComp elt [⟨.Tuple [.Name x p1, .Name y p2] kk tp, iter, [c], 0⟩] scope pos) ((L.filter p).map g) :=
  (el_sel2A (pos := pos) x y i j L f1 f2 p g hij hc hN hi ok hg ho1 ho2 hp ht hl hs).ef
theorem ef_lc2 {elt iter : Expr} {ifs : List Expr} {scope : Scope} (x y : Str) (i j : Nat) {ds : List (D × D)} {p1 p2 tp : Pos} {kk : Nat} (p : D → D → Bool) (o : D → D → D) (hij : i ≠ j) (hc : X.calm = true) (hN : X.N.Nodup)
    (hi : EI R X γ (.Tuple [.Name x p1, .Name y p2] kk tp) iter (ds.map fun q => .tuple [q.1, q.2])) (ok : BlkOk X.N X.env.scope scope [(x, i), (y, j)])
    (hg : ∀ (s : Shared) (H : Hp) (C : Addr) (cl : List (Str × Addr)) (fp : List Addr), PG (X.blk s H scope (compEnvC scope cl C X.env) fp) (.Tuple [.Name x p1, .Name y p2] kk tp) (gTup X.K 2 (gCons (gName i) (gCons (gName j) gNil)))) (ho1 : ∀ es, γ[i]? ≠ some (.own es)) (ho2 : ∀ es, γ[j]? ≠ some (.own es))
    (hp : ∀ q ∈ ds, ∀ (s : Shared) (H : Hp) (C : Addr) (cl : List (Str × Addr)) (fp : List Addr), (ifs = [] ∧ p q.1 q.2 = true) ∨ (∃ c, ifs = [c] ∧ ET R (X.blk s H scope (compEnvC scope cl C X.env) fp) ((γ.set i (.dat q.1)).set j (.dat q.2)) c (p q.1 q.2)))
    (ht : ∀ q ∈ ds, p q.1 q.2 = true → ∀ (s : Shared) (H : Hp) (C : Addr) (cl : List (Str × Addr)) (fp : List Addr), EE R (X.blk s H scope (compEnvC scope cl C X.env) fp) ((γ.set i (.dat q.1)).set j (.dat q.2)) elt (o q.1 q.2))
    (hl : ds.length ≤ 1000) (hs : ∀ x, foldedSetIterable iter X.env x = pure x := by intro _; rfl) : EF R X γ (.ListComp elt [⟨.Tuple [.Name x p1, .Name y p2] kk tp, iter, ifs, 0⟩] scope pos) ((ds.filter fun q => p q.1 q.2).map fun q => o q.1 q.2) := by
  have h := el_lc2A (pos := pos) x y i j ds (·.1) (·.2) (fun q => if p q.1 q.2 = true then some (o q.1 q.2) else none) (elt := elt) (ifs := ifs) hij hc hN hi ok hg ho1 ho2 (fun q hq s H C cl fp => by
    have e : (if p q.1 q.2 = true then some (o q.1 q.2) else none).isSome = p q.1 q.2 := by
      cases p q.1 q.2 <;> rfl
    rw [e]
    exact hp q hq s H C cl fp) (fun q hq r e => by
    by_cases z : p q.1 q.2 = true
    · rw [if_pos z] at e
      cases e
      exact ht q hq z
    · rw [if_neg z] at e
      cases e) hl hs
  rw [filterMap_if (fun q : D × D => p q.1 q.2) (fun q => o q.1 q.2)] at h
  exact h.ef
end
/-! ### statements -/
/-- what is wanted behind statements -/
structure Po where
  nx : List Sl → Prop := fun _ => False
  rt : D → Prop := fun _ => False
  /-- a new list comes back -/
  rn : List D → Prop := fun _ => False
  bk : List Sl → Prop := fun _ => False
  ct : List Sl → Prop := fun _ => False
  rz : Value → Prop := fun _ => False
def SS (R : Hp → Hp → Prop) (X : Cx) (γ : List Sl) (st : List Stmt) (P : Po) : Prop :=
  ∀ (H0 : Hp) (S0 : Addr → Prop) (σ : L2.St) (H : Hp) (E : Ends) (W : XK), SI R X.K H0 S0 γ σ H → L2N.Takes X (fun c d _ H' => W c d H') →
    (∀ γ' σ' H', P.nx γ' → SI R X.K H0 S0 γ' σ' H' → E.nx σ' H') → ((∀ d v H', P.rt d → R H0 H' → Dt X.K (off S0 H') v d → E.rt v H') ∧ ∀ ds p vs H', P.rn ds → R H0 H' → H0 p = none → H' p = some (.lst vs) → DtAll X.K (off (fun a => a = p ∨ S0 a) H') vs ds → E.rt (.ref p) H') →
    (∀ γ' σ' H', P.bk γ' → SI R X.K H0 S0 γ' σ' H' → E.bk σ' H') → (∀ γ' σ' H', P.ct γ' → SI R X.K H0 S0 γ' σ' H' → E.ct σ' H') → (∀ c H', P.rz c → R H0 H' → W c none H') → wss X st E σ H
def S1 (R : Hp → Hp → Prop) (X : Cx) (γ : List Sl) (st : Stmt) (P : Po) : Prop :=
  ∀ (H0 : Hp) (S0 : Addr → Prop) (σ : L2.St) (H : Hp) (E : Ends) (W : XK), SI R X.K H0 S0 γ σ H → L2N.Takes X (fun c d _ H' => W c d H') →
    (∀ γ' σ' H', P.nx γ' → SI R X.K H0 S0 γ' σ' H' → E.nx σ' H') → ((∀ d v H', P.rt d → R H0 H' → Dt X.K (off S0 H') v d → E.rt v H') ∧ ∀ ds p vs H', P.rn ds → R H0 H' → H0 p = none → H' p = some (.lst vs) → DtAll X.K (off (fun a => a = p ∨ S0 a) H') vs ds → E.rt (.ref p) H') →
    (∀ γ' σ' H', P.bk γ' → SI R X.K H0 S0 γ' σ' H' → E.bk σ' H') → (∀ γ' σ' H', P.ct γ' → SI R X.K H0 S0 γ' σ' H' → E.ct σ' H') → (∀ c H', P.rz c → R H0 H' → W c none H') → ws X st E σ H
theorem passN {X : Cx} : Passes (L2N.CX X.prog X.w) X E0 := fun _ _ _ _ _ _ _ h => by
  obtain ⟨_, _, _, _, _, _, _, _, _, _, _, _, z⟩ := h
  exact z.elim
section
variable {R : Hp → Hp → Prop} [RelC R] {X : Cx} {γ : List Sl} {P : Po} {pos : Pos} {rest : List Stmt}
theorem dt_S0 {K : PySem.W.Frag} {S0 : Addr → Prop} {σ : L2.St} {H : Hp} {v : V} {d : D} (h : Dt K (off (Sx S0 γ σ) H) v d) : Dt K (off S0 H) v d := dp_keep (off_keep (Keep.refl H) fun _ z => .inl z) _ _ h
theorem ss_nil (h : P.nx γ) : SS R X γ [] P := fun H0 S0 σ H E W s tk n r b c z => wss_of pss_nil (n γ σ H h s)
/-- one statement, then the rest -/
theorem ss_cons {st : Stmt} (h : S1 R X γ st { P with nx := fun γ' => SS R X γ' rest P }) : SS R X γ (st :: rest) P := fun H0 S0 σ H E W s tk n r b c z =>
  wss_of (pss_cons ps_ws pss_wss) (h H0 S0 σ H { E with nx := fun σ' H' => wss X rest E σ' H' } W s tk (fun γ' σ' H' q s' => q H0 S0 σ' H' E W s' tk n r b c z) r b c z)
theorem ss_one {st : Stmt} (h : S1 R X γ st P) : SS R X γ [st] P := fun H0 S0 σ H E W s tk n r b c z => wss_of (pss_one ps_ws) (h H0 S0 σ H E W s tk n r b c z)
theorem ss_imp {st : List Stmt} {P' : Po} (h : SS R X γ st P') (h1 : ∀ g, P'.nx g → P.nx g) (h2 : ∀ d, P'.rt d → P.rt d) (h3 : ∀ g, P'.bk g → P.bk g) (h4 : ∀ g, P'.ct g → P.ct g) (h5 : ∀ c, P'.rz c → P.rz c) (h6 : ∀ ds, P'.rn ds → P.rn ds := by exact fun _ z => z) : SS R X γ st P := fun H0 S0 σ H E W s tk n r b c z =>
  h H0 S0 σ H E W s tk (fun g x y q => n g x y (h1 g q)) ⟨fun d v y q => r.1 d v y (h2 d q), fun ds p vs y q => r.2 ds p vs y (h6 ds q)⟩ (fun g x y q => b g x y (h3 g q)) (fun g x y q => c g x y (h4 g q)) fun d y q => z d y (h5 d q)
theorem s1_imp {st : Stmt} {P' : Po} (h : S1 R X γ st P') (h1 : ∀ g, P'.nx g → P.nx g) (h2 : ∀ d, P'.rt d → P.rt d := by exact fun _ z => z) (h3 : ∀ g, P'.bk g → P.bk g := by exact fun _ z => z) (h4 : ∀ g, P'.ct g → P.ct g := by exact fun _ z => z) (h5 : ∀ c, P'.rz c → P.rz c := by exact fun _ z => z) (h6 : ∀ ds, P'.rn ds → P.rn ds := by exact fun _ z => z) : S1 R X γ st P := fun H0 S0 σ H E W s tk n r b c z =>
  h H0 S0 σ H E W s tk (fun g x y q => n g x y (h1 g q)) ⟨fun d v y q => r.1 d v y (h2 d q), fun ds p vs y q => r.2 ds p vs y (h6 ds q)⟩ (fun g x y q => b g x y (h3 g q)) (fun g x y q => c g x y (h4 g q)) fun d y q => z d y (h5 d q)
/-- a statement, by itself, that leads to the slots γ' -/
theorem ss_mid {st : Stmt} (γ' : List Sl) (h : S1 R X γ st { P with nx := fun g => g = γ' }) (k : SS R X γ' rest P) : SS R X γ (st :: rest) P := ss_cons (s1_imp h fun g e => by
  have e : g = γ' := e
  rw [e]
  exact k)
/-- a statement, by itself, that leads to slots of which T holds -/
theorem ss_midT {st : Stmt} (T : List Sl → Prop) (h : S1 R X γ st { P with nx := T }) (k : ∀ g, T g → SS R X g rest P) : SS R X γ (st :: rest) P := ss_cons (s1_imp h fun g e => k g e)
/-- a statement that leaves the slots -/
theorem ss_keep {st : Stmt} (h : S1 R X γ st { P with nx := fun g => g = γ }) (k : SS R X γ rest P) : SS R X γ (st :: rest) P := ss_mid γ h k
/-- other slots that say the same -/
theorem ss_eq {st : List Stmt} {γ' : List Sl} (e : γ = γ') (h : SS R X γ' st P) : SS R X γ st P := by
  rw [e]
  exact h
/-- a list of one's own is data from here on -/
theorem ss_freeze {st : List Stmt} (i : Nat) {ds : List D} (h : SS R X (γ.set i (.dat (.list ds))) st P) (hi : γ[i]? = some (.own ds) := by rfl) : SS R X γ st P := fun H0 S0 σ H E W s tk n r b c z => h H0 S0 σ H E W (s.freeze hi) tk n r b c z
theorem s1_pass (h : P.nx γ) : S1 R X γ (.Pass pos) P := fun H0 S0 σ H E W s tk n r b c z => ws_of ps_pass (n γ σ H h s)
theorem s1_ret {e : Expr} {d : D} (he : EE R X γ e d) (h : P.rt d) : S1 R X γ (.Return (some e) pos) P := fun H0 S0 σ H E W s tk n r b c z =>
  ws_of (ps_ret pe_we) (he H0 S0 σ H _ s fun v H1 r1 d1 => r.1 d v H1 h (Rel.trans s.rel r1) (dt_S0 d1))
/-- a new list goes back -/
theorem s1_retF {e : Expr} {ds : List D} (he : EF R X γ e ds) (h : P.rn ds) : S1 R X γ (.Return (some e) pos) P := fun H0 S0 σ H E W s tk n r b c z =>
  ws_of (ps_ret pe_we) (he H0 S0 σ H _ s fun p vs H1 n1 r1 e1 d1 => r.2 ds p vs H1 h (Rel.trans s.rel r1) (Rel.free s.rel n1) e1 (dps_keep (off_keep (Keep.refl H1) fun a z => z.imp id .inl) _ _ d1))
/-- a list of one's own goes back -/
theorem s1_retO (i : Nat) {x : Str} {ds : List D} {p : Pos} (h : P.rn ds) (hi : γ[i]? = some (.own ds) := by rfl) (hN : X.N[i]? = some x := by rfl)
    (hv : Vis X.env.scope x := by first | exact Or.inl rfl | exact Or.inr (Or.inl rfl) | exact Or.inr (Or.inr rfl)) (hd : (x == ("__debug__" : Str)) = false := by decide) (hcd : (x == ("__classdict__" : Str)) = false := by decide) :
    S1 R X γ (.Return (some (.Name x p)) pos) P := fun H0 S0 σ H E W s tk n r b c z => by
  obtain ⟨l, vs, h1, h2, h3, h4⟩ := s.own i ds hi
  refine ws_of (ps_ret (pe_var hN hv hd hcd)) ⟨_, h1, r.2 ds l vs H h s.rel h2 h3 (dps_keep (off_keep (Keep.refl H) fun a z => ?_) _ _ h4)⟩
  rcases z with z | z
  · rw [z]
    exact .inr ⟨i, _, _, hi, h1, rfl⟩
  · exact .inl z
theorem s1_retN (h : P.rt .none) : S1 R X γ (.Return none pos) P := fun H0 S0 σ H E W s tk n r b c z =>
  ws_of ps_retN (r.1 .none .non H h s.rel .non)
theorem s1_expr {e : Expr} {d : D} (he : EE R X γ e d) (h : P.nx γ) (hs : swapsWith e none pos.line X.env = pure false := by rfl) : S1 R X γ (.Expr e pos) P := fun H0 S0 σ H E W s tk n r b c z =>
  ws_of (ps_expr pe_we hs) (he H0 S0 σ H _ s fun v H1 r1 d1 => n γ σ H1 h (s.mono r1))
theorem s1_set (i : Nat) {x : Str} {e : Expr} {d : D} {p : Pos} (he : EE R X γ e d) (h : P.nx (γ.set i (.dat d))) (hN : X.N.Nodup) (hi : X.N[i]? = some x := by rfl) (hx : Loc X.env.scope x := by first | exact Or.inl rfl | exact Or.inr rfl)
    (hs : swapsWith e (some (.Name x p)) pos.line X.env = pure false := by rfl) (hf : X.fn x = true ∨ X.env.scope.names.lookup x = some .local := by first | exact .inl rfl | exact .inr rfl | assumption) : S1 R X γ (.Assign [.Name x p] e pos) P := fun H0 S0 σ H E W s tk n r b c z =>
  ws_of (ps_set hN hi hx pe_we hs hf) (he H0 S0 σ H _ s fun v H1 r1 d1 => n _ _ H1 h ((s.mono r1).putD i d1))
/-- a value that isn't told as data -/
theorem s1_setV (i : Nat) {x : Str} {e : Expr} {v : V} {p : Pos} (he : EV R X γ e v) (h : P.nx (γ.set i (.val v))) (hN : X.N.Nodup) (hi : X.N[i]? = some x := by rfl) (hx : Loc X.env.scope x := by first | exact Or.inl rfl | exact Or.inr rfl)
    (hs : swapsWith e (some (.Name x p)) pos.line X.env = pure false := by rfl) (hf : X.fn x = true ∨ X.env.scope.names.lookup x = some .local := by first | exact .inl rfl | exact .inr rfl | assumption) : S1 R X γ (.Assign [.Name x p] e pos) P := fun H0 S0 σ H E W s tk n r b c z =>
  ws_of (ps_set hN hi hx pe_we hs hf) (he H0 S0 σ H _ s fun H1 r1 => n _ _ H1 h ((s.mono r1).putV i))
/-- x = a new list, which this body may change -/
theorem s1_setO (i : Nat) {x : Str} {e : Expr} {ds : List D} {p : Pos} (he : EF R X γ e ds) (h : P.nx (γ.set i (.own ds))) (hN : X.N.Nodup) (ho : ∀ es, γ[i]? ≠ some (.own es)) (hi : X.N[i]? = some x := by rfl) (hx : Loc X.env.scope x := by first | exact Or.inl rfl | exact Or.inr rfl)
    (hs : swapsWith e (some (.Name x p)) pos.line X.env = pure false := by rfl) (hf : X.fn x = true ∨ X.env.scope.names.lookup x = some .local := by first | exact .inl rfl | exact .inr rfl | assumption) : S1 R X γ (.Assign [.Name x p] e pos) P := fun H0 S0 σ H E W s tk n r b c z =>
  ws_of (ps_set hN hi hx pe_we hs hf) (he H0 S0 σ H _ s fun l vs H1 n1 r1 h1 d1 => n _ _ H1 h (s.putO i r1 n1 h1 d1))
theorem el_is {e : Expr} {ds ds' : List D} (h : EL R X γ e ds) (q : ds = ds') : EL R X γ e ds' := by
  rw [← q]
  exact h
/-- x = [.. for ..], where the swap is decided -/
theorem s1_setLc (i : Nat) {x : Str} {e : Expr} {ds : List D} {p : Pos} (he : EL R X γ e ds) (h : P.nx (γ.set i (.dat (.list ds)))) (hi : X.N[i]? = some x := by rfl) (hx : X.env.scope.names.lookup x = some .local := by rfl)
    (hs : swapsWith e (some (.Name x p)) pos.line X.env = pure true := by rfl) : S1 R X γ (.Assign [.Name x p] e pos) P := fun H0 S0 σ H E W s tk n r b c z => by
  obtain ⟨t, ⟨_, h1⟩, h2⟩ := he
  refine ws_of (h1 i x p pos hi hx hs) (h2 H0 S0 σ H _ s fun l vs H1 n1 r1 h3 d1 => n _ _ H1 h ((s.mono r1).putD i (.lst (.inl (off_of (fun z => ?_) h3)) (dps_keep (off_keep (Keep.refl H1) fun a z => .inr z) _ _ d1))))
  exact s.there z n1
theorem s1_setLcO (i : Nat) {x : Str} {e : Expr} {ds : List D} {p : Pos} (he : EL R X γ e ds) (h : P.nx (γ.set i (.own ds))) (ho : ∀ es, γ[i]? ≠ some (.own es)) (hi : X.N[i]? = some x := by rfl) (hx : X.env.scope.names.lookup x = some .local := by rfl)
    (hs : swapsWith e (some (.Name x p)) pos.line X.env = pure true := by rfl) : S1 R X γ (.Assign [.Name x p] e pos) P := fun H0 S0 σ H E W s tk n r b c z => by
  obtain ⟨t, ⟨_, h1⟩, h2⟩ := he
  exact ws_of (h1 i x p pos hi hx hs) (h2 H0 S0 σ H _ s fun l vs H1 n1 r1 h3 d1 => n _ _ H1 h (s.putO i r1 n1 h3 d1))
/-- a, b = x, y: two local names -/
theorem s1_par (i j : Nat) {x y : Str} {a b : Expr} {d1 d2 : D} {px py pt pt2 : Pos} {kt k2 : Nat} (ha : EE R X γ a d1) (hb : EE R X γ b d2) (h : P.nx ((γ.set i (.dat d1)).set j (.dat d2))) (hc : X.calm = true) (hN : X.N.Nodup) (hij : i ≠ j := by decide) (hi : X.N[i]? = some x := by rfl) (hj : X.N[j]? = some y := by rfl)
    (hx : X.env.scope.names.lookup x = some .local := by rfl) (hy : X.env.scope.names.lookup y = some .local := by rfl)
    (hw : swappedStores [.Tuple [.Name x px, .Name y py] kt pt] (.Tuple [a, b] k2 pt2) X.env = pure (some [x, y]) := by rfl)
    (hs : swapsWithSole [.Tuple [.Name x px, .Name y py] kt pt] (.Tuple [a, b] k2 pt2) pos.line X.env = pure false := by rfl)
    (hst : starEach [a, b] X.env = (false, eval a X.env) :: starEach [b] X.env := by rfl) (hst2 : starEach [b] X.env = [(false, eval b X.env)] := by rfl) :
    S1 R X γ (.Assign [.Tuple [.Name x px, .Name y py] kt pt] (.Tuple [a, b] k2 pt2) pos) P := fun H0 S0 σ H E W s tk n r bk c z =>
  ws_of (ps_par hc hN hi hj hij hx hy pa_wa hw hs) ((ea_cons ha (ea_cons hb ea_nil hst2) hst) H0 S0 σ H _ s fun vs H1 r1 dd => by
    cases dd with
    | cons e1 t =>
      cases t with
      | cons e2 t =>
        cases t
        exact ⟨_, _, rfl, n _ _ H1 h ((s.mono r1).putDD i j e1 e2)⟩)
/-- a, b = x, y: the first a new list, which this body may change -/
theorem s1_parO (i j : Nat) {x y : Str} {a b : Expr} {ds : List D} {d2 : D} {px py pt pt2 : Pos} {kt k2 : Nat} (ha : EF R X γ a ds) (hb : EE R X γ b d2) (h : P.nx ((γ.set i (.own (.l ds))).set j (.dat d2))) (hc : X.calm = true) (hN : X.N.Nodup) (hij : i ≠ j := by decide) (hi : X.N[i]? = some x := by rfl) (hj : X.N[j]? = some y := by rfl)
    (hx : X.env.scope.names.lookup x = some .local := by rfl) (hy : X.env.scope.names.lookup y = some .local := by rfl)
    (hw : swappedStores [.Tuple [.Name x px, .Name y py] kt pt] (.Tuple [a, b] k2 pt2) X.env = pure (some [x, y]) := by rfl)
    (hs : swapsWithSole [.Tuple [.Name x px, .Name y py] kt pt] (.Tuple [a, b] k2 pt2) pos.line X.env = pure false := by rfl)
    (hst : starEach [a, b] X.env = (false, eval a X.env) :: starEach [b] X.env := by rfl) (hst2 : starEach [b] X.env = [(false, eval b X.env)] := by rfl) :
    S1 R X γ (.Assign [.Tuple [.Name x px, .Name y py] kt pt] (.Tuple [a, b] k2 pt2) pos) P := fun H0 S0 σ H E W s tk n r bk c z => by
  refine ws_of (ps_par hc hN hi hj hij hx hy pa_wa hw hs) (wa_of (pa_cons pe_we pa_wa hst) (ha H0 S0 σ H _ s fun p vs H1 n1 r1 h1 d1 => ?_))
  have sa := s.putO i r1 n1 h1 d1
  refine (ea_cons hb ea_nil hst2) _ _ σ H1 _ (s.avoid r1 n1 (by rw [h1]; exact fun q => nomatch q)) fun us H2 r2 d2' => ?_
  cases d2' with
  | cons e2 t =>
    cases t
    refine ⟨_, _, rfl, n _ _ H2 h ((sa.mono r2).putD j (dp_keep (off_keep (Keep.refl H2) fun a zz => ?_) _ _ e2))⟩
    rcases zz with zz | ⟨k, zz⟩
    · exact .inl (.inr zz)
    · rcases fp_set zz with ⟨_, f⟩ | ⟨_, f⟩
      · have e : some (V.ref p) = some (V.ref a) := f
        injection e with e
        injection e with e
        exact .inl (.inl e.symm)
      · exact .inr ⟨k, f⟩
/-- target = e, any target -/
theorem s1_asgG {tg e : Expr} {d : D} {γ' : List Sl} (he : EE R X γ e d) (hg : EG R X γ tg d γ') (h : P.nx γ') (hs : swapsWithSole [tg] e pos.line X.env = pure false := by rfl) (hw : swappedStores [tg] e X.env = pure none := by rfl)
    (h1 : (assignEach [tg] X.env).map (·.2) = [assign tg X.env] := by rfl) : S1 R X γ (.Assign [tg] e pos) P := fun H0 S0 σ H E W s tk n r bk ct z =>
  ws_of (ps_asg pe_we pg_wg hs hw h1) (he H0 S0 σ H _ s fun v H1 r1 d1 => hg H0 S0 σ H1 v _ (s.mono r1) d1 fun σ' s' => n γ' σ' H1 h s')
theorem s1_if {c : Expr} {a b : List Stmt} {k : Bool} (hc : ET R X γ c k) (h1 : k = true → SS R X γ a P) (h2 : k = false → SS R X γ b P) : S1 R X γ (.If c a b pos) P := fun H0 S0 σ H E W s tk n r bk ct z =>
  ws_of (ps_if pt_wt pss_wss pss_wss) (hc H0 S0 σ H _ s fun H1 r1 => by
    cases k with
    | true => exact iteT (h1 rfl H0 S0 σ H1 E W (s.mono r1) tk n r bk ct z)
    | false => exact iteF (h2 rfl H0 S0 σ H1 E W (s.mono r1) tk n r bk ct z))
theorem s1_while {c : Expr} {body : List Stmt} (Iv : Nat → List Sl → Prop) (m0 : Nat) (h0 : Iv m0 γ)
    (hs : ∀ m γ', Iv m γ' → ∃ k, ET R X γ' c k ∧ (k = true → SS R X γ' body { P with nx := fun g => ∃ m', m' < m ∧ Iv m' g, ct := fun g => ∃ m', m' < m ∧ Iv m' g, bk := P.nx }) ∧ (k = false → P.nx γ'))
    (hp : PassesOwn (model X.prog X.w) X.A X.env X.xe) : S1 R X γ (.While c body [] pos) P := fun H0 S0 σ H E W s tk n r bk ct z =>
  ws_of (ps_while hp pt_wt pss_wss) ⟨fun m σ' H' => ∃ γ', Iv m γ' ∧ SI R X.K H0 S0 γ' σ' H', ⟨m0, γ, h0, s⟩, fun m σ' H' ⟨γ', hv, s'⟩ => by
    obtain ⟨k, e1, e2, e3⟩ := hs m γ' hv
    refine e1 H0 S0 σ' H' _ s' fun H1 r1 => ?_
    cases k with
    | true =>
      refine iteT ⟨fun σ2 H2 => ∃ γ2 m', m' < m ∧ Iv m' γ2 ∧ SI R X.K H0 S0 γ2 σ2 H2, fun σ2 H2 ⟨γ2, m', hm, h2, s2⟩ => ⟨m', hm, γ2, h2, s2⟩, ?_⟩
      exact e2 rfl H0 S0 σ' H1 _ W (s'.mono r1) tk (fun γ2 σ2 H2 ⟨m', hm, q⟩ s2 => ⟨γ2, m', hm, q, s2⟩) r (fun γ2 σ2 H2 q s2 => n γ2 σ2 H2 q s2) (fun γ2 σ2 H2 ⟨m', hm, q⟩ s2 => ⟨γ2, m', hm, q, s2⟩) z
    | false => exact iteF (n γ' σ' H1 (e3 rfl) (s'.mono r1))⟩
/-- for tg in iter: Iv by the turn -/
theorem s1_for {tg iter : Expr} {body : List Stmt} {ds : List D} (Iv : Nat → List Sl → Prop) (hi : EI R X γ tg iter ds) (h0 : Iv 0 γ)
    (hs : ∀ i d γ', ds[i]? = some d → Iv i γ' → ∃ γ'', EG R X γ' tg d γ'' ∧ SS R X γ'' body { P with nx := Iv (i + 1), ct := Iv (i + 1), bk := P.nx }) (hd : ∀ γ', Iv ds.length γ' → P.nx γ')
    (hp : PassesOwn (model X.prog X.w) X.A X.env X.xe) (hc : X.calm = true) (hf : ∀ x, foldedSetIterable iter X.env x = pure x := by intro _; rfl) : S1 R X γ (.For tg iter body [] pos) P := fun H0 S0 σ H E W s tk n r bk ct z => by
  obtain ⟨wi, hpi, hwi⟩ := hi
  refine ws_of (ps_for hp hc hpi pg_wg pss_wss hf) (hwi H0 S0 σ H _ s fun J H1 r1 itd => ?_)
  have s1 := s.mono r1
  have sb := s1.rebase
  have hcut := s1.cutR
  refine ⟨fun i m σ' H' => m = ds.length - i ∧ i ≤ ds.length ∧ ∃ γ', Iv i γ' ∧ SI R X.K (cutO γ σ H1) S0 γ' σ' H', ⟨ds.length, by simp, Nat.zero_le _, γ, h0, sb⟩, ?_⟩
  rintro i m σ' H' ⟨rfl, hle, γ', hv, s'⟩
  have kp := s1.kept s'
  by_cases hlt : i < ds.length
  · have hdi : ds[i]? = some ds[i] := List.getElem?_eq_getElem hlt
    obtain ⟨γ'', hg, hb⟩ := hs i ds[i] γ' hdi hv
    refine .inr ⟨itd.go i H' _ kp hlt, fun σ2 H2 => ∃ γ2, Iv (i + 1) γ2 ∧ SI R X.K (cutO γ σ H1) S0 γ2 σ2 H2, fun σ2 H2 ⟨γ2, h2, s2⟩ => ⟨ds.length - (i + 1), by omega, rfl, hlt, γ2, h2, s2⟩, fun x H2 hy => ?_⟩
    obtain ⟨sm, dx⟩ := itd.yld i H' _ x H2 ds[i] kp (fun a q => s'.there q) hy hdi
    refine hg _ S0 σ' H2 x _ (s'.mono (Rel.more s'.ref sm)) dx fun σ2 s2 => ?_
    exact hb _ S0 σ2 H2 _ W s2 tk (fun γ2 σ3 H3 q s3 => ⟨γ2, q, s3⟩) ⟨fun d v H3 q r3 d3 => r.1 d v H3 q (Rel.trans hcut r3) d3, fun ds p vs H3 q r3 n3 e3 d3 => r.2 ds p vs H3 q (Rel.trans hcut r3) (Rel.free hcut n3) e3 d3⟩ (fun γ2 σ3 H3 q s3 => n γ2 σ3 H3 q (s1.back s3 hcut)) (fun γ2 σ3 H3 q s3 => ⟨γ2, q, s3⟩) fun c H3 q r3 => z c H3 q (Rel.trans hcut r3)
  · have e : i = ds.length := by omega
    subst e
    exact .inl ⟨itd.stop _ H' _ kp (Nat.le_refl _), n γ' σ' H' (hd γ' hv) (s1.back s' hcut)⟩
/-! ### lists of one's own, changed -/
theorem s1_append (i : Nat) {x : Str} {e : Expr} {ds : List D} {d : D} {p apos cpos : Pos} (he : EE R X γ e d) (h : P.nx (γ.set i (.own (ds ++ [d])))) (hl : ds.length < 1000) (hi : γ[i]? = some (.own ds) := by rfl) (hN : X.N[i]? = some x := by rfl)
    (hv : Vis X.env.scope x := by first | exact Or.inl rfl | exact Or.inr (Or.inl rfl) | exact Or.inr (Or.inr rfl)) (hd : (x == ("__debug__" : Str)) = false := by decide) (hcd : (x == ("__classdict__" : Str)) = false := by decide)
    (hbase : attributeBase (.Name x p) "append" X.env (eval (.Name x p) X.env) = eval (.Name x p) X.env := by rfl)
    (hfew : ((backTo cpos (starEach [e] X.env)).all (fun x => !x.1) && (backToKw cpos (keywordEach [] X.env)).all (fun x => x.1.isSome) && decide (([e] : List Expr).length + ([] : List Keyword).length + (if ([] : List Keyword).isEmpty then 0 else 1) < 30)) = true := by rfl)
    (hline : (apos.endLine == cpos.line) = true := by rfl) (hst : starEach [e] X.env = (false, eval e X.env) :: starEach [] X.env := by rfl) (hplain : (backTo cpos (starEach [] X.env)).any (·.1) = false := by rfl)
    (hs : swapsWith (.Call (.Attribute (.Name x p) "append" apos) [e] [] cpos) none pos.line X.env = pure false := by rfl) : S1 R X γ (.Expr (.Call (.Attribute (.Name x p) "append" apos) [e] [] cpos) pos) P := fun H0 S0 σ H E W s tk n r bk ct z => by
  obtain ⟨l, vs, h1, _, h3, _⟩ := s.own i ds hi
  refine ws_of (ps_expr (pe_bm PySem.F.plainAttrs_list PySem.F.slot_list_append PySem.F.type_list_append mt_append (pe_var hN hv hd hcd) pa_wa hbase hfew hline hst hplain) hs) ⟨_, h1, .inl ⟨rfl, _, SqL.of h3⟩, (ea_cons he ea_nil hst) H0 S0 σ H _ s fun ws H1 r1 d1 => ?_⟩
  cases d1 with
  | cons d1 t =>
    cases t
    have s1 := s.mono r1
    obtain ⟨l', vs', a1, a2, a3, a4⟩ := s1.own i ds hi
    rw [h1] at a1
    cases a1
    refine ⟨l, vs', _, rfl, rfl, a3, Nat.lt_trans (by rw [dps_len a4]; exact hl) (by decide), ?_⟩
    exact n _ _ _ h (s1.mutO hi h1 (dps_app a4 (dps_one d1)))
theorem s1_extend (i : Nat) {x : Str} {e : Expr} {ds es : List D} {p apos cpos : Pos} (he : EF R X γ e es) (h : P.nx (γ.set i (.own (ds ++ es)))) (hl : ds.length + es.length ≤ 1000) (hi : γ[i]? = some (.own ds) := by rfl) (hN : X.N[i]? = some x := by rfl)
    (hv : Vis X.env.scope x := by first | exact Or.inl rfl | exact Or.inr (Or.inl rfl) | exact Or.inr (Or.inr rfl)) (hd : (x == ("__debug__" : Str)) = false := by decide) (hcd : (x == ("__classdict__" : Str)) = false := by decide)
    (hbase : attributeBase (.Name x p) "extend" X.env (eval (.Name x p) X.env) = eval (.Name x p) X.env := by rfl)
    (hfew : ((backTo cpos (starEach [e] X.env)).all (fun x => !x.1) && (backToKw cpos (keywordEach [] X.env)).all (fun x => x.1.isSome) && decide (([e] : List Expr).length + ([] : List Keyword).length + (if ([] : List Keyword).isEmpty then 0 else 1) < 30)) = true := by rfl)
    (hline : (apos.endLine == cpos.line) = true := by rfl) (hst : starEach [e] X.env = (false, eval e X.env) :: starEach [] X.env := by rfl) (hplain : (backTo cpos (starEach [] X.env)).any (·.1) = false := by rfl)
    (hs : swapsWith (.Call (.Attribute (.Name x p) "extend" apos) [e] [] cpos) none pos.line X.env = pure false := by rfl) : S1 R X γ (.Expr (.Call (.Attribute (.Name x p) "extend" apos) [e] [] cpos) pos) P := fun H0 S0 σ H E W s tk n r bk ct z => by
  obtain ⟨l, vs, h1, _, h3, _⟩ := s.own i ds hi
  refine ws_of (ps_expr (pe_bm PySem.F.plainAttrs_list PySem.F.slot_list_extend PySem.F.type_list_extend mt_extend (pe_var hN hv hd hcd) pa_wa hbase hfew hline hst hplain) hs) ⟨_, h1, .inl ⟨rfl, _, SqL.of h3⟩, wa_of (pa_cons pe_we pa_wa hst) (he H0 S0 σ H _ s fun p2 ws H1 n1 r1 g1 d1 => wa_of pa_nil ?_)⟩
  have d2 : DtAll X.K (off (Sx S0 γ σ) H1) ws es := dps_keep (off_keep (Keep.refl H1) fun a z => .inr z) _ _ d1
  have s1 := s.mono r1
  obtain ⟨l', vs', a1, a2, a3, a4⟩ := s1.own i ds hi
  rw [h1] at a1
  cases a1
  refine ⟨l, _, vs', _, rfl, rfl, a3, g1, Nat.le_of_lt (small1000 (by rw [dps_len a4, dps_len d2]; exact hl)), ?_⟩
  exact n _ _ _ h (s1.mutO hi h1 (dps_app a4 d2))
theorem s1_pop (i : Nat) {x : Str} {ds : List D} {p apos cpos : Pos} (hne : ds ≠ []) (h : P.nx (γ.set i (.own ds.dropLast))) (hi : γ[i]? = some (.own ds) := by rfl) (hN : X.N[i]? = some x := by rfl)
    (hv : Vis X.env.scope x := by first | exact Or.inl rfl | exact Or.inr (Or.inl rfl) | exact Or.inr (Or.inr rfl)) (hd : (x == ("__debug__" : Str)) = false := by decide) (hcd : (x == ("__classdict__" : Str)) = false := by decide)
    (hbase : attributeBase (.Name x p) "pop" X.env (eval (.Name x p) X.env) = eval (.Name x p) X.env := by rfl) (hline : (apos.endLine == cpos.line) = true := by rfl)
    (hs : swapsWith (.Call (.Attribute (.Name x p) "pop" apos) [] [] cpos) none pos.line X.env = pure false := by rfl) : S1 R X γ (.Expr (.Call (.Attribute (.Name x p) "pop" apos) [] [] cpos) pos) P := fun H0 S0 σ H E W s tk n r bk ct z => by
  obtain ⟨l, vs, h1, _, h3, h4⟩ := s.own i ds hi
  have hlen := dps_len h4
  have hpos : 0 < vs.length := by
    rw [hlen]
    exact List.length_pos_iff.mpr hne
  have hlast : vs[vs.length - 1]? = some vs[vs.length - 1] := List.getElem?_eq_getElem (by omega)
  have hdl : DtAll X.K (off (Sx S0 γ σ) H) vs.dropLast ds.dropLast := by
    rw [List.dropLast_eq_take, List.dropLast_eq_take, hlen]
    exact dps_take _ h4
  exact ws_of (ps_expr (pe_bm0 PySem.F.plainAttrs_list PySem.F.slot_list_pop PySem.F.type_list_pop mt_pop (pe_var hN hv hd hcd) hbase hline) hs) ⟨_, h1, .inl ⟨rfl, _, SqL.of h3⟩, l, vs, _, rfl, rfl, h3, hlast, n _ _ _ h (s.mutO hi h1 hdl)⟩
/-- x[j] = e -/
theorem s1_setIx (i : Nat) {x : Str} {e ix : Expr} {ds : List D} {d : D} {k : Int} {j : Nat} {p p2 : Pos} (he : EE R X γ e d) (hx : EE R X γ ix (.int k)) (hj : ixN ds.length k = some j) (h : P.nx (γ.set i (.own (ds.set j d)))) (hi : γ[i]? = some (.own ds) := by rfl) (hN : X.N[i]? = some x := by rfl)
    (hv : Vis X.env.scope x := by first | exact Or.inl rfl | exact Or.inr (Or.inl rfl) | exact Or.inr (Or.inr rfl)) (hd : (x == ("__debug__" : Str)) = false := by decide) (hcd : (x == ("__classdict__" : Str)) = false := by decide)
    (ha : ∀ v, assign (.Subscript (.Name x p) ix p2) X.env v = (do
      let ov ← holding [v] (eval (.Name x p) X.env)
      let iv ← holding [v, ov] (eval ix X.env)
      standAt p2
      holding [v, ov, iv] (setItem ov iv v)
      release [v, ov, iv] []) := by intro _; rfl)
    (hs : swapsWithSole [.Subscript (.Name x p) ix p2] e pos.line X.env = pure false := by rfl) (hw : swappedStores [.Subscript (.Name x p) ix p2] e X.env = pure none := by rfl)
    (h1 : (assignEach [.Subscript (.Name x p) ix p2] X.env).map (·.2) = [assign (.Subscript (.Name x p) ix p2) X.env] := by rfl) : S1 R X γ (.Assign [.Subscript (.Name x p) ix p2] e pos) P := fun H0 S0 σ H E W s tk n r bk ct z =>
  ws_of (ps_asg pe_we (pg_sub (pe_var hN hv hd hcd) pe_we set_list ha) hs hw h1) (he H0 S0 σ H _ s fun v H1 r1 d1 => by
    have s1 := s.mono r1
    obtain ⟨l, vs, e1, _, _, _⟩ := s1.own i ds hi
    refine ⟨_, e1, hx H0 S0 σ H1 _ s1 fun u H2 r2 d2 => ?_⟩
    cases d2
    have s2 := s1.mono r2
    obtain ⟨l', vs', a1, _, a3, a4⟩ := s2.own i ds hi
    rw [e1] at a1
    cases a1
    exact ⟨l, vs', k, j, rfl, rfl, a3, by rw [dps_len a4]; exact hj, n _ _ _ h (s2.mutO hi e1 (dps_set j a4 (dt_up r2 d1)))⟩)
/-! ### defs -/
/-- a def by data: what comes (Val), or the class that is raised (Exc) -/
def spD (K : PySem.W.Frag) (n : Nat) (Val : List D → D → Prop) (Exc : List D → Value → Prop) : Sp := fun vs H Q E => vs.length = n ∧ ∃ (S : Addr → Prop) (ds : List D), (∀ a, S a → H a ≠ none) ∧ DtAll K (off S H) vs ds ∧
  ((∃ d, Val ds d ∧ ∀ v H2, Same H H2 → Dt K (off S H2) v d → Q v H2) ∨ (∃ c, Exc ds c ∧ ∀ H2, Same H H2 → E c none H2))
/-- a def of the text that keeps such a promise -/
structure Fn (P : Program) (w : World) (K : PySem.W.Frag) (mg : Str → Option Value) (base : Heap) (x : Str) (k n : Nat) (Val : List D → D → Prop) (Exc : List D → Value → Prop) : Prop where
  ok : ∃ (f : Addr) (fd : FuncData) (ps : List Str), FnOk P w K mg base (L2N.CX P w) k f fd ps (spD K n Val Exc) ∧ mg x = some (.ref f) ∧ PySem.W.keepIn K (.ref f) = true ∧ Binds K fd ps []
theorem Fn.mono {Pr : Program} {w : World} {K : PySem.W.Frag} {mg : Str → Option Value} {base : Heap} {x : Str} {k k' n : Nat} {Val : List D → D → Prop} {Exc : List D → Value → Prop} (F : Fn Pr w K mg base x k n Val Exc) (h : k ≤ k') : Fn Pr w K mg base x k' n Val Exc := by
  obtain ⟨f, fd, ps, h1, h2, h3, h4⟩ := F.ok
  exact ⟨f, fd, ps, h1.mono h, h2, h3, h4⟩
theorem sx_dom {K : PySem.W.Frag} {H0 H : Hp} {S0 : Addr → Prop} {σ : L2.St} (s : SI R K H0 S0 γ σ H) : ∀ a, Sx S0 γ σ a → H a ≠ none := fun a h => s.there h
/-- f(..), nothing raised -/
theorem ee_call {x : Str} {k n : Nat} {Val : List D → D → Prop} {Exc : List D → Value → Prop} {e : Expr} {es : List Expr} {p : Pos} {ds : List D} {d : D} (F : Fn X.prog X.w X.K X.mg X.base x k n Val Exc) (hr : Room k X.A) (ha : EA R X γ (e :: es) ds) (hv : Val ds d) (hn : ds.length = n := by rfl) (hg : Gl X x := by rfl)
    (hdb : (x == ("__debug__" : Str)) = false := by decide) (he : starEach (e :: es) X.env = (false, eval e X.env) :: starEach es X.env := by rfl) (hpl : (backTo pos (starEach es X.env)).any (·.1) = false := by rfl) :
    EE R X γ (.Call (.Name x p) (e :: es) [] pos) d := fun H0 S0 σ H Q s kk => by
  obtain ⟨f, fd, ps, h1, h2, h3, h4⟩ := F.ok
  refine we_of (pe_call h1 hr hg h2 h3 h4 .nil passN pa_wa hdb he hpl) (ha H0 S0 σ H _ s fun vs H1 r1 d1 => ?_)
  rw [List.append_nil]
  refine ⟨by rw [dps_len d1]; exact hn, Sx S0 γ σ, ds, sx_dom (s.mono r1), d1, .inl ⟨d, hv, fun v H2 sm dv => kk v H2 (Rel.more r1 sm) dv⟩⟩
/-- f(), nothing raised -/
theorem ee_call0 {x : Str} {k : Nat} {Val : List D → D → Prop} {Exc : List D → Value → Prop} {p : Pos} {d : D} (F : Fn X.prog X.w X.K X.mg X.base x k 0 Val Exc) (hr : Room k X.A) (hv : Val [] d) (hg : Gl X x := by rfl) (hdb : (x == ("__debug__" : Str)) = false := by decide) :
    EE R X γ (.Call (.Name x p) [] [] pos) d := fun H0 S0 σ H Q s kk => by
  obtain ⟨f, fd, ps, h1, h2, h3, h4⟩ := F.ok
  refine we_of (pe_call0 h1 hr hg h2 h3 h4 .nil passN hdb) ?_
  exact ⟨rfl, Sx S0 γ σ, [], sx_dom s, .nil, .inl ⟨d, hv, fun v H2 sm dv => kk v H2 (Rel.more s.ref sm) dv⟩⟩
/-- f(..) as a statement: the class that is raised -/
theorem s1_raises {x : Str} {k n : Nat} {Val : List D → D → Prop} {Exc : List D → Value → Prop} {e : Expr} {es : List Expr} {p cp : Pos} {ds : List D} {c : Value} (F : Fn X.prog X.w X.K X.mg X.base x k n Val Exc) (hr : Room k X.A) (ha : EA R X γ (e :: es) ds) (hv : Exc ds c) (h : P.rz c) (hn : ds.length = n := by rfl) (hg : Gl X x := by rfl)
    (hdb : (x == ("__debug__" : Str)) = false := by decide) (he : starEach (e :: es) X.env = (false, eval e X.env) :: starEach es X.env := by rfl) (hpl : (backTo cp (starEach es X.env)).any (·.1) = false := by rfl) (hs : swapsWith (.Call (.Name x p) (e :: es) [] cp) none pos.line X.env = pure false := by rfl) :
    S1 R X γ (.Expr (.Call (.Name x p) (e :: es) [] cp) pos) P := fun H0 S0 σ H E W s tk nn r bk ct z => by
  obtain ⟨f, fd, ps, h1, h2, h3, h4⟩ := F.ok
  refine ws_of (ps_expr (pe_call (E := W) h1 hr hg h2 h3 h4 .nil (L2N.passes_call tk fun _ _ _ _ h => h) pa_wa hdb he hpl) hs) (ha H0 S0 σ H _ s fun vs H1 r1 d1 => ?_)
  rw [List.append_nil]
  exact ⟨by rw [dps_len d1]; exact hn, Sx S0 γ σ, ds, sx_dom (s.mono r1), d1, .inr ⟨c, hv, fun H2 sm => z c H2 h (Rel.trans s.rel (Rel.more r1 sm))⟩⟩
/-- return f(..): the class that is raised -/
theorem s1_retRaises {x : Str} {k n : Nat} {Val : List D → D → Prop} {Exc : List D → Value → Prop} {e : Expr} {es : List Expr} {p cp : Pos} {ds : List D} {c : Value} (F : Fn X.prog X.w X.K X.mg X.base x k n Val Exc) (hr : Room k X.A) (ha : EA R X γ (e :: es) ds) (hv : Exc ds c) (h : P.rz c) (hn : ds.length = n := by rfl) (hg : Gl X x := by rfl)
    (hdb : (x == ("__debug__" : Str)) = false := by decide) (he : starEach (e :: es) X.env = (false, eval e X.env) :: starEach es X.env := by rfl) (hpl : (backTo cp (starEach es X.env)).any (·.1) = false := by rfl) :
    S1 R X γ (.Return (some (.Call (.Name x p) (e :: es) [] cp)) pos) P := fun H0 S0 σ H E W s tk nn r bk ct z => by
  obtain ⟨f, fd, ps, h1, h2, h3, h4⟩ := F.ok
  refine ws_of (ps_ret (pe_call (E := W) h1 hr hg h2 h3 h4 .nil (L2N.passes_call tk fun _ _ _ _ h => h) pa_wa hdb he hpl)) (ha H0 S0 σ H _ s fun vs H1 r1 d1 => ?_)
  rw [List.append_nil]
  exact ⟨by rw [dps_len d1]; exact hn, Sx S0 γ σ, ds, sx_dom (s.mono r1), d1, .inr ⟨c, hv, fun H2 sm => z c H2 h (Rel.trans s.rel (Rel.more r1 sm))⟩⟩
/-- what is written of an own class of errors -/
structure Err (K : PySem.W.Frag) (mg : Str → Option Value) (x : Str) (C : Addr) : Prop where
  g : mg x = some (.ref C)
  x : PySem.W.excIn K C He.veBase "ValueError.__new__" = true
  k : PySem.W.keepIn K (.ref C) = true
  b : PySem.W.subIn K (.ref C) (.type "BaseException") = some true
  t : PySem.W.typeIn K (.ref C) = some (.type "type")
theorem s1_raise {x m : Str} {C : Addr} {j : Nat} {p p2 cp : Pos} (T : Err X.K X.mg x C) (h : P.rz (.ref C)) (hc : X.calm = true) (hg : Gl X x := by rfl) (hdb : (x == ("__debug__" : Str)) = false := by decide) :
    S1 R X γ (.Raise (some (.Call (.Name x p) [.Constant (.str m) j p2] [] cp)) none pos) P := fun H0 S0 σ H E W s tk nn r bk ct z =>
  ws_of (L2N.ps_raise hc tk (L2N.pmk_own PySem.F.excBase_ValueError T.x T.g T.k (raises_own T.b T.t) hg hdb)) (z _ H h s.rel)
end
/-- the slots at a def's entry -/
theorem si_startR {R : Hp → Hp → Prop} [Rel R] {K : PySem.W.Frag} {H : Hp} {Sv : Addr → Prop} {N : List Str} {vs : List V} {ds : List D} {n : Nat} (hR : R H H) (hS : ∀ a, Sv a → H a ≠ none) (hd : DtAll K (off Sv H) vs ds) (hl : vs.length = n) (hdl : ds.length = n) : SI R K H Sv (ds.map .dat ++ List.replicate (N.length - n) .no) (L2.start N vs) H := by
  have flat : ∀ {i : Nat} {x : Sl}, (ds.map Sl.dat ++ List.replicate (N.length - n) .no)[i]? = some x → (∃ d, ds[i]? = some d ∧ x = .dat d) ∨ (ds.length ≤ i ∧ i < N.length - n + ds.length ∧ x = .no) := fun {i x} h => by
    rw [List.getElem?_append] at h
    split at h
    · rw [List.getElem?_map] at h
      cases q : ds[i]? with
      | none => rw [q] at h; cases h
      | some d =>
        rw [q] at h
        cases h
        exact .inl ⟨d, rfl, rfl⟩
    · rename_i hge
      rw [List.length_map] at hge
      rw [List.getElem?_replicate] at h
      split at h
      · rename_i hlt
        rw [List.length_map] at hlt
        cases h
        exact .inr ⟨by omega, by omega, rfl⟩
      · cases h
  have nofp : ∀ i a, ¬ Fp (ds.map Sl.dat ++ List.replicate (N.length - n) .no) (L2.start N vs) i a := fun i a ⟨x, v, h1, _, h3⟩ => by
    rcases flat h1 with ⟨d, _, rfl⟩ | ⟨_, _, rfl⟩
    · exact h3
    · exact h3
  have sno : ∀ a, Sx Sv (ds.map .dat ++ List.replicate (N.length - n) .no) (L2.start N vs) a → Sv a := fun a z => by
    rcases z with z | ⟨i, f⟩
    · exact z
    · exact absurd f (nofp i a)
  refine ⟨hR, hS, ?_, fun i x h => ?_, fun i a f => absurd f (nofp i a), fun i j a f _ => absurd f (nofp i a)⟩
  · unfold L2.start
    simp only [List.length_append, List.length_map, List.length_replicate, hl, hdl]
  · rcases flat h with ⟨d, q, rfl⟩ | ⟨h1, h2, rfl⟩
    · obtain ⟨v, e1, e2⟩ := dps_get hd q
      refine ⟨some v, ?_, v, rfl, dp_keep (off_keep (Keep.refl H) sno) _ _ e2⟩
      unfold L2.start
      rw [List.getElem?_append_left (by rw [List.length_map]; exact (List.getElem?_eq_some_iff.mp e1).1), List.getElem?_map, e1]
      rfl
    · refine ⟨none, ?_, trivial⟩
      unfold L2.start
      rw [List.getElem?_append_right (by rw [List.length_map]; omega), List.getElem?_replicate, if_pos (by rw [List.length_map]; omega)]
theorem si_start {K : PySem.W.Frag} {H : Hp} {Sv : Addr → Prop} {N : List Str} {vs : List V} {ds : List D} {n : Nat} (hS : ∀ a, Sv a → H a ≠ none) (hd : DtAll K (off Sv H) vs ds) (hl : vs.length = n) (hdl : ds.length = n) : SI Same K H Sv (ds.map .dat ++ List.replicate (N.length - n) .no) (L2.start N vs) H := si_startR (Same.refl H) hS hd hl hdl
/-- a def's body by data -/
theorem fn_mk {Pr : Program} {w : World} {K : PySem.W.Frag} {mg : Str → Option Value} {base : Heap} {x : Str} {st : Stmt} {f : Addr} {fd : FuncData} {N ps : List Str} {k n : Nat} {Val : List D → D → Prop} {Exc : List D → Value → Prop}
    (F : FunD K x x (defArgs st) (defBody st) (defScope st) [] [] f fd) (S : FnScope N ps (defScope st)) (hm : mg x = some (.ref f)) (hb : Binds K fd ps []) (hns : base.NoSeer) (htr : Pr.given.tree = none) (hk : 40 ≤ k) (hn : ps.length = n)
    (body : ∀ (cdv : Value) (A : Around) (outer : List Env) (s : Shared) (H : Hp) (E : XK) (X : Cx), X = cxOf (L2N.CX Pr w) Pr w K mg base N x (defScope st) f cdv A outer s H E → Gx X k → PassesOwn (model X.prog X.w) X.A X.env X.xe → ∀ ds : List D, ds.length = n →
      (∀ d, Val ds d → SS Same X (ds.map .dat ++ List.replicate (N.length - n) .no) (defBody st) { rt := fun e => e = d, nx := fun _ => d = .none }) ∧
      (∀ c, Exc ds c → SS Same X (ds.map .dat ++ List.replicate (N.length - n) .no) (defBody st) { rz := fun e => e = c })) : Fn Pr w K mg base x (k + 1) n Val Exc := by
  refine ⟨f, fd, ps, F.ok (CX := L2N.CX Pr w) S (fun vs H Q E h => by rw [h.1, hn]) (fun cdv A outer s H vs Q E hr h => ?_), hm, F.kp, hb⟩
  obtain ⟨hl, Sv, ds, hS, hd, hq⟩ := h
  let X : Cx := cxOf (L2N.CX Pr w) Pr w K mg base N x (defScope st) f cdv A outer s H E
  have hdl : ds.length = n := by rw [← dps_len hd, hl]
  have gx : Gx X k := ⟨hr, hk, hns, htr, ⟨_, _, rfl, S.gen, S.co, rfl, rfl⟩⟩
  have tk : L2N.Takes X (fun c d _ H' => E c d H') := L2N.takes_of rfl rfl rfl rfl
  have pss : PassesOwn (model X.prog X.w) X.A X.env X.xe := passes_of rfl
  obtain ⟨b1, b2⟩ := body cdv A outer s H E X rfl gx pss ds hdl
  have si : SI Same K H Sv (ds.map .dat ++ List.replicate (N.length - n) .no) (L2.start N vs) H := si_start hS hd hl hdl
  refine ⟨wss X (defBody st), pss_wss, ?_⟩
  rcases hq with ⟨d, hv, hk⟩ | ⟨c, hv, hk⟩
  · exact b1 d hv H Sv _ H _ E si tk (fun γ' σ' H' e s' => hk .non H' s'.rel (by rw [show d = .none from e]; exact .non)) ⟨fun e v H' he r' dv => hk v H' r' (by rw [← show e = d from he]; exact dv), fun _ _ _ _ h => h.elim⟩ (fun _ _ _ h _ => h.elim) (fun _ _ _ h _ => h.elim) fun c H' h _ => h.elim
  · exact b2 c hv H Sv _ H _ E si tk (fun γ' σ' H' e s' => e.elim) ⟨fun e v H' he r' dv => he.elim, fun _ _ _ _ h => h.elim⟩ (fun _ _ _ h _ => h.elim) (fun _ _ _ h _ => h.elim) fun e H' h r' => by
      rw [show e = c from h]
      exact hk H' r'
/-! ### defs that bring a new list -/
def spN (K : PySem.W.Frag) (n : Nat) (Val : List D → D → Prop) (Exc : List D → Value → Prop) : Sp := fun vs H Q E => vs.length = n ∧ ∃ (S : Addr → Prop) (ds : List D), (∀ a, S a → H a ≠ none) ∧ DtAll K (off S H) vs ds ∧
  ((∃ es, Val ds (.list es) ∧ ∀ p ws H2, Same H H2 → H p = none → H2 p = some (.lst ws) → DtAll K (off (fun a => a = p ∨ S a) H2) ws es → Q (.ref p) H2) ∨ (∃ c, Exc ds c ∧ ∀ H2, Same H H2 → E c none H2))
structure FnN (P : Program) (w : World) (K : PySem.W.Frag) (mg : Str → Option Value) (base : Heap) (x : Str) (k n : Nat) (Val : List D → D → Prop) (Exc : List D → Value → Prop) : Prop where
  ok : ∃ (f : Addr) (fd : FuncData) (ps : List Str), FnOk P w K mg base (L2N.CX P w) k f fd ps (spN K n Val Exc) ∧ mg x = some (.ref f) ∧ PySem.W.keepIn K (.ref f) = true ∧ Binds K fd ps []
  lst : ∀ ds d, Val ds d → ∃ es, d = .list es
theorem FnN.fn {Pr : Program} {w : World} {K : PySem.W.Frag} {mg : Str → Option Value} {base : Heap} {x : Str} {k n : Nat} {Val : List D → D → Prop} {Exc : List D → Value → Prop} (F : FnN Pr w K mg base x k n Val Exc) : Fn Pr w K mg base x k n Val Exc := by
  obtain ⟨f, fd, ps, h1, h2, h3, h4⟩ := F.ok
  refine ⟨f, fd, ps, h1.imp fun vs H Q E h => ?_, h2, h3, h4⟩
  obtain ⟨hl, S, ds, hS, hd, h⟩ := h
  refine ⟨hl, S, ds, hS, hd, ?_⟩
  rcases h with ⟨d, hv, hq⟩ | h
  · obtain ⟨es, rfl⟩ := F.lst ds d hv
    refine .inl ⟨es, hv, fun p ws H2 sm n e dt => hq _ H2 sm (.lst (.inl (off_of (fun z => hS p z n) e)) (dps_keep (off_keep (Keep.refl H2) fun a z => .inr z) _ _ dt))⟩
  · exact .inr h
section
variable {R : Hp → Hp → Prop} [RelC R] {X : Cx} {γ : List Sl} {pos : Pos}
theorem ef_call {x : Str} {k n : Nat} {Val : List D → D → Prop} {Exc : List D → Value → Prop} {e : Expr} {es : List Expr} {p : Pos} {ds rs : List D} (F : FnN X.prog X.w X.K X.mg X.base x k n Val Exc) (hr : Room k X.A) (ha : EA R X γ (e :: es) ds) (hv : Val ds (.list rs)) (hn : ds.length = n := by rfl) (hg : Gl X x := by rfl)
    (hdb : (x == ("__debug__" : Str)) = false := by decide) (he : starEach (e :: es) X.env = (false, eval e X.env) :: starEach es X.env := by rfl) (hpl : (backTo pos (starEach es X.env)).any (·.1) = false := by rfl) : EF R X γ (.Call (.Name x p) (e :: es) [] pos) rs := fun H0 S0 σ H Q s kk => by
  obtain ⟨f, fd, ps, h1, h2, h3, h4⟩ := F.ok
  refine we_of (pe_call (E := E0) h1 hr hg h2 h3 h4 .nil passN pa_wa hdb he hpl) (ha H0 S0 σ H _ s fun vs H1 r1 d1 => ?_)
  rw [List.append_nil]
  exact ⟨by rw [dps_len d1]; exact hn, Sx S0 γ σ, ds, sx_dom (s.mono r1), d1, .inl ⟨rs, hv, fun q ws H2 sm n2 e2 d2 => kk q ws H2 (Rel.free r1 n2) (Rel.more r1 sm) e2 d2⟩⟩
/-- a list just come, one item appended, let go -/
theorem s1_appendTmp {o e : Expr} {ds : List D} {d : D} {apos cpos : Pos} {P : Po} (ho : EF R X γ o ds) (he : EE R X γ e d) (h : P.nx γ) (hl : ds.length < 1000)
    (hbase : attributeBase o "append" X.env (eval o X.env) = eval o X.env := by rfl)
    (hfew : ((backTo cpos (starEach [e] X.env)).all (fun x => !x.1) && (backToKw cpos (keywordEach [] X.env)).all (fun x => x.1.isSome) && decide (([e] : List Expr).length + ([] : List Keyword).length + (if ([] : List Keyword).isEmpty then 0 else 1) < 30)) = true := by rfl)
    (hline : (apos.endLine == cpos.line) = true := by rfl) (hst : starEach [e] X.env = (false, eval e X.env) :: starEach [] X.env := by rfl) (hplain : (backTo cpos (starEach [] X.env)).any (·.1) = false := by rfl)
    (hs : swapsWith (.Call (.Attribute o "append" apos) [e] [] cpos) none pos.line X.env = pure false := by rfl) : S1 R X γ (.Expr (.Call (.Attribute o "append" apos) [e] [] cpos) pos) P := fun H0 S0 σ H E W s tk n r bk ct z => by
  refine ws_of (ps_expr (pe_bm PySem.F.plainAttrs_list PySem.F.slot_list_append PySem.F.type_list_append mt_append pe_we pa_wa hbase hfew hline hst hplain) hs) (ho H0 S0 σ H _ s fun l vs H1 n1 r1 e1 d1 => ⟨.inl ⟨rfl, _, SqL.of e1⟩, (ea_cons he ea_nil hst) H0 S0 σ H1 _ (s.mono r1) fun ws H2 r2 d2 => ?_⟩)
  cases d2 with
  | cons d2 t =>
    cases t
    have e2 : H2 l = some (.lst vs) := Rel.keep r2 _ _ e1 fun _ z => nomatch z
    refine ⟨l, vs, _, rfl, rfl, e2, Nat.lt_trans (by rw [dps_len d1]; exact hl) (by decide), ?_⟩
    exact n γ σ _ h (s.mono (Rel.chgL (Rel.trans r1 r2) n1 ⟨_, e2⟩))
end
theorem fnn_mk {Pr : Program} {w : World} {K : PySem.W.Frag} {mg : Str → Option Value} {base : Heap} {x : Str} {st : Stmt} {f : Addr} {fd : FuncData} {N ps : List Str} {k n : Nat} {Val : List D → D → Prop} {Exc : List D → Value → Prop} (hlst : ∀ ds d, Val ds d → ∃ es, d = .list es)
    (F : FunD K x x (defArgs st) (defBody st) (defScope st) [] [] f fd) (S : FnScope N ps (defScope st)) (hm : mg x = some (.ref f)) (hb : Binds K fd ps []) (hns : base.NoSeer) (htr : Pr.given.tree = none) (hk : 40 ≤ k) (hn : ps.length = n)
    (body : ∀ (cdv : Value) (A : Around) (outer : List Env) (s : Shared) (H : Hp) (E : XK) (X : Cx), X = cxOf (L2N.CX Pr w) Pr w K mg base N x (defScope st) f cdv A outer s H E → Gx X k → PassesOwn (model X.prog X.w) X.A X.env X.xe → ∀ ds : List D, ds.length = n →
      (∀ d, Val ds d → SS Same X (ds.map .dat ++ List.replicate (N.length - n) .no) (defBody st) { rn := fun es => .list es = d }) ∧
      (∀ c, Exc ds c → SS Same X (ds.map .dat ++ List.replicate (N.length - n) .no) (defBody st) { rz := fun e => e = c })) : FnN Pr w K mg base x (k + 1) n Val Exc := by
  refine ⟨⟨f, fd, ps, F.ok (CX := L2N.CX Pr w) S (fun vs H Q E h => by rw [h.1, hn]) (fun cdv A outer s H vs Q E hr h => ?_), hm, F.kp, hb⟩, hlst⟩
  obtain ⟨hl, Sv, ds, hS, hd, hq⟩ := h
  let X : Cx := cxOf (L2N.CX Pr w) Pr w K mg base N x (defScope st) f cdv A outer s H E
  have hdl : ds.length = n := by rw [← dps_len hd, hl]
  have gx : Gx X k := ⟨hr, hk, hns, htr, ⟨_, _, rfl, S.gen, S.co, rfl, rfl⟩⟩
  have tk : L2N.Takes X (fun c d _ H' => E c d H') := L2N.takes_of rfl rfl rfl rfl
  obtain ⟨b1, b2⟩ := body cdv A outer s H E X rfl gx (passes_of rfl) ds hdl
  refine ⟨wss X (defBody st), pss_wss, ?_⟩
  rcases hq with ⟨es, hv, hk⟩ | ⟨c, hv, hk⟩
  · exact b1 _ hv H Sv _ H _ E (si_start hS hd hl hdl) tk (fun _ _ _ h _ => h.elim) ⟨fun _ _ _ h => h.elim, fun es' p vs' H' he r' n' e' d' => hk p vs' H' r' n' e' (by
      have e : PyData.list es' = PyData.list es := he
      injection e with e
      rw [← e]
      exact d')⟩ (fun _ _ _ h _ => h.elim) (fun _ _ _ h _ => h.elim) fun c H' h _ => h.elim
  · exact b2 c hv H Sv _ H _ E (si_start hS hd hl hdl) tk (fun γ' σ' H' e s' => e.elim) ⟨fun e v H' he r' dv => he.elim, fun _ _ _ _ h => h.elim⟩ (fun _ _ _ h _ => h.elim) (fun _ _ _ h _ => h.elim) fun e H' h r' => by
      rw [show e = c from h]
      exact hk H' r'
end An

/-! Built-ins by data. -/
namespace An
open PySem PySem.Spec PyProof.Rows L2
section
variable {R : Hp → Hp → Prop} [RelC R] {X : Cx} {γ : List Sl} {pos p : Pos} {a b : Expr}
def lenD : D → Option Nat
  | .list ds => some ds.length
  | .tuple ds => some ds.length
  | _ => none
theorem cd_len {x : D} {n : Nat} (h : lenD x = some n) : CallD X (.builtin "len") [x] (.int n) := ⟨_, call_len_seq, fun H vs Q hd k => by
  cases hd with
  | cons d t =>
    cases t
    cases d with
    | lst h1 h2 =>
      cases h
      refine ⟨_, _, rfl, .inl (.inl h1), ?_⟩
      rw [dps_len h2]
      exact k _ fun _ => .int _
    | tup h1 h2 =>
      cases h
      refine ⟨_, _, rfl, .inr h1, ?_⟩
      rw [dps_len h2]
      exact k _ fun _ => .int _
    | _ => cases h⟩
theorem ee_len {x : D} {n : Nat} (ha : EE R X γ a x) (h : lenD x = some n) (hm : X.mg "len" = none) (hg : Gl X "len" := by rfl) (he : starEach [a] X.env = (false, eval a X.env) :: starEach [] X.env := by rfl) (hpl : (backTo pos (starEach [] X.env)).any (·.1) = false := by rfl) :
    EE R X γ (.Call (.Name "len" p) [a] [] pos) (.int n) := ee_callB (ea_cons ha ea_nil he) (cd_len h) hm PySem.boot_len hg (by decide) (by decide) he hpl
/-- len of a list of one's own -/
theorem ee_lenO (i : Nat) {x : Str} {ds : List D} {p2 : Pos} (hm : X.mg "len" = none) (hi : γ[i]? = some (.own ds) := by rfl) (hg : Gl X "len" := by rfl) (hN : X.N[i]? = some x := by rfl) (hv : Vis X.env.scope x := by first | exact Or.inl rfl | exact Or.inr (Or.inl rfl) | exact Or.inr (Or.inr rfl))
    (hd : (x == ("__debug__" : Str)) = false := by decide) (hcd : (x == ("__classdict__" : Str)) = false := by decide) (he : starEach [.Name x p2] X.env = (false, eval (.Name x p2) X.env) :: starEach [] X.env := by rfl) (hpl : (backTo pos (starEach [] X.env)).any (·.1) = false := by rfl) :
    EE R X γ (.Call (.Name "len" p) [.Name x p2] [] pos) (.int ds.length) := fun H0 S0 σ H Q s k => by
  obtain ⟨l, vs, h1, _, h3, h4⟩ := s.own i ds hi
  refine we_of (pe_callB call_len_seq hg hm PySem.boot_len (pa_cons (pe_var hN hv hd hcd) pa_nil he) (by decide) (by decide) he hpl) ⟨_, h1, _, _, rfl, .inl (SqL.of h3), ?_⟩
  rw [dps_len h4]
  exact k _ H (s.ref) (.int _)
theorem ee_abs {i : Int} (ha : EE R X γ a (.int i)) (hm : X.mg "abs" = none) (hg : Gl X "abs" := by rfl) (he : starEach [a] X.env = (false, eval a X.env) :: starEach [] X.env := by rfl) (hpl : (backTo pos (starEach [] X.env)).any (·.1) = false := by rfl) :
    EE R X γ (.Call (.Name "abs" p) [a] [] pos) (.int (i.natAbs : Nat)) := ee_callB (ea_cons ha ea_nil he) ⟨_, call_abs, fun H vs Q hd k => by
  cases hd with
  | cons d t =>
    cases t
    cases d
    refine ⟨i, rfl, ?_⟩
    have e : (if i < 0 then -i else i) = (i.natAbs : Nat) := by
      split <;> omega
    rw [e]
    exact k _ fun _ => .int _⟩ hm PyProof.Rows.boot_abs hg (by decide) (by decide) he hpl
theorem ee_max {i j : Int} (ha : EE R X γ a (.int i)) (hb : EE R X γ b (.int j)) (hc : X.calm = true) (hm : X.mg "max" = none) (hg : Gl X "max" := by rfl) (he : starEach [a, b] X.env = (false, eval a X.env) :: starEach [b] X.env := by rfl) (he2 : starEach [b] X.env = (false, eval b X.env) :: starEach [] X.env := by rfl) (hpl : (backTo pos (starEach [b] X.env)).any (·.1) = false := by rfl) :
    EE R X γ (.Call (.Name "max" p) [a, b] [] pos) (.int (max i j)) := ee_callB (ea_cons ha (ea_cons hb ea_nil he2) he) ⟨_, call_max2 hc, fun H vs Q hd k => by
  cases hd with
  | cons d t =>
    cases t with
    | cons d2 t =>
      cases t
      cases d
      cases d2
      refine ⟨i, j, rfl, ?_⟩
      have e : (if j > i then j else i) = max i j := by
        split <;> omega
      rw [e]
      exact k _ fun _ => .int _⟩ hm PyProof.Rows.boot_max hg (by decide) (by decide) he hpl
theorem ee_min {i j : Int} (ha : EE R X γ a (.int i)) (hb : EE R X γ b (.int j)) (hc : X.calm = true) (hm : X.mg "min" = none) (hg : Gl X "min" := by rfl) (he : starEach [a, b] X.env = (false, eval a X.env) :: starEach [b] X.env := by rfl) (he2 : starEach [b] X.env = (false, eval b X.env) :: starEach [] X.env := by rfl) (hpl : (backTo pos (starEach [b] X.env)).any (·.1) = false := by rfl) :
    EE R X γ (.Call (.Name "min" p) [a, b] [] pos) (.int (min i j)) := ee_callB (ea_cons ha (ea_cons hb ea_nil he2) he) ⟨_, call_min2 hc, fun H vs Q hd k => by
  cases hd with
  | cons d t =>
    cases t with
    | cons d2 t =>
      cases t
      cases d
      cases d2
      refine ⟨i, j, rfl, ?_⟩
      have e : (if j < i then j else i) = min i j := by
        split <;> omega
      rw [e]
      exact k _ fun _ => .int _⟩ hm PyProof.Rows.boot_min hg (by decide) (by decide) he hpl
theorem ee_intB {c : Bool} (ha : EE R X γ a (.bool c)) (hm : X.mg "int" = none) (hg : Gl X "int" := by rfl) (he : starEach [a] X.env = (false, eval a X.env) :: starEach [] X.env := by rfl) (hpl : (backTo pos (starEach [] X.env)).any (·.1) = false := by rfl) :
    EE R X γ (.Call (.Name "int" p) [a] [] pos) (.int (if c then 1 else 0)) := ee_callTy (ea_cons ha ea_nil he) ⟨_, call_int1, fun H vs Q hd k => by
  cases hd with
  | cons d t =>
    cases t
    cases d
    exact .inr ⟨c, rfl, k _ fun _ => .int _⟩⟩ hm PyProof.Rows.boot_int hg (by decide) (by decide) he hpl
theorem vs_bools {K : PySem.W.Frag} {H : Hp} : ∀ {vs : List V} {bs : List Bool}, DtAll K H vs (bs.map .bool) → vs = bs.map V.bl
  | [], [], _ => rfl
  | [], _ :: _, h => by cases h
  | _ :: _, [], h => by cases h
  | v :: vs, b :: bs, h => by
    cases h with
    | cons h1 h2 =>
      cases h1
      rw [vs_bools h2] <;> rfl
theorem vs_ints {K : PySem.W.Frag} {H : Hp} : ∀ {vs : List V} {ns : List Int}, DtAll K H vs (ns.map .int) → vs = ns.map V.int
  | [], [], _ => rfl
  | [], _ :: _, h => by cases h
  | _ :: _, [], h => by cases h
  | v :: vs, b :: bs, h => by
    cases h with
    | cons h1 h2 =>
      cases h1
      rw [vs_ints h2] <;> rfl
theorem ee_all {bs : List Bool} (ha : EE R X γ a (.list (bs.map .bool))) (hc : X.calm = true) (hm : X.mg "all" = none) (hg : Gl X "all" := by rfl) (he : starEach [a] X.env = (false, eval a X.env) :: starEach [] X.env := by rfl) (hpl : (backTo pos (starEach [] X.env)).any (·.1) = false := by rfl) :
    EE R X γ (.Call (.Name "all" p) [a] [] pos) (.bool (bs.all id)) := ee_callB (ea_cons ha ea_nil he) ⟨_, cr_all hc, fun H vs Q hd k => by
  cases hd with
  | cons d t =>
    cases t
    cases d with
    | lst h1 h2 =>
      rw [vs_bools h2] at h1
      exact ⟨_, bs, rfl, (.inl h1), k _ fun _ => .bl _⟩⟩ hm PyProof.Rows.boot_all hg (by decide) (by decide) he hpl
theorem ee_sum {ns : List Int} (ha : EE R X γ a (.list (ns.map .int))) (hc : X.calm = true) (hm : X.mg "sum" = none) (hg : Gl X "sum" := by rfl) (he : starEach [a] X.env = (false, eval a X.env) :: starEach [] X.env := by rfl) (hpl : (backTo pos (starEach [] X.env)).any (·.1) = false := by rfl) :
    EE R X γ (.Call (.Name "sum" p) [a] [] pos) (.int ns.sum) := ee_callB (ea_cons ha ea_nil he) ⟨_, cr_sum hc, fun H vs Q hd k => by
  cases hd with
  | cons d t =>
    cases t
    cases d with
    | lst h1 h2 =>
      rw [vs_ints h2] at h1
      exact ⟨_, ns, rfl, (.inl h1), k _ fun _ => .int _⟩⟩ hm PyProof.Rows.boot_sum hg (by decide) (by decide) he hpl
/-- list(x): a new one -/
def itemsD : D → Option (List D)
  | .list ds => some ds
  | .tuple ds => some ds
  | _ => none
theorem ef_list {x : D} {ds : List D} (ha : EE R X γ a x) (h : itemsD x = some ds) (hm : X.mg "list" = none) (hg : Gl X "list" := by rfl) (he : starEach [a] X.env = (false, eval a X.env) :: starEach [] X.env := by rfl) (hpl : (backTo pos (starEach [] X.env)).any (·.1) = false := by rfl) :
    EF R X γ (.Call (.Name "list" p) [a] [] pos) ds := fun H0 S0 σ H Q s k =>
  we_of (pe_callTy call_list_of hg hm PyProof.Rows.boot_list pa_wa (by decide) (by decide) he hpl) ((ea_cons ha ea_nil he) H0 S0 σ H _ s fun vs H1 r1 d1 => by
    cases d1 with
    | cons d t =>
      cases t
      cases d with
      | lst h1 h2 =>
        cases h
        exact ⟨_, _, rfl, .inl ((.inl (rd_keep off_in h1))), fun l n => k l _ _ (Rel.free r1 n) (Rel.more r1 (same_new n)) upd_same (dts_newO n h2)⟩
      | tup h1 h2 =>
        cases h
        exact ⟨_, _, rfl, .inr (sqt_keep off_in h1), fun l n => k l _ _ (Rel.free r1 n) (Rel.more r1 (same_new n)) upd_same (dts_newO n h2)⟩
      | _ => cases h)
/-- xs[::-1] -/
theorem ef_rev {ds : List D} {kk : Nat} {p1 p2 p3 : Pos} (ha : EE R X γ a (.list ds)) : EF R X γ (.Subscript a (.Slice none none (some (.UnaryOp .USub (.Constant (.int 1) kk p1) p2)) p3) pos) ds.reverse := fun H0 S0 σ H Q s k =>
  we_of (pe_revL pe_we) (ha H0 S0 σ H _ s fun v H1 r1 d1 => by
    cases d1 with
    | lst h1 h2 => exact ⟨_, _, rfl, (.inl (rd_keep off_in h1)), fun l n => k l _ _ (Rel.free r1 n) (Rel.more r1 (same_new n)) upd_same (dts_newO n (dps_rev h2))⟩)
/-! isinstance -/
def tyN : D → String
  | .none => "NoneType"
  | .bool _ => "bool"
  | .int _ => "int"
  | .str _ => "str"
  | .list _ => "list"
  | .tuple _ => "tuple"
  | .dict _ => "dict"
def isN (a T : String) : Bool := a == T || (a == "bool" && T == "int")
abbrev isT (x : D) (T : String) : Bool := isN (tyN x) T
theorem tyN_mem (x : D) : tyN x ∈ ["NoneType", "bool", "int", "str", "list", "tuple", "dict"] := by
  cases x <;> simp [tyN]
theorem kit_all : ∀ T ∈ ["tuple", "list", "int", "bool", "str"], ∀ a ∈ ["NoneType", "bool", "int", "str", "list", "tuple", "dict"], kitB a T = some (isN a T) := by decide +kernel
theorem kit_isT (x : D) {T : String} (hT : T = "tuple" ∨ T = "list" ∨ T = "int" ∨ T = "bool" ∨ T = "str") : kitB (tyN x) T = some (isT x T) := kit_all T (by simpa using hT) (tyN x) (tyN_mem x)
theorem tyX_of {K : PySem.W.Frag} {H : Hp} {v : V} {d : D} (h : Dt K H v d) : TyX K H v (.type (tyN d)) := by
  cases h with
  | non => exact .base .non
  | bl b => exact .base (.bl b)
  | int i => exact .base (.int i)
  | str x => exact .base (.str x)
  | lst h1 h2 =>
    rcases h1 with h | ⟨o, h⟩
    · exact .base (.lst h)
    · exact .base (.frz h)
  | tup h1 h2 =>
    rcases h1 with (h | ⟨o, h⟩) | ⟨o, its, n, h, hc, _⟩
    · exact .base (.tup h)
    · exact .fTuple h
    · exact .kTuple h hc
theorem ee_isi {x : D} (T : String) {nm : Str} {pT : Pos} (ha : EE R X γ a x) (hT : T = "tuple" ∨ T = "list" ∨ T = "int" ∨ T = "bool" ∨ T = "str") (hm : X.mg "isinstance" = none) (hmT : X.mg nm = none) (hv : bootBuiltins nm = some (.type T)) (hg : Gl X "isinstance" := by rfl) (hgT : Gl X nm := by rfl) (hn : nm ≠ "__name__" := by decide) (hdb : (nm == ("__debug__" : Str)) = false := by decide)
    (he : starEach [a, .Name nm pT] X.env = (false, eval a X.env) :: starEach [.Name nm pT] X.env := by rfl) (he2 : starEach [.Name nm pT] X.env = (false, eval (.Name nm pT) X.env) :: starEach [] X.env := by rfl) (hpl : (backTo pos (starEach [.Name nm pT] X.env)).any (·.1) = false := by rfl) :
    EE R X γ (.Call (.Name "isinstance" p) [a, .Name nm pT] [] pos) (.bool (isT x T)) := fun H0 S0 σ H Q s k =>
  we_of (pe_callB call_isi hg hm PyProof.Rows.boot_isinstance (pa_cons pe_we (pa_cons (pe_bltn (v := .ty T) hgT hmT hv rfl hn hdb) pa_nil he2) he) (by decide) (by decide) he hpl) (ha H0 S0 σ H _ s fun v H1 r1 d1 =>
    ⟨v, .ty T, .type (tyN x), .type T, isT x T, rfl, .ty T, tyX_of (dt_in d1), kit_ty (kit_isT x hT), k _ H1 r1 (.bl _)⟩)
/-! == of a list of one's own, as a test -/
theorem et_cmpO {c : Bool} (i : Nat) {x : Str} {ds : List D} {op : CmpOp} {y : D} {p2 : Pos} (hb : EE R X γ b y) (ho : OpD X (compareOp op) (.list ds) y (.bool c)) (hmk : behindInMarks op b = false) (hi : γ[i]? = some (.own ds) := by rfl) (hN : X.N[i]? = some x := by rfl)
    (hv : Vis X.env.scope x := by first | exact Or.inl rfl | exact Or.inr (Or.inl rfl) | exact Or.inr (Or.inr rfl)) (hd : (x == ("__debug__" : Str)) = false := by decide) (hcd : (x == ("__classdict__" : Str)) = false := by decide) :
    ET R X γ (.Compare (.Name x p2) [op] [b] pos) c := fun H0 S0 σ H Q s k => by
  obtain ⟨r, h1, h2⟩ := ho
  obtain ⟨l, vs, e1, _, _, _⟩ := s.own i ds hi
  refine wt_of (pt_cmpR h1 (pe_var hN hv hd hcd) pe_we hmk) ⟨_, e1, hb H0 S0 σ H _ s fun u H2 r2 d2 => ?_⟩
  obtain ⟨l', vs', a1, _, a3, a4⟩ := (s.mono r2).own i ds hi
  rw [e1] at a1
  cases a1
  refine h2 H2 _ u _ (.lst (.inl a3) (dts_in a4)) (dt_in d2) fun z q => ?_
  have e := q H2
  cases e
  exact ⟨c, rfl, k H2 r2⟩
/-! is, is not, of truths -/
theorem op_isB : OpR X (compareOp .Is) (fun x y H Q => ∃ a b, x = .bl a ∧ y = .bl b ∧ Q (.bl (a == b)) H) := by
  intro pins s σ H x y v u Q I rx ry h
  obtain ⟨a, b, rfl, rfl, q⟩ := h
  cases rx
  cases ry
  show wpAny _ _ (isSame (Value.bool a) (Value.bool b) >>= fun z => pure (Value.bool z)) _ _ s
  exact wpAny_bind (wpAny_isSame_plain rfl (wpAny_pure (fin_bl I q (by cases a <;> cases b <;> rfl))))
theorem op_isNB : OpR X (compareOp .IsNot) (fun x y H Q => ∃ a b, x = .bl a ∧ y = .bl b ∧ Q (.bl (!(a == b))) H) := by
  intro pins s σ H x y v u Q I rx ry h
  obtain ⟨a, b, rfl, rfl, q⟩ := h
  cases rx
  cases ry
  show wpAny _ _ (isSame (Value.bool a) (Value.bool b) >>= fun z => pure (Value.bool (!z))) _ _ s
  exact wpAny_bind (wpAny_isSame_plain rfl (wpAny_pure (fin_bl I q (by cases a <;> cases b <;> rfl))))
theorem od_isB {a b : Bool} : OpD X (compareOp .Is) (.bool a) (.bool b) (.bool (a == b)) := ⟨_, op_isB, fun H x y Q hx hy k => by
  cases hx
  cases hy
  exact ⟨a, b, rfl, rfl, k _ fun _ => .bl _⟩⟩
theorem od_isNB {a b : Bool} : OpD X (compareOp .IsNot) (.bool a) (.bool b) (.bool (!(a == b))) := ⟨_, op_isNB, fun H x y Q hx hy k => by
  cases hx
  cases hy
  exact ⟨a, b, rfl, rfl, k _ fun _ => .bl _⟩⟩
end
end An

/-! Fractions as data; their sizes. -/
namespace An
open PySem
/-- the most bits of two factors together -/
def LIM : Nat := 134217728
def eF (q : Rat) : D := .tuple [.int q.num, .int (q.den : Nat)]
def eP (p : List Rat) : D := .list (p.map eF)
/-- a fraction of less than n bits -/
def Rz (n : Nat) (q : Rat) : Prop := q.num.natAbs < 2 ^ n ∧ q.den < 2 ^ n
theorem Rz.mono {n m : Nat} {q : Rat} (h : Rz n q) (k : n ≤ m) : Rz m q :=
  ⟨Nat.lt_of_lt_of_le h.1 (Nat.pow_le_pow_right (by decide) k), Nat.lt_of_lt_of_le h.2 (Nat.pow_le_pow_right (by decide) k)⟩
theorem Rz.pos {n : Nat} {q : Rat} (h : Rz n q) : 0 < n := by
  cases n with
  | zero =>
    have h1 := h.2
    have h2 := q.den_pos
    simp at h1
    omega
  | succ n => omega
theorem eF_inj {a b : Rat} (h : eF a = eF b) : a = b := by
  unfold eF at h
  injection h with h
  injection h with h1 h2
  injection h2 with h2 _
  injection h1 with h1
  injection h2 with h2
  exact Rat.ext h1 (by omega)
theorem Rz.mk {n : Nat} {t : Int} {u : Nat} (ht : t.natAbs < 2 ^ n) (hu : u < 2 ^ n) (h0 : 0 < u) : Rz n (mkRat t u) := by
  have hz : u ≠ 0 := by omega
  constructor
  · rw [Rat.num_mkRat, if_neg hz]
    refine Nat.lt_of_le_of_lt ?_ ht
    rw [Int.natAbs_ediv_of_dvd (Int.ofNat_dvd_left.mpr (Nat.gcd_dvd_right _ _))]
    exact Nat.div_le_self _ _
  · rw [Rat.den_mkRat, if_neg hz]
    exact Nat.lt_of_le_of_lt (Nat.div_le_self _ _) hu
theorem nat_mul_lt {a b n m : Nat} (ha : a < 2 ^ n) (hb : b < 2 ^ m) : a * b < 2 ^ (n + m) := by
  rw [Nat.pow_add]
  exact Nat.mul_lt_mul'' ha hb
theorem Rz.mul {n m : Nat} {a b : Rat} (ha : Rz n a) (hb : Rz m b) : Rz (n + m) (a * b) := by
  rw [Rat.mul_def']
  refine Rz.mk ?_ ?_ (Nat.mul_pos a.den_pos b.den_pos)
  · rw [Int.natAbs_mul]
    exact nat_mul_lt ha.1 hb.1
  · exact nat_mul_lt ha.2 hb.2
theorem Rz.add {n m : Nat} {a b : Rat} (ha : Rz n a) (hb : Rz m b) : Rz (n + m + 1) (a + b) := by
  rw [Rat.add_def']
  have h1 := nat_mul_lt ha.1 hb.2
  have h2 := nat_mul_lt ha.2 hb.1
  have h3 := nat_mul_lt ha.2 hb.2
  have e : (2 : Nat) ^ (n + m + 1) = 2 ^ (n + m) + 2 ^ (n + m) := by rw [Nat.pow_succ]; omega
  refine Rz.mk ?_ ?_ (Nat.mul_pos a.den_pos b.den_pos)
  · refine Nat.lt_of_le_of_lt (Int.natAbs_add_le _ _) ?_
    rw [Int.natAbs_mul, Int.natAbs_mul, Int.natAbs_natCast, Int.natAbs_natCast, Nat.mul_comm b.num.natAbs, e]
    omega
  · rw [e]
    omega
theorem Rz.neg {n : Nat} {a : Rat} (ha : Rz n a) : Rz n (-a) := ⟨by rw [Rat.neg_num, Int.natAbs_neg]; exact ha.1, ha.2⟩
theorem Rz.sub {n m : Nat} {a b : Rat} (ha : Rz n a) (hb : Rz m b) : Rz (n + m + 1) (a - b) := by
  rw [Rat.sub_eq_add_neg]
  exact ha.add hb.neg
theorem Rz.inv {n : Nat} {a : Rat} (ha : Rz n a) : Rz n a⁻¹ := by
  constructor
  · rw [Rat.num_inv, Int.natAbs_mul, Int.natAbs_natCast]
    have : a.num.sign.natAbs ≤ 1 := by
      rcases Int.lt_trichotomy a.num 0 with h | h | h
      · rw [Int.sign_eq_neg_one_of_neg h]; decide
      · rw [h]; decide
      · rw [Int.sign_eq_one_of_pos h]; decide
    refine Nat.lt_of_le_of_lt (Nat.mul_le_mul_right _ this) ?_
    rw [Nat.one_mul]
    exact ha.2
  · rw [Rat.den_inv]
    split
    · exact Nat.lt_of_le_of_lt a.den_pos ha.2
    · exact ha.1
theorem Rz.div {n m : Nat} {a b : Rat} (ha : Rz n a) (hb : Rz m b) : Rz (n + m) (a / b) := by
  rw [Rat.div_def]
  exact ha.mul hb.inv
/-- what two sizes let be multiplied -/
theorem mulx {n m : Nat} {i j : Int} (hi : i.natAbs < 2 ^ n) (hj : j.natAbs < 2 ^ m) (h : n + m ≤ LIM) : L2.CMulX i j := L2.mulx_ok hi hj h
/-! the fraction of a top and an under above nought, as the program makes it -/
theorem made_eq {t : Int} {u : Nat} (h : 0 < u) : (PyData.tuple [.int (t / (Nat.gcd t.natAbs u : Nat)), .int ((u : Int) / (Nat.gcd t.natAbs u : Nat))] : D) = eF (mkRat t u) := by
  have hz : u ≠ 0 := by omega
  unfold eF
  rw [Rat.num_mkRat, Rat.den_mkRat, if_neg hz, if_neg hz, Nat.gcd_comm u]
  rfl
theorem divInt_pos {t : Int} {u : Nat} : Rat.divInt t (u : Int) = mkRat t u := Rat.divInt_ofNat t u
/-- is it a fraction -/
def isF : D → Bool
  | .tuple [.int t, .int u] => decide (0 < u) && Nat.gcd t.natAbs u.natAbs == 1
  | _ => false
theorem isF_eF (q : Rat) : isF (eF q) = true := by
  unfold eF isF
  have h := q.reduced
  have h2 := q.den_pos
  simp only [Bool.and_eq_true, decide_eq_true_eq, beq_iff_eq, Int.natAbs_natCast]
  exact ⟨by omega, h⟩
theorem isF_some {x : D} (h : isF x = true) : ∃ q, x = eF q := by
  unfold isF at h
  split at h
  · rename_i t u
    rw [Bool.and_eq_true, decide_eq_true_eq, beq_iff_eq] at h
    refine ⟨⟨t, u.natAbs, by omega, h.2⟩, ?_⟩
    unfold eF
    have : (u.natAbs : Int) = u := by omega
    rw [this]
  · cases h
end An
namespace An
open PySem PySem.Spec PyProof.Rows L2
abbrev noX : List D → Value → Prop := fun _ _ => False
/-- a def of the text stands behind the top -/
def FE (K : PySem.W.Frag) (mg : Str → Option Value) (x : Str) (st : Stmt) : Prop := ∃ (f : Addr) (fd : FuncData), FunD K x x (defArgs st) (defBody st) (defScope st) [] [] f fd ∧ mg x = some (.ref f)
def ec (K : PySem.W.Frag) (x : Str) : Value := .ref (He.ga K x)
end An

/-! Polynomials as lists of fractions. -/
namespace An
open PySem
/-! ### data that can be compared -/
def Sh (n : Nat) (d : D) : Prop := d.canLay0 = true ∧ d.depth ≤ n
theorem Sh.ok {n : Nat} {d : D} (h : Sh n d) (k : n ≤ 64) : SeqAt.shaped d = true := by
  unfold SeqAt.shaped
  rw [h.1, Bool.true_and]
  exact decide_eq_true (Nat.le_trans h.2 k)
theorem Sh.ok0 {d : D} (h : Sh 0 d) : SeqAt.shaped d = true := h.ok (by decide)
theorem Sh.ok1 {d : D} (h : Sh 1 d) : SeqAt.shaped d = true := h.ok (by decide)
theorem Sh.ok2 {d : D} (h : Sh 2 d) : SeqAt.shaped d = true := h.ok (by decide)
theorem Sh.ok3 {d : D} (h : Sh 3 d) : SeqAt.shaped d = true := h.ok (by decide)
theorem Sh.ok4 {d : D} (h : Sh 4 d) : SeqAt.shaped d = true := h.ok (by decide)
theorem sh_int {n : Nat} {i : Int} : Sh n (.int i) := ⟨by simp [PyData.canLay0], by simp [PyData.depth]⟩
theorem sh_bool {n : Nat} {i : Bool} : Sh n (.bool i) := ⟨by simp [PyData.canLay0], by simp [PyData.depth]⟩
theorem sh_none {n : Nat} : Sh n .none := ⟨by simp [PyData.canLay0], by simp [PyData.depth]⟩
theorem sh_str {n : Nat} {x : Str} (h : PyData.strOk x = true) : Sh n (.str x) := ⟨by simp [PyData.canLay0, h], by simp [PyData.depth]⟩
theorem depthAll_le {n : Nat} : ∀ {ds : List D}, (∀ d ∈ ds, d.depth ≤ n) → PyData.depthAll ds ≤ n
  | [], _ => by simp [PyData.depthAll]
  | d :: ds, h => by
    have h1 := h d List.mem_cons_self
    have h2 := depthAll_le (ds := ds) fun e he => h e (List.mem_cons_of_mem _ he)
    simp only [PyData.depthAll]
    omega
theorem layAll {ds : List D} (h : ∀ d ∈ ds, d.canLay0 = true) : PyData.canLayAll0 ds = true := by
  induction ds with
  | nil => simp [PyData.canLayAll0]
  | cons d ds ih =>
    simp only [PyData.canLayAll0, Bool.and_eq_true]
    exact ⟨h d List.mem_cons_self, ih fun e he => h e (List.mem_cons_of_mem _ he)⟩
theorem sh_list {n : Nat} {ds : List D} (h : ∀ d ∈ ds, Sh n d) : Sh (n + 1) (.list ds) :=
  ⟨by simp only [PyData.canLay0]; exact layAll fun d hd => (h d hd).1, by simp only [PyData.depth]; have := depthAll_le fun d hd => (h d hd).2; omega⟩
theorem sh_tup {n : Nat} {ds : List D} (h : ∀ d ∈ ds, Sh n d) : Sh (n + 1) (.tuple ds) :=
  ⟨by simp only [PyData.canLay0]; exact layAll fun d hd => (h d hd).1, by simp only [PyData.depth]; have := depthAll_le fun d hd => (h d hd).2; omega⟩
theorem Sh.mono {n m : Nat} {d : D} (h : Sh n d) (k : n ≤ m) : Sh m d := ⟨h.1, Nat.le_trans h.2 k⟩
theorem sh_eF (q : Rat) : Sh 1 (eF q) := sh_tup fun d hd => by
  have : d = .int q.num ∨ d = .int (q.den : Nat) := by simpa using hd
  rcases this with rfl | rfl
  · exact sh_int
  · exact sh_int
theorem sh_eP (p : List Rat) : Sh 2 (eP p) := sh_list fun d hd => by
  obtain ⟨q, _, rfl⟩ := List.mem_map.mp hd
  exact sh_eF q
theorem eqv_eF (a b : Rat) : PyData.eqv (eF a) (eF b) = decide (a = b) := by
  unfold eF
  simp only [PyData.eqv, PyData.eqvAll, Bool.and_true]
  by_cases h : a = b
  · subst h
    simp
  · rw [decide_eq_false h]
    by_cases h1 : a.num = b.num
    · have h2 : a.den ≠ b.den := fun e => h (Rat.ext h1 e)
      have : ((a.den : Int) == (b.den : Int)) = false := beq_eq_false_iff_ne.mpr fun e => h2 (by omega)
      rw [this, Bool.and_false]
    · have : (a.num == b.num) = false := by simpa using h1
      rw [this, Bool.false_and]
theorem eqvAll_map {α : Type} [DecidableEq α] {f : α → D} (hf : ∀ a b, PyData.eqv (f a) (f b) = decide (a = b)) : ∀ xs ys : List α, PyData.eqvAll (xs.map f) (ys.map f) = decide (xs = ys)
  | [], [] => by simp [PyData.eqvAll]
  | [], _ :: _ => by simp [PyData.eqvAll]
  | _ :: _, [] => by simp [PyData.eqvAll]
  | x :: xs, y :: ys => by
    simp only [List.map_cons, PyData.eqvAll, hf, eqvAll_map hf xs ys]
    by_cases h1 : x = y
    · subst h1
      simp
    · simp [h1]
theorem eqv_eP (p q : List Rat) : PyData.eqv (eP p) (eP q) = decide (p = q) := by
  unfold eP
  simp only [PyData.eqv]
  exact eqvAll_map eqv_eF p q
/-! ### polynomials -/
abbrev Poly := List Rat
def coef (p : Poly) (i : Nat) : Rat := p.getD i 0
/-- without noughts behind -/
def trim : Poly → Poly
  | [] => []
  | a :: r => if trim r = [] ∧ a = 0 then [] else a :: trim r
/-- a polynomial's own form -/
def Own (p : Poly) : Prop := trim p = p
instance (p : Poly) : Decidable (Own p) := inferInstanceAs (Decidable (trim p = p))
theorem coef_nil (i : Nat) : coef [] i = 0 := by simp [coef]
theorem coef_zero (a : Rat) (r : Poly) : coef (a :: r) 0 = a := rfl
theorem coef_succ (a : Rat) (r : Poly) (i : Nat) : coef (a :: r) (i + 1) = coef r i := by simp [coef]
theorem coef_out {p : Poly} {i : Nat} (h : p.length ≤ i) : coef p i = 0 := by
  unfold coef
  rw [List.getD_eq_getElem?_getD, List.getElem?_eq_none h]
  rfl
theorem coef_in {p : Poly} {i : Nat} (h : i < p.length) : coef p i = p[i] := by
  unfold coef
  rw [List.getD_eq_getElem?_getD, List.getElem?_eq_getElem h]
  rfl
theorem coef_trim : ∀ (p : Poly) (i : Nat), coef (trim p) i = coef p i
  | [], i => rfl
  | a :: r, i => by
    unfold trim
    by_cases h : trim r = [] ∧ a = 0
    · rw [if_pos h, coef_nil]
      cases i with
      | zero => rw [coef_zero, h.2]
      | succ i => rw [coef_succ, ← coef_trim r i, h.1, coef_nil]
    · rw [if_neg h]
      cases i with
      | zero => rw [coef_zero, coef_zero]
      | succ i => rw [coef_succ, coef_succ, coef_trim r i]
theorem trim_idem : ∀ p : Poly, trim (trim p) = trim p
  | [] => rfl
  | a :: r => by
    show trim (if trim r = [] ∧ a = 0 then [] else a :: trim r) = if trim r = [] ∧ a = 0 then [] else a :: trim r
    by_cases h : trim r = [] ∧ a = 0
    · rw [if_pos h]
      rfl
    · rw [if_neg h]
      show (if trim (trim r) = [] ∧ a = 0 then [] else a :: trim (trim r)) = _
      rw [trim_idem r, if_neg h]
theorem own_trim (p : Poly) : Own (trim p) := trim_idem p
/-- the same fractions, the same own form -/
theorem trim_ext : ∀ {p q : Poly}, (∀ i, coef p i = coef q i) → trim p = trim q
  | [], [], _ => rfl
  | [], b :: s, h => by
    have h1 : b = 0 := by
      have := h 0
      rw [coef_nil, coef_zero] at this
      exact this.symm
    have h2 : trim [] = trim s := trim_ext fun i => by
      have := h (i + 1)
      rw [coef_nil, coef_succ] at this
      rw [coef_nil, this]
    show [] = if trim s = [] ∧ b = 0 then [] else b :: trim s
    rw [if_pos ⟨h2.symm, h1⟩]
  | a :: r, [], h => by
    have h1 : a = 0 := by
      have := h 0
      rw [coef_nil, coef_zero] at this
      exact this
    have h2 : trim r = trim [] := trim_ext fun i => by
      have := h (i + 1)
      rw [coef_nil, coef_succ] at this
      rw [coef_nil, this]
    show (if trim r = [] ∧ a = 0 then [] else a :: trim r) = []
    rw [if_pos ⟨h2, h1⟩]
  | a :: r, b :: s, h => by
    have h1 : a = b := by
      have := h 0
      rw [coef_zero, coef_zero] at this
      exact this
    have h2 : trim r = trim s := trim_ext fun i => by
      have := h (i + 1)
      rw [coef_succ, coef_succ] at this
      exact this
    subst h1
    show (if trim r = [] ∧ a = 0 then [] else a :: trim r) = (if trim s = [] ∧ a = 0 then [] else a :: trim s)
    rw [h2]
theorem own_ext {p q : Poly} (hp : Own p) (hq : Own q) (h : ∀ i, coef p i = coef q i) : p = q := by
  rw [← hp, ← hq]
  exact trim_ext h
theorem trim_len : ∀ p : Poly, (trim p).length ≤ p.length
  | [] => Nat.le_refl _
  | a :: r => by
    unfold trim
    split
    · exact Nat.zero_le _
    · exact Nat.succ_le_succ (trim_len r)
theorem trim_mem : ∀ {p : Poly} {q : Rat}, q ∈ trim p → q ∈ p
  | [], q, h => h
  | a :: r, q, h => by
    unfold trim at h
    split at h
    · cases h
    · rcases List.mem_cons.mp h with h | h
      · exact h ▸ List.mem_cons_self
      · exact List.mem_cons_of_mem _ (trim_mem h)
theorem own_nil : Own [] := rfl
theorem own_cons {a : Rat} {r : Poly} (h : Own (a :: r)) : Own r := by
  unfold Own trim at h
  split at h
  · cases h
  · injection h with _ h
theorem own_iff {p : Poly} : Own p ↔ p = [] ∨ coef p (p.length - 1) ≠ 0 := by
  induction p with
  | nil => exact ⟨fun _ => .inl rfl, fun _ => rfl⟩
  | cons a r ih =>
    constructor
    · intro h
      refine .inr ?_
      have hr := own_cons h
      rcases ih.mp hr with e | e
      · subst e
        intro z
        have z' : a = 0 := z
        unfold Own trim at h
        rw [if_pos ⟨rfl, z'⟩] at h
        cases h
      · cases r with
        | nil => exact absurd (coef_nil _) e
        | cons b s =>
          show coef (a :: b :: s) (s.length + 1) ≠ 0
          rw [coef_succ]
          exact e
    · intro h
      rcases h with h | h
      · cases h
      · unfold Own trim
        cases r with
        | nil =>
          have h' : a ≠ 0 := h
          rw [if_neg (fun z => h' z.2)]
          rfl
        | cons b s =>
          have hr : Own (b :: s) := ih.mpr (.inr (by
            have h' : coef (a :: b :: s) (s.length + 1) ≠ 0 := h
            rw [coef_succ] at h'
            exact h'))
          have hr' : trim (b :: s) = b :: s := hr
          rw [hr', if_neg (fun z => nomatch z.1)]
/-- where the noughts begin -/
theorem trim_take {p : Poly} {m : Nat} (h1 : ∀ i, m ≤ i → coef p i = 0) (h2 : m = 0 ∨ coef p (m - 1) ≠ 0) (hm : m ≤ p.length) : p.take m = trim p := by
  have hl : (p.take m).length = m := by rw [List.length_take]; omega
  have ho : Own (p.take m) := own_iff.mpr (by
    rcases h2 with h | h
    · left
      rw [h]
      rfl
    · right
      rw [hl]
      unfold coef at h ⊢
      rw [List.getD_eq_getElem?_getD] at h ⊢
      by_cases h0 : m = 0
      · subst h0
        cases p with
        | nil => exact h
        | cons a r => exact absurd (h1 0 (Nat.le_refl _)) h
      · rw [List.getElem?_take_of_lt (by omega)]
        exact h)
  rw [← ho]
  refine trim_ext fun i => ?_
  by_cases hi : i < m
  · unfold coef
    rw [List.getD_eq_getElem?_getD, List.getD_eq_getElem?_getD, List.getElem?_take_of_lt hi]
  · rw [coef_out (by omega), h1 i (by omega)]
/-! ### is it a polynomial -/
def isPo : D → Bool
  | .list ds => decide (ds.length ≤ 13) && ds.all isF && (ds.isEmpty || !PyData.eqv (ds.getD (ds.length - 1) .none) (eF 0))
  | _ => false
theorem all_isF {ds : List D} (h : ds.all isF = true) : ∃ p : Poly, ds = p.map eF := by
  induction ds with
  | nil => exact ⟨[], rfl⟩
  | cons d ds ih =>
    rw [List.all_cons, Bool.and_eq_true] at h
    obtain ⟨q, rfl⟩ := isF_some h.1
    obtain ⟨p, rfl⟩ := ih h.2
    exact ⟨q :: p, rfl⟩
theorem isPo_eP (p : Poly) : isPo (eP p) = (decide (p.length ≤ 13) && decide (Own p)) := by
  unfold isPo eP
  have h1 : (p.map eF).all isF = true := by
    rw [List.all_eq_true]
    intro d hd
    obtain ⟨q, _, rfl⟩ := List.mem_map.mp hd
    exact isF_eF q
  have h2 : ((p.map eF).isEmpty || !PyData.eqv ((p.map eF).getD ((p.map eF).length - 1) .none) (eF 0)) = decide (Own p) := by
    cases p with
    | nil => simp [own_nil]
    | cons a r =>
      have e : ((a :: r).map eF).getD (((a :: r).map eF).length - 1) .none = eF (coef (a :: r) ((a :: r).length - 1)) := by
        rw [List.length_map, List.getD_eq_getElem?_getD, List.getElem?_map, coef_in (by rw [List.length_cons]; omega), List.getElem?_eq_getElem (by rw [List.length_cons]; omega)]
        rfl
      rw [e, eqv_eF]
      have hq : decide (Own (a :: r)) = !decide (coef (a :: r) ((a :: r).length - 1) = 0) := by
        rw [← decide_not]
        refine decide_eq_decide.mpr ⟨fun h => ?_, fun h => own_iff.mpr (.inr h)⟩
        rcases own_iff.mp h with h | h
        · cases h
        · exact h
      rw [hq]
      rfl
  show (decide ((p.map eF).length ≤ 13) && (p.map eF).all isF && ((p.map eF).isEmpty || !PyData.eqv ((p.map eF).getD ((p.map eF).length - 1) .none) (eF 0))) = _
  rw [h1, h2, List.length_map, Bool.and_true]
theorem isPo_some {x : D} (h : isPo x = true) : ∃ p : Poly, x = eP p ∧ p.length ≤ 13 ∧ Own p := by
  unfold isPo at h
  split at h
  · rename_i ds
    have h0 := h
    rw [Bool.and_eq_true, Bool.and_eq_true] at h
    obtain ⟨p, rfl⟩ := all_isF h.1.2
    have h3 : isPo (eP p) = true := h0
    rw [isPo_eP, Bool.and_eq_true] at h3
    exact ⟨p, rfl, of_decide_eq_true h3.1, of_decide_eq_true h3.2⟩
  · cases h
/-! ### sizes -/
def PZ (n : Nat) (p : Poly) : Prop := ∀ q ∈ p, Rz n q
theorem rz_zero : Rz 1 0 := by constructor <;> decide
theorem rz_one : Rz 1 1 := by constructor <;> decide
theorem PZ.mono {n m : Nat} {p : Poly} (h : PZ n p) (k : n ≤ m) : PZ m p := fun q hq => (h q hq).mono k
theorem PZ.coef {n : Nat} {p : Poly} (h : PZ n p) (hn : 0 < n) (i : Nat) : Rz n (coef p i) := by
  by_cases hi : i < p.length
  · rw [coef_in hi]
    exact h _ (List.getElem_mem hi)
  · rw [coef_out (by omega)]
    exact rz_zero.mono hn
theorem PZ.trim {n : Nat} {p : Poly} (h : PZ n p) : PZ n (trim p) := fun q hq => h q (trim_mem hq)
theorem pz_nil {n : Nat} : PZ n [] := fun q hq => by cases hq
/-! ### sums -/
def paddRaw (p q : Poly) : Poly := (List.range (max p.length q.length)).map fun i => coef p i + coef q i
def padd (p q : Poly) : Poly := trim (paddRaw p q)
theorem coef_map {n : Nat} {f : Nat → Rat} {i : Nat} : coef ((List.range n).map f) i = if i < n then f i else 0 := by
  by_cases h : i < n
  · rw [if_pos h]
    unfold coef
    rw [List.getD_eq_getElem?_getD, List.getElem?_map, List.getElem?_range h]
    rfl
  · rw [if_neg h, coef_out (by simpa using h)]
theorem coef_padd (p q : Poly) (i : Nat) : coef (padd p q) i = coef p i + coef q i := by
  unfold padd paddRaw
  rw [coef_trim, coef_map]
  split
  · rfl
  · rw [coef_out (by omega), coef_out (by omega), Rat.add_zero]
theorem own_padd (p q : Poly) : Own (padd p q) := own_trim _
theorem padd_len (p q : Poly) : (padd p q).length ≤ max p.length q.length := Nat.le_trans (trim_len _) (by unfold paddRaw; simp)
theorem pz_padd {n m : Nat} {p q : Poly} (hp : PZ n p) (hq : PZ m q) (h0 : 0 < n) (h1 : 0 < m) : PZ (n + m + 1) (padd p q) := PZ.trim fun a ha => by
  obtain ⟨i, _, rfl⟩ := List.mem_map.mp ha
  exact (hp.coef h0 i).add (hq.coef h1 i)
/-! ### products -/
def cmul : Poly → Poly → Nat → Rat
  | [], _, _ => 0
  | a :: p, q, k => a * coef q k + (match k with | 0 => 0 | k + 1 => cmul p q k)
def pmul (p q : Poly) : Poly := trim ((List.range (p.length + q.length - 1)).map (cmul p q))
theorem cmul_out : ∀ {p q : Poly} {k : Nat}, p.length + q.length ≤ k + 1 → cmul p q k = 0
  | [], _, _, _ => rfl
  | a :: p, q, 0, h => by
    have : q.length = 0 := by rw [List.length_cons] at h; omega
    show a * coef q 0 + 0 = 0
    rw [coef_out (by omega), Rat.mul_zero, Rat.zero_add]
  | a :: p, q, k + 1, h => by
    rw [List.length_cons] at h
    show a * coef q (k + 1) + cmul p q k = 0
    rw [cmul_out (by omega)]
    by_cases hq : q.length ≤ k + 1
    · rw [coef_out hq, Rat.mul_zero, Rat.zero_add]
    · omega
theorem coef_pmul (p q : Poly) (k : Nat) : coef (pmul p q) k = cmul p q k := by
  unfold pmul
  rw [coef_trim, coef_map]
  split
  · rfl
  · rw [cmul_out (by omega)]
theorem own_pmul (p q : Poly) : Own (pmul p q) := own_trim _
theorem pmul_len (p q : Poly) : (pmul p q).length ≤ p.length + q.length - 1 := Nat.le_trans (trim_len _) (by simp)
/-- one row more -/
theorem cmul_row : ∀ {p q : Poly} {i k : Nat} (h : i < p.length), cmul (p.take (i + 1)) q k = cmul (p.take i) q k + (if i ≤ k then p[i] * coef q (k - i) else 0)
  | a :: p, q, 0, k, h => by
    show a * coef q k + (match k with | 0 => 0 | k + 1 => cmul [] q k) = 0 + _
    rw [if_pos (Nat.zero_le _), Rat.zero_add]
    cases k with
    | zero => exact Rat.add_zero _
    | succ k => exact Rat.add_zero _
  | a :: p, q, i + 1, 0, h => by
    show a * coef q 0 + 0 = a * coef q 0 + 0 + _
    rw [if_neg (by omega), Rat.add_zero, Rat.add_zero]
  | a :: p, q, i + 1, k + 1, h => by
    have h' : i < p.length := by simpa using h
    show a * coef q (k + 1) + cmul (p.take (i + 1)) q k = a * coef q (k + 1) + cmul (p.take i) q k + _
    rw [cmul_row h', Rat.add_assoc]
    congr 2
    by_cases hk : i ≤ k
    · rw [if_pos hk, if_pos (by omega)]
      simp
    · rw [if_neg hk, if_neg (by omega)]
theorem rz_cmul {n m : Nat} : ∀ {p q : Poly} {k : Nat}, PZ n p → PZ m q → 0 < m → Rz (1 + p.length * (n + m + 1)) (cmul p q k)
  | [], q, k, _, _, _ => rz_zero.mono (by simp)
  | a :: p, q, k, hp, hq, h0 => by
    have h1 := (hp a List.mem_cons_self).mul (hq.coef h0 k)
    have hp' : PZ n p := fun b hb => hp b (List.mem_cons_of_mem _ hb)
    have e : 1 + (a :: p).length * (n + m + 1) = (n + m) + (1 + p.length * (n + m + 1)) + 1 := by
      rw [List.length_cons, Nat.succ_mul]
      omega
    rw [e]
    cases k with
    | zero => exact h1.add (rz_zero.mono (by omega))
    | succ k => exact h1.add (rz_cmul hp' hq h0)
theorem pz_pmul {n m : Nat} {p q : Poly} (hp : PZ n p) (hq : PZ m q) (h0 : 0 < m) : PZ (1 + p.length * (n + m + 1)) (pmul p q) := PZ.trim fun a ha => by
  obtain ⟨i, _, rfl⟩ := List.mem_map.mp ha
  exact rz_cmul hp hq h0
/-! ### worths, slopes -/
def peval (p : Poly) (x : Rat) : Rat := p.foldr (fun a t => t * x + a) 0
theorem rz_peval {n m : Nat} : ∀ {p : Poly} {x : Rat}, PZ n p → Rz m x → Rz (1 + p.length * (n + m + 1)) (peval p x)
  | [], x, _, _ => rz_zero.mono (by simp)
  | a :: p, x, hp, hx => by
    have h1 := rz_peval (p := p) (x := x) (fun b hb => hp b (List.mem_cons_of_mem _ hb)) hx
    have h2 := (h1.mul hx).add (hp a List.mem_cons_self)
    exact h2.mono (by rw [List.length_cons, Nat.succ_mul]; omega)
def pder (p : Poly) : Poly := (List.range (p.length - 1)).map fun i => coef p (i + 1) * ((i + 1 : Nat) : Rat)
/-! ### a number of times -/
def pscale (p : Poly) (c : Rat) : Poly := trim (p.map fun a => a * c)
theorem coef_mapP {p : Poly} {f : Rat → Rat} (h0 : f 0 = 0) (i : Nat) : coef (p.map f) i = f (coef p i) := by
  unfold coef
  rw [List.getD_eq_getElem?_getD, List.getD_eq_getElem?_getD, List.getElem?_map]
  cases p[i]? with
  | none => exact h0.symm
  | some a => rfl
theorem coef_pscale (p : Poly) (c : Rat) (i : Nat) : coef (pscale p c) i = coef p i * c := by
  unfold pscale
  rw [coef_trim, coef_mapP (Rat.zero_mul c)]
theorem own_pscale (p : Poly) (c : Rat) : Own (pscale p c) := own_trim _
theorem pscale_len (p : Poly) (c : Rat) : (pscale p c).length ≤ p.length := Nat.le_trans (trim_len _) (by simp)
theorem pz_pscale {n m : Nat} {p : Poly} {c : Rat} (hp : PZ n p) (hc : Rz m c) : PZ (n + m) (pscale p c) := PZ.trim fun a ha => by
  obtain ⟨b, hb, rfl⟩ := List.mem_map.mp ha
  exact (hp b hb).mul hc
end An
namespace An
open PySem PySem.Spec PyProof.Rows L2
section
variable {X : Cx} {k : Nat}
theorem od_eqI {i j : Int} (g : Gx X k) : OpD X (compareOp .Eq) (.int i) (.int j) (.bool (decide (i = j))) := by
  have h := od_eq (X := X) g (sh_int (n := 0) (i := i)).ok0 (sh_int (n := 0) (i := j)).ok0
  have e : PyData.eqv (.int i) (.int j) = decide (i = j) := by
    simp only [PyData.eqv]
    by_cases z : i = j <;> simp [z]
  rw [e] at h
  exact h
theorem od_neI {i j : Int} (g : Gx X k) : OpD X (compareOp .NotEq) (.int i) (.int j) (.bool (decide (i ≠ j))) := by
  have h := od_ne (X := X) g (sh_int (n := 0) (i := i)).ok0 (sh_int (n := 0) (i := j)).ok0
  have e : (!PyData.eqv (.int i) (.int j)) = decide (i ≠ j) := by
    simp only [PyData.eqv]
    by_cases z : i = j <;> simp [z]
  rw [e] at h
  exact h
theorem od_eqF {a b : Rat} (g : Gx X k) : OpD X (compareOp .Eq) (eF a) (eF b) (.bool (decide (a = b))) := by
  have h := od_eq (X := X) g (sh_eF a).ok1 (sh_eF b).ok1
  rw [eqv_eF] at h
  exact h
theorem od_neF {a b : Rat} (g : Gx X k) : OpD X (compareOp .NotEq) (eF a) (eF b) (.bool (decide (a ≠ b))) := by
  have h := od_ne (X := X) g (sh_eF a).ok1 (sh_eF b).ok1
  rw [eqv_eF, ← decide_not] at h
  exact h
theorem od_eqP {a b : Poly} (g : Gx X k) : OpD X (compareOp .Eq) (eP a) (eP b) (.bool (decide (a = b))) := by
  have h := od_eq (X := X) g (sh_eP a).ok2 (sh_eP b).ok2
  rw [eqv_eP] at h
  exact h
theorem od_neP {a b : Poly} (g : Gx X k) : OpD X (compareOp .NotEq) (eP a) (eP b) (.bool (decide (a ≠ b))) := by
  have h := od_ne (X := X) g (sh_eP a).ok2 (sh_eP b).ok2
  rw [eqv_eP, ← decide_not] at h
  exact h
end
/-! kinds -/
theorem isT_tuple {x : D} (h : isT x "tuple" = true) : ∃ ys, x = .tuple ys := by
  cases x with
  | tuple ys => exact ⟨ys, rfl⟩
  | _ => simp [isN, tyN] at h
theorem isT_list {x : D} (h : isT x "list" = true) : ∃ ys, x = .list ys := by
  cases x with
  | list ys => exact ⟨ys, rfl⟩
  | _ => simp [isN, tyN] at h
def isI : D → Bool
  | .int _ => true
  | _ => false
theorem isI_eq (x : D) : (isT x "int" && !isT x "bool") = isI x := by
  cases x <;> simp [isN, tyN, isI]
end An
namespace An
theorem noO (z : Ow) : Sl.no ≠ .own z := fun e => nomatch e
theorem datO {d : D} (z : Ow) : Sl.dat d ≠ .own z := fun e => nomatch e
theorem valO {d : L2.V} (z : Ow) : Sl.val d ≠ .own z := fun e => nomatch e
theorem fixO {F : Fix} (z : Ow) : Sl.fix F ≠ .own z := fun e => nomatch e
end An
namespace An
open PySem PySem.Spec PyProof.Rows L2
theorem ei_is {R : Hp → Hp → Prop} {X : Cx} {γ : List Sl} {tg it : Expr} {ds ds' : List D} (h : EI R X γ tg it ds) (e : ds = ds') : EI R X γ tg it ds' := by
  rw [← e]
  exact h
end An

/-! While an exception is handled: a list walked to its end, a list comprehension, sum. -/
namespace An
open PySem PySem.Spec PyProof.Rows L2 HotX L2H
section
variable {prog : Program} {w : World} {A : Around} {E : Value → Shared → Prop} {s : Shared}
theorem ext_new {h1 h2 : Heap} {it : Addr} {o1 o2 : Obj} {f : Obj → Obj} (e : Heap.ExtBut it h1 h2) : Heap.ExtBut it h1 (((h2.push o1).push o2).update (h2.push o1).objs.size f) := fun b o hb g => by
  have g1 := Heap.get?_push_of_some o2 (Heap.get?_push_of_some o1 (e b o hb g))
  rw [Heap.get?_update_other _ _ (Nat.ne_of_gt (Heap.lt_size (Heap.get?_push_of_some o1 (e b o hb g))))]
  exact g1
theorem next_list_end_hot {it l x1 : Addr} {i : Nat} {items : Array Value} {Q : Option Value → Shared → Prop} (hot : HotAt A x1 s.heap) (ne : x1 ≠ it) (hi : s.heap.IsListIter it l i) (hl : s.heap.IsList l items) (hx : items[i]? = none)
    (hQ : ∀ h', Heap.ExtBut it s.heap h' → Q none { s with heap := h' }) : wpAny (model prog w) A (pyNext (.ref it)) Q E s := by
  obtain ⟨o, ho, hc, hd⟩ := id hi
  obtain ⟨ol, hol, _, nl, hdl⟩ := hl
  obtain ⟨hh, o1, vs1, h1, d1, c1⟩ := hot
  unfold pyNext
  refine wpAny_bind (wpAny_attempt (wpAny_callSpecial?_slot (name := Str.ofString "__next__") hi.typeIs slot_listiter_next (wpAny_call_entry slot_listiter_next hi.typeIs entry_listiter_next ?_ (args_listiter_next _))))
  show wpAny _ _ (field (.ref it) 0 >>= _) _ _ _
  refine wpAny_bind (wpAny_field ho hd (x := .ref l) rfl ?_)
  show wpAny _ _ (if (Value.ref l == Value.none) = true then _ else _) _ _ _
  rw [if_neg (show ¬ (Value.ref l == Value.none) = true from Bool.false_ne_true)]
  show wpAny _ _ (field (.ref it) 1 >>= _) _ _ _
  refine wpAny_bind (wpAny_field ho hd (x := .int i 0) rfl ?_)
  show wpAny _ _ (seqItems? (.ref l) >>= _) _ _ _
  refine wpAny_bind (wpAny_seqItems hol hdl ?_)
  simp only [Int.toNat_natCast, hx]
  refine wpAny_bind (wpAny_rule (wpAny_bind (wpAny_setField ho hd (by simp) ?_)))
  show wpAny _ _ (newExc (.type "StopIteration") [] >>= _) _ _ _; refine wpAny_bind ?_; simp only [newExc, newTuple]
  refine wpAny_bind (wpAny_newObj_type ?_ (by size_fits))
  refine wpAny_bind (m := firstArgMember _ _) (wpAny_of_eq (a := Value.none) (by first | rfl | (simp only [firstArgMember]; rfl)) ?_); refine wpAny_newObj_type ?_ (by size_fits)
  have k1 := (Heap.get?_update_other s.heap (Obj.mapFields (·.setIfInBounds 0 Value.none)) (Ne.symm ne)).trans h1
  refine raiseNew_hot (x1 := x1) ⟨hh, o1, vs1, Heap.get?_push_of_some _ (Heap.get?_push_of_some _ k1), d1, c1⟩ (Nat.ne_of_lt (Heap.lt_size (Heap.get?_push_of_some _ k1))) (Heap.get?_push_size _ rfl) rfl (by first | (simp; done) | (simp; omega)) ?_
  refine wpAny_bind (wpAny_isInstance (T := "StopIteration") (b := true) ⟨_, Heap.get?_update_self _ (Heap.get?_push_size _ rfl) rfl, rfl⟩ isSubtype_stop ?_)
  exact wpAny_pure (hQ _ (ext_new (Heap.SameBut.update ..).extBut))
/-- a list walked while x1 is handled -/
theorem walksH (I ax x1 : Addr) (hne : ax ≠ I) (n1 : x1 ≠ I) (items : Array Value) : Walks prog w A I [I, ax, x1] [I] items.size (fun i v => items[i]? = some v) (fun i h => h.IsListIter I ax i ∧ h.IsList ax items ∧ HotAt A x1 h) where
  sub := fun b hb => by
    rw [List.mem_singleton.mp hb]
    exact List.mem_cons_self
  frame := fun i h h' ⟨a, b, c, o, vs, d, e⟩ k => ⟨a.at fun o z => k I (by simp) o z, b.at fun o z => k ax (by simp) o z, c, o, vs, k x1 (by simp) o d, e⟩
  item := fun i s Q E hi ⟨a, b, c, o, vs, d, e⟩ hQ => wpAny_pyNext_list_item a b (x := items[i]) (by simp [hi]) fun h' hit hs =>
    hQ _ h' s.toks (by simp [hi]) ⟨hit, b.extBut hs.extBut hne, c, o, vs, hs.extBut x1 o n1 d, e⟩ fun b o hb z => hs.extBut b o (fun y => hb (by simp [y])) z
  done := fun s Q E ⟨a, b, c⟩ hQ => next_list_end_hot c n1 a b (by simp) fun h' e => hQ h' s.toks fun b o hb z => e b o (fun y => hb (by simp [y])) z
  self := fun _ _ _ _ st hQ => wpAny_pyIter_listiter st.1 hQ
theorem sum_hot {l x1 : Addr} {xs : Array (Int × Tok)} {Q : Value → Shared → Prop} (hot : HotAt A x1 s.heap) (hl : s.heap.IsList l (intItems xs))
    (h : ∀ h' tk t', (∀ b o, s.heap.get? b = some o → h'.get? b = some o) → Q (.int (preSum (numAt xs) xs.size) t') { s with heap := h', toks := tk }) : wpAny (model prog w) A (call (.builtin "sum") [.ref l]) Q E s := by
  refine call_sum_walkG (iter_intList hl fun s2 e st hfp hlI => ?_)
  subst e
  obtain ⟨hh, o1, vs1, h1, d1⟩ := hot
  have lt1 := Heap.lt_size h1
  refine ⟨_, _, _, _, _, _, numAt xs, rfl, walksH (A := A.in1) _ l x1 hlI (Nat.ne_of_lt lt1) (intItems xs), ⟨st.1, st.2, hh, o1, vs1, Heap.get?_push_of_some _ h1, d1⟩, fun b hb => ?_, (fun _ _ => intItems_at), fun h' tk t' hk => ?_⟩
  · rcases List.mem_cons.mp hb with z | hb
    · exact hfp b (by rw [z]; exact List.mem_cons_self)
    · rcases List.mem_cons.mp hb with z | hb
      · exact hfp b (by rw [z]; exact List.mem_cons_of_mem _ List.mem_cons_self)
      · rw [List.mem_singleton.mp hb]
        exact Nat.lt_of_lt_of_le lt1 (by show _ ≤ (s.heap.push _).objs.size; rw [Heap.size_push]; exact Nat.le_succ _)
  · have q := h h' tk t' (old_kept hk)
    simpa [intItems] using q
end
section
variable {X : Cx}
theorem cr_sumH (hc : HotC X) : CallR X (.builtin "sum") (rSum X.K) := by
  intro pins s σ H vs us Q I r h
  obtain ⟨a, ns, rfl, hs, q⟩ := h
  obtain ⟨its, rv, hl, _⟩ := I.list hs
  rw [Vals.ref1 r]
  obtain ⟨x1, hot⟩ := hc.at I
  have hi := rv.ints
  obtain ⟨xs, e⟩ := hi.allInts.items
  have hn : numsOf (intItems xs).toList = ns := by
    rw [← e]
    exact hi.numsOf
  rw [nums_intItems] at hn
  subst hn
  have hl' := hl.isList
  rw [e] at hl'
  refine sum_hot hot hl' fun h' tk t' hk => ⟨.int _, H, I.kept hk, ⟨t', ?_⟩, q⟩
  rw [preSum_eq, List.take_of_length_le (by simp)]
/-- a block that starts while p is handled -/
abbrev hblk (X : Cx) (p : Addr × Obj) (s : Shared) (H : Hp) (scope : Scope) (ce : Env) (fp : List Addr) : Cx := blkP X [p] s H scope ce fp
theorem inv_hblk {p : Addr × Obj} {pins : List (Addr × Obj)} {σ σ' : L2.St} {H : Hp} {s s4 : Shared} {scope : Scope} {ce : Env} {fp : List Addr} (I : Inv X pins σ H s) (hp : p ∈ X.pn) (J : Inv (X.blk s H scope ce fp) [] σ' H s4)
    (hk : ∀ b o, s.heap.get? b = some o → s4.heap.get? b = some o) (hL : ce.locals = s.heap.objs.size) : Inv (hblk X p s H scope ce fp) [] σ' H s4 := by
  obtain ⟨⟨o1, o2, o3, o4, o5, o6, o7, o8, o9, o10, o11, o12, o13, o14, o15, o16, o17, o18⟩, j1, j2, j3, j4, j5, j6, j7, _, j8, j9⟩ := J
  refine ⟨⟨o1, o2, o3, o4, o5, o6, o7, o8, o9, o10, o11, o12, o13, o14, o15, o16, o17, o18⟩, j1, j2, j3, j4, j5, j6, j7, fun q hq => ?_, j8, j9⟩
  have e : q = p := by simpa using (show q ∈ [p] ++ ([] : List (Addr × Obj)) from hq)
  rw [e]
  obtain ⟨a1, a2, a3, a4, a5⟩ := I.pin p (List.mem_append_left _ hp)
  refine ⟨hk _ _ a1, a2, ?_, fun z => ?_, a5⟩
  · show p.1 ≠ ce.locals
    rw [hL]
    exact Nat.ne_of_lt (Heap.lt_size a1)
  · exact (List.mem_cons.mp (I.stkSub p.1 z)).elim a3 a4
theorem turnH_list {P : Program} {w : World} {K : PySem.W.Frag} {tg : Expr} (a it : Addr) : TurnH P w K tg (Itl K a) [it] it (fun i h => h.IsListIter it a i) where
  mem := List.mem_singleton.mpr rfl
  obj := fun i h ⟨o, e, c, d⟩ b hb => by
    rw [List.mem_singleton.mp hb]
    exact ⟨o, e, fun v z => by rw [d] at z; cases z⟩
  keep := fun i h h' st k => st.at fun o e => k it (List.mem_singleton.mpr rfl) o e
  item := by
    rintro X rfl rfl rfl hc i pins s σ H E I hf st ⟨xs, x, hq, hx⟩
    obtain ⟨its, rv, p, hz⟩ := I.list hq
    obtain ⟨u, hu, ru⟩ := rv.get hx
    obtain ⟨f0, f1, f2, f3, f4, f5⟩ := hf it (List.mem_singleton.mpr rfl)
    refine wpAny_pyNext_list_item st p.isList (x := u) (by simpa using hu) fun h' st' sb => ?_
    obtain ⟨o, e, c, d⟩ := id st'
    have I1 : Inv X pins σ H { s with heap := h' } := I.turned (t' := s.toks) (fun b o hb e => (sb.2 b hb).trans e) f0 f1 f3 f4 f5
    refine ⟨u, rfl, go_of (s := { s with heap := h' }) e c d (by decide) ⟨x, H, I1, ru, ⟨rfl, fun ys hy => ?_⟩, st', fun b hb => (hf b hb).1⟩⟩
    rw [I.list_inj hy hq]
    exact hx
  done := by
    rintro X rfl rfl rfl hc i pins s σ H E I hf st ⟨xs, hq, hx⟩
    obtain ⟨its, rv, p, hz⟩ := I.list hq
    obtain ⟨f0, f1, f2, f3, f4, f5⟩ := hf it (List.mem_singleton.mpr rfl)
    have hl := rv.length
    obtain ⟨p1, ⟨hh, v1, e1, c1⟩, hp⟩ := hc
    have P1 := I.pin p1 (List.mem_append_left _ hp)
    refine next_list_end_hot (x1 := p1.1) ⟨hh, p1.2, v1, P1.1, e1, c1⟩ (f5 p1 (List.mem_append_left _ hp)) st p.isList (by simp; omega) fun h' eb => ⟨rfl, I.turned (t' := s.toks) (fun b o hb e => eb b o hb e) f0 f1 f3 f4 f5⟩
  self := fun _ _ _ _ _ st h => wpAny_pyIter_listiter st h
theorem piH_list {tg l : Expr} {tl : TE} (hl : PE X l tl) : PIH X tg l (iList X.K tl) := ⟨fun pins s σ H R I h => thn (hl.run pins s σ H _ I h) fun v s1 ⟨x, H1, I1, r1, q1⟩ => by
  obtain ⟨a, e, ⟨xs, hq⟩, q⟩ := q1
  subst e
  cases r1
  obtain ⟨its, rv, p, hz⟩ := I1.list hq
  refine wpAny_pyIter_list p.isList ⟨s1.heap.objs.size, [s1.heap.objs.size], _, _, H1, rfl, I1.kept (t' := s1.toks) fun b o e => Heap.get?_push_of_some _ e, turnH_list a _, ⟨_, Heap.get?_push_size _ rfl, rfl, rfl⟩, fun b hb => ?_, q⟩
  rw [List.mem_singleton.mp hb]
  exact I1.fpOk (Nat.le_refl _) (I1.hok.fresh (Nat.le_refl _))⟩
/-- [elt for target in iter] while p is handled -/
theorem pe_lcH {p : Addr × Obj} {elt tg iter : Expr} {ifs : List Expr} {scope : Scope} {own : List (Str × Nat)} {pos : Pos} {wi : TI} {g : TG} {tt : TT} {te : TE} (ho : Hot1 X.A p) (hp : p ∈ X.pn) (hN : X.N.Nodup) (hi : PIH X tg iter wi) (ok : BlkOk X.N X.env.scope scope own)
    (hg : ∀ (s : Shared) (H : Hp) (C : Addr) (cl : List (Str × Addr)) (fp : List Addr), PG (hblk X p s H scope (compEnvC scope cl C X.env) fp) tg g)
    (ht : ∀ (s : Shared) (H : Hp) (C : Addr) (cl : List (Str × Addr)) (fp : List Addr), PTs (hblk X p s H scope (compEnvC scope cl C X.env) fp) ifs tt)
    (he : ∀ (s : Shared) (H : Hp) (C : Addr) (cl : List (Str × Addr)) (fp : List Addr), PE (hblk X p s H scope (compEnvC scope cl C X.env) fp) elt te) (hs : ∀ x, foldedSetIterable iter X.env x = pure x := by intro _; rfl) :
    PE X (.ListComp elt [⟨tg, iter, ifs, 0⟩] scope pos) (tLc wi g tt te (own.map (·.2))) := by
  refine ⟨fun pins s σ H Q I h => ?_⟩
  rw [eval_ListComp]
  have hfree : ∀ y ∈ scope.names, y.2 = .free → ∃ c, X.env.cells.lookup y.1 = some c := fun y hy e => (ok.free y hy e).elim (fun k => I.ok.has _ (.inl k)) fun k => I.ok.has _ (.inr k)
  refine wpAny_comprehension_free (use := none) rfl hs (closure_ok hfree) ok.kind (fun y hy e => by rw [ok.uniq y hy, e]) (thn (hi.run pins s σ H _ I h) fun xv s1 hx => thn hx fun itv s2 ⟨it, fp, tn, J, H2, e, I2, T, st2, f2, q⟩ => ?_)
  subst e
  refine wpAny_newObj_type (newEnv_comp ?_) (by show 0 ≤ sizeLine; decide)
  generalize hD : s2.heap.objs.size = D
  obtain ⟨W, ⟨m0, w0⟩, turn⟩ := q D (I2.hok.fresh (Nat.le_of_eq hD))
  generalize hs3 : ({ s2 with heap := s2.heap.push { cls := .type "list", data := .seq ([] : List Value).toArray } } : Shared) = s3
  have h3 : s3.heap = s2.heap.push { cls := .type "list", data := .seq ([] : List Value).toArray } := by rw [← hs3]
  have I3 : Inv X pins σ (upd H2 D (.lst [])) s3 := by
    rw [← hs3]
    refine I2.laid (t' := s2.toks) (fun b o e => Heap.get?_push_of_some _ e) (Nat.le_of_eq hD) ⟨Nat.zero_le _, [], 0, .nil, ?_⟩
    rw [← hD]; exact Heap.get?_push_size _ rfl
  have f3 : ∀ b ∈ fp, FpOk X pins (upd H2 D (.lst [])) b ∧ b < s3.heap.objs.size := fun b hb => by
    obtain ⟨o, e, _⟩ := T.obj _ _ st2 b hb
    have hlt := Heap.lt_size e
    have f := f2 b hb
    refine ⟨⟨?_, f.2⟩, ?_⟩
    · rw [upd_ne (by rw [← hD]; exact Nat.ne_of_lt hlt)]
      exact f.1
    · rw [h3, Heap.size_push]
      exact Nat.lt_succ_of_lt hlt
  have st3 : tn 0 s3.heap := T.keep _ _ _ st2 fun b _ o e => by
    rw [h3]
    exact Heap.get?_push_of_some _ e
  generalize hcl : cellsFrom (s3.heap.objs.size + 1) scope.names (cloFrom X.env.cells scope.names []) = cl
  have I4 := block_start I3 ok hN f3
  rw [hcl] at I4
  have kk : ∀ b o, s3.heap.get? b = some o → (pushCells (s3.heap.push { cls := .type "dict", data := .dict #[] }) scope.names).get? b = some o := fun b o e => pushCells_keeps _ _ _ _ (Heap.get?_push_of_some _ e)
  have I4 := inv_hblk I3 hp I4 kk rfl
  have pg := hg s3 (upd H2 D (.lst [])) s3.heap.objs.size cl fp
  have pt := ht s3 (upd H2 D (.lst [])) s3.heap.objs.size cl fp
  have pe := he s3 (upd H2 D (.lst [])) s3.heap.objs.size cl fp
  show codeAny _ _ (.compStart (.ListComp elt [⟨tg, iter, ifs, 0⟩] scope pos) 0 (.ref it) (.ref D) (compEnvC scope cl s3.heap.objs.size X.env)) (compPost (model X.prog X.w) X.A X.xe none (EP X pins σ Q) (.ref D) s3.heap.objs.size) { s3 with heap := pushCells (s3.heap.push { cls := .type "dict", data := .dict #[] }) scope.names }
  have nfp : ∀ b ∈ fp, upd H2 D (.lst []) b = none := fun b hb => (f3 b hb).1.1
  generalize hce : compEnvC scope cl s3.heap.objs.size X.env = ce at I4 pg pt pe ⊢
  have cL : ce.locals = s3.heap.objs.size := by
    subst hce
    rfl
  generalize hH3 : upd H2 D (.lst []) = H3 at I3 I4 pg pt pe w0 nfp f3
  generalize hs4 : ({ s3 with heap := pushCells (s3.heap.push { cls := .type "dict", data := .dict #[] }) scope.names } : Shared) = s4 at I4 ⊢
  have st4 : tn 0 s4.heap := T.keep _ _ _ st3 fun b _ o e => by
    rw [← hs4]
    exact kk b o e
  have hcB : HotC (hblk X p s3 H3 scope ce fp) := ⟨p, ho, List.mem_singleton.mpr rfl⟩
  have stat : ∀ {σ' : L2.St} {H' : Hp} {s' : Shared}, Inv (hblk X p s3 H3 scope ce fp) [] σ' H' s' → (∀ b ∈ fp, H' b = none) → ∀ b ∈ fp, FpOk (hblk X p s3 H3 scope ce fp) [] H' b := fun {σ' H' s'} I' hn b hb => by
    refine ⟨hn b hb, (I'.ok.exf b hb).1, I'.ok.exfs b hb, .inl hb, fun x c e => (I'.ok.exf b hb).2 x c e, fun r hr => ?_⟩
    have e : r = p := by simpa using (show r ∈ [p] ++ ([] : List (Addr × Obj)) from hr)
    rw [e]
    exact (f3 b hb).1.2.2.2.2.2 p (List.mem_append_left _ hp)
  have loop : codeAny (model X.prog X.w) X.A (.compLoop (.ListComp elt [⟨tg, iter, ifs, 0⟩] scope pos) 0 (.ref it) (.ref D) ce) (compPost (model X.prog X.w) X.A X.xe none (EP X pins σ Q) (.ref D) s3.heap.objs.size) s4 := by
    refine compLoop_any (fun n s' => ∃ i H', Inv (hblk X p s3 H3 scope ce fp) [] (wipe σ (own.map (·.2))) H' s' ∧ tn i s'.heap ∧ (∀ b ∈ fp, H' b = none) ∧ W i n H') ?_ m0 ⟨0, H3, I4, st4, nfp, w0⟩
    rintro n s5 ⟨i, H5, I5, st5, n5, w5⟩
    rcases turn i n H5 w5 with ⟨stop, qq⟩ | ⟨go, Nx, hNx, step⟩
    · refine thnF (T.done (hblk X p s3 H3 scope ce fp) rfl rfl rfl hcB i [] s5 _ H5 (fun _ _ => False) I5 (stat I5 n5) st5 stop) fun r s6 ⟨hr, I6⟩ => ?_
      subst hr
      have I7 : Inv X pins σ H5 s6 := I3.call' (ch := fp) I6.os I6.base I6.hok I6.bare fun b hb => let f := (f3 b hb).1; ⟨f.2.2.2.1, f.2.1, f.2.2.2.2.1, f.2.2.2.2.2⟩
      have nC : H5 s3.heap.objs.size = none := by
        rw [← cL]
        exact I6.free
      obtain ⟨m, hn, _⟩ := I6.loc
      have hn : s6.heap.Ns ce.locals m := hn
      rw [cL] at hn
      obtain ⟨f0, f1, f2, f3, f4, f5⟩ := I3.fpOk (Nat.le_refl _) nC
      exact ⟨m, hn, fun h2 sb => ⟨.ref D, H5, I7.turned (t' := s6.toks) (fun b o hb e => (sb.2 b hb).trans e) f0 f1 f3 f4 f5, rfl, qq⟩⟩
    · refine thnF (T.item (hblk X p s3 H3 scope ce fp) rfl rfl rfl hcB i [] s5 _ H5 (fun _ _ => False) I5 (stat I5 n5) st5 go) fun r s6 ⟨u, hr, h6⟩ => ?_
      subst hr
      refine thnF h6 fun _ s7 ⟨x, H7, I7, r7, y7, st7, n7⟩ => ?_
      refine thnF (pg.run _ s7 _ H7 x u _ (I7.pinned (stat I7 n7) (T.obj _ _ st7)) r7 (step x H7 y7)) fun _ s8 ⟨σ8, H8, I8, hw8, q8⟩ => ?_
      refine thnF (pt.run _ s8 σ8 H8 _ I8 q8) fun b s9 ⟨H9, I9, q9⟩ => ?_
      have fin : ∀ {s' : Shared} {H' : Hp}, Inv (hblk X p s3 H3 scope ce fp) ([] ++ pinsAt fp s7.heap) σ8 H' s' → Nx H' → ∃ m, m < n ∧ ∃ i H', Inv (hblk X p s3 H3 scope ce fp) [] (wipe σ (own.map (·.2))) H' s' ∧ tn i s'.heap ∧ (∀ b ∈ fp, H' b = none) ∧ W i m H' := fun {s' H'} I' nx => by
        obtain ⟨m', hm, w'⟩ := hNx H' nx
        have pin' : ∀ b ∈ fp, ∀ o, s7.heap.get? b = some o → s'.heap.get? b = some o ∧ H' b = none := fun b hb o e => (I'.pin (b, o) (List.mem_append_right _ (List.mem_append_right _ (mem_pinsAt hb e)))).imp id And.left
        refine ⟨m', hm, i + 1, H', (I'.unpinned (pins := [])).weak (by rw [← hw8, wipe_length]) (fun j v e => ?_), T.keep _ _ _ st7 fun b hb o e => (pin' b hb o e).1, fun b hb => ?_, w'⟩
        · rw [← hw8] at e
          exact (wipe_some e).1
        · obtain ⟨o, e, _⟩ := T.obj _ _ st7 b hb
          exact (pin' b hb o e).2
      cases b with
      | false =>
        simp only [Bool.false_eq_true, if_false] at q9 ⊢
        exact fin I9 q9
      | true =>
        simp only [if_true] at q9 ⊢
        exact thnF (pe.run _ s9 σ8 H9 _ I9 q9) fun z s10 ⟨yv, H10, I10, r10, acc, hD10, hz10, nx⟩ => app_ok (X := hblk X p s3 H3 scope ce fp) I10 hD10 hz10 r10 fun s11 I11 => fin I11 nx
  exact codeAny_compStart_list loop (T.self X.A 0 _ _ _ st4 loop)
/-- isinstance(e, c), e the exception that is handled -/
theorem call_isP {D : Addr} {p : Addr × Obj} (C : ExcC X.K D) (hp : p ∈ X.pn) (hz : Zc (.ref D) none p.2) (hf : ∃ vs, p.2.data = .fields vs) : CallR X (.builtin "isinstance") (rIsE X.K D p.1) := by
  intro pins s σ H xs us Q I r h
  obtain ⟨c, cv, b, rfl, hcv, e, q⟩ := h
  obtain ⟨a, oe⟩ := p
  obtain ⟨hget, _⟩ := I.pin (a, oe) (List.mem_append_left _ hp)
  cases r with
  | cons rx rr => cases rr with
    | cons rt rr =>
      cases rr
      cases rx
      have ec := hcv _ rt
      subst ec
      obtain ⟨vs, hv⟩ := hf
      obtain ⟨oc, od, oda, osl⟩ := oe
      obtain ⟨h1, h2⟩ := hz
      dsimp only at h1 h2 hv hget
      subst h1 h2 hv
      exact PySem.W.kia_one (PySem.W.handS_kitx_exc C.hg C.hk C.hs C.hd C.ha C.hn C.ht C.hm) I.kIn (PySem.W.InstAt.mk hget rfl rfl trivial) e (fun z => nomatch z) fun tk => ⟨.bl b, H, I.kept (t' := tk) fun _ _ z => z, rfl, q⟩
end
section
variable {R : Hp → Hp → Prop} [RelC R] {X : Cx} {γ : List Sl} {pos : Pos}
/-- a class by its name -/
def ClN (X : Cx) (nm : Str) (c : V) (u : Value) : Prop := Gl X nm ∧ (nm == ("__debug__" : Str)) = false ∧ RelV c u ∧ (∀ u', RelV c u' → u' = u) ∧ (X.mg nm = some u ∨ (X.mg nm = none ∧ bootBuiltins nm = some u ∧ nm ≠ "__name__"))
theorem pe_cl {nm : Str} {c : V} {u : Value} {q : Pos} (h : ClN X nm c u) : PE X (.Name nm q) (tC c) := by
  obtain ⟨h1, h2, h3, _, h4 | ⟨h4, h5, h6⟩⟩ := h
  · exact pe_glob h1 h4 h3 h2
  · exact pe_bltn h1 h4 h5 h3 h6 h2
theorem ee_isP {D : Addr} {pr : Addr × Obj} {x nm : Str} {c : V} {u : Value} {b : Bool} {p0 p1 p2 : Pos} (i : Nat) (hc : ClN X nm c u) (C : ExcC X.K D) (hp : pr ∈ X.pn) (hz : Zc (.ref D) none pr.2) (hf : ∃ vs, pr.2.data = .fields vs) (hk : PySem.W.kitOne X.K (.ref D) u = some b)
    (hm : X.mg "isinstance" = none) (hi : γ[i]? = some (.val (.ref pr.1)) := by rfl) (hN : X.N[i]? = some x := by rfl)
    (hv : Vis X.env.scope x := by first | exact Or.inl rfl | exact Or.inr (Or.inl rfl) | exact Or.inr (Or.inr rfl)) (hd : (x == ("__debug__" : Str)) = false := by decide) (hcd : (x == ("__classdict__" : Str)) = false := by decide)
    (hg : Gl X "isinstance" := by rfl) (he : starEach [.Name x p1, .Name nm p2] X.env = (false, eval (.Name x p1) X.env) :: starEach [.Name nm p2] X.env := by rfl) (he2 : starEach [.Name nm p2] X.env = (false, eval (.Name nm p2) X.env) :: starEach [] X.env := by rfl) (hpl : (backTo pos (starEach [.Name nm p2] X.env)).any (·.1) = false := by rfl) :
    EE R X γ (.Call (.Name "isinstance" p0) [.Name x p1, .Name nm p2] [] pos) (.bool b) := fun H0 S0 σ H Q s k =>
  we_of (pe_callB (call_isP C hp hz hf) hg hm PyProof.Rows.boot_isinstance (pa_cons (pe_var hN hv hd hcd) (pa_cons (pe_cl hc) pa_nil he2) he) (by decide) (by decide) he hpl) ⟨_, s.val i _ hi, c, u, b, rfl, hc.2.2.2.1, hk, k _ H (s.ref) (.bl _)⟩
/-- [int(x) for x in xs] while p is handled -/
theorem ef_mapH {pr : Addr × Obj} {elt l : Expr} {scope : Scope} (x : Str) (j : Nat) {ds : List D} {tp : Pos} (o : D → D) (ho : Hot1 X.A pr) (hp : pr ∈ X.pn) (hN : X.N.Nodup) (hi : EE R X γ l (.list ds)) (ok : BlkOk X.N X.env.scope scope [(x, j)])
    (hg : ∀ (s : Shared) (H : Hp) (C : Addr) (cl : List (Str × Addr)) (fp : List Addr), PG (hblk X pr s H scope (compEnvC scope cl C X.env) fp) (.Name x tp) (gName j)) (hown : ∀ es, γ[j]? ≠ some (.own es))
    (ht : ∀ d ∈ ds, ∀ (s : Shared) (H : Hp) (C : Addr) (cl : List (Str × Addr)) (fp : List Addr), EE R (hblk X pr s H scope (compEnvC scope cl C X.env) fp) (γ.set j (.dat d)) elt (o d))
    (hl : ds.length ≤ 1000) (hs : ∀ x, foldedSetIterable l X.env x = pure x := by intro _; rfl) : EF R X γ (.ListComp elt [⟨.Name x tp, l, [], 0⟩] scope pos) (ds.map o) := by
  have h := lc_gen (mk := fun t => PE X (.ListComp elt [⟨.Name x tp, l, [], 0⟩] scope pos) t) (R := R) (γ := γ) (X := X) (scope := scope) (elt := elt) (tg := .Name x tp) (iter := l) (ifs := []) (own := [(x, j)]) (g := gName j) (L := ds.map fun d => (d, some (o d))) (wi := iList X.K (we X l)) [pr]
    (fun H0 S0 σ H Rk s k => hi H0 S0 σ H _ s fun v H1 r1 d1 => by
      cases d1 with
      | lst h1 h2 => exact ⟨_, rfl, ⟨_, (.inl (rd_keep off_in h1))⟩, k _ H1 r1 (by rw [List.map_map, show ((fun q : D × Option D => q.1) ∘ fun d => (d, some (o d))) = id from rfl, List.map_id]; exact itd_list (.lst h1 h2))⟩)
    (fun tt te h1 h2 => pe_lcH ho hp hN (piH_list pe_we) ok hg h1 h2 hs) (fun i hi es => by
      have e : i = j := by simpa using hi
      rw [e]
      exact hown es) (fun q hq => by
      obtain ⟨d, hd, rfl⟩ := List.mem_map.mp hq
      refine ⟨γ.set j (.dat d), ?_, fun H0 S0 σ H v Q s h k => ?_, fun _ _ _ _ _ => .inl ⟨rfl, rfl⟩, fun r e => by cases e; exact ht d hd⟩
      · show (γ.set j (.dat d)).set j .no = γ.set j .no
        rw [List.set_set]
      · show Q ((σ.set j none).set j (some v)) H
        refine k _ ?_ ?_
        · show ((σ.set j none).set j (some v)).set j none = σ.set j none
          rw [List.set_set, List.set_set]
        · have s3 : SI R X.K H0 S0 ((γ.set j .no).set j (.dat d)) ((σ.set j none).set j (some v)) H := s.putD j h
          rw [show (γ.set j .no).set j (.dat d) = γ.set j (.dat d) from List.set_set ..] at s3
          exact s3) (by rw [List.length_map]; exact hl)
  rw [List.filterMap_map, show ((fun q : D × Option D => q.2) ∘ fun d => (d, some (o d))) = (some ∘ o) from rfl, List.filterMap_eq_map] at h
  exact h.ef
theorem ee_sumH {a : Expr} {ns : List Int} {p : Pos} (ha : EE R X γ a (.list (ns.map .int))) (hc : HotC X) (hm : X.mg "sum" = none) (hg : Gl X "sum" := by rfl) (he : starEach [a] X.env = (false, eval a X.env) :: starEach [] X.env := by rfl) (hpl : (backTo pos (starEach [] X.env)).any (·.1) = false := by rfl) :
    EE R X γ (.Call (.Name "sum" p) [a] [] pos) (.int ns.sum) := ee_callB (ea_cons ha ea_nil he) ⟨_, cr_sumH hc, fun H vs Q hd k => by
  cases hd with
  | cons d t =>
    cases t
    cases d with
    | lst h1 h2 =>
      rw [vs_ints h2] at h1
      exact ⟨_, ns, rfl, .inl h1, k _ fun _ => .int _⟩⟩ hm PyProof.Rows.boot_sum hg (by decide) (by decide) he hpl
/-- xs.index(True) -/
theorem ee_indexT {l b : Expr} {bs : List Bool} (j : Nat) {apos : Pos} (hl : EE R X γ l (.list (bs.map .bool))) (hb : EE R X γ b (.bool true)) (h1 : bs[j]? = some true) (h2 : ∀ m, m < j → bs[m]? = some false)
    (hbase : attributeBase l "index" X.env (eval l X.env) = eval l X.env := by rfl)
    (hfew : ((backTo pos (starEach [b] X.env)).all (fun x => !x.1) && (backToKw pos (keywordEach [] X.env)).all (fun x => x.1.isSome) && decide (([b] : List Expr).length + ([] : List Keyword).length + (if ([] : List Keyword).isEmpty then 0 else 1) < 30)) = true := by rfl)
    (hline : (apos.endLine == pos.line) = true := by rfl) (hst : starEach [b] X.env = (false, eval b X.env) :: starEach [] X.env := by rfl) (hplain : (backTo pos (starEach [] X.env)).any (·.1) = false := by rfl) :
    EE R X γ (.Call (.Attribute l "index" apos) [b] [] pos) (.int j) := fun H0 S0 σ H Q s k =>
  we_of (pe_bm PySem.F.plainAttrs_list PySem.F.slot_list_index PySem.F.type_list_index mt_index pe_we pa_wa hbase hfew hline hst hplain) (hl H0 S0 σ H _ s fun v H1 r1 d1 => by
    have d1' := d1
    cases d1 with
    | lst g1 g2 =>
      refine ⟨.inl ⟨rfl, _, (.inl (rd_keep off_in g1))⟩, (ea_cons hb ea_nil hst) H0 S0 σ H1 _ (s.mono r1) fun ws H2 r2 d2 => ?_⟩
      cases d2 with
      | cons d2 t =>
        cases t
        cases d2
        have d3 := dt_up r2 d1'
        cases d3 with
        | lst g3 g4 =>
          rw [vs_bools g4] at g3
          have at_ : ∀ m : Nat, (bs.map V.bl)[m]? = bs[m]?.map V.bl := fun m => List.getElem?_map
          refine ⟨_, _, .bl true, j, .bl true, rfl, rfl, .inl (rd_keep off_in g3), rfl, ?_, ?_, rfl, fun m z hm hz => ?_, k _ H2 (Rel.trans r1 r2) (.int _)⟩
          · rw [List.all_map]
            exact List.all_eq_true.mpr fun _ _ => rfl
          · rw [at_, h1]
            rfl
          · rw [at_, h2 m hm] at hz
            cases hz
            rfl)
end
/-- a def that tells a word of the exception that is handled, a class D's -/
structure FnW (P : Program) (w : World) (K : PySem.W.Frag) (mg : Str → Option Value) (base : Heap) (x : Str) (k : Nat) (D : Addr) (wd : Str) : Prop where
  ok : ∃ (f : Addr) (fd : FuncData) (ps : List Str), mg x = some (.ref f) ∧ PySem.W.keepIn K (.ref f) = true ∧ Binds K fd ps [] ∧ ps.length = 1 ∧
    ∀ (A : Around) (outer : List Env) (s : Shared) (H : Hp) (args : Args) (p : Addr × Obj) (Q : VK), RoomH k A → Hot1 A p → PinOk outer H s p → Zc (.ref D) none p.2 → (∃ vs, p.2.data = .fields vs) → Env0 P w K mg base A outer s H → BindsTo s fd args (ps.zip [.ref p.1]) →
      (∀ H', Same H H' → Q (.str wd) H') → codeAny (model P w) A (.call (.ref f) args) (CR (L2N.CX P w) outer P w H s Q (fun _ _ _ => False)) s
theorem fnw_mk {Pr : Program} {w : World} {K : PySem.W.Frag} {mg : Str → Option Value} {base : Heap} {x : Str} {st : Stmt} {f : Addr} {fd : FuncData} {N ps : List Str} {k : Nat} {D : Addr} {wd : Str}
    (F : FunD K x x (defArgs st) (defBody st) (defScope st) [] [] f fd) (S : FnScope N ps (defScope st)) (hm : mg x = some (.ref f)) (hb : Binds K fd ps []) (hn : ps.length = 1)
    (body : ∀ (X : Cx) (p : Addr × Obj) (cdv : Value) (A : Around) (outer : List Env) (s : Shared) (H : Hp), X = cxH (L2N.CX Pr w) Pr w K mg base N x (defScope st) f cdv A outer s H (fun _ _ _ => False) p → RoomH k X.A → Hot1 X.A p → p ∈ X.pn → Zc (.ref D) none p.2 → (∃ vs, p.2.data = .fields vs) → X.K = K → X.mg = mg →
      SS Same X (.val (.ref p.1) :: List.replicate (N.length - 1) .no) (defBody st) { rt := fun e => e = .str wd }) : FnW Pr w K mg base x (k + 1) D wd := by
  obtain ⟨oc, od, dV, kV, doc, pm, an, cdv, ct, osl, rfl, lk, hcd, _, _⟩ := F.ex
  refine ⟨f, _, ps, hm, F.kp, hb, hn, fun A outer s H args p Q hr hot hpin hz hf e0 bt hq => ?_⟩
  have KX : K.In s.heap := e0.mod.kin.keeps fun b o e => (e0.bs b o e).1
  have lim : s.heap.NoLimit := e0.mod.nolimit.keeps fun b o e => (e0.bs b o e).1
  have hkind : ∀ y ∈ ps.zip [Value.ref p.1], (defScope st).names.lookup y.1 = some .local ∨ ((defScope st).names.lookup y.1 = some .cell ∧ ((cellsFrom (s.heap.objs.size + 1) (defScope st).names []).lookup y.1).isSome = true) := fun ⟨n, v⟩ hy =>
    (S.par n (List.of_mem_zip hy).1).elim .inl fun q => .inr ⟨q, PySem.W.cellsFrom_some _ _ _ (.inl q)⟩
  refine codeAny_call_function hr.depth (KX _ _ lk) rfl S.co S.gen rfl (PySem.W.codeRec_of KX hcd) (bt _ _ _ _ (wpAny_newFunctionEnv_cells S.kind hkind fun env he s1 x1 => ?_))
  subst he
  refine ⟨lim.keeps x1.toInCall.keep, codeAny_func ?_⟩
  let X : Cx := cxH (L2N.CX Pr w) Pr w K mg base N x (defScope st) f cdv A outer s H (fun _ _ _ => False) p
  have I : Inv X [] (L2.start N [.ref p.1]) H s1 := inv_startH S hpin e0 (by rw [hn]; rfl) (.cons rfl .nil) x1
  have hN : 1 ≤ N.length := by
    have := congrArg List.length S.pre
    rw [List.length_take, hn] at this
    omega
  have si : SI Same K H (fun _ => False) (.val (.ref p.1) :: List.replicate (N.length - 1) .no) (L2.start N [.ref p.1]) H := by
    have rp : ∀ {i : Nat} {y : Sl}, (List.replicate (N.length - 1) Sl.no)[i]? = some y → y = .no := fun {i y} h => by
      rw [List.getElem?_replicate] at h
      split at h
      · cases h
        rfl
      · cases h
    have nofp : ∀ i a, ¬ Fp (.val (.ref p.1) :: List.replicate (N.length - 1) .no) (L2.start N [.ref p.1]) i a := fun i a ⟨x, v, h1, _, h3⟩ => by
      cases i with
      | zero =>
        cases h1
        exact h3
      | succ i =>
        have e := rp (by simpa using h1)
        subst e
        exact h3
    refine ⟨Same.refl H, fun _ z => z.elim, ?_, fun i x h => ?_, fun i a f => absurd f (nofp i a), fun i j a f _ => absurd f (nofp i a)⟩
    · unfold L2.start
      simp
    · cases i with
      | zero =>
        cases h
        exact ⟨_, rfl, rfl⟩
      | succ i =>
        have h' : (List.replicate (N.length - 1) Sl.no)[i]? = some x := by simpa using h
        have e := rp h'
        subst e
        have hi := (List.getElem?_eq_some_iff.mp h').1
        rw [List.length_replicate] at hi
        refine ⟨none, ?_, trivial⟩
        unfold L2.start
        rw [List.getElem?_append_right (by simp), List.getElem?_replicate, if_pos (by simp; omega)]
  have tk : L2N.Takes X (fun c d _ H' => (fun _ _ _ => False : XK) c d H') := L2N.takes_of rfl rfl rfl rfl
  have run := body X p cdv A outer s H rfl (hr.deeper _) hot (List.mem_singleton.mpr rfl) hz hf rfl rfl H (fun _ => False) _ H { nx := fun _ H' => Q .non H', rt := Q } _ si tk (fun _ _ _ h _ => h.elim) ⟨fun e v H' he r' dv => by
    rw [show e = .str wd from he] at dv
    cases dv
    exact hq H' r', fun _ _ _ _ h => h.elim⟩ (fun _ _ _ h _ => h.elim) (fun _ _ _ h _ => h.elim) (fun _ _ h _ => h.elim)
  refine wpAny_mono ((pss_wss (X := X)).run [] s1 (L2.start N [.ref p.1]) H _ I run) (fun fl s' hs => ?_) fun e s' hs => hs
  cases fl with
  | ret u =>
    obtain ⟨v, σ', H', J, rv, q⟩ := hs
    exact ⟨v, H', J.os, J.bare, J.base, J.hok, rv, q⟩
  | next =>
    obtain ⟨σ', H', J, q⟩ := hs
    exact ⟨.non, H', J.os, J.bare, J.base, J.hok, rfl, q⟩
  | brk =>
    obtain ⟨_, _, _, q⟩ := hs
    exact q.elim
  | cont =>
    obtain ⟨_, _, _, q⟩ := hs
    exact q.elim
section
variable {R : Hp → Hp → Prop} [RelC R] {X : Cx} {γ : List Sl} {pos : Pos}
/-- word(e) -/
theorem pe_word {x e : Str} {D : Addr} {wd : Str} {k : Nat} {pr : Addr × Obj} {q p1 : Pos} (i : Nat) (F : FnW X.prog X.w X.K X.mg X.base x k D wd) (hr : RoomH k X.A) (hot : Hot1 X.A pr) (hp : pr ∈ X.pn) (hz : Zc (.ref D) none pr.2) (hf : ∃ vs, pr.2.data = .fields vs)
    (hN : X.N[i]? = some e) (hv : Vis X.env.scope e) (hd : (e == ("__debug__" : Str)) = false) (hcd : (e == ("__classdict__" : Str)) = false) (hg : Gl X x) (hdb : (x == ("__debug__" : Str)) = false)
    (he : starEach [.Name e p1] X.env = (false, eval (.Name e p1) X.env) :: starEach [] X.env) (hpl : (backTo pos (starEach [] X.env)).any (·.1) = false) :
    PE X (.Call (.Name x q) [.Name e p1] [] pos) (fun σ H Q => σ[i]? = some (some (.ref pr.1)) ∧ ∀ H', Same H H' → Q (.str wd) H') := by
  obtain ⟨f, fd, ps, h1, h2, h3, h4, h5⟩ := F.ok
  refine ⟨fun pins s σ H Q I h => ?_⟩
  refine wpAny_Call_Name_kw (ld_glob I hg h1 ?_ hdb)
  have ha : PA X [.Name e p1] _ := pa_cons (pe_var hN hv hd hcd) pa_nil he
  refine PySem.W.callWith_K (h₀ := X.base) I.ok.mod.kin h2 (thn (ha.run pos pins s σ H (fun vs H1 => vs = [.ref pr.1] ∧ H = H1) I ⟨_, h.1, rfl, rfl⟩) fun us s1 ⟨vs, H1, I1, r, ev, eH⟩ => ⟨I1.kIn, ?_⟩) he hpl
  subst ev eH
  rw [Vals.ref1 r]
  have P1 := I1.pin pr (List.mem_append_left _ hp)
  have hpin : PinOk X.stack H s1 pr := ⟨P1.1, P1.2.1, fun hm => (List.mem_cons.mp (I1.stkSub pr.1 hm)).elim P1.2.2.1 P1.2.2.2.1, P1.2.2.2.2⟩
  have b := h3 s1 [.ref pr.1] I1.kIn (by rw [List.append_nil, h4]; rfl)
  rw [List.append_nil] at b
  refine wpAny_call (codeAny_mono (h5 X.A X.stack s1 H ⟨[.ref pr.1], []⟩ pr Q hr hot hpin hz hf I1.env0 b h.2) fun r s' hq => ?_)
  cases r with
  | error e =>
    obtain ⟨_, _, _, _, _, _, _, _, _, _, _, _, z⟩ := hq
    exact z.elim
  | ok fl =>
    cases fl with
    | ret u => exact I1.after hq
    | next => exact hq.elim
    | brk => exact hq.elim
    | cont => exact hq.elim
theorem od_neH {i j : Int} {k : Nat} (hr : RoomH k X.A) : OpD X (compareOp .NotEq) (.int i) (.int j) (.bool (!(i == j))) := ⟨_, op_neD (by have := hr.un; omega), fun H x y Q hx hy k => ⟨.int i, .int j, hx.dp, hy.dp, rfl, rfl, k _ fun _ => .bl _⟩⟩
theorem cl_own {nm : Str} {C : Addr} (h : X.mg nm = some (.ref C)) (hg : Gl X nm := by rfl) (hd : (nm == ("__debug__" : Str)) = false := by decide) : ClN X nm (.ref C) (.ref C) := ⟨hg, hd, rfl, fun _ z => z, .inl h⟩
theorem cl_ty {nm : Str} {T : String} (h : X.mg nm = none) (hb : bootBuiltins nm = some (.type T)) (hg : Gl X nm := by rfl) (hd : (nm == ("__debug__" : Str)) = false := by decide) (hn : nm ≠ "__name__" := by decide) : ClN X nm (.ty T) (.type T) := ⟨hg, hd, rfl, fun _ z => z, .inr ⟨h, hb, hn⟩⟩
end
end An

/-! A lambda without parameters handed to a def that calls it and tells a word of what is raised. -/
namespace An
open PySem PySem.Spec PyProof.Rows L2 HotX L2H LamX
/-- as Same, but tables of code objects may grow -/
def SameN (T : List (Addr × Str)) (H H' : Hp) : Prop := Keep H H' ∧ (∀ a, H a ≠ none → H' a ≠ none) ∧ Tabs T H ∧ Tabs T H'
theorem tabs_keep {T : List (Addr × Str)} {H H' : Hp} (t : Tabs T H) (h : ∀ b o, H b = some o → ¬ MutO o → H' b = some o) : Tabs T H' := fun p hp => by
  obtain ⟨ps, h1, h2, h3⟩ := t p hp
  refine ⟨ps, h _ _ h1 (fun z => z), h2, fun pos cv hc => ?_⟩
  obtain ⟨c, e1, e2⟩ := h3 pos cv hc
  exact ⟨c, e1, h _ _ e2 fun z => z c p.2 rfl⟩
instance relN (T : List (Addr × Str)) : RelC (SameN T) where
  ends := fun {H H'} h => ⟨Keep.refl _, fun _ z => z, h.2.2.2, h.2.2.2⟩
  trans := fun h h' => ⟨h.1.trans h'.1, fun a z => h'.2.1 a (h.2.1 a z), h.2.2.1, h'.2.2.2⟩
  more := fun {H H1 H2} h sm => by
    refine ⟨h.1.trans (Keep.of sm), fun a z => ?_, h.2.2.1, h.2.2.2.ext sm⟩
    have z1 := h.2.1 a z
    cases e : H1 a with
    | none => exact absurd e z1
    | some o => rw [sm a o e]; exact fun q => nomatch q
  keep := fun h => h.1
  dom := fun {H H' a} h => h.2.1 a
  chg := fun {H H' a u} h n ⟨ys, hy, hm⟩ hu => by
    refine ⟨fun b o e q => ?_, fun b q => ?_, h.2.2.1, tabs_keep h.2.2.2 fun b o e q => ?_⟩
    · rw [upd_ne (ne_of_none e n)]
      exact h.1 b o e q
    · rw [upd_ne (fun z => q (by rw [z]; exact n))]
      exact h.2.1 b q
    · rw [upd_ne fun z => q (by rw [z, hy] at e; rw [← Option.some.inj e]; exact hm)]
      exact e
  cutr := fun {H H1 C} h c => by
    refine ⟨off_in, fun a z => ?_, tabs_keep h.2.2.2 fun b o e q => off_of (fun z => ?_) e, h.2.2.2⟩
    · cases e : off C H1 a with
      | none => exact absurd e z
      | some o => rw [(off_some e).2]; exact fun q => nomatch q
    · obtain ⟨u, e2, hm⟩ := c b z
      rw [e] at e2
      rw [← Option.some.inj e2] at hm
      exact q hm
  cut := fun {H H1 C} h c => by
    refine ⟨fun b o e q => off_of (fun z => ?_) (h.1 b o e q), fun b q => ?_, h.2.2.1, tabs_keep h.2.2.2 fun b o e q => off_of (fun z => ?_) e⟩
    · rw [(c b z).1] at e
      cases e
    · have q1 := h.2.1 b q
      cases e : H1 b with
      | none => exact absurd e q1
      | some o => rw [off_of (fun z => q (c b z).1) e]; exact fun q => nomatch q
    · obtain ⟨u, e2, hm⟩ := (c b z).2
      rw [e] at e2
      rw [← Option.some.inj e2] at hm
      exact q hm
section
variable {X : Cx} {pins : List (Addr × Obj)} {σ : L2.St} {H : Hp} {s : Shared}
theorem inv_xe {xe : Value → Shared → Prop} (I : Inv X pins σ H s) : Inv { X with xe := xe } pins σ H s := by
  obtain ⟨⟨o1, o2, o3, o4, o5, o6, o7, o8, o9, o10, o11, o12, o13, o14, o15, o16, o17, o18⟩, j1, j2, j3, j4, j5, j6, j7, j0, j8, j9⟩ := I
  exact ⟨⟨o1, o2, o3, o4, o5, o6, o7, o8, o9, o10, o11, o12, o13, o14, o15, o16, o17, o18⟩, j1, j2, j3, j4, j5, j6, j7, j0, j8, j9⟩
/-- the lambda's object -/
abbrev lamO (X : Cx) (params : Arguments) (body : Expr) (scope : Scope) (pm : Value) (c' : Addr) (ctv : Value) : Obj := PySem.W.kla_obj "<lambda>" (X.env.qual ++ "<lambda>") params body scope (cloFrom X.env.cells scope.names []) pm c' ctv
theorem lam_new {T : List (Addr × Str)} {c P : Addr} {params : Arguments} {body : Expr} {scope : Scope} {pos : Pos} {E : Value → Shared → Prop} {Q : Value → Shared → Prop} (I : Inv X pins σ H s) (TB : TabB X.base X.mg c P) (hcode : X.env.code = .ref c)
    (hm : (P, X.env.qual ++ "<lambda>") ∈ T) (hu : ∀ p ∈ T, p.1 = P → p.2 = X.env.qual ++ "<lambda>") (hT : Tabs T H) (hdef : defaultsOf params X.env = ([], [])) (hfree : ∀ y ∈ scope.names, y.2 = .free → ∃ c, X.env.cells.lookup y.1 = some c)
    (h : ∀ (f c' : Addr) (pm ctv : Value) (H1 : Hp) (s' : Shared), Inv X pins σ H1 s' → SameN T H H1 → s'.heap.get? f = some (lamO X params body scope pm c' ctv) → H1 f = none → f ∉ frs X.stack → H1 c' = some (CodeO c' (X.env.qual ++ "<lambda>")) → Q (.ref f) s') :
    wpAny (model X.prog X.w) X.A (eval (.Lambda params body scope pos) X.env) Q E s := by
  obtain ⟨ps, hP, ht, ha⟩ := hT _ hm
  have bP : s.heap.BuiltinsAt X.mg P := TB.bm.keeps I.bk
  have hP' : s.heap.get? P = some { cls := .none, data := .fields ps } := I.hok P _ hP
  have nofr : ∀ f, s.heap.objs.size ≤ f → f ∉ frs X.stack := fun f hf z => (List.mem_cons.mp (I.stkSub _ z)).elim (fun e => Nat.lt_irrefl _ (Nat.lt_of_lt_of_le (by have h1 := I.lt; rw [← e] at h1; exact h1) hf)) (I.nofs hf)
  refine PySem.W.kla_eval hdef ?_
  cases hc : codeAmong pos ps.toList with
  | some cv =>
    obtain ⟨c', rfl, hco⟩ := ha pos cv hc
    refine PySem.W.kla_makeFunctionHit (mg := X.mg) (c := c) (P := P) (ps := ps) (closure_ok hfree) I.ok.glob (I.mod.glob.keeps I.bk) hcode (TB.code.keeps I.bk) hP' ht hc bP fun ctv h' tk hx hsz => ?_
    refine h h'.objs.size c' ((X.mg "__name__").getD .none) ctv H _ (I.kept (t' := tk) fun b o e => Heap.get?_push_of_some _ (hx b o e)) ⟨Keep.refl H, fun _ z => z, hT, hT⟩ (Heap.get?_push_size _ rfl) (I.hok.fresh hsz) (nofr _ hsz) hco
  | none =>
    refine PySem.W.kla_makeFunction (mg := X.mg) (c := c) (P := P) (ps := ps) (closure_ok hfree) I.ok.glob (I.mod.glob.keeps I.bk) hcode (TB.code.keeps I.bk) hP' ht hc TB.gP bP fun c' ctv h' tk hx hge hlt hrec htb => ?_
    obtain ⟨c2, oc, vs, t, e2, hoc, hd, hv⟩ := hrec
    cases e2
    have nC : H c' = none := I.hok.fresh hge
    have hsz : s.heap.objs.size ≤ h'.objs.size := Nat.le_trans hge (Nat.le_of_lt hlt)
    have I1 := inv_table (t' := tk) (more := #[rawInt pos.line, rawInt pos.col, .ref c']) (h' := h'.push (lamO X params body scope ((X.mg "__name__").getD .none) c' ctv)) I hP (fun b o hb e => Heap.get?_push_of_some _ (hx b o hb e)) (Heap.get?_push_of_some _ htb) hge ⟨oc, vs, t, Heap.get?_push_of_some _ hoc, hd, hv⟩
    have eL : (ps ++ #[rawInt pos.line, rawInt pos.col, .ref c']).toList = ps.toList ++ [rawInt pos.line, rawInt pos.col, .ref c'] := by simp
    generalize hH1 : upd (upd H P (.tbl (ps ++ #[rawInt pos.line, rawInt pos.col, .ref c']))) c' (CodeO c' (X.env.qual ++ "<lambda>")) = H1 at I1
    have atC : H1 c' = some (CodeO c' (X.env.qual ++ "<lambda>")) := by
      rw [← hH1, upd_same]
    have atP : H1 P = some (.tbl (ps ++ #[rawInt pos.line, rawInt pos.col, .ref c'])) := by
      rw [← hH1, upd_ne (ne_of_none hP nC), upd_same]
    have at_ : ∀ b, b ≠ P → b ≠ c' → H1 b = H b := fun b h1 h2 => by
      rw [← hH1, upd_ne h2, upd_ne h1]
    have kp : Keep H H1 := fun b o e n => by
      rw [at_ b (fun z => n ps (Option.some.inj (e.symm.trans (by rw [z]; exact hP)))) (ne_of_none e nC)]
      exact e
    have T1 : Tabs T H1 := fun p hp => by
      by_cases hb : p.1 = P
      · rw [hu p hp hb, hb]
        refine ⟨_, atP, by rw [eL]; exact PySem.TriplesOk_snoc _ _ _ _ ht, fun p' cv hcv => ?_⟩
        rw [eL] at hcv
        rcases among_app _ ht hcv with z | z
        · obtain ⟨c0, e1, e2⟩ := ha p' cv z
          exact ⟨c0, e1, kp _ _ e2 codeO_ne⟩
        · exact ⟨c', z, atC⟩
      · obtain ⟨ps', a1, a2, a3⟩ := hT p hp
        refine ⟨ps', by rw [at_ _ hb (ne_of_none a1 nC)]; exact a1, a2, fun p' cv hcv => ?_⟩
        obtain ⟨c0, e1, e2⟩ := a3 p' cv hcv
        exact ⟨c0, e1, kp _ _ e2 codeO_ne⟩
    refine h h'.objs.size c' ((X.mg "__name__").getD .none) ctv _ _ I1 ⟨kp, fun b hb => ?_, hT, T1⟩ (Heap.get?_push_size _ rfl) ?_ (nofr _ hsz) atC
    · by_cases h1 : b = P
      · rw [h1, atP]
        exact fun z => nomatch z
      · rw [at_ b h1 (fun z => hb (by rw [z]; exact nC))]
        exact hb
    · rw [at_ _ (Nat.ne_of_gt (Nat.lt_of_lt_of_le (Heap.lt_size hP') hsz)) (Nat.ne_of_gt hlt)]
      exact I.hok.fresh hsz
/-- the context of the lambda's body -/
def lamN (X : Cx) (A : Around) (outer : List Env) (s : Shared) (H : Hp) (E : XK) (scope : Scope) (f c' : Addr) : Cx :=
  { lamCx X A outer s H E scope f c' with xe := fun e s' => wpAny (model X.prog X.w) (A.deeper (lamEnv X scope s.heap.objs.size f c')) (leaving (lamEnv X scope s.heap.objs.size f c') e) (fun _ s'' => L2N.CX X.prog X.w outer H s E e s'') (fun e' s'' => L2N.CX X.prog X.w outer H s E e' s'') s' }
/-- what the told def lets be of an exception -/
def Ew (X : Cx) (CS : Addr) (wn : Str) (kw : Nat) (Q : VK) : XK := fun cls d H' => ∃ (D : Addr) (wd : Str), cls = .ref D ∧ d = none ∧ PySem.W.exmOne X.K cls (.ref CS) = some true ∧ FnW X.prog X.w X.K X.mg X.base wn kw D wd ∧ ∀ H'', Same H' H'' → Q (.str wd) H''
/-- x(lambda: body), x as: try: return a() / except ne as en: return wn(en) -/
theorem pe_told {T : List (Addr × Str)} {x a ne en wn : Str} {g c P CS : Addr} {k kw : Nat} {st : Stmt} {fd : FuncData} {params : Arguments} {body : Expr} {scope : Scope} {p lpos pos p1 p2 p3 p4 p5 p6 p7 p8 p9 p0 : Pos} (F : FunD X.K x x (defArgs st) (defBody st) (defScope st) [] [] g fd)
    (hbg : defBody st = [.Try [.Return (some (.Call (.Name a p1) [] [] p2)) p3] [.ExceptHandler (some (.Name ne p4)) (some en) [.Return (some (.Call (.Name wn p5) [.Name en p6] [] p7)) p8] p9] [] [] p0])
    (hg : Gl X x) (hm : X.mg x = some (.ref g)) (hb : L2.Binds X.K fd [a] []) (Sg : FnScope [a, en] [a] (defScope st)) (hva : Vis (defScope st) a) (hvn : (defScope st).names.lookup en = some .local)
    (hne : (defScope st).names.lookup ne = some .globalImplicit) (hme : X.mg ne = some (.ref CS)) (hwn : (defScope st).names.lookup wn = some .globalImplicit)
    (TB : TabB X.base X.mg c P) (hcode : X.env.code = .ref c) (hmT : (P, X.env.qual ++ "<lambda>") ∈ T) (hu : ∀ p ∈ T, p.1 = P → p.2 = X.env.qual ++ "<lambda>") (hr : Room (k + 2) X.A) (hkw : kw ≤ k + 1) (L : LamS X.env.scope scope) (hdef : defaultsOf params X.env = ([], []))
    (hbind : ∀ (q : Str) (cl : List (Str × Addr)) (pm cv ctv : Value), bindArgs (PySem.W.kla_fn "<lambda>" q params body scope cl pm cv ctv) ⟨[], []⟩ = pure [])
    (hdb : (x == ("__debug__" : Str)) = false) (hd : (a == ("__debug__" : Str)) = false) (hcd : (a == ("__classdict__" : Str)) = false) (hde : (ne == ("__debug__" : Str)) = false) (hdw : (wn == ("__debug__" : Str)) = false) (hd2 : (en == ("__debug__" : Str)) = false) (hcd2 : (en == ("__classdict__" : Str)) = false) :
    PE X (.Call (.Name x p) [.Lambda params body scope lpos] [] pos) (fun σ H Q => Tabs T H ∧ ∀ H1, SameN T H H1 → ∀ (A : Around) (outer : List Env) (s : Shared) (H' : Hp) (f c' : Addr) (E : XK), (∀ cls d H', Ew X CS wn kw Q cls d H' → E cls d H') → Room k (A.deeper (lamEnv X scope s.heap.objs.size f c')) → we (lamN X A outer s H' E scope f c') body σ H1 Q) := by
  refine ⟨fun pins s σ H Q I h => ?_⟩
  obtain ⟨hT, h⟩ := h
  obtain ⟨oc, od, dV, kV, doc, pm, an, cdv, ct, osl, rfl, lk, hcd0, _, _⟩ := F.ex
  refine wpAny_Call_Name_kw (ld_glob I hg hm ?_ hdb)
  refine PySem.W.callWith_K (h₀ := X.base) I.ok.mod.kin F.kp ?_ (by rfl) (by rfl)
  show wpAny _ _ (spliced ((false, eval (.Lambda params body scope lpos) X.env) :: backTo pos (starEach [] X.env))) _ _ _
  refine Calls.spliced_cons (lam_new I TB hcode hmT hu hT hdef (L.has I.ok) fun f c' pm' ctv H1 s' I1 eN hf hfn hfr hco => Calls.spliced_nil ⟨I1.kIn, ?_⟩)
  have rc : codeAny (model X.prog X.w) X.A (.call (.ref g) ⟨[.ref f], []⟩) (CR (L2N.CX X.prog X.w) X.stack X.prog X.w H1 s' Q (fun _ _ _ => False)) s' := by
    refine run_ofS (N := [a, en]) (ps := [a]) (us := [.ref f]) (vs := [.ref f]) lk hcd0 Sg hr I1.env0 (hb s' [.ref f] I1.kIn rfl) (.cons rfl .nil) rfl fun hr' => ?_
    rw [hbg]
    generalize hZ : cxOf (L2N.CX X.prog X.w) X.prog X.w X.K X.mg X.base [a, en] x (defScope st) g cdv X.A X.stack s' H1 (fun _ _ _ => False) = Z
    have zK : Z.K = X.K := by rw [← hZ]; rfl
    have tk0 : L2N.Takes Z (fun _ _ _ _ => False) := fun _ _ q => by
      obtain ⟨_, _, _, _, _, _, _, _, _, _, _, _, _, _, _, _, z⟩ := q
      exact z.elim
    have names : Names Z ne (.ref CS) := by
      rw [← hZ]
      exact ⟨hne, hde, .inl hme⟩
    -- a(), the lambda's body run
    have act : ∀ (W : WX) (pn : List (Addr × Obj)) (xe : Value → Shared → Prop), L2N.Takes (Z.tr pn xe) W → PE (Z.tr pn xe) (.Call (.Name a p1) [] [] p2) (fun σZ HZ QZ => σZ[0]? = some (some (.ref f)) ∧ HZ c' = some (CodeO c' (X.env.qual ++ "<lambda>")) ∧
        ∀ (A : Around) (outer : List Env) (s : Shared) (H' : Hp) (f c' : Addr), Room k (A.deeper (lamEnv X scope s.heap.objs.size f c')) → we (lamN X A outer s H' (fun cls d H2 => W cls d σZ H2) scope f c') body σ HZ QZ) := fun W pn xe tk => by
      subst hZ
      refine ⟨fun pinsZ sZ σZ HZ QZ IZ hz => ?_⟩
      obtain ⟨hs, hc, ht⟩ := hz
      refine wpAny_Call_Name_kw (thn ((pe_var (pos := p1) (i := 0) (x := a) rfl hva hd hcd).run pinsZ sZ σZ HZ (fun v H1 => v = .ref f ∧ H1 = HZ) IZ ⟨.ref f, hs, rfl, rfl⟩) fun u s1 ⟨v, H2, I2, r1, ev, eH⟩ => ?_)
      subst ev
      rw [eH] at I2
      obtain rfl : u = Value.ref f := r1
      have of1 : s1.heap.get? f = some (lamO X params body scope pm' c' ctv) := I2.base.keep f _ hf hfn hfr (fun z => nomatch (show f ∈ ([] : List Addr) from z))
      refine PySem.W.callWith_F0 ⟨_, _, _, _, of1⟩ ?_
      have un : Un (frs X.stack) [] H1 HZ s'.heap s1.heap := I2.base
      obtain ⟨⟨oc, vs, t, hoc, hdc, hvc⟩, _, _⟩ := I2.hok c' _ hc
      have hx := L2N.passAt tk σZ
      have rc : codeAny (model X.prog X.w) (X.A.deeper (envOfC x (defScope st) s'.heap.objs.size g cdv)) (.call (.ref f) ⟨[], []⟩) (CR (L2N.CX X.prog X.w) (envOfC x (defScope st) s'.heap.objs.size g cdv :: X.stack) X.prog X.w HZ s1 QZ (fun cls d H2 => W cls d σZ H2)) s1 := by
        refine PySem.W.kla_callFunE hr'.depth of1 rfl L.co L.gen rfl ⟨c', oc, vs, t, rfl, hoc, hdc, hvc⟩ ?_
        rw [hbind]
        refine wpAny_pure (wpAny_newFunctionEnv (fun y hy => (L.own y hy).2) (fun y hy => absurd hy (by simp)) (fun h1 hns hsb => ⟨I2.nolimit.fresh _ hsb, ?_⟩) L.kind)
        show codeAny _ _ (.expr body (lamEnv X scope s1.heap.objs.size f c')) _ _
        have kp : ∀ b o, s1.heap.get? b = some o → h1.get? b = some o := fun b o e => hsb.extBut b o (Nat.ne_of_lt (Heap.lt_size e)) (Heap.get?_push_of_some _ e)
        have J0 := lam_start2 (E := fun cls d H2 => W cls d σZ H2) (tk := s1.toks + ([] : List (Str × Value)).length) (f := f) (c' := c') I1 L I2.env0 hr'.hd un hns kp
        have J : Inv (lamN X (X.A.deeper (envOfC x (defScope st) s'.heap.objs.size g cdv)) (envOfC x (defScope st) s'.heap.objs.size g cdv :: X.stack) s1 HZ (fun cls d H2 => W cls d σZ H2) scope f c') [] σ HZ { s1 with heap := h1, toks := s1.toks + ([] : List (Str × Value)).length } := inv_xe J0
        refine PySem.W.kla_codeExpr (wpAny_mono ((pe_we (X := lamN X (X.A.deeper (envOfC x (defScope st) s'.heap.objs.size g cdv)) (envOfC x (defScope st) s'.heap.objs.size g cdv :: X.stack) s1 HZ (fun cls d H2 => W cls d σZ H2) scope f c')).run [] _ σ HZ QZ J (ht _ _ _ _ _ _ (hr'.deeper _))) (fun v s3 hq => ?_) fun e s3 hq => hq)
        obtain ⟨w', H', J', rv, q⟩ := hq
        exact ⟨w', H', J'.os, J'.bare, J'.base, J'.hok, rv, q⟩
      refine wpAny_call (codeAny_mono rc fun r s2 hq => ?_)
      cases r with
      | error e => exact hx pinsZ HZ s1 e s2 I2 hq
      | ok fl =>
        cases fl with
        | ret u => exact I2.after hq
        | next => exact hq.elim
        | brk => exact hq.elim
        | cont => exact hq.elim
    refine ⟨_, pss_one (L2N.ps_try_as (X := Z) (i := 1) (n := en) (x := ne) (c := .ref CS) (Wout := fun _ _ _ _ => False)
      (tb := fun W D σZ HZ => σZ[0]? = some (some (.ref f)) ∧ HZ c' = some (CodeO c' (X.env.qual ++ "<lambda>")) ∧ ∀ (A : Around) (outer : List Env) (s : Shared) (H' : Hp) (f c' : Addr), Room k (A.deeper (lamEnv X scope s.heap.objs.size f c')) → we (lamN X A outer s H' (fun cls d H2 => W cls d σZ H2) scope f c') body σ HZ D.rt)
      (ts := fun a' cls d D σZ HZ => ∃ (D' : Addr) (wd : Str), cls = .ref D' ∧ d = none ∧ FnW X.prog X.w X.K X.mg X.base wn kw D' wd ∧ σZ[1]? = some (some (.ref a')) ∧ ∀ H'', Same HZ H'' → D.rt (.str wd) H'')
      (by rw [← hZ]; rfl) (by rw [← hZ]; rfl) (by rw [← hZ]; exact Sg.nd) (by rw [← hZ]; rfl) (by rw [← hZ]; exact hvn) names tk0 (fun W pn xe tk _ => ?_) (fun a' oe cls d pn hz hf => ?_)), ?_⟩
    · exact pss_one (ps_ret (act W pn xe tk))
    · refine ⟨fun pins s2 σ2 H2 D2 I2 h2 => ?_⟩
      obtain ⟨D', wd, rfl, rfl, fw, h3, h4⟩ := h2
      obtain ⟨vs, hvs⟩ := hf
      subst hZ
      have hro : RoomH kw (X.A.deeper (envOfC x (defScope st) s'.heap.objs.size g cdv)) := (roomH_of hr').mono hkw
      refine (pss_one (ps_ret (pe_word (X := (cxOf (L2N.CX X.prog X.w) X.prog X.w X.K X.mg X.base [a, en] x (defScope st) g cdv X.A X.stack s' H1 (fun _ _ _ => False)).suite a' ((a', oe) :: pn)) (pr := (a', oe)) 1 fw ⟨hro.dp, hro.un⟩ ⟨rfl, vs, hvs, hz.2.2 vs hvs⟩ List.mem_cons_self hz.zc ⟨vs, hvs⟩ rfl (.inl hvn) hd2 hcd2 hwn hdw rfl rfl))).run pins s2 σ2 H2 D2 I2 ⟨h3, h4⟩
    · refine ⟨rfl, hco, fun A outer s2 H2 f2 c2 hrm => h H1 eN A outer s2 H2 f2 c2 _ (fun cls d H3 hE => ?_) hrm⟩
      obtain ⟨D', wd, rfl, rfl, e1, fw, hq⟩ := hE
      rw [zK]
      exact ⟨true, e1, fun _ a' na => ⟨D', wd, rfl, rfl, fw, rfl, hq⟩, fun z => nomatch z⟩
  refine wpAny_call (codeAny_mono rc fun r s2 hq => ?_)
  cases r with
  | error e =>
    obtain ⟨_, _, _, _, _, _, _, _, _, _, _, _, z⟩ := hq
    exact z.elim
  | ok fl =>
    cases fl with
    | ret u => exact I1.after hq
    | next => exact hq.elim
    | brk => exact hq.elim
    | cont => exact hq.elim
end
/-- told, from the frame X, whatever the lambda -/
def Tld (X : Cx) (T : List (Addr × Str)) (k kw : Nat) (CS : Addr) : Prop := ∀ (params : Arguments) (body : Expr) (scope : Scope) (p lpos pos : Pos), LamS X.env.scope scope → defaultsOf params X.env = ([], []) →
  (∀ (q : Str) (cl : List (Str × Addr)) (pm cv ctv : Value), bindArgs (PySem.W.kla_fn "<lambda>" q params body scope cl pm cv ctv) ⟨[], []⟩ = pure []) →
  PE X (.Call (.Name "_law_told" p) [.Lambda params body scope lpos] [] pos) (fun σ H Q => Tabs T H ∧ ∀ H1, SameN T H H1 → ∀ (A : Around) (outer : List Env) (s : Shared) (H' : Hp) (f c' : Addr) (E : XK), (∀ cls d H', Ew X CS "_law_word" kw Q cls d H' → E cls d H') → Room k (A.deeper (lamEnv X scope s.heap.objs.size f c')) → we (lamN X A outer s H' E scope f c') body σ H1 Q)
/-- e raises the class c -/
def EX (R : Hp → Hp → Prop) (X : Cx) (γ : List Sl) (e : Expr) (c : Value) : Prop :=
  ∀ (H0 : Hp) (S0 : Addr → Prop) (σ : L2.St) (H : Hp) (Q : VK) (W : XK), SI R X.K H0 S0 γ σ H → L2N.Takes X (fun c d _ H' => W c d H') → (∀ H2, R H H2 → W c none H2) → we X e σ H Q
theorem ex_call {R : Hp → Hp → Prop} [RelC R] {X : Cx} {γ : List Sl} {pos : Pos} {x : Str} {k n : Nat} {Val : List D → D → Prop} {Exc : List D → Value → Prop} {e : Expr} {es : List Expr} {p : Pos} {ds : List D} {c : Value} (F : Fn X.prog X.w X.K X.mg X.base x k n Val Exc) (hr : Room k X.A) (ha : EA R X γ (e :: es) ds) (hv : Exc ds c) (hn : ds.length = n := by rfl) (hg : Gl X x := by rfl)
    (hdb : (x == ("__debug__" : Str)) = false := by decide) (he : starEach (e :: es) X.env = (false, eval e X.env) :: starEach es X.env := by rfl) (hpl : (backTo pos (starEach es X.env)).any (·.1) = false := by rfl) :
    EX R X γ (.Call (.Name x p) (e :: es) [] pos) c := fun H0 S0 σ H Q W s tk z => by
  obtain ⟨f, fd, ps, h1, h2, h3, h4⟩ := F.ok
  refine we_of (pe_call (E := W) h1 hr hg h2 h3 h4 .nil (L2N.passes_call tk fun _ _ _ _ h => h) pa_wa hdb he hpl) (ha H0 S0 σ H _ s fun vs H1 r1 d1 => ?_)
  rw [List.append_nil]
  exact ⟨by rw [dps_len d1]; exact hn, Sx S0 γ σ, ds, sx_dom (s.mono r1), d1, .inr ⟨c, hv, fun H2 sm => z H2 (Rel.more r1 sm)⟩⟩
section
variable {X : Cx} {T : List (Addr × Str)} {k kw : Nat} {CS : Addr} {γ : List Sl} {params : Arguments} {body : Expr} {scope : Scope} {p lpos pos : Pos}
theorem ee_told {d : D} (t : Tld X T k kw CS) (hbody : ∀ (A : Around) (outer : List Env) (s : Shared) (H' : Hp) (f c' : Addr) (E : XK), Room k (A.deeper (lamEnv X scope s.heap.objs.size f c')) → EE (SameN T) (lamN X A outer s H' E scope f c') γ body d)
    (L : lamSB X.env.scope scope = true := by rfl) (hdef : defaultsOf params X.env = ([], []) := by rfl) (hbind : ∀ (q : Str) (cl : List (Str × Addr)) (pm cv ctv : Value), bindArgs (PySem.W.kla_fn "<lambda>" q params body scope cl pm cv ctv) ⟨[], []⟩ = pure [] := by exact fun _ _ _ _ _ => rfl) :
    EE (SameN T) X γ (.Call (.Name "_law_told" p) [.Lambda params body scope lpos] [] pos) d := fun H0 S0 σ H Q s kk =>
  we_of (t params body scope p lpos pos (lamS_by L) hdef hbind) ⟨s.rel.2.2.2, fun H1 r1 A outer s2 H' f c' E hE hr => hbody A outer s2 H' f c' E hr H0 S0 σ H1 Q (s.mono r1) fun v H2 r2 d2 => kk v H2 (Rel.trans r1 r2) d2⟩
theorem ee_toldX {D : Addr} {wd : Str} (t : Tld X T k kw CS) (he : PySem.W.exmOne X.K (.ref D) (.ref CS) = some true) (fw : FnW X.prog X.w X.K X.mg X.base "_law_word" kw D wd)
    (hbody : ∀ (A : Around) (outer : List Env) (s : Shared) (H' : Hp) (f c' : Addr) (E : XK), Room k (A.deeper (lamEnv X scope s.heap.objs.size f c')) → EX (SameN T) (lamN X A outer s H' E scope f c') γ body (.ref D))
    (L : lamSB X.env.scope scope = true := by rfl) (hdef : defaultsOf params X.env = ([], []) := by rfl) (hbind : ∀ (q : Str) (cl : List (Str × Addr)) (pm cv ctv : Value), bindArgs (PySem.W.kla_fn "<lambda>" q params body scope cl pm cv ctv) ⟨[], []⟩ = pure [] := by exact fun _ _ _ _ _ => rfl) :
    EE (SameN T) X γ (.Call (.Name "_law_told" p) [.Lambda params body scope lpos] [] pos) (.str wd) := fun H0 S0 σ H Q s kk =>
  we_of (t params body scope p lpos pos (lamS_by L) hdef hbind) ⟨s.rel.2.2.2, fun H1 r1 A outer s2 H' f c' E hE hr => hbody A outer s2 H' f c' E hr H0 S0 σ H1 Q E (s.mono r1) (L2N.takes_of rfl rfl rfl rfl)
    fun H2 r2 => hE _ _ _ ⟨D, wd, rfl, rfl, he, fw, fun H3 sm => kk (.str wd) H3 (Rel.more (Rel.trans r1 r2) sm) (.str _)⟩⟩
end
end An

/-! What the top leaves: the head's hook with two tables of the machine, the law's own promise. -/
namespace An
open PySem PySem.Spec PyProof.Rows L2 LamX He
/-! ### the hook -/
def asN (g : Addr → Option Obj) (n : Nat) : List Addr := asD g n ++ [sysModules, cStatics]
def obsN (n : Nat) (fa : List Fa) (fn : List DefD) (tf : List Defn) (ex : List (PySem.W.Frag → Bool)) (g : Addr → Option Obj) : AlX := (obsT fa fn [] (frT g (asN g n)), (ex.all fun f => f (frT g (asN g n))) && tabsB g tf (frT g (asN g n)))
theorem saysN_of {n : Nat} {fa : List Fa} {fn : List DefD} {tf : List Defn} {ex : List (PySem.W.Frag → Bool)} {w : World} {h : Heap} (e : obsN n fa fn tf ex h.get? = valX fn [] w) : SaysX fa fn [] tf (fun K => ex.all fun f => f K) w h (frT h.get? (asN h.get? n)) := by
  have e1 : obsT fa fn [] (frT h.get? (asN h.get? n)) = valT fn [] w := congrArg Prod.fst e
  have e2 : ((ex.all fun f => f (frT h.get? (asN h.get? n))) && tabsB h.get? tf (frT h.get? (asN h.get? n))) = true := congrArg Prod.snd e
  generalize frT h.get? (asN h.get? n) = K, (fun (a : Addr) (o : Obj) (q : h.get? a = some o) (z : emptyTab o = true) => frT_none (as := asN h.get? n) q z) = out at e1 e2
  obtain ⟨h1, h2⟩ := ba e2
  have key : ∀ p ∈ tf, PySem.W.codeHdIn K (cT K p).1 (cT K p).2 = true ∧ ∃ o, h.get? (cT K p).2 = some o ∧ emptyTab o = true := fun p hp => by
    obtain ⟨h3, h4⟩ := ba (List.all_eq_true.mp h2 p hp)
    refine ⟨h3, ?_⟩
    cases q : h.get? (cT K p).2 with
    | none => rw [q] at h4; cases h4
    | some o => rw [q] at h4; exact ⟨o, rfl, h4⟩
  refine ⟨e1, h1, fun p hp => (key p hp).1, fun p hp => ?_, fun p hp => ?_⟩
  · obtain ⟨_, o, q, z⟩ := key p hp
    exact out _ o q z
  · obtain ⟨_, o, q, z⟩ := key p hp
    rw [q, emptyTab_eq z]
def hookN (n : Nat) (fa : List Fa) (fn : List DefD) (tf : List Defn) (ex : List (PySem.W.Frag → Bool)) : PySem.W.Hook where
  α := AlX
  obs := fun s => obsN n fa fn tf ex s.heap.get?
  val := fun w => valX fn [] w
  says := fun w h => ∃ K : PySem.W.Frag, K.In h ∧ SaysX fa fn [] tf (fun K => ex.all fun f => f K) w h K
  of := fun _ _ e => ⟨_, frT_in, saysN_of e⟩
  keeps := fun _ _ _ ⟨K, hK, c⟩ k => ⟨K, PySem.W.Frag.In.keeps hK k, ⟨c.t, c.more, c.hd, c.out, fun p hp => k _ _ (c.empty p hp)⟩⟩
theorem obsN_eq {n : Nat} {fa : List Fa} {fn : List DefD} {tf : List Defn} {ex : List (PySem.W.Frag → Bool)} {g : Addr → Option Obj} {s : Shared} (h : ∀ a, g a = s.heap.get? a) : obsN n fa fn tf ex g = (hookN n fa fn tf ex).obs s := by
  rw [show g = s.heap.get? from funext h]
  rfl
section
variable {fa : List Fa} {fn : List DefD} {tf : List Defn} {ex : List (PySem.W.Frag → Bool)} {w : World} {h base : Heap} {K : PySem.W.Frag} {mg : Str → Option Value}
theorem says_ex (c : SaysX fa fn [] tf (fun K => ex.all fun f => f K) w h K) (i : Nat) {f : PySem.W.Frag → Bool} (hi : ex[i]? = some f := by rfl) : f K = true := List.all_eq_true.mp c.more f (List.mem_of_getElem? hi)
theorem says_fe (X : K.In base) (G : base.Ns mainGlobals mg) (c : SaysX fa fn [] tf (fun K => ex.all fun f => f K) w h K) (i j : Nat) {x : Str} {st : Stmt} (hi : fa[i]? = some (.glo x) := by rfl) (hj : fn[j]? = some ⟨(x, none), x, x, defArgs st, defBody st, defScope st, [], []⟩ := by rfl) : FE K mg x st := by
  obtain ⟨fd, F⟩ := c.t.d.def_ j hj
  exact ⟨_, fd, F, glo_ok X G (c.t.d.fact i hi)⟩
theorem says_free (X : K.In base) (G : base.Ns mainGlobals mg) (c : SaysX fa fn [] tf (fun K => ex.all fun f => f K) w h K) (i : Nat) {x : Str} (hi : fa[i]? = some (.free x) := by rfl) : mg x = none := free_ok X G (c.t.d.fact i hi)
theorem says_int (X : K.In base) (G : base.Ns mainGlobals mg) (c : SaysX fa fn [] tf (fun K => ex.all fun f => f K) w h K) (i : Nat) {x : Str} {n : Int} (hi : fa[i]? = some (.int x n) := by rfl) : KD K mg x (.int n) := by
  obtain ⟨t, e⟩ := int_ok X G (c.t.d.fact i hi)
  exact ⟨.int n, _, e, ⟨t, rfl⟩, fun _ => .int n⟩
theorem says_err (X : K.In base) (G : base.Ns mainGlobals mg) (c : SaysX fa fn [] tf (fun K => ex.all fun f => f K) w h K) (i j : Nat) {x : Str} (hi : fa[i]? = some (.glo x) := by rfl) (hj : fa[j]? = some (.exc x) := by rfl) : Err K mg x (ga K x) := by
  obtain ⟨h1, h2, h3, h4⟩ := exc_ok (c.t.d.fact j hj)
  exact ⟨glo_ok X G (c.t.d.fact i hi), h1, h2, h3, h4⟩
theorem says_exm (c : SaysX fa fn [] tf (fun K => ex.all fun f => f K) w h K) (i : Nat) {x y : Str} {b : Bool} (hi : fa[i]? = some (.exm x y b) := by rfl) : PySem.W.exmOne K (.ref (ga K x)) (.ref (ga K y)) = some b := exm_ok (c.t.d.fact i hi)
def kTwo (x : Str) (a b : Int) (K : PySem.W.Frag) : Bool := tupB K x [.int a, .int b]
theorem says_two (X : K.In base) (G : base.Ns mainGlobals mg) (c : SaysX fa fn [] tf (fun K => ex.all fun f => f K) w h K) (i j : Nat) {x : Str} {a b : Int} (hi : fa[i]? = some (.glo x) := by rfl) (hj : ex[j]? = some (kTwo x a b) := by rfl) : KD K mg x (.tuple [.int a, .int b]) :=
  ⟨.ref (ga K x), _, glo_ok X G (c.t.d.fact i hi), rfl, fun H => .tup (tupB_ok (says_ex c j hj) H) (.cons (.int a) (.cons (.int b) .nil))⟩
/-! classes of errors, asked by isinstance -/
def eqB (a : Option Bool) (b : Bool) : Bool := match a with
  | some c => c == b
  | none => false
theorem eqB_ok {a : Option Bool} {b : Bool} (h : eqB a b = true) : a = some b := by
  cases a with
  | none => cases h
  | some c => rw [beq_iff_eq.mp (show (c == b) = true from h)]
def excB (x : Str) (K : PySem.W.Frag) : Bool :=
  eqO (PySem.W.findIn K (.ref (ga K x)) "__getattribute__") (some (some (.builtin "BaseException.__getattribute__"))) && (eqO (PySem.W.findIn K (.ref (ga K x)) "__getattr__") (some none) && (eqB (PySem.W.subIn K (.ref (ga K x)) (.type "BaseException")) true &&
    (PySem.W.hasDictIn K (ga K x) && (eqO (PySem.W.findIn K (.ref (ga K x)) "__class__") (some (some (.builtin "object.__class__"))) && (eqO (PySem.W.specialIn K (.builtin "object.__class__") "__get__") (some (some (.builtin "getset_descriptor.__get__"))) &&
      (eqB (PySem.W.takesIn K (.builtin "object.__class__")) true && eqB (PySem.W.mroIn K (ga K x) (.type "object")) true))))))
theorem excB_ok {x : Str} (h : excB x K = true) : ExcC K (ga K x) := by
  obtain ⟨h1, h⟩ := ba h
  obtain ⟨h2, h⟩ := ba h
  obtain ⟨h3, h⟩ := ba h
  obtain ⟨h4, h⟩ := ba h
  obtain ⟨h5, h⟩ := ba h
  obtain ⟨h6, h⟩ := ba h
  obtain ⟨h7, h8⟩ := ba h
  exact ⟨eqO_ok h1, eqO_ok h2, eqB_ok h3, h4, eqO_ok h5, eqO_ok h6, eqB_ok h7, eqB_ok h8⟩
def kitX (x y : Str) (b : Bool) (K : PySem.W.Frag) : Bool := eqB (PySem.W.kitOne K (.ref (ga K x)) (.ref (ga K y))) b
def kitV (x : Str) (K : PySem.W.Frag) : Bool := eqB (PySem.W.kitOne K (.ref (ga K x)) (.type "ValueError")) true
/-! no list stands there; big divisions go by the model's own road -/
def noLst (K : PySem.W.Frag) : Bool := K.all fun q => match q.2.cls with
  | .type n => !(n == "list")
  | _ => true
theorem noLst_ok (h : noLst K = true) {H : Hp} {a : Addr} {xs : List V} (s : SqL K H a xs) : Rd H a (.lst xs) := by
  rcases s with s | ⟨o, its, n, lk, hc, _⟩
  · exact s
  · have q := List.all_eq_true.mp h (a, o) (lookup_mem lk)
    rw [show ((a, o) : Addr × Obj).2.cls = .type "list" from hc] at q
    cases q
def nsB (K : PySem.W.Frag) (a : Addr) (xs : List Str) : Bool := match K.lookup a with
  | some ⟨_, _, .dict es _, _⟩ => (es.toList.all fun e => match e.key with | .str _ _ => true | _ => false) && xs.all fun x => (nsFind es x).isNone
  | _ => false
theorem nsB_ok {a : Addr} {xs : List Str} (h : nsB K a xs = true) (X : K.In base) : ∃ m, base.Ns a m ∧ ∀ x ∈ xs, m x = none := by
  unfold nsB at h
  split at h
  · rename_i c d es n sl q
    obtain ⟨h1, h2⟩ := ba h
    refine ⟨nsFind es, ⟨_, es, n, X _ _ q, rfl, fun e he => ?_, fun _ => rfl⟩, fun x hx => ?_⟩
    · have z := List.all_eq_true.mp h1 e (Array.mem_toList_iff.mpr he)
      cases k : e.key with
      | str m t => exact ⟨m, t, rfl⟩
      | _ => rw [k] at z; cases z
    · exact Option.isNone_iff_eq_none.mp (List.all_eq_true.mp h2 x hx)
  · cases h
def seerB (K : PySem.W.Frag) : Bool := nsB K cStatics ["sys.audit-hooks", "sys.dict"] && (nsB K sysModules ["_pylong"] && (match K.lookup (ga K "__builtins__") with
  | some ⟨.type c, some d, _, _⟩ => c == "module" && d == builtinsNs
  | _ => false))
theorem seer_of (h : seerB K = true) (X : K.In base) (G : base.Ns mainGlobals mg) (hb : mg "__builtins__" = some (.ref (ga K "__builtins__"))) (hbl : ∃ mb, base.Ns builtinsNs mb ∧ ∀ x : Str, x ≠ "__name__" → mb x = bootBuiltins x) : base.NoSeer := by
  obtain ⟨h1, h⟩ := ba h
  obtain ⟨h2, h3⟩ := ba h
  obtain ⟨mc, c1, c2⟩ := nsB_ok h1 X
  obtain ⟨mm, m1, m2⟩ := nsB_ok h2 X
  refine ⟨⟨mc, c1, c2 _ (by simp), c2 _ (by simp)⟩, ⟨mm, m1, m2 _ (by simp)⟩, hbl, mg, ga K "__builtins__", ?_⟩
  split at h3
  · rename_i c d dt sl q
    obtain ⟨h4, h5⟩ := ba h3
    exact ⟨_, G, hb, X _ _ q, by rw [beq_iff_eq.mp h4], by rw [beq_iff_eq.mp h5]⟩
  · cases h3
end
/-! ### the law -/
/-- what the law is handed, what it comes to -/
def spLaw (T : List (Addr × Str)) (n : Nat) : Sp := fun vs H Q _ => ∃ (a : Addr) (ns : List Int), vs = [.ref a] ∧ ns.length ≤ n ∧ (∀ z ∈ ns, Builtin.Int.intBits z ≤ 1048576) ∧ (∀ p ∈ T, H p.1 = some (.tbl #[])) ∧ Rd H a (.lst (ns.map V.int)) ∧ ∀ H', Q (.bl true) H'
theorem dts_ints {K : PySem.W.Frag} {H : Hp} : ∀ ns : List Int, DtAll K H (ns.map V.int) (ns.map .int)
  | [] => .nil
  | n :: ns => .cons (.int n) (dts_ints ns)
theorem law_mk {Pr : Program} {w : World} {K : PySem.W.Frag} {mg : Str → Option Value} {base : Heap} {st : Stmt} {f : Addr} {fd : FuncData} {N : List Str} {k n : Nat} {T : List (Addr × Str)}
    (F : FunD K "law" "law" (defArgs st) (defBody st) (defScope st) [] [] f fd) (S : FnScope N ["script"] (defScope st)) (hf : f = ga K "law") (htr : Pr.given.tree = none) (hk : 40 ≤ k) (hns : (∃ mb, base.Ns builtinsNs mb ∧ ∀ x : Str, x ≠ "__name__" → mb x = bootBuiltins x) → base.NoSeer)
    (body : base.NoSeer → ∀ (cdv : Value) (A : Around) (outer : List Env) (s : Shared) (H : Hp) (E : XK) (X : Cx), X = cxOf (L2N.CX Pr w) Pr w K mg base N "law" (defScope st) f cdv A outer s H E → Gx X k → PassesOwn (model X.prog X.w) X.A X.env X.xe → X.env.code = .ref (codeOf K ("law", none)) → ∀ ns : List Int, ns.length ≤ n → (∀ z ∈ ns, Builtin.Int.intBits z ≤ 1048576) →
      SS (SameN T) X (.dat (.list (ns.map .int)) :: List.replicate (N.length - 1) .no) (defBody st) { rt := fun e => e = .bool true }) : FnOk Pr w K mg base (L2N.CX Pr w) (k + 1) f fd ["script"] (spLaw T n) := by
  obtain ⟨oc, od, dV, kV, doc, pm, an, cdv, ct, osl, rfl, lk, hcd, _, _⟩ := F.ex
  have len : ∀ vs H Q E, spLaw T n vs H Q E → vs.length = (["script"] : List Str).length := fun vs H Q E h => by
    obtain ⟨a, ns, rfl, _⟩ := h
    rfl
  refine ⟨len, fun A outer s H args us vs Q E hr e0 => ?_⟩
  have seer := hns e0.mod.blt
  obtain ⟨c, hc⟩ := codeIn_ref hcd
  have hco : cdv = .ref (codeOf K ("law", none)) := by
    rw [hc]
    subst hf
    rw [codeOf_eq (p := ("law", none)) lk hc]
  refine (fn_of (CX := L2N.CX Pr w) (k := k) (sp := spLaw T n) lk hcd S len fun A outer s H vs Q E hr h => ?_).run A outer s H args us vs Q E hr e0
  obtain ⟨a, ns, rfl, hl, hb, hT, hR, hq⟩ := h
  let X : Cx := cxOf (L2N.CX Pr w) Pr w K mg base N "law" (defScope st) f cdv A outer s H E
  have gx : Gx X k := ⟨hr, hk, seer, htr, ⟨_, _, rfl, S.gen, S.co, rfl, rfl⟩⟩
  have tk : L2N.Takes X (fun c d _ H' => E c d H') := L2N.takes_of rfl rfl rfl rfl
  have pss : PassesOwn (model X.prog X.w) X.A X.env X.xe := passes_of rfl
  have hN : 1 ≤ N.length := by
    have := congrArg List.length S.pre
    rw [List.length_take] at this
    simp at this
    omega
  have TT : Tabs T H := fun p hp => TabS.nil (hT p hp)
  have si : SI (SameN T) K H (fun _ => False) (.dat (.list (ns.map .int)) :: List.replicate (N.length - 1) .no) (L2.start N [.ref a]) H :=
    si_startR (N := N) (vs := [.ref a]) (ds := [.list (ns.map .int)]) (n := 1) ⟨Keep.refl H, fun _ z => z, TT, TT⟩ (fun _ z => z.elim) (.cons (.lst (rd_keep (fun b o e _ => off_of (fun z => z.elim) e) hR) (dts_ints ns)) .nil) rfl rfl
  refine ⟨wss X (defBody st), pss_wss, ?_⟩
  exact body seer cdv A outer s H E X rfl gx pss hco ns hl hb H (fun _ => False) _ H _ E si tk (fun _ _ _ h _ => h.elim) ⟨fun e v H' he r' dv => by
    rw [show e = .bool true from he] at dv
    cases dv
    exact hq H', fun _ _ _ _ h => h.elim⟩ (fun _ _ _ h _ => h.elim) (fun _ _ _ h _ => h.elim) (fun _ _ h _ => h.elim)
end An

/-! Defs that make lambdas: the tables of code objects may grow. -/
namespace An
open PySem PySem.Spec PyProof.Rows L2 He LamX
def spT (T : List (Addr × Str)) (K : PySem.W.Frag) (n : Nat) (Val : List D → D → Prop) : Sp := fun vs H Q _ => vs.length = n ∧ Tabs T H ∧ ∃ (S : Addr → Prop) (ds : List D), (∀ a, S a → H a ≠ none) ∧ DtAll K (off S H) vs ds ∧ ∃ d, Val ds d ∧ ∀ v H2, SameN T H H2 → Dt K (off S H2) v d → Q v H2
structure FnT (P : Program) (w : World) (K : PySem.W.Frag) (mg : Str → Option Value) (base : Heap) (x : Str) (k n : Nat) (T : List (Addr × Str)) (Val : List D → D → Prop) : Prop where
  ok : ∃ (f : Addr) (fd : FuncData) (ps : List Str), FnOk P w K mg base (L2N.CX P w) k f fd ps (spT T K n Val) ∧ mg x = some (.ref f) ∧ PySem.W.keepIn K (.ref f) = true ∧ Binds K fd ps []
section
variable {T : List (Addr × Str)} {X : Cx} {γ : List Sl} {pos : Pos}
theorem ee_callT {x : Str} {k n : Nat} {Val : List D → D → Prop} {e : Expr} {es : List Expr} {p : Pos} {ds : List D} {d : D} (F : FnT X.prog X.w X.K X.mg X.base x k n T Val) (hr : Room k X.A) (ha : EA (SameN T) X γ (e :: es) ds) (hv : Val ds d) (hn : ds.length = n := by rfl) (hg : Gl X x := by rfl)
    (hdb : (x == ("__debug__" : Str)) = false := by decide) (he : starEach (e :: es) X.env = (false, eval e X.env) :: starEach es X.env := by rfl) (hpl : (backTo pos (starEach es X.env)).any (·.1) = false := by rfl) :
    EE (SameN T) X γ (.Call (.Name x p) (e :: es) [] pos) d := fun H0 S0 σ H Q s kk => by
  obtain ⟨f, fd, ps, h1, h2, h3, h4⟩ := F.ok
  refine we_of (pe_call (E := E0) h1 hr hg h2 h3 h4 .nil passN pa_wa hdb he hpl) (ha H0 S0 σ H _ s fun vs H1 r1 d1 => ?_)
  rw [List.append_nil]
  exact ⟨by rw [dps_len d1]; exact hn, r1.2.2.2, Sx S0 γ σ, ds, sx_dom (s.mono r1), d1, d, hv, fun v H2 sm dv => kk v H2 (Rel.trans r1 sm) dv⟩
theorem ee_callT0 {x : Str} {k : Nat} {Val : List D → D → Prop} {p : Pos} {d : D} (F : FnT X.prog X.w X.K X.mg X.base x k 0 T Val) (hr : Room k X.A) (hv : Val [] d) (hg : Gl X x := by rfl) (hdb : (x == ("__debug__" : Str)) = false := by decide) :
    EE (SameN T) X γ (.Call (.Name x p) [] [] pos) d := fun H0 S0 σ H Q s kk => by
  obtain ⟨f, fd, ps, h1, h2, h3, h4⟩ := F.ok
  refine we_of (pe_call0 (E := E0) h1 hr hg h2 h3 h4 .nil passN hdb) ?_
  exact ⟨rfl, s.rel.2.2.2, Sx S0 γ σ, [], sx_dom s, .nil, d, hv, fun v H2 sm dv => kk v H2 sm dv⟩
end
def neT (a b : Str) (K : PySem.W.Frag) : Bool := decide ((cT K (a, none)).2 ≠ (cT K (b, none)).2)
theorem neT_ok {a b : Str} {K : PySem.W.Frag} (h : neT a b K = true) : (cT K (a, none)).2 ≠ (cT K (b, none)).2 := of_decide_eq_true h
theorem fnt_mk {Pr : Program} {w : World} {K : PySem.W.Frag} {mg : Str → Option Value} {base : Heap} {x : Str} {st : Stmt} {f : Addr} {fd : FuncData} {N ps : List Str} {k n : Nat} {T : List (Addr × Str)} {Val : List D → D → Prop}
    (F : FunD K x x (defArgs st) (defBody st) (defScope st) [] [] f fd) (S : FnScope N ps (defScope st)) (hm : mg x = some (.ref f)) (hb : Binds K fd ps []) (hf : f = ga K x) (htr : Pr.given.tree = none) (hk : 40 ≤ k) (hns : base.NoSeer) (hn : ps.length = n)
    (body : ∀ (cdv : Value) (A : Around) (outer : List Env) (s : Shared) (H : Hp) (E : XK) (X : Cx), X = cxOf (L2N.CX Pr w) Pr w K mg base N x (defScope st) f cdv A outer s H E → Gx X k → PassesOwn (model X.prog X.w) X.A X.env X.xe → X.env.code = .ref (codeOf K (x, none)) → ∀ ds : List D, ds.length = n →
      ∀ d, Val ds d → SS (SameN T) X (ds.map .dat ++ List.replicate (N.length - n) .no) (defBody st) { rt := fun e => e = d, nx := fun _ => d = .none }) : FnT Pr w K mg base x (k + 1) n T Val := by
  have kp := F.kp
  obtain ⟨oc, od, dV, kV, doc, pm, an, cdv, ct, osl, rfl, lk, hcd, _, _⟩ := F.ex
  have len : ∀ vs H Q E, spT T K n Val vs H Q E → vs.length = ps.length := fun vs H Q E h => by rw [h.1, hn]
  refine ⟨_, _, ps, ⟨len, fun A outer s H args us vs Q E hr e0 => ?_⟩, hm, kp, hb⟩
  obtain ⟨c, hc⟩ := codeIn_ref hcd
  have hco : cdv = .ref (codeOf K (x, none)) := by
    rw [hc]
    subst hf
    rw [codeOf_eq (p := (x, none)) lk hc]
  refine (fn_of (CX := L2N.CX Pr w) (k := k) (sp := spT T K n Val) lk hcd S len fun A outer s H vs Q E hr h => ?_).run A outer s H args us vs Q E hr e0
  obtain ⟨hl, hT, Sv, ds, hS, hd, d, hv, hq⟩ := h
  let X : Cx := cxOf (L2N.CX Pr w) Pr w K mg base N x (defScope st) f cdv A outer s H E
  have hdl : ds.length = n := by rw [← dps_len hd, hl]
  have gx : Gx X k := ⟨hr, hk, hns, htr, ⟨_, _, rfl, S.gen, S.co, rfl, rfl⟩⟩
  have tk : L2N.Takes X (fun c d _ H' => E c d H') := L2N.takes_of rfl rfl rfl rfl
  have pss : PassesOwn (model X.prog X.w) X.A X.env X.xe := passes_of rfl
  refine ⟨wss X (defBody st), pss_wss, ?_⟩
  have si : SI (SameN T) K H Sv (ds.map .dat ++ List.replicate (N.length - n) .no) (L2.start N vs) H := si_startR ⟨Keep.refl H, fun _ z => z, hT, hT⟩ hS hd hl hdl
  exact body cdv A outer s H E X rfl gx pss hco ds hdl d hv H Sv _ H _ E si tk (fun γ' σ' H' e s' => hq .non H' s'.rel (by rw [show d = .none from e]; exact .non)) ⟨fun e v H' he r' dv => hq v H' r' (by rw [← show e = d from he]; exact dv), fun _ _ _ _ h => h.elim⟩ (fun _ _ _ h _ => h.elim) (fun _ _ _ h _ => h.elim) fun c H' h _ => h.elim
end An

/-! Polynomials: sums and products keep the laws of reckoning. -/
namespace An
open PySem
/-- a polynomial acting on a row of fractions: the row of the product -/
def sft (g : Nat → Rat) : Nat → Rat
  | 0 => 0
  | k + 1 => g k
def act : Poly → (Nat → Rat) → Nat → Rat
  | [], _ => fun _ => 0
  | a :: r, g => fun k => a * g k + sft (act r g) k
theorem sft_add (f g : Nat → Rat) : (sft fun k => f k + g k) = fun k => sft f k + sft g k := funext fun k => by
  cases k with
  | zero => show (0 : Rat) = 0 + 0; rw [Rat.add_zero]
  | succ k => rfl
theorem sft_mul (a : Rat) (g : Nat → Rat) : (sft fun k => a * g k) = fun k => a * sft g k := funext fun k => by
  cases k with
  | zero => show (0 : Rat) = a * 0; rw [Rat.mul_zero]
  | succ k => rfl
theorem act_zero : ∀ p : Poly, act p (fun _ => 0) = fun _ => 0
  | [] => rfl
  | a :: r => funext fun k => by
    show a * 0 + sft (act r fun _ => 0) k = 0
    rw [act_zero r, Rat.mul_zero]
    cases k <;> exact Rat.add_zero 0
theorem act_add : ∀ (p : Poly) (f g : Nat → Rat), (act p fun k => f k + g k) = fun k => act p f k + act p g k
  | [], _, _ => funext fun _ => (Rat.add_zero 0).symm
  | a :: r, f, g => funext fun k => by
    show a * (f k + g k) + sft (act r fun k => f k + g k) k = (a * f k + sft (act r f) k) + (a * g k + sft (act r g) k)
    rw [act_add r f g, sft_add]
    grind
theorem act_mul : ∀ (p : Poly) (c : Rat) (g : Nat → Rat), (act p fun k => c * g k) = fun k => c * act p g k
  | [], c, _ => funext fun _ => (Rat.mul_zero c).symm
  | a :: r, c, g => funext fun k => by
    show a * (c * g k) + sft (act r fun k => c * g k) k = c * (a * g k + sft (act r g) k)
    rw [act_mul r c g, sft_mul]
    grind
theorem act_sft : ∀ (p : Poly) (g : Nat → Rat), act p (sft g) = sft (act p g)
  | [], _ => funext fun k => by cases k <;> rfl
  | a :: r, g => funext fun k => by
    show a * sft g k + sft (act r (sft g)) k = sft (fun k => a * g k + sft (act r g) k) k
    rw [act_sft r g, sft_add, sft_mul]
theorem act_comm : ∀ (p q : Poly) (g : Nat → Rat), act p (act q g) = act q (act p g)
  | [], q, g => by
    show (fun _ => 0) = act q fun _ => 0
    rw [act_zero]
  | a :: r, q, g => by
    have e : act q (act (a :: r) g) = fun k => act q (fun k => a * g k) k + act q (sft (act r g)) k := act_add q (fun k => a * g k) (sft (act r g))
    rw [e, act_mul, act_sft, ← act_comm r q g]
    rfl
/-- the row of the polynomial 1 -/
def uno : Nat → Rat
  | 0 => 1
  | _ + 1 => 0
theorem act_uno : ∀ p : Poly, act p uno = coef p
  | [] => funext fun k => (coef_nil k).symm
  | a :: r => funext fun k => by
    show a * uno k + sft (act r uno) k = coef (a :: r) k
    rw [act_uno r]
    cases k with
    | zero => show a * 1 + 0 = _; rw [Rat.mul_one, Rat.add_zero, coef_zero]
    | succ k => show a * 0 + coef r k = _; rw [Rat.mul_zero, Rat.zero_add, coef_succ]
theorem cmul_act : ∀ (p q : Poly), cmul p q = act p (coef q)
  | [], q => rfl
  | a :: r, q => funext fun k => by
    have e := cmul_act r q
    cases k with
    | zero => simp [cmul, act, sft]
    | succ k => simp [cmul, act, sft, e]
theorem coef_act (p q : Poly) : coef (pmul p q) = act p (coef q) := funext fun k => by
  rw [coef_pmul, cmul_act]
/-- acting goes by the coefficients alone -/
theorem act_pmul (p q r : Poly) : act (pmul p q) (coef r) = act p (act q (coef r)) := by
  rw [← act_uno r, act_comm (pmul p q) r, act_uno, coef_act, ← act_uno q, act_comm r p, act_comm r q]
theorem pmul_comm (p q : Poly) : pmul p q = pmul q p := own_ext (own_pmul _ _) (own_pmul _ _) fun i => by
  rw [coef_act, coef_act, ← act_uno q, act_comm p q, act_uno p]
theorem pmul_assoc (p q r : Poly) : pmul (pmul p q) r = pmul p (pmul q r) := own_ext (own_pmul _ _) (own_pmul _ _) fun i => by
  rw [coef_act, act_pmul, coef_act, coef_act]
theorem padd_comm (p q : Poly) : padd p q = padd q p := own_ext (own_padd _ _) (own_padd _ _) fun i => by
  rw [coef_padd, coef_padd, Rat.add_comm]
theorem padd_assoc (p q r : Poly) : padd (padd p q) r = padd p (padd q r) := own_ext (own_padd _ _) (own_padd _ _) fun i => by
  rw [coef_padd, coef_padd, coef_padd, coef_padd, Rat.add_assoc]
theorem padd_nil {p : Poly} (h : Own p) : padd p [] = p := own_ext (own_padd _ _) h fun i => by
  rw [coef_padd, coef_nil, Rat.add_zero]
theorem pmul_nil (p : Poly) : pmul p [] = [] := own_ext (own_pmul _ _) own_nil fun i => by
  rw [coef_act, show coef ([] : Poly) = fun _ => 0 from funext coef_nil, act_zero]
theorem nil_pmul (p : Poly) : pmul [] p = [] := by
  rw [pmul_comm, pmul_nil]
theorem pmul_padd (p q r : Poly) : pmul p (padd q r) = padd (pmul p q) (pmul p r) := own_ext (own_pmul _ _) (own_padd _ _) fun i => by
  rw [coef_padd, coef_act, coef_act, coef_act, show coef (padd q r) = fun k => coef q k + coef r k from funext (coef_padd q r), act_add]
theorem padd_pmul (p q r : Poly) : pmul (padd p q) r = padd (pmul p r) (pmul q r) := by
  rw [pmul_comm, pmul_padd, pmul_comm r p, pmul_comm r q]
theorem pmul_pscale (p q : Poly) (c : Rat) : pmul p (pscale q c) = pscale (pmul p q) c := own_ext (own_pmul _ _) (own_pscale _ _) fun i => by
  rw [coef_act, coef_pscale, coef_act, show coef (pscale q c) = fun k => c * coef q k from funext fun k => by rw [coef_pscale, Rat.mul_comm], act_mul, Rat.mul_comm]
theorem pscale_padd (p q : Poly) (c : Rat) : pscale (padd p q) c = padd (pscale p c) (pscale q c) := own_ext (own_pscale _ _) (own_padd _ _) fun i => by
  rw [coef_padd, coef_pscale, coef_pscale, coef_pscale, coef_padd, Rat.add_mul]
theorem pscale_pscale (p : Poly) (b c : Rat) : pscale (pscale p b) c = pscale p (b * c) := own_ext (own_pscale _ _) (own_pscale _ _) fun i => by
  rw [coef_pscale, coef_pscale, coef_pscale, Rat.mul_assoc]
theorem pscale_one {p : Poly} (h : Own p) : pscale p 1 = p := own_ext (own_pscale _ _) h fun i => by
  rw [coef_pscale, Rat.mul_one]
theorem pmul_const (c : Rat) (p : Poly) : pmul [c] p = pscale p c := own_ext (own_pmul _ _) (own_pscale _ _) fun i => by
  rw [coef_act, coef_pscale]
  show c * coef p i + sft (fun _ => 0) i = _
  cases i <;> exact (Rat.add_zero _).trans (Rat.mul_comm _ _)
theorem one_pmul {p : Poly} (h : Own p) : pmul [1] p = p := by
  rw [pmul_const, pscale_one h]
end An

/-! What the defs bring, by data; sizes found by instances. -/
namespace An
open PySem PySem.Spec PyProof.Rows L2
def vCommon (ds : List D) (d : D) : Prop := ∃ a b : Nat, ds = [.int a, .int b] ∧ d = .int (Nat.gcd a b : Nat)
def vFraction (ds : List D) (d : D) : Prop := ∃ t u : Int, ds = [.int t, .int u] ∧ u ≠ 0 ∧ d = eF (Rat.divInt t u)
def Bin (f : Rat → Rat → Rat) (ds : List D) (d : D) : Prop := ∃ (a b : Rat) (n m : Nat), ds = [eF a, eF b] ∧ Rz n a ∧ Rz m b ∧ n + m ≤ LIM ∧ d = eF (f a b)
def vIsF (ds : List D) (d : D) : Prop := ∃ x, ds = [x] ∧ d = .bool (isF x)
def vIsP (ds : List D) (d : D) : Prop := ∃ x, ds = [x] ∧ d = .bool (isPo x)
def vNeedP (ds : List D) (d : D) : Prop := ∃ x, ds = [x] ∧ isPo x = true ∧ d = .none
def xNeedP (K : PySem.W.Frag) (ds : List D) (c : Value) : Prop := ∃ x, ds = [x] ∧ isPo x = false ∧ c = ec K "BadPoly"
def xFst (K : PySem.W.Frag) (ds : List D) (c : Value) : Prop := ∃ x r, ds = x :: r ∧ isPo x = false ∧ c = ec K "BadPoly"
def vTrim (ds : List D) (d : D) : Prop := ∃ p : Poly, ds = [eP p] ∧ p.length ≤ 1000 ∧ d = eP (trim p)
def vTell (ds : List D) (d : D) : Prop := ∃ x, ds = [x] ∧ isPo x = true ∧ d = x
def vAt (ds : List D) (d : D) : Prop := ∃ (p : Poly) (i : Nat), ds = [eP p, .int i] ∧ d = eF (coef p i)
def vAdd (ds : List D) (d : D) : Prop := ∃ (p q : Poly) (n m : Nat), ds = [eP p, eP q] ∧ PZ n p ∧ PZ m q ∧ 0 < n ∧ 0 < m ∧ n + m ≤ LIM ∧ p.length ≤ 1000 ∧ q.length ≤ 1000 ∧ d = eP (padd p q)
def vScale (ds : List D) (d : D) : Prop := ∃ (p : Poly) (c : Rat) (n m : Nat), ds = [eP p, eF c] ∧ PZ n p ∧ Rz m c ∧ n + m ≤ LIM ∧ p.length ≤ 1000 ∧ d = eP (pscale p c)
def vMul (ds : List D) (d : D) : Prop := ∃ (p q : Poly) (n m : Nat), ds = [eP p, eP q] ∧ PZ n p ∧ PZ m q ∧ 0 < n ∧ 0 < m ∧ p.length ≤ 100 ∧ q.length ≤ 100 ∧ (p.length + 2) * (n + m + 1) ≤ LIM ∧ d = eP (pmul p q)
def vWorth (ds : List D) (d : D) : Prop := ∃ (p : Poly) (x : Rat) (n m : Nat), ds = [eP p, eF x] ∧ PZ n p ∧ Rz m x ∧ 0 < n ∧ p.length ≤ 100 ∧ (p.length + 2) * (n + m + 1) ≤ LIM ∧ d = eF (peval p x)
def vSlope (ds : List D) (d : D) : Prop := ∃ (p : Poly) (n : Nat), ds = [eP p] ∧ PZ n p ∧ 0 < n ∧ p.length ≤ 100 ∧ n + 8 ≤ LIM ∧ d = eP (pder p)
/-! ### lengths, comparisons by kind -/
class LenD (x : D) (n : outParam Nat) : Prop where
  ok : lenD x = some n
instance (p : Poly) : LenD (eP p) p.length := ⟨by simp [eP, lenD]⟩
instance (ds : List D) : LenD (.list ds) ds.length := ⟨rfl⟩
instance (ds : List D) : LenD (.tuple ds) ds.length := ⟨rfl⟩
instance {α : Type} (f : α → D) (l : List α) : LenD (.list (l.map f)) l.length := ⟨by simp [lenD]⟩
class EqvD (a b : D) (c : outParam Bool) : Prop where
  sa : SeqAt.shaped a = true
  sb : SeqAt.shaped b = true
  eq : PyData.eqv a b = c
instance (a b : Rat) : EqvD (eF a) (eF b) (decide (a = b)) := ⟨(sh_eF a).ok1, (sh_eF b).ok1, eqv_eF a b⟩
instance (a b : Poly) : EqvD (eP a) (eP b) (decide (a = b)) := ⟨(sh_eP a).ok2, (sh_eP b).ok2, eqv_eP a b⟩
instance (a : Poly) : EqvD (eP a) (.list []) (decide (a = [])) := ⟨(sh_eP a).ok2, (sh_eP []).ok2, eqv_eP a []⟩
instance (i j : Int) : EqvD (.int i) (.int j) (decide (i = j)) := ⟨sh_int.ok0, sh_int.ok0, by
  simp only [PyData.eqv]
  by_cases z : i = j <;> simp [z]⟩
instance (a b : Bool) : EqvD (.bool a) (.bool b) (a == b) := ⟨sh_bool.ok0, sh_bool.ok0, by cases a <;> cases b <;> rfl⟩
section
variable {R : Hp → Hp → Prop} [RelC R] {X : Cx} {γ : List Sl} {pos p : Pos} {a b : Expr} {k : Nat}
theorem ee_lenC {x : D} {n : Nat} [LenD x n] (ha : EE R X γ a x) (hm : X.mg "len" = none) (hg : Gl X "len" := by rfl) (he : starEach [a] X.env = (false, eval a X.env) :: starEach [] X.env := by rfl) (hpl : (backTo pos (starEach [] X.env)).any (·.1) = false := by rfl) :
    EE R X γ (.Call (.Name "len" p) [a] [] pos) (.int n) := ee_len ha LenD.ok hm hg he hpl
theorem od_eqC {x y : D} {c : Bool} [EqvD x y c] (g : Gx X k) : OpD X (compareOp .Eq) x y (.bool c) := by
  have h := od_eq (X := X) g (EqvD.sa (a := x) (b := y)) (EqvD.sb (a := x) (b := y))
  rw [EqvD.eq (a := x) (b := y)] at h
  exact h
theorem od_neC {x y : D} {c : Bool} [EqvD x y c] (g : Gx X k) : OpD X (compareOp .NotEq) x y (.bool (!c)) := by
  have h := od_ne (X := X) g (EqvD.sa (a := x) (b := y)) (EqvD.sb (a := x) (b := y))
  rw [EqvD.eq (a := x) (b := y)] at h
  exact h
end
/-! ### sizes -/
class RB (q : Rat) (n : outParam Nat) : Prop where
  z : Rz n q
class PB (p : Poly) (n l : outParam Nat) : Prop where
  z : PZ n p
  p0 : 0 < n
  len : p.length ≤ l
class OB (p : Poly) : Prop where
  o : Own p
theorem pbz (p : Poly) {n l : Nat} [h : PB p n l] : PZ n p := h.z
theorem pb0 (p : Poly) {n l : Nat} [h : PB p n l] : 0 < n := h.p0
theorem pbl (p : Poly) {n l : Nat} [h : PB p n l] : p.length ≤ l := h.len
instance : RB 0 1 := ⟨rz_zero⟩
instance : RB 1 1 := ⟨rz_one⟩
section
variable {a b : Rat} {n m l k : Nat} {p q : Poly}
instance [RB a n] [RB b m] : RB (a * b) (n + m) := ⟨RB.z.mul RB.z⟩
instance [RB a n] [RB b m] : RB (a + b) (n + m + 1) := ⟨RB.z.add RB.z⟩
instance [RB a n] [RB b m] : RB (a - b) (n + m + 1) := ⟨RB.z.sub RB.z⟩
instance [RB a n] : RB (-a) n := ⟨RB.z.neg⟩
instance [RB a n] [RB b m] : RB (a / b) (n + m) := ⟨RB.z.div RB.z⟩
instance [RB a n] : RB a⁻¹ n := ⟨RB.z.inv⟩
instance [PB p n l] (i : Nat) : RB (coef p i) n := ⟨(pbz p).coef (pb0 p) i⟩
instance [PB p n l] [RB a m] : RB (peval p a) (1 + l * (n + m + 1)) := ⟨(rz_peval (pbz p) (RB.z (q := a))).mono (Nat.add_le_add_left (Nat.mul_le_mul_right _ (pbl p)) _)⟩
instance : PB [] 1 0 := ⟨pz_nil, by decide, Nat.le_refl _⟩
instance [RB a n] [PB p m l] : PB (a :: p) (n + m) (l + 1) := ⟨fun q hq => by
  rcases List.mem_cons.mp hq with h | h
  · rw [h]; exact RB.z.mono (Nat.le_add_right _ _)
  · exact (pbz p q h).mono (Nat.le_add_left _ _), Nat.lt_of_lt_of_le (pb0 p) (Nat.le_add_left _ _), Nat.succ_le_succ (pbl p)⟩
instance [PB p n l] [PB q m k] : PB (padd p q) (n + m + 1) (max l k) := ⟨pz_padd (pbz p) (pbz q) (pb0 p) (pb0 q), Nat.succ_pos _, Nat.le_trans (padd_len p q) (by have := pbl p; have := pbl q; omega)⟩
instance [PB p n l] [PB q m k] : PB (pmul p q) (1 + l * (n + m + 1)) (l + k) := ⟨(pz_pmul (pbz p) (pbz q) (pb0 q)).mono (Nat.add_le_add_left (Nat.mul_le_mul_right _ (pbl p)) _), by omega, Nat.le_trans (pmul_len p q) (by have := pbl p; have := pbl q; omega)⟩
instance [PB p n l] [RB a m] : PB (pscale p a) (n + m) l := ⟨pz_pscale (pbz p) (RB.z (q := a)), Nat.lt_of_lt_of_le (pb0 p) (Nat.le_add_right _ _), Nat.le_trans (pscale_len p a) (pbl p)⟩
instance [PB p n l] : PB (trim p) n l := ⟨(pbz p).trim, pb0 p, Nat.le_trans (trim_len p) (pbl p)⟩
instance : OB [] := ⟨own_nil⟩
instance : OB (padd p q) := ⟨own_padd _ _⟩
instance : OB (pmul p q) := ⟨own_pmul _ _⟩
instance : OB (pscale p a) := ⟨own_pscale _ _⟩
instance : OB (trim p) := ⟨own_trim _⟩
theorem bin_c {f : Rat → Rat → Rat} [RB a n] [RB b m] (h : n + m ≤ LIM) : Bin f [eF a, eF b] (eF (f a b)) := ⟨a, b, n, m, rfl, RB.z, RB.z, h, rfl⟩
theorem add_c [PB p n l] [PB q m k] (h : n + m ≤ LIM ∧ l ≤ 1000 ∧ k ≤ 1000) : vAdd [eP p, eP q] (eP (padd p q)) := ⟨p, q, n, m, rfl, pbz p, pbz q, pb0 p, pb0 q, h.1, Nat.le_trans (pbl p) h.2.1, Nat.le_trans (pbl q) h.2.2, rfl⟩
theorem scale_c [PB p n l] [RB a m] (h : n + m ≤ LIM ∧ l ≤ 1000) : vScale [eP p, eF a] (eP (pscale p a)) := ⟨p, a, n, m, rfl, pbz p, RB.z, h.1, Nat.le_trans (pbl p) h.2, rfl⟩
theorem mul_c [PB p n l] [PB q m k] (h : (l + 2) * (n + m + 1) ≤ LIM ∧ l ≤ 100 ∧ k ≤ 100) : vMul [eP p, eP q] (eP (pmul p q)) := ⟨p, q, n, m, rfl, pbz p, pbz q, pb0 p, pb0 q, Nat.le_trans (pbl p) h.2.1, Nat.le_trans (pbl q) h.2.2, Nat.le_trans (Nat.mul_le_mul_right _ (Nat.add_le_add_right (pbl p) 2)) h.1, rfl⟩
theorem worth_c [PB p n l] [RB a m] (h : (l + 2) * (n + m + 1) ≤ LIM ∧ l ≤ 100) : vWorth [eP p, eF a] (eF (peval p a)) := ⟨p, a, n, m, rfl, pbz p, RB.z, pb0 p, Nat.le_trans (pbl p) h.2, Nat.le_trans (Nat.mul_le_mul_right _ (Nat.add_le_add_right (pbl p) 2)) h.1, rfl⟩
theorem slope_c [PB p n l] (h : n + 8 ≤ LIM ∧ l ≤ 100) : vSlope [eP p] (eP (pder p)) := ⟨p, n, rfl, pbz p, pb0 p, Nat.le_trans (pbl p) h.2, h.1, rfl⟩
theorem trim_c [PB p n l] (h : l ≤ 1000) : vTrim [eP p] (eP (trim p)) := ⟨p, rfl, Nat.le_trans (pbl p) h, rfl⟩
theorem po_c [PB p n l] [OB p] (h : l ≤ 13) : isPo (eP p) = true := by
  rw [isPo_eP, decide_eq_true (Nat.le_trans (pbl p) h), decide_eq_true (OB.o (p := p))]
  rfl
theorem need_c [PB p n l] [OB p] (h : l ≤ 13) : vNeedP [eP p] .none := ⟨_, rfl, po_c h, rfl⟩
theorem tell_c [PB p n l] [OB p] (h : l ≤ 13) : vTell [eP p] (eP p) := ⟨_, rfl, po_c h, rfl⟩
end
end An

/-! The ring of polynomials; degrees; division; common parts. -/
namespace An
open PySem
structure QX where
  p : Poly
  own : Own p
theorem QX.ext' {a b : QX} (h : a.p = b.p) : a = b := by
  cases a; cases b; cases h; rfl
theorem QX.extC {a b : QX} (h : ∀ i, coef a.p i = coef b.p i) : a = b := QX.ext' (own_ext a.own b.own h)
/-- a number as a polynomial -/
def QX.C (c : Rat) : QX := ⟨trim [c], own_trim _⟩
theorem coef_C (c : Rat) (i : Nat) : coef (QX.C c).p i = if i = 0 then c else 0 := by
  show coef (trim [c]) i = _
  rw [coef_trim]
  cases i with
  | zero => rfl
  | succ i => rw [coef_succ, coef_nil, if_neg (by omega)]
def QX.pw (a : QX) : Nat → QX
  | 0 => QX.C 1
  | n + 1 => ⟨pmul (QX.pw a n).p a.p, own_pmul _ _⟩
instance : Add QX := ⟨fun a b => ⟨padd a.p b.p, own_padd _ _⟩⟩
instance : Mul QX := ⟨fun a b => ⟨pmul a.p b.p, own_pmul _ _⟩⟩
instance : Neg QX := ⟨fun a => ⟨pscale a.p (-1), own_pscale _ _⟩⟩
instance : Sub QX := ⟨fun a b => ⟨padd a.p (pscale b.p (-1)), own_padd _ _⟩⟩
instance : NatCast QX := ⟨fun n => QX.C n⟩
instance : IntCast QX := ⟨fun n => QX.C n⟩
instance (n : Nat) : OfNat QX n := ⟨QX.C n⟩
instance : SMul Nat QX := ⟨fun n a => (n : QX) * a⟩
instance : SMul Int QX := ⟨fun n a => (n : QX) * a⟩
instance : HPow QX Nat QX := ⟨QX.pw⟩
theorem qx_add (a b : QX) : (a + b).p = padd a.p b.p := rfl
theorem qx_mul (a b : QX) : (a * b).p = pmul a.p b.p := rfl
theorem qx_neg (a : QX) : (-a).p = pscale a.p (-1) := rfl
theorem qx_sub (a b : QX) : (a - b).p = padd a.p (pscale b.p (-1)) := rfl
theorem coef_add (a b : QX) (i : Nat) : coef (a + b).p i = coef a.p i + coef b.p i := coef_padd _ _ _
theorem coef_neg (a : QX) (i : Nat) : coef (-a).p i = -coef a.p i := by
  rw [qx_neg, coef_pscale]
  grind
theorem coef_sub (a b : QX) (i : Nat) : coef (a - b).p i = coef a.p i - coef b.p i := by
  rw [qx_sub, coef_padd, coef_pscale]
  grind
theorem qx_zero : (0 : QX).p = [] := by
  show trim [((0 : Nat) : Rat)] = []
  decide +kernel
theorem qx_one : (1 : QX).p = [1] := by
  show trim [((1 : Nat) : Rat)] = [1]
  decide +kernel
theorem coef_Cmul (c : Rat) (a : QX) (i : Nat) : coef (QX.C c * a).p i = c * coef a.p i := by
  show coef (pmul (trim [c]) a.p) i = _
  by_cases h : c = 0
  · subst h
    rw [show trim [(0 : Rat)] = [] by decide +kernel, nil_pmul, coef_nil, Rat.zero_mul]
  · have e : trim [c] = [c] := by
      show (if trim [] = [] ∧ c = 0 then [] else c :: trim []) = [c]
      rw [if_neg (fun z => h z.2)]
      rfl
    rw [e, pmul_const, coef_pscale, Rat.mul_comm]
theorem C_add (a b : Rat) : QX.C (a + b) = QX.C a + QX.C b := QX.extC fun i => by
  rw [coef_add, coef_C, coef_C, coef_C]
  split
  · rfl
  · rw [Rat.add_zero]
theorem C_mul (a b : Rat) : QX.C (a * b) = QX.C a * QX.C b := QX.extC fun i => by
  rw [coef_Cmul, coef_C, coef_C]
  split
  · rfl
  · rw [Rat.mul_zero]
theorem C_neg (a : Rat) : QX.C (-a) = -QX.C a := QX.extC fun i => by
  rw [coef_neg, coef_C, coef_C]
  split
  · rfl
  · grind
instance : Lean.Grind.CommRing QX where
  add_zero a := QX.extC fun i => by rw [coef_add, qx_zero, coef_nil, Rat.add_zero]
  add_comm a b := QX.ext' (padd_comm _ _)
  add_assoc a b c := QX.ext' (padd_assoc _ _ _)
  mul_assoc a b c := QX.ext' (pmul_assoc _ _ _)
  mul_comm a b := QX.ext' (pmul_comm _ _)
  mul_one a := QX.ext' (by rw [qx_mul, pmul_comm, qx_one, one_pmul a.own])
  left_distrib a b c := QX.ext' (pmul_padd _ _ _)
  one_mul a := QX.ext' (by rw [qx_mul, qx_one, one_pmul a.own])
  right_distrib a b c := QX.ext' (padd_pmul _ _ _)
  mul_zero a := QX.ext' (by rw [qx_mul, qx_zero, pmul_nil])
  zero_mul a := QX.ext' (by rw [qx_mul, qx_zero, nil_pmul])
  pow_zero a := rfl
  pow_succ a n := rfl
  ofNat_succ n := by
    show QX.C ((n + 1 : Nat) : Rat) = QX.C n + QX.C (1 : Nat)
    rw [← C_add, Rat.natCast_add]
  neg_add_cancel a := QX.extC fun i => by rw [coef_add, coef_neg, qx_zero, coef_nil]; grind
  sub_eq_add_neg a b := rfl
  neg_zsmul i a := by
    show QX.C ((-i : Int) : Rat) * a = -(QX.C (i : Rat) * a)
    refine QX.extC fun k => ?_
    rw [coef_neg, coef_Cmul, coef_Cmul, Rat.intCast_neg]
    grind
  zsmul_natCast_eq_nsmul n a := by
    show QX.C (((n : Nat) : Int) : Rat) * a = QX.C (n : Rat) * a
    rw [Rat.intCast_natCast]
  intCast_ofNat n := by
    show QX.C (((n : Nat) : Int) : Rat) = QX.C (n : Rat)
    rw [Rat.intCast_natCast]
  intCast_neg i := by
    show QX.C ((-i : Int) : Rat) = -QX.C (i : Rat)
    rw [Rat.intCast_neg, C_neg]
example (a b c : QX) : (a + b) * (a - b) + b ^ 2 = a ^ 2 := by grind
/-! ### degrees: by the length -/
def QX.len (a : QX) : Nat := a.p.length
def lc (p : Poly) : Rat := coef p (p.length - 1)
theorem own_len {p : Poly} (h : Own p) {m : Nat} (z : ∀ i, m ≤ i → coef p i = 0) : p.length ≤ m := by
  rcases own_iff.mp h with e | e
  · rw [e]; exact Nat.zero_le _
  · refine Nat.le_of_not_lt fun q => e (z _ (by omega))
theorem lc_ne {p : Poly} (h : Own p) (hn : p ≠ []) : lc p ≠ 0 := by
  rcases own_iff.mp h with e | e
  · exact absurd e hn
  · exact e
theorem len_zero {a : QX} : a.len = 0 ↔ a = 0 := ⟨fun h => QX.ext' (by rw [qx_zero]; exact List.length_eq_zero_iff.mp h), fun h => by rw [h]; show (0 : QX).p.length = 0; rw [qx_zero]; rfl⟩
theorem ne_zero {a : QX} : a ≠ 0 ↔ a.p ≠ [] := ⟨fun h z => h (QX.ext' (by rw [qx_zero]; exact z)), fun h z => h (by rw [z]; exact qx_zero)⟩
theorem cmul_top : ∀ {p q : Poly}, p ≠ [] → q ≠ [] → cmul p q (p.length + q.length - 2) = lc p * lc q
  | [], _, h, _ => absurd rfl h
  | [a], q, _, hq => by
    have : 0 < q.length := List.length_pos_iff.mpr hq
    show cmul [a] q (1 + q.length - 2) = a * lc q
    rw [show 1 + q.length - 2 = q.length - 1 by omega]
    unfold lc
    show a * coef q (q.length - 1) + _ = _
    cases q.length - 1 with
    | zero => exact Rat.add_zero _
    | succ k => exact Rat.add_zero _
  | a :: b :: p, q, _, hq => by
    have : 0 < q.length := List.length_pos_iff.mpr hq
    have ih := cmul_top (p := b :: p) (q := q) (by simp) hq
    have e : (a :: b :: p).length + q.length - 2 = ((b :: p).length + q.length - 2) + 1 := by
      simp only [List.length_cons]
      omega
    rw [e]
    show a * coef q ((b :: p).length + q.length - 2 + 1) + cmul (b :: p) q ((b :: p).length + q.length - 2) = _
    rw [ih, coef_out (p := q) (by simp only [List.length_cons]; omega), Rat.mul_zero, Rat.zero_add]
    congr 1
theorem pmul_top {p q : Poly} (hp : Own p) (hq : Own q) (h1 : p ≠ []) (h2 : q ≠ []) : (pmul p q).length = p.length + q.length - 1 ∧ lc (pmul p q) = lc p * lc q := by
  have e1 : 0 < p.length := List.length_pos_iff.mpr h1
  have e2 : 0 < q.length := List.length_pos_iff.mpr h2
  have hle := pmul_len p q
  have ht : coef (pmul p q) (p.length + q.length - 2) = lc p * lc q := by rw [coef_pmul, cmul_top h1 h2]
  have hne : lc p * lc q ≠ 0 := fun z => by
    rcases Rat.mul_eq_zero.mp z with z | z
    · exact lc_ne hp h1 z
    · exact lc_ne hq h2 z
  have hl : (pmul p q).length = p.length + q.length - 1 := by
    refine Nat.le_antisymm hle (Nat.le_of_not_lt fun z => hne ?_)
    rw [← ht, coef_out (by omega)]
  refine ⟨hl, ?_⟩
  show coef (pmul p q) ((pmul p q).length - 1) = _
  rw [hl, show p.length + q.length - 1 - 1 = p.length + q.length - 2 by omega, ht]
theorem len_mul {a b : QX} (h1 : a ≠ 0) (h2 : b ≠ 0) : (a * b).len = a.len + b.len - 1 := (pmul_top a.own b.own (ne_zero.mp h1) (ne_zero.mp h2)).1
theorem lc_mul {a b : QX} (h1 : a ≠ 0) (h2 : b ≠ 0) : lc (a * b).p = lc a.p * lc b.p := (pmul_top a.own b.own (ne_zero.mp h1) (ne_zero.mp h2)).2
theorem mul_ne {a b : QX} (h1 : a ≠ 0) (h2 : b ≠ 0) : a * b ≠ 0 := fun z => by
  have h := len_mul h1 h2
  have e1 : a.len ≠ 0 := fun q => h1 (len_zero.mp q)
  have e2 : b.len ≠ 0 := fun q => h2 (len_zero.mp q)
  rw [z, len_zero.mpr rfl] at h
  omega
theorem mul_zero' {a b : QX} (h : a * b = 0) : a = 0 ∨ b = 0 := by
  by_cases h1 : a = 0
  · exact .inl h1
  · by_cases h2 : b = 0
    · exact .inr h2
    · exact absurd h (mul_ne h1 h2)
theorem mul_cancel {a b c : QX} (h : a ≠ 0) (e : a * b = a * c) : b = c := by
  have z : a * (b - c) = 0 := by grind
  rcases mul_zero' z with z | z
  · exact absurd z h
  · grind
theorem len_add (a b : QX) : (a + b).len ≤ max a.len b.len := padd_len _ _
theorem pos_len {a : QX} (h : a ≠ 0) : 0 < a.len := Nat.pos_of_ne_zero fun z => h (len_zero.mp z)
/-! ### divisors -/
def QX.dvd (a b : QX) : Prop := ∃ c, b = a * c
theorem dvd_refl (a : QX) : a.dvd a := ⟨1, by grind⟩
theorem dvd_trans {a b c : QX} (h : a.dvd b) (k : b.dvd c) : a.dvd c := by
  obtain ⟨x, rfl⟩ := h
  obtain ⟨y, rfl⟩ := k
  exact ⟨x * y, by grind⟩
theorem dvd_zero (a : QX) : a.dvd 0 := ⟨0, by grind⟩
theorem dvd_add {a b c : QX} (h : a.dvd b) (k : a.dvd c) : a.dvd (b + c) := by
  obtain ⟨x, rfl⟩ := h
  obtain ⟨y, rfl⟩ := k
  exact ⟨x + y, by grind⟩
theorem dvd_mul {a b : QX} (c : QX) (h : a.dvd b) : a.dvd (c * b) := by
  obtain ⟨x, rfl⟩ := h
  exact ⟨c * x, by grind⟩
theorem dvd_len {a b : QX} (h : a.dvd b) (hb : b ≠ 0) : a.len ≤ b.len := by
  obtain ⟨x, rfl⟩ := h
  have ha : a ≠ 0 := fun z => hb (by rw [z]; grind)
  have hx : x ≠ 0 := fun z => hb (by rw [z]; grind)
  rw [len_mul ha hx]
  have := pos_len hx
  omega
/-- a number's polynomial -/
theorem C_ne {c : Rat} (h : c ≠ 0) : QX.C c ≠ 0 := fun z => h (by
  have := coef_C c 0
  rw [z, qx_zero, coef_nil, if_pos rfl] at this
  exact this.symm)
theorem len_one {a : QX} (h : a.len = 1) : a = QX.C (lc a.p) := QX.extC fun i => by
  rw [coef_C]
  have hl : a.p.length = 1 := h
  split
  · rename_i e
    rw [e]
    unfold lc
    rw [hl]
  · rw [coef_out (by omega)]
theorem len_C {c : Rat} (h : c ≠ 0) : (QX.C c).len = 1 := by
  have h1 := pos_len (C_ne h)
  have h2 : (QX.C c).len ≤ 1 := trim_len [c]
  omega
theorem len_Cmul {c : Rat} (h : c ≠ 0) (a : QX) : (QX.C c * a).len = a.len := by
  by_cases ha : a = 0
  · rw [ha, show QX.C c * 0 = (0 : QX) by grind]
  · rw [len_mul (C_ne h) ha, len_C h]
    omega
/-- two that divide one another, both with the last fraction 1 -/
def Monic (a : QX) : Prop := a ≠ 0 ∧ lc a.p = 1
theorem dvd_anti {a b : QX} (ha : Monic a) (hb : Monic b) (h : a.dvd b) (k : b.dvd a) : a = b := by
  obtain ⟨x, e⟩ := h
  have hx : x ≠ 0 := fun z => hb.1 (by rw [e, z]; grind)
  have h1 := dvd_len k ha.1
  have h2 := len_mul ha.1 hx
  rw [← e] at h2
  have h3 := pos_len hx
  have h4 := pos_len ha.1
  have hx1 : x.len = 1 := by omega
  have h5 := lc_mul ha.1 hx
  rw [← e, hb.2, ha.2, Rat.one_mul] at h5
  rw [e, len_one hx1, ← h5]
  show a = a * QX.C 1
  have : QX.C 1 = 1 := rfl
  rw [this]
  grind
end An

/-! Division, common parts, sizes over one denominator. -/
namespace An
open PySem
def mono (k : Nat) (c : Rat) : QX := ⟨trim (List.replicate k 0 ++ [c]), own_trim _⟩
theorem coef_shift (k : Nat) (p : Poly) (i : Nat) : coef (List.replicate k 0 ++ p) i = if i < k then 0 else coef p (i - k) := by
  induction k generalizing i with
  | zero => rfl
  | succ k ih =>
    rw [List.replicate_succ, List.cons_append]
    cases i with
    | zero => rw [coef_zero, if_pos (Nat.succ_pos k)]
    | succ i =>
      rw [coef_succ, ih i]
      by_cases h : i < k
      · rw [if_pos h, if_pos (by omega)]
      · rw [if_neg h, if_neg (by omega), show i + 1 - (k + 1) = i - k by omega]
theorem coef_mono (k : Nat) (c : Rat) (i : Nat) : coef (mono k c).p i = if i = k then c else 0 := by
  show coef (trim _) i = _
  rw [coef_trim, coef_shift]
  by_cases h : i < k
  · rw [if_pos h, if_neg (by omega)]
  · rw [if_neg h]
    by_cases e : i = k
    · rw [if_pos e, e, Nat.sub_self]
      rfl
    · rw [if_neg e, coef_out (by show 1 ≤ i - k; omega)]
theorem act_shift (k : Nat) (c : Rat) (g : Nat → Rat) (i : Nat) : act (List.replicate k 0 ++ [c]) g i = if i < k then 0 else c * g (i - k) := by
  induction k generalizing i with
  | zero =>
    show c * g i + sft (fun _ => 0) i = c * g i
    cases i <;> exact Rat.add_zero _
  | succ k ih =>
    rw [List.replicate_succ, List.cons_append]
    show 0 * g i + sft (act (List.replicate k 0 ++ [c]) g) i = _
    rw [Rat.zero_mul, Rat.zero_add]
    cases i with
    | zero => rw [if_pos (Nat.succ_pos k)]; rfl
    | succ i =>
      show act (List.replicate k 0 ++ [c]) g i = _
      rw [ih i]
      by_cases h : i < k
      · rw [if_pos h, if_pos (by omega)]
      · rw [if_neg h, if_neg (by omega), show i + 1 - (k + 1) = i - k by omega]
theorem act_trim (p q : Poly) : act (trim p) (coef q) = act p (coef q) := by
  rw [← act_uno q, act_comm (trim p), act_comm p, act_uno, act_uno]
  congr 1
  exact funext fun i => coef_trim p i
theorem coef_mono_mul (k : Nat) (c : Rat) (o : QX) (i : Nat) : coef (mono k c * o).p i = if i < k then 0 else c * coef o.p (i - k) := by
  show coef (pmul (trim _) o.p) i = _
  rw [coef_act, act_trim, act_shift]
/-! ### one step of a division -/
def dst (r o : QX) : QX := r - mono (r.len - o.len) (lc r.p / lc o.p) * o
/-- as the program does it -/
theorem dst_made (r o : QX) : padd r.p (pscale (List.replicate (r.p.length - o.p.length) 0 ++ pscale o.p (lc r.p / lc o.p)) (-1)) = (dst r o).p := own_ext (own_padd _ _) (dst r o).own fun i => by
  unfold dst
  rw [coef_sub, coef_mono_mul, coef_padd, coef_pscale, coef_shift, show r.len = r.p.length from rfl, show o.len = o.p.length from rfl]
  by_cases h : i < r.p.length - o.p.length
  · rw [if_pos h, if_pos h]
    grind
  · rw [if_neg h, if_neg h, coef_pscale]
    show _ = coef r.p i - lc r.p / lc o.p * coef o.p (i - (r.p.length - o.p.length))
    grind
theorem dst_len {r o : QX} (ho : o ≠ 0) (h : o.len ≤ r.len) : (dst r o).len < r.len := by
  have h1 := pos_len ho
  have hl : (dst r o).len ≤ r.len - 1 := own_len (dst r o).own fun i hi => by
    unfold dst
    rw [coef_sub, coef_mono_mul, if_neg (by omega)]
    have e1 : r.p.length = r.len := rfl
    have e2 : o.p.length = o.len := rfl
    by_cases e : i = r.len - 1
    · rw [e, show r.len - 1 - (r.len - o.len) = o.len - 1 by omega]
      show lc r.p - lc r.p / lc o.p * lc o.p = 0
      rw [Rat.div_mul_cancel (lc_ne o.own (ne_zero.mp ho)), Rat.sub_self]
    · rw [coef_out (p := r.p) (by omega), coef_out (p := o.p) (by omega), Rat.mul_zero]
      grind
  omega
def qdm : Nat → QX → QX → QX → QX × QX
  | 0, q, r, _ => (q, r)
  | n + 1, q, r, o => if r.len < o.len then (q, r) else qdm n (q + mono (r.len - o.len) (lc r.p / lc o.p)) (dst r o) o
def qquo (a o : QX) : QX := (qdm a.len 0 a o).1
def qrem (a o : QX) : QX := (qdm a.len 0 a o).2
theorem qdm_ok {a o : QX} (ho : o ≠ 0) : ∀ (n : Nat) (q r : QX), r.len ≤ n → a = q * o + r → a = (qdm n q r o).1 * o + (qdm n q r o).2 ∧ (qdm n q r o).2.len < o.len
  | 0, q, r, h, e => ⟨e, by have := pos_len ho; show r.len < _; omega⟩
  | n + 1, q, r, h, e => by
    unfold qdm
    by_cases hl : r.len < o.len
    · rw [if_pos hl]
      exact ⟨e, hl⟩
    · rw [if_neg hl]
      have hd := dst_len ho (Nat.le_of_not_lt hl)
      refine qdm_ok ho n _ _ (by omega) ?_
      unfold dst
      grind
theorem qdiv_ok {a o : QX} (ho : o ≠ 0) : a = qquo a o * o + qrem a o ∧ (qrem a o).len < o.len := qdm_ok ho a.len 0 a (Nat.le_refl _) (by grind)
theorem div_uniq {o q q' r r' : QX} (ho : o ≠ 0) (e : q * o + r = q' * o + r') (h1 : r.len < o.len) (h2 : r'.len < o.len) : q = q' ∧ r = r' := by
  have z : (q - q') * o = r' - r := by grind
  by_cases hq : q - q' = 0
  · have h3 : q = q' := by grind
    subst h3
    exact ⟨rfl, by grind⟩
  · have h3 := len_mul hq ho
    have h4 := pos_len hq
    have h5 : (r' - r).len ≤ max r'.len r.len := by
      refine Nat.le_trans (padd_len _ _) ?_
      have := pscale_len r.p (-1)
      have e1 : r.p.length = r.len := rfl
      have e2 : r'.p.length = r'.len := rfl
      omega
    rw [← z, h3] at h5
    omega
theorem qrem_small {a o : QX} (ho : o ≠ 0) (h : a.len < o.len) : qrem a o = a := by
  obtain ⟨h1, h2⟩ := qdiv_ok (a := a) ho
  exact (div_uniq (q := qquo a o) (q' := 0) ho (by grind) h2 h).2
theorem qrem_dvd {a o : QX} (ho : o ≠ 0) : qrem a o = 0 ↔ o.dvd a := by
  obtain ⟨h1, h2⟩ := qdiv_ok (a := a) ho
  constructor
  · intro h
    exact ⟨qquo a o, by grind⟩
  · rintro ⟨c, e⟩
    have h0 : (0 : QX).len = 0 := len_zero.mpr rfl
    have := pos_len ho
    exact (div_uniq (q := qquo a o) (q' := c) (r' := 0) ho (by grind) h2 (by omega)).2
/-! ### common parts -/
def qgcd : Nat → QX → QX → QX
  | 0, a, _ => a
  | n + 1, a, b => if b.len = 0 then a else qgcd n b (qrem a b)
theorem qgcd_ok {x y : QX} : ∀ (n : Nat) (a b : QX), b.len ≤ n → (∃ u v, a = u * x + v * y) → (∃ u v, b = u * x + v * y) → (∀ d : QX, d.dvd a → d.dvd b → d.dvd x ∧ d.dvd y) → (a ≠ 0 ∨ b ≠ 0) →
    (qgcd n a b).dvd x ∧ (qgcd n a b).dvd y ∧ (∃ u v, qgcd n a b = u * x + v * y) ∧ qgcd n a b ≠ 0
  | 0, a, b, h, ha, hb, hd, hn => by
    have h0 : b = 0 := len_zero.mp (by omega)
    subst h0
    obtain ⟨d1, d2⟩ := hd a (dvd_refl a) (dvd_zero a)
    exact ⟨d1, d2, ha, hn.elim id fun z => absurd rfl z⟩
  | n + 1, a, b, h, ha, hb, hd, hn => by
    unfold qgcd
    by_cases h0 : b.len = 0
    · rw [if_pos h0]
      have h0 : b = 0 := len_zero.mp h0
      subst h0
      obtain ⟨d1, d2⟩ := hd a (dvd_refl a) (dvd_zero a)
      exact ⟨d1, d2, ha, hn.elim id fun z => absurd rfl z⟩
    · rw [if_neg h0]
      have hb0 : b ≠ 0 := fun z => h0 (len_zero.mpr z)
      obtain ⟨e, hl⟩ := qdiv_ok (a := a) hb0
      refine qgcd_ok n b (qrem a b) (by omega) hb ?_ (fun d d1 d2 => hd d ?_ d1) (.inl hb0)
      · obtain ⟨u, v, e1⟩ := ha
        obtain ⟨u', v', e2⟩ := hb
        exact ⟨u - qquo a b * u', v - qquo a b * v', by grind⟩
      · rw [e]
        exact dvd_add (dvd_mul _ d1) d2
/-- the last fraction made 1 -/
def qmon (a : QX) : QX := ⟨pscale a.p (1 / lc a.p), own_pscale _ _⟩
theorem qmon_eq (a : QX) : qmon a = QX.C (1 / lc a.p) * a := QX.extC fun i => by
  rw [coef_Cmul]
  show coef (pscale _ _) i = _
  rw [coef_pscale, Rat.mul_comm]
theorem inv_ne {c : Rat} (h : c ≠ 0) : 1 / c ≠ 0 := fun z => by
  have := Rat.div_mul_cancel (a := 1) h
  rw [z, Rat.zero_mul] at this
  exact absurd this (by decide)
theorem lc_Cmul {c : Rat} (h : c ≠ 0) {a : QX} (ha : a ≠ 0) : lc (QX.C c * a).p = c * lc a.p := by
  unfold lc
  have := len_Cmul h a
  rw [show (QX.C c * a).p.length = a.p.length from this, coef_Cmul]
theorem qmon_monic {a : QX} (ha : a ≠ 0) : Monic (qmon a) := by
  have hl := lc_ne a.own (ne_zero.mp ha)
  rw [qmon_eq]
  refine ⟨mul_ne (C_ne (inv_ne hl)) ha, ?_⟩
  rw [lc_Cmul (inv_ne hl) ha, Rat.div_mul_cancel hl]
theorem qmon_dvd {a b : QX} (ha : a ≠ 0) (h : a.dvd b) : (qmon a).dvd b := by
  have hl := lc_ne a.own (ne_zero.mp ha)
  obtain ⟨c, rfl⟩ := h
  refine ⟨QX.C (lc a.p) * c, ?_⟩
  have e : QX.C (1 / lc a.p) * QX.C (lc a.p) = 1 := by
    rw [← C_mul, Rat.div_mul_cancel hl]
    rfl
  rw [qmon_eq]
  grind
def qsh (a b : QX) : QX := qmon (qgcd b.len a b)
theorem qsh_ok {a b : QX} (h : a ≠ 0 ∨ b ≠ 0) : (qsh a b).dvd a ∧ (qsh a b).dvd b ∧ (∃ u v, qsh a b = u * a + v * b) ∧ Monic (qsh a b) := by
  obtain ⟨h1, h2, ⟨u, v, h3⟩, h4⟩ := qgcd_ok (x := a) (y := b) b.len a b (Nat.le_refl _) ⟨1, 0, by grind⟩ ⟨0, 1, by grind⟩ (fun d d1 d2 => ⟨d1, d2⟩) h
  refine ⟨qmon_dvd h4 h1, qmon_dvd h4 h2, ⟨QX.C (1 / lc (qgcd b.len a b).p) * u, QX.C (1 / lc (qgcd b.len a b).p) * v, ?_⟩, qmon_monic h4⟩
  show qmon _ = _
  rw [qmon_eq]
  grind
/-- the common part, by what it is -/
theorem qsh_uniq {a b g : QX} (h : a ≠ 0 ∨ b ≠ 0) (h1 : g.dvd a) (h2 : g.dvd b) (h3 : ∀ d : QX, d.dvd a → d.dvd b → d.dvd g) (h4 : Monic g) : qsh a b = g := by
  obtain ⟨k1, k2, ⟨u, v, e⟩, k4⟩ := qsh_ok h
  refine dvd_anti k4 h4 (h3 _ k1 k2) ?_
  rw [e]
  exact dvd_add (dvd_mul _ h1) (dvd_mul _ h2)
theorem qsh_dvd {a b d : QX} (h : a ≠ 0 ∨ b ≠ 0) (h1 : d.dvd a) (h2 : d.dvd b) : d.dvd (qsh a b) := by
  obtain ⟨k1, k2, ⟨u, v, e⟩, k4⟩ := qsh_ok h
  rw [e]
  exact dvd_add (dvd_mul _ h1) (dvd_mul _ h2)
theorem qsh_comm {a b : QX} (h : a ≠ 0 ∨ b ≠ 0) : qsh a b = qsh b a := by
  obtain ⟨k1, k2, k3, k4⟩ := qsh_ok h.symm
  exact qsh_uniq h k2 k1 (fun d d1 d2 => qsh_dvd h.symm d2 d1) k4
/-! ### sizes over one denominator -/
def CZ (n : Nat) (p : Poly) : Prop := ∃ d : Int, d ≠ 0 ∧ d.natAbs < 2 ^ n ∧ ∀ i, ∃ t : Int, t.natAbs < 2 ^ n ∧ coef p i * (d : Rat) = (t : Rat)
theorem CZ.mono {n m : Nat} {p : Poly} (h : CZ n p) (k : n ≤ m) : CZ m p := by
  obtain ⟨d, h0, h1, h2⟩ := h
  have e : 2 ^ n ≤ 2 ^ m := Nat.pow_le_pow_right (by decide) k
  exact ⟨d, h0, Nat.lt_of_lt_of_le h1 e, fun i => by
    obtain ⟨t, t1, t2⟩ := h2 i
    exact ⟨t, Nat.lt_of_lt_of_le t1 e, t2⟩⟩
theorem CZ.pos {n : Nat} {p : Poly} (h : CZ n p) : 0 < n := by
  obtain ⟨d, h0, h1, _⟩ := h
  cases n with
  | zero => simp at h1; omega
  | succ n => omega
theorem rz_quot {n : Nat} {t d : Int} {a : Rat} (h0 : d ≠ 0) (h1 : d.natAbs < 2 ^ n) (h2 : t.natAbs < 2 ^ n) (e : a * (d : Rat) = (t : Rat)) : Rz n a := by
  have hd : (d : Rat) ≠ 0 := fun z => h0 (Rat.intCast_eq_zero_iff.mp z)
  have e2 : a = (t : Rat) / (d : Rat) := by
    rw [← e, Rat.mul_div_cancel hd]
  rw [e2, ← Rat.divInt_eq_div]
  rcases Int.lt_or_gt_of_ne h0 with hz | hz
  · have : Rat.divInt t d = mkRat (-t) d.natAbs := by
      rw [← Rat.divInt_ofNat, ← Rat.neg_divInt_neg t d]
      congr 1
      omega
    rw [this]
    exact Rz.mk (by omega) (by omega) (by omega)
  · have : Rat.divInt t d = mkRat t d.natAbs := by
      rw [← Rat.divInt_ofNat]
      congr 1
      omega
    rw [this]
    exact Rz.mk (by omega) (by omega) (by omega)
theorem CZ.pz {n : Nat} {p : Poly} (h : CZ n p) : PZ n p := fun a ha => by
  obtain ⟨d, h0, h1, h2⟩ := h
  obtain ⟨i, hi, rfl⟩ := List.getElem_of_mem ha
  obtain ⟨t, t1, t2⟩ := h2 i
  rw [coef_in hi] at t2
  exact rz_quot h0 h1 t1 t2
theorem CZ.rz {n : Nat} {p : Poly} (h : CZ n p) (i : Nat) : Rz n (coef p i) := h.pz.coef h.pos i
theorem natAbs_mul_lt {a b : Int} {n m : Nat} (ha : a.natAbs < 2 ^ n) (hb : b.natAbs < 2 ^ m) : (a * b).natAbs < 2 ^ (n + m) := by
  rw [Int.natAbs_mul]
  exact nat_mul_lt ha hb
theorem cz_dst {r o : QX} {n m : Nat} (ho : o ≠ 0) (h1 : CZ n r.p) (h2 : CZ m o.p) : CZ (n + m + 1) (dst r o).p := by
  obtain ⟨d, d0, d1, hd⟩ := h1
  obtain ⟨e, e0, e1, he⟩ := h2
  obtain ⟨a, a1, a2⟩ := hd (r.p.length - 1)
  obtain ⟨b, b1, b2⟩ := he (o.p.length - 1)
  have hlo : lc o.p ≠ 0 := lc_ne o.own (ne_zero.mp ho)
  have hb0 : b ≠ 0 := fun z => by
    rw [z] at b2
    have b2 : lc o.p * (e : Rat) = ((0 : Int) : Rat) := b2
    rcases Rat.mul_eq_zero.mp (b2.trans Rat.intCast_zero) with q | q
    · exact hlo q
    · exact e0 (Rat.intCast_eq_zero_iff.mp q)
  have pw : 2 ^ (n + m + 1) = 2 ^ (n + m) + 2 ^ (n + m) := by rw [Nat.pow_succ]; omega
  refine ⟨d * b, Int.mul_ne_zero d0 hb0, by have := natAbs_mul_lt d1 b1; omega, fun i => ?_⟩
  unfold dst
  rw [coef_sub, coef_mono_mul]
  obtain ⟨x, x1, x2⟩ := hd i
  by_cases hi : i < r.len - o.len
  · rw [if_pos hi]
    refine ⟨x * b, by have := natAbs_mul_lt x1 b1; omega, ?_⟩
    rw [Rat.intCast_mul, Rat.intCast_mul, ← x2]
    grind
  · rw [if_neg hi]
    obtain ⟨y, y1, y2⟩ := he (i - (r.len - o.len))
    refine ⟨x * b - a * y, ?_, ?_⟩
    · have q1 := natAbs_mul_lt x1 b1
      have q2 := natAbs_mul_lt a1 y1
      omega
    · have b2 : lc o.p * (e : Rat) = (b : Rat) := b2
      have a2 : lc r.p * (d : Rat) = (a : Rat) := a2
      rw [Rat.intCast_mul, Rat.intCast_sub, Rat.intCast_mul, Rat.intCast_mul, ← x2, ← y2, ← a2, ← b2]
      have q : lc r.p / lc o.p * lc o.p = lc r.p := Rat.div_mul_cancel hlo
      generalize lc r.p / lc o.p = t at q ⊢
      rw [← q]
      grind
theorem cz_qdm {a o : QX} {n m : Nat} (ho : o ≠ 0) (h2 : CZ m o.p) : ∀ (k : Nat) (q r : QX), r.len ≤ k → r.len ≤ a.len → CZ (n + (a.len - max r.len (o.len - 1)) * (m + 1)) r.p → CZ (n + (a.len - (o.len - 1)) * (m + 1)) (qdm k q r o).2.p
  | 0, q, r, h, hle, hc => hc.mono (Nat.add_le_add_left (Nat.mul_le_mul_right _ (by omega)) _)
  | k + 1, q, r, h, hle, hc => by
    unfold qdm
    by_cases hl : r.len < o.len
    · rw [if_pos hl]
      exact hc.mono (Nat.add_le_add_left (Nat.mul_le_mul_right _ (by omega)) _)
    · rw [if_neg hl]
      have hd := dst_len ho (Nat.le_of_not_lt hl)
      refine cz_qdm ho h2 k _ _ (by omega) (by omega) ((cz_dst ho hc h2).mono ?_)
      have : (a.len - max r.len (o.len - 1)) + 1 ≤ a.len - max (dst r o).len (o.len - 1) := by omega
      have := Nat.mul_le_mul_right (m + 1) this
      rw [Nat.succ_mul] at this
      omega
theorem cz_qrem {a o : QX} {n m : Nat} (ho : o ≠ 0) (h1 : CZ n a.p) (h2 : CZ m o.p) : CZ (n + (a.len - (o.len - 1)) * (m + 1)) (qrem a o).p :=
  cz_qdm ho h2 a.len 0 a (Nat.le_refl _) (Nat.le_refl _) (h1.mono (Nat.le_add_right _ _))
theorem cz_qmon {a : QX} {n : Nat} (ha : a ≠ 0) (h : CZ n a.p) : CZ n (qmon a).p := by
  obtain ⟨d, d0, d1, hd⟩ := h
  obtain ⟨b, b1, b2⟩ := hd (a.p.length - 1)
  have b2 : lc a.p * (d : Rat) = (b : Rat) := b2
  have hl := lc_ne a.own (ne_zero.mp ha)
  have hb0 : b ≠ 0 := fun z => by
    rw [z] at b2
    rcases Rat.mul_eq_zero.mp (b2.trans Rat.intCast_zero) with q | q
    · exact hl q
    · exact d0 (Rat.intCast_eq_zero_iff.mp q)
  refine ⟨b, hb0, b1, fun i => ?_⟩
  obtain ⟨t, t1, t2⟩ := hd i
  refine ⟨t, t1, ?_⟩
  show coef (pscale _ _) i * _ = _
  rw [coef_pscale, ← b2, ← t2]
  have q : 1 / lc a.p * lc a.p = 1 := Rat.div_mul_cancel hl
  generalize 1 / lc a.p = u at q ⊢
  grind
end An

/-! What division and common parts bring, by data. -/
namespace An
open PySem PySem.Spec PyProof.Rows L2
theorem isPo_ok {p : Poly} (h1 : p.length ≤ 13) (h2 : Own p) : isPo (eP p) = true := by
  rw [isPo_eP, decide_eq_true h1, decide_eq_true h2]
  rfl
theorem eP_inj {p q : Poly} (h : eP p = eP q) : p = q := by
  have : PyData.eqv (eP p) (eP q) = true := by
    rw [h, eqv_eP]
    exact decide_eq_true rfl
  rw [eqv_eP] at this
  exact of_decide_eq_true this
theorem ix_last {p : Poly} (h : p ≠ []) : ixD (eP p) (-1) = some (eF (lc p)) := by
  have hpos : 0 < p.length := List.length_pos_iff.mpr h
  show atI (p.map eF) (-1) = _
  unfold atI ixN lc
  rw [List.length_map, if_neg (by decide), if_pos (by omega)]
  show (p.map eF)[(-1 + (p.length : Int)).toNat]? = _
  rw [show (-1 + (p.length : Int)).toNat = p.length - 1 by omega, List.getElem?_map, List.getElem?_eq_getElem (by omega), coef_in (by omega)]
  rfl
def vOver (ds : List D) (d : D) : Prop := ∃ (a b : Rat) (n m : Nat), ds = [eF a, eF b] ∧ b ≠ 0 ∧ Rz n a ∧ Rz m b ∧ n + m ≤ LIM ∧ d = eF (a / b)
def vOff (ds : List D) (d : D) : Prop := ∃ (p q : Poly) (n m : Nat), ds = [eP p, eP q] ∧ PZ n p ∧ PZ m q ∧ 0 < n ∧ 0 < m ∧ n + m + 1 ≤ LIM ∧ p.length ≤ 1000 ∧ q.length ≤ 1000 ∧ d = eP (padd p (pscale q (-1)))
def vPart (ds : List D) (d : D) : Prop := ∃ (a o : QX) (n m : Nat), ds = [eP a.p, eP o.p] ∧ o ≠ 0 ∧ CZ n a.p ∧ CZ m o.p ∧ a.len ≤ 100 ∧ o.len ≤ 100 ∧ 2 * (n + (a.len + 1) * (m + 1)) + 2 * m + 2 ≤ LIM ∧ d = .tuple [eP (qquo a o).p, eP (qrem a o).p]
theorem div_num (a b : Rat) : Rat.divInt (a.num * (b.den : Int)) ((a.den : Int) * b.num) = a / b := by
  rw [Rat.div_def, Rat.inv_def, ← Rat.divInt_mul_divInt, Rat.num_divInt_den]
/-! ### sizes along a common part -/
theorem gz_two : ∀ d : Nat, 1 ≤ d → 5 * 2 ^ d ≤ 2 * 5 ^ d ∧ (5 * d + 7) * 2 ^ d ≤ 5 * 5 ^ d
  | 0, h => by omega
  | 1, _ => by decide
  | d + 2, _ => by
    obtain ⟨h1, h2⟩ := gz_two (d + 1) (by omega)
    rw [Nat.pow_succ 2 (d + 1), Nat.pow_succ 5 (d + 1)]
    refine ⟨by omega, ?_⟩
    have e : (5 * (d + 2) + 7) * (2 ^ (d + 1) * 2) = (5 * (d + 1) + 7) * 2 ^ (d + 1) * 2 + 10 * 2 ^ (d + 1) := by
      have : (5 * (d + 2) + 7) = (5 * (d + 1) + 7) + 5 := by omega
      rw [this, Nat.add_mul, Nat.mul_assoc]
      omega
    have h3 : 10 * 2 ^ (d + 1) ≤ (5 * (d + 1) + 7) * 2 ^ (d + 1) := Nat.mul_le_mul_right _ (by omega)
    omega
/-- how great the sizes get, ahead of the pair (a, b) -/
structure GZ (N : Nat) (a b : QX) : Prop where
  z : ∃ n m, CZ n a.p ∧ CZ m b.p ∧ (2 * (n + 1) + 5 * (m + 1)) * 5 ^ a.len ≤ N * 2 ^ a.len ∧ b.len < a.len
theorem GZ.next {N : Nat} {a b : QX} (h : GZ N a b) (hb : b ≠ 0) : GZ N b (qrem a b) := by
  obtain ⟨n, m, h1, h2, h3, h4⟩ := h.z
  have hr := (qdiv_ok (a := a) hb).2
  refine ⟨m, n + (a.len - (b.len - 1)) * (m + 1), h2, cz_qrem hb h1 h2, ?_, hr⟩
  have hp := pos_len hb
  have e : a.len - (b.len - 1) = (a.len - b.len) + 1 := by omega
  generalize hd : a.len - b.len = d at e
  have hd1 : 1 ≤ d := by omega
  rw [e]
  obtain ⟨g1, g2⟩ := gz_two d hd1
  have ea : a.len = b.len + d := by omega
  rw [ea, Nat.pow_add, Nat.pow_add] at h3
  have k1 : (2 * (m + 1) + 5 * (n + (d + 1) * (m + 1) + 1)) * 2 ^ d ≤ (2 * (n + 1) + 5 * (m + 1)) * 5 ^ d := by
    have q1 : (5 * (n + 1)) * 2 ^ d ≤ (2 * (n + 1)) * 5 ^ d := by
      have := Nat.mul_le_mul_left (n + 1) g1
      rw [Nat.mul_comm 5, Nat.mul_assoc, Nat.mul_comm 2 (n + 1), Nat.mul_assoc]
      exact this
    have q2 : ((5 * d + 7) * (m + 1)) * 2 ^ d ≤ (5 * (m + 1)) * 5 ^ d := by
      have := Nat.mul_le_mul_left (m + 1) g2
      rw [Nat.mul_comm (5 * d + 7), Nat.mul_assoc, Nat.mul_comm 5 (m + 1), Nat.mul_assoc]
      exact this
    have e1 : 2 * (m + 1) + 5 * (n + (d + 1) * (m + 1) + 1) = 5 * (n + 1) + (5 * d + 7) * (m + 1) := by
      have h5 : (5 * d + 7) * (m + 1) = 5 * (d * (m + 1)) + 7 * (m + 1) := by rw [Nat.add_mul, Nat.mul_assoc]
      have h6 : (d + 1) * (m + 1) = d * (m + 1) + (m + 1) := Nat.succ_mul _ _
      rw [h5, h6]
      omega
    have q3 := Nat.add_le_add q1 q2
    rw [← Nat.add_mul, ← Nat.add_mul] at q3
    rw [e1]
    exact q3
  refine Nat.le_of_mul_le_mul_right (c := 2 ^ d) ?_ (Nat.pow_pos (by decide))
  calc (2 * (m + 1) + 5 * (n + (d + 1) * (m + 1) + 1)) * 5 ^ b.len * 2 ^ d = (2 * (m + 1) + 5 * (n + (d + 1) * (m + 1) + 1)) * 2 ^ d * 5 ^ b.len := by rw [Nat.mul_right_comm]
    _ ≤ (2 * (n + 1) + 5 * (m + 1)) * 5 ^ d * 5 ^ b.len := Nat.mul_le_mul_right _ k1
    _ = (2 * (n + 1) + 5 * (m + 1)) * (5 ^ b.len * 5 ^ d) := by rw [Nat.mul_assoc, Nat.mul_comm (5 ^ d)]
    _ ≤ N * (2 ^ b.len * 2 ^ d) := h3
    _ = N * 2 ^ b.len * 2 ^ d := by rw [Nat.mul_assoc]
theorem GZ.sz {N : Nat} {a b : QX} (h : GZ N a b) : CZ (N / 2) a.p ∧ CZ (N / 2) b.p := by
  obtain ⟨n, m, h1, h2, h3, h4⟩ := h.z
  have hle : N * 2 ^ a.len ≤ N * 5 ^ a.len := Nat.mul_le_mul_left _ (Nat.pow_le_pow_left (by decide) _)
  have hW : 2 * (n + 1) + 5 * (m + 1) ≤ N := Nat.le_of_mul_le_mul_right (Nat.le_trans h3 hle) (Nat.pow_pos (by decide))
  exact ⟨h1.mono (by omega), h2.mono (by omega)⟩
/-- the greatest size, of two of n bits and L fractions -/
def gz (n L : Nat) : Nat := 12 * (n + 1) * 5 ^ L / 2 ^ L + 1
theorem gz_ok (n L : Nat) : 12 * (n + 1) * 5 ^ L ≤ gz n L * 2 ^ L := by
  unfold gz
  generalize 12 * (n + 1) * 5 ^ L = x
  have h := Nat.lt_div_mul_add (a := x) (b := 2 ^ L) (Nat.pow_pos (by decide))
  rw [Nat.add_mul, Nat.one_mul]
  exact Nat.le_of_lt h
theorem gz_at {n L l W : Nat} (hl : l ≤ L) (hW : W ≤ 12 * (n + 1)) : W * 5 ^ l ≤ gz n L * 2 ^ l := by
  have h0 := gz_ok n L
  obtain ⟨k, rfl⟩ : ∃ k, L = l + k := ⟨L - l, by omega⟩
  refine Nat.le_of_mul_le_mul_right (c := 5 ^ k) ?_ (Nat.pow_pos (by decide))
  calc W * 5 ^ l * 5 ^ k = W * 5 ^ (l + k) := by rw [Nat.mul_assoc, Nat.pow_add]
    _ ≤ 12 * (n + 1) * 5 ^ (l + k) := Nat.mul_le_mul_right _ hW
    _ ≤ gz n (l + k) * 2 ^ (l + k) := h0
    _ = gz n (l + k) * 2 ^ l * 2 ^ k := by rw [Nat.pow_add, Nat.mul_assoc]
    _ ≤ gz n (l + k) * 2 ^ l * 5 ^ k := Nat.mul_le_mul_left _ (Nat.pow_le_pow_left (by decide) _)
theorem gz_n (n L : Nat) : n + 1 ≤ gz n L / 2 := by
  have h := gz_at (n := n) (L := L) (l := 0) (Nat.zero_le _) (Nat.le_refl _)
  simp at h
  omega
theorem cz_qgcd {N : Nat} : ∀ (n : Nat) (a b : QX), b.len ≤ n → GZ N a b → CZ (N / 2) (qgcd n a b).p
  | 0, a, b, h, g => g.sz.1
  | n + 1, a, b, h, g => by
    unfold qgcd
    by_cases h0 : b.len = 0
    · rw [if_pos h0]
      exact g.sz.1
    · rw [if_neg h0]
      have hb : b ≠ 0 := fun z => h0 (len_zero.mpr z)
      have hr := (qdiv_ok (a := a) hb).2
      exact cz_qgcd n b (qrem a b) (by omega) (g.next hb)
theorem gz_first {n L : Nat} {x y : QX} (hx : x.len ≤ L) (hy : y.len ≤ L) (hca : CZ n x.p) (hcb : CZ n y.p) (hy0 : y ≠ 0) : GZ (gz n L) y (qrem x y) := by
  have hr := (qdiv_ok (a := x) hy0).2
  by_cases hlt : y.len < x.len
  · exact GZ.next ⟨n, n, hca, hcb, gz_at hx (by omega), hlt⟩ hy0
  · refine ⟨n, n + (x.len - (y.len - 1)) * (n + 1), hcb, cz_qrem hy0 hca hcb, gz_at hy ?_, hr⟩
    have h1 : (x.len - (y.len - 1)) * (n + 1) ≤ 1 * (n + 1) := Nat.mul_le_mul_right _ (by omega)
    omega
/-- the common part's size -/
theorem cz_qsh {n L : Nat} {a b : QX} (h : a ≠ 0 ∨ b ≠ 0) (ha : CZ n a.p) (hb : CZ n b.p) (hl1 : a.len ≤ L) (hl2 : b.len ≤ L) : CZ (gz n L / 2) (qsh a b).p := by
  obtain ⟨_, _, _, h4⟩ := qgcd_ok (x := a) (y := b) b.len a b (Nat.le_refl _) ⟨1, 0, by grind⟩ ⟨0, 1, by grind⟩ (fun d d1 d2 => ⟨d1, d2⟩) h
  refine cz_qmon h4 ?_
  have hn := gz_n n L
  by_cases h0 : b.len = 0
  · rw [h0]
    exact ha.mono (by omega)
  · have hb0 : b ≠ 0 := fun z => h0 (len_zero.mpr z)
    have hr := (qdiv_ok (a := a) hb0).2
    conv => rw [show b.len = (b.len - 1) + 1 by omega]
    have e : qgcd (b.len - 1 + 1) a b = qgcd (b.len - 1) b (qrem a b) := by
      show (if b.len = 0 then a else _) = _
      rw [if_neg h0]
    rw [e]
    exact cz_qgcd _ b (qrem a b) (by omega) (gz_first hl1 hl2 ha hb hb0)
/-- the quotient's size -/
theorem pz_qdm {a o : QX} {n m B : Nat} (ho : o ≠ 0) (h2 : CZ m o.p) (hB : n + (a.len + 1) * (m + 1) + m ≤ B) : ∀ (k : Nat) (q r : QX), r.len ≤ k → r.len ≤ a.len → CZ (n + (a.len - max r.len (o.len - 1)) * (m + 1)) r.p → (∀ i, i + o.len ≤ r.len → coef q.p i = 0) → (∀ i, Rz B (coef q.p i)) → ∀ i, Rz B (coef (qdm k q r o).1.p i)
  | 0, q, r, h, hle, hc, hz, hs => hs
  | k + 1, q, r, h, hle, hc, hz, hs => by
    unfold qdm
    by_cases hl : r.len < o.len
    · rw [if_pos hl]
      exact hs
    · rw [if_neg hl]
      have hd := dst_len ho (Nat.le_of_not_lt hl)
      have hop := pos_len ho
      refine pz_qdm ho h2 hB k _ _ (by omega) (by omega) ((cz_dst ho hc h2).mono ?_) (fun i hi => ?_) (fun i => ?_)
      · have : (a.len - max r.len (o.len - 1)) + 1 ≤ a.len - max (dst r o).len (o.len - 1) := by omega
        have := Nat.mul_le_mul_right (m + 1) this
        rw [Nat.succ_mul] at this
        omega
      · rw [coef_add, coef_mono, hz i (by omega), if_neg (by omega), Rat.add_zero]
      · rw [coef_add, coef_mono]
        by_cases e : i = r.len - o.len
        · rw [if_pos e, hz i (by omega), Rat.zero_add]
          have hm : (a.len - max r.len (o.len - 1)) * (m + 1) ≤ (a.len + 1) * (m + 1) := Nat.mul_le_mul_right _ (by omega)
          exact ((hc.rz (r.p.length - 1)).div (h2.rz (o.p.length - 1))).mono (by omega)
        · rw [if_neg e, Rat.add_zero]
          exact hs i
theorem pz_qquo {a o : QX} {n m : Nat} (ho : o ≠ 0) (h1 : CZ n a.p) (h2 : CZ m o.p) : PZ (n + (a.len + 1) * (m + 1) + m) (qquo a o).p := fun x hx => by
  obtain ⟨i, hi, rfl⟩ := List.getElem_of_mem hx
  rw [← coef_in hi]
  refine pz_qdm (n := n) ho h2 (Nat.le_refl _) a.len 0 a (Nat.le_refl _) (Nat.le_refl _) (h1.mono (Nat.le_add_right _ _)) (fun i _ => by rw [qx_zero, coef_nil]) (fun i => ?_) i
  rw [qx_zero, coef_nil]
  exact rz_zero.mono (by have := h1.pos; omega)
theorem qquo_len {a o : QX} (ho : o ≠ 0) : (qquo a o).len ≤ a.len := by
  obtain ⟨e, hl⟩ := qdiv_ok (a := a) ho
  by_cases h0 : qquo a o = 0
  · rw [h0, len_zero.mpr rfl]; exact Nat.zero_le _
  · have h1 := len_mul h0 ho
    have hop := pos_len ho
    have hqp := pos_len h0
    have h2 : (qquo a o * o).len ≤ max a.len (qrem a o).len := by
      have e2 : qquo a o * o = a - qrem a o := by grind
      rw [e2]
      refine Nat.le_trans (padd_len _ _) ?_
      have := pscale_len (qrem a o).p (-1)
      have e1 : a.p.length = a.len := rfl
      have e2 : (qrem a o).p.length = (qrem a o).len := rfl
      omega
    omega
theorem cmul_cz {q : Poly} {d e : Int} {n m : Nat} (hq : ∀ i, ∃ t : Int, t.natAbs < 2 ^ m ∧ coef q i * (e : Rat) = (t : Rat)) : ∀ (p : Poly), (∀ i, ∃ t : Int, t.natAbs < 2 ^ n ∧ coef p i * (d : Rat) = (t : Rat)) → ∀ k, ∃ t : Int, t.natAbs ≤ p.length * 2 ^ (n + m) ∧ cmul p q k * ((d * e : Int) : Rat) = (t : Rat)
  | [], _, k => ⟨0, by simp, by show (0 : Rat) * _ = _; rw [Rat.zero_mul]; rfl⟩
  | a :: p, hp, k => by
    obtain ⟨x, x1, x2⟩ := hp 0
    obtain ⟨y, y1, y2⟩ := hq k
    have hxy := natAbs_mul_lt x1 y1
    have e1 : (a :: p).length * 2 ^ (n + m) = p.length * 2 ^ (n + m) + 2 ^ (n + m) := by rw [List.length_cons, Nat.succ_mul]
    rw [coef_zero] at x2
    cases k with
    | zero =>
      refine ⟨x * y, by omega, ?_⟩
      show (a * coef q 0 + 0) * _ = _
      rw [Rat.intCast_mul, Rat.intCast_mul, ← x2, ← y2]
      grind
    | succ k =>
      obtain ⟨t, t1, t2⟩ := cmul_cz hq p (fun i => by have := hp (i + 1); rw [coef_succ] at this; exact this) k
      refine ⟨x * y + t, by omega, ?_⟩
      show (a * coef q (k + 1) + cmul p q k) * _ = _
      rw [Rat.intCast_add, ← t2, Rat.intCast_mul, Rat.intCast_mul, ← x2, ← y2]
      grind
theorem cz_pmul {p q : Poly} {n m k : Nat} (hp : CZ n p) (hq : CZ m q) (hk : p.length < 2 ^ k) : CZ (n + m + k) (pmul p q) := by
  obtain ⟨d, d0, d1, hd⟩ := hp
  obtain ⟨e, e0, e1, he⟩ := hq
  have h0 : 0 < 2 ^ (n + m) := Nat.pow_pos (by decide)
  have hpw : 2 ^ (n + m + k) = 2 ^ k * 2 ^ (n + m) := by rw [Nat.pow_add, Nat.mul_comm]
  refine ⟨d * e, Int.mul_ne_zero d0 e0, Nat.lt_of_lt_of_le (natAbs_mul_lt d1 e1) (Nat.pow_le_pow_right (by decide) (Nat.le_add_right _ _)), fun i => ?_⟩
  obtain ⟨t, t1, t2⟩ := cmul_cz he p hd i
  refine ⟨t, ?_, by rw [coef_pmul]; exact t2⟩
  rw [hpw]
  exact Nat.lt_of_le_of_lt t1 (Nat.mul_lt_mul_of_pos_right hk h0)
/-- sizes along Euclid's way, by what is kept of the pairs -/
structure EuG (B : Nat) (G : QX → QX → Prop) : Prop where
  next : ∀ x y, G x y → y ≠ 0 → G y (qrem x y)
  sz : ∀ x y, G x y → CZ B x.p ∧ CZ B y.p ∧ x.len ≤ 20 ∧ y.len ≤ 20
def vShare (ds : List D) (d : D) : Prop := ∃ (a b : QX) (B : Nat) (G : QX → QX → Prop), ds = [eP a.p, eP b.p] ∧ (a ≠ 0 ∨ b ≠ 0) ∧ EuG B G ∧ G a b ∧ 46 * B + 44 ≤ LIM ∧ d = eP (qsh a b).p
theorem eug_gz {n L : Nat} {a b : QX} (ha : CZ n a.p) (hb : CZ n b.p) (hl1 : a.len ≤ L) (hl2 : b.len ≤ L) (hL : L ≤ 20) : EuG (gz n L / 2) (fun x y => (GZ (gz n L) x y ∨ (x = a ∧ y = b)) ∧ x.len ≤ L ∧ y.len ≤ L) where
  next := fun x y ⟨h, h1, h2⟩ hy => by
    have hr := (qdiv_ok (a := x) hy).2
    refine ⟨.inl ?_, h2, by omega⟩
    rcases h with h | ⟨rfl, rfl⟩
    · exact h.next hy
    · exact gz_first hl1 hl2 ha hb hy
  sz := fun x y ⟨h, h1, h2⟩ => by
    have hn := gz_n n L
    rcases h with h | ⟨rfl, rfl⟩
    · exact ⟨h.sz.1, h.sz.2, by omega, by omega⟩
    · exact ⟨ha.mono (by omega), hb.mono (by omega), by omega, by omega⟩
theorem share_of {a b : QX} {n L : Nat} (h : a ≠ 0 ∨ b ≠ 0) (ha : CZ n a.p) (hb : CZ n b.p) (hl1 : a.len ≤ L) (hl2 : b.len ≤ L) (hL : L ≤ 20) (hlim : 23 * gz n L + 44 ≤ LIM) : vShare [eP a.p, eP b.p] (eP (qsh a b).p) :=
  ⟨a, b, gz n L / 2, _, rfl, h, eug_gz ha hb hl1 hl2 hL, ⟨.inr ⟨rfl, rfl⟩, hl1, hl2⟩, by omega, rfl⟩
theorem eug_gcd {B : Nat} {G : QX → QX → Prop} (h : EuG B G) : ∀ (n : Nat) (a b : QX), b.len ≤ n → G a b → CZ B (qgcd n a b).p
  | 0, a, b, _, g => (h.sz a b g).1
  | n + 1, a, b, hl, g => by
    unfold qgcd
    by_cases h0 : b.len = 0
    · rw [if_pos h0]
      exact (h.sz a b g).1
    · rw [if_neg h0]
      have hb : b ≠ 0 := fun z => h0 (len_zero.mpr z)
      have hr := (qdiv_ok (a := a) hb).2
      exact eug_gcd h n b (qrem a b) (by omega) (h.next a b g hb)
theorem eug_sh {B : Nat} {G : QX → QX → Prop} (h : EuG B G) {a b : QX} (hab : a ≠ 0 ∨ b ≠ 0) (g : G a b) : CZ B (qsh a b).p := by
  obtain ⟨_, _, _, h4⟩ := qgcd_ok (x := a) (y := b) b.len a b (Nat.le_refl _) ⟨1, 0, by grind⟩ ⟨0, 1, by grind⟩ (fun d d1 d2 => ⟨d1, d2⟩) hab
  exact cz_qmon h4 (eug_gcd h _ a b (Nat.le_refl _) g)
theorem qgcd_fuel : ∀ (n : Nat) (a b : QX), b.len ≤ n → qgcd n a b = qgcd b.len a b
  | 0, a, b, h => by rw [show b.len = 0 by omega]
  | n + 1, a, b, h => by
    by_cases h0 : b.len = 0
    · rw [h0]
      show (if b.len = 0 then a else _) = a
      rw [if_pos h0]
    · have hb : b ≠ 0 := fun z => h0 (len_zero.mpr z)
      have hr := (qdiv_ok (a := a) hb).2
      have e : qgcd b.len a b = qgcd (b.len - 1) b (qrem a b) := by
        conv => lhs; rw [show b.len = (b.len - 1) + 1 by omega]
        show (if b.len = 0 then a else _) = _
        rw [if_neg h0]
      rw [e, qgcd_fuel (b.len - 1) b (qrem a b) (by omega)]
      show (if b.len = 0 then a else _) = _
      rw [if_neg h0, qgcd_fuel n b (qrem a b) (by omega)]
termination_by n => n
decreasing_by all_goals omega
def xTwo (K : PySem.W.Frag) (ds : List D) (c : Value) : Prop := ∃ x y, ds = [x, y] ∧ (isPo x = false ∨ isPo y = false) ∧ c = ec K "BadPoly"
def vDiv (ds : List D) (d : D) : Prop := ∃ (a o : QX) (n m : Nat), ds = [eP a.p, eP o.p] ∧ o ≠ 0 ∧ CZ n a.p ∧ CZ m o.p ∧ a.p.length ≤ 13 ∧ o.p.length ≤ 13 ∧ 2 * (n + (a.len + 1) * (m + 1)) + 2 * m + 2 ≤ LIM ∧ d = .tuple [eP (qquo a o).p, eP (qrem a o).p]
def xDiv (K : PySem.W.Frag) (ds : List D) (c : Value) : Prop := xTwo K ds c ∨ (∃ a, ds = [a, .list []] ∧ isPo (.list []) = true ∧ isPo a = true ∧ c = ec K "NoWay")
def vCom (ds : List D) (d : D) : Prop := ∃ (a b : QX) (n L : Nat), ds = [eP a.p, eP b.p] ∧ (a ≠ 0 ∨ b ≠ 0) ∧ CZ n a.p ∧ CZ n b.p ∧ a.len ≤ L ∧ b.len ≤ L ∧ L ≤ 13 ∧ 23 * gz n L + 44 ≤ LIM ∧ d = eP (qsh a b).p
def xCom (K : PySem.W.Frag) (ds : List D) (c : Value) : Prop := xTwo K ds c ∨ (ds = [.list [], .list []] ∧ c = ec K "NoWay")
end An

/-! Worths of sums and products; roots; polynomials composed; through points. -/
namespace An
open PySem
/-! ### worths -/
theorem peval_trim (x : Rat) : ∀ p : Poly, peval (trim p) x = peval p x
  | [] => rfl
  | a :: r => by
    have ih := peval_trim x r
    unfold trim
    by_cases h : trim r = [] ∧ a = 0
    · rw [if_pos h]
      rw [h.1] at ih
      show (0 : Rat) = peval r x * x + a
      rw [← ih, h.2]
      show (0 : Rat) = 0 * x + 0
      grind
    · rw [if_neg h]
      show peval (trim r) x * x + a = peval r x * x + a
      rw [ih]
theorem peval_ext {p q : Poly} (h : ∀ i, coef p i = coef q i) (x : Rat) : peval p x = peval q x := by
  rw [← peval_trim x p, ← peval_trim x q, trim_ext h]
def addL : Poly → Poly → Poly
  | [], q => q
  | p, [] => p
  | a :: p, b :: q => (a + b) :: addL p q
theorem coef_addL : ∀ (p q : Poly) (i : Nat), coef (addL p q) i = coef p i + coef q i
  | [], q, i => by rw [addL, coef_nil, Rat.zero_add]
  | a :: p, [], i => by rw [addL, coef_nil, Rat.add_zero]; simp
  | a :: p, b :: q, 0 => rfl
  | a :: p, b :: q, i + 1 => by rw [addL, coef_succ, coef_succ, coef_succ, coef_addL]
theorem peval_addL (x : Rat) : ∀ (p q : Poly), peval (addL p q) x = peval p x + peval q x
  | [], q => by rw [addL]; show _ = 0 + _; rw [Rat.zero_add]
  | a :: p, [] => by rw [addL]; show _ = _ + 0; rw [Rat.add_zero]; simp
  | a :: p, b :: q => by
    rw [addL]
    show peval (addL p q) x * x + (a + b) = (peval p x * x + a) + (peval q x * x + b)
    rw [peval_addL x p q]
    grind
theorem peval_padd (p q : Poly) (x : Rat) : peval (padd p q) x = peval p x + peval q x := by
  rw [← peval_addL, peval_ext (q := addL p q) fun i => by rw [coef_padd, coef_addL]]
theorem peval_map (c x : Rat) : ∀ p : Poly, peval (p.map fun a => a * c) x = peval p x * c
  | [] => by show (0 : Rat) = 0 * c; rw [Rat.zero_mul]
  | a :: p => by
    show peval (p.map fun a => a * c) x * x + a * c = (peval p x * x + a) * c
    rw [peval_map c x p]
    grind
theorem peval_pscale (p : Poly) (c x : Rat) : peval (pscale p c) x = peval p x * c := by
  unfold pscale
  rw [peval_trim, peval_map]
def mulL : Poly → Poly → Poly
  | [], _ => []
  | a :: p, q => addL (q.map fun b => b * a) (0 :: mulL p q)
theorem coef_mulL : ∀ (p q : Poly) (k : Nat), coef (mulL p q) k = cmul p q k
  | [], q, k => by rw [mulL, coef_nil]; rfl
  | a :: p, q, 0 => by
    rw [mulL, coef_addL, coef_mapP (Rat.zero_mul a), coef_zero]
    show coef q 0 * a + 0 = a * coef q 0 + 0
    rw [Rat.mul_comm]
  | a :: p, q, k + 1 => by
    rw [mulL, coef_addL, coef_mapP (Rat.zero_mul a), coef_succ, coef_mulL p q k]
    show coef q (k + 1) * a + _ = a * coef q (k + 1) + cmul p q k
    rw [Rat.mul_comm]
theorem peval_mulL (x : Rat) : ∀ (p q : Poly), peval (mulL p q) x = peval p x * peval q x
  | [], q => by show (0 : Rat) = 0 * _; rw [Rat.zero_mul]
  | a :: p, q => by
    rw [mulL, peval_addL, peval_map]
    show peval q x * a + (peval (mulL p q) x * x + 0) = (peval p x * x + a) * peval q x
    rw [peval_mulL x p q]
    grind
theorem peval_pmul (p q : Poly) (x : Rat) : peval (pmul p q) x = peval p x * peval q x := by
  rw [← peval_mulL, peval_ext (q := mulL p q) fun i => by rw [coef_pmul, coef_mulL]]
def QX.ev (a : QX) (x : Rat) : Rat := peval a.p x
theorem ev_add (a b : QX) (x : Rat) : (a + b).ev x = a.ev x + b.ev x := peval_padd _ _ _
theorem ev_mul (a b : QX) (x : Rat) : (a * b).ev x = a.ev x * b.ev x := peval_pmul _ _ _
theorem ev_C (c x : Rat) : (QX.C c).ev x = c := by
  show peval (trim [c]) x = c
  rw [peval_trim]
  show (0 : Rat) * x + c = c
  grind
theorem ev_zero (x : Rat) : (0 : QX).ev x = 0 := by
  show peval (0 : QX).p x = 0
  rw [qx_zero]
  rfl
theorem ev_one (x : Rat) : (1 : QX).ev x = 1 := ev_C 1 x
theorem ev_neg (a : QX) (x : Rat) : (-a).ev x = -a.ev x := by
  show peval (pscale a.p (-1)) x = _
  rw [peval_pscale]
  show a.ev x * -1 = _
  grind
theorem ev_sub (a b : QX) (x : Rat) : (a - b).ev x = a.ev x - b.ev x := by
  show peval (padd a.p (pscale b.p (-1))) x = _
  rw [peval_padd, peval_pscale]
  show a.ev x + b.ev x * -1 = _
  grind
/-! ### roots -/
theorem own_lin (x : Rat) : Own [x, 1] := own_iff.mpr (.inr (by show (1 : Rat) ≠ 0; decide))
/-- x less a place -/
def lin (x : Rat) : QX := ⟨[-x, 1], own_lin _⟩
theorem ev_lin (a x : Rat) : (lin a).ev x = x - a := by
  show ((0 : Rat) * x + 1) * x + -a = x - a
  grind
theorem lin_len (x : Rat) : (lin x).len = 2 := rfl
theorem lin_ne (x : Rat) : lin x ≠ 0 := ne_zero.mpr (by intro h; cases h)
theorem root_dvd {a : QX} {x : Rat} (h : a.ev x = 0) : ∃ b, a = b * lin x := by
  obtain ⟨e, hl⟩ := qdiv_ok (a := a) (lin_ne x)
  have hl : (qrem a (lin x)).len < 2 := hl
  have hr : qrem a (lin x) = 0 := by
    by_cases h0 : (qrem a (lin x)).len = 0
    · exact len_zero.mp h0
    · have h1 := len_one (a := qrem a (lin x)) (by omega)
      have h2 : a.ev x = (qquo a (lin x)).ev x * (lin x).ev x + (qrem a (lin x)).ev x := by rw [← ev_mul, ← ev_add, ← e]
      rw [ev_lin, h, h1, ev_C] at h2
      have h3 : lc (qrem a (lin x)).p = 0 := by grind
      exact absurd h3 (lc_ne (qrem a (lin x)).own (ne_zero.mp fun z => h0 (len_zero.mpr z)))
  exact ⟨qquo a (lin x), by grind⟩
/-- fewer fractions than roots: nought -/
theorem roots_zero : ∀ (xs : List Rat) (a : QX), xs.Nodup → (∀ x ∈ xs, a.ev x = 0) → a.len ≤ xs.length → a = 0
  | [], a, _, _, hl => len_zero.mp (by simpa using hl)
  | x :: xs, a, hn, hz, hl => by
    obtain ⟨b, e⟩ := root_dvd (hz x List.mem_cons_self)
    have hn' := List.nodup_cons.mp hn
    have hb : b = 0 := by
      refine roots_zero xs b hn'.2 (fun y hy => ?_) ?_
      · have h1 := hz y (List.mem_cons_of_mem _ hy)
        rw [e, ev_mul, ev_lin] at h1
        rcases Rat.mul_eq_zero.mp h1 with h1 | h1
        · exact h1
        · have : y = x := by grind
          exact absurd (this ▸ hy) hn'.1
      · by_cases h0 : b = 0
        · rw [h0, len_zero.mpr rfl]
          exact Nat.zero_le _
        · have := len_mul h0 (lin_ne x)
          rw [← e, lin_len] at this
          rw [List.length_cons] at hl
          omega
    rw [e, hb]
    grind
theorem poly_uniq {xs : List Rat} {a b : QX} (hn : xs.Nodup) (h : ∀ x ∈ xs, a.ev x = b.ev x) (ha : a.len ≤ xs.length) (hb : b.len ≤ xs.length) : a = b := by
  have hz : a - b = 0 := roots_zero xs (a - b) hn (fun x hx => by rw [ev_sub, h x hx]; grind) (by
    refine Nat.le_trans (padd_len _ _) ?_
    have := pscale_len b.p (-1)
    have e1 : a.p.length = a.len := rfl
    have e2 : b.p.length = b.len := rfl
    omega)
  grind
/-! ### sizes over one denominator -/
theorem cz_padd {p q : Poly} {n m : Nat} (hp : CZ n p) (hq : CZ m q) : CZ (n + m + 1) (padd p q) := by
  obtain ⟨d, d0, d1, hd⟩ := hp
  obtain ⟨e, e0, e1, he⟩ := hq
  have pw : 2 ^ (n + m + 1) = 2 ^ (n + m) + 2 ^ (n + m) := by rw [Nat.pow_succ]; omega
  refine ⟨d * e, Int.mul_ne_zero d0 e0, by have := natAbs_mul_lt d1 e1; omega, fun i => ?_⟩
  obtain ⟨x, x1, x2⟩ := hd i
  obtain ⟨y, y1, y2⟩ := he i
  refine ⟨x * e + d * y, ?_, ?_⟩
  · have q1 := natAbs_mul_lt x1 e1
    have q2 := natAbs_mul_lt d1 y1
    omega
  · rw [coef_padd, Rat.intCast_mul, Rat.intCast_add, Rat.intCast_mul, Rat.intCast_mul, ← x2, ← y2]
    grind
theorem den_ne (c : Rat) : ((c.den : Int) : Rat) ≠ 0 := fun z => by
  have := Rat.intCast_eq_zero_iff.mp z
  have := c.den_pos
  omega
theorem num_eq (c : Rat) : c * ((c.den : Int) : Rat) = (c.num : Rat) := by
  have e : c = (c.num : Rat) / ((c.den : Int) : Rat) := by
    rw [← Rat.divInt_eq_div, Rat.num_divInt_den]
  conv => lhs; lhs; rw [e]
  exact Rat.div_mul_cancel (den_ne c)
theorem cz_pscale {p : Poly} {c : Rat} {n m : Nat} (hp : CZ n p) (hc : Rz m c) : CZ (n + m) (pscale p c) := by
  obtain ⟨d, d0, d1, hd⟩ := hp
  have hden : (c.den : Int).natAbs < 2 ^ m := by simpa using hc.2
  have := c.den_pos
  refine ⟨d * (c.den : Int), Int.mul_ne_zero d0 (by omega), natAbs_mul_lt d1 hden, fun i => ?_⟩
  obtain ⟨x, x1, x2⟩ := hd i
  refine ⟨x * c.num, natAbs_mul_lt x1 hc.1, ?_⟩
  rw [coef_pscale, Rat.intCast_mul, Rat.intCast_mul, ← x2, ← num_eq c]
  grind
theorem cz_nil {n : Nat} (h : 0 < n) : CZ n [] := ⟨1, by decide, Nat.one_lt_two_pow (by omega), fun i => ⟨0, Nat.pow_pos (by decide), by rw [coef_nil]; grind⟩⟩
theorem cz_one {c : Rat} {n : Nat} (h : Rz n c) : CZ n (trim [c]) := by
  have := c.den_pos
  refine ⟨(c.den : Int), by omega, by simpa using h.2, fun i => ?_⟩
  rw [coef_trim]
  cases i with
  | zero => exact ⟨c.num, h.1, by rw [coef_zero, num_eq]⟩
  | succ i => exact ⟨0, Nat.pow_pos (by decide), by rw [coef_succ, coef_nil]; grind⟩
theorem cz_trim {p : Poly} {n : Nat} (h : CZ n p) : CZ n (trim p) := by
  obtain ⟨d, d0, d1, hd⟩ := h
  exact ⟨d, d0, d1, fun i => by rw [coef_trim]; exact hd i⟩
theorem cz_cons {c : Rat} {p : Poly} {n m : Nat} (hc : Rz n c) (hp : CZ m p) : CZ (n + m) (c :: p) := by
  obtain ⟨d, d0, d1, hd⟩ := hp
  have hden : (c.den : Int).natAbs < 2 ^ n := by simpa using hc.2
  have := c.den_pos
  refine ⟨(c.den : Int) * d, Int.mul_ne_zero (by omega) d0, natAbs_mul_lt hden d1, fun i => ?_⟩
  cases i with
  | zero =>
    refine ⟨c.num * d, natAbs_mul_lt hc.1 d1, ?_⟩
    rw [coef_zero, Rat.intCast_mul, Rat.intCast_mul, ← num_eq c]
    grind
  | succ i =>
    obtain ⟨x, x1, x2⟩ := hd i
    refine ⟨(c.den : Int) * x, natAbs_mul_lt hden x1, ?_⟩
    rw [coef_succ, Rat.intCast_mul, Rat.intCast_mul, ← x2]
    grind
theorem peval_cz {x : Rat} {d : Int} {n m : Nat} (hx : Rz m x) : ∀ (p : Poly), (∀ i, ∃ t : Int, t.natAbs < 2 ^ n ∧ coef p i * (d : Rat) = (t : Rat)) → ∃ t : Int, t.natAbs < 2 ^ (n + p.length * m + p.length) ∧ peval p x * ((d * (x.den : Int) ^ p.length : Int) : Rat) = (t : Rat)
  | [], _ => ⟨0, Nat.pow_pos (by decide), by show (0 : Rat) * _ = _; rw [Rat.zero_mul]; rfl⟩
  | a :: p, hp => by
    obtain ⟨t, t1, t2⟩ := peval_cz hx p (fun i => by have := hp (i + 1); rw [coef_succ] at this; exact this)
    obtain ⟨u, u1, u2⟩ := hp 0
    rw [coef_zero] at u2
    have hden : (x.den : Int).natAbs < 2 ^ m := by simpa using hx.2
    have hdp : ∀ k : Nat, ((x.den : Int) ^ k).natAbs ≤ 2 ^ (k * m) := fun k => by
      induction k with
      | zero => simp
      | succ k ih =>
        rw [Int.pow_succ, Int.natAbs_mul, Nat.succ_mul, Nat.pow_add]
        exact Nat.mul_le_mul ih (Nat.le_of_lt hden)
    refine ⟨t * x.num + u * (x.den : Int) ^ (p.length + 1), ?_, ?_⟩
    · have q1 := natAbs_mul_lt t1 hx.1
      have q2 : (u * (x.den : Int) ^ (p.length + 1)).natAbs < 2 ^ (n + (p.length + 1) * m) := by
        rw [Int.natAbs_mul, Nat.pow_add]
        exact Nat.mul_lt_mul_of_lt_of_le u1 (hdp _) (Nat.pow_pos (by decide))
      have e1 : n + (a :: p).length * m + (a :: p).length = (n + (p.length + 1) * m + p.length) + 1 := by rw [List.length_cons]; omega
      have e2 : n + p.length * m + p.length + m = n + (p.length + 1) * m + p.length := by rw [Nat.succ_mul]; omega
      rw [e2] at q1
      have q3 : 2 ^ (n + (p.length + 1) * m) ≤ 2 ^ (n + (p.length + 1) * m + p.length) := Nat.pow_le_pow_right (by decide) (Nat.le_add_right _ _)
      rw [e1, Nat.pow_succ]
      omega
    · show (peval p x * x + a) * ((d * (x.den : Int) ^ (p.length + 1) : Int) : Rat) = _
      rw [Rat.intCast_add, Rat.intCast_mul, Rat.intCast_mul, ← t2, Rat.intCast_mul, Rat.intCast_mul, ← u2, ← num_eq x, Int.pow_succ, Rat.intCast_mul]
      grind
theorem rz_pevalC {p : Poly} {x : Rat} {n m l : Nat} (hp : CZ n p) (hx : Rz m x) (hl : p.length ≤ l) : Rz (n + l * m + l) (peval p x) := by
  obtain ⟨d, d0, d1, hd⟩ := hp
  obtain ⟨t, t1, t2⟩ := peval_cz hx p hd
  have hden : (x.den : Int).natAbs < 2 ^ m := by simpa using hx.2
  have hdp : ∀ k : Nat, ((x.den : Int) ^ k).natAbs ≤ 2 ^ (k * m) := fun k => by
    induction k with
    | zero => simp
    | succ k ih =>
      rw [Int.pow_succ, Int.natAbs_mul, Nat.succ_mul, Nat.pow_add]
      exact Nat.mul_le_mul ih (Nat.le_of_lt hden)
  have hx0 : (x.den : Int) ≠ 0 := by have := x.den_pos; omega
  have hle : n + p.length * m + p.length ≤ n + l * m + l := by
    have := Nat.mul_le_mul_right m hl
    omega
  refine (rz_quot (n := n + p.length * m + p.length) (Int.mul_ne_zero d0 (Int.pow_ne_zero hx0)) ?_ t1 t2).mono hle
  rw [Int.natAbs_mul]
  have : d.natAbs * ((x.den : Int) ^ p.length).natAbs < 2 ^ n * 2 ^ (p.length * m) := Nat.mul_lt_mul_of_lt_of_le d1 (hdp _) (Nat.pow_pos (by decide))
  rw [← Nat.pow_add] at this
  exact Nat.lt_of_lt_of_le this (Nat.pow_le_pow_right (by decide) (Nat.le_add_right _ _))
/-! ### one polynomial at another one -/
def cstep (q acc : Poly) (a : Rat) : Poly := padd (pmul acc q) (trim [a])
def pcomp (p q : Poly) : Poly := p.foldr (fun a acc => cstep q acc a) []
theorem own_pcomp (p q : Poly) : Own (pcomp p q) := by
  cases p with
  | nil => exact own_nil
  | cons a p => exact own_padd _ _
theorem peval_pcomp (q : Poly) (x : Rat) : ∀ p : Poly, peval (pcomp p q) x = peval p (peval q x)
  | [] => rfl
  | a :: p => by
    show peval (padd (pmul (pcomp p q) q) (trim [a])) x = peval p (peval q x) * peval q x + a
    rw [peval_padd, peval_pmul, peval_pcomp q x p, peval_trim]
    show _ + ((0 : Rat) * x + a) = _
    grind
theorem pcomp_len (q : Poly) : ∀ p : Poly, (pcomp p q).length ≤ (p.length - 1) * (q.length - 1) + 1
  | [] => Nat.zero_le _
  | [a] => by
    show (padd (pmul [] q) (trim [a])).length ≤ _
    refine Nat.le_trans (padd_len _ _) ?_
    have := trim_len [a]
    rw [nil_pmul]
    simp at this ⊢
    omega
  | a :: b :: p => by
    have ih := pcomp_len q (b :: p)
    show (padd (pmul (pcomp (b :: p) q) q) (trim [a])).length ≤ _
    refine Nat.le_trans (padd_len _ _) ?_
    have h1 := pmul_len (pcomp (b :: p) q) q
    have h2 := trim_len [a]
    have e : (a :: b :: p).length - 1 = ((b :: p).length - 1) + 1 := by simp
    rw [e, Nat.succ_mul]
    simp at h2
    by_cases hq : q.length = 0
    · have : q = [] := List.length_eq_zero_iff.mp hq
      subst this
      rw [pmul_nil] at h1 ⊢
      simp
      omega
    · omega
theorem cz_pcomp {q : Poly} {n m : Nat} (hq : CZ m q) (hn : 0 < n) : ∀ p : Poly, (∀ a ∈ p, Rz n a) → p.length * q.length ≤ 120 → CZ (1 + p.length * (n + m + 8)) (pcomp p q)
  | [], _, _ => cz_nil (by omega)
  | a :: p, hp, hl => by
    have hl' : p.length * q.length + q.length ≤ 120 := by rw [List.length_cons, Nat.succ_mul] at hl; exact hl
    have ih := cz_pcomp hq hn p (fun b hb => hp b (List.mem_cons_of_mem _ hb)) (by omega)
    have hlen : (pcomp p q).length < 2 ^ 7 := by
      refine Nat.lt_of_le_of_lt (pcomp_len q p) ?_
      have : (p.length - 1) * (q.length - 1) ≤ p.length * q.length := Nat.mul_le_mul (by omega) (by omega)
      show _ < 128
      omega
    have h1 := cz_padd (cz_pmul ih hq hlen) (cz_one (hp a List.mem_cons_self))
    refine CZ.mono h1 ?_
    rw [List.length_cons, Nat.succ_mul]
    omega
/-! ### through points -/
def tstep (s : Poly × Poly) (pt : Rat × Rat) : Poly × Poly := (padd s.1 (pscale s.2 ((pt.2 - peval s.1 pt.1) / peval s.2 pt.1)), pmul s.2 [(-1) * pt.1, 1])
def thrS (pts : List (Rat × Rat)) : Poly × Poly := pts.foldl tstep ([], [1])
def thr (pts : List (Rat × Rat)) : Poly := (thrS pts).1
theorem peval_lin' (a x : Rat) : peval [(-1) * a, 1] x = x - a := by
  show ((0 : Rat) * x + 1) * x + (-1) * a = x - a
  grind
theorem thrS_snoc (pts : List (Rat × Rat)) (pt : Rat × Rat) : thrS (pts ++ [pt]) = tstep (thrS pts) pt := by
  unfold thrS
  rw [List.foldl_append]
  rfl
theorem list_snoc {α : Type} {P : List α → Prop} (h0 : P []) (h1 : ∀ l a, P l → P (l ++ [a])) : ∀ l, P l := fun l => by
  have : ∀ m : List α, P m.reverse := fun m => by
    induction m with
    | nil => exact h0
    | cons a m ih => rw [List.reverse_cons]; exact h1 _ _ ih
  have := this l.reverse
  rwa [List.reverse_reverse] at this
/-- the base is worth nought at the places met, and nowhere else -/
theorem base_ev (x : Rat) : ∀ pts : List (Rat × Rat), (peval (thrS pts).2 x = 0 ↔ x ∈ pts.map (·.1)) := by
  refine list_snoc (by
    show peval [1] x = 0 ↔ x ∈ []
    have : peval [1] x = 1 := by show (0 : Rat) * x + 1 = 1; grind
    rw [this]
    simp) fun l a ih => ?_
  rw [thrS_snoc, List.map_append, List.mem_append, ← ih]
  show peval (pmul _ _) x = 0 ↔ _
  rw [peval_pmul, peval_lin', Rat.mul_eq_zero]
  simp
  exact or_congr Iff.rfl ⟨fun h => by grind, fun h => by grind⟩
theorem own_thrS : ∀ pts : List (Rat × Rat), Own (thrS pts).1 ∧ Own (thrS pts).2 := list_snoc ⟨own_nil, own_iff.mpr (.inr (by show (1 : Rat) ≠ 0; decide))⟩ fun l a _ => by
  rw [thrS_snoc]
  exact ⟨own_padd _ _, own_pmul _ _⟩
theorem thrS_len : ∀ pts : List (Rat × Rat), (thrS pts).1.length ≤ pts.length ∧ (thrS pts).2.length ≤ pts.length + 1 := list_snoc ⟨Nat.le_refl 0, Nat.le_refl 1⟩ fun l a ih => by
  rw [thrS_snoc, List.length_append]
  constructor
  · refine Nat.le_trans (padd_len _ _) ?_
    have := pscale_len (thrS l).2 ((a.2 - peval (thrS l).1 a.1) / peval (thrS l).2 a.1)
    simp
    omega
  · refine Nat.le_trans (pmul_len _ _) ?_
    simp
    omega
theorem thr_ev : ∀ pts : List (Rat × Rat), (pts.map (·.1)).Nodup → ∀ pt ∈ pts, peval (thr pts) pt.1 = pt.2 := list_snoc (fun _ pt h => by cases h) fun l a ih hn pt hp => by
  rw [List.map_append, List.nodup_append] at hn
  obtain ⟨n1, n2, n3⟩ := hn
  have hb : ∀ x, x ∈ l.map (·.1) → peval (thrS l).2 x = 0 := fun x hx => (base_ev x l).mpr hx
  have ha : peval (thrS l).2 a.1 ≠ 0 := fun z => by
    have := (base_ev a.1 l).mp z
    exact n3 a.1 this a.1 (by simp) rfl
  unfold thr
  rw [thrS_snoc]
  show peval (padd _ (pscale _ _)) pt.1 = pt.2
  rw [peval_padd, peval_pscale]
  rcases List.mem_append.mp hp with h | h
  · have h1 := ih n1 pt h
    unfold thr at h1
    rw [h1, hb pt.1 (List.mem_map.mpr ⟨pt, h, rfl⟩)]
    grind
  · have : pt = a := by simpa using h
    rw [this, Rat.mul_comm, Rat.div_mul_cancel ha]
    grind
theorem thr_uniq {pts : List (Rat × Rat)} {a : QX} (hn : (pts.map (·.1)).Nodup) (h : ∀ pt ∈ pts, a.ev pt.1 = pt.2) (hl : a.len ≤ pts.length) : thr pts = a.p := by
  have := poly_uniq (xs := pts.map (·.1)) (a := ⟨thr pts, (own_thrS pts).1⟩) (b := a) hn (fun x hx => by
    obtain ⟨pt, hp, rfl⟩ := List.mem_map.mp hx
    rw [h pt hp]
    exact thr_ev pts hn pt hp) (by rw [List.length_map]; exact (thrS_len pts).1) (by rw [List.length_map]; exact hl)
  exact congrArg QX.p this
end An

/-! len(set(xs)), xs a list of fractions. -/
namespace An
open PySem PySem.Spec PyProof.Rows L2
section
variable {X : Cx}
def tLenSetT (K : PySem.W.Frag) (ta : TE) : TE := fun σ H Q => ta σ H fun x H1 => ∃ (l : Addr) (ks : List (Addr × List Int)), x = V.ref l ∧ SqL K H1 l (ks.map fun p => V.ref p.1) ∧ (∀ p ∈ ks, SqT K H1 p.1 (p.2.map V.int)) ∧ ks.length < 64 ∧
  ∀ L : List (Addr × List Int), (L.map (·.2)).Nodup → (∀ p ∈ L, p ∈ ks) → (∀ p ∈ ks, p.2 ∈ L.map (·.2)) → Q (.int L.length) H1
theorem pe_lenSetT {a : Expr} {ta : TE} {p p2 q pos : Pos} (hc : X.calm = true) (hu : X.A.units + 64 < cLine) (hg : Gl X "len") (hm : X.mg "len" = none) (hg2 : Gl X "set") (hm2 : X.mg "set" = none) (ha : PE X a ta)
    (na : starEach [a] X.env = (false, eval a X.env) :: starEach [] X.env := by rfl) : PE X (.Call (.Name "len" p) [.Call (.Name "set" p2) [a] [] q] [] pos) (tLenSetT X.K ta) := by
  refine ⟨fun pins s σ H Q I h => ?_⟩
  refine Call_ (ld_blt I hg hm PySem.boot_len ?_)
  refine PyProof.Rows.callWith_builtin1 (PyProof.Rows.args_cons ?_ rfl) rfl rfl
  refine Call_ (ld_blt I hg2 hm2 PyProof.Rows.boot_set ?_)
  refine PyProof.Rows.callWith_type1 (PyProof.Rows.args_cons (thn (ha.run pins s σ H _ I h) fun v s1 ⟨x, H1, I1, r1, q1⟩ => PyProof.Rows.args_nil ?_) na) na rfl
  obtain ⟨l, ks, rfl, hq, hk, hf, q1⟩ := q1
  cases r1
  obtain ⟨its, rv, pl, hz⟩ := I1.list hq
  refine call_set_tups (P := X.prog) (w := X.w) ks (I1.ok.hd hc) pl.isList (by simpa using refs_of_vals rv) (fun p hp => I1.isT (hk p hp)) hf (by omega) fun h' tk L es ep t R g kp => ?_
  refine PyProof.Rows.args_nil ?_
  have R' : SetTR X.prog X.w ({ s1 with heap := h', toks := tk } : Shared).heap s1.heap.objs.size L es ep t := R
  have hsz := R'.size
  have hfit := R'.fits
  obtain ⟨o, ho, hex, hd⟩ := R'.ob
  have hfew := R'.few
  have I2 : Inv X pins σ H1 { s1 with heap := h', toks := tk } := I1.kept fun b o e => kp b o e
  refine call_len_set ho hex hd hfit (by rw [hsz]; omega) ⟨.int L.length, H1, I2.tok _, ⟨_, by rw [hsz]⟩, q1 L R'.nd (fun p hp => List.mem_of_mem_take (g.sub p hp)) (fun p hp => g.all p (by rw [List.take_length]; exact hp))⟩
end
/-- how many are different -/
def ndis {α : Type} [DecidableEq α] : List α → Nat
  | [] => 0
  | q :: r => if q ∈ r then ndis r else ndis r + 1
theorem ndis_len {α : Type} [DecidableEq α] : ∀ (m l : List α), l.Nodup → (∀ x ∈ l, x ∈ m) → (∀ x ∈ m, x ∈ l) → l.length = ndis m
  | [], l, _, h1, _ => by
    cases l with
    | nil => rfl
    | cons a l => exact absurd (h1 a List.mem_cons_self) (by simp)
  | q :: r, l, hn, h1, h2 => by
    unfold ndis
    by_cases hq : q ∈ r
    · rw [if_pos hq]
      refine ndis_len r l hn (fun x hx => ?_) fun x hx => h2 x (List.mem_cons_of_mem _ hx)
      rcases List.mem_cons.mp (h1 x hx) with e | e
      · rw [e]; exact hq
      · exact e
    · rw [if_neg hq]
      have hql : q ∈ l := h2 q List.mem_cons_self
      have hlen := List.length_erase_of_mem hql
      have hpos : 0 < l.length := List.length_pos_of_mem hql
      rw [← ndis_len r (l.erase q) (hn.erase q) (fun x hx => ?_) (fun x hx => ?_)]
      · omega
      · have hx' := (List.Nodup.mem_erase_iff hn).mp hx
        rcases List.mem_cons.mp (h1 x hx'.2) with e | e
        · exact absurd e hx'.1
        · exact e
      · exact (List.Nodup.mem_erase_iff hn).mpr ⟨fun e => hq (e ▸ hx), h2 x (List.mem_cons_of_mem _ hx)⟩
theorem ndis_le {α : Type} [DecidableEq α] : ∀ m : List α, ndis m ≤ m.length
  | [] => Nat.le_refl _
  | q :: r => by
    unfold ndis
    have := ndis_le r
    split <;> simp only [List.length_cons] <;> omega
theorem ndis_nodup {α : Type} [DecidableEq α] : ∀ m : List α, ndis m = m.length ↔ m.Nodup
  | [] => by simp [ndis]
  | q :: r => by
    unfold ndis
    have h1 := ndis_le r
    have h2 := ndis_nodup r
    rw [List.nodup_cons, List.length_cons]
    by_cases hq : q ∈ r
    · rw [if_pos hq]
      constructor
      · intro h; omega
      · intro h; exact absurd hq h.1
    · rw [if_neg hq]
      constructor
      · intro h; exact ⟨hq, h2.mp (by omega)⟩
      · intro h; have := h2.mpr h.2; omega
theorem fr_keys {K : PySem.W.Frag} {H : Hp} : ∀ {xs : List V} {qs : List Rat}, DtAll K H xs (qs.map eF) → ∃ ks : List (Addr × List Int), xs = ks.map (fun p => V.ref p.1) ∧ ks.map (·.2) = qs.map (fun q => [q.num, (q.den : Int)]) ∧ ∀ p ∈ ks, SqT K H p.1 (p.2.map V.int)
  | [], [], _ => ⟨[], rfl, rfl, fun p hp => by cases hp⟩
  | [], _ :: _, h => by cases h
  | _ :: _, [], h => by cases h
  | x :: xs, q :: qs, h => by
    cases h with
    | cons h1 h2 =>
      obtain ⟨ks, e1, e2, e3⟩ := fr_keys h2
      cases h1 with
      | tup t1 t2 =>
        rename_i a vs
        have ev : vs = [V.int q.num, V.int (q.den : Int)] := by
          cases t2 with
          | cons u1 t2 =>
            cases t2 with
            | cons u2 t2 =>
              cases t2
              cases u1
              cases u2
              rfl
        subst ev
        refine ⟨(a, [q.num, (q.den : Int)]) :: ks, by rw [e1]; rfl, by rw [List.map_cons, e2]; rfl, fun p hp => ?_⟩
        rcases List.mem_cons.mp hp with e | e
        · rw [e]; exact t1
        · exact e3 p e
theorem ee_lenSet {R : Hp → Hp → Prop} [RelC R] {X : Cx} {γ : List Sl} {pos p p2 q : Pos} {a : Expr} {qs : List Rat} {k : Nat} (g : Gx X k) (ha : EE R X γ a (.list (qs.map eF))) (hl : qs.length < 64) (hc : X.calm = true) (hm : X.mg "len" = none) (hm2 : X.mg "set" = none) (hg : Gl X "len" := by rfl) (hg2 : Gl X "set" := by rfl)
    (na : starEach [a] X.env = (false, eval a X.env) :: starEach [] X.env := by rfl) : EE R X γ (.Call (.Name "len" p) [.Call (.Name "set" p2) [a] [] q] [] pos) (.int (ndis qs)) := fun H0 S0 σ H Q s k =>
  we_of (pe_lenSetT hc g.room.units hg hm hg2 hm2 pe_we na) (ha H0 S0 σ H _ s fun v H1 r1 d1 => by
    cases d1 with
    | lst h1 h2 =>
      obtain ⟨ks, e1, e2, e3⟩ := fr_keys h2
      rw [e1] at h1
      have hkl : ks.length = qs.length := by
        have := congrArg List.length e2
        rwa [List.length_map, List.length_map] at this
      refine ⟨_, ks, rfl, .inl (rd_keep off_in h1), fun p hp => sqt_keep off_in (e3 p hp), by omega, fun L hn h3 h4 => ?_⟩
      let f : Rat → List Int := fun q => [q.num, (q.den : Int)]
      have finj : ∀ x y, f x = f y → x = y := fun x y e => by
        have e : [x.num, (x.den : Int)] = [y.num, (y.den : Int)] := e
        injection e with e1 e2
        injection e2 with e2 _
        exact Rat.ext e1 (by omega)
      have hL : L.length = ndis (qs.map f) := by
        have h := ndis_len (qs.map f) (L.map (·.2)) hn (fun x hx => ?_) (fun x hx => ?_)
        · rw [List.length_map] at h
          exact h
        · obtain ⟨p, hp, rfl⟩ := List.mem_map.mp hx
          have : p.2 ∈ ks.map (·.2) := List.mem_map.mpr ⟨p, h3 p hp, rfl⟩
          rw [e2] at this
          exact this
        · have : x ∈ ks.map (·.2) := by rw [e2]; exact hx
          obtain ⟨p, hp, rfl⟩ := List.mem_map.mp this
          exact h4 p hp
      have hf : ∀ m : List Rat, ndis (m.map f) = ndis m := fun m => by
        induction m with
        | nil => rfl
        | cons a m ih =>
          rw [List.map_cons]
          unfold ndis
          rw [ih]
          by_cases h : a ∈ m
          · rw [if_pos h, if_pos (List.mem_map.mpr ⟨a, h, rfl⟩)]
          · rw [if_neg h, if_neg fun z => by
              obtain ⟨b, hb, e⟩ := List.mem_map.mp z
              exact h (finj _ _ e ▸ hb)]
      rw [hL, hf]
      exact k _ H1 r1 (.int _))
end An

/-! Slopes; polynomials that have nothing in common; parts without roots twice. -/
namespace An
open PySem
/-! ### slopes -/
theorem coef_pder (p : Poly) (i : Nat) : coef (pder p) i = coef p (i + 1) * ((i + 1 : Nat) : Rat) := by
  unfold pder
  rw [coef_map]
  split
  · rfl
  · rw [coef_out (by omega), Rat.zero_mul]
theorem natR_pos (i : Nat) : ((i + 1 : Nat) : Rat) ≠ 0 := fun z => by
  have := Rat.natCast_eq_zero_iff.mp z
  omega
theorem pder_len (p : Poly) : (pder p).length = p.length - 1 := by
  unfold pder
  rw [List.length_map, List.length_range]
theorem own_pder {p : Poly} (h : Own p) : Own (pder p) := own_iff.mpr (by
  rcases own_iff.mp h with e | e
  · left
    rw [e]
    rfl
  · by_cases hl : p.length ≤ 1
    · left
      exact List.length_eq_zero_iff.mp (by rw [pder_len]; omega)
    · right
      rw [coef_pder, pder_len]
      intro z
      rcases Rat.mul_eq_zero.mp z with z | z
      · exact e (by rw [show p.length - 1 = p.length - 1 - 1 + 1 by omega]; exact z)
      · exact natR_pos _ z)
def QX.der (a : QX) : QX := ⟨pder a.p, own_pder a.own⟩
theorem coef_der (a : QX) (i : Nat) : coef a.der.p i = coef a.p (i + 1) * ((i + 1 : Nat) : Rat) := coef_pder a.p i
theorem der_add (a b : QX) : (a + b).der = a.der + b.der := QX.extC fun i => by
  rw [coef_der, coef_add, coef_add, coef_der, coef_der, Rat.add_mul]
theorem der_C (c : Rat) : (QX.C c).der = 0 := QX.extC fun i => by
  rw [coef_der, coef_C, if_neg (by omega), qx_zero, coef_nil, Rat.zero_mul]
theorem der_Cmul (c : Rat) (a : QX) : (QX.C c * a).der = QX.C c * a.der := QX.extC fun i => by
  rw [coef_der, coef_Cmul, coef_Cmul, coef_der, Rat.mul_assoc]
/-- the polynomial x -/
def QX.X : QX := mono 1 1
theorem coef_Xmul (a : QX) (i : Nat) : coef (QX.X * a).p i = match i with | 0 => 0 | i + 1 => coef a.p i := by
  show coef (mono 1 1 * a).p i = _
  rw [coef_mono_mul]
  cases i with
  | zero => rfl
  | succ i => rw [if_neg (by omega), Rat.one_mul]; rfl
theorem der_Xmul (a : QX) : (QX.X * a).der = a + QX.X * a.der := QX.extC fun i => by
  rw [coef_der, coef_add, coef_Xmul, coef_Xmul]
  cases i with
  | zero =>
    show coef a.p 0 * ((0 + 1 : Nat) : Rat) = coef a.p 0 + 0
    have : ((0 + 1 : Nat) : Rat) = 1 := rfl
    rw [this]
    grind
  | succ i =>
    show coef a.p (i + 1) * ((i + 1 + 1 : Nat) : Rat) = coef a.p (i + 1) + coef a.der.p i
    rw [coef_der, show ((i + 1 + 1 : Nat) : Rat) = ((i + 1 : Nat) : Rat) + 1 by rw [Rat.natCast_add]; rfl]
    grind
theorem cons_eq {a : Rat} {r : Poly} (h : Own (a :: r)) : (⟨a :: r, h⟩ : QX) = QX.C a + QX.X * ⟨r, own_cons h⟩ := QX.extC fun i => by
  rw [coef_add, coef_C, coef_Xmul]
  cases i with
  | zero => rw [if_pos rfl]; show a = a + 0; rw [Rat.add_zero]
  | succ i => rw [if_neg (by omega)]; show coef (a :: r) (i + 1) = 0 + coef r i; rw [coef_succ, Rat.zero_add]
theorem der_mul : ∀ (p : Poly) (h : Own p) (b : QX), ((⟨p, h⟩ : QX) * b).der = (⟨p, h⟩ : QX).der * b + ⟨p, h⟩ * b.der
  | [], h, b => by
    have e : (⟨[], h⟩ : QX) = 0 := QX.ext' qx_zero.symm
    have e2 : (0 : QX).der = 0 := der_C _
    rw [e, e2, show (0 : QX) * b = 0 by grind, e2]
    grind
  | a :: r, h, b => by
    have ih := der_mul r (own_cons h) b
    rw [cons_eq h]
    generalize (⟨r, own_cons h⟩ : QX) = q at ih ⊢
    have e : (QX.C a + QX.X * q) * b = QX.C a * b + QX.X * (q * b) := by grind
    rw [e, der_add, der_Cmul, der_Xmul, ih, der_add, der_C, der_Xmul]
    grind
theorem der_prod (a b : QX) : (a * b).der = a.der * b + a * b.der := der_mul a.p a.own b
theorem der_one : (1 : QX).der = 0 := der_C _
theorem der_len (a : QX) : a.der.len = a.len - 1 := pder_len a.p
/-! ### nothing in common -/
def Cop (a b : QX) : Prop := ∃ u v, u * a + v * b = 1
theorem Cop.symm {a b : QX} (h : Cop a b) : Cop b a := by
  obtain ⟨u, v, e⟩ := h
  exact ⟨v, u, by grind⟩
theorem Cop.mul {a b c : QX} (h : Cop a b) (k : Cop a c) : Cop a (b * c) := by
  obtain ⟨u, v, e⟩ := h
  obtain ⟨x, y, f⟩ := k
  refine ⟨u * x * a + u * y * c + v * b * x, v * y, ?_⟩
  have : (u * a + v * b) * (x * a + y * c) = 1 := by rw [e, f]; grind
  grind
theorem Cop.one (a : QX) : Cop a 1 := ⟨0, 1, by grind⟩
theorem Cop.pow {a b : QX} (h : Cop a b) : ∀ n : Nat, Cop a (b ^ n)
  | 0 => by
    rw [show b ^ 0 = (1 : QX) by grind]
    exact Cop.one a
  | n + 1 => by
    rw [show b ^ (n + 1) = b ^ n * b by grind]
    exact (h.pow n).mul h
theorem Cop.add {a b c : QX} (h : Cop a b) : Cop a (b + a * c) := by
  obtain ⟨u, v, e⟩ := h
  exact ⟨u - v * c, v, by grind⟩
theorem Cop.scale {a b : QX} {c : Rat} (hc : c ≠ 0) (h : Cop a b) : Cop a (QX.C c * b) := by
  obtain ⟨u, v, e⟩ := h
  refine ⟨u, v * QX.C (1 / c), ?_⟩
  have : QX.C (1 / c) * QX.C c = 1 := by
    rw [← C_mul, Rat.div_mul_cancel hc]
    rfl
  grind
theorem Cop.of_mul {a b c : QX} (h : Cop a (b * c)) : Cop a b := by
  obtain ⟨u, v, e⟩ := h
  exact ⟨u, v * c, by grind⟩
theorem cop_dvd {a b c : QX} (h : Cop a b) (k : a.dvd (b * c)) : a.dvd c := by
  obtain ⟨u, v, e⟩ := h
  obtain ⟨x, f⟩ := k
  refine ⟨u * c + v * x, ?_⟩
  have : c = (u * a + v * b) * c := by rw [e]; grind
  grind
/-- the common part of two with a common factor and nothing else -/
theorem qsh_cop {g a b : QX} (hg : Monic g) (h : Cop a b) (hne : g * a ≠ 0 ∨ g * b ≠ 0) : qsh (g * a) (g * b) = g := by
  refine qsh_uniq hne ⟨a, rfl⟩ ⟨b, rfl⟩ (fun d d1 d2 => ?_) hg
  obtain ⟨u, v, e⟩ := h
  have : g = u * (g * a) + v * (g * b) := by
    have : g = g * (u * a + v * b) := by rw [e]; grind
    grind
  rw [this]
  exact dvd_add (dvd_mul _ d1) (dvd_mul _ d2)
theorem monic_mul {a b : QX} (ha : Monic a) (hb : Monic b) : Monic (a * b) := ⟨mul_ne ha.1 hb.1, by rw [lc_mul ha.1 hb.1, ha.2, hb.2, Rat.one_mul]⟩
theorem monic_one : Monic 1 := ⟨C_ne (by decide), by rw [qx_one]; rfl⟩
theorem monic_pow {a : QX} (ha : Monic a) : ∀ n : Nat, Monic (a ^ n)
  | 0 => by
    rw [show a ^ 0 = (1 : QX) by grind]
    exact monic_one
  | n + 1 => by
    rw [show a ^ (n + 1) = a ^ n * a by grind]
    exact monic_mul (monic_pow ha n) ha
theorem qquo_mul {a o : QX} (ho : o ≠ 0) : qquo (a * o) o = a ∧ qrem (a * o) o = 0 := by
  obtain ⟨e, hl⟩ := qdiv_ok (a := a * o) ho
  have h0 : (0 : QX).len < o.len := by rw [len_zero.mpr rfl]; exact pos_len ho
  have := div_uniq (q := qquo (a * o) o) (q' := a) (r := qrem (a * o) o) (r' := 0) ho (by grind) hl h0
  exact this
/-! ### powers of factors -/
abbrev Fac := List (QX × Nat)
/-- the product of f^(e m) -/
def fprod (e : Nat → Nat) : Fac → QX
  | [] => 1
  | (f, m) :: r => f ^ (e m) * fprod e r
structure FacOk (F : Fac) : Prop where
  mon : ∀ q ∈ F, Monic q.1
  sf : ∀ q ∈ F, Cop q.1 q.1.der
  cop : F.Pairwise fun p q => Cop p.1 q.1
theorem FacOk.tail {q : QX × Nat} {F : Fac} (h : FacOk (q :: F)) : FacOk F := ⟨fun p hp => h.mon p (List.mem_cons_of_mem _ hp), fun p hp => h.sf p (List.mem_cons_of_mem _ hp), (List.pairwise_cons.mp h.cop).2⟩
theorem fprod_monic {F : Fac} (h : ∀ q ∈ F, Monic q.1) (e : Nat → Nat) : Monic (fprod e F) := by
  induction F with
  | nil => exact monic_one
  | cons q F ih => exact monic_mul (monic_pow (h q List.mem_cons_self) _) (ih fun p hp => h p (List.mem_cons_of_mem _ hp))
theorem fprod_cop {F : Fac} {a : QX} (h : ∀ q ∈ F, Cop a q.1) (e : Nat → Nat) : Cop a (fprod e F) := by
  induction F with
  | nil => exact Cop.one a
  | cons q F ih => exact ((h q List.mem_cons_self).pow _).mul (ih fun p hp => h p (List.mem_cons_of_mem _ hp))
theorem fprod_cop2 {F : Fac} (h : FacOk F) (e e' : Nat → Nat) (hd : ∀ q ∈ F, e q.2 = 0 ∨ e' q.2 = 0) : Cop (fprod e F) (fprod e' F) := by
  induction F with
  | nil => exact Cop.one 1
  | cons q F ih =>
    obtain ⟨f, m⟩ := q
    have ih := ih h.tail fun p hp => hd p (List.mem_cons_of_mem _ hp)
    have hc := (List.pairwise_cons.mp h.cop).1
    show Cop (f ^ e m * fprod e F) (f ^ e' m * fprod e' F)
    have c1 : Cop f (fprod e' F) := fprod_cop (fun p hp => hc p hp) e'
    have c2 : Cop f (fprod e F) := fprod_cop (fun p hp => hc p hp) e
    have c3 : Cop (f ^ e m) (f ^ e' m) := by
      rcases hd (f, m) List.mem_cons_self with z | z
      · rw [show e m = 0 from z, show f ^ 0 = (1 : QX) by grind]
        exact (Cop.one _).symm
      · rw [show e' m = 0 from z, show f ^ 0 = (1 : QX) by grind]
        exact Cop.one _
    refine Cop.mul (Cop.symm (Cop.mul c3.symm ?_)) (Cop.symm (Cop.mul (c1.symm.pow (e m)) ih.symm))
    exact ((c2.symm.pow (e' m)).symm)
theorem fprod_mul (F : Fac) (e e' : Nat → Nat) : fprod (fun m => e m + e' m) F = fprod e F * fprod e' F := by
  induction F with
  | nil => show (1 : QX) = 1 * 1; grind
  | cons q F ih =>
    obtain ⟨f, m⟩ := q
    show f ^ (e m + e' m) * fprod (fun m => e m + e' m) F = (f ^ e m * fprod e F) * (f ^ e' m * fprod e' F)
    rw [ih, Lean.Grind.Semiring.pow_add]
    grind
theorem fprod_congr {F : Fac} {e e' : Nat → Nat} (h : ∀ q ∈ F, e q.2 = e' q.2) : fprod e F = fprod e' F := by
  induction F with
  | nil => rfl
  | cons q F ih =>
    obtain ⟨f, m⟩ := q
    show f ^ e m * fprod e F = f ^ e' m * fprod e' F
    rw [ih fun p hp => h p (List.mem_cons_of_mem _ hp), show e m = e' m from h (f, m) List.mem_cons_self]
/-! the slope of a product of powers -/
theorem der_pow (f : QX) : ∀ n : Nat, (f ^ (n + 1)).der = QX.C ((n + 1 : Nat) : Rat) * (f ^ n * f.der)
  | 0 => by
    rw [show f ^ (0 + 1) = f by grind, show f ^ 0 = (1 : QX) by grind]
    have : QX.C ((0 + 1 : Nat) : Rat) = 1 := rfl
    rw [this]
    grind
  | n + 1 => by
    rw [show f ^ (n + 1 + 1) = f ^ (n + 1) * f by grind, der_prod, der_pow f n, show ((n + 1 + 1 : Nat) : Rat) = ((n + 1 : Nat) : Rat) + 1 by rw [Rat.natCast_add]; rfl, C_add]
    have : QX.C 1 = 1 := rfl
    rw [this]
    generalize QX.C ((n + 1 : Nat) : Rat) = c
    have e : f ^ (n + 1) = f ^ n * f := by grind
    rw [e]
    grind
/-- what is left of the slope: nothing in common with the factors -/
theorem der_fprod : ∀ (F : Fac), FacOk F → (∀ q ∈ F, 1 ≤ q.2) → ∃ T, (fprod id F).der = fprod (fun m => m - 1) F * T ∧ Cop (fprod (fun _ => 1) F) T
  | [], _, _ => ⟨0, by show (1 : QX).der = 1 * 0; rw [der_one]; grind, ⟨1, 0, by show 1 * (1 : QX) + 0 * 0 = 1; grind⟩⟩
  | (f, m) :: F, h, h1 => by
    obtain ⟨T, e, c⟩ := der_fprod F h.tail fun q hq => h1 q (List.mem_cons_of_mem _ hq)
    have hm : 1 ≤ m := h1 (f, m) List.mem_cons_self
    obtain ⟨n, rfl⟩ : ∃ n, m = n + 1 := ⟨m - 1, by omega⟩
    have hc := (List.pairwise_cons.mp h.cop).1
    have hsf : Cop f f.der := h.sf (f, n + 1) List.mem_cons_self
    have cR : Cop f (fprod (fun _ => 1) F) := fprod_cop (fun p hp => hc p hp) _
    have eR : fprod id F = fprod (fun m => m - 1) F * fprod (fun _ => 1) F := by
      rw [← fprod_mul]
      refine fprod_congr fun q hq => ?_
      have := h1 q (List.mem_cons_of_mem _ hq)
      show q.2 = q.2 - 1 + 1
      omega
    refine ⟨QX.C ((n + 1 : Nat) : Rat) * (f.der * fprod (fun _ => 1) F) + f * T, ?_, ?_⟩
    · show (f ^ (n + 1) * fprod id F).der = f ^ (n + 1 - 1) * fprod (fun m => m - 1) F * _
      rw [der_prod, der_pow, e, eR, show n + 1 - 1 = n by omega]
      have e2 : f ^ (n + 1) = f ^ n * f := by grind
      rw [e2]
      grind
    · show Cop (f ^ 1 * fprod (fun _ => 1) F) _
      have e1 : f ^ 1 = f := by grind
      rw [e1]
      refine Cop.symm (Cop.mul (Cop.symm ?_) (Cop.symm ?_))
      · exact Cop.add (Cop.scale (natR_pos n) (hsf.mul cR))
      · have q : Cop (fprod (fun _ => 1) F) (f * T + fprod (fun _ => 1) F * (QX.C ((n + 1 : Nat) : Rat) * f.der)) := Cop.add (cR.symm.mul c)
        have e3 : f * T + fprod (fun _ => 1) F * (QX.C ((n + 1 : Nat) : Rat) * f.der) = QX.C ((n + 1 : Nat) : Rat) * (f.der * fprod (fun _ => 1) F) + f * T := by grind
        rw [e3] at q
        exact q
theorem qsh_der {F : Fac} (h : FacOk F) (h1 : ∀ q ∈ F, 1 ≤ q.2) : qsh (fprod id F) (fprod id F).der = fprod (fun m => m - 1) F := by
  obtain ⟨T, e, c⟩ := der_fprod F h h1
  have eR : fprod id F = fprod (fun m => m - 1) F * fprod (fun _ => 1) F := by
    rw [← fprod_mul]
    refine fprod_congr fun q hq => ?_
    have := h1 q hq
    show q.2 = q.2 - 1 + 1
    omega
  have hm := fprod_monic h.mon id
  rw [e]
  have := qsh_cop (fprod_monic h.mon (fun m => m - 1)) c (.inl (by rw [← eR]; exact hm.1))
  rw [← eR] at this
  exact this
/-! along the parts' loop: factors met at least j times -/
def oneAt (j : Nat) : Nat → Nat := fun m => if j ≤ m then 1 else 0
def justAt (j : Nat) : Nat → Nat := fun m => if m = j then 1 else 0
def leftAt (j : Nat) : Nat → Nat := fun m => m - j
theorem qsh_step {F : Fac} (h : FacOk F) (j : Nat) : qsh (fprod (oneAt j) F) (fprod (leftAt j) F) = fprod (oneAt (j + 1)) F := by
  have e1 : fprod (oneAt j) F = fprod (oneAt (j + 1)) F * fprod (justAt j) F := by
    rw [← fprod_mul]
    refine fprod_congr fun q hq => ?_
    unfold oneAt justAt
    by_cases a : j ≤ q.2
    · by_cases b : q.2 = j
      · rw [if_pos a, if_neg (by omega), if_pos b]
      · rw [if_pos a, if_pos (by omega), if_neg b]
    · rw [if_neg a, if_neg (by omega), if_neg (by omega)]
  have e2 : fprod (leftAt j) F = fprod (oneAt (j + 1)) F * fprod (leftAt (j + 1)) F := by
    rw [← fprod_mul]
    refine fprod_congr fun q hq => ?_
    unfold oneAt leftAt
    split <;> omega
  have hm := fprod_monic h.mon (oneAt j)
  rw [e2]
  have c : Cop (fprod (justAt j) F) (fprod (leftAt (j + 1)) F) := fprod_cop2 h _ _ fun q hq => by
    unfold justAt leftAt
    by_cases b : q.2 = j
    · right; omega
    · left; rw [if_neg b]
  have := qsh_cop (fprod_monic h.mon (oneAt (j + 1))) c (.inl (by rw [← e1]; exact hm.1))
  rw [← e1] at this
  exact this
theorem own_step {F : Fac} (h : FacOk F) (j : Nat) : qquo (fprod (oneAt j) F) (fprod (oneAt (j + 1)) F) = fprod (justAt j) F := by
  have e1 : fprod (oneAt j) F = fprod (justAt j) F * fprod (oneAt (j + 1)) F := by
    rw [← fprod_mul]
    refine fprod_congr fun q hq => ?_
    unfold oneAt justAt
    split <;> split <;> split <;> omega
  rw [e1]
  exact (qquo_mul (fprod_monic h.mon (oneAt (j + 1))).1).1
theorem left_step {F : Fac} (h : FacOk F) (j : Nat) : qquo (fprod (leftAt j) F) (fprod (oneAt (j + 1)) F) = fprod (leftAt (j + 1)) F := by
  have e2 : fprod (leftAt j) F = fprod (leftAt (j + 1)) F * fprod (oneAt (j + 1)) F := by
    rw [← fprod_mul]
    refine fprod_congr fun q hq => ?_
    unfold oneAt leftAt
    split <;> omega
  rw [e2]
  exact (qquo_mul (fprod_monic h.mon (oneAt (j + 1))).1).1
end An

/-! Each polynomial is made of factors that have nothing in common. -/
namespace An
open PySem
theorem monic_of_mul {a b : QX} (ha : Monic a) (h : Monic (a * b)) : Monic b := by
  have hb : b ≠ 0 := fun z => h.1 (by rw [z]; grind)
  refine ⟨hb, ?_⟩
  have := lc_mul ha.1 hb
  rw [h.2, ha.2, Rat.one_mul] at this
  exact this.symm
theorem monic_len1 {a : QX} (ha : Monic a) (h : a.len = 1) : a = 1 := by
  rw [len_one h, ha.2]
  rfl
structure Irr (f : QX) : Prop where
  mon : Monic f
  len : 1 < f.len
  div : ∀ d : QX, Monic d → d.dvd f → d = 1 ∨ d = f
theorem monic_dvd_len {d f : QX} (hd : Monic d) (hf : Monic f) (h : d.dvd f) (hl : f.len ≤ d.len) : d = f := by
  obtain ⟨c, e⟩ := h
  have hc : Monic c := monic_of_mul hd (by rw [← e]; exact hf)
  have hl2 := len_mul hd.1 hc.1
  rw [← e] at hl2
  have h1 := pos_len hc.1
  have h2 := pos_len hd.1
  have hc1 := monic_len1 hc (by omega)
  rw [e, hc1]
  grind
theorem irr_dvd : ∀ (n : Nat) (p : QX), p.len ≤ n → Monic p → 1 < p.len → ∃ f, Irr f ∧ f.dvd p
  | 0, p, h, _, hl => by omega
  | n + 1, p, h, hm, hl => by
    by_cases hp : ∃ d : QX, Monic d ∧ d.dvd p ∧ 1 < d.len ∧ d.len < p.len
    · obtain ⟨d, d1, d2, d3, d4⟩ := hp
      obtain ⟨f, f1, f2⟩ := irr_dvd n d (by omega) d1 d3
      exact ⟨f, f1, dvd_trans f2 d2⟩
    · refine ⟨p, ⟨hm, hl, fun d d1 d2 => ?_⟩, dvd_refl p⟩
      have hle := dvd_len d2 hm.1
      have hpos := pos_len d1.1
      by_cases h1 : d.len = 1
      · exact .inl (monic_len1 d1 h1)
      · refine .inr (monic_dvd_len d1 hm d2 (Nat.le_of_not_lt fun z => hp ⟨d, d1, d2, by omega, z⟩))
theorem irr_cop {f g : QX} (hf : Irr f) (hn : ¬ f.dvd g) : Cop f g := by
  obtain ⟨h1, h2, ⟨u, v, e⟩, h4⟩ := qsh_ok (a := f) (b := g) (.inl hf.mon.1)
  rcases hf.div _ h4 h1 with z | z
  · exact ⟨u, v, by rw [← e, z]⟩
  · rw [z] at h2
    exact absurd h2 hn
theorem irr_sf {f : QX} (hf : Irr f) : Cop f f.der := irr_cop hf fun z => by
  have hl := der_len f
  have h1 := hf.len
  have hd : f.der ≠ 0 := fun q => by
    have := len_zero.mpr q
    omega
  have := dvd_len z hd
  omega
theorem peel {f : QX} (hf : Irr f) : ∀ (n : Nat) (p : QX), p.len ≤ n → Monic p → ∃ (m : Nat) (r : QX), p = f ^ m * r ∧ Monic r ∧ ¬ f.dvd r
  | 0, p, h, hm => by
    have := pos_len hm.1
    omega
  | n + 1, p, h, hm => by
    by_cases hd : f.dvd p
    · obtain ⟨c, e⟩ := hd
      have hc : Monic c := monic_of_mul hf.mon (by rw [← e]; exact hm)
      have hl := len_mul hf.mon.1 hc.1
      rw [← e] at hl
      have h1 := hf.len
      obtain ⟨m, r, e2, r1, r2⟩ := peel hf n c (by omega) hc
      exact ⟨m + 1, r, by rw [e, e2]; grind, r1, r2⟩
    · exact ⟨0, p, by grind, hm, hd⟩
theorem fprod_mem_dvd {F : Fac} {q : QX × Nat} (hq : q ∈ F) (h : 1 ≤ q.2) : q.1.dvd (fprod id F) := by
  induction F with
  | nil => cases hq
  | cons p F ih =>
    obtain ⟨f, m⟩ := p
    rcases List.mem_cons.mp hq with e | e
    · subst e
      obtain ⟨n, rfl⟩ : ∃ n, m = n + 1 := ⟨m - 1, by have : 1 ≤ m := h; omega⟩
      exact ⟨f ^ n * fprod id F, by show f ^ (n + 1) * fprod id F = _; grind⟩
    · have := ih e
      exact dvd_mul _ this
/-- the factors of a polynomial -/
theorem factors : ∀ (n : Nat) (p : QX), p.len ≤ n → Monic p → ∃ F : Fac, FacOk F ∧ (∀ q ∈ F, 1 ≤ q.2 ∧ Irr q.1) ∧ fprod id F = p
  | 0, p, h, hm => by
    have := pos_len hm.1
    omega
  | n + 1, p, h, hm => by
    have hp := pos_len hm.1
    by_cases h1 : p.len = 1
    · exact ⟨[], ⟨fun q hq => (nomatch hq), fun q hq => (nomatch hq), List.Pairwise.nil⟩, fun q hq => (nomatch hq), (monic_len1 hm h1).symm⟩
    · obtain ⟨f, hf, hd⟩ := irr_dvd p.len p (Nat.le_refl _) hm (by omega)
      obtain ⟨m, r, e, r1, r2⟩ := peel hf p.len p (Nat.le_refl _) hm
      have hm1 : 1 ≤ m := by
        cases m with
        | zero =>
          rw [show f ^ 0 * r = r by grind] at e
          rw [e] at hd
          exact absurd hd r2
        | succ m => omega
      have hrl : r.len < p.len := by
        obtain ⟨k, rfl⟩ : ∃ k, m = k + 1 := ⟨m - 1, by omega⟩
        have h2 := len_mul (monic_pow hf.mon (k + 1)).1 r1.1
        have h3 : (f ^ (k + 1)).len ≥ f.len := by
          have h4 : f ^ (k + 1) = f ^ k * f := by grind
          rw [h4, len_mul (monic_pow hf.mon k).1 hf.mon.1]
          have := pos_len (monic_pow hf.mon k).1
          omega
        rw [← e] at h2
        have := hf.len
        have := pos_len r1.1
        omega
      obtain ⟨F, F1, F2, F3⟩ := factors n r (by omega) r1
      have cf : ∀ q ∈ F, Cop f q.1 := fun q hq => irr_cop hf fun z => r2 (by
        rw [← F3]
        exact dvd_trans z (fprod_mem_dvd hq (F2 q hq).1))
      refine ⟨(f, m) :: F, ⟨fun q hq => ?_, fun q hq => ?_, List.pairwise_cons.mpr ⟨fun q hq => cf q hq, F1.cop⟩⟩, fun q hq => ?_, ?_⟩
      · rcases List.mem_cons.mp hq with z | z
        · rw [z]; exact hf.mon
        · exact F1.mon q z
      · rcases List.mem_cons.mp hq with z | z
        · rw [z]; exact irr_sf hf
        · exact F1.sf q z
      · rcases List.mem_cons.mp hq with z | z
        · rw [z]; exact ⟨hm1, hf⟩
        · exact F2 q z
      · show f ^ m * fprod id F = p
        rw [F3, ← e]
/-! ### divisors of a polynomial of whole numbers -/
def IntP (a : QX) : Prop := ∀ i, ∃ t : Int, coef a.p i = (t : Rat)
/-- a number that makes all fractions whole -/
theorem clears (a : QX) : ∃ c : Nat, 0 < c ∧ IntP (QX.C (c : Rat) * a) := by
  have : ∀ p : Poly, ∃ c : Nat, 0 < c ∧ ∀ i, ∃ t : Int, (c : Rat) * coef p i = (t : Rat) := fun p => by
    induction p with
    | nil => exact ⟨1, by decide, fun i => ⟨0, by rw [coef_nil, Rat.mul_zero]; rfl⟩⟩
    | cons a p ih =>
      obtain ⟨c, c0, h⟩ := ih
      refine ⟨c * a.den, Nat.mul_pos c0 a.den_pos, fun i => ?_⟩
      cases i with
      | zero =>
        refine ⟨(c : Int) * a.num, ?_⟩
        rw [coef_zero, Rat.natCast_mul, Rat.intCast_mul, ← num_eq a, Rat.intCast_natCast, Rat.intCast_natCast]
        grind
      | succ i =>
        obtain ⟨t, e⟩ := h i
        refine ⟨t * (a.den : Int), ?_⟩
        rw [coef_succ, Rat.natCast_mul, Rat.intCast_mul, ← e, Rat.intCast_natCast]
        grind
  obtain ⟨c, c0, h⟩ := this a.p
  exact ⟨c, c0, fun i => by
    obtain ⟨t, e⟩ := h i
    exact ⟨t, by rw [coef_Cmul]; exact e⟩⟩
theorem least {P : Nat → Prop} : ∀ n, P n → ∃ k, k ≤ n ∧ P k ∧ ∀ j, j < k → ¬ P j := by
  intro n
  induction n using Nat.strongRecOn with
  | _ n ih =>
    intro h
    by_cases hj : ∃ j, j < n ∧ P j
    · obtain ⟨j, h1, h2⟩ := hj
      obtain ⟨k, k1, k2, k3⟩ := ih j h1 h2
      exact ⟨k, by omega, k2, k3⟩
    · exact ⟨n, Nat.le_refl _, h, fun j hj' hp => hj ⟨j, hj', hp⟩⟩
/-- a whole multiple that no prime divides through -/
theorem primitive (a : QX) : ∃ c : Nat, 0 < c ∧ IntP (QX.C (c : Rat) * a) ∧ ∀ q : Nat, 1 < q → q ∣ c → ∃ i, ∀ t : Int, coef (QX.C (c : Rat) * a).p i = (t : Rat) → ¬ (q : Int) ∣ t := by
  obtain ⟨c0, h0, h1⟩ := clears a
  obtain ⟨c, _, ⟨c1, c2⟩, c3⟩ := least (P := fun c => 0 < c ∧ IntP (QX.C (c : Rat) * a)) c0 ⟨h0, h1⟩
  refine ⟨c, c1, c2, fun q hq hqc => ?_⟩
  refine Classical.byContradiction fun hn => ?_
  obtain ⟨k, hk⟩ := hqc
  have hk0 : 0 < k := Nat.pos_of_ne_zero fun z => by rw [z, Nat.mul_zero] at hk; omega
  refine c3 k (by rw [hk]; exact (Nat.lt_mul_iff_one_lt_left hk0).mpr hq) ⟨hk0, fun i => ?_⟩
  have hi : ∃ t : Int, coef (QX.C (c : Rat) * a).p i = (t : Rat) ∧ (q : Int) ∣ t := Classical.byContradiction fun z => hn ⟨i, fun t e d => z ⟨t, e, d⟩⟩
  obtain ⟨t, e, u, hu⟩ := hi
  refine ⟨u, ?_⟩
  rw [coef_Cmul] at e ⊢
  rw [hk, Rat.natCast_mul, hu, Rat.intCast_mul, Rat.intCast_natCast] at e
  have hq0 : (q : Rat) ≠ 0 := fun z => by
    have := Rat.natCast_eq_zero_iff.mp z
    omega
  have e2 : (q : Rat) * ((k : Rat) * coef a.p i - (u : Rat)) = 0 := by grind
  rcases Rat.mul_eq_zero.mp e2 with z | z
  · exact absurd z hq0
  · grind
/-! ### Gauss -/
def conv : List Int → (Nat → Int) → Nat → Int
  | [], _, _ => 0
  | a :: r, g, k => a * g k + (match k with | 0 => 0 | k + 1 => conv r g k)
theorem conv_cast {b : QX} {g : Nat → Int} (hg : ∀ i, coef b.p i = (g i : Rat)) : ∀ (α : List Int) (k : Nat), cmul (α.map fun t : Int => (t : Rat)) b.p k = (conv α g k : Rat)
  | [], k => by show (0 : Rat) = ((0 : Int) : Rat); rfl
  | a :: r, 0 => by
    show (a : Rat) * coef b.p 0 + 0 = ((a * g 0 + 0 : Int) : Rat)
    rw [hg, Rat.intCast_add, Rat.intCast_mul]
    rfl
  | a :: r, k + 1 => by
    show (a : Rat) * coef b.p (k + 1) + cmul (r.map fun t : Int => (t : Rat)) b.p k = ((a * g (k + 1) + conv r g k : Int) : Rat)
    rw [hg, conv_cast hg r k, Rat.intCast_add, Rat.intCast_mul]
theorem conv_low {q : Int} {g : Nat → Int} : ∀ (r : List Int) (m : Nat), (∀ l, l ≤ m → q ∣ g l) → q ∣ conv r g m
  | [], m, _ => Int.dvd_zero q
  | a :: r, 0, h => by
    show q ∣ a * g 0 + 0
    rw [Int.add_zero]
    exact Int.dvd_mul_of_dvd_right (h 0 (Nat.le_refl _))
  | a :: r, m + 1, h => by
    show q ∣ a * g (m + 1) + conv r g m
    exact Int.dvd_add (Int.dvd_mul_of_dvd_right (h _ (Nat.le_refl _))) (conv_low r m fun l hl => h l (by omega))
/-- a number that only 1 and itself divide -/
def Prm (q : Nat) : Prop := 1 < q ∧ ∀ d, d ∣ q → d = 1 ∨ d = q
theorem prm_of {e : Nat} (h : 1 < e) : ∃ q, Prm q ∧ q ∣ e := by
  obtain ⟨q, _, ⟨q1, q2⟩, q3⟩ := least (P := fun d => 1 < d ∧ d ∣ e) e ⟨h, Nat.dvd_refl e⟩
  refine ⟨q, ⟨q1, fun d hd => ?_⟩, q2⟩
  have hle := Nat.le_of_dvd (by omega) hd
  by_cases h1 : d ≤ 1
  · left
    have : d ≠ 0 := fun z => by rw [z] at hd; have := Nat.eq_zero_of_zero_dvd hd; omega
    omega
  · right
    have : ¬ d < q := fun z => q3 d z ⟨by omega, Nat.dvd_trans hd q2⟩
    omega
theorem prm_mul {q : Nat} (hq : Prm q) {x y : Int} (h : (q : Int) ∣ x * y) : (q : Int) ∣ x ∨ (q : Int) ∣ y := by
  have h' : q ∣ x.natAbs * y.natAbs := by
    rw [← Int.natAbs_mul]
    exact Int.ofNat_dvd_left.mp h
  rcases hq.2 _ (Nat.gcd_dvd_left q x.natAbs) with g | g
  · right
    exact Int.ofNat_dvd_left.mpr (Nat.Coprime.dvd_of_dvd_mul_left g h')
  · left
    have := Nat.gcd_dvd_right q x.natAbs
    rw [g] at this
    exact Int.ofNat_dvd_left.mpr this
theorem conv_all {q : Nat} (hq : Prm q) {g : Nat → Int} (hg : ∃ j, ¬ (q : Int) ∣ g j) : ∀ α : List Int, (∀ k, (q : Int) ∣ conv α g k) → ∀ t ∈ α, (q : Int) ∣ t
  | [], _, t, ht => nomatch ht
  | a :: r, h, t, ht => by
    obtain ⟨j, hj⟩ := hg
    obtain ⟨j0, _, j1, j2⟩ := least (P := fun j => ¬ (q : Int) ∣ g j) j hj
    have low : ∀ l, l < j0 → (q : Int) ∣ g l := fun l hl => Classical.byContradiction fun z => j2 l hl z
    have ha : (q : Int) ∣ a := by
      have h0 := h j0
      have h1 : (q : Int) ∣ a * g j0 := by
        cases j0 with
        | zero =>
          have h0 : (q : Int) ∣ a * g 0 + 0 := h0
          rw [Int.add_zero] at h0
          exact h0
        | succ m =>
          have h0 : (q : Int) ∣ a * g (m + 1) + conv r g m := h0
          exact (Int.dvd_iff_dvd_of_dvd_add h0).mpr (conv_low r m fun l hl => low l (by omega))
      rcases prm_mul hq h1 with z | z
      · exact z
      · exact absurd z j1
    rcases List.mem_cons.mp ht with e | e
    · rw [e]; exact ha
    · refine conv_all hq ⟨j, hj⟩ r (fun k => ?_) t e
      have h0 : (q : Int) ∣ a * g (k + 1) + conv r g k := h (k + 1)
      exact (Int.dvd_iff_dvd_of_dvd_add h0).mp (Int.dvd_mul_of_dvd_left ha)
theorem int_list {a : QX} (h : IntP a) : ∃ α : List Int, a.p = α.map fun t : Int => (t : Rat) := by
  have : ∀ p : Poly, (∀ i, ∃ t : Int, coef p i = (t : Rat)) → ∃ α : List Int, p = α.map fun t : Int => (t : Rat) := fun p => by
    induction p with
    | nil => exact fun _ => ⟨[], rfl⟩
    | cons a p ih =>
      intro h
      obtain ⟨t, e⟩ := h 0
      obtain ⟨α, e2⟩ := ih fun i => by have := h (i + 1); rw [coef_succ] at this; exact this
      exact ⟨t :: α, by rw [List.map_cons, ← e2, ← e, coef_zero]⟩
  exact this a.p h
theorem gauss {P G H : QX} (hP : IntP P) (hG : IntP G) (hpr : ∀ q : Nat, 1 < q → ∃ i, ∀ t : Int, coef G.p i = (t : Rat) → ¬ (q : Int) ∣ t) (e : P = G * H) : IntP H := by
  obtain ⟨c, c0, c1, c2⟩ := primitive H
  by_cases hc : c = 1
  · subst hc
    intro i
    obtain ⟨t, e2⟩ := c1 i
    rw [coef_Cmul] at e2
    exact ⟨t, by rw [← e2]; have : ((1 : Nat) : Rat) = 1 := rfl; rw [this]; grind⟩
  · exfalso
    obtain ⟨q, hq, hqc⟩ := prm_of (e := c) (by omega)
    obtain ⟨α, eα⟩ := int_list hG
    have hg : ∃ g : Nat → Int, ∀ i, coef (QX.C (c : Rat) * H).p i = (g i : Rat) := ⟨fun i => Classical.choose (c1 i), fun i => Classical.choose_spec (c1 i)⟩
    obtain ⟨g, hg⟩ := hg
    have key : ∀ k, (q : Int) ∣ conv α g k := fun k => by
      have h1 := conv_cast hg α k
      rw [← eα, ← coef_pmul] at h1
      have h2 : coef (G * (QX.C (c : Rat) * H)).p k = (conv α g k : Rat) := h1
      have h3 : G * (QX.C (c : Rat) * H) = QX.C (c : Rat) * P := by rw [e]; grind
      rw [h3, coef_Cmul] at h2
      obtain ⟨t, et⟩ := hP k
      rw [et, ← Rat.intCast_natCast, ← Rat.intCast_mul] at h2
      have h4 := Rat.intCast_inj.mp h2
      rw [← h4]
      exact Int.dvd_mul_of_dvd_left (Int.natCast_dvd_natCast.mpr hqc)
    obtain ⟨j, hj⟩ := c2 q hq.1 hqc
    have all := conv_all hq ⟨j, hj _ (hg j)⟩ α key
    obtain ⟨i, hi⟩ := hpr q hq.1
    obtain ⟨t, et⟩ := hG i
    refine hi t et ?_
    by_cases hl : i < G.p.length
    · have hl' : i < α.length := by rw [eα, List.length_map] at hl; exact hl
      have : coef G.p i = ((α[i] : Int) : Rat) := by
        rw [coef_in hl]
        simp only [eα, List.getElem_map]
      rw [et] at this
      rw [Rat.intCast_inj.mp this]
      exact all _ (List.getElem_mem hl')
    · rw [coef_out (by omega)] at et
      have : t = 0 := Rat.intCast_eq_zero_iff.mp et.symm
      rw [this]
      exact Int.dvd_zero _
end An

/-! How great the divisors of a polynomial of whole numbers can be. -/
namespace An
open PySem
def Ab (V x : Rat) : Prop := -V ≤ x ∧ x ≤ V
theorem Ab.mul {V W x y : Rat} (h : Ab V x) (k : Ab W y) : Ab (V * W) (x * y) := by
  obtain ⟨h1, h2⟩ := h
  obtain ⟨k1, k2⟩ := k
  have p1 := Rat.mul_nonneg (a := V - x) (b := W + y) (by grind) (by grind)
  have p2 := Rat.mul_nonneg (a := V + x) (b := W - y) (by grind) (by grind)
  have p3 := Rat.mul_nonneg (a := V - x) (b := W - y) (by grind) (by grind)
  have p4 := Rat.mul_nonneg (a := V + x) (b := W + y) (by grind) (by grind)
  constructor <;> grind
theorem Ab.add {V W x y : Rat} (h : Ab V x) (k : Ab W y) : Ab (V + W) (x + y) := by
  obtain ⟨h1, h2⟩ := h
  obtain ⟨k1, k2⟩ := k
  constructor <;> grind
theorem Ab.neg {V x : Rat} (h : Ab V x) : Ab V (-x) := by
  obtain ⟨h1, h2⟩ := h
  constructor <;> grind
theorem Ab.mono {V W x : Rat} (h : Ab V x) (k : V ≤ W) : Ab W x := by
  obtain ⟨h1, h2⟩ := h
  constructor <;> grind
theorem Ab.pos {V x : Rat} (h : Ab V x) : 0 ≤ V := by
  obtain ⟨h1, h2⟩ := h
  grind
theorem ab_int {n : Nat} {k : Int} (h : k.natAbs ≤ n) : Ab (n : Rat) (k : Rat) := by
  have h1 : -(n : Int) ≤ k := by omega
  have h2 : k ≤ (n : Int) := by omega
  constructor
  · rw [← Rat.intCast_natCast, ← Rat.intCast_neg]
    exact Rat.intCast_le_intCast.mpr h1
  · rw [← Rat.intCast_natCast]
    exact Rat.intCast_le_intCast.mpr h2
theorem ab_nat {n : Nat} {k : Int} (h : Ab (n : Rat) (k : Rat)) : k.natAbs ≤ n := by
  obtain ⟨h1, h2⟩ := h
  rw [← Rat.intCast_natCast] at h1 h2
  rw [← Rat.intCast_neg] at h1
  have q1 := Rat.intCast_le_intCast.mp h1
  have q2 := Rat.intCast_le_intCast.mp h2
  omega
/-- a whole number that isn't nought makes nothing less -/
theorem ab_div {W x : Rat} {d : Int} (hd : d ≠ 0) (h : Ab W ((d : Rat) * x)) : Ab W x := by
  obtain ⟨h1, h2⟩ := h
  rcases Int.lt_or_gt_of_ne hd with z | z
  · have e : (d : Rat) ≤ -1 := by
      have : ((-1 : Int) : Rat) = -1 := rfl
      rw [← this]
      exact Rat.intCast_le_intCast.mpr (by omega)
    rcases Rat.le_total (a := 0) (b := x) with q | q
    · have := Rat.mul_nonneg (a := -1 - (d : Rat)) (b := x) (by grind) q
      constructor <;> grind
    · have := Rat.mul_nonneg (a := -1 - (d : Rat)) (b := -x) (by grind) (by grind)
      constructor <;> grind
  · have e : 1 ≤ (d : Rat) := by
      have : ((1 : Int) : Rat) = 1 := rfl
      rw [← this]
      exact Rat.intCast_le_intCast.mpr (by omega)
    rcases Rat.le_total (a := 0) (b := x) with q | q
    · have := Rat.mul_nonneg (a := (d : Rat) - 1) (b := x) (by grind) q
      constructor <;> grind
    · have := Rat.mul_nonneg (a := (d : Rat) - 1) (b := -x) (by grind) (by grind)
      constructor <;> grind
def prv (p : Poly) : Nat → Rat
  | 0 => 0
  | i + 1 => coef p i
theorem coef_mul_lin (b : QX) (k : Rat) (i : Nat) : coef (b * lin k).p i = prv b.p i - k * coef b.p i := by
  have e : b * lin k = QX.X * b + -(QX.C k * b) := by
    have : lin k = QX.X - QX.C k := QX.extC fun i => by
      rw [coef_sub, coef_C]
      show coef [-k, 1] i = coef (mono 1 1).p i - _
      rw [coef_mono]
      match i with
      | 0 => show -k = _; rw [if_neg (by decide), if_pos rfl]; grind
      | 1 => show (1 : Rat) = _; rw [if_pos rfl, if_neg (by decide)]; grind
      | i + 2 => rw [if_neg (by omega), if_neg (by omega), coef_out (by simp)]; grind
    rw [this]
    grind
  rw [e, coef_add, coef_neg, coef_Cmul, coef_Xmul]
  cases i with
  | zero => show (0 : Rat) + _ = 0 - _; grind
  | succ i => show coef b.p i + _ = coef b.p i - _; grind
def pw19 : Nat → Rat
  | 0 => 1
  | n + 1 => 19 * pw19 n
theorem pw19_pos : ∀ n, 1 ≤ pw19 n
  | 0 => by show (1 : Rat) ≤ 1; grind
  | n + 1 => by
    have := pw19_pos n
    show 1 ≤ 19 * pw19 n
    grind
theorem coef_bound : ∀ (ks : List Int) (G : QX) (V : Rat), ks.Nodup → (∀ k ∈ ks, k.natAbs ≤ 8) → G.len ≤ ks.length → 0 ≤ V → (∀ k ∈ ks, Ab V (G.ev (k : Rat))) → ∀ i, Ab (V * pw19 ks.length) (coef G.p i)
  | [], G, V, _, _, hl, hV, _, i => by
    have h0 : G = 0 := len_zero.mp (by simpa using hl)
    rw [h0, qx_zero, coef_nil]
    show Ab (V * 1) 0
    constructor <;> grind
  | k :: ks, G, V, hn, hk, hl, hV, hv, i => by
    have hn' := List.nodup_cons.mp hn
    obtain ⟨b, e⟩ := root_dvd (a := G - QX.C (G.ev (k : Rat))) (x := (k : Rat)) (by rw [ev_sub, ev_C]; grind)
    have eG : G = QX.C (G.ev (k : Rat)) + b * lin (k : Rat) := by grind
    have hv0 := hv k List.mem_cons_self
    have hbl : b.len ≤ ks.length := by
      by_cases h0 : b = 0
      · rw [h0, len_zero.mpr rfl]; exact Nat.zero_le _
      · have h1 := len_mul h0 (lin_ne (k : Rat))
        rw [lin_len, ← e] at h1
        have h2 : (G - QX.C (G.ev (k : Rat))).len ≤ max G.len 1 := by
          refine Nat.le_trans (padd_len _ _) ?_
          have h3 := pscale_len (QX.C (G.ev (k : Rat))).p (-1)
          have h4 : (QX.C (G.ev (k : Rat))).p.length ≤ 1 := trim_len [_]
          have e1 : G.p.length = G.len := rfl
          omega
        have h3 := pos_len h0
        rw [List.length_cons] at hl
        omega
    have hb : ∀ j ∈ ks, Ab (2 * V) (b.ev (j : Rat)) := fun j hj => by
      have hjk : j - k ≠ 0 := fun z => hn'.1 (by rw [show k = j by omega]; exact hj)
      refine ab_div hjk ?_
      have h1 : G.ev (j : Rat) = G.ev (k : Rat) + b.ev (j : Rat) * ((j : Rat) - (k : Rat)) := by
        conv => lhs; rw [eG]
        rw [ev_add, ev_C, ev_mul, ev_lin]
      have h2 := hv j (List.mem_cons_of_mem _ hj)
      have h3 := h2.add hv0.neg
      rw [Rat.intCast_sub]
      have h4 : ((j : Rat) - (k : Rat)) * b.ev (j : Rat) = G.ev (j : Rat) + -G.ev (k : Rat) := by grind
      rw [h4]
      exact h3.mono (by grind)
    have ih := coef_bound ks b (2 * V) hn'.2 (fun j hj => hk j (List.mem_cons_of_mem _ hj)) hbl (by grind) hb
    have hkb : Ab 8 (k : Rat) := ab_int (hk k List.mem_cons_self)
    rw [eG, coef_add, coef_C, coef_mul_lin]
    have hp := pw19_pos ks.length
    have hW : 0 ≤ V * pw19 ks.length := Rat.mul_nonneg hV (by grind)
    have hW2 : V ≤ V * pw19 ks.length := by
      have := Rat.mul_nonneg (a := V) (b := pw19 ks.length - 1) hV (by grind)
      grind
    have c1 : Ab V (if i = 0 then G.ev (k : Rat) else 0) := by
      split
      · exact hv0
      · constructor <;> grind
    have c2 : Ab (2 * V * pw19 ks.length) (prv b.p i) := by
      cases i with
      | zero => show Ab _ 0; constructor <;> grind
      | succ i => exact ih i
    have c3 := hkb.mul (ih i)
    have c4 := c1.add (c2.add c3.neg)
    rw [show prv b.p i - (k : Rat) * coef b.p i = prv b.p i + -((k : Rat) * coef b.p i) by grind]
    refine c4.mono ?_
    show _ ≤ V * (19 * pw19 ks.length)
    grind
theorem ev_bound {n : Nat} {k : Int} (hk : k.natAbs ≤ 8) : ∀ (p : Poly), (∀ a ∈ p, Ab (n : Rat) a) → Ab ((9 ^ p.length * n : Nat) : Rat) (peval p (k : Rat))
  | [], _ => by
    show Ab _ 0
    have : (0 : Rat) ≤ ((9 ^ 0 * n : Nat) : Rat) := by
      rw [← Rat.intCast_natCast]
      have : ((0 : Int) : Rat) = 0 := rfl
      rw [← this]
      exact Rat.intCast_le_intCast.mpr (by omega)
    constructor
    · show -((9 ^ 0 * n : Nat) : Rat) ≤ 0
      grind
    · exact this
  | a :: p, h => by
    have ih := ev_bound hk p fun b hb => h b (List.mem_cons_of_mem _ hb)
    have h1 := (ih.mul (ab_int hk)).add (h a List.mem_cons_self)
    refine h1.mono ?_
    rw [← Rat.natCast_mul, ← Rat.natCast_add]
    rw [← Rat.intCast_natCast, ← Rat.intCast_natCast]
    refine Rat.intCast_le_intCast.mpr ?_
    have : n ≤ 9 ^ p.length * n := Nat.le_mul_of_pos_left _ (Nat.pow_pos (by decide))
    rw [List.length_cons, Nat.pow_succ]
    have e : 9 ^ p.length * 9 * n = 9 ^ p.length * n * 8 + 9 ^ p.length * n := by
      rw [Nat.mul_assoc, Nat.mul_comm 9 n, ← Nat.mul_assoc]
      omega
    omega
theorem ev_int {a : QX} (h : IntP a) (k : Int) : ∃ t : Int, a.ev (k : Rat) = (t : Rat) := by
  have : ∀ p : Poly, (∀ i, ∃ t : Int, coef p i = (t : Rat)) → ∃ t : Int, peval p (k : Rat) = (t : Rat) := fun p => by
    induction p with
    | nil => exact fun _ => ⟨0, rfl⟩
    | cons a p ih =>
      intro h
      obtain ⟨t, e⟩ := h 0
      obtain ⟨u, e2⟩ := ih fun i => by have := h (i + 1); rw [coef_succ] at this; exact this
      refine ⟨u * k + t, ?_⟩
      show peval p (k : Rat) * (k : Rat) + a = _
      rw [e2, show a = (t : Rat) from e, Rat.intCast_add, Rat.intCast_mul]
  exact this a.p h
theorem filter_sum {α : Type} (p : α → Bool) : ∀ l : List α, l.length = (l.filter p).length + (l.filter fun a => !p a).length
  | [] => rfl
  | a :: l => by
    have := filter_sum p l
    cases h : p a <;> simp [h] <;> omega
def nodes : List Int := [-8, -7, -6, -5, -4, -3, -2, -1, 0, 1, 2, 3, 4, 5, 6, 7, 8]
/-- a monic divisor of a polynomial of whole numbers of at most nine fractions -/
theorem div_bound {P g : QX} {n : Nat} (hP : ∀ i, ∃ t : Int, t.natAbs < 2 ^ n ∧ coef P.p i = (t : Rat)) (hl : P.len ≤ 9) (hP0 : P ≠ 0) (hg : Monic g) (hd : g.dvd P) : CZ (n + 67) g.p := by
  obtain ⟨c, c0, c1, c2⟩ := primitive g
  have hcr : (c : Rat) ≠ 0 := fun z => by
    have := Rat.natCast_eq_zero_iff.mp z
    omega
  have hG0 : QX.C (c : Rat) * g ≠ 0 := mul_ne (C_ne hcr) hg.1
  have hGl : (QX.C (c : Rat) * g).len = g.len := len_Cmul hcr g
  have top : coef (QX.C (c : Rat) * g).p (g.p.length - 1) = (c : Rat) := by
    rw [coef_Cmul]
    have : coef g.p (g.p.length - 1) = 1 := hg.2
    rw [this, Rat.mul_one]
  have hpr : ∀ q : Nat, 1 < q → ∃ i, ∀ t : Int, coef (QX.C (c : Rat) * g).p i = (t : Rat) → ¬ (q : Int) ∣ t := fun q hq => by
    by_cases hqc : q ∣ c
    · exact c2 q hq hqc
    · refine ⟨g.p.length - 1, fun t e z => hqc ?_⟩
      rw [top, ← Rat.intCast_natCast] at e
      rw [← Rat.intCast_inj.mp e] at z
      exact Int.natCast_dvd_natCast.mp z
  obtain ⟨h, e⟩ := hd
  have hcc : QX.C (1 / (c : Rat)) * QX.C (c : Rat) = 1 := by
    rw [← C_mul, Rat.div_mul_cancel hcr]
    rfl
  have eP : P = (QX.C (c : Rat) * g) * (QX.C (1 / (c : Rat)) * h) := by grind
  have hPi : IntP P := fun i => by
    obtain ⟨t, _, et⟩ := hP i
    exact ⟨t, et⟩
  have hH := gauss hPi c1 hpr eP
  generalize hGe : QX.C (c : Rat) * g = G at *
  generalize hHe : QX.C (1 / (c : Rat)) * h = H at *
  have hgl : g.len ≤ 9 := Nat.le_trans (dvd_len ⟨h, e⟩ hP0) hl
  -- places at which it is not nought
  let ks := (nodes.filter fun k : Int => decide (P.ev (k : Rat) ≠ 0)).take 9
  have ksub : ks.Sublist nodes := (List.take_sublist _ _).trans List.filter_sublist
  have knd : ks.Nodup := ksub.nodup (by decide)
  have k8 : ∀ k ∈ ks, k.natAbs ≤ 8 := fun k hk => by
    have := ksub.subset hk
    have h17 : ∀ k ∈ nodes, k.natAbs ≤ 8 := by decide
    exact h17 k this
  have knz : ∀ k ∈ ks, P.ev (k : Rat) ≠ 0 := fun k hk => by
    have := List.mem_of_mem_take hk
    have := (List.mem_filter.mp this).2
    exact of_decide_eq_true this
  have klen : ks.length = 9 := by
    have hz : (nodes.filter fun k : Int => !decide (P.ev (k : Rat) ≠ 0)).length < P.len := by
      refine Nat.lt_of_not_le fun z => hP0 ?_
      refine roots_zero ((nodes.filter fun k : Int => !decide (P.ev (k : Rat) ≠ 0)).map fun k : Int => (k : Rat)) P ?_ (fun x hx => ?_) (by rw [List.length_map]; exact z)
      · refine List.Pairwise.map (R := fun a b : Int => a ≠ b) _ (fun a b hab z => hab (Rat.intCast_inj.mp z)) ?_
        exact (List.filter_sublist).nodup (by decide)
      · obtain ⟨k, hk, rfl⟩ := List.mem_map.mp hx
        have := (List.mem_filter.mp hk).2
        simpa using this
    have hsum := filter_sum (fun k : Int => decide (P.ev (k : Rat) ≠ 0)) nodes
    have h17 : nodes.length = 17 := rfl
    show ((nodes.filter _).take 9).length = 9
    rw [List.length_take]
    omega
  have hcoef : ∀ a ∈ P.p, Ab ((2 ^ n : Nat) : Rat) a := fun a ha => by
    obtain ⟨i, hi, rfl⟩ := List.getElem_of_mem ha
    obtain ⟨t, t1, t2⟩ := hP i
    rw [coef_in hi] at t2
    rw [t2]
    exact ab_int (Nat.le_of_lt t1)
  have hV : ∀ k ∈ ks, Ab ((9 ^ 9 * 2 ^ n : Nat) : Rat) (G.ev (k : Rat)) := fun k hk => by
    obtain ⟨u, eu⟩ := ev_int c1 k
    obtain ⟨v, ev⟩ := ev_int hH k
    have h1 := ev_bound (k8 k hk) P.p hcoef
    have h2 : P.ev (k : Rat) = ((u * v : Int) : Rat) := by
      rw [eP, ev_mul, eu, ev, Rat.intCast_mul]
    have h3 : peval P.p (k : Rat) = ((u * v : Int) : Rat) := h2
    rw [h3] at h1
    have h4 := ab_nat h1
    have h5 : u * v ≠ 0 := fun z => knz k hk (by rw [h2, z]; rfl)
    have h6 : v ≠ 0 := fun z => h5 (by rw [z, Int.mul_zero])
    rw [eu]
    refine ab_int (Nat.le_trans ?_ (Nat.le_trans h4 (Nat.mul_le_mul_right _ (Nat.pow_le_pow_right (by decide) (show P.p.length ≤ 9 from hl)))))
    rw [Int.natAbs_mul]
    exact Nat.le_mul_of_pos_right _ (by omega)
  have hVp : (0 : Rat) ≤ ((9 ^ 9 * 2 ^ n : Nat) : Rat) := (hV _ (List.getElem_mem (show 0 < ks.length by omega))).pos
  have hb := coef_bound ks G _ knd k8 (by rw [hGl, klen]; exact hgl) hVp hV
  rw [klen] at hb
  have hlim : 9 ^ 9 * 2 ^ n * 19 ^ 9 < 2 ^ (n + 67) := by
    rw [Nat.pow_add, show 9 ^ 9 * 2 ^ n * 19 ^ 9 = 2 ^ n * (9 ^ 9 * 19 ^ 9) by rw [Nat.mul_comm (9 ^ 9), Nat.mul_assoc]]
    exact Nat.mul_lt_mul_of_pos_left (by decide) (Nat.pow_pos (by decide))
  have sz : ∀ i t, coef G.p i = ((t : Int) : Rat) → t.natAbs < 2 ^ (n + 67) := fun i t et => by
    have h1 := hb i
    rw [et] at h1
    have e19 : pw19 9 = ((19 ^ 9 : Nat) : Rat) := by decide +kernel
    rw [e19, ← Rat.natCast_mul] at h1
    exact Nat.lt_of_le_of_lt (ab_nat h1) hlim
  refine ⟨(c : Int), by omega, ?_, fun i => ?_⟩
  · exact sz (g.p.length - 1) (c : Int) (by rw [top, Rat.intCast_natCast])
  · obtain ⟨t, et⟩ := c1 i
    refine ⟨t, sz i t et, ?_⟩
    rw [← et, ← hGe, coef_Cmul, Rat.intCast_natCast, Rat.mul_comm]
end An

/-! The parts of a polynomial. -/
namespace An
open PySem
theorem fprod_dvd (F : Fac) {e : Nat → Nat} (h : ∀ m, e m ≤ m) : (fprod e F).dvd (fprod id F) := by
  refine ⟨fprod (fun m => m - e m) F, ?_⟩
  rw [← fprod_mul]
  refine fprod_congr fun q hq => ?_
  have := h q.2
  show q.2 = e q.2 + (q.2 - e q.2)
  omega
theorem fprod_len {F : Fac} (hF : FacOk F) {e : Nat → Nat} (h : ∀ m, e m ≤ m) : (fprod e F).len ≤ (fprod id F).len := dvd_len (fprod_dvd F h) (fprod_monic hF.mon id).1
theorem fprod_zero {F : Fac} {e : Nat → Nat} (h : ∀ q ∈ F, e q.2 = 0) : fprod e F = 1 := by
  induction F with
  | nil => rfl
  | cons q F ih =>
    obtain ⟨f, m⟩ := q
    show f ^ e m * fprod e F = 1
    rw [ih fun p hp => h p (List.mem_cons_of_mem _ hp), show e m = 0 from h (f, m) List.mem_cons_self]
    grind
theorem fprod_dvd_at {F : Fac} {q : QX × Nat} {e : Nat → Nat} (hq : q ∈ F) (h : e q.2 = 1) : q.1.dvd (fprod e F) := by
  induction F with
  | nil => cases hq
  | cons p F ih =>
    obtain ⟨f, m⟩ := p
    rcases List.mem_cons.mp hq with z | z
    · subst z
      have h : e m = 1 := h
      exact ⟨fprod e F, by show f ^ e m * fprod e F = _; rw [h]; grind⟩
    · exact dvd_mul _ (ih z)
theorem one_len : (1 : QX).len = 1 := by
  show (1 : QX).p.length = 1
  rw [qx_one]
  rfl
theorem fprod_one_len {F : Fac} {e : Nat → Nat} (h : 1 < (fprod e F).len) : ∃ q ∈ F, e q.2 ≠ 0 := by
  refine Classical.byContradiction fun z => ?_
  have : fprod e F = 1 := fprod_zero fun q hq => Classical.byContradiction fun y => z ⟨q, hq, y⟩
  rw [this, one_len] at h
  omega
theorem one_le (j : Nat) (hj : 1 ≤ j) : ∀ m, oneAt j m ≤ m := fun m => by unfold oneAt; split <;> omega
theorem just_le (j : Nat) (hj : 1 ≤ j) : ∀ m, justAt j m ≤ m := fun m => by unfold justAt; split <;> omega
theorem left_le (j : Nat) : ∀ m, leftAt j m ≤ m := fun m => Nat.sub_le m j
/-- a part as data -/
def ePt (F : Fac) (j : Nat) : D := .tuple [.int (j : Nat), eP (fprod (justAt j) F).p]
/-- the parts met ahead of j times -/
def ptsTo (F : Fac) : Nat → List D
  | 0 => []
  | j + 1 => ptsTo F j ++ (if 1 < (fprod (justAt (j + 1)) F).len then [ePt F (j + 1)] else [])
theorem ptsTo_more {F : Fac} {M : Nat} (h : ∀ q ∈ F, q.2 ≤ M) : ∀ k, ptsTo F (M + k) = ptsTo F M
  | 0 => rfl
  | k + 1 => by
    show ptsTo F (M + k) ++ (if 1 < (fprod (justAt (M + k + 1)) F).len then [ePt F (M + k + 1)] else []) = _
    have : fprod (justAt (M + k + 1)) F = 1 := fprod_zero fun q hq => by
      have := h q hq
      unfold justAt
      rw [if_neg (by omega)]
    rw [ptsTo_more h k, this, one_len, if_neg (by decide), List.append_nil]
theorem ptsTo_len (F : Fac) : ∀ j, (ptsTo F j).length ≤ j
  | 0 => Nat.le_refl _
  | j + 1 => by
    have := ptsTo_len F j
    show (ptsTo F j ++ _).length ≤ _
    rw [List.length_append]
    split
    · show _ + 1 ≤ _; omega
    · show _ + 0 ≤ _; omega
theorem cz_pder {p : Poly} {n : Nat} (h : CZ n p) (hl : p.length ≤ 16) : CZ (n + 4) (pder p) := by
  obtain ⟨d, d0, d1, hd⟩ := h
  refine ⟨d, d0, Nat.lt_of_lt_of_le d1 (Nat.pow_le_pow_right (by decide) (Nat.le_add_right _ _)), fun i => ?_⟩
  rw [coef_pder]
  by_cases hi : i + 1 < p.length
  · obtain ⟨t, t1, t2⟩ := hd (i + 1)
    refine ⟨t * ((i + 1 : Nat) : Int), natAbs_mul_lt t1 (by rw [Int.natAbs_natCast]; show i + 1 < 16; omega), ?_⟩
    rw [Rat.intCast_mul, ← t2, Rat.intCast_natCast]
    grind
  · refine ⟨0, Nat.pow_pos (by decide), ?_⟩
    rw [coef_out (by omega)]
    grind
structure PaOk (p : QX) (F : Fac) (n M L : Nat) : Prop where
  ne : p ≠ 0
  len : p.len ≤ L
  ten : L ≤ 10
  fac : FacOk F
  mul : ∀ q ∈ F, 1 ≤ q.2 ∧ q.2 ≤ M ∧ 1 < q.1.len
  eq : p = QX.C (lc p.p) * fprod id F
  sz : CZ n p.p
  szs : ∀ e : Nat → Nat, (∀ m, e m ≤ m) → CZ n (fprod e F).p
  most : M ≤ 20
  lim : 23 * gz (n + 4) L + 44 ≤ LIM
theorem PaOk.mon {p : QX} {F : Fac} {n M L : Nat} (h : PaOk p F n M L) : qmon p = fprod id F := by
  have hl := lc_ne p.own (ne_zero.mp h.ne)
  have hc : QX.C (1 / lc p.p) * QX.C (lc p.p) = 1 := by
    rw [← C_mul, Rat.div_mul_cancel hl]
    rfl
  rw [qmon_eq]
  have e := h.eq
  generalize lc p.p = c at *
  rw [e]
  grind
theorem PaOk.plen {p : QX} {F : Fac} {n M L : Nat} (h : PaOk p F n M L) : (fprod id F).len = p.len := by
  have hl := lc_ne p.own (ne_zero.mp h.ne)
  conv => rhs; rw [h.eq]
  rw [len_Cmul hl]
def vParts (ds : List D) (d : D) : Prop := ∃ (p : QX) (F : Fac) (n M L : Nat), ds = [eP p.p] ∧ PaOk p F n M L ∧ d = .list (ptsTo F M)
end An

/-! What the parts multiply to; parts of squares; factors' sizes. -/
namespace An
open PySem
theorem qpow_mul (a b : QX) : ∀ n : Nat, (a * b) ^ n = a ^ n * b ^ n
  | 0 => by grind
  | n + 1 => by
    rw [show (a * b) ^ (n + 1) = (a * b) ^ n * (a * b) by grind, qpow_mul a b n]
    grind
theorem qpow_pow (a : QX) (m : Nat) : ∀ n : Nat, (a ^ m) ^ n = a ^ (m * n)
  | 0 => by rw [Nat.mul_zero]; grind
  | n + 1 => by
    rw [show (a ^ m) ^ (n + 1) = (a ^ m) ^ n * a ^ m by grind, qpow_pow a m n, Nat.mul_succ, Lean.Grind.Semiring.pow_add]
theorem fprod_pow (e : Nat → Nat) (k : Nat) : ∀ F : Fac, (fprod e F) ^ k = fprod (fun m => e m * k) F
  | [] => by
    show (1 : QX) ^ k = 1
    exact Lean.Grind.Semiring.one_pow k
  | (f, m) :: F => by
    show (f ^ e m * fprod e F) ^ k = f ^ (e m * k) * fprod (fun m => e m * k) F
    rw [qpow_mul, qpow_pow, fprod_pow e k F]
/-- the parts as factors -/
def ptF (F : Fac) : Nat → Fac
  | 0 => []
  | j + 1 => ptF F j ++ (if 1 < (fprod (justAt (j + 1)) F).len then [(fprod (justAt (j + 1)) F, j + 1)] else [])
theorem ptsTo_ptF (F : Fac) : ∀ j, ptsTo F j = (ptF F j).map fun q => .tuple [.int (q.2 : Nat), eP q.1.p]
  | 0 => rfl
  | j + 1 => by
    show ptsTo F j ++ _ = (ptF F j ++ _).map _
    rw [ptsTo_ptF F j, List.map_append]
    congr 1
    split <;> rfl
theorem fprod_append (A B : Fac) : fprod id (A ++ B) = fprod id A * fprod id B := by
  induction A with
  | nil => show _ = (1 : QX) * _; grind
  | cons q A ih =>
    obtain ⟨f, m⟩ := q
    show f ^ m * fprod id (A ++ B) = (f ^ m * fprod id A) * fprod id B
    rw [ih]
    grind
theorem fprod_ptF {F : Fac} (h : FacOk F) : ∀ j, fprod id (ptF F j) = fprod (fun m => if m ≤ j then m else 0) F
  | 0 => by
    show (1 : QX) = _
    rw [fprod_zero]
    intro q hq
    show (if q.2 ≤ 0 then q.2 else 0) = 0
    split <;> omega
  | j + 1 => by
    show fprod id (ptF F j ++ _) = _
    rw [fprod_append, fprod_ptF h j]
    have e : fprod (fun m => if m ≤ j + 1 then m else 0) F = fprod (fun m => if m ≤ j then m else 0) F * (fprod (justAt (j + 1)) F) ^ (j + 1) := by
      rw [fprod_pow, ← fprod_mul]
      refine fprod_congr fun q hq => ?_
      show (if q.2 ≤ j + 1 then q.2 else 0) = (if q.2 ≤ j then q.2 else 0) + justAt (j + 1) q.2 * (j + 1)
      unfold justAt
      by_cases a : q.2 ≤ j
      · rw [if_pos (by omega), if_pos a, if_neg (by omega)]
        omega
      · by_cases b : q.2 = j + 1
        · rw [if_pos (by omega), if_neg a, if_pos b]
          omega
        · rw [if_neg (by omega), if_neg a, if_neg b]
          omega
    rw [e]
    congr 1
    by_cases hl : 1 < (fprod (justAt (j + 1)) F).len
    · rw [if_pos hl]
      show fprod (justAt (j + 1)) F ^ (j + 1) * 1 = _
      grind
    · rw [if_neg hl]
      have hm := fprod_monic h.mon (justAt (j + 1))
      have := pos_len hm.1
      have h1 := monic_len1 hm (by omega)
      rw [h1]
      show (1 : QX) = 1 ^ (j + 1)
      exact (Lean.Grind.Semiring.one_pow _).symm
theorem fprod_ptF_all {F : Fac} (h : FacOk F) {M : Nat} (hM : ∀ q ∈ F, q.2 ≤ M) : fprod id (ptF F M) = fprod id F := by
  rw [fprod_ptF h]
  refine fprod_congr fun q hq => ?_
  show (if q.2 ≤ M then q.2 else 0) = q.2
  rw [if_pos (hM q hq)]
theorem ptF_mem {F : Fac} {q : QX × Nat} : ∀ {j : Nat}, q ∈ ptF F j → q.1 = fprod (justAt q.2) F ∧ 1 ≤ q.2 ∧ q.2 ≤ j ∧ 1 < q.1.len
  | 0, h => nomatch h
  | j + 1, h => by
    have h : q ∈ ptF F j ++ _ := h
    rcases List.mem_append.mp h with z | z
    · obtain ⟨h1, h2, h3, h4⟩ := ptF_mem z
      exact ⟨h1, h2, by omega, h4⟩
    · split at z
      · rename_i hl
        rw [List.mem_singleton.mp z]
        exact ⟨rfl, by show 1 ≤ j + 1; omega, Nat.le_refl _, hl⟩
      · cases z
theorem ptF_len (F : Fac) : ∀ j, (ptF F j).length ≤ j
  | 0 => Nat.le_refl _
  | j + 1 => by
    have := ptF_len F j
    show (ptF F j ++ _).length ≤ _
    rw [List.length_append]
    split
    · show _ + 1 ≤ _; omega
    · show _ + 0 ≤ _; omega
/-! ### squares -/
def dbl (F : Fac) : Fac := F.map fun q => (q.1, 2 * q.2)
theorem fprod_dbl (e : Nat → Nat) : ∀ F : Fac, fprod e (dbl F) = fprod (fun m => e (2 * m)) F
  | [] => rfl
  | (f, m) :: F => by
    show f ^ e (2 * m) * fprod e (dbl F) = _
    rw [fprod_dbl e F]
    rfl
theorem dbl_ok {F : Fac} (h : FacOk F) : FacOk (dbl F) where
  mon := fun q hq => by
    obtain ⟨p, hp, rfl⟩ := List.mem_map.mp hq
    exact h.mon p hp
  sf := fun q hq => by
    obtain ⟨p, hp, rfl⟩ := List.mem_map.mp hq
    exact h.sf p hp
  cop := List.pairwise_map.mpr h.cop
theorem fprod_sq (F : Fac) : fprod id (dbl F) = fprod id F * fprod id F := by
  rw [fprod_dbl, ← fprod_mul]
  refine fprod_congr fun q hq => ?_
  show 2 * q.2 = q.2 + q.2
  omega
theorem ptF_dbl (F : Fac) : ∀ j, ptF (dbl F) (2 * j) = dbl (ptF F j)
  | 0 => rfl
  | j + 1 => by
    have e1 : fprod (justAt (2 * j + 1)) (dbl F) = 1 := by
      rw [fprod_dbl]
      refine fprod_zero fun q hq => ?_
      show (if 2 * q.2 = 2 * j + 1 then 1 else 0) = 0
      rw [if_neg (by omega)]
    have e2 : fprod (justAt (2 * j + 1 + 1)) (dbl F) = fprod (justAt (j + 1)) F := by
      rw [fprod_dbl]
      refine fprod_congr fun q hq => ?_
      show (if 2 * q.2 = 2 * j + 1 + 1 then 1 else 0) = (if q.2 = j + 1 then 1 else 0)
      by_cases a : q.2 = j + 1
      · rw [if_pos (by omega), if_pos a]
      · rw [if_neg (by omega), if_neg a]
    rw [show 2 * (j + 1) = 2 * j + 1 + 1 by omega]
    show (ptF (dbl F) (2 * j) ++ (if 1 < (fprod (justAt (2 * j + 1)) (dbl F)).len then [(fprod (justAt (2 * j + 1)) (dbl F), 2 * j + 1)] else [])) ++ (if 1 < (fprod (justAt (2 * j + 1 + 1)) (dbl F)).len then [(fprod (justAt (2 * j + 1 + 1)) (dbl F), 2 * j + 1 + 1)] else []) = dbl (ptF F j ++ (if 1 < (fprod (justAt (j + 1)) F).len then [(fprod (justAt (j + 1)) F, j + 1)] else []))
    rw [e1, e2, one_len, if_neg (by decide), List.append_nil, ptF_dbl F j]
    unfold dbl
    rw [List.map_append]
    congr 1
    split
    · show [_] = [_]
      congr 2
    · rfl
/-! ### sizes of the law's factors -/
def sumE (e : Nat → Nat) : Fac → Nat
  | [] => 0
  | (_, m) :: F => e m + sumE e F
theorem cz_powm {f g : QX} {n : Nat} (hf : CZ 2 f.p) (hl : f.len ≤ 3) (hg : CZ n g.p) : ∀ k : Nat, CZ (n + 4 * k) (f ^ k * g).p
  | 0 => by
    rw [show f ^ 0 * g = g by grind]
    exact hg.mono (by omega)
  | k + 1 => by
    rw [show f ^ (k + 1) * g = f * (f ^ k * g) by grind]
    exact (cz_pmul hf (cz_powm hf hl hg k) (show f.p.length < 2 ^ 2 from Nat.lt_of_le_of_lt hl (by decide))).mono (by omega)
theorem cz_fprod {e : Nat → Nat} : ∀ F : Fac, (∀ q ∈ F, CZ 2 q.1.p ∧ q.1.len ≤ 3) → CZ (1 + 4 * sumE e F) (fprod e F).p
  | [], _ => by
    show CZ _ (1 : QX).p
    rw [qx_one]
    exact (cz_one rz_one).mono (by omega)
  | (f, m) :: F, h => by
    have ih := cz_fprod (e := e) F fun q hq => h q (List.mem_cons_of_mem _ hq)
    obtain ⟨h1, h2⟩ := h (f, m) List.mem_cons_self
    refine (cz_powm h1 h2 ih (e m)).mono ?_
    show _ ≤ 1 + 4 * (e m + sumE e F)
    omega
theorem sumE_le {e : Nat → Nat} (h : ∀ m, e m ≤ m) : ∀ F : Fac, sumE e F ≤ sumE id F
  | [] => Nat.le_refl _
  | (f, m) :: F => by
    have := sumE_le h F
    have := h m
    show e m + sumE e F ≤ m + sumE id F
    omega
theorem pow_len_ge {f : QX} (hf : Monic f) (h1 : 1 < f.len) : ∀ k : Nat, k + 1 ≤ (f ^ k).len
  | 0 => by rw [show f ^ 0 = (1 : QX) by grind, one_len]; exact Nat.le_refl _
  | k + 1 => by
    rw [show f ^ (k + 1) = f ^ k * f by grind, len_mul (monic_pow hf k).1 hf.1]
    have := pow_len_ge hf h1 k
    omega
theorem sumE_len : ∀ {F : Fac}, (∀ q ∈ F, Monic q.1 ∧ 1 < q.1.len) → sumE id F + 1 ≤ (fprod id F).len
  | [], _ => by show 1 ≤ (1 : QX).len; rw [one_len]; exact Nat.le_refl _
  | (f, m) :: F, h => by
    have ih := sumE_len (F := F) fun q hq => h q (List.mem_cons_of_mem _ hq)
    obtain ⟨h1, h2⟩ := h (f, m) List.mem_cons_self
    have hF : Monic (fprod id F) := fprod_monic (fun q hq => (h q (List.mem_cons_of_mem _ hq)).1) id
    show m + sumE id F + 1 ≤ (f ^ m * fprod id F).len
    rw [len_mul (monic_pow h1 m).1 hF.1]
    have := pow_len_ge h1 h2 m
    omega
end An
namespace An
open PySem
/-- parts of a polynomial that a whole number makes whole -/
theorem pa_mk {p : QX} {F : Fac} {M L n : Nat} {c : Int} (hc : c ≠ 0) (hcn : c.natAbs < 2 ^ n) (hP : ∀ i, ∃ t : Int, t.natAbs < 2 ^ n ∧ coef p.p i * (c : Rat) = (t : Rat)) (hp : p ≠ 0) (hl : p.len ≤ L) (hL : L ≤ 9) (hF : FacOk F) (hm : ∀ q ∈ F, 1 ≤ q.2 ∧ 1 < q.1.len) (heq : p = QX.C (lc p.p) * fprod id F) (hM : p.len ≤ M + 1) (hM2 : M ≤ 20) (hlim : 23 * gz (n + 67 + 4) L + 44 ≤ LIM) : PaOk p F (n + 67) M L := by
  have hl0 := lc_ne p.own (ne_zero.mp hp)
  have hmonF := fprod_monic hF.mon id
  have hlen : (fprod id F).len = p.len := by
    conv => rhs; rw [heq]
    rw [len_Cmul hl0]
  have hcr : (c : Rat) ≠ 0 := fun z => hc (Rat.intCast_eq_zero_iff.mp z)
  have hPP : ∀ i, ∃ t : Int, t.natAbs < 2 ^ n ∧ coef (QX.C (c : Rat) * p).p i = (t : Rat) := fun i => by
    obtain ⟨t, t1, t2⟩ := hP i
    exact ⟨t, t1, by rw [coef_Cmul, Rat.mul_comm]; exact t2⟩
  refine ⟨hp, hl, by omega, hF, fun q hq => ⟨(hm q hq).1, ?_, (hm q hq).2⟩, heq, ?_, fun e he => ?_, hM2, hlim⟩
  · have hs := sumE_len (F := F) fun q hq => ⟨hF.mon q hq, (hm q hq).2⟩
    have : ∀ F : Fac, q ∈ F → q.2 ≤ sumE id F := fun F => by
      induction F with
      | nil => intro h; cases h
      | cons p F ih =>
        intro h
        obtain ⟨f, m⟩ := p
        show q.2 ≤ m + sumE id F
        rcases List.mem_cons.mp h with z | z
        · rw [z]; exact Nat.le_add_right _ _
        · have := ih z; omega
    have := this F hq
    omega
  · exact ⟨c, hc, Nat.lt_of_lt_of_le hcn (Nat.pow_le_pow_right (by decide) (Nat.le_add_right _ _)), fun i => by
      obtain ⟨t, t1, t2⟩ := hP i
      exact ⟨t, Nat.lt_of_lt_of_le t1 (Nat.pow_le_pow_right (by decide) (Nat.le_add_right _ _)), t2⟩⟩
  · refine div_bound (P := QX.C (c : Rat) * p) hPP (by rw [len_Cmul hcr]; omega) (mul_ne (C_ne hcr) hp) (fprod_monic hF.mon e) ?_
    refine dvd_trans (fprod_dvd F he) ?_
    refine ⟨QX.C (c : Rat) * QX.C (lc p.p), ?_⟩
    conv => lhs; rw [heq]
    grind
/-- the factors of any polynomial -/
theorem pa_fac {p : QX} (hp : p ≠ 0) : ∃ F : Fac, FacOk F ∧ (∀ q ∈ F, 1 ≤ q.2 ∧ 1 < q.1.len) ∧ p = QX.C (lc p.p) * fprod id F := by
  obtain ⟨F, h1, h2, h3⟩ := factors (qmon p).len (qmon p) (Nat.le_refl _) (qmon_monic hp)
  refine ⟨F, h1, fun q hq => ⟨(h2 q hq).1, (h2 q hq).2.len⟩, ?_⟩
  have hl := lc_ne p.own (ne_zero.mp hp)
  rw [h3, qmon_eq]
  have hc : QX.C (lc p.p) * QX.C (1 / lc p.p) = 1 := by
    rw [← C_mul, Rat.mul_comm, Rat.div_mul_cancel hl]
    rfl
  generalize QX.C (lc p.p) = a at *
  generalize QX.C (1 / lc p.p) = b at *
  grind
theorem lc_Cmon {c : Rat} (hc : c ≠ 0) {a : QX} (ha : Monic a) : lc (QX.C c * a).p = c := by
  rw [lc_Cmul hc ha.1, ha.2, Rat.mul_one]
/-- parts of a square -/
theorem pa_sq {p : QX} {F : Fac} (h : FacOk F) (heq : p = QX.C (lc p.p) * fprod id F) (hp : p ≠ 0) : p * p = QX.C (lc (p * p).p) * fprod id (dbl F) := by
  rw [lc_mul hp hp, C_mul, fprod_sq]
  conv => lhs; rw [heq]
  grind
end An

/-! A dict whose keys and values are fractions. -/
namespace An
open PySem PySem.Spec PyProof.Rows L2
/-- the thing at a is just this object -/
def ObO (a : Addr) (o : Obj) : HO := .ext fun h => h.get? a = some o
theorem obo_get {P : Program} {w : World} {H : Hp} {h : Heap} {a : Addr} {o : Obj} (ok : HOk P w H h) (e : H a = some (ObO a o)) : h.get? a = some o := (ok a _ e).1
theorem obo_ok {P : Program} {w : World} {H : Hp} {h : Heap} {a : Addr} {o : Obj} (e : h.get? a = some o) : ObjOk P w H h a (ObO a o) := ⟨e, ⟨o, e⟩, fun h1 h2 f k => k o f⟩
theorem obo_mut {a : Addr} {o : Obj} (h : ∃ es ep, o.data = .dict es ep) : MutO (ObO a o) := fun c q e => by
  obtain ⟨es, ep, hd⟩ := h
  unfold LamX.CodeO at e
  injection e with e
  have all : ∀ (n b : Nat) (x : Obj), Heap.get? ⟨Array.replicate n o, {}⟩ b = some x → x = o := fun n b x hx => by
    unfold Heap.get? at hx
    split at hx
    · cases hx
    · simp only [Array.getElem?_replicate] at hx
      split at hx
      · exact (Option.some.inj hx).symm
      · cases hx
  have h1 : Heap.get? ⟨Array.replicate (a + 1) o, {}⟩ a = some o := by
    unfold Heap.get?
    simp only [Array.getElem?_replicate, if_pos (Nat.lt_succ_self a)]
    split
    · rename_i z
      injection z with z
      rw [z] at hd
      cases hd
    · rfl
  have h2 := congrFun e ⟨Array.replicate (a + 1) o, {}⟩
  rw [h2] at h1
  obtain ⟨oc, vs, t, g1, g2, _⟩ := h1
  rw [all _ _ _ g1, hd] at g2
  cases g2
def fkey (q : Rat) : List Key := [.inl q.num, .inl (q.den : Nat)]
theorem fkey_inj {a b : Rat} (h : fkey a = fkey b) : a = b := by
  unfold fkey at h
  injection h with h1 h2
  injection h2 with h2 _
  injection h1 with h1
  injection h2 with h2
  exact Rat.ext h1 (by omega)
theorem sqt_frac {K : PySem.W.Frag} {H : Hp} {v : V} {q : Rat} (h : Dt K H v (eF q)) : ∃ b, v = .ref b ∧ SqT K H b ((fkey q).map kV) := by
  unfold eF at h
  cases h with
  | tup h1 h2 =>
    cases h2 with
    | cons e1 t =>
      cases t with
      | cons e2 t =>
        cases t
        cases e1
        cases e2
        exact ⟨_, rfl, h1⟩
theorem dt_frac {K : PySem.W.Frag} {H : Hp} {b : Addr} {q : Rat} (h : SqT K H b ((fkey q).map kV)) : Dt K H (.ref b) (eF q) := .tup h (.cons (.int _) (.cons (.int _) .nil))
abbrev DX := List (List Key × Addr × Value)
/-- the object is a dict of these entries -/
def DicO (P : Program) (w : World) (o : Obj) (xs : DX) : Prop := ∃ es ep, o.ExactDict ∧ o.data = .dict es ep ∧ es.toList = xs.map (entryOfKey (tupleKind (mixKind P w)))
/-- entries stand for pairs of fractions -/
def DicR (K : PySem.W.Frag) (H : Hp) : List (Rat × Rat) → DX → Prop := Paired fun p q => q.1 = fkey p.1 ∧ SqT K H q.2.1 (q.1.map kV) ∧ ∃ v, RelV v q.2.2 ∧ Dt K H v (eF p.2)
theorem DicR.keep {K : PySem.W.Frag} {H H' : Hp} {kvs : List (Rat × Rat)} {xs : DX} (r : DicR K H kvs xs) (k : Keep H H') : DicR K H' kvs xs := Paired.mapP r fun _ _ ⟨h1, h2, v, h3, h4⟩ => ⟨h1, sqt_keep k h2, v, h3, dp_keep k _ _ h4⟩
def dicAt (P : Program) (w : World) (kvs : List (Rat × Rat)) (K : PySem.W.Frag) (a : Addr) (H Hd : Hp) : Prop := ∃ o xs, (a == sysModules) = false ∧ H a = some (ObO a o) ∧ DicO P w o xs ∧ DicR K Hd kvs xs ∧ (xs.map (·.1)).Nodup
def dicB (P : Program) (w : World) (kvs : List (Rat × Rat)) : Bx where
  at_ := fun K v fs H Hd => ∃ a, v = .ref a ∧ fs = [a] ∧ dicAt P w kvs K a H Hd
  keep := fun {K v fs H Hd H' Hd'} ⟨a, e, ef, o, xs, h1, h2, h3, h4, h5⟩ hf hk => ⟨a, e, ef, o, xs, h1, by rw [hf a (by rw [ef]; exact List.mem_singleton.mpr rfl)]; exact h2, h3, h4.keep hk, h5⟩
def dicF (P : Program) (w : World) (kvs : List (Rat × Rat)) : Fix where
  at_ := fun K v H => ∃ a, v = .ref a ∧ dicAt P w kvs K a H H
  keep := fun {K v H H'} ⟨a, e, o, xs, h1, h2, h3, h4, h5⟩ hk => ⟨a, e, o, xs, h1, hk a _ h2 (fun _ z => nomatch z), h3, h4.keep hk, h5⟩
/-! ### pairs of fractions -/
def lookF (kvs : List (Rat × Rat)) (x : Rat) : Option Rat := (kvs.find? fun p => decide (p.1 = x)).map (·.2)
def putF (kvs : List (Rat × Rat)) (x y : Rat) : List (Rat × Rat) := if (lookF kvs x).isSome then kvs.map fun p => if p.1 = x then (p.1, y) else p else kvs ++ [(x, y)]
theorem lookF_mem {kvs : List (Rat × Rat)} {p : Rat × Rat} (h : p ∈ kvs) (nd : (kvs.map (·.1)).Nodup) : lookF kvs p.1 = some p.2 := by
  induction kvs with
  | nil => cases h
  | cons q r ih =>
    rw [List.map_cons, List.nodup_cons] at nd
    unfold lookF
    rw [List.find?_cons]
    rcases List.mem_cons.mp h with e | e
    · subst e
      rw [decide_eq_true rfl]
      rfl
    · have ne : q.1 ≠ p.1 := fun z => nd.1 (by rw [z]; exact List.mem_map.mpr ⟨p, e, rfl⟩)
      rw [decide_eq_false ne]
      exact ih e nd.2
theorem lookF_none {kvs : List (Rat × Rat)} {x : Rat} (h : (lookF kvs x).isSome = false) : x ∉ kvs.map (·.1) := fun z => by
  obtain ⟨p, hp, e⟩ := List.mem_map.mp z
  unfold lookF at h
  rw [Option.isSome_map] at h
  have : (kvs.find? fun p => decide (p.1 = x)).isSome = true := List.find?_isSome.mpr ⟨p, hp, decide_eq_true e⟩
  rw [h] at this
  cases this
theorem putF_nodup {kvs : List (Rat × Rat)} {x y : Rat} (nd : (kvs.map (·.1)).Nodup) : ((putF kvs x y).map (·.1)).Nodup := by
  unfold putF
  by_cases h : (lookF kvs x).isSome = true
  · rw [if_pos h, List.map_map]
    have : (fun p : Rat × Rat => p.1) ∘ (fun p => if p.1 = x then (p.1, y) else p) = fun p => p.1 := by
      funext p
      show (if p.1 = x then (p.1, y) else p).1 = p.1
      split <;> rfl
    rw [this]
    exact nd
  · rw [if_neg h, List.map_append]
    have hn := lookF_none (kvs := kvs) (x := x) (by simpa using h)
    exact List.nodup_append.mpr ⟨nd, by simp, fun a ha b hb e => hn (by
      have : b = x := by simpa using hb
      rw [← this, ← e]
      exact ha)⟩
theorem putF_len (kvs : List (Rat × Rat)) (x y : Rat) : (putF kvs x y).length ≤ kvs.length + 1 := by
  unfold putF
  split
  · rw [List.length_map]; omega
  · rw [List.length_append]; exact Nat.le_refl _
theorem putF_ne (kvs : List (Rat × Rat)) (x y : Rat) : putF kvs x y ≠ [] := by
  unfold putF
  split
  · rename_i h
    intro z
    rw [List.map_eq_nil_iff] at z
    subst z
    cases h
  · simp
theorem putF_mem {kvs : List (Rat × Rat)} {x y : Rat} {p : Rat × Rat} (h : p ∈ putF kvs x y) : p ∈ kvs ∨ p = (x, y) := by
  unfold putF at h
  split at h
  · obtain ⟨q, hq, e⟩ := List.mem_map.mp h
    split at e
    · rename_i z
      right
      rw [← e, z]
    · left
      rw [← e]
      exact hq
  · rcases List.mem_append.mp h with h | h
    · exact .inl h
    · exact .inr (List.mem_singleton.mp h)
section
variable {K : PySem.W.Frag} {H : Hp} {kvs : List (Rat × Rat)} {xs : DX}
theorem DicR.some_iff (r : DicR K H kvs xs) (x : Rat) : (atKey xs (fkey x)).isSome = (lookF kvs x).isSome := by
  unfold DicR at r
  induction r with
  | nil => rfl
  | @cons p q ps qs h t ih =>
    obtain ⟨h1, _⟩ := h
    by_cases e : p.1 = x
    · have e' : q.1 = fkey x := by rw [h1, e]
      have b : atKey (q :: qs) (fkey x) = some q.2 := by simp [atKey, List.find?_cons, e']
      rw [b]
      unfold lookF
      rw [List.find?_cons, decide_eq_true e]
      rfl
    · have e' : ¬ q.1 = fkey x := fun z => e (fkey_inj (h1.symm.trans z))
      have b : atKey (q :: qs) (fkey x) = atKey qs (fkey x) := by simp [atKey, List.find?_cons, e']
      rw [b, ih]
      unfold lookF
      rw [List.find?_cons, decide_eq_false e]
theorem DicR.look (r : DicR K H kvs xs) {x y : Rat} (h : lookF kvs x = some y) : ∃ p v, atKey xs (fkey x) = some p ∧ RelV v p.2 ∧ Dt K H v (eF y) := by
  unfold DicR at r
  induction r with
  | nil => cases h
  | @cons p q ps qs hq t ih =>
    obtain ⟨h1, h2, v, h3, h4⟩ := hq
    by_cases e : p.1 = x
    · have e' : q.1 = fkey x := by rw [h1, e]
      have b : atKey (q :: qs) (fkey x) = some q.2 := by simp [atKey, List.find?_cons, e']
      unfold lookF at h
      rw [List.find?_cons, decide_eq_true e] at h
      have h : some p.2 = some y := h
      cases h
      exact ⟨q.2, v, b, h3, h4⟩
    · have e' : ¬ q.1 = fkey x := fun z => e (fkey_inj (h1.symm.trans z))
      have b : atKey (q :: qs) (fkey x) = atKey qs (fkey x) := by simp [atKey, List.find?_cons, e']
      unfold lookF at h
      rw [List.find?_cons, decide_eq_false e] at h
      rw [b]
      exact ih h
theorem DicR.put (r : DicR K H kvs xs) {x y : Rat} {b : Addr} {v : V} {u : Value} (hb : SqT K H b ((fkey x).map kV)) (ru : RelV v u) (hv : Dt K H v (eF y)) : DicR K H (putF kvs x y) (storedH xs (fkey x) b u) := by
  have e := r.some_iff x
  unfold putF storedH
  rw [e]
  by_cases q : (lookF kvs x).isSome = true
  · rw [if_pos q, if_pos q]
    clear e q
    unfold DicR at r ⊢
    induction r with
    | nil => exact .nil
    | @cons p q ps qs h t ih =>
      rw [List.map_cons, List.map_cons]
      refine .cons ?_ ih
      obtain ⟨h1, h2, v', h3, h4⟩ := h
      unfold putAt
      by_cases e : p.1 = x
      · rw [if_pos e, if_pos (by rw [h1, e])]
        exact ⟨h1, h2, v, ru, hv⟩
      · rw [if_neg e, if_neg (fun z => e (fkey_inj (h1.symm.trans z)))]
        exact ⟨h1, h2, v', h3, h4⟩
  · rw [if_neg q, if_neg q]
    exact Paired.snoc r ⟨rfl, hb, v, ru, hv⟩
theorem DicR.len (r : DicR K H kvs xs) : kvs.length = xs.length := Paired.length r
end
/-! ### readings -/
section
variable {X : Cx} {pins : List (Addr × Obj)} {σ : L2.St} {H : Hp} {s : Shared} {a b : Addr} {o : Obj} {xs : DX} {kvs : List (Rat × Rat)}
theorem key_ofS {k : List Key} (I : Inv X pins σ H s) (h : SqT X.K H b (k.map kV)) : (tupleKind (mixKind X.prog X.w)).is s.heap k b := by
  obtain ⟨its, r, ⟨o, h1, h2, n, h3⟩, _⟩ := I.tuple h
  exact ⟨o, its.toArray, n, h1, h2, h3, by simpa using items_are r⟩
theorem dic_of (I : Inv X pins σ H s) (e : H a = some (ObO a o)) (h1 : DicO X.prog X.w o xs) (h2 : DicR X.K H kvs xs) (nd : (xs.map (·.1)).Nodup) : s.heap.DictOfH (tupleKind (mixKind X.prog X.w)) a xs := by
  obtain ⟨es, ep, a1, a2, a3⟩ := h1
  refine ⟨o, es, ep, obo_get I.hok e, a1, a2, a3, fun x hx => ?_, nd⟩
  have all : ∀ {l : List (Rat × Rat)} {m : DX}, DicR X.K H l m → ∀ x ∈ m, SqT X.K H x.2.1 (x.1.map kV) := fun {l m} r => by
    unfold DicR at r
    induction r with
    | nil => intro x hx; cases hx
    | cons h t ih =>
      intro x hx
      rcases List.mem_cons.mp hx with e | hx
      · subst e
        exact h.2.1
      · exact ih x hx
  exact key_ofS I (all h2 x hx)
end
def tDNewX : TE := fun _ H Q => ∀ p, H p = none → (p == sysModules) = false → Q (.ref p) (upd H p (ObO p { cls := .type "dict", data := .dict #[] }))
theorem pe_dnewX {X : Cx} {pos : Pos} : PE X (.Dict [] [] pos) tDNewX := ⟨fun pins s σ H Q I h =>
  wpAny_Dict_empty ⟨.ref s.heap.objs.size, _, I.laid (a := s.heap.objs.size) (o := ObO s.heap.objs.size { cls := .type "dict", data := .dict #[] }) (t' := s.toks) (fun _ _ q => Heap.get?_push_of_some _ q) (Nat.le_refl _) (obo_ok (Heap.get?_push_size _ rfl)), rfl, h _ (I.hok.fresh (Nat.le_refl _)) (beq_eq_false_iff_ne.mpr (Ne.symm (Nat.ne_of_lt I.big)))⟩⟩
theorem dicO_nil (P : Program) (w : World) : DicO P w { cls := .type "dict", data := .dict #[] } [] := ⟨#[], 0, ⟨rfl, rfl, rfl⟩, rfl, rfl⟩
def rSetX (P : Program) (w : World) (K : PySem.W.Frag) : TSet := fun o i v H Q => ∃ a b ob xs k kvs, o = .ref a ∧ i = .ref b ∧ H a = some (ObO a ob) ∧ DicO P w ob xs ∧ DicR K H kvs xs ∧ (xs.map (·.1)).Nodup ∧ xs.length ≤ sizeLine ∧ SqT K H b (k.map kV) ∧
  ∀ u o', RelV v u → DicO P w o' (storedH xs k b u) → ((storedH xs k b u).map (·.1)).Nodup → Q (upd H a (ObO a o'))
theorem set_dicX {X : Cx} (hu : X.A.units + 1 < cLine) : PSet X (rSetX X.prog X.w X.K) := by
  intro pins s σ H o i v ov iv u Q I ro ri rv h
  obtain ⟨a, b, ob, xs, k, kvs, rfl, rfl, h1, h2, h3, h4, h5, h6, q⟩ := h
  cases ro
  cases ri
  refine wpAny_setItem_heap (hsz := h5) (tupleKind_room_in1 hu) (key_ofS I h6) (dic_of I h1 h2 h3 h4) fun h' dd' hs => ?_
  obtain ⟨q', es, ep, hq, g2, g3, g4, _, g5⟩ := dd'
  exact ⟨_, d_write I (by rw [h1]; exact True.intro) hs ⟨q', hq⟩ (obo_ok hq), q u q' rv ⟨es, ep, g2, g3, g4⟩ g5⟩
def tDGetX (P : Program) (w : World) (K : PySem.W.Frag) (td ty : TE) : TE := fun σ H Q => td σ H fun x H1 => ty σ H1 fun y H2 => ∃ a b ob xs k kvs p v, x = .ref a ∧ y = .ref b ∧ H2 a = some (ObO a ob) ∧ DicO P w ob xs ∧ DicR K H2 kvs xs ∧ (xs.map (·.1)).Nodup ∧ SqT K H2 b (k.map kV) ∧ atKey xs k = some p ∧ RelV v p.2 ∧ Q v H2
theorem pe_dgetX {X : Cx} {o i : Expr} {pos : Pos} {td ty : TE} (hu : X.A.units + 1 < cLine) (ho : PE X o td) (hi : PE X i ty) (hs : NoSl i) : PE X (.Subscript o i pos) (tDGetX X.prog X.w X.K td ty) := by
  refine ⟨fun pins s σ H Q I h => ?_⟩
  refine subD_of PySem.F.slot_dict_getitem.lookup hs (thn (ho.run pins s σ H _ I h) fun u s1 ⟨x, H1, I1, rx, q1⟩ => thn (hi.run pins s1 σ H1 _ I1 q1) fun iv s2 ⟨y, H2, I2, ry, a, b, ob, xs, k, kvs, p, v, ex, ey, h1, h2, h3, h4, h5, h6, h7, q2⟩ => ?_)
  subst ex ey
  cases rx
  cases ry
  have dd := dic_of I2 h1 h2 h3 h4
  exact ⟨dd.typeIs, wpAny_getItem_heap (tupleKind_room_in1 hu) (key_ofS I2 h5) dd h6 ⟨v, H2, I2.tok _, h7, q2⟩⟩
/-- the keys of the dict at d, in their order -/
def ItX (d : Addr) (o : Obj) (xs : DX) : It :=
  ⟨fun i H => H d = some (ObO d o) ∧ i < xs.length, fun i H x H' => H' = H ∧ ∃ q, xs[i]? = some q ∧ x = .ref q.2.1, fun i H => H d = some (ObO d o) ∧ xs.length ≤ i⟩
theorem turn_X {P : Program} {w : World} {K : PySem.W.Frag} {tg : Expr} {d : Addr} {o : Obj} {xs : DX} {es : Array DictEntry} {ep : Nat} (it : Addr) (hod : o.data = .dict es ep) (he : es.toList = xs.map (entryOfKey (tupleKind (mixKind P w)))) :
    Turn P w K tg (ItX d o xs) [it] it (fun i h => h.IsKeyIter it d i xs.length ep) where
  mem := by simp
  obj := fun i h st b hb => by
    have e : b = it := by simpa using hb
    subst e
    obtain ⟨oi, e, c, dd⟩ := st
    exact ⟨oi, e, fun v z => by rw [dd] at z; cases z⟩
  keep := fun i h h' st k => st.at fun oi e => k it (by simp) oi e
  item := by
    intro X hP hw hK hc i pins s σ H E I hf st hg
    subst hP hw hK
    obtain ⟨hd, hi⟩ := hg
    obtain ⟨f0, f1, f2, f3, f4, f5⟩ := hf it (by simp)
    have hgd := obo_get I.hok hd
    have hsz : es.size = xs.length := size_of_entries he
    have hx : xs[i]? = some xs[i] := List.getElem?_eq_getElem hi
    have hen := entry_at he i
    rw [hx] at hen
    refine next_key_item st hgd hod hsz hen fun h' st' sb => ?_
    have I1 : Inv X pins σ H { s with heap := h' } := I.turned (t' := s.toks) (fun b ob hb e => (sb.2 b hb).trans e) f0 f1 f3 f4 f5
    obtain ⟨oi, e, c, dd⟩ := id st'
    exact ⟨_, rfl, go_of (s := { s with heap := h' }) e c dd (by decide) ⟨.ref xs[i].2.1, H, I1, rfl, ⟨rfl, _, hx, rfl⟩, st', fun b hb => (hf b hb).1⟩⟩
  done := by
    intro X hP hw hK hc i pins s σ H E I hf st hg
    subst hP hw hK
    obtain ⟨hd, hi⟩ := hg
    obtain ⟨f0, f1, f2, f3, f4, f5⟩ := hf it (by simp)
    have hgd := obo_get I.hok hd
    have hsz : es.size = xs.length := size_of_entries he
    exact next_key_end (I.ok.hd hc) st hgd hod hsz hi fun h' eb => ⟨rfl, I.turned (t' := s.toks) (fun b ob hb e => eb b ob hb e) f0 f1 f3 f4 f5⟩
  self := fun A i s Q E st h => wpAny_pyIter_keyiter st h
def iX (P : Program) (w : World) (td : TE) : TI := fun σ H R => td σ H fun x H1 => ∃ d o xs, x = .ref d ∧ (d == sysModules) = false ∧ H1 d = some (ObO d o) ∧ DicO P w o xs ∧ R (ItX d o xs) H1
theorem pi_X {X : Cx} {tg e : Expr} {td : TE} (he : PE X e td) : PI X tg e (iX X.prog X.w td) := by
  refine ⟨fun pins s σ H R I h => ?_⟩
  refine thn (he.run pins s σ H _ I h) fun u s1 ⟨x, H1, I1, rx, d, o, xs, ex, hs, hd, ⟨es, ep, hx, hdt, hen⟩, q⟩ => ?_
  subst ex
  cases rx
  have hsz : es.size = xs.length := size_of_entries hen
  refine iter_keys hs (obo_get I1.hok hd) hx hdt (pi_one (tk := s1.toks) I1 _ (turn_X _ hdt hen) ⟨_, Heap.get?_push_size _ rfl, rfl, ?_⟩ q)
  rw [hsz] <;> rfl
/-! ### rules by data -/
section
variable {R : Hp → Hp → Prop} [RelC R] {X : Cx} {γ : List Sl} {pos p : Pos} {P : Po}
theorem s1_dnew (i : Nat) {x : Str} {dp : Pos} (h : ∀ a, P.nx (γ.set i (.own (.b (dicB X.prog X.w []) [a])))) (hN : X.N.Nodup) (hi : X.N[i]? = some x := by rfl) (hx : Loc X.env.scope x := by first | exact Or.inl rfl | exact Or.inr rfl)
    (hs : swapsWith (.Dict [] [] dp) (some (.Name x p)) pos.line X.env = pure false := by rfl) (hf : X.fn x = true ∨ X.env.scope.names.lookup x = some .local := by first | exact .inl rfl | exact .inr rfl | assumption) : S1 R X γ (.Assign [.Name x p] (.Dict [] [] dp) pos) P := fun H0 S0 σ H E W s tk n r b c z =>
  ws_of (ps_set hN hi hx pe_dnewX hs hf) fun a hn hsm => n _ _ _ (h a) (s.putB i (Rel.more s.ref (same_new hn)) (fun l hl => by
    have e : l = a := List.mem_singleton.mp hl
    subst e
    exact ⟨hn, _, upd_same, obo_mut ⟨_, _, rfl⟩⟩) ⟨_, rfl, a, rfl, rfl, _, [], hsm, upd_same, dicO_nil _ _, .nil, List.nodup_nil⟩)
/-- d[k] = v -/
theorem s1_dset (i : Nat) {x : Str} {e ix : Expr} {a : Addr} {kvs : List (Rat × Rat)} {k y : Rat} {p2 : Pos} (he : EE R X γ e (eF y)) (hx : EE R X γ ix (eF k)) (h : P.nx (γ.set i (.own (.b (dicB X.prog X.w (putF kvs k y)) [a])))) (hu : X.A.units + 1 < cLine) (hl : kvs.length ≤ 1000) (hi : γ[i]? = some (.own (.b (dicB X.prog X.w kvs) [a])) := by rfl) (hN : X.N[i]? = some x := by rfl)
    (hv : Vis X.env.scope x := by first | exact Or.inl rfl | exact Or.inr (Or.inl rfl) | exact Or.inr (Or.inr rfl)) (hd : (x == ("__debug__" : Str)) = false := by decide) (hcd : (x == ("__classdict__" : Str)) = false := by decide)
    (ha : ∀ v, assign (.Subscript (.Name x p) ix p2) X.env v = (do
      let ov ← holding [v] (eval (.Name x p) X.env)
      let iv ← holding [v, ov] (eval ix X.env)
      standAt p2
      holding [v, ov, iv] (setItem ov iv v)
      release [v, ov, iv] []) := by intro _; rfl)
    (hs : swapsWithSole [.Subscript (.Name x p) ix p2] e pos.line X.env = pure false := by rfl) (hw : swappedStores [.Subscript (.Name x p) ix p2] e X.env = pure none := by rfl)
    (h1 : (assignEach [.Subscript (.Name x p) ix p2] X.env).map (·.2) = [assign (.Subscript (.Name x p) ix p2) X.env] := by rfl) : S1 R X γ (.Assign [.Subscript (.Name x p) ix p2] e pos) P := fun H0 S0 σ H E W s tk n r bk ct z =>
  ws_of (ps_asg pe_we (pg_sub (pe_var hN hv hd hcd) pe_we (set_dicX hu) ha) hs hw h1) (he H0 S0 σ H _ s fun v H1 r1 d1 => by
    have s1 := s.mono r1
    obtain ⟨v0, e1, _, _⟩ := s1.box i hi
    refine ⟨_, e1, hx H0 S0 σ H1 _ s1 fun u H2 r2 d2 => ?_⟩
    have s2 := s1.mono r2
    obtain ⟨v1, a1, ⟨a', rfl, ea, o, xs, g1, g2, g3, g4, g5⟩, a3⟩ := s2.box i hi
    rw [e1] at a1
    cases a1
    have ea' : a = a' := by simpa using ea
    subst ea'
    obtain ⟨b, rfl, hb⟩ := sqt_frac d2
    refine ⟨a, b, o, xs, fkey k, kvs, rfl, rfl, g2, g3, g4.keep off_in, g5, ?_, sqt_keep off_in hb, fun uu o' ru hO hnd => ?_⟩
    · rw [← g4.len]
      exact Nat.le_of_lt (small1000 hl)
    · refine n _ _ _ h (s2.mutB (l := a) hi e1 (List.mem_singleton.mpr rfl) (obo_mut (let ⟨es, ep, _, q, _⟩ := hO; ⟨es, ep, q⟩)) (fun _ => Iff.rfl) ⟨_, rfl, a, rfl, rfl, o', _, g1, upd_same, hO, ?_, hnd⟩)
      have k5 : Keep (off (Sx S0 γ σ) H2) (off (Sx S0 γ σ) (upd H2 a (ObO a o'))) := fun c w' e' _ => by
        obtain ⟨q1, q2⟩ := off_some e'
        refine off_of q1 ?_
        rw [upd_ne (fun zz => q1 (.inr ⟨i, _, _, hi, e1, by rw [zz]; exact List.mem_singleton.mpr rfl⟩))]
        exact q2
      exact (g4.put hb ru (dt_up r2 d1)).keep k5)
theorem ss_dfreeze {st : List Stmt} (i : Nat) {kvs : List (Rat × Rat)} {a : Addr} (h : SS R X (γ.set i (.fix (dicF X.prog X.w kvs))) st P) (hi : γ[i]? = some (.own (.b (dicB X.prog X.w kvs) [a])) := by rfl) : SS R X γ st P := fun H0 S0 σ H E W s tk n r b c z =>
  h H0 S0 σ H E W (s.freezeB hi fun v Hd Hd' ⟨a', e, ef, o, xs, g1, g2, g3, g4, g5⟩ hf hk => ⟨a', e, o, xs, g1, by rw [hf a' (by rw [ef]; exact List.mem_singleton.mpr rfl)]; exact g2, g3, g4.keep hk, g5⟩) tk n r b c z
theorem ee_dget (j : Nat) {x : Str} {b : Expr} {kvs : List (Rat × Rat)} {k y : Rat} (hb : EE R X γ b (eF k)) (h : lookF kvs k = some y) (hu : X.A.units + 1 < cLine) (hj : γ[j]? = some (.fix (dicF X.prog X.w kvs)) := by rfl) (hs : NoSl b := by exact fun _ _ => rfl) (hN : X.N[j]? = some x := by rfl)
    (hv : Vis X.env.scope x := by first | exact Or.inl rfl | exact Or.inr (Or.inl rfl) | exact Or.inr (Or.inr rfl)) (hd : (x == ("__debug__" : Str)) = false := by decide) (hcd : (x == ("__classdict__" : Str)) = false := by decide) :
    EE R X γ (.Subscript (.Name x p) b pos) (eF y) := fun H0 S0 σ H Q s kk => by
  obtain ⟨v, h1, _⟩ := s.fix j hj
  refine we_of (pe_dgetX hu (pe_var hN hv hd hcd) pe_we hs) ⟨_, h1, hb H0 S0 σ H _ s fun u H2 r2 d2 => ?_⟩
  obtain ⟨v', h1', a, rfl, o, xs, g1, g2, g3, g4, g5⟩ := (s.mono r2).fix j hj
  rw [h1] at h1'
  cases h1'
  obtain ⟨b', rfl, hb'⟩ := sqt_frac d2
  obtain ⟨pp, vv, l1, l2, l3⟩ := g4.look h
  exact ⟨a, b', o, xs, fkey k, kvs, pp, vv, rfl, rfl, (off_some g2).2, g3, g4.keep off_in, g5, sqt_keep off_in hb', l1, l2, kk vv H2 r2 l3⟩
theorem ei_dict (j : Nat) {x : Str} {tg : Expr} {kvs : List (Rat × Rat)} (hj : γ[j]? = some (.fix (dicF X.prog X.w kvs)) := by rfl) (hN : X.N[j]? = some x := by rfl)
    (hv : Vis X.env.scope x := by first | exact Or.inl rfl | exact Or.inr (Or.inl rfl) | exact Or.inr (Or.inr rfl)) (hd : (x == ("__debug__" : Str)) = false := by decide) (hcd : (x == ("__classdict__" : Str)) = false := by decide) :
    EI R X γ tg (.Name x p) (kvs.map fun q => eF q.1) := ⟨_, pi_X (pe_var hN hv hd hcd), fun H0 S0 σ H Rk s k => by
  obtain ⟨v, h1, a, rfl, o, xs, g1, g2, g3, g4, g5⟩ := s.fix j hj
  refine ⟨_, h1, a, o, xs, rfl, g1, (off_some g2).2, g3, k _ H s.ref ?_⟩
  have hl : (kvs.map fun q => eF q.1).length = xs.length := by rw [List.length_map]; exact g4.len
  have up : ∀ (H' : Hp) (S' : Addr → Prop), Keep (off (Sx S0 γ σ) H) (off S' H') → H' a = some (ObO a o) := fun H' S' kp => (off_some (kp a _ g2 fun _ z => nomatch z)).2
  refine ⟨fun i H' S' kp hi => ⟨up H' S' kp, by omega⟩, fun i H' S' kp hi => ⟨up H' S' kp, by omega⟩, fun i H' S' x H'' d kp hd y hx => ?_⟩
  obtain ⟨e, q, hq, rfl⟩ := y
  subst e
  refine ⟨Same.refl _, ?_⟩
  rw [List.getElem?_map] at hx
  cases hk : kvs[i]? with
  | none => rw [hk] at hx; cases hx
  | some pr =>
    rw [hk] at hx
    cases hx
    obtain ⟨q', hq', e1, e2, _⟩ := paired_get g4 hk
    rw [hq] at hq'
    cases hq'
    rw [e1] at e2
    exact dt_frac (sqt_keep kp e2)⟩
end
end An

/-! x.append(y.pop()); a, b, c = a list. -/
namespace An
open PySem PySem.Spec PyProof.Rows L2
section
variable {R : Hp → Hp → Prop} [RelC R] {X : Cx} {γ : List Sl} {P : Po} {pos : Pos}
theorem s1_appendPop (i j : Nat) {x y : Str} {ds es : List D} {d : D} {p p2 apos cpos apos2 cpos2 : Pos} (hne : es.getLast? = some d) (h : P.nx ((γ.set j (.own (.l es.dropLast))).set i (.own (.l (ds ++ [d]))))) (hl : ds.length < 1000) (hi : γ[i]? = some (.own (.l ds)) := by rfl) (hj : γ[j]? = some (.own (.l es)) := by rfl) (hij : i ≠ j := by decide) (hN : X.N[i]? = some x := by rfl) (hN2 : X.N[j]? = some y := by rfl)
    (hv : Vis X.env.scope x := by first | exact Or.inl rfl | exact Or.inr (Or.inl rfl) | exact Or.inr (Or.inr rfl)) (hd : (x == ("__debug__" : Str)) = false := by decide) (hcd : (x == ("__classdict__" : Str)) = false := by decide)
    (hv2 : Vis X.env.scope y := by first | exact Or.inl rfl | exact Or.inr (Or.inl rfl) | exact Or.inr (Or.inr rfl)) (hd2 : (y == ("__debug__" : Str)) = false := by decide) (hcd2 : (y == ("__classdict__" : Str)) = false := by decide)
    (hbase2 : attributeBase (.Name y p2) "pop" X.env (eval (.Name y p2) X.env) = eval (.Name y p2) X.env := by rfl) (hline2 : (apos2.endLine == cpos2.line) = true := by rfl)
    (hbase : attributeBase (.Name x p) "append" X.env (eval (.Name x p) X.env) = eval (.Name x p) X.env := by rfl)
    (hfew : ((backTo cpos (starEach [.Call (.Attribute (.Name y p2) "pop" apos2) [] [] cpos2] X.env)).all (fun x => !x.1) && (backToKw cpos (keywordEach [] X.env)).all (fun x => x.1.isSome) && decide (([.Call (.Attribute (.Name y p2) "pop" apos2) [] [] cpos2] : List Expr).length + ([] : List Keyword).length + (if ([] : List Keyword).isEmpty then 0 else 1) < 30)) = true := by rfl)
    (hline : (apos.endLine == cpos.line) = true := by rfl) (hst : starEach [.Call (.Attribute (.Name y p2) "pop" apos2) [] [] cpos2] X.env = (false, eval (.Call (.Attribute (.Name y p2) "pop" apos2) [] [] cpos2) X.env) :: starEach [] X.env := by rfl) (hplain : (backTo cpos (starEach [] X.env)).any (·.1) = false := by rfl)
    (hs : swapsWith (.Call (.Attribute (.Name x p) "append" apos) [.Call (.Attribute (.Name y p2) "pop" apos2) [] [] cpos2] [] cpos) none pos.line X.env = pure false := by rfl) :
    S1 R X γ (.Expr (.Call (.Attribute (.Name x p) "append" apos) [.Call (.Attribute (.Name y p2) "pop" apos2) [] [] cpos2] [] cpos) pos) P := fun H0 S0 σ H E W s tk n r bk ct z => by
  obtain ⟨l, vs, h1, _, h3, h4⟩ := s.own i ds hi
  obtain ⟨m, us, g1, _, g3, g4⟩ := s.own j es hj
  have hlen := dps_len g4
  have hpos : 0 < es.length := by
    cases es with
    | nil => cases hne
    | cons a r => exact Nat.succ_pos _
  have hlast : us[us.length - 1]? = some us[us.length - 1] := List.getElem?_eq_getElem (by omega)
  obtain ⟨d', hd', hdt⟩ := dps_getV g4 hlast
  have ed : d' = d := by
    rw [hlen, ← List.getLast?_eq_getElem?, hne] at hd'
    exact (Option.some.inj hd').symm
  subst ed
  have hdl : DtAll X.K (off (Sx S0 γ σ) H) us.dropLast es.dropLast := by
    rw [List.dropLast_eq_take, List.dropLast_eq_take, hlen]
    exact dps_take _ g4
  have s1 := s.mutO hj g1 hdl
  have hσ : σ.set j (some (.ref m)) = σ := by
    have hlt := (List.getElem?_eq_some_iff.mp g1).1
    have e := (List.getElem?_eq_some_iff.mp g1).2
    rw [← e]
    exact List.set_getElem_self hlt
  have sub : ∀ a, Sx S0 (γ.set j (.own (.l es.dropLast))) σ a → Sx S0 γ σ a := fun a q => by
    have q' : Sx S0 (γ.set j (.own (.l es.dropLast))) (σ.set j (some (.ref m))) a := by rw [hσ]; exact q
    exact sx_set (x := .own (.l es.dropLast)) (fun b f => .inr ⟨j, _, _, hj, g1, f⟩) a q'
  have k5 : Keep (off (Sx S0 γ σ) H) (off (Sx S0 (γ.set j (.own (.l es.dropLast))) σ) (upd H m (.lst us.dropLast))) := fun c w' e' _ => by
    obtain ⟨q1, q2⟩ := off_some e'
    refine off_of (fun q => q1 (sub c q)) ?_
    rw [upd_ne (fun zz => q1 (.inr ⟨j, _, _, hj, g1, by rw [zz]; rfl⟩))]
    exact q2
  have hi' : (γ.set j (.own (.l es.dropLast)))[i]? = some (.own (.l ds)) := by rw [List.getElem?_set_ne (fun q => hij q.symm)]; exact hi
  refine ws_of (ps_expr (pe_bm PySem.F.plainAttrs_list PySem.F.slot_list_append PySem.F.type_list_append mt_append (pe_var hN hv hd hcd) (pa_cons (pe_bm0 PySem.F.plainAttrs_list PySem.F.slot_list_pop PySem.F.type_list_pop mt_pop (pe_var hN2 hv2 hd2 hcd2) hbase2 hline2) pa_nil hst) hbase hfew hline hst hplain) hs)
    ⟨_, h1, .inl ⟨rfl, _, SqL.of h3⟩, _, g1, .inl ⟨rfl, _, SqL.of g3⟩, m, us, _, rfl, rfl, g3, hlast, ?_⟩
  obtain ⟨l', vs', a1, a2, a3, a4⟩ := s1.own i ds hi'
  rw [h1] at a1
  cases a1
  refine ⟨l, vs', _, rfl, rfl, a3, Nat.lt_trans (by rw [dps_len a4]; exact hl) (by decide), ?_⟩
  exact n _ _ _ h (s1.mutO hi' h1 (dps_app a4 (dps_one (dp_keep k5 _ _ hdt))))
theorem eg_l3 {i j k : Nat} {x y w : Str} {d1 d2 d3 : D} {p1 p2 p3 : Pos} {kk : Nat} (hc : X.calm = true) (hN : X.N.Nodup) (hi : X.N[i]? = some x := by rfl) (hj : X.N[j]? = some y := by rfl) (hk : X.N[k]? = some w := by rfl) (hx : Loc X.env.scope x := by first | exact Or.inl rfl | exact Or.inr rfl)
    (hy : Loc X.env.scope y := by first | exact Or.inl rfl | exact Or.inr rfl) (hw : Loc X.env.scope w := by first | exact Or.inl rfl | exact Or.inr rfl)
    (hf : X.fn x = true ∨ X.env.scope.names.lookup x = some .local := by first | exact .inl rfl | exact .inr rfl | assumption) (hg : X.fn y = true ∨ X.env.scope.names.lookup y = some .local := by first | exact .inl rfl | exact .inr rfl | assumption)
    (hh : X.fn w = true ∨ X.env.scope.names.lookup w = some .local := by first | exact .inl rfl | exact .inr rfl | assumption) :
    EG R X γ (.Tuple [.Name x p1, .Name y p2, .Name w p3] kk pos) (.list [d1, d2, d3]) (((γ.set i (.dat d1)).set j (.dat d2)).set k (.dat d3)) := fun H0 S0 σ H v Q s h kq => by
  cases h with
  | lst h1 h2 =>
    cases h2 with
    | cons e1 r1 =>
      cases r1 with
      | cons e2 r2 =>
        cases r2 with
        | cons e3 r3 =>
          cases r3
          refine wg_of (pg_lst hc (pgs_cons (pg_name hN hi hx hf) (pgs_cons (pg_name hN hj hy hg) (pgs_cons (pg_name hN hk hw hh) pgs_nil)))) ⟨_, _, rfl, .inl (rd_keep off_in h1), rfl, _, _, rfl, _, _, rfl, _, _, rfl, rfl, ?_⟩
          have s1 := s.putD i e1
          have s2 := s1.putD j (dp_keep (off_keep (Keep.refl H) sx_dat) _ _ e2)
          exact kq _ (s2.putD k (dp_keep (off_keep (Keep.refl H) sx_dat) _ _ (dp_keep (off_keep (Keep.refl H) sx_dat) _ _ e3)))
end
end An

/-! Around a place, by divisions. -/
namespace An
open PySem
theorem qx_ev_ext {a b : QX} (h : ∀ x, a.ev x = b.ev x) : a = b := by
  refine poly_uniq (xs := (List.range (a.len + b.len)).map fun i => ((i : Nat) : Rat)) ?_ (fun x _ => h x) (by rw [List.length_map, List.length_range]; omega) (by rw [List.length_map, List.length_range]; omega)
  refine List.pairwise_map.mpr (List.nodup_range.imp fun {i j} hij e => hij ?_)
  exact Rat.natCast_inj.mp e
def hrow (x : Rat) : Poly → Poly
  | [] => []
  | a :: r => hrow x r ++ [peval (a :: r) x]
def hrv (x : Rat) (r : Poly) : Poly := (hrow x r).reverse
theorem hrow_len (x : Rat) : ∀ r : Poly, (hrow x r).length = r.length
  | [] => rfl
  | a :: r => by
    show (hrow x r ++ [_]).length = _
    rw [List.length_append, hrow_len x r]
    rfl
theorem hrv_len (x : Rat) (r : Poly) : (hrv x r).length = r.length := by
  unfold hrv
  rw [List.length_reverse, hrow_len]
theorem hrv_cons (x b : Rat) (s : Poly) : hrv x (b :: s) = peval (b :: s) x :: hrv x s := by
  unfold hrv
  show (hrow x s ++ [_]).reverse = _
  rw [List.reverse_append]
  rfl
theorem hrv_ev (x y : Rat) : ∀ (a : Rat) (r : Poly), peval (a :: r) y = peval (hrv x r) y * (y - x) + peval (a :: r) x
  | a, [] => by
    show (0 : Rat) * y + a = 0 * (y - x) + (0 * x + a)
    grind
  | a, b :: s => by
    have ih := hrv_ev x y b s
    rw [hrv_cons]
    show peval (b :: s) y * y + a = (peval (hrv x s) y * y + peval (b :: s) x) * (y - x) + (peval (b :: s) x * x + a)
    rw [ih]
    grind
def arF (x : Rat) : Nat → Poly → Poly
  | 0, _ => []
  | _ + 1, [] => []
  | n + 1, a :: r => peval (a :: r) x :: arF x n (trim (hrv x r))
theorem arF_nil (x : Rat) : ∀ n, arF x n [] = []
  | 0 => rfl
  | _ + 1 => rfl
theorem arF_ev (x z : Rat) : ∀ (n : Nat) (p : Poly), p.length ≤ n → peval (arF x n p) z = peval p (z + x)
  | 0, [], _ => rfl
  | 0, _ :: _, h => by simp at h
  | _ + 1, [], _ => rfl
  | n + 1, a :: r, h => by
    have hl : (trim (hrv x r)).length ≤ n := Nat.le_trans (trim_len _) (by rw [hrv_len]; simpa using h)
    have ih := arF_ev x z n _ hl
    show peval (arF x n (trim (hrv x r))) z * z + peval (a :: r) x = _
    rw [ih, peval_trim, hrv_ev x (z + x) a r]
    grind
theorem arF_pcomp (x : Rat) (p : Poly) : trim (arF x p.length p) = pcomp p [x, 1] := by
  have : (⟨trim (arF x p.length p), own_trim _⟩ : QX) = ⟨pcomp p [x, 1], own_pcomp _ _⟩ := qx_ev_ext fun z => by
    show peval (trim _) z = peval (pcomp p [x, 1]) z
    rw [peval_trim, arF_ev x z _ p (Nat.le_refl _), peval_pcomp]
    have : peval [x, 1] z = z + x := by
      show (0 * z + 1) * z + x = z + x
      grind
    rw [this]
  exact congrArg QX.p this
theorem pcomp_back (x : Rat) {p : Poly} (h : Own p) : pcomp (pcomp p [x, 1]) [-x, 1] = p := by
  have : (⟨pcomp (pcomp p [x, 1]) [-x, 1], own_pcomp _ _⟩ : QX) = ⟨p, h⟩ := qx_ev_ext fun z => by
    show peval (pcomp _ _) z = peval p z
    rw [peval_pcomp, peval_pcomp]
    congr 1
    show (0 * ((0 * z + 1) * z + -x) + 1) * ((0 * z + 1) * z + -x) + x = z
    grind
  exact congrArg QX.p this
theorem rz_hrow {x : Rat} {n m : Nat} (hx : Rz m x) : ∀ {r : Poly} {L : Nat}, PZ n r → r.length ≤ L → PZ (1 + L * (n + m + 1)) (hrow x r)
  | [], _, _, _ => pz_nil
  | a :: r, L, h, hl => fun q hq => by
    rcases List.mem_append.mp hq with z | z
    · exact rz_hrow hx (fun b hb => h b (List.mem_cons_of_mem _ hb)) (by rw [List.length_cons] at hl; omega) q z
    · rw [List.mem_singleton.mp z]
      exact (rz_peval h hx).mono (Nat.add_le_add_left (Nat.mul_le_mul_right _ hl) _)
theorem hrow_last (x : Rat) {p : Poly} (h : p ≠ []) : (hrow x p).getLast? = some (peval p x) ∧ (hrow x p).dropLast = hrow x p.tail := by
  cases p with
  | nil => exact absurd rfl h
  | cons a r =>
    constructor
    · show (hrow x r ++ [_]).getLast? = _
      rw [List.getLast?_append]
      rfl
    · show (hrow x r ++ [_]).dropLast = _
      rw [List.dropLast_concat]
      rfl
end An

/-! A comprehension whose first element raises. -/
namespace An
open PySem PySem.Spec PyProof.Rows L2
/-- the block of a comprehension, exceptions going on in the def around -/
abbrev blkX (X : Cx) (s : Shared) (H : Hp) (scope : Scope) (ce : Env) (fp : List Addr) : Cx := { X.blk s H scope ce fp with xe := notedBy (model X.prog X.w) X.A ce (CompFails (model X.prog X.w) X.A X.xe ce) }
theorem inv_blkX {X : Cx} {s s' : Shared} {H H' : Hp} {scope : Scope} {ce : Env} {fp : List Addr} {pins : List (Addr × Obj)} {σ : L2.St} (I : Inv (X.blk s H scope ce fp) pins σ H' s') : Inv (blkX X s H scope ce fp) pins σ H' s' :=
  ⟨⟨I.ok.mod, I.ok.kind, I.ok.glob, I.ok.blt, I.ok.above, I.ok.inj, I.ok.has, I.ok.cab, I.ok.hd, I.ok.frames, I.ok.stk, I.ok.exf, I.ok.bs, I.ok.bsz, I.ok.noex, I.ok.exfs, I.ok.funs, I.ok.frf⟩, I.os, I.bare, I.base, I.loc, I.cell, I.free, I.freeC, I.pin, I.hok, I.len⟩
theorem funs_at {base h h' : Heap} : ∀ {l : List Env}, h.FunFrames base l → (∀ L ∈ frs l, ∀ o, h.get? L = some o → h'.get? L = some o) → h'.FunFrames base l
  | [], _, _ => trivial
  | env :: l, h, hn => by
    obtain ⟨hk, ⟨L, o, hf, hb, ho, hd⟩, hr⟩ := h
    exact ⟨hk, ⟨L, o, hf, hb, hn L (List.mem_filterMap.mpr ⟨env, List.mem_cons_self, hf⟩) o ho, hd⟩, funs_at hr fun b hb => by
      obtain ⟨e, he, q⟩ := List.mem_filterMap.mp hb
      exact hn b (List.mem_filterMap.mpr ⟨e, List.mem_cons_of_mem _ he, q⟩)⟩
theorem comp_fails {X : Cx} {pins pb : List (Addr × Obj)} {σ σb : L2.St} {H3 H : Hp} {s3 s s' : Shared} {scope : Scope} {ce : Env} {fp : List Addr} {W : XK} {u : Value} (hs : X.stack = X.env :: X.outer) (hf : X.env.frame = some X.env.locals) (hce : ce.frame = X.env.frame)
    (hn : ∀ e, noteFrame e ce = noteFrame e X.env) (I3 : Inv X pins σ H3 s3) (f3 : ∀ b ∈ fp, FpOk X pins H3 b) (hC : s3.heap.objs.size ≤ ce.locals) (tk : L2N.Takes X (fun c d _ H' => W c d H')) (Ib : Inv (blkX X s3 H3 scope ce fp) pb σb H s)
    (c : L2N.CX X.prog X.w X.stack H s W u s') : notedBy (model X.prog X.w) X.A ce (CompFails (model X.prog X.w) X.A X.xe ce) u s' := by
  obtain ⟨a, B, H', cls, d, rfl, fl, hok, ub, na, os, ag, hE⟩ := c
  have hfr : X.A.frames = some (X.env :: X.outer) := by rw [I3.ok.frames, hs]
  have hCfree : H ce.locals = none := Ib.free
  have hCs : H3 ce.locals = none := I3.hok.fresh hC
  have hfp : FpOk X pins H3 ce.locals := I3.fpOk hC hCs
  have frsX : frs X.stack = X.env.locals :: X.fs := by
    rw [hs]
    show (X.env :: X.outer).filterMap (·.frame) = _
    rw [List.filterMap_cons, hf]
    rfl
  have hCn : ce.locals ∉ frs X.stack := fun z => by
    rw [frsX] at z
    rcases List.mem_cons.mp z with z | z
    · exact hfp.2.1 z
    · exact hfp.2.2.1 z
  obtain ⟨m, ⟨oC, es, ep, ho, hdC, hk, hnm⟩, _⟩ := Ib.loc
  have ho : s.heap.get? ce.locals = some oC := ho
  have hBC : B.get? ce.locals = some oC := ub.keep _ _ ho hCfree hCn
  have hC' : H' ce.locals = none := ub.free _ _ ho hCfree
  show wpAny _ _ (noteFrame (.ref a) ce) _ _ s'
  rw [hn]
  have fl' := fl
  rw [hs] at fl'
  refine PXN.looks_onZ L2N.Zn.steady hfr hf fl' fun h1 hh up1 => ?_
  obtain ⟨hB, hne, hfun, oe, vs, T, oT, ts, t1, t2, t3, t4, t5, t6, t7, t8, t9⟩ := hh
  refine ⟨m, ⟨oC, es, ep, hB _ _ hBC, hdC, hk, hnm⟩, fun h2 m2 hn2 sb => ?_⟩
  have haC : a ≠ ce.locals := fun z => by rw [z, hBC] at hne; cases hne
  have hTC : T ≠ ce.locals := fun z => by rw [z, hBC] at t5; cases t5
  have sb2 : ∀ b, b ≠ ce.locals → h2.get? b = h1.get? b := fun b hb => sb.2 b hb
  have e2 : h2.get? a = some oe := (sb2 a haC).trans t1
  have T2 : h2.get? T = some oT := (sb2 T hTC).trans t7
  obtain ⟨oC2, _, _, ho2, _⟩ := hn2
  obtain ⟨B2, g1, g2⟩ := restrict h2 fun b => (B.get? b).isSome
  have dom2 : ∀ b, B.get? b = none → B2.get? b = none := fun b e => g2 b (by rw [e]; rfl)
  have in2 : ∀ b o, B.get? b = some o → B2.get? b = h2.get? b := fun b o e => g1 b (by rw [e]; rfl)
  have st2 : B2.StaysIn h2 := fun b o e => by
    cases q : B.get? b with
    | none => rw [dom2 b q] at e; cases e
    | some o' => rw [← in2 b o' q]; exact e
  have old2 : ∀ b o, b ≠ ce.locals → B.get? b = some o → B2.get? b = some o := fun b o hb e => by
    rw [in2 b o e, sb2 b hb]
    exact hB b o e
  have frn : ∀ L ∈ frs (X.env :: X.outer), L ≠ ce.locals := fun L hL z => hCn (by rw [hs]; rw [← z]; exact hL)
  have fun2 : h2.FunFrames B2 (X.env :: X.outer) := funFrames_none (funs_at hfun fun L hL o e => (sb2 L (frn L hL)).trans e) fun L hL => dom2 L (hfun.mem hL).1
  unfold PySem.passOn
  refine wpAny_bind (wpAny_field e2 t3 t4 ?_)
  have nn : ¬ ((Value.ref T == Value.none) = true) := by simp
  simp only [nn, if_false]
  refine wpAny_bind ?_
  rw [hce, hf]
  refine HandSPX.setFlight_anyZ (base := B2) (Z := L2N.Zn cls d) st2 fun2 ⟨oe, vs, T, oT, ts, e2, t2, t3, t4, dom2 T t5, t6, T2, t8, t9⟩ fun h3 st3 fun3 tr3 up3 => ?_
  refine wpAny_throw (tk _ _ ?_)
  obtain ⟨G3, q1, q2⟩ := restrict h3 fun b => (B2.get? b).isSome || decide (b ∈ frs X.stack)
  have gB : ∀ b o, B2.get? b = some o → G3.get? b = some o := fun b o e => by
    rw [q1 b (by simp [e])]
    exact st3 b o e
  have gF : ∀ b, b ∈ frs X.stack → G3.get? b = h3.get? b := fun b hb => q1 b (by simp [hb])
  have og : ∀ b o, G3.get? b = some o → h3.get? b = some o ∧ ((B2.get? b).isSome = true ∨ b ∈ frs X.stack) := fun b o e => by
    cases q : ((B2.get? b).isSome || decide (b ∈ frs X.stack)) with
    | false => rw [q2 b q] at e; cases e
    | true =>
      rw [q1 b q] at e
      exact ⟨e, by simpa [Bool.or_eq_true] using q⟩
  have UI : Un (frs X.stack) fp H3 H s3.heap s.heap := Ib.base
  have slots : ∀ b o, s3.heap.get? b = some o → H3 b = none → b ∈ frs X.stack → b ∉ fp → ∃ sl, G3.get? b = some { o with slots := sl } := fun b o e n hb hx => by
    obtain ⟨_, o', e', hnf⟩ := I3.stack.mem hb
    rw [e] at e'
    cases e'
    obtain ⟨sl, r1⟩ := UI.slot b o e n hb hx
    obtain ⟨sl2, r2⟩ := ub.slot b _ r1 hb
    obtain ⟨sl3, r3⟩ := up1 b _ r2 hnf
    have r4 : h2.get? b = _ := (sb2 b (fun z => hCn (z ▸ hb))).trans r3
    obtain ⟨sl4, r5⟩ := up3 b _ r4 hnf
    exact ⟨sl4, by rw [gF b hb]; exact r5⟩
  have frfp : ∀ b ∈ frs X.stack, b ∉ fp := fun b hb hx => by
    rw [frsX] at hb
    rcases List.mem_cons.mp hb with z | z
    · exact (f3 b hx).2.1 z
    · exact (f3 b hx).2.2.1 z
  have frnone : ∀ b ∈ frs X.stack, H3 b = none := fun b hb => I3.stkFree b hb
  have hokG : HOk X.prog X.w H' G3 := fun b o e => (hok b o e).stay (fun b' v hb' r => gB b' v (old2 b' v (fun z => by
    rcases hb' with q | q
    · rw [← q, z, hC'] at e; cases e
    · rw [z, hC'] at q; cases q) r)) (fun _ r => r) fun _ _ r => r
  have J : Inv X pins σ H' { s3 with heap := G3, gens := s'.gens, drawn := s'.drawn, toks := s'.toks } := by
    refine I3.call (ch := ce.locals :: fp) (g' := s'.gens) (t' := s'.toks) (d' := s'.drawn) ⟨fun b o e n hb hx => ?_, fun b o e n hb hx => slots b o e n hb (fun z => hx (List.mem_cons_of_mem _ z)), fun b o e n hx => ?_, fun b o e hx => ?_, fun b xs e => ub.tups b xs (UI.tups b xs e), fun b o xs e => ub.frzs b o xs (UI.frzs b o xs e), fun b ps e => ?_⟩ hokG ag (fun b hb => ?_)
    · have hb1 : b ≠ ce.locals := fun z => hx (by rw [z]; exact List.mem_cons_self)
      have r1 := UI.keep b o e n hb (fun z => hx (List.mem_cons_of_mem _ z))
      have r2 := UI.free b o e n (fun z => hx (List.mem_cons_of_mem _ z))
      exact gB b o (old2 b o hb1 (ub.keep b o r1 r2 hb))
    · have hx' : b ∉ fp := fun z => hx (List.mem_cons_of_mem _ z)
      have r2 := UI.free b o e n hx'
      obtain ⟨sl, r1⟩ := UI.any e n hx'
      exact ub.free b _ r1 r2
    · have hx' : b ∉ fp := fun z => hx (List.mem_cons_of_mem _ z)
      by_cases hb : b ∈ frs X.stack
      · obtain ⟨sl, r⟩ := slots b o e (frnone b hb) hb hx'
        exact ⟨_, r⟩
      · obtain ⟨o', r⟩ := UI.there b o e hx'
        obtain ⟨o2, r2⟩ := ub.there b o' r hb
        exact ⟨o2, gB b o2 (old2 b o2 (fun z => hx (by rw [z]; exact List.mem_cons_self)) r2)⟩
    · obtain ⟨more, r⟩ := UI.tbls b ps e
      obtain ⟨more2, r2⟩ := ub.tbls b _ r
      exact ⟨more ++ more2, by rw [r2, Array.append_assoc]⟩
    · rcases List.mem_cons.mp hb with z | z
      · rw [z]
        exact ⟨hfp.2.2.2.1, hfp.2.1, hfp.2.2.2.2.1, hfp.2.2.2.2.2⟩
      · exact ⟨(f3 b z).2.2.2.1, (f3 b z).2.1, (f3 b z).2.2.2.2.1, (f3 b z).2.2.2.2.2⟩
  refine ⟨a, B2, _, pins, σ, H', cls, d, rfl, J, fun b o e hb => ?_, Heap.UpToSlots.of_keeps fun b o e => (og b o e).1, .inr (.inr ?_), na, ?_, ag, hE⟩
  · obtain ⟨e', h⟩ := og b o e
    rcases h with h | h
    · obtain ⟨o', q⟩ := Option.isSome_iff_exists.mp h
      have z := st3 b o' q
      rw [e'] at z
      cases z
      exact q
    · exact absurd h hb
  · rw [hs]
    exact ⟨st3, dom2 a hne, fun3, tr3⟩
  · exact os.trans Ib.os
/-- where a block stands -/
structure BlkAt (X : Cx) (s : Shared) (H : Hp) (C : Addr) (fp : List Addr) : Prop where
  ex : ∃ pins σ, Inv X pins σ H s ∧ ∀ b ∈ fp, FpOk X pins H b
  new : s.heap.objs.size ≤ C
def tLcX (wi : TI) (g : TG) (te : TE) (vs : List Nat) : TE := fun σ H _ => wi σ H fun J H1 => ∀ D, H1 D = none → J.go 0 (upd H1 D (.lst [])) ∧ ∀ x H', J.yld 0 (upd H1 D (.lst [])) x H' → g x (wipe σ vs) H' fun σ2 H2 => te σ2 H2 fun _ _ => False
theorem pe_lcX {X : Cx} {elt tg iter : Expr} {scope : Scope} {own : List (Str × Nat)} {pos : Pos} {wi : TI} {g : TG} {te : TE} (hc : X.calm = true) (hN : X.N.Nodup) (hi : PI X tg iter wi) (ok : BlkOk X.N X.env.scope scope own)
    (hg : ∀ (s : Shared) (H : Hp) (C : Addr) (cl : List (Str × Addr)) (fp : List Addr), PG (blkX X s H scope (compEnvC scope cl C X.env) fp) tg g)
    (he : ∀ (s : Shared) (H : Hp) (C : Addr) (cl : List (Str × Addr)) (fp : List Addr), BlkAt X s H C fp → PE (blkX X s H scope (compEnvC scope cl C X.env) fp) elt te) (hs : ∀ x, foldedSetIterable iter X.env x = pure x := by intro _; rfl) :
    PE X (.ListComp elt [⟨tg, iter, [], 0⟩] scope pos) (tLcX wi g te (own.map (·.2))) := by
  refine ⟨fun pins s σ H Q I h => ?_⟩
  rw [eval_ListComp]
  have hfree : ∀ y ∈ scope.names, y.2 = .free → ∃ c, X.env.cells.lookup y.1 = some c := fun y hy e => by
    rcases ok.free y hy e with k | k
    · exact I.ok.has _ (.inl k)
    · exact I.ok.has _ (.inr k)
  refine comprehension_at (use := none) rfl hs (closure_ok hfree) ok.kind (fun y hy e => by rw [ok.uniq y hy, e])
    (thn (hi.run pins s σ H _ I h) fun xv s1 hx => thn hx fun itv s2 h2 => ?_)
  obtain ⟨it, fp, tn, J, H2, e, I2, T, st2, f2, q⟩ := h2
  subst e
  refine wpAny_newObj_type (newEnv_comp ?_) (by show 0 ≤ sizeLine; decide)
  generalize hD : s2.heap.objs.size = D
  have hDn : H2 D = none := I2.hok.fresh (Nat.le_of_eq hD)
  obtain ⟨go, step⟩ := q D hDn
  generalize hs3 : ({ s2 with heap := s2.heap.push { cls := .type "list", data := .seq ([] : List Value).toArray } } : Shared) = s3
  have I3 : Inv X pins σ (upd H2 D (.lst [])) s3 := by
    rw [← hs3]
    refine I2.laid (t' := s2.toks) (fun b o e => Heap.get?_push_of_some _ e) (Nat.le_of_eq hD) ⟨Nat.zero_le _, [], 0, .nil, ?_⟩
    rw [← hD]
    exact Heap.get?_push_size _ rfl
  have h3 : s3.heap = s2.heap.push { cls := .type "list", data := .seq ([] : List Value).toArray } := by rw [← hs3]
  have sz : ∀ b ∈ fp, b < s2.heap.objs.size := fun b hb => by
    obtain ⟨o, e, _⟩ := T.obj _ _ st2 b hb
    exact Heap.lt_size e
  have f3 : ∀ b ∈ fp, FpOk X pins (upd H2 D (.lst [])) b ∧ b < s3.heap.objs.size := fun b hb => by
    have hlt := sz b hb
    refine ⟨⟨?_, (f2 b hb).2⟩, by rw [h3, Heap.size_push]; exact Nat.lt_succ_of_lt hlt⟩
    rw [upd_ne (by rw [← hD]; exact Nat.ne_of_lt hlt)]
    exact (f2 b hb).1
  have st3 : tn 0 s3.heap := T.keep _ _ _ st2 fun b _ o e => by rw [h3]; exact Heap.get?_push_of_some _ e
  have I4 := inv_blkX (block_start I3 ok hN f3)
  have pg := hg s3 (upd H2 D (.lst [])) s3.heap.objs.size (cellsFrom (s3.heap.objs.size + 1) scope.names (cloFrom X.env.cells scope.names [])) fp
  have pe := he s3 (upd H2 D (.lst [])) s3.heap.objs.size (cellsFrom (s3.heap.objs.size + 1) scope.names (cloFrom X.env.cells scope.names [])) fp ⟨⟨pins, σ, I3, fun b hb => (f3 b hb).1⟩, Nat.le_refl _⟩
  show codeAny _ _ (.compStart (.ListComp elt [⟨tg, iter, [], 0⟩] scope pos) 0 (.ref it) (.ref D) (compEnvC scope (cellsFrom (s3.heap.objs.size + 1) scope.names (cloFrom X.env.cells scope.names [])) s3.heap.objs.size X.env)) (compEnds (model X.prog X.w) X.A X.xe none (EP X pins σ Q) (.ref D) (compEnvC scope (cellsFrom (s3.heap.objs.size + 1) scope.names (cloFrom X.env.cells scope.names [])) s3.heap.objs.size X.env)) { s3 with heap := pushCells (s3.heap.push { cls := .type "dict", data := .dict #[] }) scope.names }
  have nfp : ∀ b ∈ fp, (upd H2 D (.lst [])) b = none := fun b hb => (f3 b hb).1.1
  generalize hce : compEnvC scope (cellsFrom (s3.heap.objs.size + 1) scope.names (cloFrom X.env.cells scope.names [])) s3.heap.objs.size X.env = ce at I4 pg pe ⊢
  generalize hH3 : upd H2 D (.lst []) = H3 at I3 I4 pg pe go step nfp f3
  generalize hs4 : ({ s3 with heap := pushCells (s3.heap.push { cls := .type "dict", data := .dict #[] }) scope.names } : Shared) = s4 at I4 ⊢
  have st4 : tn 0 s4.heap := T.keep _ _ _ st3 fun b _ o e => by rw [← hs4]; exact pushCells_keeps _ _ _ _ (Heap.get?_push_of_some _ e)
  have stat : ∀ {σ' : L2.St} {H' : Hp} {s' : Shared}, Inv (blkX X s3 H3 scope ce fp) [] σ' H' s' → (∀ b ∈ fp, H' b = none) → ∀ b ∈ fp, FpOk (blkX X s3 H3 scope ce fp) [] H' b := fun {σ' H' s'} I' hn b hb =>
    ⟨hn b hb, (I'.ok.exf b hb).1, I'.ok.exfs b hb, .inl hb, fun x c e => (I'.ok.exf b hb).2 x c e, fun p hp => absurd (show p ∈ ([] : List (Addr × Obj)) ++ [] from hp) (by simp)⟩
  have loop : codeAny (model X.prog X.w) X.A (.compLoop (.ListComp elt [⟨tg, iter, [], 0⟩] scope pos) 0 (.ref it) (.ref D) ce) (compEnds (model X.prog X.w) X.A X.xe none (EP X pins σ Q) (.ref D) ce) s4 := by
    refine compLoop_any (fun n s' => s' = s4) ?_ 0 rfl
    rintro n s5 rfl
    have ti := T.item (blkX X s3 H3 scope ce fp) rfl rfl rfl hc 0 [] s5 _ H3 (fun _ _ => False) I4 (stat I4 nfp) st4 go
    refine thnF ti fun r s6 ⟨u, hr, h6⟩ => ?_
    subst hr
    refine thnF h6 fun _ s7 ⟨x, H7, I7, r7, y7, st7, n7⟩ => ?_
    have I7' := I7.pinned (stat I7 n7) (T.obj _ _ st7)
    refine wpAny_mono (pg.run _ s7 _ H7 x u _ I7' r7 (step x H7 y7)) (fun _ s8 ⟨σ8, H8, I8, q8⟩ => ?_) (fun e s e1 => e1)
    refine wpAny_tests_nil ?_
    simp only [if_true]
    exact wpAny_mono (pe.run _ s8 σ8 H8 _ I8 q8) (fun z s10 ⟨yv, H10, I10, r10, hF⟩ => hF.elim) (fun e s e1 => e1)
  exact codeAny_compStart_list loop (T.self X.A 0 _ _ _ st4 loop)
/-! ### rules by data -/
/-- e raises c, where what is raised goes on -/
def EXp (R : Hp → Hp → Prop) (X : Cx) (γ : List Sl) (e : Expr) (c : Value) : Prop :=
  ∀ (H0 : Hp) (S0 : Addr → Prop) (σ : L2.St) (H : Hp) (Q : VK) (W : XK), SI R X.K H0 S0 γ σ H → Passes (L2N.CX X.prog X.w) X W → (∀ H2, R H H2 → W c none H2) → we X e σ H Q
section
variable {R : Hp → Hp → Prop} [RelC R] {X : Cx} {γ : List Sl} {pos : Pos} {P : Po}
theorem exp_call {x : Str} {k n : Nat} {Val : List D → D → Prop} {Exc : List D → Value → Prop} {e : Expr} {es : List Expr} {p : Pos} {ds : List D} {c : Value} (F : Fn X.prog X.w X.K X.mg X.base x k n Val Exc) (hr : Room k X.A) (ha : EA R X γ (e :: es) ds) (hv : Exc ds c) (hn : ds.length = n := by rfl) (hg : Gl X x := by rfl)
    (hdb : (x == ("__debug__" : Str)) = false := by decide) (he : starEach (e :: es) X.env = (false, eval e X.env) :: starEach es X.env := by rfl) (hpl : (backTo pos (starEach es X.env)).any (·.1) = false := by rfl) :
    EXp R X γ (.Call (.Name x p) (e :: es) [] pos) c := fun H0 S0 σ H Q W s tk z => by
  obtain ⟨f, fd, ps, h1, h2, h3, h4⟩ := F.ok
  refine we_of (pe_call (E := W) h1 hr hg h2 h3 h4 .nil tk pa_wa hdb he hpl) (ha H0 S0 σ H _ s fun vs H1 r1 d1 => ?_)
  rw [List.append_nil]
  exact ⟨by rw [dps_len d1]; exact hn, Sx S0 γ σ, ds, sx_dom (s.mono r1), d1, .inr ⟨c, hv, fun H2 sm => z H2 (Rel.more r1 sm)⟩⟩
/-- (a, b): b raises -/
theorem exp_pair {a b : Expr} {x1} {d : D} {c : Value} (ha : EE R X γ a d) (hb : EXp R X γ b c) (hs : starEach [a, b] X.env = (false, eval a X.env) :: starEach [b] X.env := by rfl) (hs2 : starEach [b] X.env = (false, eval b X.env) :: starEach [] X.env := by rfl) : EXp R X γ (.Tuple [a, b] x1 pos) c := fun H0 S0 σ H Q W s tk z =>
  we_of (pe_tup pa_wa) (wa_of (pa_cons pe_we (pa_cons pe_we pa_nil hs2) hs) (ha H0 S0 σ H _ s fun v H1 r1 d1 => hb H0 S0 σ H1 _ W (s.mono r1) tk fun H2 r2 => z H2 (Rel.trans r1 r2)))
/-- x.extend([elt for a, b in iter]): the first element raises -/
theorem s1_extendX (i ja jb : Nat) {x a b : Str} {elt iter : Expr} {scope : Scope} {ds : List D} {d1 d2 : D} {rest : List D} {c : Value} {p apos cpos lpos p1 p2 tp : Pos} {kk : Nat} (hs : X.stack = X.env :: X.outer) (hf : X.env.frame = some X.env.locals) (hc : X.calm = true) (hN : X.N.Nodup) (hab : ja ≠ jb)
    (hit : EI R X γ (.Tuple [.Name a p1, .Name b p2] kk tp) iter (.tuple [d1, d2] :: rest)) (ok : BlkOk X.N X.env.scope scope [(a, ja), (b, jb)])
    (hg : ∀ (s : Shared) (H : Hp) (C : Addr) (cl : List (Str × Addr)) (fp : List Addr), PG (blkX X s H scope (compEnvC scope cl C X.env) fp) (.Tuple [.Name a p1, .Name b p2] kk tp) (gTup X.K 2 (gCons (gName ja) (gCons (gName jb) gNil))))
    (ho1 : ∀ es, γ[ja]? ≠ some (.own es)) (ho2 : ∀ es, γ[jb]? ≠ some (.own es))
    (ht : ∀ (s : Shared) (H : Hp) (C : Addr) (cl : List (Str × Addr)) (fp : List Addr), EXp R (blkX X s H scope (compEnvC scope cl C X.env) fp) ((γ.set ja (.dat d1)).set jb (.dat d2)) elt c) (h : P.rz c)
    (hi : γ[i]? = some (.own (.l ds)) := by rfl) (hNi : X.N[i]? = some x := by rfl)
    (hv : Vis X.env.scope x := by first | exact Or.inl rfl | exact Or.inr (Or.inl rfl) | exact Or.inr (Or.inr rfl)) (hd : (x == ("__debug__" : Str)) = false := by decide) (hcd : (x == ("__classdict__" : Str)) = false := by decide)
    (hbase : attributeBase (.Name x p) "extend" X.env (eval (.Name x p) X.env) = eval (.Name x p) X.env := by rfl)
    (hfew : ((backTo cpos (starEach [.ListComp elt [⟨.Tuple [.Name a p1, .Name b p2] kk tp, iter, [], 0⟩] scope lpos] X.env)).all (fun x => !x.1) && (backToKw cpos (keywordEach [] X.env)).all (fun x => x.1.isSome) && decide (([.ListComp elt [⟨.Tuple [.Name a p1, .Name b p2] kk tp, iter, [], 0⟩] scope lpos] : List Expr).length + ([] : List Keyword).length + (if ([] : List Keyword).isEmpty then 0 else 1) < 30)) = true := by rfl)
    (hline : (apos.endLine == cpos.line) = true := by rfl) (hst : starEach [.ListComp elt [⟨.Tuple [.Name a p1, .Name b p2] kk tp, iter, [], 0⟩] scope lpos] X.env = (false, eval (.ListComp elt [⟨.Tuple [.Name a p1, .Name b p2] kk tp, iter, [], 0⟩] scope lpos) X.env) :: starEach [] X.env := by rfl) (hplain : (backTo cpos (starEach [] X.env)).any (·.1) = false := by rfl)
    (hsw : swapsWith (.Call (.Attribute (.Name x p) "extend" apos) [.ListComp elt [⟨.Tuple [.Name a p1, .Name b p2] kk tp, iter, [], 0⟩] scope lpos] [] cpos) none pos.line X.env = pure false := by rfl) (hfs : ∀ x, foldedSetIterable iter X.env x = pure x := by intro _; rfl) :
    S1 R X γ (.Expr (.Call (.Attribute (.Name x p) "extend" apos) [.ListComp elt [⟨.Tuple [.Name a p1, .Name b p2] kk tp, iter, [], 0⟩] scope lpos] [] cpos) pos) P := fun H0 S0 σ H E W s tk n r bk ct z => by
  obtain ⟨wi, hpi, hwi⟩ := hit
  obtain ⟨l, vs, h1, _, h3, _⟩ := s.own i ds hi
  have pel : ∀ (s : Shared) (H : Hp) (C : Addr) (cl : List (Str × Addr)) (fp : List Addr), BlkAt X s H C fp → PE (blkX X s H scope (compEnvC scope cl C X.env) fp) elt (fun σ' H' Q' => ∀ (s : Shared) (H : Hp) (C : Addr) (cl : List (Str × Addr)) (fp : List Addr), BlkAt X s H C fp → we (blkX X s H scope (compEnvC scope cl C X.env) fp) elt σ' H' Q') := fun s1 H1 C cl fp hB => ⟨fun pins s2 σ2 H2 Q2 I2 h2 => pe_we.run pins s2 σ2 H2 Q2 I2 (h2 s1 H1 C cl fp hB)⟩
  refine ws_of (ps_expr (pe_bm PySem.F.plainAttrs_list PySem.F.slot_list_extend PySem.F.type_list_extend mt_extend (pe_var hNi hv hd hcd) (pa_cons (pe_lcX hc hN hpi ok hg pel hfs) pa_nil hst) hbase hfew hline hst hplain) hsw) ⟨_, h1, .inl ⟨rfl, _, SqL.of h3⟩, hwi H0 S0 σ H _ s fun J H1 r1 itd D hD => ?_⟩
  have s1 := s.mono r1
  have kp : Keep (off (Sx S0 γ σ) H1) (off (fun a => a = D ∨ Sx S0 γ σ a) (upd H1 D (.lst []))) := fun a u e nn => by
    obtain ⟨g1, g2⟩ := off_some e
    have na : a ≠ D := ne_of_none g2 hD
    refine off_of (fun zz => ?_) (by rw [upd_ne na]; exact g2)
    rcases zz with zz | zz
    · exact na zz
    · exact g1 zz
  refine ⟨itd.go 0 _ _ kp (Nat.succ_pos _), fun x' H' hy => ?_⟩
  obtain ⟨sm, dx⟩ := itd.yld 0 _ _ x' H' (.tuple [d1, d2]) kp (fun a q => by
    rcases q with q | q
    · rw [q, upd_same]; exact fun w => nomatch w
    · have := s1.there q
      have na : a ≠ D := fun w => this (by rw [w]; exact hD)
      rw [upd_ne na]
      exact this) hy rfl
  have r2 : R H1 H' := Rel.more s1.ref (Same.trans (same_new hD) sm)
  have hDl2 : H' D = some (.lst []) := sm _ _ upd_same
  have sw := s1.wipe [ja, jb]
  have sa := sw.avoid r2 hD (by rw [hDl2]; exact fun q => nomatch q)
  have subs : ∀ a, Sx (fun a => a = D ∨ S0 a) (wipeS γ [ja, jb]) (L2.wipe σ [ja, jb]) a → a = D ∨ Sx S0 γ σ a := fun a zz => by
    rcases zz with (zz | zz) | zz
    · exact .inl zz
    · exact .inr (.inl zz)
    · have zz' : Sx S0 ((γ.set jb .no).set ja .no) ((σ.set jb none).set ja none) a := .inr zz
      exact .inr (sx_no (i := jb) (v := none) a (sx_no (i := ja) (v := none) a zz'))
  have dx' := dp_keep (off_keep (Keep.refl H') subs) _ _ dx
  cases dx' with
  | tup g1 g2 =>
    cases g2 with
    | cons e1 t1 =>
      cases t1 with
      | cons e2 t2 =>
        cases t2
        rename_i aT v1 v2
        refine ⟨_, _, rfl, sqt_keep off_in g1, rfl, _, _, rfl, _, _, rfl, rfl, fun s4 H4 C cl fp hB => ?_⟩
        have s5 := sa.putDD ja jb e1 e2
        have ew : ((wipeS γ [ja, jb]).set ja (.dat d1)).set jb (.dat d2) = (γ.set ja (.dat d1)).set jb (.dat d2) := by
          show ((((γ.set jb .no).set ja .no).set ja (.dat d1)).set jb (.dat d2)) = _
          rw [List.set_set, List.set_comm _ _ hab.symm, List.set_set]
        rw [ew] at s5
        refine ht s4 H4 C cl fp _ _ _ H' _ W s5 ?_ (fun H2 rr => z c H2 h (Rel.trans (Rel.trans s.rel (Rel.trans r1 r2)) rr))
        intro pins σ' H5 s5' e s6 I5 cx
        obtain ⟨⟨pins0, σ0, I0, f0⟩, hC⟩ := hB
        exact comp_fails hs hf rfl (fun _ => rfl) I0 f0 hC tk I5 cx
end
end An

/-! Sturm's count, over fractions alone: intervals are halved until all is plain. -/
namespace An
open PySem
/-! ### bounds -/
def Bd (e x : Rat) : Prop := -e ≤ x ∧ x ≤ e
theorem Bd.add {a b x y : Rat} (h : Bd a x) (k : Bd b y) : Bd (a + b) (x + y) := by
  unfold Bd at *
  grind
theorem Bd.mono {a b x : Rat} (h : Bd a x) (k : a ≤ b) : Bd b x := by
  unfold Bd at *
  grind
theorem Bd.neg {a x : Rat} (h : Bd a x) : Bd a (-x) := by
  unfold Bd at *
  grind
theorem Bd.nn {a x : Rat} (h : Bd a x) : 0 ≤ a := by
  unfold Bd at *
  grind
theorem Bd.mul {a b x y : Rat} (h : Bd a x) (k : Bd b y) : Bd (a * b) (x * y) := by
  have ha := h.nn
  have hb := k.nn
  obtain ⟨h1, h2⟩ := h
  obtain ⟨k1, k2⟩ := k
  have m : ∀ u v : Rat, 0 ≤ u → 0 ≤ v → 0 ≤ u * v := fun u v hu hv => Rat.mul_nonneg hu hv
  have e1 := m (a - x) (b - y) (by grind) (by grind)
  have e2 := m (a + x) (b + y) (by grind) (by grind)
  have e3 := m (a - x) (b + y) (by grind) (by grind)
  have e4 := m (a + x) (b - y) (by grind) (by grind)
  constructor <;> grind
theorem bd_self (x : Rat) : ∃ e, Bd e x := by
  by_cases h : 0 ≤ x
  · exact ⟨x, by unfold Bd; grind⟩
  · exact ⟨-x, by unfold Bd; grind⟩
/-- a function of one or two places that is bounded where these are -/
theorem peval_bd (R : Rat) : ∀ p : Poly, ∃ B, ∀ x, Bd R x → Bd B (peval p x)
  | [] => ⟨0, fun x _ => by show Bd 0 0; unfold Bd; grind⟩
  | a :: r => by
    obtain ⟨B, h⟩ := peval_bd R r
    obtain ⟨e, he⟩ := bd_self a
    exact ⟨B * R + e, fun x hx => ((h x hx).mul hx).add he⟩
def dq (x y : Rat) : Poly → Rat
  | [] => 0
  | _ :: r => dq x y r * y + peval r x
theorem dq_eq (x y : Rat) : ∀ p : Poly, peval p y - peval p x = (y - x) * dq x y p
  | [] => by show (0 : Rat) - 0 = (y - x) * 0; grind
  | a :: r => by
    have ih := dq_eq x y r
    show (peval r y * y + a) - (peval r x * x + a) = (y - x) * (dq x y r * y + peval r x)
    grind
def d2 (x y : Rat) : Poly → Rat
  | [] => 0
  | _ :: r => d2 x y r * y + dq x x r
theorem d2_eq (x y : Rat) : ∀ p : Poly, dq x y p - dq x x p = (y - x) * d2 x y p
  | [] => by show (0 : Rat) - 0 = (y - x) * 0; grind
  | a :: r => by
    have ih := d2_eq x y r
    show (dq x y r * y + peval r x) - (dq x x r * x + peval r x) = (y - x) * (d2 x y r * y + dq x x r)
    grind
theorem dq_bd (R : Rat) : ∀ p : Poly, ∃ B, ∀ x y, Bd R x → Bd R y → Bd B (dq x y p)
  | [] => ⟨0, fun x y _ _ => by show Bd 0 0; unfold Bd; grind⟩
  | a :: r => by
    obtain ⟨B, h⟩ := dq_bd R r
    obtain ⟨C, k⟩ := peval_bd R r
    exact ⟨B * R + C, fun x y hx hy => ((h x y hx hy).mul hy).add (k x hx)⟩
theorem d2_bd (R : Rat) : ∀ p : Poly, ∃ B, ∀ x y, Bd R x → Bd R y → Bd B (d2 x y p)
  | [] => ⟨0, fun x y _ _ => by show Bd 0 0; unfold Bd; grind⟩
  | a :: r => by
    obtain ⟨B, h⟩ := d2_bd R r
    obtain ⟨C, k⟩ := dq_bd R r
    exact ⟨B * R + C, fun x y hx hy => ((h x y hx hy).mul hy).add (k x x hx hx)⟩
theorem ev_X (x : Rat) : QX.X.ev x = x := by
  show peval (trim [0, 1]) x = x
  rw [peval_trim]
  show (0 * x + 1) * x + 0 = x
  grind
theorem dq_der (x : Rat) : ∀ (p : Poly) (h : Own p), dq x x p = (⟨p, h⟩ : QX).der.ev x
  | [], h => by
    show (0 : Rat) = (⟨[], h⟩ : QX).der.ev x
    have : (⟨[], h⟩ : QX) = QX.C 0 := QX.ext' (by show [] = trim [0]; rfl)
    rw [this, der_C, ev_zero]
  | a :: r, h => by
    rw [cons_eq h, der_add, der_C, der_Xmul, ev_add, ev_add, ev_mul, ev_zero, ev_X, ← dq_der x r (own_cons h)]
    show dq x x r * x + peval r x = 0 + (peval r x + x * dq x x r)
    grind
/-! ### intervals that shrink -/
structure Nst (A B : Nat → Rat) : Prop where
  lt : ∀ n, A n < B n
  lo : ∀ n, A n ≤ A (n + 1)
  hi : ∀ n, B (n + 1) ≤ B n
  half : ∀ n, B (n + 1) - A (n + 1) = (B n - A n) / 2
def Ins (A B : Nat → Rat) (n : Nat) (x : Rat) : Prop := A n ≤ x ∧ x ≤ B n
theorem Nst.sub {A B : Nat → Rat} (h : Nst A B) {n : Nat} : ∀ {m : Nat}, n ≤ m → A n ≤ A m ∧ B m ≤ B n := fun {m} hm => by
  induction hm with
  | refl => exact ⟨Rat.le_refl, Rat.le_refl⟩
  | step _ ih => exact ⟨Rat.le_trans ih.1 (h.lo _), Rat.le_trans (h.hi _) ih.2⟩
theorem Nst.ins {A B : Nat → Rat} (h : Nst A B) {n m : Nat} (hm : n ≤ m) {x : Rat} (hx : Ins A B m x) : Ins A B n x := ⟨Rat.le_trans (h.sub hm).1 hx.1, Rat.le_trans hx.2 (h.sub hm).2⟩
theorem nat_gt (r : Rat) : ∃ n : Nat, r < (n : Rat) := by
  refine ⟨r.num.natAbs + 1, ?_⟩
  have h1 : r * ((r.den : Nat) : Rat) = (r.num : Rat) := by
    have := num_eq r
    rwa [Rat.intCast_natCast] at this
  have hd : (1 : Rat) ≤ ((r.den : Nat) : Rat) := by
    have : ((1 : Nat) : Rat) ≤ ((r.den : Nat) : Rat) := Rat.natCast_le_natCast.mpr r.den_pos
    exact this
  have h2 : (r.num : Rat) ≤ ((r.num.natAbs : Nat) : Rat) := by
    rw [← Rat.intCast_natCast]
    exact Rat.intCast_le_intCast.mpr (by omega)
  have h0 : (0 : Rat) ≤ ((r.num.natAbs : Nat) : Rat) := by
    have : ((0 : Nat) : Rat) ≤ ((r.num.natAbs : Nat) : Rat) := Rat.natCast_le_natCast.mpr (Nat.zero_le _)
    exact this
  have h3 : (((r.num.natAbs + 1 : Nat)) : Rat) = ((r.num.natAbs : Nat) : Rat) + 1 := by
    rw [Rat.natCast_add]
    rfl
  rw [h3]
  generalize ((r.num.natAbs : Nat) : Rat) = N at *
  generalize ((r.den : Nat) : Rat) = d at *
  by_cases hr : r < 0
  · grind
  · have := Rat.mul_nonneg (show (0 : Rat) ≤ r by grind) (show (0 : Rat) ≤ d - 1 by grind)
    grind
theorem pow_two_gt (n : Nat) : ((n : Nat) : Rat) < 2 ^ n := by
  induction n with
  | zero => rw [Rat.pow_zero]; decide
  | succ n ih =>
    rw [Rat.pow_succ, Rat.natCast_add]
    have h1 : (1 : Rat) ≤ 2 ^ n := by
      clear ih
      induction n with
      | zero => rw [Rat.pow_zero]; exact Rat.le_refl
      | succ n ih => rw [Rat.pow_succ]; grind
    have h2 : ((1 : Nat) : Rat) = 1 := rfl
    grind
theorem Nst.width {A B : Nat → Rat} (h : Nst A B) : ∀ n, (B n - A n) * 2 ^ n = B 0 - A 0
  | 0 => by rw [Rat.pow_zero]; grind
  | n + 1 => by
    rw [← h.width n, h.half n, Rat.pow_succ]
    grind
theorem Nst.small {A B : Nat → Rat} (h : Nst A B) {e : Rat} (he : 0 < e) : ∃ n, B n - A n < e := by
  obtain ⟨n, hn⟩ := nat_gt ((B 0 - A 0) / e)
  refine ⟨n, ?_⟩
  have h1 : (B 0 - A 0) / e < 2 ^ n := by
    have := pow_two_gt n
    grind
  rw [Rat.div_lt_iff he] at h1
  have h2 := h.width n
  have hp : (0 : Rat) < 2 ^ n := Rat.pow_pos (by decide)
  generalize (2 : Rat) ^ n = P at *
  by_cases z : B n - A n < e
  · exact z
  · have := Rat.mul_nonneg (show (0 : Rat) ≤ B n - A n - e by grind) (show (0 : Rat) ≤ P by grind)
    grind
theorem Nst.bd {A B : Nat → Rat} (h : Nst A B) : ∃ R, ∀ n x, Ins A B n x → Bd R x := by
  obtain ⟨a, ha⟩ := bd_self (A 0)
  obtain ⟨b, hb⟩ := bd_self (B 0)
  refine ⟨a + b, fun n x hx => ?_⟩
  have := h.ins (Nat.zero_le n) hx
  have := ha.nn
  have := hb.nn
  unfold Bd Ins at *
  grind
/-- what holds of two intervals side by side holds of both, and of all small ones: it holds of all -/
theorem bisect {P : Rat → Rat → Prop} (join : ∀ a m b, a < m → m < b → P a m → P m b → P a b) {a b : Rat} (hab : a < b) (loc : ∀ A B, Nst A B → A 0 = a → B 0 = b → ∃ n, P (A n) (B n)) : P a b := by
  refine Classical.byContradiction fun hn => ?_
  let T := { q : Rat × Rat // q.1 < q.2 ∧ ¬ P q.1 q.2 }
  have step : ∀ q : T, ∃ r : T, q.1.1 ≤ r.1.1 ∧ r.1.2 ≤ q.1.2 ∧ r.1.2 - r.1.1 = (q.1.2 - q.1.1) / 2 := fun ⟨⟨x, y⟩, hxy, hp⟩ => by
    have hxy : x < y := hxy
    have h1 : x < (x + y) / 2 := by grind
    have h2 : (x + y) / 2 < y := by grind
    by_cases z : P x ((x + y) / 2)
    · have z2 : ¬ P ((x + y) / 2) y := fun z2 => hp (join _ _ _ h1 h2 z z2)
      refine ⟨⟨((x + y) / 2, y), h2, z2⟩, ?_, ?_, ?_⟩
      · show x ≤ (x + y) / 2; grind
      · exact Rat.le_refl
      · show y - (x + y) / 2 = (y - x) / 2; grind
    · refine ⟨⟨(x, (x + y) / 2), h1, z⟩, ?_, ?_, ?_⟩
      · exact Rat.le_refl
      · show (x + y) / 2 ≤ y; grind
      · show (x + y) / 2 - x = (y - x) / 2; grind
  let f : Nat → T := fun n => Nat.rec ⟨(a, b), hab, hn⟩ (fun _ q => Classical.choose (step q)) n
  have hf : ∀ n, (f n).1.1 ≤ (f (n + 1)).1.1 ∧ (f (n + 1)).1.2 ≤ (f n).1.2 ∧ (f (n + 1)).1.2 - (f (n + 1)).1.1 = ((f n).1.2 - (f n).1.1) / 2 := fun n => Classical.choose_spec (step (f n))
  obtain ⟨n, hP⟩ := loc (fun n => (f n).1.1) (fun n => (f n).1.2) ⟨fun n => (f n).2.1, fun n => (hf n).1, fun n => (hf n).2.1, fun n => (hf n).2.2⟩ rfl rfl
  exact (f n).2.2 hP
theorem div_le {a b c : Rat} (hb : 0 < b) (h : a ≤ c * b) : a / b ≤ c := by
  by_cases z : c < a / b
  · rw [Rat.lt_div_iff hb] at z
    grind
  · grind
/-! ### near to where intervals shrink to -/
def Evn (A B : Nat → Rat) (Q : Rat → Prop) : Prop := ∃ n, ∀ x, Ins A B n x → Q x
theorem Evn.and {A B : Nat → Rat} {Q Q' : Rat → Prop} (h : Nst A B) (q : Evn A B Q) (q' : Evn A B Q') : Evn A B fun x => Q x ∧ Q' x := by
  obtain ⟨n, hn⟩ := q
  obtain ⟨m, hm⟩ := q'
  exact ⟨max n m, fun x hx => ⟨hn x (h.ins (Nat.le_max_left _ _) hx), hm x (h.ins (Nat.le_max_right _ _) hx)⟩⟩
theorem Evn.imp {A B : Nat → Rat} {Q Q' : Rat → Prop} (q : Evn A B Q) (k : ∀ x, Q x → Q' x) : Evn A B Q' := by
  obtain ⟨n, hn⟩ := q
  exact ⟨n, fun x hx => k x (hn x hx)⟩
def Sg (σ : Rat) : Prop := σ = 1 ∨ σ = -1
theorem Sg.neg {σ : Rat} (h : Sg σ) : Sg (-σ) := by
  rcases h with rfl | rfl
  · exact .inr rfl
  · exact .inl (by grind)
/-- keeps away from nought -/
def Awy (A B : Nat → Rat) (s : QX) (σ : Rat) : Prop := ∃ δ, 0 < δ ∧ Evn A B fun x => δ ≤ σ * s.ev x
/-- comes to nought -/
def Nul (A B : Nat → Rat) (s : QX) : Prop := ∀ e, 0 < e → Evn A B fun x => Bd e (s.ev x)
theorem Nst.smallK {A B : Nat → Rat} (h : Nst A B) {e K : Rat} (he : 0 < e) (hK : 0 ≤ K) : ∃ n, (B n - A n) * K < e := by
  have hp : 0 < K + 1 := by grind
  obtain ⟨n, hn⟩ := h.small (e := e / (K + 1)) (by rw [Rat.div_def]; exact Rat.mul_pos he (Rat.inv_pos.mpr hp))
  refine ⟨n, ?_⟩
  rw [Rat.lt_div_iff hp] at hn
  have := h.lt n
  grind
theorem dich {A B : Nat → Rat} (h : Nst A B) (s : QX) : (∃ σ, Sg σ ∧ Awy A B s σ) ∨ Nul A B s := by
  by_cases z : Nul A B s
  · exact .inr z
  left
  unfold Nul at z
  have z1 : ∃ e, 0 < e ∧ ∀ n, ∃ x, Ins A B n x ∧ ¬ Bd e (s.ev x) := by
    refine Classical.byContradiction fun y => z fun e he => Classical.byContradiction fun y2 => y ⟨e, he, fun n => Classical.byContradiction fun y3 => y2 ⟨n, fun x hx => Classical.byContradiction fun y4 => y3 ⟨x, hx, y4⟩⟩⟩
  obtain ⟨e, he, hx⟩ := z1
  obtain ⟨R, hR⟩ := h.bd
  obtain ⟨L, hL⟩ := dq_bd R s.p
  have hL0 : 0 ≤ L := (hL (A 0) (A 0) (hR 0 _ ⟨Rat.le_refl, Rat.le_of_lt (h.lt 0)⟩) (hR 0 _ ⟨Rat.le_refl, Rat.le_of_lt (h.lt 0)⟩)).nn
  obtain ⟨n, hn⟩ := h.smallK (e := e / 2) (by grind) hL0
  obtain ⟨x, hxi, hxe⟩ := hx n
  have near : ∀ y, Ins A B n y → Bd (e / 2) (s.ev y - s.ev x) := fun y hy => by
    have h1 := dq_eq x y s.p
    have h2 : Bd (B n - A n) (y - x) := by unfold Ins at *; unfold Bd; grind
    have h3 := h2.mul (hL x y (hR n x hxi) (hR n y hy))
    show Bd (e / 2) (peval s.p y - peval s.p x)
    rw [h1]
    exact h3.mono (Rat.le_of_lt hn)
  by_cases pos : e < s.ev x
  · refine ⟨1, .inl rfl, e / 2, by grind, n, fun y hy => ?_⟩
    have := near y hy
    unfold Bd at this
    grind
  · have neg : s.ev x < -e := by
      unfold Bd at hxe
      grind
    refine ⟨-1, .inr rfl, e / 2, by grind, n, fun y hy => ?_⟩
    have := near y hy
    unfold Bd at this
    grind
theorem nul_mul {A B : Nat → Rat} (h : Nst A B) {s : QX} (q : QX) (hs : Nul A B s) : Nul A B (q * s) := fun e he => by
  obtain ⟨R, hR⟩ := h.bd
  obtain ⟨L, hL⟩ := peval_bd R q.p
  have hL0 : 0 ≤ L := (hL (A 0) (hR 0 _ ⟨Rat.le_refl, Rat.le_of_lt (h.lt 0)⟩)).nn
  have hp : 0 < L + 1 := by grind
  obtain ⟨n, hn⟩ := hs (e / (L + 1)) (by rw [Rat.div_def]; exact Rat.mul_pos he (Rat.inv_pos.mpr hp))
  refine ⟨n, fun x hx => ?_⟩
  show Bd e ((q * s).ev x)
  rw [ev_mul]
  have h1 : Bd (L + 1) (q.ev x) := (hL x (hR n x hx)).mono (by grind)
  have h2 := h1.mul (hn x hx)
  have e1 : (L + 1) * (e / (L + 1)) = e := by rw [Rat.mul_comm, Rat.div_mul_cancel (by grind)]
  rw [e1] at h2
  exact h2
theorem nul_cop {A B : Nat → Rat} (h : Nst A B) {a b : QX} (hc : Cop a b) (ha : Nul A B a) (hb : Nul A B b) : False := by
  obtain ⟨u, v, e⟩ := hc
  obtain ⟨n, hn⟩ := (nul_mul h u ha (1 / 4) (by grind)).and h (nul_mul h v hb (1 / 4) (by grind))
  obtain ⟨h1, h2⟩ := hn (A n) ⟨Rat.le_refl, Rat.le_of_lt (h.lt n)⟩
  have h3 : (u * a + v * b).ev (A n) = 1 := by rw [e, ev_one]
  rw [ev_add] at h3
  unfold Bd at h1 h2
  grind
/-! ### changes of sign -/
def cnt : List Rat → Nat
  | a :: b :: r => (if decide (0 < a) = decide (0 < b) then 0 else 1) + cnt (b :: r)
  | _ => 0
def vr (l : List Rat) : Nat := cnt (l.filter fun a => decide (a ≠ 0))
theorem vr_one (a : Rat) : vr [a] = 0 := by
  unfold vr
  by_cases h : a = 0
  · subst h; rfl
  · rw [List.filter_cons, if_pos (decide_eq_true h)]
    rfl
theorem vr_zero (l : List Rat) : vr (0 :: l) = vr l := by
  unfold vr
  rw [List.filter_cons, if_neg (by simp)]
theorem vr_skip (a : Rat) (l : List Rat) : vr (a :: 0 :: l) = vr (a :: l) := by
  unfold vr
  by_cases h : a = 0
  · subst h
    simp
  · rw [List.filter_cons, if_pos (decide_eq_true h), List.filter_cons, if_neg (by simp), List.filter_cons, if_pos (decide_eq_true h)]
theorem vr_two {a b : Rat} (ha : a ≠ 0) (hb : b ≠ 0) (l : List Rat) : vr (a :: b :: l) = (if decide (0 < a) = decide (0 < b) then 0 else 1) + vr (b :: l) := by
  unfold vr
  rw [List.filter_cons, if_pos (decide_eq_true ha), List.filter_cons, if_pos (decide_eq_true hb)]
  rfl
inductive SCh : List QX → Prop
  | one {k : Rat} (hk : k ≠ 0) : SCh [QX.C k]
  | two {a : QX} {k : Rat} (hk : k ≠ 0) : SCh [a, QX.C k]
  | more {a b d q : QX} {rest : List QX} {c : Rat} (hc : 0 < c) (e : a = q * b - QX.C c * d) (hcop : Cop a b) (h : SCh (b :: d :: rest)) : SCh (a :: b :: d :: rest)
theorem SCh.tail {b d : QX} {rest : List QX} (h : SCh (b :: d :: rest)) : SCh (d :: rest) := by
  cases h with
  | two hk => exact .one hk
  | more _ _ _ h => exact h
abbrev chg (L : List QX) (x : Rat) : Nat := vr (L.map fun s => s.ev x)
theorem const_awy {A B : Nat → Rat} (h : Nst A B) {k : Rat} (hk : k ≠ 0) : ∃ σ, Sg σ ∧ Awy A B (QX.C k) σ := by
  by_cases z : 0 < k
  · exact ⟨1, .inl rfl, k, z, 0, fun x _ => by show k ≤ 1 * (QX.C k).ev x; rw [ev_C]; grind⟩
  · exact ⟨-1, .inr rfl, -k, by grind, 0, fun x _ => by show -k ≤ -1 * (QX.C k).ev x; rw [ev_C]; grind⟩
/-- what keeps away has one sign -/
theorem Awy.sign {A B : Nat → Rat} {s : QX} {σ : Rat} (hσ : Sg σ) (h : Awy A B s σ) : Evn A B fun x => s.ev x ≠ 0 ∧ decide (0 < s.ev x) = decide (0 < σ) := by
  obtain ⟨δ, hd, hn⟩ := h
  refine hn.imp fun x hx => ?_
  rcases hσ with rfl | rfl
  · exact ⟨by grind, decide_eq_decide.mpr ⟨fun _ => by decide, fun _ => by grind⟩⟩
  · exact ⟨by grind, decide_eq_decide.mpr ⟨fun z => by grind, fun z => absurd z (by decide)⟩⟩
theorem chain_const {A B : Nat → Rat} (h : Nst A B) : ∀ (n : Nat) (a : QX) (rest : List QX), rest.length ≤ n → SCh (a :: rest) → (∃ σ, Sg σ ∧ Awy A B a σ) → ∃ V, Evn A B fun x => chg (a :: rest) x = V
  | _, a, [], _, _, _ => ⟨0, 0, fun x _ => vr_one _⟩
  | 0, a, b :: rest, hl, _, _ => by simp at hl
  | n + 1, a, b :: rest, hl, hS, ⟨σ, hσ, ha⟩ => by
    have sa := ha.sign hσ
    rcases dich h b with ⟨τ, hτ, hb⟩ | hb
    · have hSb : SCh (b :: rest) := hS.tail
      obtain ⟨V, hV⟩ := chain_const h n b rest (by simpa using hl) hSb ⟨τ, hτ, hb⟩
      have sb := hb.sign hτ
      refine ⟨(if decide (0 < σ) = decide (0 < τ) then 0 else 1) + V, ((sa.and h sb).and h hV).imp fun x hx => ?_⟩
      obtain ⟨⟨⟨a1, a2⟩, b1, b2⟩, hv⟩ := hx
      show vr (a.ev x :: b.ev x :: rest.map fun s => s.ev x) = _
      rw [vr_two a1 b1, a2, b2]
      have hv : vr (b.ev x :: rest.map fun s => s.ev x) = V := hv
      rw [hv]
    · cases hS with
      | two hk =>
        obtain ⟨τ, hτ, hk2⟩ := const_awy h hk
        exfalso
        obtain ⟨δ, hd, m1, hm1⟩ := hk2
        obtain ⟨m2, hm2⟩ := hb (δ / 2) (by grind)
        have i1 : Ins A B (max m1 m2) (A (max m1 m2)) := ⟨Rat.le_refl, Rat.le_of_lt (h.lt _)⟩
        have g1 := hm1 _ (h.ins (Nat.le_max_left _ _) i1)
        have g2 := hm2 _ (h.ins (Nat.le_max_right _ _) i1)
        unfold Bd at g2
        rcases hτ with rfl | rfl <;> grind
      | @more _ _ d q rest c hc e hcop hS' =>
        -- b comes to nought: a and d have opposite signs
        have hd : Awy A B d (-σ) := by
          obtain ⟨δ, hδ, hn⟩ := ha
          refine ⟨δ / (2 * c), by rw [Rat.div_def]; exact Rat.mul_pos hδ (Rat.inv_pos.mpr (by grind)), ?_⟩
          refine ((nul_mul h q hb (δ / 2) (by grind)).and h hn).imp fun x hx => ?_
          obtain ⟨g1, g2⟩ := hx
          have e' : a.ev x = (q * b).ev x - c * d.ev x := by
            conv => lhs; rw [e]
            rw [ev_sub, ev_mul (QX.C c), ev_C]
          have hc2 : (0 : Rat) < 2 * c := by grind
          refine div_le hc2 ?_
          unfold Bd at g1
          generalize (q * b).ev x = t at *
          rw [e'] at g2
          rcases hσ with rfl | rfl <;> grind
        obtain ⟨V, hV⟩ := chain_const h n d rest (by have : rest.length + 1 + 1 ≤ n + 1 := hl; omega) hS'.tail ⟨-σ, hσ.neg, hd⟩
        have sd := hd.sign hσ.neg
        refine ⟨1 + V, ((sa.and h sd).and h hV).imp fun x hx => ?_⟩
        obtain ⟨⟨⟨a1, a2⟩, d1, d2⟩, hv⟩ := hx
        have hv : vr (d.ev x :: rest.map fun s => s.ev x) = V := hv
        show vr (a.ev x :: b.ev x :: d.ev x :: rest.map fun s => s.ev x) = _
        have hne : decide (0 < σ) ≠ decide (0 < -σ) := by
          rcases hσ with rfl | rfl <;> decide
        by_cases z : b.ev x = 0
        · rw [z, vr_skip, vr_two a1 d1, a2, d2, hv, if_neg hne]
        · rw [vr_two a1 z, vr_two z d1, a2, d2, hv]
          have : decide (0 < b.ev x) = decide (0 < σ) ∨ decide (0 < b.ev x) = decide (0 < -σ) := by
            cases decide (0 < b.ev x) <;> cases p1 : decide (0 < σ) <;> cases p2 : decide (0 < -σ) <;> simp_all
          rcases this with y | y
          · rw [y, if_pos rfl, if_neg hne]
            omega
          · rw [y, if_pos rfl, if_neg hne]
            omega
/-- a chain of f and its slope -/
structure Stm (f : QX) (L : List QX) : Prop where
  ch : SCh L
  hd : ∃ c0 : Rat, 0 < c0 ∧ ((L = [QX.C c0 * f]) ∨ ∃ (c1 : Rat) (rest : List QX), 0 < c1 ∧ Cop f f.der ∧ L = QX.C c0 * f :: QX.C c1 * f.der :: rest)
theorem awy_scale {A B : Nat → Rat} {f : QX} {c σ : Rat} (hc : 0 < c) : Awy A B (QX.C c * f) σ → Awy A B f σ := fun ⟨δ, hd, hn⟩ => by
  refine ⟨δ / c, by rw [Rat.div_def]; exact Rat.mul_pos hd (Rat.inv_pos.mpr hc), hn.imp fun x hx => ?_⟩
  rw [ev_mul, ev_C] at hx
  refine div_le hc ?_
  grind
theorem nul_scale {A B : Nat → Rat} {f : QX} {c : Rat} (hc : 0 < c) : Nul A B (QX.C c * f) → Nul A B f := fun h e he => by
  refine (h (e * c) (Rat.mul_pos he hc)).imp fun x hx => ?_
  rw [ev_mul, ev_C] at hx
  unfold Bd at *
  constructor
  · by_cases z : -e ≤ f.ev x
    · exact z
    · have := Rat.mul_pos hc (show 0 < -e - f.ev x by grind)
      grind
  · by_cases z : f.ev x ≤ e
    · exact z
    · have := Rat.mul_pos hc (show 0 < f.ev x - e by grind)
      grind
theorem mono_near {A B : Nat → Rat} (h : Nst A B) {f : QX} {σ : Rat} (hσ : Sg σ) (hd : Awy A B f.der σ) : ∃ n, ∀ x y, Ins A B n x → Ins A B n y → x < y → σ * f.ev x < σ * f.ev y := by
  obtain ⟨δ, hδ, m, hm⟩ := hd
  obtain ⟨R, hR⟩ := h.bd
  obtain ⟨L, hL⟩ := d2_bd R f.p
  have hL0 : 0 ≤ L := (hL (A 0) (A 0) (hR 0 _ ⟨Rat.le_refl, Rat.le_of_lt (h.lt 0)⟩) (hR 0 _ ⟨Rat.le_refl, Rat.le_of_lt (h.lt 0)⟩)).nn
  obtain ⟨n, hn⟩ := h.smallK (e := δ / 2) (by grind) hL0
  refine ⟨max n m, fun x y hx hy hxy => ?_⟩
  have hx1 := h.ins (Nat.le_max_left n m) hx
  have hy1 := h.ins (Nat.le_max_left n m) hy
  have e1 := dq_eq x y f.p
  have e2 := d2_eq x y f.p
  have e3 := dq_der x f.p f.own
  have g1 := hm x (h.ins (Nat.le_max_right n m) hx)
  have e3 : dq x x f.p = f.der.ev x := e3
  rw [e3] at e2
  have h2 : Bd (B n - A n) (y - x) := by unfold Ins at *; unfold Bd; grind
  have h3 := (h2.mul (hL x y (hR n x hx1) (hR n y hy1))).mono (Rat.le_of_lt hn)
  rw [← e2] at h3
  have hq : 0 < σ * dq x y f.p := by
    unfold Bd at h3
    rcases hσ with rfl | rfl <;> grind
  have e1 : f.ev y - f.ev x = (y - x) * dq x y f.p := e1
  have := Rat.mul_pos (show 0 < y - x by grind) hq
  generalize dq x y f.p = t at *
  have e5 : f.ev y = f.ev x + (y - x) * t := by grind
  have e6 : σ * f.ev y = σ * f.ev x + (y - x) * (σ * t) := by rw [e5]; grind
  rw [e6]
  generalize (y - x) * (σ * t) = u at *
  generalize σ * f.ev x = v
  grind
/-- near to any place all is plain -/
theorem loc_sturm {A B : Nat → Rat} (h : Nst A B) {f : QX} {L : List QX} (hS : Stm f L) :
    (∃ σ V, Sg σ ∧ ∃ n, ∀ x, Ins A B n x → 0 < σ * f.ev x ∧ chg L x = V) ∨
    (∃ σ V, Sg σ ∧ ∃ n, (∀ x, Ins A B n x → chg L x = V + if σ * f.ev x < 0 then 1 else 0) ∧ ∀ x y, Ins A B n x → Ins A B n y → x < y → σ * f.ev x < σ * f.ev y) := by
  obtain ⟨hC, c0, h0, hL⟩ := hS
  have away : ∀ (a : QX) (rest : List QX), L = a :: rest → a = QX.C c0 * f → (∃ σ, Sg σ ∧ Awy A B a σ) → ∃ σ V, Sg σ ∧ ∃ n, ∀ x, Ins A B n x → 0 < σ * f.ev x ∧ chg L x = V := fun a rest e1 e2 ⟨σ, hσ, ha⟩ => by
    subst e1
    obtain ⟨V, hV⟩ := chain_const h rest.length a rest (Nat.le_refl _) hC ⟨σ, hσ, ha⟩
    obtain ⟨δ, hδ, hf⟩ := awy_scale h0 (e2 ▸ ha)
    obtain ⟨n, hn⟩ := hf.and h hV
    exact ⟨σ, V, hσ, n, fun x hx => ⟨by have := (hn x hx).1; grind, (hn x hx).2⟩⟩
  rcases hL with rfl | ⟨c1, rest, h1, hcop, rfl⟩
  · left
    refine away _ _ rfl rfl ?_
    generalize hg : QX.C c0 * f = g at hC
    cases hC with
    | one hk => exact const_awy h hk
  · rcases dich h (QX.C c0 * f) with hz | hz
    · exact .inl (away _ _ rfl rfl hz)
    · right
      have nf := nul_scale h0 hz
      have hd : ∃ σ, Sg σ ∧ Awy A B (QX.C c1 * f.der) σ := by
        rcases dich h (QX.C c1 * f.der) with z | z
        · exact z
        · exact (nul_cop h hcop nf (nul_scale h1 z)).elim
      obtain ⟨σ, hσ, ha⟩ := hd
      obtain ⟨V, hV⟩ := chain_const h rest.length _ rest (Nat.le_refl _) hC.tail ⟨σ, hσ, ha⟩
      obtain ⟨n1, hm⟩ := mono_near h hσ (awy_scale h1 ha)
      obtain ⟨n2, hn2⟩ := (ha.sign hσ).and h hV
      refine ⟨σ, V, hσ, max n1 n2, fun x hx => ?_, fun x y hx hy hxy => hm x y (h.ins (Nat.le_max_left _ _) hx) (h.ins (Nat.le_max_left _ _) hy) hxy⟩
      obtain ⟨⟨s1, s2⟩, hv⟩ := hn2 x (h.ins (Nat.le_max_right _ _) hx)
      have hv : vr ((QX.C c1 * f.der).ev x :: rest.map fun s => s.ev x) = V := hv
      show vr ((QX.C c0 * f).ev x :: (QX.C c1 * f.der).ev x :: rest.map fun s => s.ev x) = _
      have e0 : (QX.C c0 * f).ev x = c0 * f.ev x := by rw [ev_mul, ev_C]
      by_cases z : f.ev x = 0
      · rw [e0, z, Rat.mul_zero, vr_zero, hv, Rat.mul_zero, if_neg (by decide)]
        omega
      · have z0 : (QX.C c0 * f).ev x ≠ 0 := fun y => by
          rw [e0] at y
          rcases Rat.mul_eq_zero.mp y with y | y
          · grind
          · exact z y
        rw [vr_two z0 s1, s2, hv, e0]
        have hpos : decide (0 < c0 * f.ev x) = decide (0 < f.ev x) := decide_eq_decide.mpr ⟨fun y => by
          by_cases w : 0 < f.ev x
          · exact w
          · have := Rat.mul_pos h0 (show 0 < -f.ev x by grind)
            grind, fun y => Rat.mul_pos h0 y⟩
        rw [hpos]
        rcases hσ with rfl | rfl
        · by_cases w : 0 < f.ev x
          · rw [decide_eq_true w, if_pos (by decide), if_neg (by grind)]
            omega
          · rw [decide_eq_false w, if_neg (by decide), if_pos (by grind)]
            omega
        · by_cases w : 0 < f.ev x
          · rw [decide_eq_true w, if_neg (by decide), if_pos (by grind)]
            omega
          · rw [decide_eq_false w, if_pos (by decide), if_neg (by grind)]
            omega
/-- what counts roots: of two intervals together; none, where there is one sign; one or none, where f rises or falls -/
structure Cnts (f : QX) (N : Rat → Rat → Int) : Prop where
  add : ∀ a m b, a < m → m < b → N a b = N a m + N m b
  none : ∀ a b σ, a < b → Sg σ → (∀ x, a ≤ x → x ≤ b → 0 < σ * f.ev x) → N a b = 0
  one : ∀ a b σ, a < b → Sg σ → (∀ x y, a ≤ x → x < y → y ≤ b → σ * f.ev x < σ * f.ev y) → N a b = (if σ * f.ev a < 0 then 1 else 0) - (if σ * f.ev b < 0 then 1 else 0)
theorem sturm {f : QX} {L : List QX} (hS : Stm f L) {N : Rat → Rat → Int} (hN : Cnts f N) {a b : Rat} (hab : a < b) : (chg L a : Int) - chg L b = N a b := by
  refine bisect (P := fun a b => (chg L a : Int) - chg L b = N a b) (fun a m b h1 h2 p1 p2 => ?_) hab (fun A B h _ _ => ?_)
  · show (chg L a : Int) - chg L b = N a b
    have p1 : (chg L a : Int) - chg L m = N a m := p1
    have p2 : (chg L m : Int) - chg L b = N m b := p2
    rw [hN.add a m b h1 h2]
    omega
  · rcases loc_sturm h hS with ⟨σ, V, hσ, n, hn⟩ | ⟨σ, V, hσ, n, hn, hm⟩
    · have hlt := h.lt n
      have ha := (hn (A n) ⟨Rat.le_refl, Rat.le_of_lt hlt⟩).2
      have hb := (hn (B n) ⟨Rat.le_of_lt hlt, Rat.le_refl⟩).2
      have := hN.none (A n) (B n) σ hlt hσ fun x h1 h2 => (hn x ⟨h1, h2⟩).1
      exact ⟨n, by show (chg L (A n) : Int) - chg L (B n) = N (A n) (B n); rw [ha, hb, this]; omega⟩
    · have hlt := h.lt n
      have ha := hn (A n) ⟨Rat.le_refl, Rat.le_of_lt hlt⟩
      have hb := hn (B n) ⟨Rat.le_of_lt hlt, Rat.le_refl⟩
      have := hN.one (A n) (B n) σ hlt hσ fun x y h1 h2 h3 => hm x y ⟨h1, by grind⟩ ⟨by grind, h3⟩ h2
      refine ⟨n, ?_⟩
      show (chg L (A n) : Int) - chg L (B n) = N (A n) (B n)
      rw [ha, hb, this, Int.natCast_add, Int.natCast_add]
      have c1 : (((if σ * f.ev (A n) < 0 then 1 else 0 : Nat)) : Int) = if σ * f.ev (A n) < 0 then 1 else 0 := by split <;> rfl
      have c2 : (((if σ * f.ev (B n) < 0 then 1 else 0 : Nat)) : Int) = if σ * f.ev (B n) < 0 then 1 else 0 := by split <;> rfl
      rw [c1, c2]
      omega
end An

/-! Plain polynomials, chains. -/
namespace An
open PySem
def lcmP (p : Poly) : Nat := p.foldl (fun b q => b / Nat.gcd b q.den * q.den) 1
def topP (b : Nat) (q : Rat) : Nat := q.num.natAbs * (b / q.den)
def gcdP (b : Nat) (p : Poly) : Nat := p.foldl (fun g q => Nat.gcd g (topP b q)) 0
def plainC (p : Poly) : Rat := ((lcmP p : Nat) : Rat) / ((max 1 (gcdP (lcmP p) p) : Nat) : Rat)
def plainQ (a : QX) : QX := ⟨pscale a.p (plainC a.p), own_pscale _ _⟩
theorem lcm_step {b d : Nat} (hb : 0 < b) (hd : 0 < d) : 0 < b / Nat.gcd b d * d ∧ b ∣ b / Nat.gcd b d * d ∧ d ∣ b / Nat.gcd b d * d ∧ ∀ D, b ∣ D → d ∣ D → b / Nat.gcd b d * d ∣ D := by
  have hg : 0 < Nat.gcd b d := Nat.gcd_pos_of_pos_left _ hb
  have e : b / Nat.gcd b d * d = Nat.lcm b d := by
    unfold Nat.lcm
    rw [Nat.div_mul_right_comm (Nat.gcd_dvd_left b d)]
  rw [e]
  exact ⟨Nat.lcm_pos hb hd, Nat.dvd_lcm_left _ _, Nat.dvd_lcm_right _ _, fun D h1 h2 => Nat.lcm_dvd h1 h2⟩
theorem lcm_fold : ∀ (p : Poly) (b : Nat), 0 < b → 0 < p.foldl (fun b q => b / Nat.gcd b q.den * q.den) b ∧ b ∣ p.foldl (fun b q => b / Nat.gcd b q.den * q.den) b ∧ (∀ q ∈ p, q.den ∣ p.foldl (fun b q => b / Nat.gcd b q.den * q.den) b) ∧ ∀ D, b ∣ D → (∀ q ∈ p, q.den ∣ D) → p.foldl (fun b q => b / Nat.gcd b q.den * q.den) b ∣ D
  | [], b, hb => ⟨hb, Nat.dvd_refl _, fun q hq => (nomatch hq), fun D h _ => h⟩
  | q :: p, b, hb => by
    obtain ⟨s1, s2, s3, s4⟩ := lcm_step hb q.den_pos
    obtain ⟨t1, t2, t3, t4⟩ := lcm_fold p _ s1
    rw [List.foldl_cons]
    refine ⟨t1, Nat.dvd_trans s2 t2, fun r hr => ?_, fun D h1 h2 => t4 D (s4 D h1 (h2 q List.mem_cons_self)) fun r hr => h2 r (List.mem_cons_of_mem _ hr)⟩
    rcases List.mem_cons.mp hr with z | z
    · rw [z]; exact Nat.dvd_trans s3 t2
    · exact t3 r z
theorem lcmP_pos (p : Poly) : 0 < lcmP p := (lcm_fold p 1 (by decide)).1
theorem lcmP_den {p : Poly} {q : Rat} (h : q ∈ p) : q.den ∣ lcmP p := (lcm_fold p 1 (by decide)).2.2.1 q h
theorem lcmP_dvd {p : Poly} {D : Nat} (h : ∀ q ∈ p, q.den ∣ D) : lcmP p ∣ D := (lcm_fold p 1 (by decide)).2.2.2 D (Nat.one_dvd _) h
theorem gcd_fold (b : Nat) : ∀ (p : Poly) (g : Nat), (p.foldl (fun g q => Nat.gcd g (topP b q)) g ∣ g) ∧ (∀ q ∈ p, p.foldl (fun g q => Nat.gcd g (topP b q)) g ∣ topP b q) ∧ ∀ z, z ∣ g → (∀ q ∈ p, z ∣ topP b q) → z ∣ p.foldl (fun g q => Nat.gcd g (topP b q)) g
  | [], g => ⟨Nat.dvd_refl _, fun q hq => (nomatch hq), fun z h _ => h⟩
  | q :: p, g => by
    obtain ⟨t1, t2, t3⟩ := gcd_fold b p (Nat.gcd g (topP b q))
    rw [List.foldl_cons]
    refine ⟨Nat.dvd_trans t1 (Nat.gcd_dvd_left _ _), fun r hr => ?_, fun z h1 h2 => t3 z (Nat.dvd_gcd h1 (h2 q List.mem_cons_self)) fun r hr => h2 r (List.mem_cons_of_mem _ hr)⟩
    rcases List.mem_cons.mp hr with y | y
    · rw [y]; exact Nat.dvd_trans t1 (Nat.gcd_dvd_right _ _)
    · exact t2 r y
/-- the whole number that a fraction comes to, times a multiple of its under -/
theorem top_eq {b : Nat} {q : Rat} (h : q.den ∣ b) : q * ((b : Nat) : Rat) = ((q.num * ((b / q.den : Nat) : Int) : Int) : Rat) := by
  obtain ⟨k, rfl⟩ := h
  rw [Nat.mul_div_cancel_left k q.den_pos, Rat.intCast_mul, Rat.natCast_mul]
  have := num_eq q
  rw [Rat.intCast_natCast] at this
  rw [← this, Rat.intCast_natCast]
  grind
theorem topP_eq (b : Nat) (q : Rat) : topP b q = (q.num * ((b / q.den : Nat) : Int)).natAbs := by
  unfold topP
  rw [Int.natAbs_mul, Int.natAbs_natCast]
theorem natR_ne0 {n : Nat} (h : 0 < n) : ((n : Nat) : Rat) ≠ 0 := fun z => by
  have : ((n : Nat) : Rat) = ((0 : Nat) : Rat) := z
  have := Rat.natCast_inj.mp this
  omega
theorem natR_pos0 {n : Nat} (h : 0 < n) : (0 : Rat) < ((n : Nat) : Rat) := by
  have : ((0 : Nat) : Rat) < ((n : Nat) : Rat) := Rat.natCast_lt_natCast.mpr h
  exact this
theorem plainC_pos (p : Poly) : 0 < plainC p := by
  unfold plainC
  rw [Rat.div_def]
  exact Rat.mul_pos (natR_pos0 (lcmP_pos p)) (Rat.inv_pos.mpr (natR_pos0 (by omega)))
theorem plainQ_eq (a : QX) : plainQ a = QX.C (plainC a.p) * a := QX.extC fun i => by
  rw [coef_Cmul]
  show coef (pscale a.p _) i = _
  rw [coef_pscale, Rat.mul_comm]
theorem plainQ_len (a : QX) : (plainQ a).len = a.len := by
  rw [plainQ_eq, len_Cmul (by have := plainC_pos a.p; grind)]
theorem plainQ_zero {a : QX} : plainQ a = 0 ↔ a = 0 := by
  rw [← len_zero, plainQ_len, len_zero]
/-- whole, and no greater than any other whole multiple -/
theorem plain_cz {a r : QX} {κ : Rat} {n : Nat} (hκ : κ ≠ 0) (e : a = QX.C κ * r) (h : CZ n r.p) : ∀ i, ∃ t : Int, t.natAbs < 2 ^ n ∧ coef (plainQ a).p i = (t : Rat) := by
  obtain ⟨d, d0, d1, hd⟩ := h
  intro i
  have hpow : 0 < 2 ^ n := Nat.pow_pos (by decide)
  by_cases hi : i < a.p.length
  · have hmem : ∀ j (hj : j < a.p.length), a.p[j].den ∣ lcmP a.p := fun j hj => lcmP_den (List.getElem_mem hj)
    have ha : a ≠ 0 := ne_zero.mpr fun z => by rw [z] at hi; simp at hi
    -- the whole numbers
    let T : Nat → Int := fun j => (coef a.p j).num * ((lcmP a.p / (coef a.p j).den : Nat) : Int)
    have hT : ∀ j, j < a.p.length → coef a.p j * ((lcmP a.p : Nat) : Rat) = (T j : Rat) := fun j hj => top_eq (by rw [coef_in hj]; exact hmem j hj)
    obtain ⟨g1, g2, g3⟩ := gcd_fold (lcmP a.p) a.p 0
    have hgt : ∀ j, j < a.p.length → gcdP (lcmP a.p) a.p ∣ (T j).natAbs := fun j hj => by
      have := g2 a.p[j] (List.getElem_mem hj)
      rw [topP_eq, ← coef_in hj] at this
      exact this
    have hgz : ∀ z : Nat, (∀ j, j < a.p.length → z ∣ (T j).natAbs) → z ∣ gcdP (lcmP a.p) a.p := fun z hz => g3 z (Nat.dvd_zero _) fun q hq => by
      obtain ⟨j, hj, rfl⟩ := List.getElem_of_mem hq
      rw [topP_eq, ← coef_in hj]
      exact hz j hj
    have hB : ((lcmP a.p : Nat) : Rat) ≠ 0 := natR_ne0 (lcmP_pos _)
    have hgpos : 0 < gcdP (lcmP a.p) a.p := Nat.pos_of_ne_zero fun z => by
      have h1 := hgt (a.p.length - 1) (by omega)
      rw [z, Nat.zero_dvd, Int.natAbs_eq_zero] at h1
      have h2 := hT (a.p.length - 1) (by omega)
      rw [h1] at h2
      have h3 : coef a.p (a.p.length - 1) * ((lcmP a.p : Nat) : Rat) = 0 := h2
      rcases Rat.mul_eq_zero.mp h3 with h4 | h4
      · exact lc_ne a.own (ne_zero.mp ha) h4
      · exact hB h4
    generalize hG : gcdP (lcmP a.p) a.p = G at *
    have hGr : ((G : Nat) : Rat) ≠ 0 := natR_ne0 hgpos
    -- what comes
    have hw : ∀ j, j < a.p.length → ∃ w : Int, T j = w * (G : Int) := fun j hj => by
      obtain ⟨k, hk⟩ := Int.ofNat_dvd_left.mpr (hgt j hj)
      exact ⟨k, by rw [hk, Int.mul_comm]⟩
    have hval : ∀ j, j < a.p.length → ∀ w : Int, T j = w * (G : Int) → coef (plainQ a).p j = (w : Rat) := fun j hj w hw => by
      have e1 : coef (plainQ a).p j = coef a.p j * plainC a.p := coef_pscale _ _ _
      have e2 : plainC a.p = ((lcmP a.p : Nat) : Rat) / ((G : Nat) : Rat) := by
        unfold plainC
        rw [hG, Nat.max_eq_right hgpos]
      rw [e1, e2]
      have e3 := hT j hj
      rw [hw, Rat.intCast_mul, Rat.intCast_natCast] at e3
      rw [Rat.div_def, ← Rat.mul_assoc, e3, Rat.mul_assoc, Rat.mul_inv_cancel _ hGr, Rat.mul_one]
    obtain ⟨w, hw1⟩ := hw i hi
    refine ⟨w, ?_, hval i hi w hw1⟩
    -- proportional to the other whole multiple
    obtain ⟨u, u1, u2⟩ := hd i
    let lam : Rat := ((d : Int) : Rat) * ((G : Nat) : Rat) / (κ * ((lcmP a.p : Nat) : Rat))
    have hκB : κ * ((lcmP a.p : Nat) : Rat) ≠ 0 := fun z => by
      rcases Rat.mul_eq_zero.mp z with z | z
      · exact hκ z
      · exact hB z
    have hlam : ∀ j, j < a.p.length → ∀ (w u : Int), T j = w * (G : Int) → coef r.p j * (d : Rat) = (u : Rat) → (u : Rat) = lam * (w : Rat) := fun j hj w u h1 h2 => by
      have e3 := hT j hj
      have e4 : coef a.p j = κ * coef r.p j := by rw [e, coef_Cmul]
      rw [h1, Rat.intCast_mul, Rat.intCast_natCast, e4] at e3
      show (u : Rat) = ((d : Int) : Rat) * ((G : Nat) : Rat) / (κ * ((lcmP a.p : Nat) : Rat)) * (w : Rat)
      rw [← h2, Rat.div_def]
      have e5 : (κ * ((lcmP a.p : Nat) : Rat)) * (κ * ((lcmP a.p : Nat) : Rat))⁻¹ = 1 := Rat.mul_inv_cancel _ hκB
      generalize (κ * ((lcmP a.p : Nat) : Rat))⁻¹ = I at *
      generalize ((lcmP a.p : Nat) : Rat) = bb at *
      generalize ((G : Nat) : Rat) = gg at *
      have : coef r.p j * (d : Rat) = coef r.p j * (d : Rat) * ((κ * bb) * I) := by rw [e5, Rat.mul_one]
      rw [this]
      have e6 : coef r.p j * (d : Rat) * ((κ * bb) * I) = (d : Rat) * I * (κ * coef r.p j * bb) := by grind
      rw [e6, e3]
      grind
    have hl0 : lam ≠ 0 := fun z => by
      have z : ((d : Int) : Rat) * ((G : Nat) : Rat) / (κ * ((lcmP a.p : Nat) : Rat)) = 0 := z
      rw [Rat.div_def] at z
      rcases Rat.mul_eq_zero.mp z with z | z
      · rcases Rat.mul_eq_zero.mp z with z | z
        · exact d0 (Rat.intCast_eq_zero_iff.mp z)
        · exact hGr z
      · have : (κ * ((lcmP a.p : Nat) : Rat)) * (κ * ((lcmP a.p : Nat) : Rat))⁻¹ = 1 := Rat.mul_inv_cancel _ hκB
        rw [z, Rat.mul_zero] at this
        cases this
    have hden : ∀ j, j < a.p.length → ∀ (w u : Int), T j = w * (G : Int) → coef r.p j * (d : Rat) = (u : Rat) → u * (lam.den : Int) = lam.num * w := fun j hj w u h1 h2 => by
      have h3 := hlam j hj w u h1 h2
      have h4 := num_eq lam
      have : ((u * (lam.den : Int) : Int) : Rat) = ((lam.num * w : Int) : Rat) := by
        rw [Rat.intCast_mul, Rat.intCast_mul, ← h4, h3]
        grind
      exact Rat.intCast_inj.mp this
    have hd1' : lam.den = 1 := by
      have hz : lam.den * G ∣ G := by
        refine hgz _ fun j hj => ?_
        obtain ⟨wj, hwj⟩ := hw j hj
        obtain ⟨uj, _, huj⟩ := hd j
        have h3 := hden j hj wj uj hwj huj
        have h4 : lam.den ∣ wj.natAbs := by
          have h5 : (lam.den : Int) ∣ lam.num * wj := ⟨uj, by rw [← h3, Int.mul_comm]⟩
          have h6 : lam.den ∣ lam.num.natAbs * wj.natAbs := by
            have := Int.natAbs_dvd_natAbs.mpr h5
            rwa [Int.natAbs_natCast, Int.natAbs_mul] at this
          exact Nat.Coprime.dvd_of_dvd_mul_left (Nat.Coprime.symm lam.reduced) h6
        rw [hwj, Int.natAbs_mul, Int.natAbs_natCast]
        exact Nat.mul_dvd_mul_right h4 G
      have h7 := Nat.le_of_dvd hgpos hz
      have h8 := lam.den_pos
      by_cases h9 : lam.den = 1
      · exact h9
      · have : 2 * G ≤ lam.den * G := Nat.mul_le_mul_right _ (by omega)
        omega
    have h3 := hden i hi w u hw1 u2
    rw [hd1'] at h3
    have h4 : u.natAbs = lam.num.natAbs * w.natAbs := by
      rw [← Int.natAbs_mul, ← h3]
      simp
    have h5 : 1 ≤ lam.num.natAbs := Nat.pos_of_ne_zero fun z => hl0 (Rat.num_eq_zero.mp (Int.natAbs_eq_zero.mp z))
    have h6 : 1 * w.natAbs ≤ lam.num.natAbs * w.natAbs := Nat.mul_le_mul_right _ h5
    omega
  · refine ⟨0, hpow, ?_⟩
    have : (plainQ a).p.length ≤ i := by
      have := plainQ_len a
      have e1 : (plainQ a).p.length = (plainQ a).len := rfl
      have e2 : a.p.length = a.len := rfl
      omega
    rw [coef_out this]
    rfl
theorem cz_plain {a r : QX} {κ : Rat} {n : Nat} (hκ : κ ≠ 0) (e : a = QX.C κ * r) (h : CZ n r.p) : CZ n (plainQ a).p := by
  have h0 := h.pos
  exact ⟨1, by decide, Nat.one_lt_two_pow (by omega), fun i => by
    obtain ⟨t, t1, t2⟩ := plain_cz hκ e h i
    exact ⟨t, t1, by rw [t2]; show (t : Rat) * 1 = _; rw [Rat.mul_one]⟩⟩
theorem cz_plain1 {a : QX} {n : Nat} (h : CZ n a.p) : CZ n (plainQ a).p := cz_plain (κ := 1) (by decide) (by rw [show QX.C 1 = (1 : QX) from rfl]; grind) h
/-! ### chains -/
/-- what comes behind a and b, b ahead -/
def nxt (a b : QX) : QX := plainQ (-qrem a b)
def chGo : Nat → QX → QX → List QX
  | 0, a, _ => [a]
  | n + 1, a, b => if b.len = 0 then [a] else a :: chGo n b (nxt a b)
def chainL (f : QX) : List QX := chGo (plainQ f.der).len (plainQ f) (plainQ f.der)
theorem nxt_len {a b : QX} (hb : b ≠ 0) : (nxt a b).len < b.len := by
  unfold nxt
  rw [plainQ_len]
  have : (-qrem a b).len = (qrem a b).len := by
    have : -qrem a b = QX.C (-1) * qrem a b := by rw [C_neg]; show _ = -(1 : QX) * _; grind
    rw [this, len_Cmul (by decide)]
  rw [this]
  exact (qdiv_ok hb).2
theorem chGo_fuel : ∀ (n : Nat) (a b : QX), b.len ≤ n → chGo n a b = chGo b.len a b
  | 0, a, b, h => by rw [show b.len = 0 by omega]
  | n + 1, a, b, h => by
    by_cases h0 : b.len = 0
    · rw [h0]
      show (if b.len = 0 then _ else _) = [a]
      rw [if_pos h0]
    · have hb : b ≠ 0 := fun z => h0 (len_zero.mpr z)
      have hr := nxt_len (a := a) hb
      have e : chGo b.len a b = a :: chGo (b.len - 1) b (nxt a b) := by
        conv => lhs; rw [show b.len = (b.len - 1) + 1 by omega]
        show (if b.len = 0 then _ else _) = _
        rw [if_neg h0]
      rw [e, chGo_fuel (b.len - 1) b (nxt a b) (by omega)]
      show (if b.len = 0 then _ else _) = _
      rw [if_neg h0, chGo_fuel n b (nxt a b) (by omega)]
termination_by n => n
decreasing_by all_goals omega
theorem chGo_ok : ∀ (n : Nat) (a b : QX), b.len ≤ n → b ≠ 0 → Cop a b → ∃ rest, chGo n a b = a :: b :: rest ∧ SCh (a :: b :: rest)
  | 0, a, b, h, hb, _ => absurd (len_zero.mp (by omega)) hb
  | n + 1, a, b, h, hb, hc => by
    have h0 : b.len ≠ 0 := fun z => hb (len_zero.mp z)
    have hl := nxt_len (a := a) hb
    obtain ⟨ed, _⟩ := qdiv_ok (a := a) hb
    have e1 : chGo (n + 1) a b = a :: chGo n b (nxt a b) := by
      show (if b.len = 0 then _ else _) = _
      rw [if_neg h0]
    rw [e1]
    -- rest and b have nothing in common
    have hcr : Cop b (qrem a b) := by
      obtain ⟨u, v, e⟩ := hc
      refine ⟨u * qquo a b + v, u, ?_⟩
      rw [← e]
      conv => rhs; rw [ed]
      grind
    have hcn : Cop b (nxt a b) := by
      unfold nxt
      rw [plainQ_eq]
      refine Cop.scale (by have := plainC_pos (-qrem a b).p; grind) ?_
      have : -qrem a b = QX.C (-1) * qrem a b := by rw [C_neg]; show _ = -(1 : QX) * _; grind
      rw [this]
      exact Cop.scale (by decide) hcr
    by_cases hz : nxt a b = 0
    · have hn0 : (nxt a b).len = 0 := len_zero.mpr hz
      have e2 : chGo n b (nxt a b) = [b] := by
        rw [chGo_fuel n b _ (by omega), hn0]
        rfl
      rw [e2]
      refine ⟨[], rfl, ?_⟩
      -- b divides 1
      rw [hz] at hcn
      obtain ⟨u, v, e⟩ := hcn
      have hd : b.dvd 1 := ⟨u, by rw [← e]; grind⟩
      have hlen := dvd_len hd (by rw [show (1 : QX) = QX.C 1 from rfl]; exact C_ne (by decide))
      rw [one_len] at hlen
      have := len_one (a := b) (by omega)
      rw [this]
      exact .two (lc_ne b.own (ne_zero.mp hb))
    · obtain ⟨rest, g1, g2⟩ := chGo_ok n b (nxt a b) (by omega) hz hcn
      rw [g1]
      refine ⟨nxt a b :: rest, rfl, ?_⟩
      have hp := plainC_pos (-qrem a b).p
      refine .more (c := 1 / plainC (-qrem a b).p) (q := qquo a b) (by rw [Rat.div_def, Rat.one_mul]; exact Rat.inv_pos.mpr hp) ?_ hc g2
      have e3 : nxt a b = QX.C (plainC (-qrem a b).p) * -qrem a b := plainQ_eq _
      have e4 : QX.C (1 / plainC (-qrem a b).p) * QX.C (plainC (-qrem a b).p) = 1 := by
        rw [← C_mul, Rat.div_mul_cancel (by grind)]
        rfl
      conv => lhs; rw [ed]
      rw [e3]
      generalize QX.C (1 / plainC (-qrem a b).p) = x at *
      generalize QX.C (plainC (-qrem a b).p) = y at *
      have : x * (y * -qrem a b) = -qrem a b := by
        rw [show x * (y * -qrem a b) = (x * y) * -qrem a b by grind, e4]
        grind
      rw [this]
      grind
theorem chain_stm {f : QX} (hf : f ≠ 0) (hc : Cop f f.der) : Stm f (chainL f) := by
  have hp := plainC_pos f.p
  by_cases hd : f.der = 0
  · have hpd : (plainQ f.der).len = 0 := by rw [plainQ_len, hd]; exact len_zero.mpr rfl
    have e : chainL f = [QX.C (plainC f.p) * f] := by
      unfold chainL
      rw [hpd, ← plainQ_eq]
      rfl
    refine ⟨?_, plainC f.p, hp, .inl e⟩
    rw [e]
    have hl : f.len = 1 := by
      have h1 := der_len f
      rw [hd, len_zero.mpr rfl] at h1
      have := pos_len hf
      omega
    have := len_one hl
    rw [this, ← C_mul]
    refine .one fun z => ?_
    rcases Rat.mul_eq_zero.mp z with z | z
    · rw [this] at hp
      grind
    · exact lc_ne f.own (ne_zero.mp hf) z
  · have hpd : plainQ f.der ≠ 0 := fun z => hd (plainQ_zero.mp z)
    have hd' := plainC_pos f.der.p
    have hcop : Cop (plainQ f) (plainQ f.der) := by
      rw [plainQ_eq, plainQ_eq]
      exact Cop.scale (by grind) (Cop.symm (Cop.scale (by grind) (Cop.symm hc)))
    obtain ⟨rest, g1, g2⟩ := chGo_ok _ (plainQ f) (plainQ f.der) (Nat.le_refl _) hpd hcop
    have e : chainL f = plainQ f :: plainQ f.der :: rest := g1
    refine ⟨by rw [e]; exact g2, plainC f.p, hp, .inr ⟨plainC f.der.p, rest, hd', hc, ?_⟩⟩
    rw [e, plainQ_eq, plainQ_eq]
end An

/-! What a chain counts; intervals cut until each has one root. -/
namespace An
open PySem
def nV (L : List QX) (a b : Rat) : Int := (chg L a : Int) - chg L b
theorem nV_add (L : List QX) (a m b : Rat) : nV L a b = nV L a m + nV L m b := by
  unfold nV
  omega
theorem sg_val {σ : Rat} (h : Sg σ) (x : Rat) : σ * x = x ∨ σ * x = -x := by
  rcases h with rfl | rfl
  · left; grind
  · right; grind
section
variable {f : QX} {L : List QX}
/-- near to any place, by the ends of a small interval -/
theorem loc_ends {A B : Nat → Rat} (h : Nst A B) (hS : Stm f L) : ∃ n, (∃ σ, Sg σ ∧ (∀ x, Ins A B n x → 0 < σ * f.ev x) ∧ nV L (A n) (B n) = 0) ∨
    (∃ σ, Sg σ ∧ (∀ x y, Ins A B n x → Ins A B n y → x < y → σ * f.ev x < σ * f.ev y) ∧ nV L (A n) (B n) = (if σ * f.ev (A n) < 0 then 1 else 0) - (if σ * f.ev (B n) < 0 then 1 else 0)) := by
  rcases loc_sturm h hS with ⟨σ, V, hσ, n, hn⟩ | ⟨σ, V, hσ, n, hn, hm⟩
  · have hlt := h.lt n
    refine ⟨n, .inl ⟨σ, hσ, fun x hx => (hn x hx).1, ?_⟩⟩
    unfold nV
    rw [(hn (A n) ⟨Rat.le_refl, Rat.le_of_lt hlt⟩).2, (hn (B n) ⟨Rat.le_of_lt hlt, Rat.le_refl⟩).2]
    omega
  · have hlt := h.lt n
    refine ⟨n, .inr ⟨σ, hσ, hm, ?_⟩⟩
    unfold nV
    rw [hn (A n) ⟨Rat.le_refl, Rat.le_of_lt hlt⟩, hn (B n) ⟨Rat.le_of_lt hlt, Rat.le_refl⟩, Int.natCast_add, Int.natCast_add]
    have c1 : (((if σ * f.ev (A n) < 0 then 1 else 0 : Nat)) : Int) = if σ * f.ev (A n) < 0 then 1 else 0 := by split <;> rfl
    have c2 : (((if σ * f.ev (B n) < 0 then 1 else 0 : Nat)) : Int) = if σ * f.ev (B n) < 0 then 1 else 0 := by split <;> rfl
    rw [c1, c2]
    omega
theorem ends_in {A B : Nat → Rat} (h : Nst A B) (n : Nat) : Ins A B n (A n) ∧ Ins A B n (B n) := ⟨⟨Rat.le_refl, Rat.le_of_lt (h.lt n)⟩, Rat.le_of_lt (h.lt n), Rat.le_refl⟩
theorem nV_nonneg (hS : Stm f L) {a b : Rat} (hab : a < b) : 0 ≤ nV L a b := by
  refine bisect (P := fun a b => 0 ≤ nV L a b) (fun a m b _ _ p q => ?_) hab fun A B h _ _ => ?_
  · show 0 ≤ nV L a b
    rw [nV_add L a m b]
    have p : 0 ≤ nV L a m := p
    have q : 0 ≤ nV L m b := q
    omega
  · obtain ⟨n, ⟨σ, hσ, _, e⟩ | ⟨σ, hσ, hm, e⟩⟩ := loc_ends h hS
    · exact ⟨n, by rw [e]; omega⟩
    · obtain ⟨i1, i2⟩ := ends_in h n
      have := hm _ _ i1 i2 (h.lt n)
      refine ⟨n, ?_⟩
      rw [e]
      by_cases z : σ * f.ev (B n) < 0
      · rw [if_pos z, if_pos (by grind)]
        omega
      · rw [if_neg z]
        split <;> omega
theorem nV_root (hS : Stm f L) {a b : Rat} (hab : a < b) (hb : f.ev b = 0) : 1 ≤ nV L a b := by
  refine bisect (P := fun a b => f.ev b = 0 → 1 ≤ nV L a b) (fun a m b h1 _ _ q hb => ?_) hab (fun A B h _ _ => ?_) hb
  · rw [nV_add L a m b]
    have := nV_nonneg hS h1
    have := q hb
    omega
  · obtain ⟨n, ⟨σ, hσ, hs, e⟩ | ⟨σ, hσ, hm, e⟩⟩ := loc_ends h hS
    · obtain ⟨i1, i2⟩ := ends_in h n
      refine ⟨n, fun z => ?_⟩
      have := hs _ i2
      rw [z, Rat.mul_zero] at this
      exact absurd this (by decide)
    · obtain ⟨i1, i2⟩ := ends_in h n
      have := hm _ _ i1 i2 (h.lt n)
      refine ⟨n, fun z => ?_⟩
      rw [z, Rat.mul_zero] at this
      rw [e, z, Rat.mul_zero, if_pos this, if_neg (by decide)]
      omega
/-- one sign -/
theorem nV_const (hS : Stm f L) {a b σ : Rat} (hab : a < b) (hσ : Sg σ) (hf : ∀ x, a ≤ x → x ≤ b → 0 < σ * f.ev x) : nV L a b = 0 := by
  refine bisect (P := fun x y => a ≤ x → y ≤ b → nV L x y = 0) (fun x m y h1 h2 p q hx hy => ?_) hab (fun A B h _ _ => ?_) Rat.le_refl Rat.le_refl
  · rw [nV_add L x m y, p hx (by grind), q (by grind) hy]
    omega
  · obtain ⟨n, ⟨τ, hτ, hs, e⟩ | ⟨τ, hτ, hm, e⟩⟩ := loc_ends h hS
    · exact ⟨n, fun _ _ => e⟩
    · refine ⟨n, fun hx hy => ?_⟩
      have hlt := h.lt n
      have h1 := hf (A n) hx (by grind)
      have h2 := hf (B n) (by grind) hy
      rw [e]
      rcases hσ with rfl | rfl <;> rcases hτ with rfl | rfl
      · rw [if_neg (by grind), if_neg (by grind)]; omega
      · rw [if_pos (by grind), if_pos (by grind)]; omega
      · rw [if_pos (by grind), if_pos (by grind)]; omega
      · rw [if_neg (by grind), if_neg (by grind)]; omega
/-- rising or falling -/
theorem nV_mono (hS : Stm f L) {a b σ : Rat} (hab : a < b) (hσ : Sg σ) (hf : ∀ x y, a ≤ x → x < y → y ≤ b → σ * f.ev x < σ * f.ev y) : nV L a b = (if σ * f.ev a < 0 then 1 else 0) - (if σ * f.ev b < 0 then 1 else 0) := by
  refine bisect (P := fun x y => a ≤ x → y ≤ b → nV L x y = (if σ * f.ev x < 0 then 1 else 0) - (if σ * f.ev y < 0 then 1 else 0)) (fun x m y h1 h2 p q hx hy => ?_) hab (fun A B h _ _ => ?_) Rat.le_refl Rat.le_refl
  · rw [nV_add L x m y, p hx (by grind), q (by grind) hy]
    omega
  · obtain ⟨n, ⟨τ, hτ, hs, e⟩ | ⟨τ, hτ, hm, e⟩⟩ := loc_ends h hS
    · refine ⟨n, fun hx hy => ?_⟩
      obtain ⟨i1, i2⟩ := ends_in h n
      have h1 := hs _ i1
      have h2 := hs _ i2
      rw [e]
      rcases hσ with rfl | rfl <;> rcases hτ with rfl | rfl
      · rw [if_neg (by grind), if_neg (by grind)]; omega
      · rw [if_pos (by grind), if_pos (by grind)]; omega
      · rw [if_pos (by grind), if_pos (by grind)]; omega
      · rw [if_neg (by grind), if_neg (by grind)]; omega
    · refine ⟨n, fun hx hy => ?_⟩
      obtain ⟨i1, i2⟩ := ends_in h n
      have h1 := hm _ _ i1 i2 (h.lt n)
      have h2 := hf _ _ hx (h.lt n) hy
      have : σ = τ := by
        rcases hσ with rfl | rfl <;> rcases hτ with rfl | rfl
        · rfl
        · grind
        · grind
        · rfl
      rw [e, this]
theorem nV_cnts (hS : Stm f L) : Cnts f (nV L) := ⟨fun a m b _ _ => nV_add L a m b, fun a b σ hab hσ h => nV_const hS hab hσ h, fun a b σ hab hσ h => nV_mono hS hab hσ h⟩
/-- no root: one sign -/
theorem nV_zero_ne (hS : Stm f L) {a b x : Rat} (h0 : nV L a b = 0) (hx : a < x) (hxb : x ≤ b) : f.ev x ≠ 0 := fun z => by
  have h1 := nV_root hS hx z
  have h2 : 0 ≤ nV L x b := by
    by_cases e : x = b
    · rw [e]; unfold nV; omega
    · exact nV_nonneg hS (by grind)
  have := nV_add L a x b
  omega
/-- signs that differ: a root between -/
theorem nV_change (hS : Stm f L) {a b : Rat} (hab : a < b) (h : f.ev a * f.ev b < 0) : 1 ≤ nV L a b := by
  refine bisect (P := fun a b => f.ev a * f.ev b < 0 → 1 ≤ nV L a b) (fun a m b h1 h2 p q hb => ?_) hab (fun A B h _ _ => ?_) h
  · rw [nV_add L a m b]
    have g1 := nV_nonneg hS h1
    have g2 := nV_nonneg hS h2
    by_cases z : f.ev m = 0
    · have := nV_root hS h1 z
      omega
    · by_cases y : f.ev a * f.ev m < 0
      · have := p y
        omega
      · have hbm : f.ev m * f.ev b < 0 := by
          have e1 : 0 < f.ev a * f.ev m := by
            have : f.ev a ≠ 0 := fun w => by rw [w, Rat.zero_mul] at hb; exact absurd hb (by decide)
            have : f.ev a * f.ev m ≠ 0 := fun w => by
              rcases Rat.mul_eq_zero.mp w with w | w
              · exact this w
              · exact z w
            grind
          by_cases w : f.ev m * f.ev b < 0
          · exact w
          · have h5 := Rat.mul_nonneg (Rat.le_of_lt e1) (show (0 : Rat) ≤ f.ev m * f.ev b by grind)
            have h6 : 0 < f.ev m * f.ev m := by
              by_cases pos : 0 < f.ev m
              · exact Rat.mul_pos pos pos
              · have := Rat.mul_pos (show 0 < -f.ev m by grind) (show 0 < -f.ev m by grind)
                grind
            have h7 := Rat.mul_pos h6 (show 0 < -(f.ev a * f.ev b) by grind)
            exfalso
            generalize f.ev a = x at *
            generalize f.ev m = y at *
            generalize f.ev b = t at *
            grind
        have := q hbm
        omega
  · obtain ⟨n, ⟨σ, hσ, hs, e⟩ | ⟨σ, hσ, hm, e⟩⟩ := loc_ends h hS
    · obtain ⟨i1, i2⟩ := ends_in h n
      refine ⟨n, fun z => ?_⟩
      have h1 := hs _ i1
      have h2 := hs _ i2
      have := Rat.mul_pos h1 h2
      rcases hσ with rfl | rfl <;> grind
    · obtain ⟨i1, i2⟩ := ends_in h n
      have h1 := hm _ _ i1 i2 (h.lt n)
      refine ⟨n, fun z => ?_⟩
      have h2 : σ * f.ev (A n) < 0 ∧ ¬ σ * f.ev (B n) < 0 := by
        have e3 : (σ * f.ev (A n)) * (σ * f.ev (B n)) = f.ev (A n) * f.ev (B n) := by rcases hσ with rfl | rfl <;> grind
        rw [← e3] at z
        generalize σ * f.ev (A n) = u at *
        generalize σ * f.ev (B n) = v at *
        by_cases hu : u < 0
        · refine ⟨hu, fun hv => ?_⟩
          have := Rat.mul_pos (show 0 < -u by grind) (show 0 < -v by grind)
          grind
        · exfalso
          have := Rat.mul_nonneg (show (0 : Rat) ≤ u by grind) (show (0 : Rat) ≤ v by grind)
          grind
      rw [e, if_pos h2.1, if_neg h2.2]
      omega
end
/-! ### cutting -/
def wideGo (f : QX) (L : List QX) (half : Rat) : Nat → Rat → Option Rat
  | 0, _ => none
  | n + 1, w => if 1 < nV L (half - w) (half + w) ∨ f.ev (half - w) = 0 ∨ f.ev (half + w) = 0 then wideGo f L half n (w * mkRat 1 2) else some w
def cutGo (f : QX) (L : List QX) (W : Nat) : Nat → Rat → Rat → Option (List (Rat × Rat))
  | 0, _, _ => none
  | n + 1, lo, hi => if nV L lo hi = 0 then some [] else if nV L lo hi = 1 then some [(lo, hi)] else
    if f.ev ((lo + hi) * mkRat 1 2) ≠ 0 then
      match cutGo f L W n lo ((lo + hi) * mkRat 1 2), cutGo f L W n ((lo + hi) * mkRat 1 2) hi with
      | some a, some b => some (a ++ b)
      | _, _ => none
    else match wideGo f L ((lo + hi) * mkRat 1 2) W ((hi - lo) * mkRat 1 4) with
      | none => none
      | some w => match cutGo f L W n lo ((lo + hi) * mkRat 1 2 - w), cutGo f L W n ((lo + hi) * mkRat 1 2 + w) hi with
        | some a, some b => some (a ++ [((lo + hi) * mkRat 1 2 - w, (lo + hi) * mkRat 1 2 + w)] ++ b)
        | _, _ => none
theorem half_eq : mkRat 1 2 = (1 : Rat) / 2 := by decide +kernel
theorem quart_eq : mkRat 1 4 = (1 : Rat) / 4 := by decide +kernel
/-- roots stand apart -/
def Sep (L : List QX) (δ : Rat) : Prop := ∀ a b, a < b → b - a ≤ δ → nV L a b ≤ 1
theorem wide_ok {f : QX} {L : List QX} (hS : Stm f L) {δ half : Rat} (hδ : Sep L δ) (hh : f.ev half = 0) : ∀ (n : Nat) (w : Rat), 0 < w → 3 * w ≤ δ * 2 ^ n → ∃ v, wideGo f L half (n + 1) w = some v ∧ 0 < v ∧ v ≤ w ∧ nV L (half - v) (half + v) = 1 ∧ f.ev (half - v) ≠ 0 ∧ f.ev (half + v) ≠ 0
  | n, w, hw, hn => by
    have stop : ∀ v, 0 < v → ¬ (1 < nV L (half - v) (half + v) ∨ f.ev (half - v) = 0 ∨ f.ev (half + v) = 0) → nV L (half - v) (half + v) = 1 ∧ f.ev (half - v) ≠ 0 ∧ f.ev (half + v) ≠ 0 := fun v hv hz => by
      have h1 := nV_root hS (show half - v < half by grind) hh
      have h2 := nV_nonneg hS (show half < half + v by grind)
      have h3 := nV_add L (half - v) half (half + v)
      exact ⟨by omega, fun y => hz (.inr (.inl y)), fun y => hz (.inr (.inr y))⟩
    unfold wideGo
    by_cases hz : 1 < nV L (half - w) (half + w) ∨ f.ev (half - w) = 0 ∨ f.ev (half + w) = 0
    · rw [if_pos hz]
      cases n with
      | zero =>
        exfalso
        rw [Rat.pow_zero, Rat.mul_one] at hn
        have hall : nV L (half - 2 * w) (half + w) ≤ 1 := hδ _ _ (by grind) (by grind)
        have a1 := nV_add L (half - 2 * w) (half - w) (half + w)
        have a2 := nV_nonneg hS (show half - 2 * w < half - w by grind)
        have a3 := nV_nonneg hS (show half - w < half by grind)
        have a4 := nV_root hS (show half - w < half by grind) hh
        have a5 := nV_add L (half - w) half (half + w)
        have a6 := nV_nonneg hS (show half < half + w by grind)
        rcases hz with z | z | z
        · omega
        · have := nV_root hS (show half - 2 * w < half - w by grind) z
          omega
        · have := nV_root hS (show half < half + w by grind) z
          omega
      | succ n =>
        obtain ⟨v, e, h1, h2, h3⟩ := wide_ok hS hδ hh n (w * mkRat 1 2) (by rw [half_eq]; grind) (by
          rw [half_eq]
          rw [Rat.pow_succ] at hn
          grind)
        refine ⟨v, e, h1, ?_, h3⟩
        rw [half_eq] at h2
        grind
    · rw [if_neg hz]
      exact ⟨w, rfl, hw, Rat.le_refl, stop w hw hz⟩
/-- what is cut: rising, apart, in each one root, all in one, no end a root -/
structure CutOk (f : QX) (L : List QX) (lo hi : Rat) (l : List (Rat × Rat)) : Prop where
  len : (l.length : Int) = nV L lo hi
  at_ : ∀ p ∈ l, lo ≤ p.1 ∧ p.1 < p.2 ∧ p.2 ≤ hi ∧ nV L p.1 p.2 = 1 ∧ f.ev p.1 ≠ 0 ∧ f.ev p.2 ≠ 0
  ord : l.Pairwise fun p q => p.2 ≤ q.1
theorem CutOk.app {f : QX} {L : List QX} {lo m m' hi : Rat} {a b : List (Rat × Rat)} {mid : List (Rat × Rat)} (hm : (mid = [] ∧ m = m') ∨ (mid = [(m, m')] ∧ m < m' ∧ nV L m m' = 1 ∧ f.ev m ≠ 0 ∧ f.ev m' ≠ 0)) (h1 : lo < m) (h2 : m' < hi) (ha : CutOk f L lo m a) (hb : CutOk f L m' hi b) : CutOk f L lo hi (a ++ mid ++ b) where
  len := by
    have e1 := nV_add L lo m hi
    have e2 := nV_add L m m' hi
    rw [List.length_append, List.length_append, Int.natCast_add, Int.natCast_add, ha.len, hb.len]
    rcases hm with ⟨rfl, rfl⟩ | ⟨rfl, _, h3, _⟩
    · have : nV L m m = 0 := by unfold nV; omega
      show nV L lo m + 0 + nV L m hi = _
      omega
    · show nV L lo m + 1 + nV L m' hi = _
      omega
  at_ := fun p hp => by
    have hmm : m ≤ m' := by
      rcases hm with ⟨_, rfl⟩ | ⟨_, h, _⟩
      · exact Rat.le_refl
      · exact Rat.le_of_lt h
    rcases List.mem_append.mp hp with hp | hp
    · rcases List.mem_append.mp hp with hp | hp
      · obtain ⟨g1, g2, g3, g4⟩ := ha.at_ p hp
        exact ⟨g1, g2, by grind, g4⟩
      · rcases hm with ⟨rfl, _⟩ | ⟨rfl, h3, h4, h5⟩
        · cases hp
        · rw [List.mem_singleton.mp hp]
          exact ⟨Rat.le_of_lt h1, h3, Rat.le_of_lt h2, h4, h5⟩
    · obtain ⟨g1, g2, g3, g4⟩ := hb.at_ p hp
      exact ⟨by grind, g2, g3, g4⟩
  ord := by
    have hmm : m ≤ m' := by
      rcases hm with ⟨_, rfl⟩ | ⟨_, h, _⟩
      · exact Rat.le_refl
      · exact Rat.le_of_lt h
    have hmid : ∀ p ∈ mid, m ≤ p.1 ∧ p.2 ≤ m' := fun p hp => by
      rcases hm with ⟨rfl, _⟩ | ⟨rfl, h3, h4, h5⟩
      · cases hp
      · rw [List.mem_singleton.mp hp]
        exact ⟨Rat.le_refl, Rat.le_refl⟩
    refine List.pairwise_append.mpr ⟨List.pairwise_append.mpr ⟨ha.ord, ?_, fun p hp q hq => ?_⟩, hb.ord, fun p hp q hq => ?_⟩
    · rcases hm with ⟨rfl, _⟩ | ⟨rfl, _⟩
      · exact List.Pairwise.nil
      · exact List.pairwise_singleton _ _
    · have := (ha.at_ p hp).2.2.1
      have := (hmid q hq).1
      grind
    · have hq1 := (hb.at_ q hq).1
      rcases List.mem_append.mp hp with hp | hp
      · have := (ha.at_ p hp).2.2.1
        grind
      · have := (hmid p hp).2
        grind
theorem cut_ok {f : QX} {L : List QX} (hS : Stm f L) {δ : Rat} {W : Nat} (hδ : Sep L δ) : ∀ (n : Nat) (lo hi : Rat), lo < hi → f.ev lo ≠ 0 → f.ev hi ≠ 0 → hi - lo ≤ δ * 2 ^ n → hi - lo ≤ δ * 2 ^ W → ∃ l, cutGo f L (W + 1) (n + 1) lo hi = some l ∧ CutOk f L lo hi l
  | n, lo, hi, hlt, f1, f2, hn, hW => by
    unfold cutGo
    by_cases h0 : nV L lo hi = 0
    · rw [if_pos h0]
      exact ⟨[], rfl, by rw [h0]; rfl, fun p hp => (nomatch hp), List.Pairwise.nil⟩
    rw [if_neg h0]
    by_cases h1 : nV L lo hi = 1
    · rw [if_pos h1]
      exact ⟨[(lo, hi)], rfl, by rw [h1]; rfl, fun p hp => by
        rw [List.mem_singleton.mp hp]
        exact ⟨Rat.le_refl, hlt, Rat.le_refl, h1, f1, f2⟩, List.pairwise_singleton _ _⟩
    rw [if_neg h1]
    have hnn := nV_nonneg hS hlt
    cases n with
    | zero =>
      exfalso
      rw [Rat.pow_zero, Rat.mul_one] at hn
      have := hδ lo hi hlt hn
      omega
    | succ n =>
      have hn : hi - lo ≤ 2 * (δ * 2 ^ n) := by
        rw [Rat.pow_succ, ← Rat.mul_assoc, Rat.mul_comm _ 2] at hn
        exact hn
      have hh1 : (hi - lo) / 2 ≤ δ * 2 ^ n := by
        generalize δ * 2 ^ n = t at hn
        grind
      have em : (lo + hi) * mkRat 1 2 = (lo + hi) / 2 := by rw [half_eq]; grind
      rw [em]
      generalize hmid : (lo + hi) / 2 = m at *
      have hm1 : lo < m := by grind
      have hm2 : m < hi := by grind
      by_cases hz : f.ev m ≠ 0
      · rw [if_pos hz]
        obtain ⟨a, ea, ha⟩ := cut_ok hS hδ n lo m hm1 f1 hz (Rat.le_trans (by grind) hh1) (Rat.le_trans (by grind) hW)
        obtain ⟨b, eb, hb⟩ := cut_ok hS hδ n m hi hm2 hz f2 (Rat.le_trans (by grind) hh1) (Rat.le_trans (by grind) hW)
        rw [ea, eb]
        refine ⟨a ++ b, rfl, ?_⟩
        have := CutOk.app (mid := []) (.inl ⟨rfl, rfl⟩) hm1 hm2 ha hb
        rw [List.append_nil] at this
        exact this
      · rw [if_neg hz]
        have hz : f.ev m = 0 := Classical.not_not.mp hz
        have eq4 : (hi - lo) * mkRat 1 4 = (hi - lo) / 4 := by rw [quart_eq]; grind
        rw [eq4]
        obtain ⟨v, ev, v0, v1, v2, v3, v4⟩ := wide_ok hS hδ hz W ((hi - lo) / 4) (by grind) (Rat.le_trans (by grind) hW)
        rw [ev]
        obtain ⟨a, ea, ha⟩ := cut_ok hS hδ n lo (m - v) (by grind) f1 v3 (Rat.le_trans (by grind) hh1) (Rat.le_trans (by grind) hW)
        obtain ⟨b, eb, hb⟩ := cut_ok hS hδ n (m + v) hi (by grind) v4 f2 (Rat.le_trans (by grind) hh1) (Rat.le_trans (by grind) hW)
        show ∃ l, (match cutGo f L (W + 1) (n + 1) lo (m - v), cutGo f L (W + 1) (n + 1) (m + v) hi with | some a, some b => some (a ++ [(m - v, m + v)] ++ b) | _, _ => none) = some l ∧ _
        rw [ea, eb]
        exact ⟨_, rfl, CutOk.app (.inr ⟨rfl, by grind, v2, v3, v4⟩) (by grind) (by grind) ha hb⟩
end An

/-! Sizes of places; what the defs about places bring, by data. -/
namespace An
open PySem PySem.Spec PyProof.Rows L2
def Gr (D j : Nat) (x : Rat) : Prop := ∃ k : Int, x * ((D * 2 ^ j : Nat) : Rat) = (k : Rat)
theorem Gr.up {D j : Nat} {x : Rat} (h : Gr D j x) : ∀ i, Gr D (j + i) x
  | 0 => h
  | i + 1 => by
    obtain ⟨k, e⟩ := h.up i
    refine ⟨k * 2, ?_⟩
    rw [show j + (i + 1) = (j + i) + 1 from rfl, Nat.pow_succ, ← Nat.mul_assoc, Rat.natCast_mul, Rat.intCast_mul, ← e, ← Rat.mul_assoc]
    rfl
theorem Gr.mono {D j j' : Nat} {x : Rat} (h : Gr D j x) (k : j ≤ j') : Gr D j' x := by
  have := h.up (j' - j)
  rwa [show j + (j' - j) = j' by omega] at this
theorem Gr.add {D j : Nat} {x y : Rat} (h : Gr D j x) (k : Gr D j y) : Gr D j (x + y) := by
  obtain ⟨a, e⟩ := h
  obtain ⟨b, e'⟩ := k
  exact ⟨a + b, by rw [Rat.add_mul, e, e', Rat.intCast_add]⟩
theorem Gr.sub {D j : Nat} {x y : Rat} (h : Gr D j x) (k : Gr D j y) : Gr D j (x - y) := by
  obtain ⟨a, e⟩ := h
  obtain ⟨b, e'⟩ := k
  exact ⟨a - b, by rw [Rat.sub_eq_add_neg, Rat.add_mul, Rat.neg_mul, e, e', Rat.intCast_sub, Rat.sub_eq_add_neg]⟩
theorem Gr.half {D j : Nat} {x : Rat} (h : Gr D j x) : Gr D (j + 1) (x * mkRat 1 2) := by
  obtain ⟨a, e⟩ := h
  refine ⟨a, ?_⟩
  rw [Nat.pow_succ, ← Nat.mul_assoc, Rat.natCast_mul, ← e, half_eq]
  have : ((2 : Nat) : Rat) = 2 := rfl
  rw [this]
  generalize ((D * 2 ^ j : Nat) : Rat) = t
  grind
theorem Gr.quart {D j : Nat} {x : Rat} (h : Gr D j x) : Gr D (j + 2) (x * mkRat 1 4) := by
  have := h.half.half
  have e : x * mkRat 1 4 = x * mkRat 1 2 * mkRat 1 2 := by rw [quart_eq, half_eq]; grind
  rw [e]
  exact this
theorem rz_gr {D j b c : Nat} {x : Rat} (h0 : 0 < D) (hc : D < 2 ^ c) (h : Gr D j x) (hb : Bd ((2 ^ b : Nat) : Rat) x) : Rz (b + c + j + 1) x := by
  obtain ⟨k, e⟩ := h
  have hp : 0 < 2 ^ j := Nat.pow_pos (by decide)
  have hD : 0 < D * 2 ^ j := Nat.mul_pos h0 hp
  have hlt : D * 2 ^ j < 2 ^ (c + j) := by
    rw [Nat.pow_add]
    exact Nat.mul_lt_mul_of_pos_right hc hp
  have hk : k.natAbs ≤ 2 ^ b * (D * 2 ^ j) := by
    have hpos : (0 : Rat) ≤ ((D * 2 ^ j : Nat) : Rat) := Rat.le_of_lt (natR_pos0 hD)
    have em : ((2 ^ b * (D * 2 ^ j) : Nat) : Rat) = ((2 ^ b : Nat) : Rat) * ((D * 2 ^ j : Nat) : Rat) := Rat.natCast_mul _ _
    have h1 : (k : Rat) ≤ ((2 ^ b * (D * 2 ^ j) : Nat) : Rat) := by
      rw [em, ← e]
      have := Rat.mul_le_mul_of_nonneg_left hb.2 hpos
      generalize ((D * 2 ^ j : Nat) : Rat) = t at *
      grind
    have h2 : ((-k : Int) : Rat) ≤ ((2 ^ b * (D * 2 ^ j) : Nat) : Rat) := by
      rw [em, Rat.intCast_neg, ← e]
      have h3 : -x ≤ ((2 ^ b : Nat) : Rat) := by have := hb.1; grind
      have := Rat.mul_le_mul_of_nonneg_left h3 hpos
      generalize ((D * 2 ^ j : Nat) : Rat) = t at *
      grind
    rw [← Rat.intCast_natCast] at h1 h2
    have h1' := Rat.intCast_le_intCast.mp h1
    have h2' := Rat.intCast_le_intCast.mp h2
    omega
  refine rz_quot (t := k) (d := ((D * 2 ^ j : Nat) : Int)) (by omega) ?_ ?_ (by rw [Rat.intCast_natCast]; exact e)
  · rw [Int.natAbs_natCast]
    exact Nat.lt_of_lt_of_le hlt (Nat.pow_le_pow_right (by decide) (by omega))
  · have h4 : 2 ^ b * (D * 2 ^ j) < 2 ^ b * 2 ^ (c + j) := Nat.mul_lt_mul_of_pos_left hlt (Nat.pow_pos (by decide))
    rw [← Nat.pow_add] at h4
    exact Nat.lt_of_le_of_lt hk (Nat.lt_of_lt_of_le h4 (Nat.pow_le_pow_right (by decide) (by omega)))
/-! ### by data -/
def eQp (s : QX) : D := eP s.p
def eCh (L : List QX) : D := .list (L.map eQp)
theorem natF' (n : Nat) : (PyData.tuple [.int (n : Nat), .int 1] : D) = eF ((n : Nat) : Rat) := by
  unfold eF
  rw [Rat.num_natCast, Rat.den_natCast]
  rfl
def onceQ (f : QX) : QX := qquo f (qsh f f.der)
def vPlain (ds : List D) (d : D) : Prop := ∃ (a : QX) (n : Nat), ds = [eP a.p] ∧ CZ n a.p ∧ a.len ≤ 100 ∧ 10 * n + 20 ≤ LIM ∧ d = eP (plainQ a).p
def vOnce (ds : List D) (d : D) : Prop := ∃ (f : QX) (B : Nat) (G : QX → QX → Prop), ds = [eP f.p] ∧ f ≠ 0 ∧ EuG B G ∧ G f f.der ∧ 46 * B + 44 ≤ LIM ∧ d = eP (onceQ f).p
def vChain (ds : List D) (d : D) : Prop := ∃ (f : QX) (n l : Nat), ds = [eP f.p] ∧ f ≠ 0 ∧ CZ n f.p ∧ f.len ≤ l ∧ l ≤ 13 ∧ 23 * gz (n + 4) l + 44 ≤ LIM ∧ d = eCh (chainL f)
/-- a chain of few enough bits -/
structure ChZ (L : List QX) (N : Nat) : Prop where
  pos : 0 < N
  len : L.length ≤ 20
  at_ : ∀ s ∈ L, PZ N s.p ∧ s.len ≤ 13
def vChanges (ds : List D) (d : D) : Prop := ∃ (L : List QX) (x : Rat) (N m : Nat), ds = [eCh L, eF x] ∧ ChZ L N ∧ Rz m x ∧ 15 * (N + m + 1) ≤ LIM ∧ d = .int (chg L x : Nat)
def vBetween (ds : List D) (d : D) : Prop := ∃ (L : List QX) (x y : Rat) (N m : Nat), ds = [eCh L, eF x, eF y] ∧ ChZ L N ∧ Rz m x ∧ Rz m y ∧ 15 * (N + m + 1) ≤ LIM ∧ d = .int (nV L x y)
theorem GZ.nextP {N : Nat} {a b : QX} (h : GZ N a b) (hb : b ≠ 0) : GZ N b (nxt a b) := by
  obtain ⟨n, m, h1, h2, h3, h4⟩ := (h.next hb).z
  refine ⟨n, m, h1, ?_, h3, nxt_len hb⟩
  exact cz_plain (κ := -1) (by decide) (by rw [C_neg]; show _ = -(1 : QX) * _; grind) h2
theorem chGo_sz {N : Nat} : ∀ (n : Nat) (a b : QX), GZ N a b → ∀ s ∈ chGo n a b, CZ (N / 2) s.p ∧ s.len ≤ a.len
  | 0, a, b, h, s, hs => by
    have : s = a := List.mem_singleton.mp hs
    rw [this]
    exact ⟨h.sz.1, Nat.le_refl _⟩
  | n + 1, a, b, h, s, hs => by
    unfold chGo at hs
    split at hs
    · have : s = a := List.mem_singleton.mp hs
      rw [this]
      exact ⟨h.sz.1, Nat.le_refl _⟩
    · rename_i h0
      have hb : b ≠ 0 := fun z => h0 (len_zero.mpr z)
      rcases List.mem_cons.mp hs with z | z
      · rw [z]
        exact ⟨h.sz.1, Nat.le_refl _⟩
      · obtain ⟨_, _, _, _, _, hl⟩ := h.z
        have := chGo_sz n b (nxt a b) (h.nextP hb) s z
        exact ⟨this.1, by omega⟩
theorem chGo_len : ∀ (n : Nat) (a b : QX), (chGo n a b).length ≤ n + 1
  | 0, _, _ => Nat.le_refl _
  | n + 1, a, b => by
    unfold chGo
    split
    · show 1 ≤ _; omega
    · rw [List.length_cons]
      have := chGo_len n b (nxt a b)
      omega
theorem gz_start {f : QX} {n l : Nat} (hf : f ≠ 0) (h : CZ n f.p) (hl : f.len ≤ l) (hl2 : l ≤ 13) : GZ (gz (n + 4) l) (plainQ f) (plainQ f.der) := by
  refine ⟨n + 4, n + 4, (cz_plain1 h).mono (by omega), cz_plain1 (cz_pder h (by show f.len ≤ 16; omega)), ?_, ?_⟩
  · rw [plainQ_len]
    exact gz_at hl (by omega)
  · rw [plainQ_len, plainQ_len, der_len]
    have := pos_len hf
    omega
theorem chain_z {f : QX} {n l : Nat} (hf : f ≠ 0) (h : CZ n f.p) (hl : f.len ≤ l) (hl2 : l ≤ 13) : ChZ (chainL f) (gz (n + 4) l / 2) := by
  have hg := gz_start hf h hl hl2
  have hgn := gz_n (n + 4) l
  refine ⟨by omega, ?_, fun s hs => ?_⟩
  · refine Nat.le_trans (chGo_len _ _ _) ?_
    rw [plainQ_len, der_len]
    omega
  · have := chGo_sz _ _ _ hg s hs
    rw [plainQ_len] at this
    exact ⟨this.1.pz, by omega⟩
/-! ### counts of whole numbers -/
def cntI (zs : List Int) : Nat := ((zs.zip zs.tail).filter fun q => decide (decide (0 < q.1) ≠ decide (0 < q.2))).length
theorem num_ne {q : Rat} : q.num ≠ 0 ↔ q ≠ 0 := by
  rw [Ne, Rat.num_eq_zero]
theorem num_lt {q : Rat} : 0 < q.num ↔ 0 < q := by
  have h1 := @Rat.num_nonneg q
  have h2 : q.num = 0 ↔ q = 0 := Rat.num_eq_zero
  constructor
  · intro h
    refine Rat.lt_of_le_of_ne (h1.mp (by omega)) fun z => ?_
    have := h2.mpr z.symm
    omega
  · intro h
    have a1 := h1.mpr (Rat.le_of_lt h)
    have a2 : q.num ≠ 0 := fun z => by
      rw [h2.mp z] at h
      exact Rat.lt_irrefl h
    omega
theorem cntI_eq : ∀ l : List Rat, cntI (l.map (·.num)) = cnt l
  | [] => rfl
  | [_] => rfl
  | a :: b :: r => by
    have ih := cntI_eq (b :: r)
    unfold cntI at ih ⊢
    show (((a.num, b.num) :: (((b :: r).map (·.num)).zip ((b :: r).map (·.num)).tail)).filter _).length = _
    rw [List.filter_cons]
    have e : decide (decide (0 < a.num) ≠ decide (0 < b.num)) = !decide (decide (0 < a) = decide (0 < b)) := by
      rw [decide_eq_decide.mpr (num_lt (q := a)), decide_eq_decide.mpr (num_lt (q := b)), ← decide_not]
    show (if decide (decide (0 < a.num) ≠ decide (0 < b.num)) = true then _ else _ : List (Int × Int)).length = (if decide (0 < a) = decide (0 < b) then 0 else 1) + cnt (b :: r)
    rw [e]
    by_cases z : decide (0 < a) = decide (0 < b)
    · rw [if_pos z, decide_eq_true z, if_neg (by decide), ih]
      omega
    · rw [if_neg z, decide_eq_false z, if_pos (by decide), List.length_cons, ih]
      omega
theorem chg_eq (L : List QX) (x : Rat) : cntI ((L.map fun s => (s.ev x).num).filter fun z => decide (z ≠ 0)) = chg L x := by
  unfold chg vr
  rw [← cntI_eq]
  congr 1
  induction L with
  | nil => rfl
  | cons s L ih =>
    rw [List.map_cons, List.map_cons, List.filter_cons, List.filter_cons]
    by_cases z : s.ev x = 0
    · rw [if_neg (by rw [z]; decide), if_neg (by rw [z]; simp)]
      exact ih
    · rw [if_pos (decide_eq_true (num_ne.mpr z)), if_pos (decide_eq_true z), List.map_cons, ih]
theorem zip_map (as : List Int) (bs : List Int) : zipD (as.map .int) (bs.map .int) = (as.zip bs).map fun q => .tuple [.int q.1, .int q.2] := by
  refine List.ext_getElem? fun i => ?_
  unfold zipD
  rw [List.getElem?_map, List.getElem?_map, List.length_map, List.length_map]
  by_cases h : i < min as.length bs.length
  · rw [List.getElem?_range h]
    have h1 : i < as.length := by omega
    have h2 : i < bs.length := by omega
    have h3 : i < (as.zip bs).length := by rw [List.length_zip]; exact h
    rw [List.getElem?_eq_getElem h3]
    simp [List.getD, h1, h2]
  · rw [List.getElem?_eq_none (by rw [List.length_range]; omega), List.getElem?_eq_none (by rw [List.length_zip]; omega)]
    rfl
end An

/-! Polynomials whose roots are told: fractions, and roots of whole numbers. -/
namespace An
open PySem
/-- a fraction; the root of a number, above nought or below -/
inductive Rto where
  | q (r : Rat)
  | s (pos : Bool) (n : Nat)
  deriving DecidableEq
def Rto.above : Rto → Rat → Bool
  | .q r, x => decide (x < r)
  | .s true n, x => decide (x < 0) || decide (x * x < ((n : Nat) : Rat))
  | .s false n, x => decide (x < 0) && decide (((n : Nat) : Rat) < x * x)
def cA (R : List Rto) (x : Rat) : Nat := (R.filter fun ρ => ρ.above x).length
theorem sq_mono {x y : Rat} (h0 : 0 ≤ x) (h : x < y) : x * x < y * y := by
  have h1 := Rat.mul_nonneg h0 (show (0 : Rat) ≤ y - x by grind)
  have h2 := Rat.mul_pos (show 0 < y by grind) (show 0 < y - x by grind)
  grind
theorem sq_nn (x : Rat) : 0 ≤ x * x := by
  by_cases h : 0 ≤ x
  · exact Rat.mul_nonneg h h
  · have := Rat.mul_nonneg (show (0 : Rat) ≤ -x by grind) (show (0 : Rat) ≤ -x by grind)
    grind
theorem above_anti (ρ : Rto) {x y : Rat} (h : x < y) (hy : ρ.above y = true) : ρ.above x = true := by
  match ρ with
  | .q r =>
    have : y < r := of_decide_eq_true hy
    exact decide_eq_true (by grind)
  | .s true n =>
    have hy : (decide (y < 0) || decide (y * y < ((n : Nat) : Rat))) = true := hy
    show (decide (x < 0) || decide (x * x < ((n : Nat) : Rat))) = true
    rw [Bool.or_eq_true, decide_eq_true_eq, decide_eq_true_eq] at hy ⊢
    by_cases z : x < 0
    · exact .inl z
    · right
      rcases hy with w | w
      · grind
      · have := sq_mono (by grind) h
        grind
  | .s false n =>
    have hy : (decide (y < 0) && decide (((n : Nat) : Rat) < y * y)) = true := hy
    show (decide (x < 0) && decide (((n : Nat) : Rat) < x * x)) = true
    rw [Bool.and_eq_true, decide_eq_true_eq, decide_eq_true_eq] at hy ⊢
    have := sq_mono (x := -y) (y := -x) (by grind) (by grind)
    exact ⟨by grind, by grind⟩
theorem cA_split (R : List Rto) {a b : Rat} (h : a < b) : cA R a = cA R b + (R.filter fun ρ => ρ.above a && !ρ.above b).length := by
  unfold cA
  induction R with
  | nil => rfl
  | cons ρ R ih =>
    rw [List.filter_cons, List.filter_cons, List.filter_cons]
    cases ha : ρ.above a with
    | false =>
      have hb : ρ.above b = false := by
        cases hb : ρ.above b with
        | false => rfl
        | true => rw [above_anti ρ h hb] at ha; cases ha
      rw [hb]
      simp only [Bool.false_eq_true, if_false, Bool.false_and]
      exact ih
    | true =>
      cases hb : ρ.above b with
      | false =>
        simp only [if_true, Bool.false_eq_true, if_false, Bool.not_false, Bool.and_self, List.length_cons]
        omega
      | true =>
        simp only [if_true, Bool.not_true, Bool.and_false, Bool.false_eq_true, if_false, List.length_cons]
        omega
/-- bounds of a root -/
def rLo : Rto → Rat
  | .q r => r
  | .s true 2 => mkRat 1414 1000
  | .s true 3 => mkRat 1732 1000
  | .s true _ => mkRat 2236 1000
  | .s false 2 => mkRat (-1415) 1000
  | .s false 3 => mkRat (-1733) 1000
  | .s false _ => mkRat (-2237) 1000
def rHi : Rto → Rat
  | .q r => r
  | .s true 2 => mkRat 1415 1000
  | .s true 3 => mkRat 1733 1000
  | .s true _ => mkRat 2237 1000
  | .s false 2 => mkRat (-1414) 1000
  | .s false 3 => mkRat (-1732) 1000
  | .s false _ => mkRat (-2236) 1000
def okR : Rto → Prop
  | .q _ => True
  | .s _ n => n = 2 ∨ n = 3 ∨ n = 5
theorem near_lo {lo hi x : Rat} {n : Nat} (h0 : 0 < lo) (hlo : lo * lo < ((n : Nat) : Rat)) (hhi : ((n : Nat) : Rat) < hi * hi) (h1 : 0 < hi) :
    (Rto.above (.s true n) x = true → x < hi) ∧ (Rto.above (.s true n) x = false → lo ≤ x) ∧ (Rto.above (.s false n) x = true → x < -lo) ∧ (Rto.above (.s false n) x = false → -hi ≤ x) := by
  refine ⟨fun h => ?_, fun h => ?_, fun h => ?_, fun h => ?_⟩
  · have h : (decide (x < 0) || decide (x * x < ((n : Nat) : Rat))) = true := h
    rw [Bool.or_eq_true, decide_eq_true_eq, decide_eq_true_eq] at h
    by_cases z : x < hi
    · exact z
    · rcases h with w | w
      · grind
      · by_cases e : hi = x
        · rw [e] at hhi; grind
        · have := sq_mono (x := hi) (y := x) (by grind) (by grind)
          grind
  · have h : (decide (x < 0) || decide (x * x < ((n : Nat) : Rat))) = false := h
    rw [Bool.or_eq_false_iff, decide_eq_false_iff_not, decide_eq_false_iff_not] at h
    by_cases z : lo ≤ x
    · exact z
    · have := sq_mono (x := x) (y := lo) (by grind) (by grind)
      grind
  · have h : (decide (x < 0) && decide (((n : Nat) : Rat) < x * x)) = true := h
    rw [Bool.and_eq_true, decide_eq_true_eq, decide_eq_true_eq] at h
    by_cases z : x < -lo
    · exact z
    · by_cases e : -x = lo
      · have : x * x = lo * lo := by rw [← e]; grind
        grind
      · have := sq_mono (x := -x) (y := lo) (by grind) (by grind)
        grind
  · have h : (decide (x < 0) && decide (((n : Nat) : Rat) < x * x)) = false := h
    rw [Bool.and_eq_false_iff, decide_eq_false_iff_not, decide_eq_false_iff_not] at h
    by_cases z : -hi ≤ x
    · exact z
    · have := sq_mono (x := hi) (y := -x) (by grind) (by grind)
      rcases h with w | w <;> grind
theorem above_hi {ρ : Rto} (ok : okR ρ) {x : Rat} : (ρ.above x = true → x < rHi ρ) ∧ (ρ.above x = false → rLo ρ ≤ x) := by
  match ρ, ok with
  | .q r, _ => exact ⟨fun h => of_decide_eq_true h, fun h => by have := of_decide_eq_false h; show r ≤ x; grind⟩
  | .s p n, ok =>
    have ok : n = 2 ∨ n = 3 ∨ n = 5 := ok
    rcases ok with rfl | rfl | rfl
    · have h := near_lo (lo := mkRat 1414 1000) (hi := mkRat 1415 1000) (x := x) (n := 2) (by decide +kernel) (by decide +kernel) (by decide +kernel) (by decide +kernel)
      have e1 : -mkRat 1414 1000 = mkRat (-1414) 1000 := by decide +kernel
      have e2 : -mkRat 1415 1000 = mkRat (-1415) 1000 := by decide +kernel
      rw [e1, e2] at h
      cases p with
      | true => exact ⟨h.1, h.2.1⟩
      | false => exact ⟨h.2.2.1, h.2.2.2⟩
    · have h := near_lo (lo := mkRat 1732 1000) (hi := mkRat 1733 1000) (x := x) (n := 3) (by decide +kernel) (by decide +kernel) (by decide +kernel) (by decide +kernel)
      have e1 : -mkRat 1732 1000 = mkRat (-1732) 1000 := by decide +kernel
      have e2 : -mkRat 1733 1000 = mkRat (-1733) 1000 := by decide +kernel
      rw [e1, e2] at h
      cases p with
      | true => exact ⟨h.1, h.2.1⟩
      | false => exact ⟨h.2.2.1, h.2.2.2⟩
    · have h := near_lo (lo := mkRat 2236 1000) (hi := mkRat 2237 1000) (x := x) (n := 5) (by decide +kernel) (by decide +kernel) (by decide +kernel) (by decide +kernel)
      have e1 : -mkRat 2236 1000 = mkRat (-2236) 1000 := by decide +kernel
      have e2 : -mkRat 2237 1000 = mkRat (-2237) 1000 := by decide +kernel
      rw [e1, e2] at h
      cases p with
      | true => exact ⟨h.1, h.2.1⟩
      | false => exact ⟨h.2.2.1, h.2.2.2⟩
/-- it stays above a bit farther -/
theorem above_open (ρ : Rto) {a : Rat} (h : ρ.above a = true) : ∃ e, 0 < e ∧ ∀ x, x < a + e → ρ.above x = true := by
  have ext : ∀ e, 0 < e → ρ.above (a + e) = true → ∃ e, 0 < e ∧ ∀ x, x < a + e → ρ.above x = true := fun e he hh => ⟨e, he, fun x hx => above_anti ρ hx hh⟩
  have sq : ∀ t : Rat, ∀ n : Rat, 0 ≤ t → t * t < n → ∃ e, 0 < e ∧ (t + e) * (t + e) < n := fun t n ht hn => by
    -- e at most 1 with e (2 t + 1) less than what is left
    have hp : 0 < 2 * t + 2 := by grind
    by_cases big : n - t * t ≤ 2 * t + 2
    · refine ⟨(n - t * t) / (2 * t + 2) * (1 / 2), ?_, ?_⟩
      · have : 0 < (n - t * t) / (2 * t + 2) := by rw [Rat.div_def]; exact Rat.mul_pos (by grind) (Rat.inv_pos.mpr hp)
        grind
      · have e1 : (n - t * t) / (2 * t + 2) * (2 * t + 2) = n - t * t := Rat.div_mul_cancel (by grind)
        have e0 : 0 < (n - t * t) / (2 * t + 2) := by rw [Rat.div_def]; exact Rat.mul_pos (by grind) (Rat.inv_pos.mpr hp)
        have e2 : (n - t * t) / (2 * t + 2) ≤ 1 := div_le hp (by grind)
        generalize (n - t * t) / (2 * t + 2) = k at *
        have e3 := Rat.mul_nonneg (Rat.le_of_lt e0) (show (0 : Rat) ≤ 1 - k by grind)
        grind
    · refine ⟨1, by decide, by grind⟩
  match ρ, h, ext with
  | .q r, h, ext =>
    have h : a < r := of_decide_eq_true h
    exact ext ((r - a) / 2) (by grind) (decide_eq_true (by grind))
  | .s true n, h, ext =>
    have h : (decide (a < 0) || decide (a * a < ((n : Nat) : Rat))) = true := h
    by_cases z : a < 0
    · refine ext (-a / 2) (by grind) ?_
      show (decide (a + -a / 2 < 0) || _) = true
      rw [decide_eq_true (by grind), Bool.true_or]
    · rw [decide_eq_false z, Bool.false_or, decide_eq_true_eq] at h
      obtain ⟨e, e0, e1⟩ := sq a _ (by grind) h
      refine ext e e0 ?_
      show (_ || decide ((a + e) * (a + e) < ((n : Nat) : Rat))) = true
      rw [decide_eq_true e1, Bool.or_true]
  | .s false n, h, ext =>
    have h : (decide (a < 0) && decide (((n : Nat) : Rat) < a * a)) = true := h
    rw [Bool.and_eq_true, decide_eq_true_eq, decide_eq_true_eq] at h
    -- the square stays above
    have hp : 0 < -2 * a := by grind
    have e0 : 0 < (a * a - ((n : Nat) : Rat)) / (-2 * a) := by rw [Rat.div_def]; exact Rat.mul_pos (by grind) (Rat.inv_pos.mpr hp)
    have e1 : (a * a - ((n : Nat) : Rat)) / (-2 * a) * (-2 * a) = a * a - ((n : Nat) : Rat) := Rat.div_mul_cancel (by grind)
    generalize (a * a - ((n : Nat) : Rat)) / (-2 * a) = k at *
    refine ext (k / 2) (by grind) ?_
    have hn0 : (0 : Rat) ≤ ((n : Nat) : Rat) := by
      have : ((0 : Nat) : Rat) ≤ ((n : Nat) : Rat) := Rat.natCast_le_natCast.mpr (Nat.zero_le _)
      exact this
    have e2 := sq_nn (k / 2)
    have hk : k / 2 < -a := by
      by_cases z : k / 2 < -a
      · exact z
      · have := Rat.mul_nonneg (show (0 : Rat) ≤ k / 2 + a by grind) (show (0 : Rat) ≤ -2 * a by grind)
        have := Rat.mul_pos (show 0 < -a by grind) (show 0 < -a by grind)
        grind
    show (decide (a + k / 2 < 0) && decide (((n : Nat) : Rat) < (a + k / 2) * (a + k / 2))) = true
    rw [Bool.and_eq_true, decide_eq_true_eq, decide_eq_true_eq]
    have e3 := sq_nn (k / 2)
    have e4 := Rat.mul_pos (show 0 < k / 2 by grind) (show 0 < k / 2 by grind)
    exact ⟨by grind, by grind⟩
theorem cA_open (R : List Rto) (a : Rat) : ∃ e, 0 < e ∧ ∀ x, a < x → x < a + e → cA R x = cA R a := by
  induction R with
  | nil => exact ⟨1, by decide, fun _ _ _ => rfl⟩
  | cons ρ R ih =>
    obtain ⟨e, e0, he⟩ := ih
    cases h : ρ.above a with
    | true =>
      obtain ⟨d, d0, hd⟩ := above_open ρ h
      refine ⟨min e d, by grind, fun x h1 h2 => ?_⟩
      have := he x h1 (by grind)
      unfold cA at *
      rw [List.filter_cons, List.filter_cons, h, hd x (by grind)]
      simp only [if_true, List.length_cons]
      omega
    | false =>
      refine ⟨e, e0, fun x h1 h2 => ?_⟩
      have hx : ρ.above x = false := by
        cases hx : ρ.above x with
        | false => rfl
        | true => rw [above_anti ρ h1 hx] at h; cases h
      have := he x h1 h2
      unfold cA at *
      rw [List.filter_cons, List.filter_cons, h, hx]
      simpa using this
/-- a polynomial with told roots -/
structure Ex (f : QX) (R : List Rto) (δ : Rat) : Prop where
  ok : ∀ ρ ∈ R, okR ρ
  zero : ∀ x, f.ev x = 0 ↔ Rto.q x ∈ R
  sign : ∃ s0 : Bool, ∀ x, f.ev x ≠ 0 → decide (0 < f.ev x) = (s0 ^^ decide (cA R x % 2 = 1))
  pos : 0 < δ
  sep : R.Pairwise fun ρ τ => rHi ρ + δ ≤ rLo τ ∨ rHi τ + δ ≤ rLo ρ
theorem ex_few {R : List Rto} {δ : Rat} (ok : ∀ ρ ∈ R, okR ρ) (sep : R.Pairwise fun ρ τ => rHi ρ + δ ≤ rLo τ ∨ rHi τ + δ ≤ rLo ρ) {a b : Rat} (hab : a < b) (hd : b - a ≤ δ) : (R.filter fun ρ => ρ.above a && !ρ.above b).length ≤ 1 := by
  have hp := sep.filter (fun ρ => ρ.above a && !ρ.above b)
  cases e : R.filter fun ρ => ρ.above a && !ρ.above b with
  | nil => exact Nat.zero_le _
  | cons ρ l =>
    cases l with
    | nil => exact Nat.le_refl _
    | cons τ l =>
      exfalso
      rw [e] at hp
      have h1 := (List.pairwise_cons.mp hp).1 τ List.mem_cons_self
      have m1 : ρ ∈ R.filter fun ρ => ρ.above a && !ρ.above b := by rw [e]; exact List.mem_cons_self
      have m2 : τ ∈ R.filter fun ρ => ρ.above a && !ρ.above b := by rw [e]; exact List.mem_cons_of_mem _ List.mem_cons_self
      obtain ⟨i1, j1⟩ := List.mem_filter.mp m1
      obtain ⟨i2, j2⟩ := List.mem_filter.mp m2
      rw [Bool.and_eq_true, Bool.not_eq_true'] at j1 j2
      have a1 := (above_hi (ok ρ i1)).1 j1.1
      have a2 := (above_hi (ok ρ i1)).2 j1.2
      have a3 := (above_hi (ok τ i2)).1 j2.1
      have a4 := (above_hi (ok τ i2)).2 j2.2
      rcases h1 with h1 | h1 <;> grind
theorem xor_par {s0 : Bool} {n m : Nat} (h : n = m + 1) : (s0 ^^ decide (n % 2 = 1)) ≠ (s0 ^^ decide (m % 2 = 1)) := by
  have : decide (n % 2 = 1) = !decide (m % 2 = 1) := by
    rw [← decide_not]
    exact decide_eq_decide.mpr (by omega)
  rw [this]
  cases s0 <;> cases decide (m % 2 = 1) <;> decide
/-- the chain counts the roots -/
theorem ex_count {f : QX} {L : List QX} {R : List Rto} {δ : Rat} (hS : Stm f L) (hE : Ex f R δ) {a b : Rat} (hab : a < b) : nV L a b = (cA R a : Int) - cA R b := by
  obtain ⟨s0, hsg⟩ := hE.sign
  refine bisect (P := fun a b => nV L a b = (cA R a : Int) - cA R b) (fun a m b _ _ p q => ?_) hab (fun A B h _ _ => ?_)
  · show nV L a b = _
    have p : nV L a m = (cA R a : Int) - cA R m := p
    have q : nV L m b = (cA R m : Int) - cA R b := q
    rw [nV_add L a m b, p, q]
    omega
  · obtain ⟨k, hk⟩ := h.small hE.pos
    have few : ∀ n, k ≤ n → ∀ x y, Ins A B n x → Ins A B n y → x < y → cA R x = cA R y ∨ cA R x = cA R y + 1 := fun n hn x y hx hy hxy => by
      have hx' := h.ins hn hx
      have hy' := h.ins hn hy
      have h1 := ex_few hE.ok hE.sep hxy (by unfold Ins at *; grind)
      have h2 := cA_split R hxy
      omega
    rcases loc_sturm h hS with ⟨σ, V, hσ, n, hn⟩ | ⟨σ, V, hσ, n, hn, hm⟩
    · refine ⟨max n k, ?_⟩
      obtain ⟨i1, i2⟩ := ends_in h (max n k)
      have j1 := hn _ (h.ins (Nat.le_max_left n k) i1)
      have j2 := hn _ (h.ins (Nat.le_max_left n k) i2)
      have hf := few _ (Nat.le_max_right n k) _ _ i1 i2 (h.lt _)
      unfold nV
      rw [j1.2, j2.2]
      have z1 : f.ev (A (max n k)) ≠ 0 := fun z => by have := j1.1; rw [z, Rat.mul_zero] at this; exact absurd this (by decide)
      have z2 : f.ev (B (max n k)) ≠ 0 := fun z => by have := j2.1; rw [z, Rat.mul_zero] at this; exact absurd this (by decide)
      have e1 := hsg _ z1
      have e2 := hsg _ z2
      have e3 : decide (0 < f.ev (A (max n k))) = decide (0 < f.ev (B (max n k))) := by
        have g1 := j1.1
        have g2 := j2.1
        rcases hσ with rfl | rfl
        · rw [decide_eq_true (by grind), decide_eq_true (by grind)]
        · rw [decide_eq_false (by grind), decide_eq_false (by grind)]
      rcases hf with hf | hf
      · omega
      · exact absurd (e1.symm.trans (e3.trans e2)) (xor_par hf)
    · refine ⟨max n k, ?_⟩
      generalize hq : max n k = q
      obtain ⟨i1, i2⟩ := ends_in h q
      have nq : n ≤ q := by omega
      have kq : k ≤ q := by omega
      have j1 := hn _ (h.ins nq i1)
      have j2 := hn _ (h.ins nq i2)
      have hlt := h.lt q
      have jm := hm _ _ (h.ins nq i1) (h.ins nq i2) hlt
      have hf := few _ kq _ _ i1 i2 hlt
      have core : ∀ x, Ins A B q x → x < B q → f.ev x ≠ 0 → f.ev (B q) ≠ 0 → σ * f.ev x < σ * f.ev (B q) → (cA R x : Int) - cA R (B q) = (if σ * f.ev x < 0 then 1 else 0) - (if σ * f.ev (B q) < 0 then 1 else 0) := fun x hx hxB z1 z2 hlt2 => by
        have hf := few _ kq _ _ hx i2 hxB
        have e1 := hsg _ z1
        have e2 := hsg _ z2
        by_cases same : decide (0 < f.ev x) = decide (0 < f.ev (B q))
        · have : cA R x = cA R (B q) := by
            rcases hf with hf | hf
            · exact hf
            · exact absurd (e1.symm.trans (same.trans e2)) (xor_par hf)
          have hs := decide_eq_decide.mp same
          rw [this]
          rcases hσ with rfl | rfl
          · by_cases w : 1 * f.ev x < 0
            · rw [if_pos w, if_pos (by grind)]; omega
            · rw [if_neg w, if_neg (by grind)]; omega
          · by_cases w : -1 * f.ev x < 0
            · rw [if_pos w, if_pos (by grind)]; omega
            · rw [if_neg w, if_neg (by grind)]; omega
        · have : cA R x = cA R (B q) + 1 := by
            rcases hf with hf | hf
            · rw [hf] at e1
              exact absurd (e1.trans e2.symm) same
            · exact hf
          have hs : ¬ (0 < f.ev x ↔ 0 < f.ev (B q)) := fun z => same (decide_eq_decide.mpr z)
          rw [this]
          rcases hσ with rfl | rfl
          · rw [if_pos (by grind), if_neg (by grind)]; omega
          · rw [if_pos (by grind), if_neg (by grind)]; omega
      show nV L (A q) (B q) = (cA R (A q) : Int) - cA R (B q)
      have key : nV L (A q) (B q) = (if σ * f.ev (A q) < 0 then 1 else 0) - (if σ * f.ev (B q) < 0 then 1 else 0) := by
        unfold nV
        rw [j1, j2, Int.natCast_add, Int.natCast_add]
        have c1 : (((if σ * f.ev (A q) < 0 then 1 else 0 : Nat)) : Int) = if σ * f.ev (A q) < 0 then 1 else 0 := by split <;> rfl
        have c2 : (((if σ * f.ev (B q) < 0 then 1 else 0 : Nat)) : Int) = if σ * f.ev (B q) < 0 then 1 else 0 := by split <;> rfl
        rw [c1, c2]
        omega
      rw [key]
      by_cases zB : f.ev (B q) = 0
      · -- the right end is a root
        have hmem := (hE.zero (B q)).mp zB
        have hlt1 : cA R (B q) < cA R (A q) := by
          have h2 := cA_split R hlt
          have : 0 < (R.filter fun ρ => ρ.above (A q) && !ρ.above (B q)).length := by
            refine List.length_pos_of_mem (a := Rto.q (B q)) (List.mem_filter.mpr ⟨hmem, ?_⟩)
            show (decide (A q < B q) && !decide (B q < B q)) = true
            rw [decide_eq_true hlt, decide_eq_false Rat.lt_irrefl]
            rfl
          omega
        rw [zB, Rat.mul_zero] at jm
        rw [zB, Rat.mul_zero, if_pos jm, if_neg (by decide)]
        omega
      · by_cases zA : f.ev (A q) = 0
        · -- the left end is a root
          obtain ⟨e, e0, he⟩ := cA_open R (A q)
          have hex : ∃ x, A q < x ∧ x < B q ∧ x < A q + e := by
            by_cases w : e ≤ B q - A q
            · exact ⟨A q + e / 2, by grind, by grind, by grind⟩
            · exact ⟨(A q + B q) / 2, by grind, by grind, by grind⟩
          obtain ⟨x, x1, x2, x3⟩ := hex
          have hx : Ins A B q x := ⟨Rat.le_of_lt x1, Rat.le_of_lt x2⟩
          have g1 := hm _ _ (h.ins nq i1) (h.ins nq hx) x1
          have g2 := hm _ _ (h.ins nq hx) (h.ins nq i2) x2
          rw [zA, Rat.mul_zero] at g1
          have zx : f.ev x ≠ 0 := fun z => by rw [z, Rat.mul_zero] at g1; exact absurd g1 (by decide)
          have := core x hx x2 zx zB g2
          rw [he x x1 x3] at this
          rw [this, zA, Rat.mul_zero, if_neg (by decide), if_neg (c := σ * f.ev (B q) < 0) (by grind), if_neg (c := σ * f.ev x < 0) (by grind)]
        · exact (core _ i1 hlt zA zB jm).symm
theorem ex_sep {f : QX} {L : List QX} {R : List Rto} {δ : Rat} (hS : Stm f L) (hE : Ex f R δ) : Sep L δ := fun a b hab hd => by
  rw [ex_count hS hE hab]
  have h1 := ex_few hE.ok hE.sep hab hd
  have h2 := cA_split R hab
  omega
end An

/-! Polynomials made of told factors: roots, signs, sizes. -/
namespace An
open PySem
/-- what is nought where, and the sign elsewhere -/
structure SgF (g : QX) (R : List Rto) (s0 : Bool) : Prop where
  zero : ∀ x, g.ev x = 0 ↔ Rto.q x ∈ R
  sign : ∀ x, g.ev x ≠ 0 → decide (0 < g.ev x) = (s0 ^^ decide (cA R x % 2 = 1))
theorem cA_app (R S : List Rto) (x : Rat) : cA (R ++ S) x = cA R x + cA S x := by
  unfold cA
  rw [List.filter_append, List.length_append]
theorem par_add (a b : Nat) : decide ((a + b) % 2 = 1) = (decide (a % 2 = 1) ^^ decide (b % 2 = 1)) := by
  by_cases h1 : a % 2 = 1 <;> by_cases h2 : b % 2 = 1
  · rw [decide_eq_true h1, decide_eq_true h2, decide_eq_false (by omega)]; rfl
  · rw [decide_eq_true h1, decide_eq_false h2, decide_eq_true (by omega)]; rfl
  · rw [decide_eq_false h1, decide_eq_true h2, decide_eq_true (by omega)]; rfl
  · rw [decide_eq_false h1, decide_eq_false h2, decide_eq_false (by omega)]; rfl
theorem pos_mul {a b : Rat} (ha : a ≠ 0) (hb : b ≠ 0) : decide (0 < a * b) = !(decide (0 < a) ^^ decide (0 < b)) := by
  by_cases h1 : 0 < a <;> by_cases h2 : 0 < b
  · rw [decide_eq_true h1, decide_eq_true h2, decide_eq_true (Rat.mul_pos h1 h2)]; rfl
  · have := Rat.mul_pos h1 (show 0 < -b by grind)
    rw [decide_eq_true h1, decide_eq_false h2, decide_eq_false (by grind)]; rfl
  · have := Rat.mul_pos (show 0 < -a by grind) h2
    rw [decide_eq_false h1, decide_eq_true h2, decide_eq_false (by grind)]; rfl
  · have := Rat.mul_pos (show 0 < -a by grind) (show 0 < -b by grind)
    rw [decide_eq_false h1, decide_eq_false h2, decide_eq_true (by grind)]; rfl
theorem SgF.mul {g h : QX} {R S : List Rto} {s t : Bool} (a : SgF g R s) (b : SgF h S t) : SgF (g * h) (R ++ S) (!(s ^^ t)) where
  zero := fun x => by
    rw [ev_mul, Rat.mul_eq_zero, a.zero, b.zero, List.mem_append]
  sign := fun x hx => by
    rw [ev_mul] at hx ⊢
    have h1 : g.ev x ≠ 0 := fun z => hx (by rw [z, Rat.zero_mul])
    have h2 : h.ev x ≠ 0 := fun z => hx (by rw [z, Rat.mul_zero])
    rw [pos_mul h1 h2, a.sign x h1, b.sign x h2, cA_app, par_add]
    cases s <;> cases t <;> cases decide (cA R x % 2 = 1) <;> cases decide (cA S x % 2 = 1) <;> rfl
theorem sgf_C {c : Rat} (hc : c ≠ 0) : SgF (QX.C c) [] (decide (0 < c)) where
  zero := fun x => by rw [ev_C]; exact ⟨fun z => absurd z hc, fun z => nomatch z⟩
  sign := fun x _ => by
    rw [ev_C]
    show decide (0 < c) = (decide (0 < c) ^^ false)
    cases decide (0 < c) <;> rfl
theorem sgf_lin (r : Rat) : SgF (lin r) [.q r] true where
  zero := fun x => by
    rw [ev_lin, List.mem_singleton]
    exact ⟨fun z => by rw [show x = r by grind], fun z => by injection z with z; rw [z]; grind⟩
  sign := fun x hx => by
    rw [ev_lin] at hx ⊢
    unfold cA
    rw [List.filter_cons]
    by_cases z : x < r
    · have : Rto.above (.q r) x = true := decide_eq_true z
      rw [this, decide_eq_false (by grind)]
      rfl
    · have : Rto.above (.q r) x = false := decide_eq_false z
      rw [this, decide_eq_true (by grind)]
      rfl
def sqnQ (n : Nat) : QX := ⟨[-((n : Nat) : Rat), 0, 1], own_iff.mpr (.inr (by show (1 : Rat) ≠ 0; decide))⟩
def quadQ (b : Rat) (c : Rat) : QX := ⟨[c, b, 1], own_iff.mpr (.inr (by show (1 : Rat) ≠ 0; decide))⟩
theorem ev_sqn (n : Nat) (x : Rat) : (sqnQ n).ev x = x * x - ((n : Nat) : Rat) := by
  show ((0 * x + 1) * x + 0) * x + -((n : Nat) : Rat) = _
  grind
theorem ev_quad (b c x : Rat) : (quadQ b c).ev x = x * x + b * x + c := by
  show ((0 * x + 1) * x + b) * x + c = _
  grind
theorem no_root {n : Nat} (hn : n = 2 ∨ n = 3 ∨ n = 5) (x : Rat) : x * x ≠ ((n : Nat) : Rat) := fun h => by
  have h2 : x ^ 2 = ((n : Nat) : Rat) := by
    rw [Rat.pow_succ, Rat.pow_succ, Rat.pow_zero, Rat.one_mul]
    exact h
  have h3 := Rat.num_pow x 2
  rw [h2, Rat.num_natCast] at h3
  have h4 : (n : Nat) = x.num.natAbs * x.num.natAbs := by
    have := congrArg Int.natAbs h3
    rw [Int.natAbs_natCast, Int.natAbs_pow] at this
    rw [this, Nat.pow_two]
  generalize x.num.natAbs = k at *
  match k with
  | 0 => omega
  | 1 => omega
  | 2 => omega
  | k + 3 =>
    have : 3 * 3 ≤ (k + 3) * (k + 3) := Nat.mul_le_mul (by omega) (by omega)
    omega
theorem sgf_sqn {n : Nat} (hn : n = 2 ∨ n = 3 ∨ n = 5) : SgF (sqnQ n) [.s true n, .s false n] true where
  zero := fun x => by
    rw [ev_sqn]
    refine ⟨fun z => absurd (show x * x = ((n : Nat) : Rat) by grind) (no_root hn x), fun z => ?_⟩
    rcases List.mem_cons.mp z with z | z
    · cases z
    · cases List.mem_singleton.mp z
  sign := fun x hx => by
    have hne := no_root hn x
    rw [ev_sqn] at hx ⊢
    have e1 : Rto.above (.s true n) x = (decide (x < 0) || decide (x * x < ((n : Nat) : Rat))) := rfl
    have e2 : Rto.above (.s false n) x = (decide (x < 0) && decide (((n : Nat) : Rat) < x * x)) := rfl
    unfold cA
    rw [List.filter_cons, List.filter_cons, e1, e2]
    by_cases z : x < 0 <;> by_cases w : x * x < ((n : Nat) : Rat)
    · rw [decide_eq_true z, decide_eq_true w, decide_eq_false (show ¬ ((n : Nat) : Rat) < x * x by grind), decide_eq_false (show ¬ 0 < x * x - ((n : Nat) : Rat) by grind)]; rfl
    · rw [decide_eq_true z, decide_eq_false w, decide_eq_true (show ((n : Nat) : Rat) < x * x by grind), decide_eq_true (show 0 < x * x - ((n : Nat) : Rat) by grind)]; simp
    · rw [decide_eq_false z, decide_eq_true w, decide_eq_false (show ¬ ((n : Nat) : Rat) < x * x by grind), decide_eq_false (show ¬ 0 < x * x - ((n : Nat) : Rat) by grind)]; rfl
    · rw [decide_eq_false z, decide_eq_false w, decide_eq_true (show ((n : Nat) : Rat) < x * x by grind), decide_eq_true (show 0 < x * x - ((n : Nat) : Rat) by grind)]; rfl
theorem sgf_quad {b c : Rat} (h : b * b < 4 * c) : SgF (quadQ b c) [] true := by
  have pos : ∀ x, 0 < (quadQ b c).ev x := fun x => by
    rw [ev_quad]
    have := sq_nn (2 * x + b)
    grind
  refine ⟨fun x => ⟨fun z => ?_, fun z => nomatch z⟩, fun x _ => ?_⟩
  · have := pos x
    rw [z] at this
    exact absurd this (by decide)
  · rw [decide_eq_true (pos x)]
    rfl
/-! ### nothing in common -/
theorem cop_lin {r : Rat} {g : QX} (h : g.ev r ≠ 0) : Cop (lin r) g := by
  obtain ⟨q, e⟩ := root_dvd (a := g - QX.C (g.ev r)) (x := r) (by rw [ev_sub, ev_C]; grind)
  refine ⟨QX.C (-(1 / g.ev r)) * q, QX.C (1 / g.ev r), ?_⟩
  have e1 : QX.C (1 / g.ev r) * QX.C (g.ev r) = 1 := by
    rw [← C_mul, Rat.div_mul_cancel h]
    rfl
  rw [C_neg]
  generalize QX.C (1 / g.ev r) = u at *
  generalize QX.C (g.ev r) = v at *
  have e2 : g = q * lin r + v := by
    rw [← e]
    grind
  rw [e2]
  grind
theorem lin_monic (r : Rat) : Monic (lin r) := ⟨lin_ne r, rfl⟩
theorem lin_sf (r : Rat) : Cop (lin r) (lin r).der := by
  have : (lin r).der = 1 := QX.ext' (by
    rw [qx_one]
    show pder [-r, 1] = [1]
    have : pder [-r, 1] = [1 * ((0 + 1 : Nat) : Rat)] := rfl
    rw [this, Rat.one_mul]
    rfl)
  rw [this]
  exact Cop.one _
end An

/-! Bounds, pairs, what stands once: of polynomials whose factors are told. -/
namespace An
open PySem
def bndQ (f : QX) : Nat := f.p.dropLast.foldl (fun m q => max m ((q / lc f.p).num.natAbs / (q / lc f.p).den + 2)) 1
theorem bnd_go (c : Rat) : ∀ (l : Poly) (m : Nat), m ≤ l.foldl (fun m q => max m ((q / c).num.natAbs / (q / c).den + 2)) m ∧ ∀ q ∈ l, (q / c).num.natAbs / (q / c).den + 2 ≤ l.foldl (fun m q => max m ((q / c).num.natAbs / (q / c).den + 2)) m
  | [], m => ⟨Nat.le_refl _, fun q h => nomatch h⟩
  | a :: l, m => by
    obtain ⟨h1, h2⟩ := bnd_go c l (max m ((a / c).num.natAbs / (a / c).den + 2))
    refine ⟨Nat.le_trans (Nat.le_max_left _ _) h1, fun q hq => ?_⟩
    rcases List.mem_cons.mp hq with z | z
    · rw [z]; exact Nat.le_trans (Nat.le_max_right _ _) h1
    · exact h2 q z
theorem bndQ_pos (s : QX) : 0 < bndQ s := (bnd_go (lc s.p) s.p.dropLast 1).1
theorem bnd_top (c : Rat) {M : Nat} : ∀ (l : Poly) (m : Nat), m ≤ M → (∀ q ∈ l, (q / c).num.natAbs / (q / c).den + 2 ≤ M) → l.foldl (fun m q => max m ((q / c).num.natAbs / (q / c).den + 2)) m ≤ M
  | [], m, h, _ => h
  | a :: l, m, h, k => bnd_top c l _ (Nat.max_le.mpr ⟨h, k a List.mem_cons_self⟩) fun q hq => k q (List.mem_cons_of_mem _ hq)
/-- a fraction is less than its whole part and one -/
theorem whole_lt (q : Rat) : -(((q.num.natAbs / q.den + 1 : Nat) : Nat) : Rat) ≤ q ∧ q ≤ ((q.num.natAbs / q.den + 1 : Nat) : Rat) := by
  have hd := q.den_pos
  have hdr : (0 : Rat) < ((q.den : Nat) : Rat) := natR_pos0 hd
  have e : q * ((q.den : Nat) : Rat) = (q.num : Rat) := by
    have := top_eq (b := q.den) (q := q) (Nat.dvd_refl _)
    rw [Nat.div_self hd] at this
    rw [this, show ((1 : Nat) : Int) = 1 from rfl, Int.mul_one]
  have h1 : q.num.natAbs ≤ (q.num.natAbs / q.den + 1) * q.den := by
    have := Nat.div_add_mod q.num.natAbs q.den
    have := Nat.mod_lt q.num.natAbs hd
    rw [Nat.add_mul, Nat.mul_comm]
    omega
  generalize q.num.natAbs / q.den + 1 = m at *
  have h2 : -((m * q.den : Nat) : Int) ≤ q.num ∧ q.num ≤ ((m * q.den : Nat) : Int) := by omega
  have h3 := Rat.intCast_le_intCast.mpr h2.1
  have h4 := Rat.intCast_le_intCast.mpr h2.2
  rw [Rat.intCast_neg, Rat.intCast_natCast, Rat.natCast_mul, ← e] at h3
  rw [Rat.intCast_natCast, Rat.natCast_mul, ← e] at h4
  refine ⟨Rat.le_of_mul_le_mul_right (c := ((q.den : Nat) : Rat)) (by grind) hdr, Rat.le_of_mul_le_mul_right (c := ((q.den : Nat) : Rat)) h4 hdr⟩
/-- beyond what the lower ones make up -/
theorem top_wins {c x y M : Rat} (hc : 0 < c) (hy : y = x ∨ y = -x) (hx : M + 1 ≤ y) (h0 : 0 ≤ M) : ∀ l : List Rat, (∀ a ∈ l, -(M * c) ≤ a ∧ a ≤ M * c) → ∃ σ, Sg σ ∧ (y = x → σ = 1) ∧ (y = -x → x ≠ y → σ = (-1) ^ l.length) ∧ c ≤ σ * peval (l ++ [c]) x
  | [], _ => ⟨1, .inl rfl, fun _ => rfl, fun _ _ => rfl, by show c ≤ 1 * (0 * x + c); grind⟩
  | a :: l, h => by
    obtain ⟨σ, s1, s2, s4, s3⟩ := top_wins hc hy hx h0 l fun b hb => h b (List.mem_cons_of_mem _ hb)
    obtain ⟨ha1, ha2⟩ := h a List.mem_cons_self
    have e : peval (a :: l ++ [c]) x = peval (l ++ [c]) x * x + a := rfl
    rw [e]
    generalize peval (l ++ [c]) x = v at *
    have k1 := Rat.mul_nonneg (show (0 : Rat) ≤ σ * v - c by grind) (show (0 : Rat) ≤ y by grind)
    have k2 := Rat.mul_nonneg (show (0 : Rat) ≤ c by grind) (show (0 : Rat) ≤ y - M - 1 by grind)
    by_cases hyx : y = x
    · refine ⟨σ, s1, s2, fun z w => absurd hyx.symm w, ?_⟩
      have := s2 hyx
      subst this
      grind
    · have hy2 : y = -x := hy.resolve_left hyx
      have hs := s4 hy2 fun z => hyx z.symm
      refine ⟨-σ, ?_, fun z => absurd z hyx, fun _ _ => ?_, ?_⟩
      · rcases s1 with rfl | rfl
        · exact .inr rfl
        · exact .inl (by decide +kernel)
      · rw [hs, List.length_cons, Rat.pow_succ]
        grind
      · have hx' : x = -y := by grind
        clear hs s2 s4 h hy hyx e
        subst hx'
        have e2 : -σ * (v * -y + a) = σ * v * y + -σ * a := by grind
        rw [e2]
        rcases s1 with rfl | rfl <;> grind
theorem dl_eq {p : Poly} (h : p ≠ []) : p = p.dropLast ++ [lc p] := by
  have e := (List.dropLast_concat_getLast h).symm
  have : p.getLast h = lc p := by
    unfold lc coef
    rw [List.getLast_eq_getElem, List.getD_eq_getElem?_getD, List.getElem?_eq_getElem (by have := List.length_pos_iff.mpr h; omega)]
    rfl
  rw [this] at e
  exact e
theorem peval_neg : ∀ (p : Poly) (x : Rat), peval (p.map (-·)) x = -peval p x
  | [], x => by show (0 : Rat) = -0; decide +kernel
  | a :: p, x => by
    show peval (p.map (-·)) x * x + -a = -(peval p x * x + a)
    rw [peval_neg p x]
    grind
/-- beyond the bound there is no root, and one sign -/
theorem cauchy {f : QX} (hf : f ≠ 0) : (∃ σ, Sg σ ∧ ∀ x, ((bndQ f : Nat) : Rat) ≤ x → 0 < σ * f.ev x) ∧ ∃ σ, Sg σ ∧ ∀ x, x ≤ -((bndQ f : Nat) : Rat) → 0 < σ * f.ev x := by
  have hl := lc_ne f.own (ne_zero.mp hf)
  have he := dl_eq (ne_zero.mp hf)
  have hB := (bnd_go (lc f.p) f.p.dropLast 1).2
  have hp := bndQ_pos f
  have hu : (List.foldl (fun m q => max m ((q / lc f.p).num.natAbs / (q / lc f.p).den + 2)) 1 f.p.dropLast) = bndQ f := rfl
  rw [hu] at hB
  generalize bndQ f = B at *
  have hB1 : (1 : Rat) ≤ ((B : Nat) : Rat) := by
    have : ((1 : Nat) : Rat) ≤ ((B : Nat) : Rat) := Rat.natCast_le_natCast.mpr hp
    exact this
  have key : ∀ (σ0 : Rat), Sg σ0 → 0 < σ0 * lc f.p → ∀ a ∈ f.p.dropLast, -((((B : Nat) : Rat) - 1) * (σ0 * lc f.p)) ≤ σ0 * a ∧ σ0 * a ≤ (((B : Nat) : Rat) - 1) * (σ0 * lc f.p) := fun σ0 hσ hc a ha => by
    have h1 := whole_lt (a / lc f.p)
    have h2 := hB a ha
    have e1 : a / lc f.p * lc f.p = a := Rat.div_mul_cancel hl
    have h3 : (((a / lc f.p).num.natAbs / (a / lc f.p).den + 1 : Nat) : Rat) ≤ ((B : Nat) : Rat) - 1 := by
      have : (((a / lc f.p).num.natAbs / (a / lc f.p).den + 1 + 1 : Nat) : Rat) ≤ ((B : Nat) : Rat) := Rat.natCast_le_natCast.mpr h2
      rw [Rat.natCast_add] at this
      have e : ((1 : Nat) : Rat) = 1 := rfl
      rw [e] at this
      grind
    generalize (a / lc f.p).num.natAbs / (a / lc f.p).den + 1 = m at *
    generalize a / lc f.p = k at *
    generalize lc f.p = c at *
    have k1 := Rat.mul_nonneg (show (0 : Rat) ≤ ((B : Nat) : Rat) - 1 - k by grind) (Rat.le_of_lt hc)
    have k2 := Rat.mul_nonneg (show (0 : Rat) ≤ ((B : Nat) : Rat) - 1 + k by grind) (Rat.le_of_lt hc)
    subst e1
    exact ⟨by grind, by grind⟩
  have evm : ∀ σ0 x, Sg σ0 → σ0 * f.ev x = peval (f.p.dropLast.map (σ0 * ·) ++ [σ0 * lc f.p]) x := fun σ0 x hσ => by
    have : f.p.dropLast.map (σ0 * ·) ++ [σ0 * lc f.p] = f.p.map (σ0 * ·) := by
      conv => rhs; rw [he]
      rw [List.map_append]
      rfl
    rw [this]
    unfold QX.ev
    generalize f.p = p
    induction p with
    | nil => show σ0 * 0 = 0; grind
    | cons a p ih =>
      show σ0 * (peval p x * x + a) = peval (p.map (σ0 * ·)) x * x + σ0 * a
      rw [← ih]
      grind
  obtain ⟨σ0, hσ, hc⟩ : ∃ σ0, Sg σ0 ∧ 0 < σ0 * lc f.p := by
    by_cases h : 0 < lc f.p
    · exact ⟨1, .inl rfl, by grind⟩
    · exact ⟨-1, .inr rfl, by grind⟩
  have hk : ∀ a ∈ f.p.dropLast.map (σ0 * ·), -((((B : Nat) : Rat) - 1) * (σ0 * lc f.p)) ≤ a ∧ a ≤ (((B : Nat) : Rat) - 1) * (σ0 * lc f.p) := fun a ha => by
    obtain ⟨b, hb, rfl⟩ := List.mem_map.mp ha
    exact key σ0 hσ hc b hb
  refine ⟨⟨σ0, hσ, fun x hx => ?_⟩, ?_⟩
  · obtain ⟨σ, _, s2, _, s3⟩ := top_wins (x := x) (y := x) hc (.inl rfl) (show ((B : Nat) : Rat) - 1 + 1 ≤ x by grind) (by grind) _ hk
    rw [s2 rfl] at s3
    rw [evm σ0 x hσ]
    grind
  · have hone : Sg ((-1 : Rat) ^ (f.p.dropLast.map (σ0 * ·)).length) := by
      generalize (f.p.dropLast.map (σ0 * ·)).length = n
      induction n with
      | zero => exact .inl rfl
      | succ n ih =>
        rw [Rat.pow_succ]
        rcases ih with e | e <;> rw [e]
        · exact .inr (by decide +kernel)
        · exact .inl (by decide +kernel)
    refine ⟨(-1) ^ (f.p.dropLast.map (σ0 * ·)).length * σ0, ?_, fun x hx => ?_⟩
    · rcases hone with e | e <;> rcases hσ with e2 | e2 <;> rw [e, e2]
      · exact .inl (by decide +kernel)
      · exact .inr (by decide +kernel)
      · exact .inr (by decide +kernel)
      · exact .inl (by decide +kernel)
    · obtain ⟨σ, _, _, s4, s3⟩ := top_wins (x := x) (y := -x) hc (.inr rfl) (show ((B : Nat) : Rat) - 1 + 1 ≤ -x by grind) (by grind) _ hk
      rw [s4 rfl (by grind)] at s3
      rw [Rat.mul_assoc, evm σ0 x hσ]
      grind

/-! ### the bound's size -/
theorem bnd_size {f : QX} {n : Nat} (hf : f ≠ 0) (hz : CZ n f.p) : bndQ f ≤ 2 ^ (n + 1) := by
  have hl := lc_ne f.own (ne_zero.mp hf)
  obtain ⟨d, d0, d1, hd⟩ := hz
  have hn : 0 < n := by
    cases n with
    | zero => have : d.natAbs < 1 := d1; omega
    | succ n => omega
  have hp : 2 ≤ 2 ^ n := by
    have := Nat.pow_le_pow_right (n := 2) (by decide) hn
    omega
  have hps : 2 ^ (n + 1) = 2 ^ n + 2 ^ n := by rw [Nat.pow_succ]; omega
  refine bnd_top _ _ _ (by omega) fun q hq => ?_
  have hq : q ∈ f.p := by
    rw [List.dropLast_eq_take] at hq
    exact List.mem_of_mem_take hq
  obtain ⟨i, hi, e⟩ := List.mem_iff_getElem.mp hq
  have ec : coef f.p i = q := by
    unfold coef
    rw [List.getD_eq_getElem?_getD, List.getElem?_eq_getElem hi, e]
    rfl
  obtain ⟨t, t1, t2⟩ := hd i
  obtain ⟨u, u1, u2⟩ := hd (f.p.length - 1)
  rw [ec] at t2
  have u2 : lc f.p * (d : Rat) = (u : Rat) := u2
  have hdr : (d : Rat) ≠ 0 := fun z => d0 (Rat.intCast_eq_zero_iff.mp z)
  have hu0 : u ≠ 0 := fun z => by
    rw [z] at u2
    rcases Rat.mul_eq_zero.mp u2 with w | w
    · exact hl w
    · exact hdr w
  have hur : (u : Rat) ≠ 0 := fun z => hu0 (Rat.intCast_eq_zero_iff.mp z)
  have er := rz_quot (n := n) (t := t) (d := u) hu0 u1 t1 (a := q / lc f.p) (by
    rw [← u2, ← t2]
    have := Rat.div_mul_cancel (a := q) hl
    generalize q / lc f.p = k at *
    grind)
  have : (q / lc f.p).num.natAbs / (q / lc f.p).den ≤ (q / lc f.p).num.natAbs := Nat.div_le_self _ _
  have := er.1
  omega
/-! ### cut places are halves of halves -/
theorem wide_gr {f : QX} {L : List QX} {D h : Nat} {half : Rat} : ∀ (n j : Nat) (w v : Rat), Gr D j w → wideGo f L half n w = some v → Gr D (j + n) v
  | 0, j, w, v, _, e => nomatch e
  | n + 1, j, w, v, hg, e => by
    unfold wideGo at e
    split at e
    · have := wide_gr (h := h) n (j + 1) _ v hg.half e
      exact this.mono (by omega)
    · cases e
      exact hg.mono (by omega)
theorem cut_gr {f : QX} {L : List QX} {D W : Nat} : ∀ (n j : Nat) (lo hi : Rat) (l : List (Rat × Rat)), Gr D j lo → Gr D j hi → cutGo f L W n lo hi = some l → ∀ p ∈ l, Gr D (j + n * (W + 3)) p.1 ∧ Gr D (j + n * (W + 3)) p.2
  | 0, j, lo, hi, l, _, _, e => nomatch e
  | n + 1, j, lo, hi, l, h1, h2, e => by
    unfold cutGo at e
    rw [Nat.succ_mul]
    split at e
    · cases e; exact fun p hp => nomatch hp
    split at e
    · cases e
      intro p hp
      rw [List.mem_singleton.mp hp]
      exact ⟨h1.mono (by omega), h2.mono (by omega)⟩
    have gm : Gr D (j + 1) ((lo + hi) * mkRat 1 2) := (h1.add h2).half
    split at e
    · split at e
      · rename_i a b ea eb
        cases e
        intro p hp
        rcases List.mem_append.mp hp with z | z
        · have := cut_gr n (j + 1) _ _ a (h1.up 1) gm ea p z
          exact ⟨this.1.mono (by omega), this.2.mono (by omega)⟩
        · have := cut_gr n (j + 1) _ _ b gm (h2.up 1) eb p z
          exact ⟨this.1.mono (by omega), this.2.mono (by omega)⟩
      · cases e
    · split at e
      · cases e
      rename_i w hw
      have gw := wide_gr (h := 0) W (j + 2) _ w (h2.sub h1).quart hw
      have gmW : Gr D (j + 2 + W) ((lo + hi) * mkRat 1 2) := gm.mono (by omega)
      split at e
      · rename_i a b ea eb
        cases e
        intro p hp
        rcases List.mem_append.mp hp with z | z
        · rcases List.mem_append.mp z with z | z
          · have := cut_gr n (j + 2 + W) _ _ a (h1.mono (by omega)) (gmW.sub gw) ea p z
            exact ⟨this.1.mono (by omega), this.2.mono (by omega)⟩
          · rw [List.mem_singleton.mp z]
            exact ⟨(gmW.sub gw).mono (by omega), (gmW.add gw).mono (by omega)⟩
        · have := cut_gr n (j + 2 + W) _ _ b (gmW.add gw) (h2.mono (by omega)) eb p z
          exact ⟨this.1.mono (by omega), this.2.mono (by omega)⟩
      · cases e
/-- of few enough bits, and cut so far -/
structure PrZ (s : QX) (n l W k J b : Nat) (prs : List (Rat × Rat)) : Prop where
  ne : s ≠ 0
  cz : CZ n s.p
  len : s.len ≤ l
  l13 : l ≤ 13
  lim : 23 * gz (n + 4) l + 44 ≤ LIM
  few : prs.length ≤ 100
  go : 2 ≤ s.len → cutGo s (chainL s) W k (-((bndQ s : Nat) : Rat)) ((bndQ s : Nat) : Rat) = some prs
  no : s.len < 2 → prs = []
  bnd : bndQ s ≤ 2 ^ b
  dep : k * (W + 3) ≤ J
  k2 : k ≤ 150
  lim2 : 15 * (gz (n + 4) l / 2 + (b + 1 + J + 1) + 1) ≤ LIM
theorem natNegR (n : Nat) : (PyData.tuple [.int (0 - (n : Nat)), .int 1] : D) = eF (-((n : Nat) : Rat)) := by
  unfold eF
  rw [Rat.neg_num, Rat.neg_den, Rat.num_natCast, Rat.den_natCast, Int.zero_sub]
  rfl
theorem gr_nat (n : Nat) : Gr 1 0 ((n : Nat) : Rat) ∧ Gr 1 0 (-((n : Nat) : Rat)) := by
  have e : ((1 * 2 ^ 0 : Nat) : Rat) = 1 := rfl
  refine ⟨⟨n, ?_⟩, -(n : Int), ?_⟩
  · rw [e, Rat.mul_one, Rat.intCast_natCast]
  · rw [e, Rat.mul_one, Rat.intCast_neg, Rat.intCast_natCast]
/-- told roots all lie in the bound -/
theorem ex_bound {f : QX} {R : List Rto} {δ : Rat} (hf : f ≠ 0) (hS : Stm f (chainL f)) (hE : Ex f R δ) : cA R ((bndQ f : Nat) : Rat) = 0 ∧ cA R (-((bndQ f : Nat) : Rat)) = R.length := by
  obtain ⟨⟨σ, s1, s2⟩, τ, t1, t2⟩ := cauchy hf
  have far : ∀ R : List Rto, (∀ ρ ∈ R, okR ρ) → ∀ M : Rat, ∃ C, M < C ∧ cA R C = 0 ∧ cA R (-C) = R.length := fun R => by
    induction R with
    | nil => exact fun _ M => ⟨M + 1, by grind, rfl, rfl⟩
    | cons ρ R ih =>
      intro hok M
      have h1 := hok ρ List.mem_cons_self
      obtain ⟨C, c1, c2, c3⟩ := ih (fun τ h => hok τ (List.mem_cons_of_mem _ h)) (max M (max (rHi ρ) (1 - rLo ρ)))
      refine ⟨C, by grind, ?_, ?_⟩
      · have : ρ.above C = false := by
          cases h : ρ.above C with
          | false => rfl
          | true => have := (above_hi h1).1 h; grind
        unfold cA at *
        rw [List.filter_cons, this]
        exact c2
      · have : ρ.above (-C) = true := by
          cases h : ρ.above (-C) with
          | true => rfl
          | false => have := (above_hi h1).2 h; grind
        unfold cA at *
        rw [List.filter_cons, this]
        simp only [if_true, List.length_cons]
        rw [c3]
  obtain ⟨C, c1, c2, c3⟩ := far R hE.ok ((bndQ f : Nat) : Rat)
  have h1 := ex_count hS hE c1
  rw [nV_const hS c1 s1 fun x hx _ => s2 x hx, c2] at h1
  have h2 := ex_count hS hE (show -C < -((bndQ f : Nat) : Rat) by grind)
  rw [nV_const hS (show -C < -((bndQ f : Nat) : Rat) by grind) t1 fun x _ hx => t2 x hx, c3] at h2
  exact ⟨by omega, by omega⟩
theorem pr_okL {f : QX} {R : List Rto} {n l : Nat} (hf : f ≠ 0) (hc : Cop f f.der) (hE : Ex f R (mkRat 1 100)) (hz : CZ n f.p) (hl : f.len ≤ l) (hl13 : l ≤ 13) (hlim : 23 * gz (n + 4) l + 44 ≤ LIM) (hn : n ≤ 42) (hR : R.length ≤ 100) :
    ∃ prs, PrZ f n l (n + 10) (n + 10) ((n + 10) * (n + 13)) (n + 1) prs ∧ prs.length = R.length ∧ (∀ p ∈ prs, p.1 < p.2 ∧ (R.filter fun ρ => ρ.above p.1 && !ρ.above p.2).length = 1 ∧ f.ev p.1 ≠ 0 ∧ f.ev p.2 ≠ 0 ∧ Rz 3100 p.1 ∧ Rz 3100 p.2) ∧ prs.Pairwise (fun p q => p.2 ≤ q.1) := by
  have hS := chain_stm hf hc
  obtain ⟨b1, b2⟩ := ex_bound hf hS hE
  obtain ⟨⟨σ, s1, s2⟩, τ, t1, t2⟩ := cauchy hf
  have hbs := bnd_size hf hz
  have hbp := bndQ_pos f
  have hBr : (0 : Rat) < ((bndQ f : Nat) : Rat) := natR_pos0 hbp
  have hB2 : ((bndQ f : Nat) : Rat) ≤ ((2 ^ (n + 1) : Nat) : Rat) := Rat.natCast_le_natCast.mpr hbs
  have hd : ((bndQ f : Nat) : Rat) - -((bndQ f : Nat) : Rat) ≤ mkRat 1 100 * 2 ^ (n + 9) := by
    have e : (2 : Rat) ^ (n + 9) = ((2 ^ (n + 1) : Nat) : Rat) * 256 := by
      rw [Rat.natCast_pow, show n + 9 = n + 1 + 1 + 1 + 1 + 1 + 1 + 1 + 1 + 1 from rfl]
      rw [Rat.pow_succ, Rat.pow_succ, Rat.pow_succ, Rat.pow_succ, Rat.pow_succ, Rat.pow_succ, Rat.pow_succ, Rat.pow_succ]
      have e2 : ((2 : Nat) : Rat) = 2 := rfl
      rw [e2]
      generalize (2 : Rat) ^ (n + 1) = t
      grind
    have e2 : mkRat 1 100 = 1 / 100 := by decide +kernel
    rw [e, e2]
    generalize ((2 ^ (n + 1) : Nat) : Rat) = t at *
    grind
  have ne1 : f.ev (-((bndQ f : Nat) : Rat)) ≠ 0 := fun z => by
    have := t2 _ (Rat.le_refl (a := -((bndQ f : Nat) : Rat)))
    rw [z, Rat.mul_zero] at this
    exact absurd this (by decide)
  have ne2 : f.ev ((bndQ f : Nat) : Rat) ≠ 0 := fun z => by
    have := s2 _ (Rat.le_refl (a := ((bndQ f : Nat) : Rat)))
    rw [z, Rat.mul_zero] at this
    exact absurd this (by decide)
  obtain ⟨L, e, hk⟩ := cut_ok hS (ex_sep hS hE) (W := n + 9) (n + 9) (-((bndQ f : Nat) : Rat)) ((bndQ f : Nat) : Rat) (by grind) ne1 ne2 hd hd
  have hlen : L.length = R.length := by
    have := hk.len
    rw [ex_count hS hE (by grind), b1, b2] at this
    omega
  have hJ : (n + 10) * (n + 13) ≤ 52 * 55 := Nat.mul_le_mul (by omega) (by omega)
  have hrz : ∀ x, Gr 1 (0 + (n + 9 + 1) * (n + 9 + 1 + 3)) x → -((bndQ f : Nat) : Rat) ≤ x → x ≤ ((bndQ f : Nat) : Rat) → Rz 3100 x := fun x hg h1 h2 => by
    have := rz_gr (c := 1) (b := n + 1) (by decide) (by decide) hg ⟨by grind, by grind⟩
    refine this.mono ?_
    have e : n + 9 + 1 + 3 = n + 13 := by omega
    rw [e]
    have e : n + 9 + 1 = n + 10 := by omega
    rw [e]
    omega
  refine ⟨L, ⟨hf, hz, hl, hl13, hlim, by omega, fun _ => e, fun h2 => ?_, hbs, Nat.le_refl _, by omega, by unfold LIM at hlim ⊢; omega⟩, hlen, fun p hp => ?_, hk.ord⟩
  · -- a number: no roots
    have hR0 : R.length = 0 := by
      have hco : cA R (-((bndQ f : Nat) : Rat)) = cA R ((bndQ f : Nat) : Rat) := by
        have hev : ∀ x, f.ev x = f.ev 0 := fun x => by
          unfold QX.ev
          have h2 : f.p.length < 2 := h2
          match f.p, h2 with
          | [], _ => rfl
          | [c], _ => show 0 * x + c = 0 * 0 + c; grind
        have h0 := s2 _ (Rat.le_refl (a := ((bndQ f : Nat) : Rat)))
        have := ex_count hS hE (show -((bndQ f : Nat) : Rat) < ((bndQ f : Nat) : Rat) by grind)
        rw [nV_const hS (show -((bndQ f : Nat) : Rat) < ((bndQ f : Nat) : Rat) by grind) s1 fun x _ _ => by rw [hev x, ← hev ((bndQ f : Nat) : Rat)]; exact h0] at this
        omega
      omega
    exact List.length_eq_zero_iff.mp (by omega)
  · obtain ⟨g1, g2, g3, g4, g5, g6⟩ := hk.at_ p hp
    have hg := cut_gr (n + 9 + 1) 0 _ _ L (gr_nat _).2 (gr_nat _).1 e p hp
    have h1 := ex_count hS hE g2
    have h2 := cA_split R g2
    refine ⟨g2, by omega, g5, g6, hrz _ hg.1 g1 (by grind), hrz _ hg.2 (by grind) g3⟩
theorem pr_ok {f : QX} {R : List Rto} {n : Nat} (hf : f ≠ 0) (hc : Cop f f.der) (hE : Ex f R (mkRat 1 100)) (hz : CZ n f.p) (hl : f.len ≤ 7) (hn : n ≤ 40) (hR : R.length ≤ 100) :
    ∃ prs, PrZ f n 7 (n + 10) (n + 10) ((n + 10) * (n + 13)) (n + 1) prs ∧ prs.length = R.length ∧ (∀ p ∈ prs, p.1 < p.2 ∧ (R.filter fun ρ => ρ.above p.1 && !ρ.above p.2).length = 1 ∧ f.ev p.1 ≠ 0 ∧ f.ev p.2 ≠ 0 ∧ Rz 3100 p.1 ∧ Rz 3100 p.2) ∧ prs.Pairwise (fun p q => p.2 ≤ q.1) := by
  have hgz : gz (n + 4) 7 ≤ gz 44 7 := by
    unfold gz
    have : 12 * (n + 4 + 1) * 5 ^ 7 / 2 ^ 7 ≤ 12 * (44 + 1) * 5 ^ 7 / 2 ^ 7 := Nat.div_le_div_right (Nat.mul_le_mul_right _ (by omega))
    omega
  have hg2 : gz 44 7 ≤ 400000 := by decide +kernel
  exact pr_okL hf hc hE hz hl (by decide) (by unfold LIM; omega) (by omega) hR
end An

/-! Polynomials made of told factors, each so often. -/
namespace An
open PySem
theorem cz_mul {a b : QX} {n m k : Nat} (h1 : CZ n a.p) (h2 : CZ m b.p) (hk : a.len < 2 ^ k) : CZ (n + m + k) (a * b).p := cz_pmul h1 h2 hk
theorem cz_C {c : Rat} {n : Nat} (h : Rz n c) : CZ n (QX.C c).p := cz_one h
theorem C_len (c : Rat) : (QX.C c).len ≤ 1 := by
  show (trim [c]).length ≤ 1
  exact trim_len [c]
theorem cz_Cm {c : Rat} {a : QX} {n m : Nat} (h1 : Rz n c) (h2 : CZ m a.p) : CZ (n + m + 1) (QX.C c * a).p := cz_mul (cz_C h1) h2 (by have := C_len c; omega)
theorem eug_mul {B n L k : Nat} {g : QX} {G : QX → QX → Prop} (h : EuG B G) (hL : ∀ x y, G x y → x.len ≤ L ∧ y.len ≤ L) (hg : g ≠ 0) (hz : CZ n g.p) (hk : g.len < 2 ^ k) (h20 : g.len + L ≤ 20) : EuG (n + B + k) (fun x y => ∃ x' y', x = g * x' ∧ y = g * y' ∧ G x' y') where
  next := fun x y ⟨x', y', e1, e2, hG⟩ hy => by
    have hy' : y' ≠ 0 := fun z => hy (by rw [e2, z]; grind)
    refine ⟨y', qrem x' y', e2, ?_, h.next x' y' hG hy'⟩
    obtain ⟨d1, d2⟩ := qdiv_ok (a := x) hy
    obtain ⟨d3, d4⟩ := qdiv_ok (a := x') hy'
    refine (div_uniq (o := y) (q := qquo x y) (q' := qquo x' y') hy ?_ d2 ?_).2
    · rw [← d1, e1, e2]
      conv => lhs; rw [d3]
      grind
    · rw [e2]
      by_cases z : qrem x' y' = 0
      · rw [z, show g * (0 : QX) = 0 by grind, len_zero.mpr rfl, ← e2]
        have : y.len ≠ 0 := fun w => hy (len_zero.mp w)
        omega
      · rw [len_mul hg z, len_mul hg hy']
        have : g.len ≠ 0 := fun w => hg (len_zero.mp w)
        have : (qrem x' y').len ≠ 0 := fun w => z (len_zero.mp w)
        omega
  sz := fun x y ⟨x', y', e1, e2, hG⟩ => by
    obtain ⟨s1, s2, _, _⟩ := h.sz x' y' hG
    obtain ⟨l1, l2⟩ := hL x' y' hG
    have lenm : ∀ a : QX, a.len ≤ L → (g * a).len ≤ 20 := fun a ha => by
      by_cases z : a = 0
      · rw [z, show g * (0 : QX) = 0 by grind, len_zero.mpr rfl]; omega
      · rw [len_mul hg z]; omega
    rw [e1, e2]
    exact ⟨cz_mul hz s1 hk, cz_mul hz s2 hk, lenm x' l1, lenm y' l2⟩
/-- factors: of few bits and at most three fractions, once or twice -/
structure FacS (F : Fac) : Prop where
  ok : FacOk F
  sz : ∀ q ∈ F, CZ 3 q.1.p ∧ q.1.len ≤ 3
  mult : ∀ q ∈ F, 1 ≤ q.2 ∧ q.2 ≤ 2
  few : F.length ≤ 4
theorem FacS.tail {q : QX × Nat} {F : Fac} (h : FacS (q :: F)) : FacS F := ⟨h.ok.tail, fun p hp => h.sz p (List.mem_cons_of_mem _ hp), fun p hp => h.mult p (List.mem_cons_of_mem _ hp), by have := h.few; rw [List.length_cons] at this; omega⟩
theorem cz_pow3 {f g : QX} {n : Nat} (hf : CZ 3 f.p) (hl : f.len ≤ 3) (hg : CZ n g.p) : ∀ k : Nat, CZ (n + 5 * k) (f ^ k * g).p
  | 0 => by
    rw [show f ^ 0 * g = g by grind]
    exact hg
  | k + 1 => by
    rw [show f ^ (k + 1) * g = f * (f ^ k * g) by grind]
    have := cz_mul hf (cz_pow3 hf hl hg k) (k := 2) (by omega)
    exact this.mono (by omega)
theorem cz_fprod3 {e : Nat → Nat} (he : ∀ m, e m ≤ 1) : ∀ F : Fac, (∀ q ∈ F, CZ 3 q.1.p ∧ q.1.len ≤ 3) → CZ (1 + 5 * F.length) (fprod e F).p
  | [], _ => by
    show CZ 1 (1 : QX).p
    exact cz_C (c := 1) (by constructor <;> decide)
  | (f, m) :: F, h => by
    have h1 := h (f, m) List.mem_cons_self
    have := cz_pow3 h1.1 h1.2 (cz_fprod3 he F fun q hq => h q (List.mem_cons_of_mem _ hq)) (e m)
    refine this.mono ?_
    have := he m
    rw [List.length_cons]
    omega
theorem der_fprodS : ∀ (F : Fac), FacS F → ∃ T, (fprod id F).der = fprod (fun m => m - 1) F * T ∧ Cop (fprod (fun _ => 1) F) T ∧ CZ (1 + 40 * F.length) T.p
  | [], _ => ⟨0, by show (1 : QX).der = 1 * 0; rw [der_one]; grind, ⟨1, 0, by show 1 * (1 : QX) + 0 * 0 = 1; grind⟩, by rw [qx_zero]; exact cz_nil (by decide)⟩
  | (f, m) :: F, h => by
    obtain ⟨T, e, c, hz⟩ := der_fprodS F h.tail
    obtain ⟨hm, hm2⟩ : 1 ≤ m ∧ m ≤ 2 := h.mult (f, m) List.mem_cons_self
    obtain ⟨n, rfl⟩ : ∃ n, m = n + 1 := ⟨m - 1, by omega⟩
    have hc := (List.pairwise_cons.mp h.ok.cop).1
    have hsf : Cop f f.der := h.ok.sf (f, n + 1) List.mem_cons_self
    have cR : Cop f (fprod (fun _ => 1) F) := fprod_cop (fun p hp => hc p hp) _
    have eR : fprod id F = fprod (fun m => m - 1) F * fprod (fun _ => 1) F := by
      rw [← fprod_mul]
      refine fprod_congr fun q hq => ?_
      have := (h.mult q (List.mem_cons_of_mem _ hq)).1
      show q.2 = q.2 - 1 + 1
      omega
    refine ⟨QX.C ((n + 1 : Nat) : Rat) * (f.der * fprod (fun _ => 1) F) + f * T, ?_, ?_, ?_⟩
    · show (f ^ (n + 1) * fprod id F).der = f ^ (n + 1 - 1) * fprod (fun m => m - 1) F * _
      rw [der_prod, der_pow, e, eR, show n + 1 - 1 = n by omega]
      have e2 : f ^ (n + 1) = f ^ n * f := by grind
      rw [e2]
      grind
    · show Cop (f ^ 1 * fprod (fun _ => 1) F) _
      have e1 : f ^ 1 = f := by grind
      rw [e1]
      refine Cop.symm (Cop.mul (Cop.symm ?_) (Cop.symm ?_))
      · exact Cop.add (Cop.scale (natR_pos n) (hsf.mul cR))
      · have q : Cop (fprod (fun _ => 1) F) (f * T + fprod (fun _ => 1) F * (QX.C ((n + 1 : Nat) : Rat) * f.der)) := Cop.add (cR.symm.mul c)
        have e3 : f * T + fprod (fun _ => 1) F * (QX.C ((n + 1 : Nat) : Rat) * f.der) = QX.C ((n + 1 : Nat) : Rat) * (f.der * fprod (fun _ => 1) F) + f * T := by grind
        rw [e3] at q
        exact q
    · obtain ⟨z1, z2⟩ := h.sz (f, n + 1) List.mem_cons_self
      have z1 : CZ 3 f.p := z1
      have z2 : f.len ≤ 3 := z2
      have hfew := h.few
      rw [List.length_cons] at hfew
      have zd : CZ 7 f.der.p := cz_pder z1 (by show f.len ≤ 16; omega)
      have ld : f.der.len ≤ 2 := by rw [der_len]; omega
      have a1 := cz_mul zd (cz_fprod3 (e := fun _ => 1) (fun _ => Nat.le_refl _) F h.tail.sz) (k := 2) (by omega)
      have rn : Rz 2 (((n + 1 : Nat) : Nat) : Rat) := ⟨by rw [Rat.num_natCast]; omega, by rw [Rat.den_natCast]; decide⟩
      have a2 := cz_Cm rn a1
      have a3 := cz_mul z1 hz (k := 2) (by omega)
      have := cz_padd a2 a3
      refine CZ.mono (n := _) this ?_
      rw [List.length_cons]
      omega
/-- what stands once, of what is told -/
theorem once_ok {F : Fac} {c : Rat} (h : FacS F) (hc : c ≠ 0) (hz : Rz 3 c) (hl : (fprod (fun _ => 1) F).len ≤ 7) (hp : (fprod id F).len ≤ 13) :
    onceQ (QX.C c * fprod id F) = QX.C c * fprod (fun _ => 1) F ∧ vOnce [eP (QX.C c * fprod id F).p] (eP (QX.C c * fprod (fun _ => 1) F).p) := by
  obtain ⟨T, e, cop, tz⟩ := der_fprodS F h
  have eR : fprod id F = fprod (fun m => m - 1) F * fprod (fun _ => 1) F := by
    rw [← fprod_mul]
    refine fprod_congr fun q hq => ?_
    have := (h.mult q hq).1
    show q.2 = q.2 - 1 + 1
    omega
  have hgm := fprod_monic h.ok.mon (fun m => m - 1)
  have h1m := fprod_monic h.ok.mon (fun _ => 1)
  have hpm := fprod_monic h.ok.mon id
  have hzg := cz_fprod3 (e := fun m => min (m - 1) 1) (fun m => Nat.min_le_right _ _) F h.sz
  have egg : fprod (fun m => min (m - 1) 1) F = fprod (fun m => m - 1) F := fprod_congr fun q hq => by
    have := (h.mult q hq).2
    show min (q.2 - 1) 1 = q.2 - 1
    omega
  rw [egg] at hzg
  have hz1 := cz_fprod3 (e := fun _ => 1) (fun _ => Nat.le_refl _) F h.sz
  have few := h.few
  generalize fprod (fun m => m - 1) F = g at *
  generalize fprod (fun _ => 1) F = A at *
  have hfn : QX.C c * fprod id F ≠ 0 := mul_ne (C_ne hc) hpm.1
  have e1 : QX.C c * fprod id F = g * (QX.C c * A) := by rw [eR]; grind
  have e2 : (QX.C c * fprod id F).der = g * (QX.C c * T) := by rw [der_Cmul, e]; grind
  have cop2 : Cop (QX.C c * A) (QX.C c * T) := (cop.symm.scale hc).symm.scale hc
  have hsh : qsh (QX.C c * fprod id F) (QX.C c * fprod id F).der = g := by
    rw [e2]
    conv => lhs; rw [e1]
    exact qsh_cop hgm cop2 (.inl (by rw [← e1]; exact hfn))
  have hon : onceQ (QX.C c * fprod id F) = QX.C c * A := by
    unfold onceQ
    rw [hsh, e1, show g * (QX.C c * A) = QX.C c * A * g by grind]
    exact (qquo_mul hgm.1).1
  refine ⟨hon, ?_⟩
  rw [← hon]
  have hA0 : QX.C c * A ≠ 0 := mul_ne (C_ne hc) h1m.1
  have lA : (QX.C c * A).len ≤ 7 := by rw [len_Cmul hc]; exact hl
  have lg : g.len ≤ 13 := by
    have := len_mul hgm.1 h1m.1
    rw [← eR] at this
    have : A.len ≠ 0 := fun w => h1m.1 (len_zero.mp w)
    omega
  have lT : (QX.C c * T).len ≤ 7 := by
    by_cases z : QX.C c * T = 0
    · rw [z, len_zero.mpr rfl]; omega
    · have k1 := len_mul hgm.1 z
      rw [← e2, der_len, e1, len_mul hgm.1 hA0] at k1
      have : g.len ≠ 0 := fun w => hgm.1 (len_zero.mp w)
      omega
  have cA' : CZ 170 (QX.C c * A).p := (cz_Cm hz hz1).mono (by omega)
  have cT' : CZ 170 (QX.C c * T).p := (cz_Cm hz tz).mono (by omega)
  have hE := eug_mul (k := 4) (eug_gz cA' cT' lA lT (by decide)) (fun x y h => h.2) hgm.1 hzg (by omega) (by omega)
  refine ⟨QX.C c * fprod id F, _, _, rfl, hfn, hE, ⟨_, _, e1, e2, .inr ⟨rfl, rfl⟩, lA, lT⟩, ?_, rfl⟩
  have : gz 170 7 ≤ 1600000 := by decide +kernel
  unfold LIM
  omega
/-- each factor once -/
theorem once_sf {F : Fac} (h : FacOk F) {c : Rat} (hc : c ≠ 0) : Cop (QX.C c * fprod (fun _ => 1) F) (QX.C c * fprod (fun _ => 1) F).der := by
  have hF : FacOk (F.map fun q => (q.1, 1)) := ⟨fun q hq => by
    obtain ⟨p, hp, rfl⟩ := List.mem_map.mp hq
    exact h.mon p hp, fun q hq => by
    obtain ⟨p, hp, rfl⟩ := List.mem_map.mp hq
    exact h.sf p hp, List.pairwise_map.mpr h.cop⟩
  have e : ∀ (e' : Nat → Nat) (F : Fac), fprod e' (F.map fun q => (q.1, 1)) = fprod (fun _ => e' 1) F := fun e' F => by
    induction F with
    | nil => rfl
    | cons q F ih =>
      show q.1 ^ e' 1 * fprod e' (F.map fun q => (q.1, 1)) = q.1 ^ e' 1 * _
      rw [ih]
  obtain ⟨T, e1, e2⟩ := der_fprod _ hF fun q hq => by
    obtain ⟨p, hp, rfl⟩ := List.mem_map.mp hq
    exact Nat.le_refl _
  rw [e, e] at e1
  rw [e] at e2
  have e1 : (fprod (fun _ => 1) F).der = fprod (fun _ => 1 - 1) F * T := e1
  have e0 : fprod (fun _ => 1 - 1) F = 1 := fprod_zero (e := fun _ => 1 - 1) fun _ _ => rfl
  rw [e0, show (1 : QX) * T = T by grind] at e1
  rw [der_Cmul, e1]
  exact (e2.symm.scale hc).symm.scale hc

/-! ### the told factors -/
inductive Fk where
  | l (r : Rat)
  | s (n : Nat)
  | g (b c : Rat)
def Fk.q : Fk → QX
  | .l r => lin r
  | .s n => sqnQ n
  | .g b c => quadQ b c
def Fk.ro : Fk → List Rto
  | .l r => [.q r]
  | .s n => [.s true n, .s false n]
  | .g _ _ => []
def UQ : List Rat := (List.range 9).flatMap fun (k : Nat) => (List.range 3).map fun (m : Nat) => mkRat ((k : Int) - 4) (m + 1)
def UG : List (Rat × Rat) := (List.range 3).flatMap fun (b : Nat) => (List.range 5).map fun (c : Nat) => ((((b : Int) - 1 : Int) : Rat), ((c + 1 : Nat) : Rat))
def Fk.ok : Fk → Prop
  | .l r => r ∈ UQ
  | .s n => n = 2 ∨ n = 3 ∨ n = 5
  | .g b c => (b, c) ∈ UG
def Fk.cmp : Fk → Fk → Prop
  | .l r, .l r' => r ≠ r'
  | .l _, .s _ => True
  | .l _, .g _ _ => True
  | .s _, .g _ _ => True
  | _, _ => False
def Fk.dg : Fk → Nat
  | .l _ => 1
  | .s _ => 2
  | .g _ _ => 2
theorem ug_ok {b c : Rat} (h : (b, c) ∈ UG) : b * b < 4 * c ∧ Rz 3 b ∧ Rz 3 c ∧ b.den = 1 ∧ c.den = 1 ∧ (qsh (quadQ b c) (quadQ b c).der).p = [1] := by
  have k : UG.all (fun q => decide (q.1 * q.1 < 4 * q.2 ∧ (q.1.num.natAbs < 2 ^ 3 ∧ q.1.den < 2 ^ 3) ∧ (q.2.num.natAbs < 2 ^ 3 ∧ q.2.den < 2 ^ 3) ∧ q.1.den = 1 ∧ q.2.den = 1 ∧ (qsh (quadQ q.1 q.2) (quadQ q.1 q.2).der).p = [1])) = true := by decide +kernel
  have := List.all_eq_true.mp k (b, c) h
  rw [decide_eq_true_eq] at this
  exact this
theorem uq_ok {r : Rat} (h : r ∈ UQ) : r.num.natAbs < 2 ^ 3 ∧ r.den < 2 ^ 3 := by
  have k : UQ.all (fun r => decide (r.num.natAbs < 2 ^ 3 ∧ r.den < 2 ^ 3)) = true := by decide +kernel
  exact of_decide_eq_true (List.all_eq_true.mp k r h)
theorem cop_dec {a b : QX} (h : (qsh a b).p = [1]) (ha : a ≠ 0) : Cop a b := by
  obtain ⟨_, _, ⟨u, v, e⟩, _⟩ := qsh_ok (a := a) (b := b) (.inl ha)
  have : qsh a b = 1 := QX.ext' (by rw [qx_one]; exact h)
  exact ⟨u, v, by rw [← e, this]⟩
theorem quad_ne (b c : Rat) : quadQ b c ≠ 0 := ne_zero.mpr (by show [c, b, 1] ≠ []; exact List.cons_ne_nil _ _)
theorem sqn_ne (n : Nat) : sqnQ n ≠ 0 := ne_zero.mpr (by show [-((n : Nat) : Rat), 0, 1] ≠ []; exact List.cons_ne_nil _ _)
theorem cz_ints {p : Poly} {n : Nat} (hn : 0 < n) (h : ∀ a ∈ p, a.den = 1 ∧ a.num.natAbs < 2 ^ n) : CZ n p := by
  refine ⟨1, by decide, Nat.one_lt_two_pow (by omega), fun i => ?_⟩
  unfold coef
  rw [List.getD_eq_getElem?_getD]
  cases e : p[i]? with
  | none => exact ⟨0, Nat.pow_pos (by decide), by show (0 : Rat) * _ = _; rw [Rat.zero_mul]; rfl⟩
  | some a =>
    obtain ⟨h1, h2⟩ := h a (List.mem_of_getElem? e)
    refine ⟨a.num, h2, ?_⟩
    have := num_eq a
    rw [h1] at this
    show a * _ = _
    exact this
theorem Fk.ok_ok {f : Fk} (h : f.ok) : Monic f.q ∧ Cop f.q f.q.der ∧ CZ 3 f.q.p ∧ f.q.len = f.dg + 1 ∧ SgF f.q f.ro true ∧ (∀ ρ ∈ f.ro, okR ρ) ∧ f.ro.Pairwise fun ρ τ => rHi ρ + mkRat 1 100 ≤ rLo τ ∨ rHi τ + mkRat 1 100 ≤ rLo ρ := by
  match f, h with
  | .l r, h =>
    have h : r ∈ UQ := h
    obtain ⟨u1, u2⟩ := uq_ok h
    refine ⟨lin_monic r, lin_sf r, ?_, rfl, sgf_lin r, fun ρ hρ => ?_, List.pairwise_singleton _ _⟩
    · have hd := r.den_pos
      refine ⟨(r.den : Int), by omega, by rw [Int.natAbs_natCast]; exact u2, fun i => ?_⟩
      show ∃ t : Int, t.natAbs < 2 ^ 3 ∧ coef [-r, 1] i * _ = _
      have e := num_eq r
      match i with
      | 0 =>
        refine ⟨-r.num, by rw [Int.natAbs_neg]; exact u1, ?_⟩
        show -r * _ = _
        rw [Rat.intCast_neg, ← e]
        grind
      | 1 =>
        refine ⟨(r.den : Int), by rw [Int.natAbs_natCast]; exact u2, ?_⟩
        show (1 : Rat) * _ = _
        rw [Rat.one_mul]
      | i + 2 => exact ⟨0, by decide, by show (0 : Rat) * _ = _; rw [Rat.zero_mul]; rfl⟩
    · rw [List.mem_singleton.mp hρ]; trivial
  | .s n, h =>
    have h : n = 2 ∨ n = 3 ∨ n = 5 := h
    refine ⟨⟨sqn_ne n, rfl⟩, cop_dec ?_ (sqn_ne n), ?_, rfl, sgf_sqn h, fun ρ hρ => ?_, ?_⟩
    · rcases h with rfl | rfl | rfl <;> decide +kernel
    · refine cz_ints (by decide) fun a ha => ?_
      have ha : a ∈ [-((n : Nat) : Rat), 0, 1] := ha
      rcases h with rfl | rfl | rfl <;> rcases List.mem_cons.mp ha with rfl | ha <;> first | decide +kernel | (rcases List.mem_cons.mp ha with rfl | ha <;> first | decide +kernel | (rw [List.mem_singleton.mp ha]; decide +kernel))
    · rcases List.mem_cons.mp hρ with z | z
      · rw [z]; exact h
      · rw [List.mem_singleton.mp z]; exact h
    · refine List.pairwise_cons.mpr ⟨fun τ hτ => ?_, List.pairwise_singleton _ _⟩
      rw [List.mem_singleton.mp hτ]
      rcases h with rfl | rfl | rfl <;> exact .inr (by decide +kernel)
  | .g b c, h =>
    obtain ⟨u1, u2, u3, u4, u5, u6⟩ := ug_ok (show (b, c) ∈ UG from h)
    refine ⟨⟨quad_ne b c, rfl⟩, cop_dec u6 (quad_ne b c), ?_, rfl, sgf_quad u1, fun ρ hρ => (nomatch hρ), List.Pairwise.nil⟩
    refine cz_ints (by decide) fun a ha => ?_
    have ha : a ∈ [c, b, 1] := ha
    rcases List.mem_cons.mp ha with rfl | ha
    · exact ⟨u5, u3.1⟩
    · rcases List.mem_cons.mp ha with rfl | ha
      · exact ⟨u4, u2.1⟩
      · rw [List.mem_singleton.mp ha]; decide +kernel
theorem Fk.cmp_ok {f g : Fk} (hf : f.ok) (hg : g.ok) (h : f.cmp g) : Cop f.q g.q ∧ ∀ ρ ∈ f.ro, ∀ τ ∈ g.ro, rHi ρ + mkRat 1 100 ≤ rLo τ ∨ rHi τ + mkRat 1 100 ≤ rLo ρ := by
  match f, g, hf, hg, h with
  | .l r, .l r', hf, hg, h =>
    have h : r ≠ r' := h
    refine ⟨cop_lin (by show (lin r').ev r ≠ 0; rw [ev_lin]; grind), fun ρ hρ τ hτ => ?_⟩
    rw [List.mem_singleton.mp hρ, List.mem_singleton.mp hτ]
    have k : UQ.all (fun r => UQ.all fun r' => decide (r ≠ r' → (r + mkRat 1 100 ≤ r' ∨ r' + mkRat 1 100 ≤ r))) = true := by decide +kernel
    exact of_decide_eq_true (List.all_eq_true.mp (List.all_eq_true.mp k r hf) r' hg) h
  | .l r, .s n, hf, hg, h =>
    have hg : n = 2 ∨ n = 3 ∨ n = 5 := hg
    refine ⟨cop_lin (by show (sqnQ n).ev r ≠ 0; rw [ev_sqn]; have := no_root hg r; grind), fun ρ hρ τ hτ => ?_⟩
    rw [List.mem_singleton.mp hρ]
    have k : UQ.all (fun r => [Rto.s true 2, .s false 2, .s true 3, .s false 3, .s true 5, .s false 5].all fun τ => decide (rHi (.q r) + mkRat 1 100 ≤ rLo τ ∨ rHi τ + mkRat 1 100 ≤ rLo (.q r))) = true := by decide +kernel
    have k2 := List.all_eq_true.mp k r hf
    refine of_decide_eq_true (List.all_eq_true.mp k2 τ ?_)
    have hτ : τ ∈ [Rto.s true n, Rto.s false n] := hτ
    rcases hg with rfl | rfl | rfl <;> simp only [List.mem_cons, List.not_mem_nil, or_false] at hτ ⊢ <;> rcases hτ with rfl | rfl <;> simp
  | .l r, .g b c, hf, hg, h =>
    obtain ⟨u1, _⟩ := ug_ok (show (b, c) ∈ UG from hg)
    refine ⟨cop_lin (by
      show (quadQ b c).ev r ≠ 0
      rw [ev_quad]
      have := sq_nn (2 * r + b)
      grind), fun ρ hρ τ hτ => nomatch hτ⟩
  | .s n, .g b c, hf, hg, h =>
    have hf : n = 2 ∨ n = 3 ∨ n = 5 := hf
    refine ⟨cop_dec ?_ (sqn_ne n), fun ρ hρ τ hτ => nomatch hτ⟩
    have k : [2, 3, 5].all (fun n => UG.all fun q => decide ((qsh (sqnQ n) (quadQ q.1 q.2)).p = [1])) = true := by decide +kernel
    exact of_decide_eq_true (List.all_eq_true.mp (List.all_eq_true.mp k n (by simp; omega)) (b, c) hg)
/-- factors that go together -/
structure FkOk (fs : List (Fk × Nat)) : Prop where
  ok : ∀ q ∈ fs, q.1.ok ∧ 1 ≤ q.2 ∧ q.2 ≤ 2
  cmp : fs.Pairwise fun p q => p.1.cmp q.1
  few : fs.length ≤ 4
  dg : (fs.map fun q => q.1.dg).sum ≤ 6
def fkF (fs : List (Fk × Nat)) : Fac := fs.map fun q => (q.1.q, q.2)
def fkR (fs : List (Fk × Nat)) : List Rto := fs.flatMap fun q => q.1.ro
theorem FkOk.facs {fs : List (Fk × Nat)} (h : FkOk fs) : FacS (fkF fs) := by
  refine ⟨⟨fun q hq => ?_, fun q hq => ?_, ?_⟩, fun q hq => ?_, fun q hq => ?_, ?_⟩
  · obtain ⟨p, hp, rfl⟩ := List.mem_map.mp hq
    exact (Fk.ok_ok (h.ok p hp).1).1
  · obtain ⟨p, hp, rfl⟩ := List.mem_map.mp hq
    exact (Fk.ok_ok (h.ok p hp).1).2.1
  · refine List.pairwise_map.mpr ?_
    refine List.Pairwise.imp_of_mem (fun {a b} ha hb hab => ?_) h.cmp
    exact (Fk.cmp_ok (h.ok a ha).1 (h.ok b hb).1 hab).1
  · obtain ⟨p, hp, rfl⟩ := List.mem_map.mp hq
    obtain ⟨_, _, k3, k4, _⟩ := Fk.ok_ok (h.ok p hp).1
    refine ⟨k3, ?_⟩
    show p.1.q.len ≤ 3
    rw [k4]
    cases p.1 <;> simp [Fk.dg]
  · obtain ⟨p, hp, rfl⟩ := List.mem_map.mp hq
    exact (h.ok p hp).2
  · show (List.map _ fs).length ≤ 4
    rw [List.length_map]
    exact h.few
theorem fk_len {fs : List (Fk × Nat)} {e : Nat → Nat} (h : ∀ q ∈ fs, q.1.ok) : (fprod e (fkF fs)).len = 1 + (fs.map fun q => e q.2 * q.1.dg).sum := by
  induction fs with
  | nil => exact one_len
  | cons q fs ih =>
    obtain ⟨k1, _, _, k4, _⟩ := Fk.ok_ok (h q List.mem_cons_self)
    have ih := ih fun p hp => h p (List.mem_cons_of_mem _ hp)
    have hm : Monic (fprod e (fkF fs)) := fprod_monic (fun p hp => by
      obtain ⟨p', hp', rfl⟩ := List.mem_map.mp hp
      exact (Fk.ok_ok (h p' (List.mem_cons_of_mem _ hp'))).1) e
    show (q.1.q ^ e q.2 * fprod e (fkF fs)).len = _
    rw [len_mul (monic_pow k1 _).1 hm.1, ih]
    have : ∀ n : Nat, (q.1.q ^ n).len = 1 + n * q.1.dg := fun n => by
      induction n with
      | zero => rw [show q.1.q ^ 0 = (1 : QX) by grind, one_len]; omega
      | succ n ih2 =>
        rw [show q.1.q ^ (n + 1) = q.1.q ^ n * q.1.q by grind, len_mul (monic_pow k1 n).1 k1.1, ih2, k4, Nat.succ_mul]
        omega
    rw [this, List.map_cons, List.sum_cons]
    omega
theorem FkOk.len1 {fs : List (Fk × Nat)} (h : FkOk fs) : (fprod (fun _ => 1) (fkF fs)).len ≤ 7 := by
  rw [fk_len fun q hq => (h.ok q hq).1]
  have := h.dg
  simp only [Nat.one_mul]
  omega
theorem FkOk.lenp {fs : List (Fk × Nat)} (h : FkOk fs) : (fprod id (fkF fs)).len ≤ 13 := by
  rw [fk_len fun q hq => (h.ok q hq).1]
  have h1 := h.dg
  have h2 := fun q hq => (h.ok q hq).2.2
  clear h
  have : (fs.map fun q => id q.2 * q.1.dg).sum ≤ 2 * (fs.map fun q => q.1.dg).sum := by
    clear h1
    induction fs with
    | nil => exact Nat.le_refl _
    | cons q fs ih =>
      have h3 := h2 q List.mem_cons_self
      have := ih fun p hp => h2 p (List.mem_cons_of_mem _ hp)
      rw [List.map_cons, List.sum_cons, List.map_cons, List.sum_cons]
      have h4 : id q.2 * q.1.dg ≤ 2 * q.1.dg := Nat.mul_le_mul_right _ h3
      omega
  omega
theorem fk_sg {fs : List (Fk × Nat)} (h : ∀ q ∈ fs, q.1.ok) : SgF (fprod (fun _ => 1) (fkF fs)) (fkR fs) true := by
  induction fs with
  | nil => exact sgf_C (c := 1) (by decide)
  | cons q fs ih =>
    have ih := ih fun p hp => h p (List.mem_cons_of_mem _ hp)
    have k := (Fk.ok_ok (h q List.mem_cons_self)).2.2.2.2.1
    have e : fprod (fun _ => 1) (fkF (q :: fs)) = q.1.q * fprod (fun _ => 1) (fkF fs) := by
      show q.1.q ^ 1 * fprod (fun _ => 1) (fkF fs) = _
      rw [show q.1.q ^ 1 = q.1.q by grind]
    rw [e]
    show SgF _ (q.1.ro ++ fkR fs) true
    exact k.mul ih
theorem FkOk.ex {fs : List (Fk × Nat)} (h : FkOk fs) {c : Rat} (hc : c ≠ 0) : Ex (QX.C c * fprod (fun _ => 1) (fkF fs)) (fkR fs) (mkRat 1 100) := by
  have hs := (sgf_C hc).mul (fk_sg fun q hq => (h.ok q hq).1)
  refine ⟨fun ρ hρ => ?_, hs.zero, ⟨_, hs.sign⟩, by decide +kernel, ?_⟩
  · obtain ⟨q, hq, hm⟩ := List.mem_flatMap.mp hρ
    exact (Fk.ok_ok (h.ok q hq).1).2.2.2.2.2.1 ρ hm
  · refine List.pairwise_flatMap.mpr ⟨fun q hq => (Fk.ok_ok (h.ok q hq).1).2.2.2.2.2.2, ?_⟩
    refine List.Pairwise.imp_of_mem (fun {a b} ha hb hab => ?_) h.cmp
    exact (Fk.cmp_ok (h.ok a ha).1 (h.ok b hb).1 hab).2
theorem FkOk.few_r {fs : List (Fk × Nat)} (h : FkOk fs) : (fkR fs).length ≤ 6 := by
  have h1 := h.dg
  have : (fkR fs).length ≤ (fs.map fun q => q.1.dg).sum := by
    clear h1 h
    induction fs with
    | nil => exact Nat.le_refl _
    | cons q fs ih =>
      show (q.1.ro ++ fkR fs).length ≤ _
      rw [List.length_append, List.map_cons, List.sum_cons]
      have : q.1.ro.length ≤ q.1.dg := by cases q.1 <;> simp [Fk.dg, Fk.ro]
      omega
  omega
/-- the polynomial, what stands once of it, its pairs -/
theorem fk_all {fs : List (Fk × Nat)} (h : FkOk fs) {c : Rat} (hc : c ≠ 0) (hz : Rz 3 c) :
    vOnce [eP (QX.C c * fprod id (fkF fs)).p] (eP (QX.C c * fprod (fun _ => 1) (fkF fs)).p) ∧ Stm (QX.C c * fprod (fun _ => 1) (fkF fs)) (chainL (QX.C c * fprod (fun _ => 1) (fkF fs))) ∧ Ex (QX.C c * fprod (fun _ => 1) (fkF fs)) (fkR fs) (mkRat 1 100) ∧
    CZ 25 (QX.C c * fprod (fun _ => 1) (fkF fs)).p ∧ (QX.C c * fprod (fun _ => 1) (fkF fs)).len ≤ 7 ∧ QX.C c * fprod (fun _ => 1) (fkF fs) ≠ 0 ∧
    ∃ prs, PrZ (QX.C c * fprod (fun _ => 1) (fkF fs)) 25 7 35 35 (35 * 38) 26 prs ∧ prs.length = (fkR fs).length ∧ (∀ p ∈ prs, p.1 < p.2 ∧ ((fkR fs).filter fun ρ => ρ.above p.1 && !ρ.above p.2).length = 1 ∧ (QX.C c * fprod (fun _ => 1) (fkF fs)).ev p.1 ≠ 0 ∧ (QX.C c * fprod (fun _ => 1) (fkF fs)).ev p.2 ≠ 0 ∧ Rz 3100 p.1 ∧ Rz 3100 p.2) ∧ prs.Pairwise (fun p q => p.2 ≤ q.1) := by
  have hF := h.facs
  have h0 : QX.C c * fprod (fun _ => 1) (fkF fs) ≠ 0 := mul_ne (C_ne hc) (fprod_monic hF.ok.mon _).1
  have hcop := once_sf hF.ok hc
  have hcz : CZ 25 (QX.C c * fprod (fun _ => 1) (fkF fs)).p := (cz_Cm hz (cz_fprod3 (e := fun _ => 1) (fun _ => Nat.le_refl _) _ hF.sz)).mono (by have := hF.few; omega)
  have hl : (QX.C c * fprod (fun _ => 1) (fkF fs)).len ≤ 7 := by rw [len_Cmul hc]; exact h.len1
  have hR := h.few_r
  exact ⟨(once_ok hF hc hz h.len1 h.lenp).2, chain_stm h0 hcop, h.ex hc, hcz, hl, h0, pr_ok h0 hcop (h.ex hc) hcz hl (by decide) (by omega)⟩
/-- the polynomial is nought where what stands once is -/
theorem fk_zero {fs : List (Fk × Nat)} (h : FkOk fs) {c : Rat} (x : Rat) : (QX.C c * fprod (fun _ => 1) (fkF fs)).ev x ≠ 0 → (QX.C c * fprod id (fkF fs)).ev x ≠ 0 := fun hne z => by
  have h1 := fun q hq => (h.ok q hq).2.1
  clear h
  rw [ev_mul] at hne z
  rcases Rat.mul_eq_zero.mp z with w | w
  · rw [w, Rat.zero_mul] at hne
    exact hne rfl
  · refine hne ?_
    have : (fprod (fun _ => 1) (fkF fs)).ev x = 0 := by
      clear hne z
      induction fs with
      | nil => exact w
      | cons q fs ih =>
        have e1 : fprod (fun _ => 1) (fkF (q :: fs)) = q.1.q * fprod (fun _ => 1) (fkF fs) := by
          show q.1.q ^ 1 * fprod (fun _ => 1) (fkF fs) = _
          rw [show q.1.q ^ 1 = q.1.q by grind]
        have e2 : fprod id (fkF (q :: fs)) = q.1.q ^ q.2 * fprod id (fkF fs) := rfl
        have ep : ∀ n : Nat, (q.1.q ^ n).ev x = (q.1.q.ev x) ^ n := fun n => by
          induction n with
          | zero => rw [show q.1.q ^ 0 = (1 : QX) by grind, ev_one, Rat.pow_zero]
          | succ n ih2 => rw [show q.1.q ^ (n + 1) = q.1.q ^ n * q.1.q by grind, ev_mul, ih2, Rat.pow_succ]
        rw [e1, ev_mul]
        rw [e2, ev_mul, ep] at w
        rcases Rat.mul_eq_zero.mp w with w | w
        · have : q.1.q.ev x = 0 := by
            by_cases z : q.1.q.ev x = 0
            · exact z
            · exfalso
              have : ∀ n : Nat, (q.1.q.ev x) ^ n ≠ 0 := fun n => by
                induction n with
                | zero => rw [Rat.pow_zero]; decide
                | succ n ih2 =>
                  rw [Rat.pow_succ]
                  intro y
                  rcases Rat.mul_eq_zero.mp y with y | y
                  · exact ih2 y
                  · exact z y
              exact this _ w
          rw [this, Rat.zero_mul]
        · rw [ih (fun p hp => h1 p (List.mem_cons_of_mem _ hp)) w, Rat.mul_zero]
    rw [this, Rat.mul_zero]
end An

/-! Three names from a tuple; not in a list of one's own; in data. -/
namespace An
open PySem PySem.Spec PyProof.Rows L2
section
variable {R : Hp → Hp → Prop} [Rel R] {X : Cx} {γ : List Sl} {pos : Pos}
theorem eg_t3 {i j k : Nat} {x y w : Str} {d1 d2 d3 : D} {p1 p2 p3 : Pos} {kk : Nat} (hc : X.calm = true) (hN : X.N.Nodup) (hi : X.N[i]? = some x := by rfl) (hj : X.N[j]? = some y := by rfl) (hk : X.N[k]? = some w := by rfl) (hx : Loc X.env.scope x := by first | exact Or.inl rfl | exact Or.inr rfl)
    (hy : Loc X.env.scope y := by first | exact Or.inl rfl | exact Or.inr rfl) (hw : Loc X.env.scope w := by first | exact Or.inl rfl | exact Or.inr rfl)
    (hf : X.fn x = true ∨ X.env.scope.names.lookup x = some .local := by first | exact .inl rfl | exact .inr rfl | assumption) (hg : X.fn y = true ∨ X.env.scope.names.lookup y = some .local := by first | exact .inl rfl | exact .inr rfl | assumption)
    (hh : X.fn w = true ∨ X.env.scope.names.lookup w = some .local := by first | exact .inl rfl | exact .inr rfl | assumption) :
    EG R X γ (.Tuple [.Name x p1, .Name y p2, .Name w p3] kk pos) (.tuple [d1, d2, d3]) (((γ.set i (.dat d1)).set j (.dat d2)).set k (.dat d3)) := fun H0 S0 σ H v Q s h kq => by
  cases h with
  | tup h1 h2 =>
    cases h2 with
    | cons e1 r1 =>
      cases r1 with
      | cons e2 r2 =>
        cases r2 with
        | cons e3 r3 =>
          cases r3
          refine wg_of (pg_tup hc (pgs_cons (pg_name hN hi hx hf) (pgs_cons (pg_name hN hj hy hg) (pgs_cons (pg_name hN hk hw hh) pgs_nil)))) ⟨_, _, rfl, sqt_keep off_in h1, rfl, _, _, rfl, _, _, rfl, _, _, rfl, rfl, ?_⟩
          have s1 := s.putD i e1
          have s2 := s1.putD j (dp_keep (off_keep (Keep.refl H) sx_dat) _ _ e2)
          exact kq _ (s2.putD k (dp_keep (off_keep (Keep.refl H) sx_dat) _ _ (dp_keep (off_keep (Keep.refl H) sx_dat) _ _ e3)))
theorem od_in {d : D} {ds : List D} {k : Nat} (g : Gx X k) (ha : SeqAt.shaped d = true) (hb : SeqAt.shaped (.list ds) = true) : OpD X (compareOp .In) d (.list ds) (.bool (ds.any fun z => PyData.eqv z d)) := ⟨_, op_inD (by have := g.room.un; omega), fun H x y Q hx hy k => ⟨d, ds, hx.dp, hy.dp, ha, hb, k _ fun _ => .bl _⟩⟩
theorem od_notIn {d : D} {ds : List D} {k : Nat} (g : Gx X k) (ha : SeqAt.shaped d = true) (hb : SeqAt.shaped (.list ds) = true) : OpD X (compareOp .NotIn) d (.list ds) (.bool (!ds.any fun z => PyData.eqv z d)) := ⟨_, op_notInD (by have := g.room.un; omega), fun H x y Q hx hy k => ⟨d, ds, hx.dp, hy.dp, ha, hb, k _ fun _ => .bl _⟩⟩
/-- against a list of one's own, on the right -/
theorem et_cmpR {c : Bool} (i : Nat) {x : Str} {ds : List D} {op : CmpOp} {y : D} {a : Expr} {p2 : Pos} (ha : EE R X γ a y) (ho : OpD X (compareOp op) y (.list ds) (.bool c)) (hmk : behindInMarks op (.Name x p2) = false := by rfl) (hi : γ[i]? = some (.own ds) := by rfl) (hN : X.N[i]? = some x := by rfl)
    (hv : Vis X.env.scope x := by first | exact Or.inl rfl | exact Or.inr (Or.inl rfl) | exact Or.inr (Or.inr rfl)) (hd : (x == ("__debug__" : Str)) = false := by decide) (hcd : (x == ("__classdict__" : Str)) = false := by decide) :
    ET R X γ (.Compare a [op] [.Name x p2] pos) c := fun H0 S0 σ H Q s k => by
  obtain ⟨r, h1, h2⟩ := ho
  refine wt_of (pt_cmpR h1 pe_we (pe_var hN hv hd hcd) hmk) (ha H0 S0 σ H _ s fun u H2 r2 d2 => ?_)
  obtain ⟨l', vs', a1, _, a3, a4⟩ := (s.mono r2).own i ds hi
  refine ⟨_, a1, h2 H2 u _ _ (dt_in d2) (.lst (.inl a3) (dts_in a4)) fun z q => ?_⟩
  have e := q H2
  cases e
  exact ⟨c, rfl, k H2 r2⟩
end
end An

/-! tuple(a list). -/
namespace An
open PySem PySem.Spec PyProof.Rows L2
section
variable {R : Hp → Hp → Prop} [Rel R] {X : Cx} {γ : List Sl} {pos : Pos}
theorem ee_tupOf {a : Expr} {p : Pos} {ds : List D} (ha : EE R X γ a (.list ds)) (hm : X.mg "tuple" = none) (hg : Gl X "tuple" := by rfl) (na : starEach [a] X.env = (false, eval a X.env) :: starEach [] X.env := by rfl) : EE R X γ (.Call (.Name "tuple" p) [a] [] pos) (.tuple ds) := fun H0 S0 σ H Q s k =>
  we_of (pe_tupleOf hg hm pe_we na) (ha H0 S0 σ H _ s fun v H1 r1 d1 => by
    cases d1 with
    | lst h1 h2 =>
      have sd := s.mono r1
      exact .inl ⟨_, _, rfl, .inl (rd_keep off_in h1), fun p n => k (.ref p) _ (Rel.more r1 (same_new n)) (.tup (.inl (.inl (off_of (fun z => sd.there z n) upd_same))) (dts_new n h2))⟩)
end
end An

/-! Signs of polynomials whose roots are told, with how often each. -/
namespace An
open PySem
def keyR : Rto → Int
  | .q r => 0 - (-r.num * 1000) / ((r.den : Nat) : Int)
  | .s true _ => 1414
  | .s false _ => -1415
def U7 : List Rto := [.q 0, .q 1, .q (-2), .q (mkRat 1 2), .s false 2, .s true 2]
theorem u7_ok : ∀ ρ ∈ U7, okR ρ := fun ρ h => by
  simp only [U7, List.mem_cons, List.not_mem_nil, or_false] at h
  rcases h with rfl | rfl | rfl | rfl | rfl | rfl <;> first | trivial | exact .inl rfl
theorem u7_key {ρ τ : Rto} (h1 : ρ ∈ U7) (h2 : τ ∈ U7) (h : keyR ρ < keyR τ) : rHi ρ < rLo τ := by
  have k : U7.all (fun ρ => U7.all fun τ => decide (keyR ρ < keyR τ → rHi ρ < rLo τ)) = true := by decide +kernel
  exact of_decide_eq_true (List.all_eq_true.mp (List.all_eq_true.mp k ρ h1) τ h2) h
theorem u7_inj {ρ τ : Rto} (h1 : ρ ∈ U7) (h2 : τ ∈ U7) (h : keyR ρ = keyR τ) : ρ = τ := by
  have k : U7.all (fun ρ => U7.all fun τ => decide (keyR ρ = keyR τ → ρ = τ)) = true := by decide +kernel
  exact of_decide_eq_true (List.all_eq_true.mp (List.all_eq_true.mp k ρ h1) τ h2) h
theorem u7_sep {ρ τ : Rto} (h1 : ρ ∈ U7) (h2 : τ ∈ U7) (h : ρ ≠ τ) : rHi ρ + mkRat 1 100 ≤ rLo τ ∨ rHi τ + mkRat 1 100 ≤ rLo ρ := by
  have k : U7.all (fun ρ => U7.all fun τ => decide (ρ ≠ τ → (rHi ρ + mkRat 1 100 ≤ rLo τ ∨ rHi τ + mkRat 1 100 ≤ rLo ρ))) = true := by decide +kernel
  exact of_decide_eq_true (List.all_eq_true.mp (List.all_eq_true.mp k ρ h1) τ h2) h
theorem u7_up {ρ τ : Rto} (h1 : ρ ∈ U7) (h2 : τ ∈ U7) (h : keyR ρ < keyR τ) {x : Rat} (hx : ρ.above x = true) : τ.above x = true := by
  have a1 := (above_hi (u7_ok ρ h1)).1 hx
  have a2 := u7_key h1 h2 h
  cases hb : τ.above x with
  | true => rfl
  | false =>
    have := (above_hi (u7_ok τ h2)).2 hb
    grind
/-- rows: roots with how often -/
abbrev Rw := List (Rto × Nat)
def wAb (W : Rw) (x : Rat) : Nat := ((W.filter fun q => q.1.above x).map (·.2)).sum
theorem wAb_app (A B : Rw) (x : Rat) : wAb (A ++ B) x = wAb A x + wAb B x := by
  unfold wAb
  rw [List.filter_append, List.map_append, List.sum_append]
theorem sum_perm : ∀ {a b : List Nat}, a.Perm b → a.sum = b.sum := fun h => by
  induction h with
  | nil => rfl
  | cons x _ ih => rw [List.sum_cons, List.sum_cons, ih]
  | swap x y l => rw [List.sum_cons, List.sum_cons, List.sum_cons, List.sum_cons]; omega
  | trans _ _ h1 h2 => exact h1.trans h2
theorem wAb_perm {A B : Rw} (h : A.Perm B) (x : Rat) : wAb A x = wAb B x := sum_perm ((h.filter _).map _)
/-- signs by weights -/
structure SgW (p : QX) (W : Rw) (s0 : Bool) : Prop where
  zero : ∀ x, p.ev x = 0 ↔ ∃ m, (Rto.q x, m) ∈ W
  sign : ∀ x, p.ev x ≠ 0 → decide (0 < p.ev x) = (s0 ^^ decide (wAb W x % 2 = 1))
theorem SgW.mul {g h : QX} {R S : Rw} {s t : Bool} (a : SgW g R s) (b : SgW h S t) : SgW (g * h) (R ++ S) (!(s ^^ t)) where
  zero := fun x => by
    rw [ev_mul, Rat.mul_eq_zero, a.zero, b.zero]
    constructor
    · rintro (⟨m, h⟩ | ⟨m, h⟩)
      · exact ⟨m, List.mem_append_left _ h⟩
      · exact ⟨m, List.mem_append_right _ h⟩
    · rintro ⟨m, h⟩
      rcases List.mem_append.mp h with h | h
      · exact .inl ⟨m, h⟩
      · exact .inr ⟨m, h⟩
  sign := fun x hx => by
    rw [ev_mul] at hx ⊢
    have h1 : g.ev x ≠ 0 := fun z => hx (by rw [z, Rat.zero_mul])
    have h2 : h.ev x ≠ 0 := fun z => hx (by rw [z, Rat.mul_zero])
    rw [pos_mul h1 h2, a.sign x h1, b.sign x h2, wAb_app, par_add]
    cases s <;> cases t <;> cases decide (wAb R x % 2 = 1) <;> cases decide (wAb S x % 2 = 1) <;> rfl
theorem wAb_const (R : List Rto) (m : Nat) (x : Rat) : wAb (R.map fun ρ => (ρ, m)) x = m * cA R x := by
  unfold wAb cA
  induction R with
  | nil => rfl
  | cons ρ R ih =>
    rw [List.map_cons, List.filter_cons, List.filter_cons]
    cases ρ.above x with
    | true =>
      simp only [if_true, List.map_cons, List.sum_cons, List.length_cons]
      rw [ih, Nat.mul_succ]
      omega
    | false =>
      simp only [Bool.false_eq_true, if_false]
      exact ih
theorem ev_pow (f : QX) (x : Rat) : ∀ n : Nat, (f ^ n).ev x = f.ev x ^ n
  | 0 => by rw [show f ^ 0 = (1 : QX) by grind, ev_one, Rat.pow_zero]
  | n + 1 => by rw [show f ^ (n + 1) = f ^ n * f by grind, ev_mul, ev_pow f x n, Rat.pow_succ]
theorem rpow_ne {a : Rat} (h : a ≠ 0) : ∀ n : Nat, a ^ n ≠ 0
  | 0 => by rw [Rat.pow_zero]; decide
  | n + 1 => fun z => by
    rw [Rat.pow_succ] at z
    rcases Rat.mul_eq_zero.mp z with z | z
    · exact rpow_ne h n z
    · exact h z
theorem SgF.pow {f : QX} {R : List Rto} (h : SgF f R true) {m : Nat} (hm : 1 ≤ m) : SgW (f ^ m) (R.map fun ρ => (ρ, m)) true where
  zero := fun x => by
    rw [ev_pow]
    constructor
    · intro z
      have : f.ev x = 0 := by
        by_cases w : f.ev x = 0
        · exact w
        · exact absurd z (rpow_ne w m)
      exact ⟨m, List.mem_map.mpr ⟨_, (h.zero x).mp this, rfl⟩⟩
    · rintro ⟨k, hk⟩
      obtain ⟨ρ, hρ, e⟩ := List.mem_map.mp hk
      injection e with e1 e2
      rw [e1] at hρ
      rw [(h.zero x).mpr hρ]
      obtain ⟨n, rfl⟩ : ∃ n, m = n + 1 := ⟨m - 1, by omega⟩
      rw [Rat.pow_succ, Rat.mul_zero]
  sign := fun x hx => by
    rw [ev_pow] at hx ⊢
    rw [wAb_const]
    have hf : f.ev x ≠ 0 := fun z => hx (by
      obtain ⟨n, rfl⟩ : ∃ n, m = n + 1 := ⟨m - 1, by omega⟩
      rw [z, Rat.pow_succ, Rat.mul_zero])
    have key : ∀ n : Nat, decide (0 < f.ev x ^ n) = (true ^^ decide (n * cA R x % 2 = 1)) := fun n => by
      induction n with
      | zero => rw [Rat.pow_zero, Nat.zero_mul]; decide
      | succ n ih =>
        rw [Rat.pow_succ, pos_mul (rpow_ne hf n) hf, ih, h.sign x hf, Nat.succ_mul, par_add]
        cases decide (n * cA R x % 2 = 1) <;> cases decide (cA R x % 2 = 1) <;> rfl
    exact key m
theorem sgw_C {c : Rat} (hc : c ≠ 0) : SgW (QX.C c) [] (decide (0 < c)) where
  zero := fun x => by rw [ev_C]; exact ⟨fun z => absurd z hc, fun ⟨m, z⟩ => nomatch z⟩
  sign := fun x _ => by
    rw [ev_C]
    show decide (0 < c) = (decide (0 < c) ^^ false)
    cases decide (0 < c) <;> rfl
/-! ### the list of signs -/
def prS (sg : Int) : List Nat → Int
  | [] => sg
  | m :: ms => prS sg ms * (1 - 2 * ((m % 2 : Nat) : Int))
def dueL (sg : Int) : List Nat → List Int
  | [] => [sg]
  | m :: ms => prS sg (m :: ms) :: dueL sg ms
theorem prS_sum (sg : Int) : ∀ ms : List Nat, prS sg ms = if ms.sum % 2 = 1 then -sg else sg
  | [] => by rw [if_neg (by decide)]; rfl
  | m :: ms => by
    unfold prS
    rw [prS_sum sg ms, List.sum_cons]
    by_cases h1 : m % 2 = 1 <;> by_cases h2 : ms.sum % 2 = 1
    · rw [if_pos h2, if_neg (by omega), h1]; show -sg * (1 - 2 * 1) = sg; omega
    · rw [if_neg h2, if_pos (by omega), h1]; show sg * (1 - 2 * 1) = -sg; omega
    · rw [if_pos h2, if_pos (by omega), show m % 2 = 0 by omega]; show -sg * (1 - 2 * 0) = -sg; omega
    · rw [if_neg h2, if_neg (by omega), show m % 2 = 0 by omega]; show sg * (1 - 2 * 0) = sg; omega
theorem due_len (sg : Int) : ∀ ms : List Nat, (dueL sg ms).length = ms.length + 1
  | [] => rfl
  | m :: ms => congrArg (· + 1) (due_len sg ms)
theorem due_at (sg : Int) : ∀ (ms : List Nat) (i : Nat), i ≤ ms.length → (dueL sg ms)[i]? = some (prS sg (ms.drop i))
  | [], i, h => by
    have : i = 0 := Nat.le_zero.mp h
    subst this
    rfl
  | m :: ms, 0, _ => rfl
  | m :: ms, i + 1, h => due_at sg ms i (Nat.le_of_succ_le_succ h)
def sgR (q : Rat) : Int := if 0 < q then 1 else -1
/-- rows that rise -/
structure RwS (W : Rw) : Prop where
  in7 : ∀ q ∈ W, q.1 ∈ U7
  up : W.Pairwise fun p q => keyR p.1 < keyR q.1
theorem RwS.drop {W : Rw} (h : RwS W) (x : Rat) : W.filter (fun q => q.1.above x) = W.drop (W.length - cA (W.map (·.1)) x) := by
  obtain ⟨h1, h2⟩ := h
  induction W with
  | nil => rfl
  | cons q W ih =>
    have ih := ih (fun p hp => h1 p (List.mem_cons_of_mem _ hp)) (List.pairwise_cons.mp h2).2
    unfold cA at ih ⊢
    rw [List.filter_cons, List.map_cons, List.filter_cons]
    cases hb : q.1.above x with
    | true =>
      have hall : ∀ p ∈ W, p.1.above x = true := fun p hp => u7_up (h1 q List.mem_cons_self) (h1 p (List.mem_cons_of_mem _ hp)) ((List.pairwise_cons.mp h2).1 p hp) hb
      have e1 : W.filter (fun q => q.1.above x) = W := List.filter_eq_self.mpr hall
      have e2 : (W.map (·.1)).filter (fun ρ => ρ.above x) = W.map (·.1) := List.filter_eq_self.mpr fun ρ hρ => by
        obtain ⟨p, hp, rfl⟩ := List.mem_map.mp hρ
        exact hall p hp
      simp only [if_true, e1, e2, List.length_cons, List.length_map, Nat.sub_self, List.drop_zero]
    | false =>
      simp only [Bool.false_eq_true, if_false, List.length_cons]
      have hle : ((W.map (·.1)).filter fun ρ => ρ.above x).length ≤ W.length := Nat.le_trans (List.length_filter_le _ _) (by rw [List.length_map]; exact Nat.le_refl _)
      rw [show W.length + 1 - ((W.map (·.1)).filter fun ρ => ρ.above x).length = (W.length - ((W.map (·.1)).filter fun ρ => ρ.above x).length) + 1 by omega, List.drop_succ_cons]
      exact ih
/-- the sign at a place that is no root -/
theorem sign_at {p : QX} {U W : Rw} {c : Rat} (hs : SgW p U (decide (0 < c))) (hp : U.Perm W) (hW : RwS W) {x : Rat} (hx : p.ev x ≠ 0) : (dueL (sgR c) (W.map (·.2)))[W.length - cA (W.map (·.1)) x]? = some (sgR (p.ev x)) := by
  rw [due_at _ _ _ (by rw [List.length_map]; omega), ← List.map_drop, ← hW.drop x, prS_sum]
  have e := hs.sign x hx
  rw [wAb_perm hp] at e
  unfold wAb at e
  generalize ((W.filter fun q => q.1.above x).map (·.2)).sum = n at *
  congr 1
  unfold sgR
  by_cases h1 : 0 < c <;> by_cases h2 : n % 2 = 1 <;> by_cases h3 : 0 < p.ev x <;> simp [h1, h2, h3] at e ⊢
theorem ch_due (sg : Int) (h : sg = 1 ∨ sg = -1) : ∀ ms : List Nat, (((dueL sg ms).zip (dueL sg ms).tail).filter fun q => decide (q.1 ≠ q.2)).length = (ms.filter fun m => decide (m % 2 = 1)).length
  | [] => rfl
  | [m] => by
    show ([(prS sg [m], sg)].filter fun q => decide (q.1 ≠ q.2)).length = _
    have e : prS sg [m] = sg * (1 - 2 * ((m % 2 : Nat) : Int)) := rfl
    rw [e, List.filter_cons, List.filter_cons]
    by_cases h1 : m % 2 = 1
    · rw [h1, if_pos (decide_eq_true (by show sg * (1 - 2 * 1) ≠ sg; omega)), if_pos (by decide)]; rfl
    · rw [show m % 2 = 0 by omega, if_neg (by simp), if_neg (by simp)]; rfl
  | m :: m' :: ms => by
    have ih := ch_due sg h (m' :: ms)
    have hz : (dueL sg (m :: m' :: ms)).zip (dueL sg (m :: m' :: ms)).tail = (prS sg (m :: m' :: ms), prS sg (m' :: ms)) :: (dueL sg (m' :: ms)).zip (dueL sg (m' :: ms)).tail := rfl
    have e : prS sg (m :: m' :: ms) = prS sg (m' :: ms) * (1 - 2 * ((m % 2 : Nat) : Int)) := rfl
    rw [hz, List.filter_cons, e, List.filter_cons (x := m)]
    have hv : prS sg (m' :: ms) = 1 ∨ prS sg (m' :: ms) = -1 := by
      rw [prS_sum]
      split <;> omega
    generalize prS sg (m' :: ms) = v at *
    by_cases h1 : m % 2 = 1
    · rw [h1, if_pos (decide_eq_true (by show v * (1 - 2 * 1) ≠ v; omega)), if_pos (by decide), List.length_cons, List.length_cons, ih]
    · rw [show m % 2 = 0 by omega, if_neg (by simp), if_neg (by simp), ih]
theorem due_neg (sg : Int) : ∀ ms : List Nat, dueL (-sg) ms = (dueL sg ms).map fun z => 0 - z
  | [] => by show [-sg] = [0 - sg]; rw [Int.zero_sub]
  | m :: ms => by
    show prS (-sg) (m :: ms) :: dueL (-sg) ms = (0 - prS sg (m :: ms)) :: (dueL sg ms).map fun z => 0 - z
    rw [due_neg sg ms, prS_sum, prS_sum]
    congr 1
    split <;> omega

/-! ### where the pairs end -/
theorem cA_anti (R : List Rto) {x y : Rat} (h : x ≤ y) : cA R y ≤ cA R x := by
  by_cases e : x = y
  · rw [e]; exact Nat.le_refl _
  · have := cA_split R (show x < y by grind)
    omega
theorem cA_le (R : List Rto) (x : Rat) : cA R x ≤ R.length := List.length_filter_le _ _
theorem cA_perm {R S : List Rto} (h : R.Perm S) (x : Rat) : cA R x = cA S x := (h.filter _).length_eq
def OneIn (R : List Rto) (p : Rat × Rat) : Prop := p.1 < p.2 ∧ cA R p.1 = cA R p.2 + 1
theorem prs_low {R : List Rto} : ∀ (prs : List (Rat × Rat)), prs.Pairwise (fun p q => p.2 ≤ q.1) → (∀ p ∈ prs, OneIn R p) → ∀ y, (∀ p ∈ prs, y ≤ p.1) → prs.length ≤ cA R y
  | [], _, _, y, _ => Nat.zero_le _
  | p :: prs, h1, h2, y, hy => by
    have a1 := cA_anti R (hy p List.mem_cons_self)
    have a2 := (h2 p List.mem_cons_self).2
    have ih := prs_low prs (List.pairwise_cons.mp h1).2 (fun q hq => h2 q (List.mem_cons_of_mem _ hq)) p.2 (List.pairwise_cons.mp h1).1
    rw [List.length_cons]
    omega
theorem prs_high {R : List Rto} : ∀ (prs : List (Rat × Rat)), prs.Pairwise (fun p q => p.2 ≤ q.1) → (∀ p ∈ prs, OneIn R p) → ∀ z y, z ≤ y → (∀ p ∈ prs, z ≤ p.1 ∧ p.2 ≤ y) → cA R y + prs.length ≤ cA R z
  | [], _, _, z, y, hzy, _ => by
    have := cA_anti R hzy
    show cA R y + 0 ≤ _
    omega
  | p :: prs, h1, h2, z, y, hzy, hy => by
    have a1 := cA_anti R (hy p List.mem_cons_self).1
    have a2 := (h2 p List.mem_cons_self).2
    have ih := prs_high prs (List.pairwise_cons.mp h1).2 (fun q hq => h2 q (List.mem_cons_of_mem _ hq)) p.2 y (hy p List.mem_cons_self).2 fun q hq => ⟨(List.pairwise_cons.mp h1).1 q hq, (hy q (List.mem_cons_of_mem _ hq)).2⟩
    rw [List.length_cons]
    omega
theorem prs_at {R : List Rto} {prs : List (Rat × Rat)} (h1 : prs.Pairwise (fun p q => p.2 ≤ q.1)) (h2 : ∀ p ∈ prs, OneIn R p) (hl : prs.length = R.length) {i : Nat} (hi : i < prs.length) : cA R prs[i].2 + (i + 1) = R.length := by
  have hm : prs[i] ∈ prs := List.getElem_mem hi
  have hle : ∀ p ∈ prs, p.1 ≤ p.2 := fun p hp => Rat.le_of_lt (h2 p hp).1
  have at_ : ∀ j k (hj : j < prs.length) (hk : k < prs.length), j < k → prs[j].2 ≤ prs[k].1 := fun j k hj hk hjk => List.pairwise_iff_getElem.mp h1 j k hj hk hjk
  have a1 := prs_low (R := R) (prs.drop (i + 1)) (h1.sublist (List.drop_sublist _ _)) (fun p hp => h2 p (List.mem_of_mem_drop hp)) prs[i].2 fun p hp => by
    obtain ⟨j, hj, rfl⟩ := List.mem_iff_getElem.mp hp
    rw [List.length_drop] at hj
    rw [List.getElem_drop]
    exact at_ i (i + 1 + j) hi (by omega) (by omega)
  rw [List.length_drop] at a1
  have h0 : 0 < prs.length := by omega
  have a2 := prs_high (R := R) (prs.take (i + 1)) (h1.sublist (List.take_sublist _ _)) (fun p hp => h2 p (List.mem_of_mem_take hp)) prs[0].1 prs[i].2 (by
    by_cases e : i = 0
    · subst e
      exact hle _ hm
    · have b1 := at_ 0 i h0 hi (by omega)
      have b2 := hle _ (List.getElem_mem h0)
      have b3 := hle _ hm
      grind) fun p hp => by
    obtain ⟨j, hj, rfl⟩ := List.mem_iff_getElem.mp hp
    rw [List.length_take] at hj
    rw [List.getElem_take]
    have hjl : j < prs.length := by omega
    constructor
    · by_cases e : j = 0
      · subst e; exact Rat.le_refl
      · have b1 := at_ 0 j h0 hjl (by omega)
        have b2 := hle _ (List.getElem_mem h0)
        grind
    · by_cases e : j = i
      · subst e; exact Rat.le_refl
      · have b1 := at_ j i hjl hi (by omega)
        have b2 := hle _ hm
        grind
  rw [List.length_take] at a2
  have a3 := cA_le R prs[0].1
  omega
/-- the signs told are those due -/
theorem signs_due {p : QX} {U W : Rw} {c B : Rat} {R : List Rto} {prs : List (Rat × Rat)} (hs : SgW p U (decide (0 < c))) (hp : U.Perm W) (hW : RwS W) (hR : R.Perm (W.map (·.1))) (hB : cA R B = R.length) (hB0 : p.ev B ≠ 0)
    (h1 : prs.Pairwise (fun p q => p.2 ≤ q.1)) (h2 : ∀ p ∈ prs, OneIn R p) (h3 : ∀ q ∈ prs, p.ev q.2 ≠ 0) (hl : prs.length = R.length) : (B :: prs.map (·.2)).map (fun x => sgR (p.ev x)) = dueL (sgR c) (W.map (·.2)) := by
  have hlW : W.length = R.length := by rw [hR.length_eq, List.length_map]
  refine List.ext_getElem? fun i => ?_
  cases i with
  | zero =>
    have := sign_at hs hp hW hB0
    rw [← cA_perm hR, hB, hlW, Nat.sub_self] at this
    rw [this]
    rfl
  | succ i =>
    rw [List.map_cons, List.getElem?_cons_succ, List.map_map, List.getElem?_map]
    by_cases hi : i < prs.length
    · have ha := prs_at h1 h2 hl hi
      have := sign_at hs hp hW (h3 _ (List.getElem_mem hi))
      rw [← cA_perm hR, show W.length - cA R prs[i].2 = i + 1 by omega] at this
      rw [this, List.getElem?_eq_getElem hi]
      rfl
    · rw [List.getElem?_eq_none (by omega), List.getElem?_eq_none (by rw [due_len, List.length_map]; omega)]
      rfl
end An

/-! sorted(.., key=lambda row: row[0]). -/
namespace An
open PySem PySem.Spec PyProof.Rows L2 PySem.W
theorem lam_key0 {prog : Program} {w : World} {A : Around} {s : Shared} {f c' t : Addr} {q row : Str} {params : Arguments} {scope : Scope} {cl : List (Str × Addr)} {pm ctv : Value} {p1 p2 p3 : Pos} {kd : Nat} {items : Array Value} {z : Int} {tok : Tok}
    (hroom : A.depth < recursionLimit) (hf : s.heap.get? f = some (kla_obj "<lambda>" q params (.Subscript (.Name row p1) (.Constant (.int 0) kd p2) p3) scope cl pm c' ctv)) (hcode : s.heap.CodeRec (.ref c') q)
    (hbind : bindArgs (kla_fn "<lambda>" q params (.Subscript (.Name row p1) (.Constant (.int 0) kd p2) p3) scope cl pm (.ref c') ctv) ⟨[.ref t], []⟩ = pure [(row, .ref t)])
    (hco : scope.isCoroutine = false) (hgen : scope.isGenerator = false) (hk : scope.kind = .function) (hcell : ∀ x ∈ scope.names, x.2 ≠ .cell) (hloc : scope.names.lookup row = some .local) (hdb : (row == ("__debug__" : Str)) = false)
    (lim : s.heap.NoLimit) (ht : IsTup s.heap t items) (h0 : items[0]? = some (.int z tok)) :
    wpAny (model prog w) A (call (.ref f) [.ref t]) (KeyPure (.int z) s) (fun _ _ => False) s := by
  refine wpAny_call (codeAny_mono (R := fun r s' => ∃ u, r = .ok (.ret u) ∧ KeyPure (.int z) s u s') (kla_callFunE hroom hf rfl hco hgen rfl hcode ?_) ?_)
  · rw [hbind]
    refine wpAny_pure (wpAny_newFunctionEnv hcell (fun y hy => by rw [List.mem_singleton.mp hy]; exact hloc) (fun h1 hns hsb => ⟨lim.fresh _ hsb, ?_⟩) hk)
    have kp : ∀ b o, s.heap.get? b = some o → h1.get? b = some o := fun b o e => hsb.extBut b o (Nat.ne_of_lt (Heap.lt_size e)) (Heap.get?_push_of_some _ e)
    refine kla_codeExpr (wpAny_Subscript_Constant_late (wpAny_Name (wpAny_loadName_local (v := .ref t) hk hloc hns (by simp [List.lookup]) ?_) hdb) (by intro _ _; rfl))
    have ht1 : IsTup h1 t items := ht.keeps kp
    have hpos : 0 < items.size := by
      cases e : items.size with
      | zero => rw [Array.getElem?_eq_none (by omega)] at h0; cases h0
      | succ n => omega
    refine wpAny_Constant_int ⟨"tuple", _, slot_tuple_getitem.lookup, ht1.typeIs, getItem_tuple (j := 0) ht1 (by decide) (by decide) ?_ h0 ?_⟩
    · show seqIndex? 0 items.size = some 0
      unfold seqIndex?
      simp [hpos]
    · exact ⟨_, rfl, h1, _, rfl, kp, .int _ _⟩
  · intro r s' hq
    obtain ⟨u, rfl, hq⟩ := hq
    exact hq

section
variable {X : Cx}
theorem each_vals {β : Type} {g : β → V} : ∀ {bs : List β} {us : List Value}, Vals (bs.map g) us → EachIs (fun u x => RelV (g x) u) us bs
  | [], _, .nil => .nil
  | _ :: _, _, .cons r t => .cons r (each_vals t)
theorem vals_each {β : Type} {g : β → V} : ∀ {us : List Value} {bs : List β}, EachIs (fun u x => RelV (g x) u) us bs → Vals (bs.map g) us
  | _, _, .nil => .nil
  | _, _, .cons r t => .cons r (vals_each t)
/-- sorted(a, key=lambda row: row[0]) -/
theorem pe_sortL {T : List (Addr × Str)} {c P : Addr} {a : Expr} {ta : TE} {row : Str} {params : Arguments} {scope : Scope} {p pos lpos kpos p1 p2 p3 : Pos} {kd : Nat}
    (TB : LamX.TabB X.base X.mg c P) (hcode : X.env.code = .ref c) (hmT : (P, X.env.qual ++ "<lambda>") ∈ T) (hu : ∀ q ∈ T, q.1 = P → q.2 = X.env.qual ++ "<lambda>") (hdef : defaultsOf params X.env = ([], []))
    (hfree : ∀ y ∈ scope.names, y.2 = .free → ∃ c, X.env.cells.lookup y.1 = some c) (hr : Room 1 X.A) (hm : X.mg "sorted" = none) (ha : PE X a ta)
    (hbind : ∀ (q : Str) (cl : List (Str × Addr)) (pm cv ctv v : Value), bindArgs (kla_fn "<lambda>" q params (.Subscript (.Name row p1) (.Constant (.int 0) kd p2) p3) scope cl pm cv ctv) ⟨[v], []⟩ = pure [(row, v)])
    (hco : scope.isCoroutine = false) (hgen : scope.isGenerator = false) (hk : scope.kind = .function) (hcell : ∀ x ∈ scope.names, x.2 ≠ .cell) (hloc : scope.names.lookup row = some .local) (hdb : (row == ("__debug__" : Str)) = false)
    (hg : Gl X "sorted") (na : starEach [a] X.env = (false, eval a X.env) :: starEach [] X.env)
    (he : backTo pos (starEach [a] X.env) = (false, eval a X.env) :: backTo pos (starEach [] X.env) := by rfl) (hpl : (backTo pos (starEach [a] X.env)).any (·.1) = false := by rfl) :
    PE X (.Call (.Name "sorted" p) [a] [⟨some "key", .Lambda params (.Subscript (.Name row p1) (.Constant (.int 0) kd p2) p3) scope lpos, kpos⟩] pos)
      (fun σ H Q => ta σ H fun x H1 => LamX.Tabs T H1 ∧ ∃ (l : Addr) (vs : List (V × Int)), x = .ref l ∧ SqL X.K H1 l (vs.map (·.1)) ∧ vs.length ≤ 100 ∧ (∀ v ∈ vs, ∃ t xs, v.1 = .ref t ∧ SqT X.K H1 t (.int v.2 :: xs)) ∧
        ∀ H2 p, SameN T H1 H2 → H2 p = none → Q (.ref p) (upd H2 p (.lst ((vs.mergeSort fun u v => decide (u.2 ≤ v.2)).map (·.1))))) := by
  refine ⟨fun pins s σ H Q I h => ?_⟩
  refine wpAny_Call_Name_kw (ld_blt I hg hm (show bootBuiltins "sorted" = some (.builtin "sorted") by decide +kernel) ?_ (by decide) (by decide))
  refine PyProof.Rows.callWith_kw ?_ he hpl rfl rfl
  rw [he]
  refine Calls.spliced_cons (thn (ha.run pins s σ H _ I h) fun u s1 ⟨x, H1, I1, r1, hT, l, vs, ex, hl, hn, hat, hQ⟩ => Calls.spliced_nil ?_)
  subst ex
  obtain rfl : u = Value.ref l := r1
  show wpAny _ _ (evalAll [(do let v ← eval (.Lambda params (.Subscript (.Name row p1) (.Constant (.int 0) kd p2) p3) scope lpos) X.env; standAt pos; pure v)]) _ _ s1
  refine wpAny_evalAll_cons (wpAny_bind (lam_new I1 TB hcode hmT hu hT hdef hfree fun f c' pm ctv H2 s2 I2 sm hf hfn hfr hc => wpAny_bind (wpAny_standAt (wpAny_pure (wpAny_evalAll_nil ?_)))))
  show wpAny _ _ (call (.builtin "sorted") [.ref l] [(Str.ofString "key", .ref f)]) _ _ s2
  have hl2 : SqL X.K H2 l (vs.map (·.1)) := sql_keep sm.1 hl
  obtain ⟨its, rv, pl, hz⟩ := I2.list hl2
  obtain ⟨⟨oc, cvs, ct, hoc, hdc, hvc⟩, _, _⟩ := I2.hok c' _ hc
  refine sorted_key_data (b := false) (R := fun u x => RelV x.1 u) (bs := vs) (fun x : V × Int => .int x.2) pl.isList (each_vals rv) (AllAlike.of fun _ _ => by simp [alike]) (Sortable.others fun _ => ⟨fun z => (nomatch z), fun _ z => nomatch z⟩) (by rw [sizeLine_eq]; omega)
    (fun x _ => ?_) (ksk_s1 _ _) (fun _ => ksk_l1 _ _) (fun _ => ksk_t1 _ _) (fun v x hR hx h tk kp => ?_) fun out c2 h' tk kp fresh hD hlen eo => ?_
  · have := hr.un
    show X.A.units + 2 + 0 < cLine
    omega
  · obtain ⟨t, xs, ex, hq⟩ := hat x hx
    rw [ex] at hR
    obtain rfl : v = Value.ref t := hR
    obtain ⟨its', rv', pl', _⟩ := I2.tuple (sqt_keep sm.1 hq)
    cases rv' with
    | cons r0 r1 =>
      rename_i u0 ur
      obtain ⟨tok, rfl⟩ := r0
      exact lam_key0 (row := row) (show X.A.depth < _ by have := hr.dp; omega) (kp _ _ hf) ⟨c', oc, cvs, ct, rfl, kp _ _ hoc, hdc, hvc⟩ (hbind _ _ _ _ _ _) hco hgen hk hcell hloc hdb (I2.nolimit.keeps kp) (pl'.keeps kp) rfl
  · rw [dataLe_int] at eo
    have hlm : ((vs.mergeSort fun u v => decide (u.2 ≤ v.2)).map (·.1)).length ≤ sizeLine := by rw [List.length_map, List.length_mergeSort, sizeLine_eq]; omega
    exact ⟨.ref _, upd H2 (s2.heap.objs.size + 1) (.lst ((vs.mergeSort fun u v => decide (u.2 ≤ v.2)).map (·.1))), I2.laid (t' := tk) kp (Nat.le_succ _) ⟨hlm, out, c2, vals_each eo, hD⟩, rfl, hQ H2 _ sm (I2.hok.fresh (Nat.le_succ _))⟩
theorem dt_zip {K : PySem.W.Frag} {H : Hp} : ∀ {vs : List V} {ds : List D}, DtAll K H vs ds → (∀ q ∈ vs.zip ds, Dt K H q.1 q.2) ∧ (vs.zip ds).map (·.1) = vs ∧ (vs.zip ds).map (·.2) = ds
  | _, _, .nil => ⟨fun q hq => (nomatch hq), rfl, rfl⟩
  | _, _, .cons r t => by
    obtain ⟨h1, h2, h3⟩ := dt_zip t
    refine ⟨fun q hq => ?_, congrArg (List.cons _) h2, congrArg (List.cons _) h3⟩
    rcases List.mem_cons.mp hq with z | z
    · rw [z]; exact r
    · exact h1 q z
theorem dts_of {K : PySem.W.Frag} {H : Hp} : ∀ {bs : List (V × D)}, (∀ q ∈ bs, Dt K H q.1 q.2) → DtAll K H (bs.map (·.1)) (bs.map (·.2))
  | [], _ => .nil
  | q :: bs, h => .cons (h q List.mem_cons_self) (dts_of fun p hp => h p (List.mem_cons_of_mem _ hp))
theorem ef_sortL {T : List (Addr × Str)} {γ : List Sl} {c P : Addr} {a : Expr} {ds : List D} {kD : D → Int} {row : Str} {params : Arguments} {scope : Scope} {p pos lpos kpos p1 p2 p3 : Pos} {kd : Nat} (ha : EE (SameN T) X γ a (.list ds)) (hl : ds.length ≤ 100) (hd : ∀ d ∈ ds, ∃ r, d = .tuple (.int (kD d) :: r))
    (TB : LamX.TabB X.base X.mg c P) (hcode : X.env.code = .ref c) (hmT : (P, X.env.qual ++ "<lambda>") ∈ T) (hu : ∀ q ∈ T, q.1 = P → q.2 = X.env.qual ++ "<lambda>") (hr : Room 1 X.A) (hm : X.mg "sorted" = none)
    (hdef : defaultsOf params X.env = ([], []) := by rfl) (hfree : ∀ y ∈ scope.names, y.2 = .free → ∃ c, X.env.cells.lookup y.1 = some c := by decide)
    (hbind : ∀ (q : Str) (cl : List (Str × Addr)) (pm cv ctv v : Value), bindArgs (kla_fn "<lambda>" q params (.Subscript (.Name row p1) (.Constant (.int 0) kd p2) p3) scope cl pm cv ctv) ⟨[v], []⟩ = pure [(row, v)] := by exact fun _ _ _ _ _ _ => rfl)
    (hco : scope.isCoroutine = false := by rfl) (hgen : scope.isGenerator = false := by rfl) (hk : scope.kind = .function := by rfl) (hcell : ∀ x ∈ scope.names, x.2 ≠ .cell := by decide) (hloc : scope.names.lookup row = some .local := by rfl) (hdb : (row == ("__debug__" : Str)) = false := by decide)
    (hg : Gl X "sorted" := by rfl) (na : starEach [a] X.env = (false, eval a X.env) :: starEach [] X.env := by rfl)
    (he : backTo pos (starEach [a] X.env) = (false, eval a X.env) :: backTo pos (starEach [] X.env) := by rfl) (hpl : (backTo pos (starEach [a] X.env)).any (·.1) = false := by rfl) :
    EF (SameN T) X γ (.Call (.Name "sorted" p) [a] [⟨some "key", .Lambda params (.Subscript (.Name row p1) (.Constant (.int 0) kd p2) p3) scope lpos, kpos⟩] pos) (ds.mergeSort fun d e => decide (kD d ≤ kD e)) := fun H0 S0 σ H Q s k =>
  we_of (pe_sortL TB hcode hmT hu hdef hfree hr hm pe_we hbind hco hgen hk hcell hloc hdb hg na he hpl) (ha H0 S0 σ H _ s fun v H1 r1 d1 => by
    cases d1 with
    | lst h1 h2 =>
      rename_i l vs
      obtain ⟨z1, z2, z3⟩ := dt_zip h2
      have hlv : (vs.zip ds).length ≤ 100 := by
        have := congrArg List.length z3
        rw [List.length_map] at this
        omega
      have hmem : ∀ q ∈ vs.zip ds, q.2 ∈ ds := fun q hq => (List.of_mem_zip (show (q.1, q.2) ∈ vs.zip ds from hq)).2
      refine ⟨r1.2.2.2, l, (vs.zip ds).map (fun x => (x.1, kD x.2)), rfl, ?_, by rw [List.length_map]; exact hlv, fun x hx => ?_, fun H2 p sm n => ?_⟩
      · rw [List.map_map]
        show SqL X.K H1 l ((vs.zip ds).map (·.1))
        rw [z2]
        exact .inl (rd_keep off_in h1)
      · obtain ⟨q, hq, rfl⟩ := List.mem_map.mp hx
        obtain ⟨r, e⟩ := hd _ (hmem q hq)
        have hq1 := z1 q hq
        rw [e] at hq1
        generalize q.1 = v at hq1 ⊢
        cases hq1 with
        | tup g1 g2 =>
          cases g2 with
          | cons e1 e2 =>
            cases e1
            exact ⟨_, _, rfl, sqt_keep off_in g1⟩
      · have r2 := Rel.trans r1 sm
        have m1 : (((vs.zip ds).map (fun x => (x.1, kD x.2))).mergeSort fun u v => decide (u.2 ≤ v.2)).map (·.1) = ((vs.zip ds).mergeSort fun u v => decide (kD u.2 ≤ kD v.2)).map (·.1) := by
          rw [← List.map_mergeSort (f := fun x : V × D => (x.1, kD x.2)) (r := fun u v => decide (kD u.2 ≤ kD v.2)) (fun _ _ _ _ => rfl), List.map_map]
          rfl
        have m2 : (ds.mergeSort fun d e => decide (kD d ≤ kD e)) = ((vs.zip ds).mergeSort fun u v => decide (kD u.2 ≤ kD v.2)).map (·.2) := by
          rw [List.map_mergeSort (f := fun x : V × D => x.2) (s := fun d e => decide (kD d ≤ kD e)) (fun _ _ _ _ => rfl), z3]
        rw [m1]
        have hall : DtAll X.K (off (Sx S0 γ σ) H2) (((vs.zip ds).mergeSort fun u v => decide (kD u.2 ≤ kD v.2)).map (·.1)) (((vs.zip ds).mergeSort fun u v => decide (kD u.2 ≤ kD v.2)).map (·.2)) := dts_of fun q hq => dt_up sm (z1 q (List.mem_mergeSort.mp hq))
        rw [← m2] at hall
        exact k p _ _ (Rel.free r2 n) (Rel.more r2 (same_new n)) upd_same (dts_newO n hall))
end
end An

/-! The law's places among told roots. -/
namespace An
open PySem
def spots : List Rat := [-9, -2, mkRat (-3) 2, -1, 0, mkRat 1 4, mkRat 1 2, mkRat 3 4, 1, mkRat 7 5, mkRat 3 2, 9]
theorem spot_key {x : Rat} (hx : x ∈ spots) {ρ : Rto} (hρ : ρ ∈ U7) : (keyR ρ * ((x.den : Nat) : Int) < x.num * 1000 ∧ ρ ≠ .q x) ↔ (ρ.above x = false ∧ ρ ≠ .q x) := by
  have k : spots.all (fun x => U7.all fun ρ => decide ((keyR ρ * ((x.den : Nat) : Int) < x.num * 1000 ∧ ρ ≠ .q x) ↔ (ρ.above x = false ∧ ρ ≠ .q x))) = true := by decide +kernel
  exact of_decide_eq_true (List.all_eq_true.mp (List.all_eq_true.mp k x hx) ρ hρ)
theorem spot_near {x : Rat} (hx : x ∈ spots) {ρ : Rto} (hρ : ρ ∈ U7) : (ρ ≠ .q x → ρ.above (x - mkRat 1 128) = ρ.above (x + mkRat 1 128)) ∧ ρ ≠ .q (x - mkRat 1 128) ∧ ρ ≠ .q (x + mkRat 1 128) := by
  have k : spots.all (fun x => U7.all fun ρ => decide ((ρ ≠ .q x → ρ.above (x - mkRat 1 128) = ρ.above (x + mkRat 1 128)) ∧ ρ ≠ .q (x - mkRat 1 128) ∧ ρ ≠ .q (x + mkRat 1 128))) = true := by decide +kernel
  exact of_decide_eq_true (List.all_eq_true.mp (List.all_eq_true.mp k x hx) ρ hρ)
theorem spot_rz {x : Rat} (hx : x ∈ spots) : Rz 1000 x := by
  have k : spots.all (fun x => decide (x.num.natAbs < 2 ^ 10 ∧ x.den < 2 ^ 10)) = true := by decide +kernel
  have h := of_decide_eq_true (List.all_eq_true.mp k x hx)
  exact Rz.mono (n := 10) ⟨h.1, h.2⟩ (by decide)
end An

/-! Rows counted below a place. -/
namespace An
open PySem
def belR (x : Rat) (q : Rto × Nat) : Bool := decide (keyR q.1 * ((x.den : Nat) : Int) < x.num * 1000) && decide (q.1 ≠ .q x)
def atR (x : Rat) (q : Rto × Nat) : Bool := decide (q.1 = .q x)
theorem below_cnt {x : Rat} (hx : x ∈ spots) : ∀ {W : Rw}, (∀ q ∈ W, q.1 ∈ U7) → (W.filter (belR x)).length + cA (W.map (·.1)) x + (W.filter (atR x)).length = W.length
  | [], _ => rfl
  | q :: W, h => by
    have ih := below_cnt hx (W := W) fun p hp => h p (List.mem_cons_of_mem _ hp)
    have hk := spot_key hx (h q List.mem_cons_self)
    unfold cA at ih ⊢
    rw [List.filter_cons, List.map_cons, List.filter_cons, List.filter_cons, List.length_cons]
    by_cases he : q.1 = .q x
    · have a1 : belR x q = false := by unfold belR; rw [decide_eq_false (show ¬ q.1 ≠ .q x from fun z => z he), Bool.and_false]
      have a2 : atR x q = true := decide_eq_true he
      have a3 : q.1.above x = false := by rw [he]; exact decide_eq_false Rat.lt_irrefl
      rw [a1, a2, a3]
      simp only [Bool.false_eq_true, if_false, if_true, List.length_cons]
      omega
    · have a2 : atR x q = false := decide_eq_false he
      cases hb : q.1.above x with
      | true =>
        have a1 : belR x q = false := by
          unfold belR
          rw [decide_eq_false (show ¬ keyR q.1 * ((x.den : Nat) : Int) < x.num * 1000 from fun z => by
            have := (hk.mp ⟨z, he⟩).1
            rw [hb] at this
            cases this), Bool.false_and]
        rw [a1, a2]
        simp only [Bool.false_eq_true, if_false, if_true, List.length_cons]
        omega
      | false =>
        have a1 : belR x q = true := by
          unfold belR
          have := hk.mpr ⟨hb, he⟩
          rw [decide_eq_true this.1, decide_eq_true this.2]
          rfl
        rw [a1, a2]
        simp only [Bool.false_eq_true, if_false, if_true, List.length_cons]
        omega
theorem at_le {W : Rw} (h : RwS W) (x : Rat) : (W.filter (atR x)).length ≤ 1 := by
  have hp := h.up.filter (atR x)
  cases e : W.filter (atR x) with
  | nil => exact Nat.zero_le _
  | cons a l =>
    cases l with
    | nil => exact Nat.le_refl _
    | cons b l =>
      exfalso
      rw [e] at hp
      have h1 := (List.pairwise_cons.mp hp).1 b List.mem_cons_self
      have m1 : a ∈ W.filter (atR x) := by rw [e]; exact List.mem_cons_self
      have m2 : b ∈ W.filter (atR x) := by rw [e]; exact List.mem_cons_of_mem _ List.mem_cons_self
      have e1 : a.1 = .q x := of_decide_eq_true (List.mem_filter.mp m1).2
      have e2 : b.1 = .q x := of_decide_eq_true (List.mem_filter.mp m2).2
      rw [e1, e2] at h1
      omega
theorem at_root {p : QX} {U W : Rw} {s0 : Bool} (hs : SgW p U s0) (hp : U.Perm W) (hW : RwS W) (x : Rat) : (W.filter (atR x)).length = if p.ev x = 0 then 1 else 0 := by
  have hle := at_le hW x
  by_cases z : p.ev x = 0
  · rw [if_pos z]
    obtain ⟨m, hm⟩ := (hs.zero x).mp z
    have : (Rto.q x, m) ∈ W.filter (atR x) := List.mem_filter.mpr ⟨hp.mem_iff.mp hm, decide_eq_true rfl⟩
    have := List.length_pos_of_mem this
    omega
  · rw [if_neg z]
    refine List.length_eq_zero_iff.mpr (List.filter_eq_nil_iff.mpr fun q hq w => z ((hs.zero x).mpr ⟨q.2, hp.mem_iff.mpr ?_⟩))
    have e : q.1 = .q x := of_decide_eq_true w
    rw [← e]
    exact hq
/-- the signs near a place -/
theorem near_due {p : QX} {U W : Rw} {c x w : Rat} (hs : SgW p U (decide (0 < c))) (hp : U.Perm W) (hW : RwS W) (hx : x ∈ spots) (hw : 0 < w) (hL : p.ev (x - w) ≠ 0) (hR : p.ev (x + w) ≠ 0)
    (hn : cA (W.map (·.1)) (x - w) ≤ cA (W.map (·.1)) (x + w) + (if p.ev x = 0 then 1 else 0)) :
    (dueL (sgR c) (W.map (·.2)))[(W.filter (belR x)).length]? = some (sgR (p.ev (x - w))) ∧ (dueL (sgR c) (W.map (·.2)))[(W.filter (belR x)).length + (if p.ev x = 0 then 1 else 0)]? = some (sgR (p.ev (x + w))) := by
  have h1 := below_cnt hx hW.in7
  have h2 := at_root hs hp hW x
  have a1 := sign_at hs hp hW hL
  have a2 := sign_at hs hp hW hR
  have c1 := cA_anti (W.map (·.1)) (show x - w ≤ x by grind)
  have c2 := cA_anti (W.map (·.1)) (show x ≤ x + w by grind)
  have c0 := cA_le (W.map (·.1)) (x - w)
  rw [List.length_map] at c0
  by_cases z : p.ev x = 0
  · rw [if_pos z] at hn h2 ⊢
    obtain ⟨m, hm⟩ := (hs.zero x).mp z
    have c3 : cA (W.map (·.1)) x + 1 ≤ cA (W.map (·.1)) (x - w) := by
      have e := cA_split (W.map (·.1)) (show x - w < x by grind)
      have : Rto.q x ∈ (W.map (·.1)).filter fun ρ => ρ.above (x - w) && !ρ.above x := by
        refine List.mem_filter.mpr ⟨List.mem_map.mpr ⟨_, hp.mem_iff.mp hm, rfl⟩, ?_⟩
        show (decide (x - w < x) && !decide (x < x)) = true
        rw [decide_eq_true (by grind), decide_eq_false Rat.lt_irrefl]
        rfl
      have := List.length_pos_of_mem this
      omega
    rw [show W.length - cA (W.map (·.1)) (x - w) = (W.filter (belR x)).length by omega] at a1
    rw [show W.length - cA (W.map (·.1)) (x + w) = (W.filter (belR x)).length + 1 by omega] at a2
    exact ⟨a1, a2⟩
  · rw [if_neg z] at hn h2 ⊢
    rw [show W.length - cA (W.map (·.1)) (x - w) = (W.filter (belR x)).length by omega] at a1
    rw [show W.length - cA (W.map (·.1)) (x + w) = (W.filter (belR x)).length + 0 by omega] at a2
    exact ⟨a1, a2⟩
theorem sgR_one {q : Rat} : sgR q = 1 ↔ 0 < q := by
  unfold sgR
  by_cases h : 0 < q
  · rw [if_pos h]; exact ⟨fun _ => h, fun _ => rfl⟩
  · rw [if_neg h]; exact ⟨fun z => absurd z (by decide), fun z => absurd z h⟩
/-- above nought between two places -/
theorem above_due {p : QX} {U W : Rw} {c x y : Rat} {n d : Int} (hs : SgW p U (decide (0 < c))) (hp : U.Perm W) (hW : RwS W) (hx : x ∈ spots) (hy : y ∈ spots) (hn : n = (cA (W.map (·.1)) x : Int) - cA (W.map (·.1)) y)
    (hd : (dueL (sgR c) (W.map (·.2)))[(W.filter (belR x)).length]? = some d) :
    (decide (0 < p.ev x) && decide (0 < p.ev y) && decide (n = 0)) = ((!decide (p.ev x = 0) && decide ((W.filter (belR x)).length = (W.filter (belR y)).length) && !decide (p.ev y = 0)) && decide (d = 1)) := by
  by_cases zx : p.ev x = 0
  · rw [decide_eq_false (show ¬ 0 < p.ev x by rw [zx]; decide), decide_eq_true zx]
    rfl
  by_cases zy : p.ev y = 0
  · rw [decide_eq_false (show ¬ 0 < p.ev y by rw [zy]; decide), decide_eq_true zy]
    simp
  have h1 := below_cnt hx hW.in7
  have h2 := below_cnt hy hW.in7
  rw [at_root hs hp hW x, if_neg zx] at h1
  rw [at_root hs hp hW y, if_neg zy] at h2
  have a1 := sign_at hs hp hW zx
  have a2 := sign_at hs hp hW zy
  rw [show W.length - cA (W.map (·.1)) x = (W.filter (belR x)).length by omega, hd] at a1
  rw [show W.length - cA (W.map (·.1)) y = (W.filter (belR y)).length by omega] at a2
  injection a1 with a1
  have e1 : decide (d = 1) = decide (0 < p.ev x) := decide_eq_decide.mpr (by rw [a1]; exact sgR_one)
  have e2 : decide (n = 0) = decide ((W.filter (belR x)).length = (W.filter (belR y)).length) := decide_eq_decide.mpr (by omega)
  rw [e1, e2, decide_eq_false zx, decide_eq_false zy]
  by_cases he : (W.filter (belR x)).length = (W.filter (belR y)).length
  · rw [← he, hd] at a2
    injection a2 with a2
    have : decide (0 < p.ev y) = decide (0 < p.ev x) := decide_eq_decide.mpr (by rw [← sgR_one, ← sgR_one (q := p.ev x), ← a1, ← a2])
    rw [this, decide_eq_true he]
    cases decide (0 < p.ev x) <;> rfl
  · rw [decide_eq_false he]
    simp
section
open PySem.Spec PyProof.Rows L2
variable {R : Hp → Hp → Prop} [RelC R] {X : Cx} {γ : List Sl} {P : Po} {pos : Pos}
theorem s1_cont (h : P.ct γ) : S1 R X γ (.Continue pos) P := fun H0 S0 σ H E W s tk n r b c z => ws_of ps_continue (c γ σ H h s)
end
end An

/-! Lists of lists of one's own, changed in place. -/
namespace An
open PySem PySem.Spec PyProof.Rows L2
/-- at ps stand lists of rows -/
def NLr (K : PySem.W.Frag) : List Addr → List (List D) → Hp → Hp → Prop
  | [], [], _, _ => True
  | p :: ps, ds :: rs, H, Hd => (∃ vs, H p = some (.lst vs) ∧ DtAll K Hd vs ds) ∧ NLr K ps rs H Hd
  | _, _, _, _ => False
theorem NLr.keep {K : PySem.W.Frag} {H H' Hd Hd' : Hp} (kp : Keep Hd Hd') : ∀ {ps : List Addr} {rows : List (List D)}, NLr K ps rows H Hd → (∀ a ∈ ps, H' a = H a) → NLr K ps rows H' Hd'
  | [], [], _, _ => trivial
  | p :: ps, ds :: rs, ⟨⟨vs, h1, h2⟩, h3⟩, e => ⟨⟨vs, by rw [e p List.mem_cons_self]; exact h1, dps_keep kp _ _ h2⟩, NLr.keep kp h3 fun a ha => e a (List.mem_cons_of_mem _ ha)⟩
  | [], _ :: _, h, _ => False.elim h
  | _ :: _, [], h, _ => False.elim h
theorem NLr.len {K : PySem.W.Frag} {H Hd : Hp} : ∀ {ps : List Addr} {rows : List (List D)}, NLr K ps rows H Hd → ps.length = rows.length
  | [], [], _ => rfl
  | p :: ps, ds :: rs, ⟨_, h3⟩ => congrArg (· + 1) h3.len
  | [], _ :: _, h => False.elim h
  | _ :: _, [], h => False.elim h
theorem NLr.get {K : PySem.W.Frag} {H Hd : Hp} : ∀ {ps : List Addr} {rows : List (List D)} {i : Nat} {ds : List D}, NLr K ps rows H Hd → rows[i]? = some ds → ∃ q vs, ps[i]? = some q ∧ H q = some (.lst vs) ∧ DtAll K Hd vs ds
  | [], [], i, ds, _, e => by cases e
  | p :: ps, d :: rs, 0, ds, ⟨⟨vs, h1, h2⟩, _⟩, e => by
    cases e
    exact ⟨p, vs, rfl, h1, h2⟩
  | p :: ps, d :: rs, i + 1, ds, ⟨_, h3⟩, e => h3.get (i := i) e
  | [], _ :: _, _, _, h, _ => False.elim h
  | _ :: _, [], _, _, h, _ => False.elim h
theorem NLr.app {K : PySem.W.Frag} {H Hd : Hp} {p : Addr} {vs : List V} {ds : List D} (h1 : H p = some (.lst vs)) (h2 : DtAll K Hd vs ds) : ∀ {ps : List Addr} {rows : List (List D)}, NLr K ps rows H Hd → NLr K (ps ++ [p]) (rows ++ [ds]) H Hd
  | [], [], _ => ⟨⟨vs, h1, h2⟩, trivial⟩
  | _ :: _, _ :: _, ⟨a, b⟩ => ⟨a, b.app h1 h2⟩
  | [], _ :: _, h => False.elim h
  | _ :: _, [], h => False.elim h
theorem NLr.set {K : PySem.W.Frag} {H Hd Hd' : Hp} {q : Addr} {vs : List V} {ds : List D} (kp : Keep Hd Hd') (h2 : DtAll K Hd' vs ds) : ∀ {ps : List Addr} {rows : List (List D)} {i : Nat}, NLr K ps rows H Hd → ps.Nodup → ps[i]? = some q → NLr K ps (rows.set i ds) (upd H q (.lst vs)) Hd'
  | [], [], i, _, _, e => by cases e
  | p :: ps, d :: rs, 0, ⟨⟨ws, a1, a2⟩, b⟩, nd, e => by
    cases e
    refine ⟨⟨vs, upd_same, h2⟩, b.keep kp fun a ha => upd_ne fun z => ?_⟩
    rw [z] at ha
    exact (List.nodup_cons.mp nd).1 ha
  | p :: ps, d :: rs, i + 1, ⟨⟨ws, a1, a2⟩, b⟩, nd, e => by
    have hq : q ∈ ps := List.mem_of_getElem? e
    refine ⟨⟨ws, ?_, dps_keep kp _ _ a2⟩, b.set kp h2 (List.nodup_cons.mp nd).2 e⟩
    rw [upd_ne fun z => (List.nodup_cons.mp nd).1 (by rw [z]; exact hq)]
    exact a1
  | [], _ :: _, _, h, _, _ => False.elim h
  | _ :: _, [], _, h, _, _ => False.elim h
/-- a list of lists of one's own -/
def nlB (rows : List (List D)) : Bx where
  at_ := fun K v fs H Hd => ∃ p ps, v = .ref p ∧ fs = p :: ps ∧ (p :: ps).Nodup ∧ H p = some (.lst (ps.map V.ref)) ∧ NLr K ps rows H Hd
  keep := fun {K v fs H Hd H' Hd'} h e kp => by
    obtain ⟨p, ps, rfl, rfl, h1, h2, h3⟩ := h
    exact ⟨p, ps, rfl, rfl, h1, by rw [e p List.mem_cons_self]; exact h2, h3.keep kp fun a ha => e a (List.mem_cons_of_mem _ ha)⟩
/-- e comes to a new list of new lists -/
def ENc (R : Hp → Hp → Prop) (X : Cx) (γ : List Sl) (mk : TE → Prop) (rows : List (List D)) : Prop := ∃ t : TE, mk t ∧ ∀ (H0 : Hp) (S0 : Addr → Prop) (σ : L2.St) (H : Hp) (Q : VK), SI R X.K H0 S0 γ σ H →
  (∀ p ps H2, (p :: ps).Nodup → (∀ a ∈ p :: ps, H a = none) → R H H2 → H2 p = some (.lst (ps.map V.ref)) → NLr X.K ps rows H2 (off (fun a => a ∈ p :: ps ∨ Sx S0 γ σ a) H2) → Q (.ref p) H2) → t σ H Q
def EN (R : Hp → Hp → Prop) (X : Cx) (γ : List Sl) (e : Expr) (rows : List (List D)) : Prop := ENc R X γ (fun t => PE X e t ∧ ∀ (i : Nat) (y : Str) (py spos : Pos), X.N[i]? = some y → X.env.scope.names.lookup y = some .local → swapsWith e (some (.Name y py)) spos.line X.env = pure true → PS X (.Assign [.Name y py] e spos) (tAsg t (gName i))) rows
section
variable {R : Hp → Hp → Prop} [RelC R] {X : Cx} {γ : List Sl} {pos : Pos} {P : Po}
/-- some addresses more are left alone -/
theorem SI.avoidS {K : PySem.W.Frag} {H0 H H' : Hp} {S0 : Addr → Prop} {σ : L2.St} {C : Addr → Prop} (s : SI R K H0 S0 γ σ H) (r : R H H') (n : ∀ p, C p → H p = none) (hp : ∀ p, C p → H' p ≠ none) : SI R K (cutO γ σ H') (fun a => C a ∨ S0 a) γ σ H' := by
  have sm := s.mono r
  have s' := sm.rebase
  have up : Keep (off (Sx S0 γ σ) H) (off (Sx (fun a => C a ∨ S0 a) γ σ) H') := fun a o e nn => by
    obtain ⟨h1, h2⟩ := off_some e
    refine off_of (fun z => ?_) (Rel.keep r a o h2 nn)
    rcases z with (z | z) | z
    · rw [n a z] at h2
      cases h2
    · exact h1 (.inl z)
    · exact h1 (.inr z)
  refine ⟨s'.rel, fun a ha => ?_, s.len, fun i x h => ?_, s'.fp, s.inj⟩
  · rcases ha with hc | ha
    · intro z
      unfold cutO off at z
      by_cases hs : isOwn γ σ a
      · obtain ⟨i, f⟩ := hs
        exact (s.fp i a f).2.there (n a hc)
      · rw [if_neg hs] at z
        exact hp a hc z
    · exact s'.dom a ha
  · obtain ⟨v, h1, h2⟩ := s.ok i x h
    exact ⟨v, h1, h2.keep (fun a f => (s.fp i a ⟨x, v, h, h1, f⟩).2.keep (Rel.keep r)) up⟩
theorem lcN_gen {mk : TE → Prop} {wi : TI} {elt iter tg : Expr} {scope : Scope} {j : Nat} {L : List (D × List D)} (hwi : ∀ (H0 : Hp) (S0 : Addr → Prop) (σ : L2.St) (H : Hp) (Rk : It → Hp → Prop), SI R X.K H0 S0 γ σ H → (∀ J H1, R H H1 → ItD X.K (Sx S0 γ σ) J (L.map (·.1)) H1 → Rk J H1) → wi σ H Rk)
    (hpe : ∀ (tt : TT) (te : TE), (∀ (s : Shared) (H : Hp) (C : Addr) (cl : List (Str × Addr)) (fp : List Addr), PTs (X.blk s H scope (compEnvC scope cl C X.env) fp) [] tt) → (∀ (s : Shared) (H : Hp) (C : Addr) (cl : List (Str × Addr)) (fp : List Addr), PE (X.blk s H scope (compEnvC scope cl C X.env) fp) elt te) →
      mk (tLc wi (gName j) tt te [j]))
    (hown : ∀ es, γ[j]? ≠ some (.own es))
    (ht : ∀ e ∈ L, ∀ (s : Shared) (H : Hp) (C : Addr) (cl : List (Str × Addr)) (fp : List Addr), EF R (X.blk s H scope (compEnvC scope cl C X.env) fp) (γ.set j (.dat e.1)) elt e.2)
    (hl : L.length ≤ 1000) :
    ENc R X γ mk (L.map (·.2)) := by
  have pts : ∀ (s : Shared) (H : Hp) (C : Addr) (cl : List (Str × Addr)) (fp : List Addr), PTs (X.blk s H scope (compEnvC scope cl C X.env) fp) [] (fun σ' H' Q' => Q' true H') := fun s1 H1 C cl fp => ⟨fun pins s2 σ2 H2 Q2 I2 h2 =>
      (pts_nil (X := X.blk s1 H1 scope (compEnvC scope cl C X.env) fp)).run pins s2 σ2 H2 Q2 I2 h2⟩
  have pel : ∀ (s : Shared) (H : Hp) (C : Addr) (cl : List (Str × Addr)) (fp : List Addr), PE (X.blk s H scope (compEnvC scope cl C X.env) fp) elt (fun σ' H' Q' => ∀ (s : Shared) (H : Hp) (C : Addr) (cl : List (Str × Addr)) (fp : List Addr), we (X.blk s H scope (compEnvC scope cl C X.env) fp) elt σ' H' Q') := fun s1 H1 C cl fp => ⟨fun pins s2 σ2 H2 Q2 I2 h2 => pe_we.run pins s2 σ2 H2 Q2 I2 (h2 s1 H1 C cl fp)⟩
  refine ⟨_, hpe _ _ pts pel, fun H0 S0 σ H Q s k => hwi H0 S0 σ H _ s fun J H1 r1 itd Dl hD => ?_⟩
  have s1 := s.mono r1
  have sw := s1.wipe [j]
  let made : Nat → List (List D) := fun i => (L.take i).map (·.2)
  have hln : (L.map (·.1)).length = L.length := by rw [List.length_map]
  refine ⟨fun i m H' => m = L.length - i ∧ i ≤ L.length ∧ R H1 H' ∧ ∃ ps : List Addr, (Dl :: ps).Nodup ∧ (∀ a ∈ Dl :: ps, H1 a = none) ∧ H' Dl = some (.lst (ps.map V.ref)) ∧ NLr X.K ps (made i) H' (off (fun a => a ∈ Dl :: ps ∨ Sx S0 γ σ a) H'), ⟨L.length, by simp, Nat.zero_le _, Rel.more s1.ref (same_new hD), [], by simp, fun a ha => by rw [List.mem_singleton.mp ha]; exact hD, upd_same, trivial⟩, ?_⟩
  rintro i m H' ⟨rfl, hle, r', ps, hnd, hfr, hDl, hvs⟩
  have kp : Keep (off (Sx S0 γ σ) H1) (off (fun a => a ∈ Dl :: ps ∨ Sx S0 γ σ a) H') := fun a u e n => by
    obtain ⟨h1, h2⟩ := off_some e
    refine off_of (fun z => ?_) (Rel.keep r' a u h2 n)
    rcases z with z | z
    · rw [hfr a z] at h2
      cases h2
    · exact h1 z
  have hex : ∀ a ∈ Dl :: ps, ∃ vs, H' a = some (.lst vs) := fun a ha => by
    rcases List.mem_cons.mp ha with z | z
    · exact ⟨_, by rw [z]; exact hDl⟩
    · obtain ⟨n, hn, rfl⟩ := List.mem_iff_getElem.mp z
      have hn2 : n < (made i).length := by rw [← hvs.len]; exact hn
      obtain ⟨q, vs, e1, e2, _⟩ := hvs.get (List.getElem?_eq_getElem hn2)
      rw [List.getElem?_eq_getElem hn] at e1
      cases e1
      exact ⟨vs, e2⟩
  by_cases hlt : i < L.length
  · have hLi : L[i]? = some L[i] := List.getElem?_eq_getElem hlt
    have hdi : (L.map (·.1))[i]? = some L[i].1 := by rw [List.getElem?_map, hLi]; rfl
    have hel := ht L[i] (List.getElem_mem hlt)
    refine .inr ⟨itd.go i H' _ kp (by rw [hln]; exact hlt), fun H2 => R H1 H2 ∧ ∃ ps : List Addr, (Dl :: ps).Nodup ∧ (∀ a ∈ Dl :: ps, H1 a = none) ∧ H2 Dl = some (.lst (ps.map V.ref)) ∧ NLr X.K ps (made (i + 1)) H2 (off (fun a => a ∈ Dl :: ps ∨ Sx S0 γ σ a) H2), fun H2 h2 => ⟨L.length - (i + 1), by omega, rfl, hlt, h2.1, h2.2⟩, fun x H2 hy => ?_⟩
    obtain ⟨sm, dx⟩ := itd.yld i H' _ x H2 L[i].1 kp (fun a z => by
      rcases z with z | z
      · obtain ⟨vs, e⟩ := hex a z
        rw [e]
        exact fun q => nomatch q
      · exact (s1.mono r').there z) hy hdi
    have r2 : R H1 H2 := Rel.more r' sm
    have hDl2 : H2 Dl = some (.lst (ps.map V.ref)) := sm _ _ hDl
    have hex2 : ∀ a ∈ Dl :: ps, ∃ vs, H2 a = some (.lst vs) := fun a ha => by
      obtain ⟨vs, e⟩ := hex a ha
      exact ⟨vs, sm _ _ e⟩
    have sa := sw.avoidS (C := fun a => a ∈ Dl :: ps) r2 (fun p hp => hfr p hp) (fun p hp => by
      obtain ⟨vs, e⟩ := hex2 p hp
      rw [e]
      exact fun q => nomatch q)
    have subw : ∀ a, Sx S0 (wipeS γ [j]) (L2.wipe σ [j]) a → Sx S0 γ σ a := fun a z => sx_no a z
    have subs : ∀ a, Sx (fun a => a ∈ Dl :: ps ∨ S0 a) (wipeS γ [j]) (L2.wipe σ [j]) a → a ∈ Dl :: ps ∨ Sx S0 γ σ a := fun a z => by
      rcases z with (z | z) | z
      · exact .inl z
      · exact .inr (.inl z)
      · exact .inr (subw a (.inr z))
    show (L2.wipe ((L2.wipe σ [j]).set j (some x)) [j] = L2.wipe σ [j]) ∧ _
    refine ⟨?_, ?_⟩
    · show ((σ.set j none).set j (some x)).set j none = σ.set j none
      rw [List.set_set, List.set_set]
    have sg0 := sa.putD j (dp_keep (off_keep (Keep.refl H2) subs) _ _ dx)
    have eg : (wipeS γ [j]).set j (.dat L[i].1) = γ.set j (.dat L[i].1) := List.set_set ..
    rw [eg] at sg0
    have step : made (i + 1) = made i ++ [L[i].2] := by
      show (L.take (i + 1)).map (·.2) = (L.take i).map (·.2) ++ _
      rw [List.take_add_one, hLi]
      show (L.take i ++ [L[i]]).map (·.2) = _
      rw [List.map_append]
      rfl
    refine iteT fun s2 H3 C cl fp => ?_
    refine hel s2 H3 C cl fp _ _ _ H2 _ sg0 fun y vs H5 ny r5 hy5 dy => ?_
    have hD5 : H5 Dl = some (.lst (ps.map V.ref)) := Rel.keep r5 _ _ hDl2 (fun _ z => nomatch z)
    have hyf : y ∉ Dl :: ps := fun z => by
      obtain ⟨vs, e⟩ := hex2 y z
      rw [ny] at e
      cases e
    have hyD : y ≠ Dl := fun z => hyf (by rw [z]; exact List.mem_cons_self)
    have hlen : ps.length ≤ 1000 := by
      have := hvs.len
      have h3 : (made i).length ≤ 1000 := by
        show ((L.take i).map (·.2)).length ≤ 1000
        rw [List.length_map, List.length_take]
        omega
      omega
    refine ⟨ps.map V.ref, hD5, Nat.lt_of_le_of_lt (by rw [List.length_map]; exact hlen) (by decide), Rel.chgL (Rel.trans r2 r5) hD ⟨_, hD5⟩, ps ++ [y], ?_, ?_, ?_, ?_⟩
    · rw [← List.cons_append]
      refine List.nodup_append.mpr ⟨hnd, by simp, fun a ha b hb z => ?_⟩
      rw [List.mem_singleton.mp hb] at z
      rw [z] at ha
      exact hyf ha
    · intro a ha
      rw [← List.cons_append] at ha
      rcases List.mem_append.mp ha with z | z
      · exact hfr a z
      · rw [List.mem_singleton.mp z]
        exact Rel.free r2 ny
    · rw [List.map_append]
      exact upd_same
    · rw [step]
      have kd : Keep (off (fun a => a ∈ Dl :: ps ∨ Sx S0 γ σ a) H') (off (fun a => a ∈ Dl :: (ps ++ [y]) ∨ Sx S0 γ σ a) (upd H5 Dl (.lst (ps.map V.ref ++ [V.ref y])))) := fun a u e n => by
        obtain ⟨h1, h2⟩ := off_some e
        have nD : a ≠ Dl := fun z => h1 (.inl (by rw [z]; exact List.mem_cons_self))
        have h5 : H5 a = some u := Rel.keep r5 a u (sm a u h2) n
        refine off_of (fun z => ?_) (by rw [upd_ne nD]; exact h5)
        rcases z with z | z
        · rw [← List.cons_append] at z
          rcases List.mem_append.mp z with z | z
          · exact h1 (.inl z)
          · have ey := List.mem_singleton.mp z
            have h6 := sm a u h2
            rw [ey, ny] at h6
            cases h6
        · exact h1 (.inr z)
      have old : NLr X.K ps (made i) (upd H5 Dl (.lst (ps.map V.ref ++ [V.ref y]))) (off (fun a => a ∈ Dl :: (ps ++ [y]) ∨ Sx S0 γ σ a) (upd H5 Dl (.lst (ps.map V.ref ++ [V.ref y])))) := hvs.keep kd fun a ha => by
        have nD : a ≠ Dl := fun z => (List.nodup_cons.mp hnd).1 (by rw [← z]; exact ha)
        rw [upd_ne nD]
        obtain ⟨ws, e⟩ := hex a (List.mem_cons_of_mem _ ha)
        rw [e]
        exact Rel.keep r5 _ _ (sm _ _ e) (fun _ z => nomatch z)
      refine old.app (by rw [upd_ne hyD]; exact hy5) (dps_keep (fun a u e n => ?_) _ _ dy)
      obtain ⟨h1, h2⟩ := off_some e
      have nD : a ≠ Dl := fun z => h1 (.inr (.inl (.inl (by rw [z]; exact List.mem_cons_self))))
      refine off_of (fun z => ?_) (by rw [upd_ne nD]; exact h2)
      rcases z with z | z
      · rw [← List.cons_append] at z
        rcases List.mem_append.mp z with z | z
        · exact h1 (.inr (.inl (.inl z)))
        · exact h1 (.inl (List.mem_singleton.mp z))
      · rcases z with z | ⟨t, w, v, z1, z2, z3⟩
        · exact h1 (.inr (.inl (.inr z)))
        · have nj : t ≠ j := fun q => by
            match w, z1, z3 with
            | .own o, z1, _ => exact hown o (by rw [← q]; exact z1)
          refine h1 (.inr (.inr ⟨t, w, v, ?_, ?_, z3⟩))
          · rw [List.getElem?_set_ne (fun z => nj z.symm)]
            exact z1
          · show ((σ.set j none).set j (some x))[t]? = _
            rw [List.set_set, List.getElem?_set_ne (fun z => nj z.symm)]
            exact z2
  · have e : i = L.length := by omega
    subst e
    refine .inl ⟨itd.stop _ H' _ kp (by rw [hln]; exact Nat.le_refl _), k Dl ps H' hnd (fun a ha => Rel.free r1 (hfr a ha)) (Rel.trans r1 r') hDl ?_⟩
    have : made L.length = L.map (·.2) := by
      show (L.take L.length).map (·.2) = _
      rw [List.take_length]
    rw [this] at hvs
    exact hvs
/-- [new list for x in iter] -/
theorem en_mapA {α : Type} {elt iter : Expr} {scope : Scope} (x : Str) (j : Nat) (L : List α) (f : α → D) (g : α → List D) {tp : Pos} (hc : X.calm = true) (hN : X.N.Nodup) (hi : EI R X γ (.Name x tp) iter (L.map f)) (ok : BlkOk X.N X.env.scope scope [(x, j)])
    (hg : ∀ (s : Shared) (H : Hp) (C : Addr) (cl : List (Str × Addr)) (fp : List Addr), PG (X.blk s H scope (compEnvC scope cl C X.env) fp) (.Name x tp) (gName j)) (hown : ∀ es, γ[j]? ≠ some (.own es))
    (ht : ∀ a ∈ L, ∀ (s : Shared) (H : Hp) (C : Addr) (cl : List (Str × Addr)) (fp : List Addr), EF R (X.blk s H scope (compEnvC scope cl C X.env) fp) (γ.set j (.dat (f a))) elt (g a))
    (hl : L.length ≤ 1000) (hs : ∀ x, foldedSetIterable iter X.env x = pure x := by intro _; rfl) : EN R X γ (.ListComp elt [⟨.Name x tp, iter, [], 0⟩] scope pos) (L.map g) := by
  obtain ⟨wi, hpi, hwi⟩ := hi
  have h := lcN_gen (X := X) (γ := γ) (elt := elt) (iter := iter) (tg := .Name x tp) (scope := scope) (j := j) (L := L.map fun a => (f a, g a))
    (mk := fun t => PE X (.ListComp elt [⟨.Name x tp, iter, [], 0⟩] scope pos) t ∧ ∀ (i : Nat) (y : Str) (py spos : Pos), X.N[i]? = some y → X.env.scope.names.lookup y = some .local → swapsWith (.ListComp elt [⟨.Name x tp, iter, [], 0⟩] scope pos) (some (.Name y py)) spos.line X.env = pure true → PS X (.Assign [.Name y py] (.ListComp elt [⟨.Name x tp, iter, [], 0⟩] scope pos) spos) (tAsg t (gName i)))
    (by rw [List.map_map]; exact hwi) (fun tt te h1 h2 => ⟨pe_lc hc hN hpi ok hg h1 h2 hs, fun i y py spos hy hyl hsw => ps_setLc hc hN hy hyl hsw hpi ok hg h1 h2 hs⟩) hown (fun e he => by
      obtain ⟨a, ha, rfl⟩ := List.mem_map.mp he
      exact ht a ha) (by rw [List.length_map]; exact hl)
  rw [List.map_map] at h
  exact h
theorem SI.putN2 {K : PySem.W.Frag} {H0 H H' : Hp} {S0 : Addr → Prop} {σ : L2.St} (s : SI R K H0 S0 γ σ H) (i : Nat) {p : Addr} {ps : List Addr} {rows : List (List D)} (r : R H H') (nd : (p :: ps).Nodup) (hn : ∀ a ∈ p :: ps, H a = none) (hp : H' p = some (.lst (ps.map V.ref))) (hd : NLr K ps rows H' (off (fun a => a ∈ p :: ps ∨ Sx S0 γ σ a) H')) :
    SI R K H0 S0 (γ.set i (.own (.b (nlB rows) (p :: ps)))) (σ.set i (some (.ref p))) H' := by
  refine s.putB i r (fun a f => ⟨hn a f, ?_⟩) ⟨_, rfl, p, ps, rfl, rfl, nd, hp, hd⟩
  rcases List.mem_cons.mp f with z | z
  · rw [z]
    exact NT.lst hp
  · obtain ⟨n, hl, rfl⟩ := List.mem_iff_getElem.mp z
    obtain ⟨q, vs, e1, e2, _⟩ := hd.get (List.getElem?_eq_getElem (show n < rows.length by rw [← hd.len]; exact hl))
    rw [List.getElem?_eq_getElem hl] at e1
    cases e1
    exact NT.lst e2
/-- x = [new list for ..], x seen from inner defs -/
theorem s1_setN (i : Nat) {x : Str} {e : Expr} {rows : List (List D)} {p : Pos} (he : EN R X γ e rows) (h : ∀ fs, P.nx (γ.set i (.own (.b (nlB rows) fs)))) (hN : X.N.Nodup) (hi : X.N[i]? = some x := by rfl) (hx : Loc X.env.scope x := by first | exact Or.inl rfl | exact Or.inr rfl)
    (hs : swapsWithSole [.Name x p] e pos.line X.env = pure false := by rfl) (hw : swappedStores [.Name x p] e X.env = pure none := by rfl)
    (h1 : (assignEach [.Name x p] X.env).map (·.2) = [assign (.Name x p) X.env] := by rfl) (hf : X.fn x = true ∨ X.env.scope.names.lookup x = some .local := by first | exact .inl rfl | exact .inr rfl | assumption) : S1 R X γ (.Assign [.Name x p] e pos) P := fun H0 S0 σ H E W s tk n r bk ct z => by
  obtain ⟨t, hm, h2⟩ := he
  exact ws_of (ps_asg hm.1 (pg_name hN hi hx hf) hs hw h1) (h2 H0 S0 σ H _ s fun q qs H1 nd nn r1 e1 d1 => n _ _ _ (h _) (s.putN2 i r1 nd nn e1 d1))
/-- x = [new list for ..], x local -/
theorem s1_setLcN (i : Nat) {x : Str} {e : Expr} {rows : List (List D)} {p : Pos} (he : EN R X γ e rows) (h : ∀ fs, P.nx (γ.set i (.own (.b (nlB rows) fs)))) (hi : X.N[i]? = some x := by rfl) (hx : X.env.scope.names.lookup x = some .local := by rfl)
    (hs : swapsWith e (some (.Name x p)) pos.line X.env = pure true := by rfl) : S1 R X γ (.Assign [.Name x p] e pos) P := fun H0 S0 σ H E W s tk n r bk ct z => by
  obtain ⟨t, hm, h2⟩ := he
  exact ws_of (hm.2 i x p pos hi hx hs) (h2 H0 S0 σ H _ s fun q qs H1 nd nn r1 e1 d1 => n _ _ _ (h _) (s.putN2 i r1 nd nn e1 d1))
/-- x[a][b], x a list of lists of one's own -/
theorem ee_ix2 (j : Nat) {x : Str} {ba bb : Expr} {rows : List (List D)} {fs : List Addr} {ds : List D} {d : D} {a b : Int} {p p1 : Pos} (hj : γ[j]? = some (.own (.b (nlB rows) fs)) := by rfl) (ha : EE R X γ ba (.int a)) (hb : EE R X γ bb (.int b)) (h1 : atI rows a = some ds) (h2 : atI ds b = some d)
    (hs : PlainIx ba := by exact fun _ _ => rfl) (hs2 : PlainIx bb := by exact fun _ _ => rfl) (hN : X.N[j]? = some x := by rfl)
    (hv : Vis X.env.scope x := by first | exact Or.inl rfl | exact Or.inr (Or.inl rfl) | exact Or.inr (Or.inr rfl)) (hd : (x == ("__debug__" : Str)) = false := by decide) (hcd : (x == ("__classdict__" : Str)) = false := by decide) :
    EE R X γ (.Subscript (.Subscript (.Name x p) ba p1) bb pos) d := fun H0 S0 σ H Q s k => by
  obtain ⟨v, e1, ⟨q, qs, rfl, rfl, _, _, _⟩, _⟩ := s.box j hj
  refine we_of (pe_ix ix_list (pe_ix ix_list (pe_var hN hv hd hcd) pe_we hs) pe_we hs2) ⟨_, e1, ha H0 S0 σ H _ s fun u H2 r2 d2 => ?_⟩
  cases d2
  obtain ⟨v', e1', ⟨q', qs', ev, ef, hnd, hq, hr⟩, _⟩ := (s.mono r2).box j hj
  rw [e1] at e1'
  cases e1'
  cases ev
  cases ef
  obtain ⟨i, hi, hri⟩ : ∃ i, ixN rows.length a = some i ∧ rows[i]? = some ds := by
    unfold atI at h1
    cases z : ixN rows.length a with
    | none => rw [z] at h1; cases h1
    | some i => rw [z] at h1; exact ⟨i, rfl, h1⟩
  obtain ⟨w, vs, f1, f2, f3⟩ := hr.get hri
  refine ⟨_, _, a, .ref w, rfl, rfl, SqL.of hq, ?_, ?_⟩
  · unfold atI
    rw [List.length_map, hr.len, hi]
    show (qs.map V.ref)[i]? = _
    rw [List.getElem?_map, f1]
    rfl
  · refine hb H0 S0 σ H2 _ (s.mono r2) fun u H3 r3 d3 => ?_
    cases d3
    have f2' : H3 w = some (.lst vs) := Rel.keep r3 _ _ f2 (fun _ z => nomatch z)
    obtain ⟨y, g1, g2⟩ := atI_dts (dts_up r3 f3) h2
    exact ⟨_, _, b, y, rfl, rfl, SqL.of f2', g1, k y H3 (Rel.trans r2 r3) g2⟩
/-- x[a][b] = e, x a list of lists of one's own -/
theorem s1_setIx2 (i : Nat) {x : Str} {e ba bb : Expr} {rows : List (List D)} {fs : List Addr} {ds : List D} {d : D} {a b : Int} {m n : Nat} {p p1 p2 : Pos} (he : EE R X γ e d) (hba : EE R X γ ba (.int a)) (hbb : EE R X γ bb (.int b)) (hm : ixN rows.length a = some m) (hds : rows[m]? = some ds) (hn : ixN ds.length b = some n)
    (h : P.nx (γ.set i (.own (.b (nlB (rows.set m (ds.set n d))) fs)))) (hi : γ[i]? = some (.own (.b (nlB rows) fs)) := by rfl) (hN : X.N[i]? = some x := by rfl) (hs1 : PlainIx ba := by exact fun _ _ => rfl)
    (hv : Vis X.env.scope x := by first | exact Or.inl rfl | exact Or.inr (Or.inl rfl) | exact Or.inr (Or.inr rfl)) (hd : (x == ("__debug__" : Str)) = false := by decide) (hcd : (x == ("__classdict__" : Str)) = false := by decide)
    (ha : ∀ v, assign (.Subscript (.Subscript (.Name x p) ba p1) bb p2) X.env v = (do
      let ov ← holding [v] (eval (.Subscript (.Name x p) ba p1) X.env)
      let iv ← holding [v, ov] (eval bb X.env)
      standAt p2
      holding [v, ov, iv] (setItem ov iv v)
      release [v, ov, iv] []) := by intro _; rfl)
    (hs : swapsWithSole [.Subscript (.Subscript (.Name x p) ba p1) bb p2] e pos.line X.env = pure false := by rfl) (hw : swappedStores [.Subscript (.Subscript (.Name x p) ba p1) bb p2] e X.env = pure none := by rfl)
    (h1 : (assignEach [.Subscript (.Subscript (.Name x p) ba p1) bb p2] X.env).map (·.2) = [assign (.Subscript (.Subscript (.Name x p) ba p1) bb p2) X.env] := by rfl) : S1 R X γ (.Assign [.Subscript (.Subscript (.Name x p) ba p1) bb p2] e pos) P := fun H0 S0 σ H E W s tk nx r bk ct z =>
  ws_of (ps_asg pe_we (pg_sub (pe_ix ix_list (pe_var hN hv hd hcd) pe_we hs1) pe_we set_list ha) hs hw h1) (he H0 S0 σ H _ s fun v H1 r1 d1 => by
    have s1 := s.mono r1
    obtain ⟨v1, e1, ⟨q, qs, rfl, rfl, _, _, _⟩, _⟩ := s1.box i hi
    refine ⟨_, e1, hba H0 S0 σ H1 _ s1 fun u H2 r2 d2 => ?_⟩
    cases d2
    obtain ⟨v', e1', ⟨q', qs', ev, ef, hnd, hq, hr⟩, _⟩ := (s1.mono r2).box i hi
    rw [e1] at e1'
    cases e1'
    cases ev
    cases ef
    obtain ⟨w, vs, f1, f2, f3⟩ := hr.get hds
    refine ⟨_, _, a, .ref w, rfl, rfl, SqL.of hq, ?_, ?_⟩
    · unfold atI
      rw [List.length_map, hr.len, hm]
      show (qs.map V.ref)[m]? = _
      rw [List.getElem?_map, f1]
      rfl
    refine hbb H0 S0 σ H2 _ (s1.mono r2) fun u H3 r3 d3 => ?_
    cases d3
    have s3 := (s1.mono r2).mono r3
    have f2' : H3 w = some (.lst vs) := Rel.keep r3 _ _ f2 (fun _ z => nomatch z)
    obtain ⟨v'', e1'', ⟨q'', qs'', ev, ef, hnd', hq', hr'⟩, _⟩ := s3.box i hi
    rw [e1] at e1''
    cases e1''
    cases ev
    cases ef
    have hwq : w ∈ qs := List.mem_of_getElem? f1
    have kq : Keep (off (Sx S0 γ σ) H3) (off (Sx S0 γ σ) (upd H3 w (.lst (vs.set n v)))) := fun a o ee nn => by
      obtain ⟨k1, k2⟩ := off_some ee
      refine off_of k1 ?_
      rw [upd_ne (fun z => k1 (.inr ⟨i, _, _, hi, e1, by rw [z]; exact List.mem_cons_of_mem _ hwq⟩))]
      exact k2
    refine ⟨w, vs, b, n, rfl, rfl, f2', by rw [dps_len f3]; exact hn, nx _ _ _ h (s3.mutB hi e1 (show Fx (.own (.b (nlB rows) (q :: qs))) _ w from List.mem_cons_of_mem _ hwq) trivial (fun _ => Iff.rfl) ⟨_, rfl, q, qs, rfl, rfl, hnd', ?_, ?_⟩)⟩
    · rw [upd_ne (fun z => (List.nodup_cons.mp hnd').1 (by rw [z]; exact hwq))]
      exact hq'
    · exact hr'.set kq (dps_set n (dps_keep kq _ _ (dts_up r3 f3)) (dp_keep kq _ _ (dt_up r3 (dt_up r2 d1)))) (List.nodup_cons.mp hnd').2 f1)
/-- a list of lists of one's own is data from here on -/
theorem SI.freezeN {K : PySem.W.Frag} {H0 H : Hp} {S0 : Addr → Prop} {σ : L2.St} (s : SI R K H0 S0 γ σ H) {i : Nat} {rows : List (List D)} {fs : List Addr} (hi : γ[i]? = some (.own (.b (nlB rows) fs))) : SI R K H0 S0 (γ.set i (.dat (.list (rows.map .list)))) σ H := by
  obtain ⟨v, e1, ⟨p, ps, rfl, rfl, hnd, hp, hr⟩, h2⟩ := s.box i hi
  have hσ : σ.set i (some (.ref p)) = σ := by
    have hlt := (List.getElem?_eq_some_iff.mp e1).1
    have e := (List.getElem?_eq_some_iff.mp e1).2
    rw [← e]
    exact List.set_getElem_self hlt
  have sub : ∀ a, Sx S0 (γ.set i (.dat (.list (rows.map .list)))) (σ.set i (some (.ref p))) a → Sx S0 γ σ a := sx_set fun a f => False.elim f
  have kp : Keep (off (Sx S0 γ σ) H) (off (Sx S0 (γ.set i (.dat (.list (rows.map .list)))) (σ.set i (some (.ref p)))) H) := off_keep (Keep.refl H) sub
  have nl : ∀ l ∈ p :: ps, ¬ Sx S0 (γ.set i (.dat (.list (rows.map .list)))) (σ.set i (some (.ref p))) l := fun l hl z => by
    rcases z with z | ⟨j, z⟩
    · exact s.dom l z (h2 l hl).1
    · rcases fp_set z with ⟨_, f⟩ | ⟨nj, f⟩
      · exact f
      · exact nj (s.inj j i l f ⟨_, _, hi, e1, hl⟩)
  have all : ∀ (qs : List Addr) (rs : List (List D)), (∀ a ∈ qs, a ∈ p :: ps) → NLr K qs rs H (off (Sx S0 γ σ) H) → DtAll K (off (Sx S0 (γ.set i (.dat (.list (rows.map .list)))) (σ.set i (some (.ref p)))) H) (qs.map V.ref) (rs.map .list) := fun qs => by
    induction qs with
    | nil =>
      intro rs _ hh
      match rs, hh with
      | [], _ => exact .nil
    | cons q qs ih =>
      intro rs hm hh
      match rs, hh with
      | ds :: rs, ⟨⟨vs, g1, g2⟩, g3⟩ =>
        exact .cons (.lst (.inl (off_of (nl q (hm q List.mem_cons_self)) g1)) (dps_keep kp _ _ g2)) (ih rs (fun a ha => hm a (List.mem_cons_of_mem _ ha)) g3)
  have t := s.updS i (some (.ref p)) (.dat (.list (rows.map .list))) s.rel (fun a f => False.elim f) (fun _ _ _ _ => rfl) kp ⟨_, rfl, .lst (.inl (off_of (nl p List.mem_cons_self) hp)) (all ps rows (fun a ha => List.mem_cons_of_mem _ ha) hr)⟩
  rw [hσ] at t
  exact t
theorem ss_freezeN {st : List Stmt} (i : Nat) {rows : List (List D)} {fs : List Addr} (h : SS R X (γ.set i (.dat (.list (rows.map .list)))) st P) (hi : γ[i]? = some (.own (.b (nlB rows) fs)) := by rfl) : SS R X γ st P := fun H0 S0 σ H E W s tk n r b c z => h H0 S0 σ H E W (s.freezeN hi) tk n r b c z
/-- list(range(n)) -/
theorem dts_ints2 {K : PySem.W.Frag} {H : Hp} : ∀ l : List Nat, DtAll K H (l.map fun i : Nat => V.int (0 + (i : Nat))) (l.map fun i : Nat => (PyData.int (0 + (i : Nat)) : D))
  | [] => .nil
  | i :: l => .cons (.int _) (dts_ints2 l)
theorem ef_listRg {a : Expr} {p p2 p3 : Pos} {n : Int} (h : EE R X γ a (.int n)) (hn : 0 ≤ n ∧ n ≤ 1000) (hm : X.mg "list" = none) (hm2 : X.mg "range" = none) (hc : X.calm = true) (hg : Gl X "list" := by rfl) (hg2 : Gl X "range" := by rfl)
    (na2 : starEach [a] X.env = (false, eval a X.env) :: starEach [] X.env := by rfl) (na : starEach [.Call (.Name "range" p2) [a] [] p3] X.env = (false, eval (.Call (.Name "range" p2) [a] [] p3) X.env) :: starEach [] X.env := by rfl) :
    EF R X γ (.Call (.Name "list" p) [.Call (.Name "range" p2) [a] [] p3] [] pos) (rangeD 0 n.toNat) := fun H0 S0 σ H Q s k =>
  we_of (pe_listRg hc hg hm (prg_1 hg2 hm2 pe_we na2) na) (h H0 S0 σ H _ s fun v H1 r1 d1 => by
    cases d1
    refine ⟨n, rfl, RgOk.of_le (Int.le_refl _) (by omega) (by decide) hn.1, fun q nq => k q _ _ (Rel.free r1 nq) (Rel.more r1 (same_new nq)) upd_same ?_⟩
    unfold rgV rangeD
    rw [Int.sub_zero]
    exact dts_newO nq (dts_ints2 _))
theorem dt_eF_more {K : PySem.W.Frag} {S : Addr → Prop} {H : Hp} {v : V} {q : Rat} {l : Addr} {vs : List V} (h : Dt K (off S H) v (eF q)) (hl : H l = some (.lst vs)) : Dt K (off (fun a => a = l ∨ S a) H) v (eF q) := by
  cases h with
  | tup h1 h2 =>
    cases h2 with
    | cons e1 r1 =>
      cases r1 with
      | cons e2 r2 =>
        cases r2
        cases e1
        cases e2
        refine .tup ?_ (.cons (.int _) (.cons (.int _) .nil))
        rcases h1 with (h | ⟨o, h⟩) | h
        · obtain ⟨g1, g2⟩ := off_some h
          refine .inl (.inl (off_of (fun z => ?_) g2))
          rcases z with z | z
          · rw [z, hl] at g2
            cases g2
          · exact g1 z
        · obtain ⟨g1, g2⟩ := off_some h
          refine .inl (.inr ⟨o, off_of (fun z => ?_) g2⟩)
          rcases z with z | z
          · rw [z, hl] at g2
            cases g2
          · exact g1 z
        · exact .inr h
/-- a list of one's own is looked at as data; a fraction comes -/
theorem ee_borrow (j : Nat) {e : Expr} {ds : List D} {q : Rat} (h : EE R X (γ.set j (.dat (.list ds))) e (eF q)) (hj : γ[j]? = some (.own (.l ds)) := by rfl) : EE R X γ e (eF q) := fun H0 S0 σ H Q s k => by
  obtain ⟨l, vs, e1, h0, e3, e4⟩ := s.own j ds hj
  refine h H0 S0 σ H Q (s.freeze hj) fun v H2 r2 d2 => k v H2 r2 ?_
  have e5 : H2 l = some (.lst vs) := Rel.keep r2 _ _ e3 (fun _ z => nomatch z)
  refine dp_keep (off_keep (Keep.refl H2) fun a z => ?_) _ _ (dt_eF_more d2 e5)
  rcases z with z | ⟨i, y, w, z1, z2, z3⟩
  · exact .inr (.inl z)
  · by_cases e : i = j
    · subst e
      rw [hj] at z1
      cases z1
      rw [e1] at z2
      cases z2
      have z3 : some (V.ref l) = some (V.ref a) := z3
      injection z3 with z3
      injection z3 with z3
      exact .inl z3.symm
    · exact .inr (.inr ⟨i, y, w, by rw [List.getElem?_set_ne (fun z => e z.symm)]; exact z1, z2, z3⟩)
end
end An

/-! Forms of several unknowns: squares taken off, points below nought. -/
namespace An
open PySem
abbrev Vc := Nat → Rat
abbrev Mx := Nat → Nat → Rat
def mkV (n : Nat) (v : Vc) : List Rat := (List.range n).map v
def mkF (n : Nat) (f : Mx) : List (List Rat) := (List.range n).map fun j => mkV n (f j)
def eM (F : List (List Rat)) : D := .list (F.map eP)
def sumN : Nat → Vc → Rat
  | 0, _ => 0
  | n + 1, f => sumN n f + f n
def dotN (n : Nat) (a b : Vc) : Rat := sumN n fun i => a i * b i
def quad (n : Nat) (f : Mx) (x : Vc) : Rat := dotN n (fun j => dotN n (f j) x) x
def lsq (f : Mx) (w : Rat) (l : Vc) : Mx := fun j k => f j k - w * (l j * l k)
theorem sumN_congr {a b : Vc} : ∀ {n : Nat}, (∀ i, i < n → a i = b i) → sumN n a = sumN n b
  | 0, _ => rfl
  | n + 1, h => by
    show sumN n a + a n = sumN n b + b n
    rw [sumN_congr fun i hi => h i (by omega), h n (by omega)]
theorem sumN_add (a b : Vc) : ∀ n : Nat, sumN n (fun i => a i + b i) = sumN n a + sumN n b
  | 0 => by show (0 : Rat) = 0 + 0; grind
  | n + 1 => by
    show sumN n (fun i => a i + b i) + (a n + b n) = (sumN n a + a n) + (sumN n b + b n)
    rw [sumN_add a b n]
    grind
theorem sumN_mul (c : Rat) (a : Vc) : ∀ n : Nat, sumN n (fun i => c * a i) = c * sumN n a
  | 0 => by show (0 : Rat) = c * 0; grind
  | n + 1 => by
    show sumN n (fun i => c * a i) + c * a n = c * (sumN n a + a n)
    rw [sumN_mul c a n]
    grind
theorem sumN_zero {a : Vc} {n : Nat} (h : ∀ i, i < n → a i = 0) : sumN n a = 0 := by
  rw [sumN_congr (b := fun _ => 0 * 0) fun i hi => by rw [h i hi]; grind, sumN_mul 0 (fun _ => 0) n]
  grind
theorem sumN_sub (a b : Vc) (n : Nat) : sumN n (fun i => a i - b i) = sumN n a - sumN n b := by
  rw [sumN_congr (b := fun i => a i + (-1) * b i) fun i _ => by grind, sumN_add, sumN_mul]
  grind
/-- one place apart -/
theorem sumN_one {a : Vc} {n p : Nat} (hp : p < n) : sumN n a = sumN n (fun i => if i = p then 0 else a i) + a p := by
  have h : ∀ m, sumN m a = sumN m (fun i => if i = p then 0 else a i) + if p < m then a p else 0 := fun m => by
    induction m with
    | zero => show (0 : Rat) = 0 + _; rw [if_neg (by omega)]; grind
    | succ m ih =>
      show sumN m a + a m = (sumN m _ + if m = p then 0 else a m) + _
      rw [ih]
      by_cases h1 : p < m
      · have e1 : (if p < m then a p else 0) = a p := if_pos h1
        have e2 : (if p < m + 1 then a p else 0) = a p := if_pos (by omega)
        have e3 : (if m = p then (0 : Rat) else a m) = a m := if_neg (by omega)
        rw [e1, e2, e3]
        grind
      · have e1 : (if p < m then a p else 0) = 0 := if_neg h1
        by_cases h2 : m = p
        · have e2 : (if p < m + 1 then a p else 0) = a p := if_pos (by omega)
          have e3 : (if m = p then (0 : Rat) else a m) = 0 := if_pos h2
          rw [e1, e2, e3, h2]
        · have e2 : (if p < m + 1 then a p else 0) = 0 := if_neg (by omega)
          have e3 : (if m = p then (0 : Rat) else a m) = a m := if_neg h2
          rw [e1, e2, e3]
          grind
  have := h n
  rw [if_pos hp] at this
  exact this
theorem dotN_congr {n : Nat} {a b c d : Vc} (h1 : ∀ i, i < n → a i = c i) (h2 : ∀ i, i < n → b i = d i) : dotN n a b = dotN n c d := sumN_congr fun i hi => by rw [h1 i hi, h2 i hi]
theorem quad_lsq (n : Nat) (f : Mx) (w : Rat) (l x : Vc) : quad n (lsq f w l) x = quad n f x - w * (dotN n l x * dotN n l x) := by
  have h1 : ∀ j, dotN n (lsq f w l j) x = dotN n (f j) x - w * l j * dotN n l x := fun j => by
    unfold dotN lsq
    rw [← sumN_mul, ← sumN_sub]
    refine sumN_congr fun i _ => ?_
    grind
  unfold quad
  rw [show dotN n (fun j => dotN n (lsq f w l j) x) x = sumN n (fun j => dotN n (f j) x * x j - (w * dotN n l x) * (l j * x j)) from sumN_congr fun j _ => by
    show dotN n (lsq f w l j) x * x j = _
    rw [h1]
    grind, sumN_sub, sumN_mul]
  show dotN n (fun j => dotN n (f j) x) x - w * dotN n l x * dotN n l x = _ - _
  grind
theorem quad_zero {n : Nat} {f : Mx} {x : Vc} (h : ∀ j, j < n → ∀ k, k < n → f j k = 0) : quad n f x = 0 := sumN_zero fun j hj => by
  show dotN n (f j) x * x j = 0
  rw [show dotN n (f j) x = 0 from sumN_zero fun k hk => by rw [h j hj k hk]; grind]
  grind
theorem quad_congr {n : Nat} {f g : Mx} {x : Vc} (h : ∀ j, j < n → ∀ k, k < n → f j k = g j k) : quad n f x = quad n g x := dotN_congr (fun j hj => dotN_congr (fun k hk => h j hj k hk) fun _ _ => rfl) fun _ _ => rfl
/-! ### papers -/
abbrev Pr := Rat × Vc
def pSum : List Pr → Mx
  | [], _, _ => 0
  | q :: L, j, k => q.1 * (q.2 j * q.2 k) + pSum L j k
theorem pSum_app (L M : List Pr) (j k : Nat) : pSum (L ++ M) j k = pSum L j k + pSum M j k := by
  induction L with
  | nil => show pSum M j k = 0 + _; grind
  | cons q L ih =>
    show q.1 * (q.2 j * q.2 k) + pSum (L ++ M) j k = (q.1 * (q.2 j * q.2 k) + pSum L j k) + _
    rw [ih]
    grind
theorem sqq_nonneg (q : Rat) : 0 ≤ q * q := by
  by_cases h : 0 ≤ q
  · exact Rat.mul_nonneg h h
  · have := Rat.mul_nonneg (show 0 ≤ -q by grind) (show 0 ≤ -q by grind)
    grind
def pQuad (n : Nat) (x : Vc) : List Pr → Rat
  | [] => 0
  | q :: L => q.1 * (dotN n q.2 x * dotN n q.2 x) + pQuad n x L
theorem quad_pSum (n : Nat) (x : Vc) : ∀ L : List Pr, quad n (pSum L) x = pQuad n x L
  | [] => quad_zero fun _ _ _ _ => rfl
  | q :: L => by
    have h := quad_lsq n (pSum (q :: L)) q.1 q.2 x
    rw [quad_congr (g := pSum L) fun j _ k _ => by
      show q.1 * (q.2 j * q.2 k) + pSum L j k - _ = _
      grind, quad_pSum n x L] at h
    show _ = q.1 * (dotN n q.2 x * dotN n q.2 x) + pQuad n x L
    grind
theorem pQuad_nonneg (n : Nat) (x : Vc) : ∀ {L : List Pr}, (∀ q ∈ L, 0 < q.1) → 0 ≤ pQuad n x L
  | [], _ => Rat.le_refl
  | q :: L, h => by
    have h1 := pQuad_nonneg n x (L := L) fun p hp => h p (List.mem_cons_of_mem _ hp)
    have h2 : 0 ≤ dotN n q.2 x * dotN n q.2 x := sqq_nonneg _
    have h3 := Rat.mul_nonneg (Rat.le_of_lt (h q List.mem_cons_self)) h2
    show 0 ≤ q.1 * (dotN n q.2 x * dotN n q.2 x) + pQuad n x L
    grind
theorem quad_add (n : Nat) (f g : Mx) (x : Vc) : quad n (fun j k => f j k + g j k) x = quad n f x + quad n g x := by
  have h1 : ∀ j, dotN n (fun k => f j k + g j k) x = dotN n (f j) x + dotN n (g j) x := fun j => by
    unfold dotN
    rw [← sumN_add]
    exact sumN_congr fun i _ => by grind
  unfold quad
  rw [show dotN n (fun j => dotN n (fun k => f j k + g j k) x) x = sumN n (fun j => dotN n (f j) x * x j + dotN n (g j) x * x j) from sumN_congr fun j _ => by
    show dotN n (fun k => f j k + g j k) x * x j = _
    rw [h1]
    grind, sumN_add]
  rfl
/-! ### a point below nought -/
def unitV (p : Nat) : Vc := fun i => if i = p then 1 else 0
def pairV (s : Rat) (p o : Nat) : Vc := fun i => if i = p then s else if i = o then 1 else 0
def shareQ (f : Mx) (p o : Nat) : Rat := (0 - (f o o + 1)) / (2 * f p o)
def LowV (n : Nat) (f : Mx) (p : Nat) (x : Vc) : Prop := (f p p < 0 ∧ x = unitV p) ∨ (f p p = 0 ∧ ∃ o, o < n ∧ (∀ q, q < o → f p q = 0) ∧ f p o ≠ 0 ∧ x = pairV (shareQ f p o) p o)
def NoLow (n : Nat) (f : Mx) (p : Nat) : Prop := 0 < f p p ∨ (f p p = 0 ∧ ∀ o, o < n → f p o = 0)
theorem first_of (P : Nat → Prop) : ∀ n : Nat, (∀ q, q < n → ¬ P q) ∨ ∃ p, p < n ∧ (∀ q, q < p → ¬ P q) ∧ P p
  | 0 => .inl fun q hq => absurd hq (Nat.not_lt_zero q)
  | n + 1 => by
    rcases first_of P n with h | ⟨p, h1, h2, h3⟩
    · by_cases z : P n
      · exact .inr ⟨n, by omega, h, z⟩
      · refine .inl fun q hq => ?_
        by_cases e : q = n
        · rw [e]; exact z
        · exact h q (by omega)
    · exact .inr ⟨p, by omega, h2, h3⟩
theorem low_or (n : Nat) (f : Mx) (p : Nat) : NoLow n f p ∨ ∃ x, LowV n f p x := by
  by_cases h1 : f p p < 0
  · exact .inr ⟨_, .inl ⟨h1, rfl⟩⟩
  · by_cases h2 : f p p = 0
    · rcases first_of (fun o => f p o ≠ 0) n with h | ⟨o, a, b, c⟩
      · exact .inl (.inr ⟨h2, fun o ho => Decidable.not_not.mp (h o ho)⟩)
      · exact .inr ⟨_, .inr ⟨h2, o, a, fun q hq => Decidable.not_not.mp (b q hq), c, rfl⟩⟩
    · exact .inl (.inl (by grind))
theorem low_cases (n : Nat) (f : Mx) : (∀ q, q < n → NoLow n f q) ∨ ∃ p x, p < n ∧ (∀ q, q < p → NoLow n f q) ∧ LowV n f p x := by
  rcases first_of (fun p => ¬ NoLow n f p) n with h | ⟨p, a, b, c⟩
  · exact .inl fun q hq => Classical.not_not.mp (h q hq)
  · rcases low_or n f p with z | ⟨x, z⟩
    · exact absurd z c
    · exact .inr ⟨p, x, a, fun q hq => Classical.not_not.mp (b q hq), z⟩
theorem sumN_two {a : Vc} {n p : Nat} (hp : p < n) (h : ∀ i, i < n → i ≠ p → a i = 0) : sumN n a = a p := by
  rw [sumN_one hp, sumN_zero fun i hi => ?_]
  · grind
  · by_cases z : i = p
    · rw [if_pos z]
    · rw [if_neg z]; exact h i hi z
def Sym (n : Nat) (f : Mx) : Prop := ∀ j, j < n → ∀ k, k < n → f j k = f k j
theorem dot_unit {n p : Nat} (hp : p < n) (a : Vc) : dotN n a (unitV p) = a p := by
  unfold dotN
  rw [sumN_two hp fun i hi z => by show a i * (if i = p then 1 else 0) = 0; rw [if_neg z]; grind]
  show a p * (if p = p then 1 else 0) = _
  rw [if_pos rfl]
  grind
theorem dot_pair {n p o : Nat} (hp : p < n) (ho : o < n) (hpo : p ≠ o) (a : Vc) (s : Rat) : dotN n a (pairV s p o) = a p * s + a o := by
  unfold dotN
  rw [sumN_one hp]
  rw [sumN_two ho fun i hi z => by
    by_cases e : i = p
    · rw [if_pos e]
    · rw [if_neg e]
      show a i * (if i = p then s else if i = o then 1 else 0) = 0
      rw [if_neg e, if_neg z]
      grind]
  show (if o = p then (0 : Rat) else a o * (if o = p then s else if o = o then 1 else 0)) + a p * (if p = p then s else _) = _
  rw [if_neg (fun z => hpo z.symm), if_neg (fun z => hpo z.symm), if_pos rfl, if_pos rfl]
  grind
theorem low_quad {n : Nat} {f : Mx} {p : Nat} {x : Vc} (hs : Sym n f) (hp : p < n) (h : LowV n f p x) : quad n f x < 0 := by
  rcases h with ⟨h1, rfl⟩ | ⟨h1, o, ho, _, h3, rfl⟩
  · unfold quad
    rw [dotN_congr (c := fun j => f j p) (d := unitV p) (fun j _ => dot_unit hp (f j)) (fun _ _ => rfl), dot_unit hp]
    exact h1
  · have hpo : p ≠ o := fun z => h3 (by rw [← z]; exact h1)
    have e : f o p = f p o := hs o ho p hp
    unfold quad
    rw [dot_pair hp ho hpo, dot_pair hp ho hpo, dot_pair hp ho hpo, h1, e]
    have hz : 2 * f p o ≠ 0 := by grind
    have h5 : shareQ f p o * (2 * f p o) = 0 - (f o o + 1) := by
      unfold shareQ
      exact Rat.div_mul_cancel hz
    grind
/-! ### raised -/
def setV (x : Vc) (p : Nat) (q : Rat) : Vc := fun i => if i = p then q else x i
def zeroAt (l : Vc) (p : Nat) : Vc := fun i => if i ≠ p then l i else 0
def raise (n : Nat) (x : Vc) : List (Vc × Nat) → Vc
  | [] => x
  | g :: G => setV (raise n x G) g.2 ((0 - dotN n (zeroAt g.1 g.2) (raise n x G)) / g.1 g.2)
structure GoneOk (n : Nat) (f : Mx) (G : List (Vc × Nat)) : Prop where
  lt : ∀ g ∈ G, g.2 < n
  one : ∀ g ∈ G, g.1 g.2 = 1
  row : ∀ g ∈ G, ∀ k, k < n → f g.2 k = 0 ∧ f k g.2 = 0
  ord : G.Pairwise fun g h => h.1 g.2 = 0
theorem dot_set {n p : Nat} (a x : Vc) (q : Rat) (h : a p = 0) : dotN n a (setV x p q) = dotN n a x := sumN_congr fun i hi => by
  show a i * (if i = p then q else x i) = _
  by_cases e : i = p
  · rw [if_pos e, e, h]; grind
  · rw [if_neg e]
theorem raise_dot {n : Nat} {x : Vc} : ∀ {G : List (Vc × Nat)}, (∀ g ∈ G, g.2 < n) → (∀ g ∈ G, g.1 g.2 = 1) → (G.Pairwise fun g h => h.1 g.2 = 0) → ∀ g ∈ G, dotN n g.1 (raise n x G) = 0
  | [], _, _, _, g, hg => nomatch hg
  | g :: G, h1, h2, h3, h, hh => by
    rcases List.mem_cons.mp hh with e | e
    · subst e
      have hp := h1 h List.mem_cons_self
      have ho := h2 h List.mem_cons_self
      show dotN n h.1 (setV (raise n x G) h.2 ((0 - dotN n (zeroAt h.1 h.2) (raise n x G)) / h.1 h.2)) = 0
      rw [ho]
      generalize raise n x G = y
      have e1 : dotN n h.1 (setV y h.2 ((0 - dotN n (zeroAt h.1 h.2) y) / 1)) = dotN n (zeroAt h.1 h.2) y + h.1 h.2 * ((0 - dotN n (zeroAt h.1 h.2) y) / 1) := by
        unfold dotN
        rw [sumN_one hp]
        congr 1
        · refine sumN_congr fun i hi => ?_
          show (if i = h.2 then (0 : Rat) else h.1 i * (if i = h.2 then _ else y i)) = (if i ≠ h.2 then h.1 i else 0) * y i
          by_cases z : i = h.2
          · rw [if_pos z, if_neg (fun w => w z)]; grind
          · rw [if_neg z, if_neg z, if_pos z]
        · show h.1 h.2 * (if h.2 = h.2 then _ else _) = _
          rw [if_pos rfl]
      rw [e1, ho]
      have : ∀ q : Rat, q / 1 = q := fun q => by rw [Rat.div_def]; grind
      rw [this]
      grind
    · have ih := raise_dot (x := x) (G := G) (fun g hg => h1 g (List.mem_cons_of_mem _ hg)) (fun g hg => h2 g (List.mem_cons_of_mem _ hg)) (List.pairwise_cons.mp h3).2 h e
      show dotN n h.1 (setV (raise n x G) _ _) = 0
      rw [dot_set _ _ _ ((List.pairwise_cons.mp h3).1 h e)]
      exact ih
theorem quad_set {n p : Nat} {f : Mx} (x : Vc) (q : Rat) (h : ∀ k, k < n → f p k = 0 ∧ f k p = 0) (hp : p < n) : quad n f (setV x p q) = quad n f x := by
  unfold quad
  have e : ∀ j, j < n → dotN n (f j) (setV x p q) = dotN n (f j) x := fun j hj => dot_set _ _ _ (h j hj).2
  rw [dotN_congr (c := fun j => dotN n (f j) x) (d := setV x p q) e fun _ _ => rfl]
  refine dot_set _ _ _ ?_
  exact sumN_zero fun k hk => by rw [(h k hk).1]; grind
theorem raise_quad {n : Nat} {f : Mx} {x : Vc} : ∀ {G : List (Vc × Nat)}, (∀ g ∈ G, g.2 < n) → (∀ g ∈ G, ∀ k, k < n → f g.2 k = 0 ∧ f k g.2 = 0) → quad n f (raise n x G) = quad n f x
  | [], _, _ => rfl
  | g :: G, h1, h2 => by
    show quad n f (setV (raise n x G) g.2 _) = _
    rw [quad_set _ _ (h2 g List.mem_cons_self) (h1 g List.mem_cons_self)]
    exact raise_quad (fun g hg => h1 g (List.mem_cons_of_mem _ hg)) (fun g hg => h2 g (List.mem_cons_of_mem _ hg))
/-! ### sizes -/
def CV (s n : Nat) (v : Vc) : Prop := ∃ d : Int, d ≠ 0 ∧ d.natAbs < 2 ^ s ∧ ∀ i, i < n → ∃ t : Int, t.natAbs < 2 ^ s ∧ v i * (d : Rat) = (t : Rat)
def FZ (s n : Nat) (f : Mx) : Prop := ∃ d : Int, d ≠ 0 ∧ d.natAbs < 2 ^ s ∧ ∀ j, j < n → ∀ k, k < n → ∃ t : Int, t.natAbs < 2 ^ s ∧ f j k * (d : Rat) = (t : Rat)
theorem CV.mono {s t n : Nat} {v : Vc} (h : CV s n v) (k : s ≤ t) : CV t n v := by
  obtain ⟨d, h0, h1, h2⟩ := h
  have hp : 2 ^ s ≤ 2 ^ t := Nat.pow_le_pow_right (by decide) k
  exact ⟨d, h0, Nat.lt_of_lt_of_le h1 hp, fun i hi => by
    obtain ⟨u, a, b⟩ := h2 i hi
    exact ⟨u, Nat.lt_of_lt_of_le a hp, b⟩⟩
theorem FZ.mono {s t n : Nat} {v : Mx} (h : FZ s n v) (k : s ≤ t) : FZ t n v := by
  obtain ⟨d, h0, h1, h2⟩ := h
  have hp : 2 ^ s ≤ 2 ^ t := Nat.pow_le_pow_right (by decide) k
  exact ⟨d, h0, Nat.lt_of_lt_of_le h1 hp, fun i hi j hj => by
    obtain ⟨u, a, b⟩ := h2 i hi j hj
    exact ⟨u, Nat.lt_of_lt_of_le a hp, b⟩⟩
theorem CV.rz {s n i : Nat} {v : Vc} (h : CV s n v) (hi : i < n) : Rz s (v i) := by
  obtain ⟨d, h0, h1, h2⟩ := h
  obtain ⟨t, a, b⟩ := h2 i hi
  exact rz_quot h0 h1 a b
theorem FZ.rz {s n j k : Nat} {f : Mx} (h : FZ s n f) (hj : j < n) (hk : k < n) : Rz s (f j k) := by
  obtain ⟨d, h0, h1, h2⟩ := h
  obtain ⟨t, a, b⟩ := h2 j hj k hk
  exact rz_quot h0 h1 a b
theorem FZ.row {s n j : Nat} {f : Mx} (h : FZ s n f) (hj : j < n) : CV s n (f j) := by
  obtain ⟨d, h0, h1, h2⟩ := h
  exact ⟨d, h0, h1, h2 j hj⟩
/-- sums of products over one denominator -/
theorem dot_int {s t n : Nat} {a b : Vc} {c d : Int} (h1 : ∀ i, i < n → ∃ u : Int, u.natAbs < 2 ^ s ∧ a i * (c : Rat) = (u : Rat)) (h2 : ∀ i, i < n → ∃ u : Int, u.natAbs < 2 ^ t ∧ b i * (d : Rat) = (u : Rat)) : ∀ m, m ≤ n → ∃ u : Int, u.natAbs ≤ m * 2 ^ (s + t) ∧ dotN m a b * ((c * d : Int) : Rat) = (u : Rat)
  | 0, _ => ⟨0, by simp, by show (0 : Rat) * _ = _; rw [Rat.zero_mul]; rfl⟩
  | m + 1, hm => by
    obtain ⟨u, u1, u2⟩ := dot_int h1 h2 m (by omega)
    obtain ⟨v, v1, v2⟩ := h1 m (by omega)
    obtain ⟨w, w1, w2⟩ := h2 m (by omega)
    have h3 := natAbs_mul_lt v1 w1
    refine ⟨u + v * w, ?_, ?_⟩
    · have := Int.natAbs_add_le u (v * w)
      rw [Nat.succ_mul]
      omega
    · show (dotN m a b + a m * b m) * _ = _
      rw [Rat.intCast_add, ← u2, Rat.intCast_mul v w, ← v2, ← w2, Rat.intCast_mul]
      grind
theorem dot_rz {s t n m : Nat} {a b : Vc} (h1 : CV s n a) (h2 : CV t n b) (hm : m ≤ n) (hn : n ≤ 7) : Rz (s + t + 3) (dotN m a b) := by
  obtain ⟨c, c0, c1, c2⟩ := h1
  obtain ⟨d, d0, d1, d2⟩ := h2
  obtain ⟨u, u1, u2⟩ := dot_int c2 d2 m hm
  have hp : 0 < 2 ^ (s + t) := Nat.pow_pos (by decide)
  have e : 2 ^ (s + t + 3) = 8 * 2 ^ (s + t) := by rw [Nat.pow_add]; omega
  refine rz_quot (Int.mul_ne_zero c0 d0) ?_ ?_ u2
  · have := natAbs_mul_lt c1 d1
    omega
  · rw [e]
    have : m * 2 ^ (s + t) ≤ 7 * 2 ^ (s + t) := Nat.mul_le_mul_right _ (by omega)
    omega
/-- a form's rows at a point -/
theorem rows_cv {s t n : Nat} {f : Mx} {x : Vc} (h1 : FZ s n f) (h2 : CV t n x) (hn : n ≤ 7) : CV (s + t + 3) n (fun j => dotN n (f j) x) := by
  obtain ⟨c, c0, c1, c2⟩ := h1
  obtain ⟨d, d0, d1, d2⟩ := h2
  have hp : 0 < 2 ^ (s + t) := Nat.pow_pos (by decide)
  have e : 2 ^ (s + t + 3) = 8 * 2 ^ (s + t) := by rw [Nat.pow_add]; omega
  refine ⟨c * d, Int.mul_ne_zero c0 d0, ?_, fun j hj => ?_⟩
  · have := natAbs_mul_lt c1 d1
    omega
  · obtain ⟨u, u1, u2⟩ := dot_int (c2 j hj) d2 n (Nat.le_refl _)
    refine ⟨u, ?_, u2⟩
    have : n * 2 ^ (s + t) ≤ 7 * 2 ^ (s + t) := Nat.mul_le_mul_right _ hn
    omega
theorem cv_unit (n p : Nat) : CV 1 n (unitV p) := ⟨1, by decide, by decide, fun i _ => by
  show ∃ t : Int, t.natAbs < 2 ^ 1 ∧ (if i = p then (1 : Rat) else 0) * _ = _
  by_cases h : i = p
  · rw [if_pos h]; exact ⟨1, by decide, by decide +kernel⟩
  · rw [if_neg h]; exact ⟨0, by decide, by decide +kernel⟩⟩
theorem cv_low {s n p : Nat} {f : Mx} {x : Vc} (hz : FZ s n f) (hp : p < n) (h : LowV n f p x) : CV (s + 2) n x := by
  rcases h with ⟨_, rfl⟩ | ⟨_, o, ho, _, h3, rfl⟩
  · exact (cv_unit n p).mono (by omega)
  · obtain ⟨d, d0, d1, d2⟩ := hz
    obtain ⟨t, t1, t2⟩ := d2 p hp o ho
    obtain ⟨u, u1, u2⟩ := d2 o ho o ho
    have hd : (d : Rat) ≠ 0 := fun z => d0 (Rat.intCast_eq_zero_iff.mp z)
    have e4 : 2 ^ (s + 2) = 4 * 2 ^ s := by rw [Nat.pow_add]; omega
    have t0 : t ≠ 0 := fun z => by
      rw [z] at t2
      rcases Rat.mul_eq_zero.mp (show f p o * (d : Rat) = 0 from t2) with w | w
      · exact h3 w
      · exact hd w
    refine ⟨2 * t, by omega, by omega, fun i hi => ?_⟩
    show ∃ v : Int, v.natAbs < 2 ^ (s + 2) ∧ (if i = p then shareQ f p o else if i = o then 1 else 0) * _ = _
    by_cases e1 : i = p
    · rw [if_pos e1]
      refine ⟨-(u + d), by omega, ?_⟩
      have h5 : shareQ f p o * (2 * f p o) = 0 - (f o o + 1) := by
        unfold shareQ
        exact Rat.div_mul_cancel (by grind)
      rw [Rat.intCast_neg, Rat.intCast_add, Rat.intCast_mul, ← t2, ← u2]
      have : shareQ f p o * (((2 : Int) : Rat) * (f p o * (d : Rat))) = shareQ f p o * (2 * f p o) * (d : Rat) := by
        rw [show ((2 : Int) : Rat) = 2 from rfl]
        grind
      rw [this, h5]
      grind
    · rw [if_neg e1]
      by_cases e2 : i = o
      · rw [if_pos e2]
        exact ⟨2 * t, by omega, by rw [Rat.one_mul]⟩
      · rw [if_neg e2]
        exact ⟨0, Nat.pow_pos (by decide), by rw [Rat.zero_mul]; rfl⟩
theorem cv_zeroAt {s n p : Nat} {l : Vc} (h : CV s n l) : CV s n (zeroAt l p) := by
  obtain ⟨d, d0, d1, d2⟩ := h
  refine ⟨d, d0, d1, fun i hi => ?_⟩
  show ∃ t : Int, _ ∧ (if i ≠ p then l i else 0) * _ = _
  by_cases e : i = p
  · rw [if_neg (fun z => z e)]
    exact ⟨0, Nat.pow_pos (by decide), by rw [Rat.zero_mul]; rfl⟩
  · rw [if_pos e]
    exact d2 i hi
theorem cv_raise1 {s t n p : Nat} {l x : Vc} (hl : CV s n l) (hx : CV t n x) (hn : n ≤ 7) (ho : l p = 1) : CV (s + t + 3) n (setV x p ((0 - dotN n (zeroAt l p) x) / l p)) := by
  obtain ⟨c, c0, c1, c2⟩ := cv_zeroAt (p := p) hl
  obtain ⟨d, d0, d1, d2⟩ := hx
  have hp : 0 < 2 ^ (s + t) := Nat.pow_pos (by decide)
  have e : 2 ^ (s + t + 3) = 8 * 2 ^ (s + t) := by rw [Nat.pow_add]; omega
  refine ⟨c * d, Int.mul_ne_zero c0 d0, ?_, fun i hi => ?_⟩
  · have := natAbs_mul_lt c1 d1
    omega
  · show ∃ v : Int, _ ∧ (if i = p then _ else x i) * _ = _
    by_cases z : i = p
    · rw [if_pos z, ho]
      obtain ⟨u, u1, u2⟩ := dot_int c2 d2 n (Nat.le_refl _)
      refine ⟨-u, ?_, ?_⟩
      · have : n * 2 ^ (s + t) ≤ 7 * 2 ^ (s + t) := Nat.mul_le_mul_right _ hn
        omega
      · rw [Rat.intCast_neg, ← u2, Rat.div_def]
        grind
    · rw [if_neg z]
      obtain ⟨u, u1, u2⟩ := d2 i hi
      refine ⟨u * c, ?_, ?_⟩
      · have := natAbs_mul_lt u1 c1
        rw [Nat.add_comm t s] at this
        omega
      · rw [Rat.intCast_mul, Rat.intCast_mul, ← u2]
        grind
theorem cv_raise {b t n : Nat} {x : Vc} (hx : CV t n x) (hn : n ≤ 7) : ∀ {G : List (Vc × Nat)}, (∀ g ∈ G, CV b n g.1 ∧ g.1 g.2 = 1) → CV (t + G.length * (b + 3)) n (raise n x G)
  | [], _ => hx.mono (by simp)
  | g :: G, h => by
    have ih := cv_raise hx hn (G := G) fun q hq => h q (List.mem_cons_of_mem _ hq)
    obtain ⟨h1, h2⟩ := h g List.mem_cons_self
    refine (cv_raise1 h1 ih hn h2).mono ?_
    rw [List.length_cons, Nat.succ_mul]
    omega
/-- a square taken off -/
theorem fz_step {s n p : Nat} {f : Mx} (h : FZ s n f) (hp : p < n) (h0 : f p p ≠ 0) (hs : Sym n f) : FZ (2 * s + 1) n (lsq f (f p p) fun k => f p k / f p p) ∧ CV s n (fun k => f p k / f p p) := by
  obtain ⟨d, d0, d1, d2⟩ := h
  obtain ⟨t, t1, t2⟩ := d2 p hp p hp
  have hd : (d : Rat) ≠ 0 := fun z => d0 (Rat.intCast_eq_zero_iff.mp z)
  have t0 : t ≠ 0 := fun z => by
    rw [z] at t2
    rcases Rat.mul_eq_zero.mp (show f p p * (d : Rat) = 0 from t2) with w | w
    · exact h0 w
    · exact hd w
  have hq : ∀ k, f p k / f p p * f p p = f p k := fun k => Rat.div_mul_cancel h0
  have e : 2 ^ (2 * s + 1) = 2 * 2 ^ (s + s) := by rw [← Nat.two_mul, Nat.pow_succ]; omega
  refine ⟨⟨d * t, Int.mul_ne_zero d0 t0, ?_, fun j hj k hk => ?_⟩, t, t0, t1, fun k hk => ?_⟩
  · have := natAbs_mul_lt d1 t1
    omega
  · obtain ⟨u, u1, u2⟩ := d2 j hj k hk
    obtain ⟨v, v1, v2⟩ := d2 p hp j hj
    obtain ⟨w, w1, w2⟩ := d2 p hp k hk
    refine ⟨u * t - v * w, ?_, ?_⟩
    · have a1 := natAbs_mul_lt u1 t1
      have a2 := natAbs_mul_lt v1 w1
      have := Int.natAbs_sub_le (u * t) (v * w)
      omega
    · rw [Rat.intCast_sub, Rat.intCast_mul, Rat.intCast_mul, Rat.intCast_mul, ← u2, ← t2, ← v2, ← w2]
      unfold lsq
      have h1 := hq j
      have h2 := hq k
      generalize f p j / f p p = x at *
      generalize f p k / f p p = y at *
      rw [← h1, ← h2]
      grind
  · obtain ⟨w, w1, w2⟩ := d2 p hp k hk
    refine ⟨w, w1, ?_⟩
    rw [← w2, ← t2]
    have h2 := hq k
    generalize f p k / f p p = y at *
    rw [← h2]
    grind
/-! ### settled -/
def ePr2 (n : Nat) (q : Pr) : D := .tuple [eF q.1, eP (mkV n q.2)]
def ePN (n : Nat) (L : List Pr) : D := .list (L.map (ePr2 n))
inductive Sett (n : Nat) : Mx → List Pr → List (Vc × Nat) → D → Prop
  | low {f : Mx} {L : List Pr} {G : List (Vc × Nat)} {p : Nat} {x : Vc} : p < n → (∀ q, q < p → NoLow n f q) → LowV n f p x → Sett n f L G (.tuple [.str "below", eP (mkV n (raise n x G))])
  | done {f : Mx} {L : List Pr} {G : List (Vc × Nat)} : (∀ q, q < n → NoLow n f q) → (∀ q, q < n → f q q = 0) → Sett n f L G (.tuple [.str "squares", ePN n L])
  | step {f : Mx} {L : List Pr} {G : List (Vc × Nat)} {p : Nat} {d : D} : (∀ q, q < n → NoLow n f q) → p < n → (∀ q, q < p → f q q = 0) → f p p ≠ 0 → Sett n (lsq f (f p p) fun k => f p k / f p p) (L ++ [(f p p, fun k => f p k / f p p)]) (G ++ [(fun k => f p k / f p p, p)]) d → Sett n f L G d
def cntN (f : Mx) : Nat → Nat
  | 0 => 0
  | n + 1 => cntN f n + if f n n ≠ 0 then 1 else 0
theorem cntN_le (f : Mx) : ∀ n, cntN f n ≤ n
  | 0 => Nat.le_refl _
  | n + 1 => by
    have := cntN_le f n
    show cntN f n + _ ≤ _
    split <;> omega
theorem cntN_mono {f g : Mx} : ∀ {n : Nat}, (∀ i, i < n → f i i = 0 → g i i = 0) → cntN g n ≤ cntN f n
  | 0, _ => Nat.le_refl _
  | n + 1, h => by
    have ih := cntN_mono (n := n) fun i hi => h i (by omega)
    show cntN g n + _ ≤ cntN f n + _
    by_cases z : f n n = 0
    · rw [if_neg (fun w => w (h n (by omega) z))]
      omega
    · rw [if_pos z]
      split <;> omega
theorem cntN_lt {f g : Mx} {p : Nat} (hp : f p p ≠ 0) (hg : g p p = 0) : ∀ {n : Nat}, p < n → (∀ i, i < n → f i i = 0 → g i i = 0) → cntN g n < cntN f n
  | 0, h, _ => absurd h (Nat.not_lt_zero p)
  | n + 1, hn, h => by
    show cntN g n + _ < cntN f n + _
    by_cases e : p = n
    · subst e
      have := cntN_mono (f := f) (g := g) (n := p) fun i hi => h i (by omega)
      rw [if_neg (fun w => w hg), if_pos hp]
      omega
    · have ih := cntN_lt hp hg (n := n) (by omega) fun i hi => h i (by omega)
      by_cases z : f n n = 0
      · rw [if_neg (fun w => w (h n (by omega) z))]
        omega
      · rw [if_pos z]
        split <;> omega
structure StOk (n s : Nat) (F f : Mx) (L : List Pr) (G : List (Vc × Nat)) : Prop where
  sym : Sym n f
  tot : ∀ j, j < n → ∀ k, k < n → pSum L j k + f j k = F j k
  pos : ∀ q ∈ L, 0 < q.1
  gone : GoneOk n f G
  len : L.length + cntN f n ≤ n
  same : G.map (·.1) = L.map (·.2)
  fz : FZ (s * 3 ^ L.length) n f
  cz : ∀ q ∈ L, Rz (s * 3 ^ n) q.1 ∧ CV (s * 3 ^ n) n q.2
def GoodD (n e b : Nat) (F : Mx) (d : D) : Prop := (∃ x, d = .tuple [.str "below", eP (mkV n x)] ∧ quad n F x < 0 ∧ CV e n x) ∨
  (∃ L : List Pr, d = .tuple [.str "squares", ePN n L] ∧ L.length ≤ n ∧ (∀ q ∈ L, 0 < q.1 ∧ Rz b q.1 ∧ CV b n q.2 ∧ ∃ k, k < n ∧ q.2 k ≠ 0) ∧ ∀ j, j < n → ∀ k, k < n → pSum L j k = F j k)
theorem StOk.quad {n s : Nat} {F f : Mx} {L : List Pr} {G : List (Vc × Nat)} (h : StOk n s F f L G) (x : Vc) : An.quad n F (raise n x G) = An.quad n f x := by
  have h1 : An.quad n F (raise n x G) = An.quad n (fun j k => pSum L j k + f j k) (raise n x G) := quad_congr fun j hj k hk => (h.tot j hj k hk).symm
  rw [h1, quad_add, quad_pSum, raise_quad h.gone.lt h.gone.row]
  have h2 : ∀ M : List Pr, (∀ q ∈ M, dotN n q.2 (raise n x G) = 0) → pQuad n (raise n x G) M = 0 := fun M => by
    induction M with
    | nil => exact fun _ => rfl
    | cons q M ih =>
      intro hm
      show q.1 * (dotN n q.2 _ * dotN n q.2 _) + pQuad n _ M = 0
      rw [hm q List.mem_cons_self, ih fun q hq => hm q (List.mem_cons_of_mem _ hq)]
      grind
  rw [h2 L fun q hq => by
    have : q.2 ∈ G.map (·.1) := by rw [h.same]; exact List.mem_map.mpr ⟨q, hq, rfl⟩
    obtain ⟨g, hg, e⟩ := List.mem_map.mp this
    rw [← e]
    exact raise_dot h.gone.lt h.gone.one h.gone.ord g hg]
  grind
theorem StOk.next {n s p : Nat} {F f : Mx} {L : List Pr} {G : List (Vc × Nat)} (h : StOk n s F f L G) (hs : 0 < s) (hn : ∀ q, q < n → NoLow n f q) (hp : p < n) (h0 : f p p ≠ 0) :
    StOk n s F (lsq f (f p p) fun k => f p k / f p p) (L ++ [(f p p, fun k => f p k / f p p)]) (G ++ [(fun k => f p k / f p p, p)]) ∧ cntN (lsq f (f p p) fun k => f p k / f p p) n < cntN f n := by
  have hw : 0 < f p p := by
    rcases hn p hp with z | z
    · exact z
    · exact absurd z.1 h0
  have hq : ∀ k, f p k / f p p * f p p = f p k := fun k => Rat.div_mul_cancel h0
  have h1 : f p p / f p p = 1 := by rw [Rat.div_def]; exact Rat.mul_inv_cancel _ h0
  have hz : ∀ k, f p k = 0 → f p k / f p p = 0 := fun k z => by rw [z, Rat.div_def]; grind
  have hc : cntN (lsq f (f p p) fun k => f p k / f p p) n < cntN f n := by
    refine cntN_lt h0 ?_ hp fun i hi z => ?_
    · show f p p - f p p * (f p p / f p p * (f p p / f p p)) = 0
      rw [h1]
      grind
    · have : f p i = 0 := by
        rcases hn i hi with w | w
        · rw [z] at w
          exact absurd w (by decide)
        · rw [h.sym p hp i hi]
          exact w.2 p hp
      show f i i - f p p * (f p i / f p p * (f p i / f p p)) = 0
      rw [z, hz i this]
      grind
  have rowp : ∀ k, lsq f (f p p) (fun k => f p k / f p p) p k = 0 := fun k => by
    show f p k - f p p * (f p p / f p p * (f p k / f p p)) = 0
    have := hq k
    rw [h1]
    grind
  have hl := cntN_le f n
  obtain ⟨z1, z2⟩ := fz_step h.fz hp h0 h.sym
  have hlen := h.len
  have hpow : s * 3 ^ L.length ≤ s * 3 ^ n := Nat.mul_le_mul_left _ (Nat.pow_le_pow_right (by decide) (by omega))
  have sy : Sym n (lsq f (f p p) fun k => f p k / f p p) := fun j hj k hk => by
    show f j k - f p p * (f p j / f p p * (f p k / f p p)) = f k j - f p p * (f p k / f p p * (f p j / f p p))
    rw [h.sym j hj k hk]
    grind
  refine ⟨⟨sy, fun j hj k hk => ?_, fun q hq => ?_, ⟨fun g hg => ?_, fun g hg => ?_, fun g hg k hk => ?_, ?_⟩, ?_, ?_, ?_, fun q hq => ?_⟩, hc⟩
  · rw [pSum_app]
    have := h.tot j hj k hk
    show pSum L j k + (f p p * (f p j / f p p * (f p k / f p p)) + 0) + (f j k - f p p * (f p j / f p p * (f p k / f p p))) = _
    grind
  · rcases List.mem_append.mp hq with z | z
    · exact h.pos q z
    · rw [List.mem_singleton.mp z]; exact hw
  · rcases List.mem_append.mp hg with z | z
    · exact h.gone.lt g z
    · rw [List.mem_singleton.mp z]; exact hp
  · rcases List.mem_append.mp hg with z | z
    · exact h.gone.one g z
    · rw [List.mem_singleton.mp z]; exact h1
  · rcases List.mem_append.mp hg with z | z
    · have h2 := h.gone.row g z
      have h3 : lsq f (f p p) (fun k => f p k / f p p) g.2 k = 0 := by
        show f g.2 k - f p p * (f p g.2 / f p p * (f p k / f p p)) = 0
        rw [(h2 k hk).1, hz _ (h2 p hp).2]
        grind
      exact ⟨h3, by rw [sy k hk g.2 (h.gone.lt g z)]; exact h3⟩
    · rw [List.mem_singleton.mp z]
      exact ⟨rowp k, by
        show lsq f (f p p) (fun k => f p k / f p p) k p = 0
        rw [sy k hk p hp]
        exact rowp k⟩
  · refine List.pairwise_append.mpr ⟨h.gone.ord, List.pairwise_singleton _ _, fun g hg q hq => ?_⟩
    rw [List.mem_singleton.mp hq]
    exact hz _ (h.gone.row g hg p hp).2
  · rw [List.length_append]
    show L.length + 1 + _ ≤ _
    omega
  · rw [List.map_append, List.map_append, h.same]
    rfl
  · refine z1.mono ?_
    rw [List.length_append]
    show _ ≤ s * 3 ^ (L.length + 1)
    have e3 : s * 3 ^ (L.length + 1) = 3 * (s * 3 ^ L.length) := by rw [Nat.pow_succ, ← Nat.mul_assoc, Nat.mul_comm]
    rw [e3]
    have : 0 < s * 3 ^ L.length := Nat.mul_pos hs (Nat.pow_pos (by decide))
    omega
  · rcases List.mem_append.mp hq with z | z
    · exact h.cz q z
    · rw [List.mem_singleton.mp z]
      exact ⟨(h.fz.rz hp hp).mono hpow, z2.mono hpow⟩
/-- there is an end, and it is right -/
theorem sett_all {n s : Nat} {F : Mx} (hs : 0 < s) (hn7 : n ≤ 7) : ∀ (m : Nat) {f : Mx} {L : List Pr} {G : List (Vc × Nat)}, cntN f n ≤ m → StOk n s F f L G → ∃ d, Sett n f L G d ∧ GoodD n (8 * (s * 3 ^ n + 3)) (s * 3 ^ n) F d := fun m => by
  induction m with
  | zero =>
    intro f L G hc h
    rcases low_cases n f with hno | ⟨p, x, hp, hq, hx⟩
    · have hz : ∀ q, q < n → f q q = 0 := fun q hq => by
        refine Classical.byContradiction fun w => ?_
        have := cntN_lt (f := f) (g := fun _ _ => 0) w rfl hq (fun _ _ _ => rfl)
        omega
      refine ⟨_, .done hno hz, .inr ⟨L, rfl, by have := h.len; omega, fun q hq => ⟨h.pos q hq, (h.cz q hq).1, (h.cz q hq).2, ?_⟩, fun j hj k hk => ?_⟩⟩
      · have : q.2 ∈ G.map (·.1) := by rw [h.same]; exact List.mem_map.mpr ⟨q, hq, rfl⟩
        obtain ⟨g, hg, e⟩ := List.mem_map.mp this
        exact ⟨g.2, h.gone.lt g hg, by rw [← e, h.gone.one g hg]; decide⟩
      · have h1 := h.tot j hj k hk
        have h2 : f j k = 0 := by
          rcases hno j hj with w | w
          · rw [hz j hj] at w
            exact absurd w (by decide)
          · exact w.2 k hk
        rw [h2] at h1
        grind
    · refine ⟨_, .low hp hq hx, .inl ⟨_, rfl, by rw [h.quad x]; exact low_quad h.sym hp hx, ?_⟩⟩
      have hlen := h.len
      have hgl : G.length = L.length := by
        have := congrArg List.length h.same
        rwa [List.length_map, List.length_map] at this
      have hpow : s * 3 ^ L.length ≤ s * 3 ^ n := Nat.mul_le_mul_left _ (Nat.pow_le_pow_right (by decide) (by omega))
      refine (cv_raise (b := s * 3 ^ n) ((cv_low h.fz hp hx).mono (Nat.add_le_add_right hpow 2)) hn7 (G := G) fun g hg => ⟨?_, h.gone.one g hg⟩).mono ?_
      · have : g.1 ∈ L.map (·.2) := by rw [← h.same]; exact List.mem_map.mpr ⟨g, hg, rfl⟩
        obtain ⟨q, hq, e⟩ := List.mem_map.mp this
        rw [← e]
        exact (h.cz q hq).2
      · have : G.length * (s * 3 ^ n + 3) ≤ 7 * (s * 3 ^ n + 3) := Nat.mul_le_mul_right _ (by omega)
        omega
  | succ m ih =>
    intro f L G hc h
    rcases low_cases n f with hno | ⟨p, x, hp, hq, hx⟩
    · rcases first_of (fun q => f q q ≠ 0) n with hz | ⟨p, hp, hlt, h0⟩
      · refine ih ?_ h
        have : cntN f n ≤ cntN (fun _ _ => 0) n := cntN_mono fun i hi _ => Decidable.not_not.mp (hz i hi)
        have e : ∀ k, cntN (fun _ _ => 0) k = 0 := fun k => by
          induction k with
          | zero => rfl
          | succ k ih => show cntN _ k + _ = 0; rw [ih, if_neg (fun w => w rfl)]
        rw [e] at this
        omega
      · obtain ⟨h1, h2⟩ := h.next hs hno hp h0
        obtain ⟨d, d1, d2⟩ := ih (by omega) h1
        exact ⟨d, .step hno hp (fun q hq => Decidable.not_not.mp (hlt q hq)) h0 d1, d2⟩
    · refine ⟨_, .low hp hq hx, .inl ⟨_, rfl, by rw [h.quad x]; exact low_quad h.sym hp hx, ?_⟩⟩
      have hlen := h.len
      have hgl : G.length = L.length := by
        have := congrArg List.length h.same
        rwa [List.length_map, List.length_map] at this
      have hpow : s * 3 ^ L.length ≤ s * 3 ^ n := Nat.mul_le_mul_left _ (Nat.pow_le_pow_right (by decide) (by omega))
      refine (cv_raise (b := s * 3 ^ n) ((cv_low h.fz hp hx).mono (Nat.add_le_add_right hpow 2)) hn7 (G := G) fun g hg => ⟨?_, h.gone.one g hg⟩).mono ?_
      · have : g.1 ∈ L.map (·.2) := by rw [← h.same]; exact List.mem_map.mpr ⟨g, hg, rfl⟩
        obtain ⟨q, hq, e⟩ := List.mem_map.mp this
        rw [← e]
        exact (h.cz q hq).2
      · have : G.length * (s * 3 ^ n + 3) ≤ 7 * (s * 3 ^ n + 3) := Nat.mul_le_mul_right _ (by omega)
        omega
theorem st_start {n s : Nat} {F : Mx} (hs : Sym n F) (hz : FZ s n F) : StOk n s F F [] [] where
  sym := hs
  tot := fun j _ k _ => by show 0 + F j k = _; grind
  pos := fun q hq => nomatch hq
  gone := ⟨fun g hg => (nomatch hg), fun g hg => (nomatch hg), fun g hg => (nomatch hg), List.Pairwise.nil⟩
  len := by have := cntN_le F n; show 0 + _ ≤ _; omega
  same := rfl
  fz := hz.mono (by simp)
  cz := fun q hq => nomatch hq
/-- over one denominator, from sizes alone -/
theorem fz_of {s n : Nat} {f : Mx} (hn : n ≤ 6) (hs : 0 < s) (h : ∀ j, j < n → ∀ k, k < n → Rz s (f j k)) : FZ (37 * s) n f := by
  -- one row after the other
  have rw1 : ∀ (m : Nat) (v : Vc), m ≤ 6 → (∀ k, k < m → Rz s (v k)) → ∃ d : Int, d ≠ 0 ∧ d.natAbs ≤ 2 ^ (m * s) ∧ ∀ k, k < m → ∃ t : Int, v k * (d : Rat) = (t : Rat) := fun m v => by
    induction m with
    | zero => exact fun _ _ => ⟨1, by decide, by simp, fun k hk => absurd hk (Nat.not_lt_zero k)⟩
    | succ m ih =>
      intro hm hv
      obtain ⟨d, d0, d1, d2⟩ := ih (by omega) fun k hk => hv k (by omega)
      have hden := (v m).den_pos
      refine ⟨d * ((v m).den : Nat), Int.mul_ne_zero d0 (by omega), ?_, fun k hk => ?_⟩
      · rw [Int.natAbs_mul, Int.natAbs_natCast, Nat.succ_mul, Nat.pow_add]
        exact Nat.mul_le_mul d1 (Nat.le_of_lt (hv m (by omega)).2)
      · by_cases e : k = m
        · refine ⟨(v m).num * d, ?_⟩
          rw [e, Rat.intCast_mul, Rat.intCast_mul]
          have := num_eq (v m)
          rw [show (((v m).den : Nat) : Int) = ((v m).den : Int) from rfl]
          grind
        · obtain ⟨t, ht⟩ := d2 k (by omega)
          refine ⟨t * ((v m).den : Nat), ?_⟩
          rw [Rat.intCast_mul, Rat.intCast_mul, ← ht]
          grind
  have rw2 : ∀ m, m ≤ n → ∃ d : Int, d ≠ 0 ∧ d.natAbs ≤ 2 ^ (m * (n * s)) ∧ ∀ j, j < m → ∀ k, k < n → ∃ t : Int, f j k * (d : Rat) = (t : Rat) := fun m => by
    induction m with
    | zero => exact fun _ => ⟨1, by decide, by simp, fun k hk => absurd hk (Nat.not_lt_zero k)⟩
    | succ m ih =>
      intro hm
      obtain ⟨d, d0, d1, d2⟩ := ih (by omega)
      obtain ⟨c, c0, c1, c2⟩ := rw1 n (f m) hn (fun k hk => h m (by omega) k hk)
      refine ⟨d * c, Int.mul_ne_zero d0 c0, ?_, fun j hj k hk => ?_⟩
      · rw [Int.natAbs_mul, Nat.succ_mul, Nat.pow_add]
        exact Nat.mul_le_mul d1 c1
      · by_cases e : j = m
        · obtain ⟨t, ht⟩ := c2 k hk
          refine ⟨t * d, ?_⟩
          rw [e, Rat.intCast_mul, Rat.intCast_mul, ← ht]
          grind
        · obtain ⟨t, ht⟩ := d2 j (by omega) k hk
          refine ⟨t * c, ?_⟩
          rw [Rat.intCast_mul, Rat.intCast_mul, ← ht]
          grind
  obtain ⟨d, d0, d1, d2⟩ := rw2 n (Nat.le_refl _)
  have hb : n * (n * s) ≤ 36 * s := by
    rw [← Nat.mul_assoc]
    exact Nat.mul_le_mul_right _ (Nat.mul_le_mul hn hn)
  have hd : d.natAbs ≤ 2 ^ (36 * s) := Nat.le_trans d1 (Nat.pow_le_pow_right (by decide) hb)
  refine ⟨d, d0, Nat.lt_of_le_of_lt hd (Nat.pow_lt_pow_right (by decide) (by omega)), fun j hj k hk => ?_⟩
  obtain ⟨t, ht⟩ := d2 j hj k hk
  refine ⟨t, ?_, ht⟩
  have hden := (f j k).den_pos
  have e : t * ((f j k).den : Int) = (f j k).num * d := by
    have := num_eq (f j k)
    refine Rat.intCast_inj.mp ?_
    rw [Rat.intCast_mul, Rat.intCast_mul, ← ht]
    grind
  have e2 := congrArg Int.natAbs e
  rw [Int.natAbs_mul, Int.natAbs_mul, Int.natAbs_natCast] at e2
  have h1 : t.natAbs ≤ (f j k).num.natAbs * d.natAbs := by
    rw [← e2]
    exact Nat.le_mul_of_pos_right _ hden
  have h2 : (f j k).num.natAbs * d.natAbs < 2 ^ s * 2 ^ (36 * s) := Nat.mul_lt_mul_of_lt_of_le (h j hj k hk).1 hd (Nat.pow_pos (by decide))
  rw [← Nat.pow_add, show s + 36 * s = 37 * s by omega] at h2
  omega
end An

namespace An
open PySem PySem.Spec PyProof.Rows L2
abbrev PR : Program := PySem.Challenge.pw_abovenought_k60_whole_forms
def top (i : Nat) : Stmt := PR.main.body.getD i (.Pass ⟨0, 0, 0, 0⟩)
/-- what stands behind the top -/
structure Hd (K : PySem.W.Frag) (mg : Str → Option Value) (base : Heap) : Prop where
  ns : base.NoSeer
  d_common : FE K mg "common" (top 9)
  d_fraction : FE K mg "fraction" (top 10)
  d_plus : FE K mg "plus" (top 11)
  d_minus : FE K mg "minus" (top 12)
  d_times : FE K mg "times" (top 13)
  d_over : FE K mg "over" (top 14)
  d_is_fraction : FE K mg "is_fraction" (top 15)
  d_need_form : FE K mg "need_form" (top 18)
  d_dot : FE K mg "dot" (top 19)
  d_worth_at : FE K mg "worth_at" (top 20)
  d_form_worth : FE K mg "form_worth" (top 21)
  d_less_square : FE K mg "less_square" (top 22)
  d_form_shows : FE K mg "form_shows" (top 23)
  d_unit : FE K mg "unit" (top 24)
  d_low_point : FE K mg "low_point" (top 25)
  d_raised : FE K mg "raised" (top 26)
  d_form_settled : FE K mg "form_settled" (top 27)
  d__law_cell : FE K mg "_law_cell" (top 29)
  d__law_drawn : FE K mg "_law_drawn" (top 30)
  d__law_word : FE K mg "_law_word" (top 31)
  d__law_told : FE K mg "_law_told" (top 32)
  d__law_made : FE K mg "_law_made" (top 33)
  d__law_plus : FE K mg "_law_plus" (top 34)
  d__law_times : FE K mg "_law_times" (top 35)
  d__law_less : FE K mg "_law_less" (top 36)
  d__law_fraction : FE K mg "_law_fraction" (top 37)
  d__law_worth_at : FE K mg "_law_worth_at" (top 38)
  d__law_form_of : FE K mg "_law_form_of" (top 39)
  d__law_paper : FE K mg "_law_paper" (top 40)
  d__law_right : FE K mg "_law_right" (top 41)
  d_law : FE K mg "law" (top 42)
  g_law : mg "law" = some (.ref (He.ga K "law"))
  g__law_right : mg "_law_right" = some (.ref (He.ga K "_law_right"))
  b_ValueError : mg "ValueError" = none
  b_abs : mg "abs" = none
  b_all : mg "all" = none
  b_bool : mg "bool" = none
  b_enumerate : mg "enumerate" = none
  b_int : mg "int" = none
  b_isinstance : mg "isinstance" = none
  b_len : mg "len" = none
  b_list : mg "list" = none
  b_max : mg "max" = none
  b_min : mg "min" = none
  b_range : mg "range" = none
  b_sum : mg "sum" = none
  b_tuple : mg "tuple" = none
  b_zip : mg "zip" = none
  e_NoughtError : Err K mg "NoughtError" (He.ga K "NoughtError")
  e_BadPoly : Err K mg "BadPoly" (He.ga K "BadPoly")
  e_NoWay : Err K mg "NoWay" (He.ga K "NoWay")
  e_BadStretch : Err K mg "BadStretch" (He.ga K "BadStretch")
  e_BadForm : Err K mg "BadForm" (He.ga K "BadForm")
  c_BadPoly : ExcC K (He.ga K "BadPoly")
  x_BadPoly : PySem.W.exmOne K (.ref (He.ga K "BadPoly")) (.ref (He.ga K "NoughtError")) = some true
  v_BadPoly : PySem.W.kitOne K (.ref (He.ga K "BadPoly")) (.type "ValueError") = some true
  i_BadPoly_BadPoly : PySem.W.kitOne K (.ref (He.ga K "BadPoly")) (.ref (He.ga K "BadPoly")) = some true
  i_BadPoly_NoWay : PySem.W.kitOne K (.ref (He.ga K "BadPoly")) (.ref (He.ga K "NoWay")) = some false
  i_BadPoly_BadStretch : PySem.W.kitOne K (.ref (He.ga K "BadPoly")) (.ref (He.ga K "BadStretch")) = some false
  i_BadPoly_BadForm : PySem.W.kitOne K (.ref (He.ga K "BadPoly")) (.ref (He.ga K "BadForm")) = some false
  c_NoWay : ExcC K (He.ga K "NoWay")
  x_NoWay : PySem.W.exmOne K (.ref (He.ga K "NoWay")) (.ref (He.ga K "NoughtError")) = some true
  v_NoWay : PySem.W.kitOne K (.ref (He.ga K "NoWay")) (.type "ValueError") = some true
  i_NoWay_BadPoly : PySem.W.kitOne K (.ref (He.ga K "NoWay")) (.ref (He.ga K "BadPoly")) = some false
  i_NoWay_NoWay : PySem.W.kitOne K (.ref (He.ga K "NoWay")) (.ref (He.ga K "NoWay")) = some true
  i_NoWay_BadStretch : PySem.W.kitOne K (.ref (He.ga K "NoWay")) (.ref (He.ga K "BadStretch")) = some false
  i_NoWay_BadForm : PySem.W.kitOne K (.ref (He.ga K "NoWay")) (.ref (He.ga K "BadForm")) = some false
  c_BadStretch : ExcC K (He.ga K "BadStretch")
  x_BadStretch : PySem.W.exmOne K (.ref (He.ga K "BadStretch")) (.ref (He.ga K "NoughtError")) = some true
  v_BadStretch : PySem.W.kitOne K (.ref (He.ga K "BadStretch")) (.type "ValueError") = some true
  i_BadStretch_BadPoly : PySem.W.kitOne K (.ref (He.ga K "BadStretch")) (.ref (He.ga K "BadPoly")) = some false
  i_BadStretch_NoWay : PySem.W.kitOne K (.ref (He.ga K "BadStretch")) (.ref (He.ga K "NoWay")) = some false
  i_BadStretch_BadStretch : PySem.W.kitOne K (.ref (He.ga K "BadStretch")) (.ref (He.ga K "BadStretch")) = some true
  i_BadStretch_BadForm : PySem.W.kitOne K (.ref (He.ga K "BadStretch")) (.ref (He.ga K "BadForm")) = some false
  c_BadForm : ExcC K (He.ga K "BadForm")
  x_BadForm : PySem.W.exmOne K (.ref (He.ga K "BadForm")) (.ref (He.ga K "NoughtError")) = some true
  v_BadForm : PySem.W.kitOne K (.ref (He.ga K "BadForm")) (.type "ValueError") = some true
  i_BadForm_BadPoly : PySem.W.kitOne K (.ref (He.ga K "BadForm")) (.ref (He.ga K "BadPoly")) = some false
  i_BadForm_NoWay : PySem.W.kitOne K (.ref (He.ga K "BadForm")) (.ref (He.ga K "NoWay")) = some false
  i_BadForm_BadStretch : PySem.W.kitOne K (.ref (He.ga K "BadForm")) (.ref (He.ga K "BadStretch")) = some false
  i_BadForm_BadForm : PySem.W.kitOne K (.ref (He.ga K "BadForm")) (.ref (He.ga K "BadForm")) = some true
  k_NOUGHT : KD K mg "NOUGHT" (eF 0)
  k_ONE : KD K mg "ONE" (eF 1)
  k_MOST_ROWS : KD K mg "MOST_ROWS" (.int 6)

section
variable {w : World} {K : PySem.W.Frag} {mg : Str → Option Value} {base : Heap}
/-! ### fractions -/
theorem sc_common : FnScope ["one", "other"] ["one", "other"] (defScope (top 9)) := ⟨rfl, rfl, rfl, by decide +kernel, rfl, by decide +kernel, by decide +kernel⟩
theorem fn_common (h : Hd K mg base) : Fn PR w K mg base "common" 41 2 vCommon noX := by
  obtain ⟨f, fd, F, hm⟩ := h.d_common
  refine fn_mk F sc_common hm (F.bindsN fun _ _ _ _ _ _ us hl => match us, hl with | [_, _], _ => rfl) h.ns rfl (by decide) rfl (fun cdv A outer s H E X hX gx hp ds hl => ?_)
  subst hX
  have nd := sc_common.nd
  refine ⟨fun d hv => ?_, fun c hc => hc.elim⟩
  obtain ⟨a, b, rfl, rfl⟩ := hv
  refine ss_cons (s1_while (fun m γ => ∃ a' b' : Nat, γ = [.dat (.int a'), .dat (.int b')] ∧ Nat.gcd a' b' = Nat.gcd a b ∧ m = b') b ⟨a, b, rfl, rfl, rfl⟩ (fun m γ hI => ?_) hp)
  obtain ⟨a', b', rfl, hg, e⟩ := hI
  subst e
  refine ⟨_, et_cmp (ee_var 1) ee_int od_gt (nomark _), fun hk => ?_, fun hk => ?_⟩
  · have hb : 0 < m := by
      have := of_decide_eq_true hk
      omega
    refine ss_one (s1_par 0 1 (ee_var 1) (ee_op (ee_var 0) (ee_var 1) (od_mod ?_)) ?_ rfl nd)
    · omega
    · refine ⟨a' % m, Nat.mod_lt _ hb, m, a' % m, rfl, ?_, rfl⟩
      rw [← hg, Nat.gcd_comm a' m, Nat.gcd_rec m a', Nat.gcd_comm]
  · have hb : m = 0 := by
      have := of_decide_eq_false hk
      omega
    subst hb
    refine ss_one (s1_ret (ee_var 0) ?_)
    rw [← hg, Nat.gcd_zero_right]
theorem sc_fraction : FnScope ["top", "under", "part"] ["top", "under"] (defScope (top 10)) := ⟨rfl, rfl, rfl, by decide +kernel, rfl, by decide +kernel, by decide +kernel⟩
theorem fn_fraction (h : Hd K mg base) : Fn PR w K mg base "fraction" 42 2 vFraction noX := by
  obtain ⟨f, fd, F, hm⟩ := h.d_fraction
  refine fn_mk F sc_fraction hm (F.bindsN fun _ _ _ _ _ _ us hl => match us, hl with | [_, _], _ => rfl) h.ns rfl (by decide) rfl (fun cdv A outer s H E X hX gx hp ds hl => ?_)
  subst hX
  have nd := sc_fraction.nd
  refine ⟨fun d hv => ?_, fun c hc => hc.elim⟩
  obtain ⟨t, u, rfl, hu, rfl⟩ := hv
  have rest : ∀ (t' : Int) (u' : Nat), 0 < u' → mkRat t' u' = Rat.divInt t u → SS Same (cxOf (L2N.CX PR w) PR w K mg base _ "fraction" (defScope (top 10)) f cdv A outer s H E) [.dat (.int t'), .dat (.int (u' : Nat)), .no] ((defBody (top 10)).drop 1) { rt := fun e => e = eF (Rat.divInt t u), nx := fun _ => eF (Rat.divInt t u) = .none } := fun t' u' h0 he => by
    have hg : 0 < Nat.gcd t'.natAbs u' := Nat.gcd_pos_of_pos_right _ h0
    refine ss_cons (s1_set 2 (ee_call (fn_common h) (gx.room.mono (by decide)) (ea_cons (ee_abs (ee_var 0) h.b_abs) (ea_cons (ee_var 1) ea_nil)) ⟨_, _, rfl, rfl⟩) ?_ nd)
    refine ss_one (s1_ret (ee_tup (ea_cons (ee_op (ee_var 0) (ee_var 2) (od_fdiv gx ?_)) (ea_cons (ee_op (ee_var 1) (ee_var 2) (od_fdiv gx ?_)) ea_nil))) ?_)
    · omega
    · omega
    · rw [← he]
      exact made_eq h0
  refine ss_cons (s1_if (et_cmp (ee_var 1) ee_int od_lt (nomark _)) (fun hk => ?_) (fun hk => ?_))
  · have hu' : u < 0 := of_decide_eq_true hk
    refine ss_cons (s1_set 0 (ee_op ee_int (ee_var 0) od_sub) ?_ nd)
    refine ss_one (s1_set 1 (ee_op ee_int (ee_var 1) od_sub) ?_ nd)
    have e : (0 - u) = ((0 - u).toNat : Int) := by omega
    show SS Same _ [.dat (.int (0 - t)), .dat (.int (0 - u)), .no] _ _
    rw [e]
    refine rest _ _ (by omega) ?_
    rw [← Rat.divInt_ofNat, ← e, Int.zero_sub, Int.zero_sub, Rat.neg_divInt_neg]
  · have hu' : ¬ u < 0 := of_decide_eq_false hk
    refine ss_nil ?_
    have e : u = (u.toNat : Int) := by omega
    show SS Same _ [.dat (.int t), .dat (.int u), .no] _ _
    have q := rest t u.toNat (by omega) (by rw [← Rat.divInt_ofNat, ← e])
    rw [← e] at q
    exact q
/-- two fractions of together few enough bits -/
theorem sc_plus : FnScope ["one", "other"] ["one", "other"] (defScope (top 11)) := ⟨rfl, rfl, rfl, by decide +kernel, rfl, by decide +kernel, by decide +kernel⟩
theorem fn_plus (h : Hd K mg base) : Fn PR w K mg base "plus" 43 2 (Bin fun a b => a + b) noX := by
  obtain ⟨f, fd, F, hm⟩ := h.d_plus
  refine fn_mk F sc_plus hm (F.bindsN fun _ _ _ _ _ _ us hl => match us, hl with | [_, _], _ => rfl) h.ns rfl (by decide) rfl (fun cdv A outer s H E X hX gx hp ds hl => ?_)
  subst hX
  have nd := sc_plus.nd
  refine ⟨fun d hv => ?_, fun c hc => hc.elim⟩
  obtain ⟨a, b, n, m, rfl, ha, hb, hl, rfl⟩ := hv
  refine ss_one (s1_ret (ee_call (fn_fraction h) (gx.room.mono (by decide)) (ea_cons (ee_op (ee_op (ee_ix (ee_var 0) ee_int rfl) (ee_ix (ee_var 1) ee_int rfl) (od_mul (mulx ha.1 (by simpa using hb.2) hl))) (ee_op (ee_ix (ee_var 1) ee_int rfl) (ee_ix (ee_var 0) ee_int rfl) (od_mul (mulx hb.1 (by simpa using ha.2) (by omega)))) od_add)
    (ea_cons (ee_op (ee_ix (ee_var 0) ee_int rfl) (ee_ix (ee_var 1) ee_int rfl) (od_mul (mulx (by simpa using ha.2) (by simpa using hb.2) hl))) ea_nil)) ⟨_, _, rfl, ?_, rfl⟩) ?_)
  · have h1 := a.den_pos
    have h2 := b.den_pos
    rw [← Int.natCast_mul]
    exact Int.natCast_ne_zero.mpr (Nat.ne_of_gt (Nat.mul_pos h1 h2))
  · rw [← Int.natCast_mul, Rat.divInt_ofNat, ← Rat.add_def']
theorem sc_times : FnScope ["one", "other"] ["one", "other"] (defScope (top 13)) := ⟨rfl, rfl, rfl, by decide +kernel, rfl, by decide +kernel, by decide +kernel⟩
theorem fn_times (h : Hd K mg base) : Fn PR w K mg base "times" 43 2 (Bin fun a b => a * b) noX := by
  obtain ⟨f, fd, F, hm⟩ := h.d_times
  refine fn_mk F sc_times hm (F.bindsN fun _ _ _ _ _ _ us hl => match us, hl with | [_, _], _ => rfl) h.ns rfl (by decide) rfl (fun cdv A outer s H E X hX gx hp ds hl => ?_)
  subst hX
  have nd := sc_times.nd
  refine ⟨fun d hv => ?_, fun c hc => hc.elim⟩
  obtain ⟨a, b, n, m, rfl, ha, hb, hl, rfl⟩ := hv
  refine ss_one (s1_ret (ee_call (fn_fraction h) (gx.room.mono (by decide)) (ea_cons (ee_op (ee_ix (ee_var 0) ee_int rfl) (ee_ix (ee_var 1) ee_int rfl) (od_mul (mulx ha.1 hb.1 hl)))
    (ea_cons (ee_op (ee_ix (ee_var 0) ee_int rfl) (ee_ix (ee_var 1) ee_int rfl) (od_mul (mulx (by simpa using ha.2) (by simpa using hb.2) hl))) ea_nil)) ⟨_, _, rfl, ?_, rfl⟩) ?_)
  · have h1 := a.den_pos
    have h2 := b.den_pos
    rw [← Int.natCast_mul]
    exact Int.natCast_ne_zero.mpr (Nat.ne_of_gt (Nat.mul_pos h1 h2))
  · rw [← Int.natCast_mul, Rat.divInt_ofNat, ← Rat.mul_def']


theorem sc_is_fraction : FnScope ["thing", "part"] ["thing"] (defScope (top 15)) := ⟨rfl, rfl, rfl, by decide +kernel, rfl, by decide +kernel, by decide +kernel⟩
theorem fn_is_fraction (h : Hd K mg base) : Fn PR w K mg base "is_fraction" 43 1 vIsF noX := by
  obtain ⟨f, fd, F, hm⟩ := h.d_is_fraction
  refine fn_mk F sc_is_fraction hm (F.bindsN fun _ _ _ _ _ _ us hl => match us, hl with | [_], _ => rfl) h.ns rfl (by decide) rfl (fun cdv A outer s H E X hX gx hp ds hl => ?_)
  subst hX
  have nd := sc_is_fraction.nd
  refine ⟨fun d hv => ?_, fun c hc => hc.elim⟩
  obtain ⟨x, rfl, rfl⟩ := hv
  refine ss_cons (s1_if (ew_et (ew_or (et_not (et_val (ee_isi "tuple" (ee_var 0) (.inl rfl) h.b_isinstance h.b_tuple PyProof.Rows.boot_tuple))) (q := decide (((itemsD x).getD []).length ≠ 2)) (fun hk => ew_or1 ?_))) (fun hk => ?_) (fun hk => ?_))
  · obtain ⟨ys, rfl⟩ := isT_tuple (x := x) (by simpa using hk)
    refine et_is (et_cmp (ee_len (ee_var 0) rfl h.b_len) ee_int (od_neI gx) (nomark _)) ?_
    exact decide_eq_decide.mpr ⟨fun z q => z (by rw [show ys.length = 2 from q]; rfl), fun z q => z (by have : (ys.length : Int) = 2 := q; show ys.length = 2; omega)⟩
  · refine ss_one (s1_ret ee_bl ?_)
    have : isF x = false := by
      cases hf : isF x with
      | false => rfl
      | true =>
        obtain ⟨q, rfl⟩ := isF_some hf
        simp [eF, isN, tyN, itemsD] at hk
    rw [this]
  · rw [Bool.or_eq_false_iff] at hk
    obtain ⟨ys, rfl⟩ := isT_tuple (x := x) (by simpa using hk.1)
    have hl2 : ys.length = 2 := by
      have := of_decide_eq_false hk.2
      exact Decidable.not_not.mp this
    obtain ⟨a, b, rfl⟩ : ∃ a b, ys = [a, b] := by
      match ys, hl2 with
      | [a, b], _ => exact ⟨a, b, rfl⟩
    refine ss_nil (ss_cons (s1_if (et_not (et_val (ee_all (bs := [isI a, isI b]) (ee_is (ef_ee (ef_map "part" 1 (fun d => .bool (isI d)) rfl nd (ei_tup (ee_var 0)) (blkOk_by (own := [("part", 1)]) (N := ["thing", "part"]) (sc := defScope (top 15)) (by decide +kernel)) (fun _ _ _ _ _ => pg_name (i := 1) nd rfl (Or.inl rfl)) (fun es z => nomatch z) (fun d hd s1 H1 C1 cl1 fp1 => ?_) (Nat.le_of_ble_eq_true rfl))) rfl) rfl h.b_all))) (fun hk2 => ?_) (fun hk2 => ?_)))
    · rw [← isI_eq]
      exact ee_and (ee_isi "int" (ee_var 1) (.inr (.inr (.inl rfl))) h.b_isinstance h.b_int PyProof.Rows.boot_int) (fun _ => ee_one (ee_not (ee_isi "bool" (ee_var 1) (.inr (.inr (.inr (.inl rfl)))) h.b_isinstance h.b_bool PyProof.Rows.boot_bool)))
    · refine ss_one (s1_ret ee_bl ?_)
      have : isF (.tuple [a, b]) = false := by
        cases a <;> cases b <;> simp_all [isF, isI]
      rw [this]
    · obtain ⟨t, rfl⟩ : ∃ t, a = .int t := by
        cases a with
        | int t => exact ⟨t, rfl⟩
        | _ => simp [isI] at hk2
      obtain ⟨u, rfl⟩ : ∃ u, b = .int u := by
        cases b with
        | int u => exact ⟨u, rfl⟩
        | _ => simp [isI] at hk2
      refine ss_nil (ss_one (s1_ret (ee_and (ee_cmp (ee_ix (ee_var 0) ee_int rfl) ee_int od_gt (nomark _)) (q := Nat.gcd t.natAbs u.natAbs == 1) (fun hp0 => ee_one ?_)) ?_))
      · have h0 : 0 < u := of_decide_eq_true hp0
        have e : u = (u.natAbs : Nat) := by omega
        refine ee_is (ee_cmp (ee_call (fn_common h) (gx.room.mono (by decide)) (ea_cons (ee_abs (ee_ix (ee_var 0) ee_int rfl) h.b_abs) (ea_cons (ee_ix (ee_var 0) ee_int rfl) ea_nil)) ⟨t.natAbs, u.natAbs, by rw [← e], rfl⟩) ee_int (od_eqI gx) (nomark _)) ?_
        congr 1
        by_cases hz : Nat.gcd t.natAbs u.natAbs = 1
        · rw [hz]
          rfl
        · rw [decide_eq_false (by omega)]
          exact (beq_eq_false_iff_ne.mpr hz).symm
      · rfl


theorem sc_minus : FnScope ["one", "other"] ["one", "other"] (defScope (top 12)) := ⟨rfl, rfl, rfl, by decide +kernel, rfl, by decide +kernel, by decide +kernel⟩
theorem fn_minus (h : Hd K mg base) : Fn PR w K mg base "minus" 43 2 (Bin fun a b => a - b) noX := by
  obtain ⟨f, fd, F, hm⟩ := h.d_minus
  refine fn_mk F sc_minus hm (F.bindsN fun _ _ _ _ _ _ us hl => match us, hl with | [_, _], _ => rfl) h.ns rfl (by decide) rfl (fun cdv A outer s H E X hX gx hp ds hl => ?_)
  subst hX
  have nd := sc_minus.nd
  refine ⟨fun d hv => ?_, fun c hc => hc.elim⟩
  obtain ⟨a, b, n, m, rfl, ha, hb, hl, rfl⟩ := hv
  refine ss_one (s1_ret (ee_call (fn_fraction h) (gx.room.mono (by decide)) (ea_cons (ee_op (ee_op (ee_ix (ee_var 0 rfl) ee_int rfl) (ee_ix (ee_var 1 rfl) ee_int rfl) (od_mul (mulx ha.1 (by simpa using hb.2) hl))) (ee_op (ee_ix (ee_var 1 rfl) ee_int rfl) (ee_ix (ee_var 0 rfl) ee_int rfl) (od_mul (mulx hb.1 (by simpa using ha.2) (by omega)))) od_sub) (ea_cons (ee_op (ee_ix (ee_var 0 rfl) ee_int rfl) (ee_ix (ee_var 1 rfl) ee_int rfl) (od_mul (mulx (by simpa using ha.2) (by simpa using hb.2) hl))) ea_nil)) (⟨_, _, rfl, ?_, rfl⟩)) ?_)
  · have h1 := a.den_pos
    have h2 := b.den_pos
    rw [← Int.natCast_mul]
    exact Int.natCast_ne_zero.mpr (Nat.ne_of_gt (Nat.mul_pos h1 h2))
  · rw [← Int.natCast_mul, Rat.divInt_ofNat, ← Rat.sub_def']
theorem sc_over : FnScope ["one", "other"] ["one", "other"] (defScope (top 14)) := ⟨rfl, rfl, rfl, by decide +kernel, rfl, by decide +kernel, by decide +kernel⟩
theorem fn_over (h : Hd K mg base) : Fn PR w K mg base "over" 43 2 vOver noX := by
  obtain ⟨f, fd, F, hm⟩ := h.d_over
  refine fn_mk F sc_over hm (F.bindsN fun _ _ _ _ _ _ us hl => match us, hl with | [_, _], _ => rfl) h.ns rfl (by decide) rfl (fun cdv A outer s H E X hX gx hp ds hl => ?_)
  subst hX
  have nd := sc_over.nd
  refine ⟨fun d hv => ?_, fun c hc => hc.elim⟩
  obtain ⟨a, b, n, m, rfl, h0, ha, hb, hl, rfl⟩ := hv
  refine ss_one (s1_ret (ee_call (fn_fraction h) (gx.room.mono (by decide)) (ea_cons (ee_op (ee_ix (ee_var 0 rfl) ee_int rfl) (ee_ix (ee_var 1 rfl) ee_int rfl) (od_mul (mulx ha.1 (by simpa using hb.2) hl))) (ea_cons (ee_op (ee_ix (ee_var 0 rfl) ee_int rfl) (ee_ix (ee_var 1 rfl) ee_int rfl) (od_mul (mulx (by simpa using ha.2) hb.1 hl))) ea_nil)) (⟨_, _, rfl, ?_, rfl⟩)) ?_)
  · have h1 := a.den_pos
    exact Int.mul_ne_zero (by omega) fun z => h0 (Rat.num_eq_zero.mp z)
  · rw [div_num]
theorem coef_repl (L i : Nat) : coef (List.replicate L 0) i = 0 := by
  unfold coef
  rw [List.getD_eq_getElem?_getD, List.getElem?_replicate]
  split <;> rfl


/-! ### the law's own helpers -/
def cellZ (ns : List Int) (k : Nat) : Int := if ns = [] then (k : Int) * 7919 else ns.getD (k % ns.length) 0 + ((k / ns.length : Nat) : Int) * 104729
def vCell (ds : List D) (d : D) : Prop := ∃ (ns : List Int) (k : Nat), ds = [.list (ns.map .int), .int k] ∧ k ≤ 1000 ∧ ns.length ≤ 1000 ∧ d = .int (cellZ ns k)
theorem sh_ints {ns : List Int} : Sh 1 (.list (ns.map .int)) := sh_list (n := 0) fun d hd => by
  obtain ⟨i, _, rfl⟩ := List.mem_map.mp hd
  exact sh_int
theorem eqv_ints_nil (ns : List Int) : PyData.eqv (.list (ns.map .int)) (.list []) = decide (ns = []) := by
  cases ns <;> simp [PyData.eqv, PyData.eqvAll]
theorem sc__law_cell : FnScope ["script", "k"] ["script", "k"] (defScope (top 29)) := ⟨rfl, rfl, rfl, by decide +kernel, rfl, by decide +kernel, by decide +kernel⟩
theorem fn__law_cell (h : Hd K mg base) : Fn PR w K mg base "_law_cell" 41 2 vCell noX := by
  obtain ⟨f, fd, F, hm⟩ := h.d__law_cell
  refine fn_mk F sc__law_cell hm (F.bindsN fun _ _ _ _ _ _ us hl => match us, hl with | [_, _], _ => rfl) h.ns rfl (by decide) rfl (fun cdv A outer s H E X hX gx hp ds hl => ?_)
  subst hX
  have nd := sc__law_cell.nd
  refine ⟨fun d hv => ?_, fun c hc => hc.elim⟩
  obtain ⟨ns, k, rfl, hk, hl', rfl⟩ := hv
  have k10 : k < 2 ^ 10 := by omega
  refine ss_cons (s1_if (et_is (et_cmp (ee_var 0) (ee_lst ea_nil) (od_eq gx sh_ints.ok1 (sh_ints (ns := [])).ok1) (nomark _)) (b' := decide (ns = [])) (eqv_ints_nil ns)) (fun hn => ?_) (fun hn => ?_))
  · refine ss_one (s1_ret (ee_op (ee_var 1) ee_int (od_mul (mulx (n := 10) (m := 13) (by simpa using k10) (by decide) (by decide)))) ?_)
    rw [cellZ, if_pos (of_decide_eq_true hn)]
  · have hne : ns ≠ [] := of_decide_eq_false hn
    have h0 : 0 < ns.length := List.length_pos_iff.mpr hne
    have hq : k / ns.length < 2 ^ 10 := Nat.lt_of_le_of_lt (Nat.div_le_self _ _) k10
    refine ss_nil (ss_one (s1_ret (ee_op (ee_ix (d := .int (ns.getD (k % ns.length) 0)) (ee_var 0) (ee_op (ee_var 1) (ee_len (ee_var 0) (n := ns.length) (by simp [lenD]) h.b_len) (od_mod (by omega))) ?_)
      (ee_op (ee_op (ee_var 1) (ee_len (ee_var 0) (n := ns.length) (by simp [lenD]) h.b_len) (od_fdiv gx (by omega))) ee_int (od_mul (mulx (n := 10) (m := 17) ?_ (by decide) (by decide)))) od_add) ?_))
    · rw [← Int.natCast_emod]
      refine atI_nat ?_
      have hm : k % ns.length < ns.length := Nat.mod_lt _ h0
      rw [List.getElem?_map, List.getElem?_eq_getElem hm, List.getD_eq_getElem?_getD, List.getElem?_eq_getElem hm]
      rfl
    · rw [← Int.natCast_ediv, Int.natAbs_natCast]
      exact hq
    · rw [cellZ, if_neg hne, Int.natCast_ediv]
theorem bits_lt {z : Int} {n : Nat} (h : Builtin.Int.intBits z ≤ n) : z.natAbs < 2 ^ n := by
  unfold Builtin.Int.intBits at h
  by_cases hz : z = 0
  · subst hz
    exact Nat.two_pow_pos n
  · rw [if_neg (by simpa using hz)] at h
    exact Nat.lt_of_lt_of_le (Nat.lt_log2_self (n := z.natAbs)) (Nat.pow_le_pow_right (by decide) h)
theorem cellZ_lt {ns : List Int} {k : Nat} (hb : ∀ z ∈ ns, Builtin.Int.intBits z ≤ 1048576) (hk : k ≤ 1000) : (cellZ ns k).natAbs < 2 ^ 1048600 := by
  have hs : ∀ n : Nat, n < 2 ^ 1048576 + 2 ^ 40 → n < 2 ^ 1048600 := fun n h => by
    have e : (2 : Nat) ^ 1048600 = 2 ^ 1048576 * 2 ^ 24 := by rw [← Nat.pow_add]
    have e2 : (2 : Nat) ^ 40 ≤ 2 ^ 1048576 := Nat.pow_le_pow_right (by decide) (by decide)
    generalize 2 ^ 1048576 = A at *
    omega
  unfold cellZ
  split
  · exact hs _ (Nat.lt_of_lt_of_le (show _ < 2 ^ 40 by omega) (Nat.le_add_left _ _))
  · have h1 : (ns.getD (k % ns.length) 0).natAbs < 2 ^ 1048576 := by
      rw [List.getD_eq_getElem?_getD]
      cases e : ns[k % ns.length]? with
      | none => exact Nat.two_pow_pos _
      | some z => exact bits_lt (hb z (List.mem_of_getElem? e))
    have h2 : k / ns.length ≤ 1000 := Nat.le_trans (Nat.div_le_self _ _) hk
    generalize k / ns.length = j at *
    generalize ns.getD (k % ns.length) 0 = a at *
    refine hs _ ?_
    generalize 2 ^ 1048576 = A at *
    omega
abbrev cM : Int := 340282366920938463463374607431768211507
abbrev cN : Int := 340282366920938463463374607431768211297
abbrev cP : Int := 18446744073709551557
def drawn1 (c k : Int) : Int := (c * 6364136223846793005 + (k + 1) * 1442695040888963407) % cM
def drawn2 (c k : Int) : Int := drawn1 c k * drawn1 c k % cN
def drawnZ (c k : Int) : Int := (drawn2 c k % cP + 1) * (drawn2 c k / cP + 1) * drawn2 c k % cM
theorem drawn1_in (c k : Int) : 0 ≤ drawn1 c k ∧ drawn1 c k < cM := ⟨Int.emod_nonneg _ (by decide), Int.emod_lt_of_pos _ (by decide)⟩
theorem drawn2_in (c k : Int) : 0 ≤ drawn2 c k ∧ drawn2 c k < cN := ⟨Int.emod_nonneg _ (by decide), Int.emod_lt_of_pos _ (by decide)⟩
theorem drawn_in (c k : Int) : 0 ≤ drawnZ c k ∧ drawnZ c k < cM := ⟨Int.emod_nonneg _ (by decide), Int.emod_lt_of_pos _ (by decide)⟩
theorem drawn_lt (c k : Int) : (drawnZ c k).natAbs < 2 ^ 129 := by
  have := drawn_in c k
  unfold cM at this
  omega
def vDrawn (ds : List D) (d : D) : Prop := ∃ c k : Int, ds = [.int c, .int k] ∧ c.natAbs < 2 ^ 1048600 ∧ k.natAbs < 2 ^ 1000 ∧ d = .int (drawnZ c k)
theorem sc__law_drawn : FnScope ["cell", "k", "more"] ["cell", "k"] (defScope (top 30)) := ⟨rfl, rfl, rfl, by decide +kernel, rfl, by decide +kernel, by decide +kernel⟩
theorem fn__law_drawn (h : Hd K mg base) : Fn PR w K mg base "_law_drawn" 41 2 vDrawn noX := by
  obtain ⟨f, fd, F, hm⟩ := h.d__law_drawn
  refine fn_mk F sc__law_drawn hm (F.bindsN fun _ _ _ _ _ _ us hl => match us, hl with | [_, _], _ => rfl) h.ns rfl (by decide) rfl (fun cdv A outer s H E X hX gx hp ds hl => ?_)
  subst hX
  have nd := sc__law_drawn.nd
  refine ⟨fun d hv => ?_, fun c hc => hc.elim⟩
  obtain ⟨c, k, rfl, hc, hk, rfl⟩ := hv
  have i1 := drawn1_in c k
  have i2 := drawn2_in c k
  have b1 : (drawn1 c k).natAbs < 2 ^ 129 := by
    unfold cM at i1
    omega
  have b2 : (drawn2 c k).natAbs < 2 ^ 129 := by
    unfold cN at i2
    omega
  have b3 : (drawn2 c k % cP + 1).natAbs < 2 ^ 65 := by
    have h1 := Int.emod_nonneg (drawn2 c k) (show cP ≠ 0 by decide)
    have h2 := Int.emod_lt_of_pos (drawn2 c k) (show 0 < cP by decide)
    unfold cP at *
    omega
  have b4 : (drawn2 c k / cP + 1).natAbs < 2 ^ 130 := by
    have h1 := Int.ediv_nonneg i2.1 (show 0 ≤ cP by decide)
    have h2 := Int.ediv_le_self cP i2.1
    omega
  have b5 : ((drawn2 c k % cP + 1) * (drawn2 c k / cP + 1)).natAbs < 2 ^ (65 + 130) := by
    rw [Int.natAbs_mul]
    exact nat_mul_lt b3 b4
  have k1 : (k + 1).natAbs < 2 ^ 1001 := by
    rw [Nat.pow_succ]
    generalize 2 ^ 1000 = A at *
    omega
  refine ss_cons (s1_set 2 (ee_op (ee_op (ee_op (ee_var 0) ee_int (od_mul (mulx (m := 63) hc (by decide) (by decide)))) (ee_op (ee_op (ee_var 1) ee_int od_add) ee_int (od_mul (mulx (m := 61) k1 (by decide) (by decide)))) od_add) ee_int (od_mod (by decide))) ?_ nd)
  show SS Same _ [.dat (.int c), .dat (.int k), .dat (.int (drawn1 c k))] _ _
  refine ss_cons (s1_set 2 (ee_op (ee_op (ee_var 2) (ee_var 2) (od_mul (mulx b1 b1 (by decide)))) ee_int (od_mod (by decide))) ?_ nd)
  show SS Same _ [.dat (.int c), .dat (.int k), .dat (.int (drawn2 c k))] _ _
  refine ss_cons (s1_set 2 (ee_op (ee_op (ee_op (ee_op (ee_var 2) ee_int (od_mod (by decide))) ee_int od_add) (ee_op (ee_op (ee_var 2) ee_int (od_fdiv gx (by decide))) ee_int od_add) (od_mul (mulx b3 b4 (by decide)))) (ee_var 2) (od_mul (mulx b5 b2 (by decide)))) ?_ nd)
  exact ss_one (s1_ret (ee_op (ee_var 2) ee_int (od_mod (by decide))) rfl)
def vMade (ds : List D) (d : D) : Prop := ∃ (t : Int) (u : Nat), ds = [.int t, .int u] ∧ 0 < u ∧ d = eF (mkRat t u)
theorem sc__law_made : FnScope ["top", "under", "one", "other"] ["top", "under"] (defScope (top 33)) := ⟨rfl, rfl, rfl, by decide +kernel, rfl, by decide +kernel, by decide +kernel⟩
theorem fn__law_made (h : Hd K mg base) : Fn PR w K mg base "_law_made" 41 2 vMade noX := by
  obtain ⟨f, fd, F, hm⟩ := h.d__law_made
  refine fn_mk F sc__law_made hm (F.bindsN fun _ _ _ _ _ _ us hl => match us, hl with | [_, _], _ => rfl) h.ns rfl (by decide) rfl (fun cdv A outer s H E X hX gx hp ds hl => ?_)
  subst hX
  have nd := sc__law_made.nd
  refine ⟨fun d hv => ?_, fun c hc => hc.elim⟩
  obtain ⟨t, u, rfl, hu, rfl⟩ := hv
  refine ss_cons (s1_par 2 3 (ee_abs (ee_var 0) h.b_abs) (ee_var 1) ?_ rfl nd)
  refine ss_cons (s1_while (fun m γ => ∃ a' b' : Nat, γ = [.dat (.int t), .dat (.int (u : Nat)), .dat (.int a'), .dat (.int b')] ∧ Nat.gcd a' b' = Nat.gcd t.natAbs u ∧ m = b') u ⟨t.natAbs, u, rfl, rfl, rfl⟩ (fun m γ hI => ?_) hp)
  obtain ⟨a', b', rfl, hg, e⟩ := hI
  subst e
  refine ⟨_, et_cmp (ee_var 3) ee_int od_gt (nomark _), fun hk => ?_, fun hk => ?_⟩
  · have hb : 0 < m := by
      have := of_decide_eq_true hk
      omega
    refine ss_one (s1_par 2 3 (ee_var 3) (ee_op (ee_var 2) (ee_var 3) (od_mod (by omega))) ?_ rfl nd)
    refine ⟨a' % m, Nat.mod_lt _ hb, m, a' % m, rfl, ?_, rfl⟩
    rw [← hg, Nat.gcd_comm a' m, Nat.gcd_rec m a', Nat.gcd_comm]
  · have hb : m = 0 := by
      have := of_decide_eq_false hk
      omega
    subst hb
    rw [Nat.gcd_zero_right] at hg
    have h0 : 0 < Nat.gcd t.natAbs u := Nat.gcd_pos_of_pos_right _ hu
    subst hg
    refine ss_one (s1_ret (ee_tup (ea_cons (ee_op (ee_var 0) (ee_var 2) (od_fdiv gx (by omega))) (ea_cons (ee_op (ee_var 1) (ee_var 2) (od_fdiv gx (by omega))) ea_nil))) ?_)
    exact made_eq hu
theorem sc__law_plus : FnScope ["one", "other"] ["one", "other"] (defScope (top 34)) := ⟨rfl, rfl, rfl, by decide +kernel, rfl, by decide +kernel, by decide +kernel⟩
theorem fn__law_plus (h : Hd K mg base) : Fn PR w K mg base "_law_plus" 42 2 (Bin fun a b => a + b) noX := by
  obtain ⟨f, fd, F, hm⟩ := h.d__law_plus
  refine fn_mk F sc__law_plus hm (F.bindsN fun _ _ _ _ _ _ us hl => match us, hl with | [_, _], _ => rfl) h.ns rfl (by decide) rfl (fun cdv A outer s H E X hX gx hp ds hl => ?_)
  subst hX
  have nd := sc__law_plus.nd
  refine ⟨fun d hv => ?_, fun c hc => hc.elim⟩
  obtain ⟨a, b, n, m, rfl, ha, hb, hl, rfl⟩ := hv
  refine ss_one (s1_ret (ee_call (fn__law_made h) (gx.room.mono (by decide)) (ea_cons (ee_op (ee_op (ee_ix (ee_var 0) ee_int rfl) (ee_ix (ee_var 1) ee_int rfl) (od_mul (mulx ha.1 (by simpa using hb.2) hl))) (ee_op (ee_ix (ee_var 1) ee_int rfl) (ee_ix (ee_var 0) ee_int rfl) (od_mul (mulx hb.1 (by simpa using ha.2) (by omega)))) od_add)
    (ea_cons (ee_op (ee_ix (ee_var 0) ee_int rfl) (ee_ix (ee_var 1) ee_int rfl) (od_mul (mulx (by simpa using ha.2) (by simpa using hb.2) hl))) ea_nil)) ⟨_, a.den * b.den, by rw [Int.natCast_mul], Nat.mul_pos a.den_pos b.den_pos, rfl⟩) ?_)
  rw [← Rat.add_def']
theorem sc__law_times : FnScope ["one", "other"] ["one", "other"] (defScope (top 35)) := ⟨rfl, rfl, rfl, by decide +kernel, rfl, by decide +kernel, by decide +kernel⟩
theorem fn__law_times (h : Hd K mg base) : Fn PR w K mg base "_law_times" 42 2 (Bin fun a b => a * b) noX := by
  obtain ⟨f, fd, F, hm⟩ := h.d__law_times
  refine fn_mk F sc__law_times hm (F.bindsN fun _ _ _ _ _ _ us hl => match us, hl with | [_, _], _ => rfl) h.ns rfl (by decide) rfl (fun cdv A outer s H E X hX gx hp ds hl => ?_)
  subst hX
  have nd := sc__law_times.nd
  refine ⟨fun d hv => ?_, fun c hc => hc.elim⟩
  obtain ⟨a, b, n, m, rfl, ha, hb, hl, rfl⟩ := hv
  refine ss_one (s1_ret (ee_call (fn__law_made h) (gx.room.mono (by decide)) (ea_cons (ee_op (ee_ix (ee_var 0) ee_int rfl) (ee_ix (ee_var 1) ee_int rfl) (od_mul (mulx ha.1 hb.1 hl)))
    (ea_cons (ee_op (ee_ix (ee_var 0) ee_int rfl) (ee_ix (ee_var 1) ee_int rfl) (od_mul (mulx (by simpa using ha.2) (by simpa using hb.2) hl))) ea_nil)) ⟨_, a.den * b.den, by rw [Int.natCast_mul], Nat.mul_pos a.den_pos b.den_pos, rfl⟩) ?_)
  rw [← Rat.mul_def']


theorem rangeD_get {n i : Nat} {d : D} (h : (rangeD 0 n)[i]? = some d) : i < n ∧ d = .int (i : Nat) := by
  have hi : i < n := by
    have := (List.getElem?_eq_some_iff.mp h).1
    simpa [rangeD] using this
  refine ⟨hi, ?_⟩
  unfold rangeD at h
  rw [List.getElem?_map, List.getElem?_range hi] at h
  rw [← Option.some.inj h]
  show PyData.int (0 + (i : Nat)) = _
  rw [Int.zero_add]
/-! ### the law's polynomials -/
theorem trim_drop {q : Poly} (h0 : q ≠ []) (h : coef q (q.length - 1) = 0) : trim q.dropLast = trim q := trim_ext fun i => by
  have hl : 0 < q.length := List.length_pos_iff.mpr h0
  by_cases hi : i < q.length - 1
  · rw [coef_in (by rw [List.length_dropLast]; exact hi), coef_in (by omega), List.getElem_dropLast]
  · rw [coef_out (by rw [List.length_dropLast]; omega)]
    by_cases e : i = q.length - 1
    · rw [e, h]
    · rw [coef_out (by omega)]
def fracU (m : Int) : Nat := ([1, 1, 1, 2, 3] : List Nat).getD (m / 16 % 5).toNat 1
def fracZ (m : Int) : Rat := mkRat (m % 13 - 6) (fracU m)
theorem fracU_in (m : Int) : 0 < fracU m ∧ fracU m ≤ 3 ∧ atI (([1, 1, 1, 2, 3] : List Int).map PyData.int) (m / 16 % 5) = some (.int (fracU m : Nat)) := by
  have h1 : 0 ≤ m / 16 % 5 := Int.emod_nonneg _ (by decide)
  have h2 : m / 16 % 5 < 5 := Int.emod_lt_of_pos _ (by decide)
  unfold fracU
  generalize m / 16 % 5 = j at *
  obtain ⟨i, rfl⟩ := Int.eq_ofNat_of_zero_le h1
  match i, h2 with
  | 0, _ => exact ⟨by decide, by decide, rfl⟩
  | 1, _ => exact ⟨by decide, by decide, rfl⟩
  | 2, _ => exact ⟨by decide, by decide, rfl⟩
  | 3, _ => exact ⟨by decide, by decide, rfl⟩
  | 4, _ => exact ⟨by decide, by decide, rfl⟩
  | n + 5, h => exact absurd h (by omega)
theorem rz_frac (m : Int) : Rz 4 (fracZ m) := by
  have h1 := Int.emod_nonneg m (show (13 : Int) ≠ 0 by decide)
  have h2 := Int.emod_lt_of_pos m (show (0 : Int) < 13 by decide)
  have h3 := fracU_in m
  exact Rz.mk (by omega) (by omega) h3.1
def vFracZ (ds : List D) (d : D) : Prop := ∃ m : Int, ds = [.int m] ∧ d = eF (fracZ m)
theorem sc__law_fraction : FnScope ["more"] ["more"] (defScope (top 37)) := ⟨rfl, rfl, rfl, by decide +kernel, rfl, by decide +kernel, by decide +kernel⟩
theorem fn__law_fraction (h : Hd K mg base) : Fn PR w K mg base "_law_fraction" 42 1 vFracZ noX := by
  obtain ⟨f, fd, F, hm⟩ := h.d__law_fraction
  refine fn_mk F sc__law_fraction hm (F.bindsN fun _ _ _ _ _ _ us hl => match us, hl with | [_], _ => rfl) h.ns rfl (by decide) rfl (fun cdv A outer s H E X hX gx hp ds hl => ?_)
  subst hX
  have nd := sc__law_fraction.nd
  refine ⟨fun d hv => ?_, fun c hc => hc.elim⟩
  obtain ⟨m, rfl, rfl⟩ := hv
  refine ss_one (s1_ret (ee_call (fn__law_made h) (gx.room.mono (by decide)) (ea_cons (ee_op (ee_op (ee_var 0) ee_int (od_mod (by decide))) ee_int od_sub)
    (ea_cons (ee_ix (ee_lst (ea_cons ee_int (ea_cons ee_int (ea_cons ee_int (ea_cons ee_int (ea_cons ee_int ea_nil)))))) (ee_op (ee_op (ee_var 0) ee_int (od_fdiv gx (by decide))) ee_int (od_mod (by decide))) (fracU_in m).2.2) ea_nil)) ⟨_, _, rfl, (fracU_in m).1, rfl⟩) rfl)
def polyAt (m : Int) (j : Nat) : Rat := if drawnZ m j % 4 = 0 then 0 else fracZ (drawnZ m j / 4)
def polyZ (m t : Int) : Poly := trim ((List.range (m % (t + 1)).toNat).map (polyAt m))
theorem polyZ_len (m : Int) {t : Int} (h : 0 ≤ t) : (polyZ m t).length ≤ t.toNat := by
  refine Nat.le_trans (trim_len _) ?_
  rw [List.length_map, List.length_range]
  have := Int.emod_lt_of_pos m (show 0 < t + 1 by omega)
  omega
theorem rz_polyAt (m : Int) (j : Nat) : Rz 4 (polyAt m j) := by
  unfold polyAt
  split
  · exact rz_zero.mono (by decide)
  · exact rz_frac _
theorem pz_polyZ (m t : Int) : PZ 4 (polyZ m t) := PZ.trim fun a ha => by
  obtain ⟨j, _, rfl⟩ := List.mem_map.mp ha
  exact rz_polyAt m j
theorem own_polyZ (m t : Int) : Own (polyZ m t) := own_trim _
def vPolyZ (ds : List D) (d : D) : Prop := ∃ m t : Int, ds = [.int m, .int t] ∧ m.natAbs < 2 ^ 1000 ∧ 0 ≤ t ∧ t ≤ 100 ∧ d = eP (polyZ m t)


theorem od_pow {X : Cx} {i j : Int} (h : CPow i j) : OpD X (binaryOp .Pow) (.int i) (.int j) (.int (i ^ j.toNat)) := opd_I op_pow h fun _ => .int _
theorem isPo_snoc0 (p : Poly) : isPo (eP (p ++ [0])) = false := by
  rw [isPo_eP]
  have : decide (Own (p ++ [0])) = false := decide_eq_false fun z => by
    rcases own_iff.mp z with h | h
    · simp at h
    · refine h ?_
      rw [List.length_append, coef_in (by simp)]
      simp
  rw [this, Bool.and_false]
def ones (n : Nat) : Poly := List.replicate n 1
theorem own_ones (n : Nat) : Own (ones n) := own_iff.mpr (by
  cases n with
  | zero => exact .inl rfl
  | succ n =>
    refine .inr ?_
    unfold ones
    rw [coef_in (by simp), List.getElem_replicate]
    decide)
theorem pz_ones (n : Nat) : PZ 4 (ones n) := fun q hq => by
  rw [(List.mem_replicate.mp hq).2]
  exact rz_one.mono (by decide)
theorem ones_len (n : Nat) : (ones n).length = n := List.length_replicate
theorem cz_polyZ (m t : Int) : CZ 6 (polyZ m t) := by
  have hf : ∀ z : Int, ∃ k : Int, k.natAbs < 2 ^ 6 ∧ fracZ z * ((6 : Int) : Rat) = (k : Rat) := fun z => by
    have h1 := Int.emod_nonneg z (show (13 : Int) ≠ 0 by decide)
    have h2 := Int.emod_lt_of_pos z (show (0 : Int) < 13 by decide)
    obtain ⟨u0, u1, _⟩ := fracU_in z
    unfold fracZ
    have hy1 : -6 ≤ z % 13 - 6 ∧ z % 13 - 6 ≤ 6 := by omega
    generalize z % 13 - 6 = y at *
    generalize fracU z = u at *
    have hu : u = 1 ∨ u = 2 ∨ u = 3 := by omega
    have e : mkRat y u = (y : Rat) / (u : Rat) := by rw [← Rat.divInt_ofNat, Rat.divInt_eq_div, Rat.intCast_natCast]
    rw [e]
    rcases hu with rfl | rfl | rfl
    · exact ⟨y * 6, by omega, by rw [Rat.intCast_mul]; grind⟩
    · exact ⟨y * 3, by omega, by rw [Rat.intCast_mul]; grind⟩
    · exact ⟨y * 2, by omega, by rw [Rat.intCast_mul]; grind⟩
  refine ⟨6, by decide, by decide, fun i => ?_⟩
  unfold polyZ
  rw [coef_trim, coef_map]
  have hz : ∃ k : Int, k.natAbs < 2 ^ 6 ∧ (0 : Rat) * ((6 : Int) : Rat) = (k : Rat) := ⟨0, by decide, by rw [Rat.zero_mul]; rfl⟩
  split
  · unfold polyAt
    split
    · exact hz
    · exact hf _
  · exact hz


/-! ### forms -/
theorem mkV_get {n i : Nat} (v : Vc) (h : i < n) : (mkV n v)[i]? = some (v i) := by
  unfold mkV
  rw [List.getElem?_map, List.getElem?_range h]
  rfl
theorem mkV_len (n : Nat) (v : Vc) : (mkV n v).length = n := by
  unfold mkV
  rw [List.length_map, List.length_range]
theorem mkF_len (n : Nat) (f : Mx) : (mkF n f).length = n := by
  unfold mkF
  rw [List.length_map, List.length_range]
theorem ix_vec {n i : Nat} (v : Vc) (h : i < n) : ixD (eP (mkV n v)) ((i : Nat) : Int) = some (eF (v i)) := atI_nat (by rw [List.getElem?_map, mkV_get v h]; rfl)
theorem ix_mat {n j : Nat} (f : Mx) (h : j < n) : ixD (eM (mkF n f)) ((j : Nat) : Int) = some (eP (mkV n (f j))) := atI_nat (by
  unfold mkF
  rw [List.getElem?_map, List.getElem?_map, List.getElem?_range h]
  rfl)
theorem eM_range (n : Nat) (f : Mx) : eM (mkF n f) = .list ((List.range n).map fun j => eP (mkV n (f j))) := by
  unfold eM mkF
  rw [List.map_map]
  rfl
theorem eP_range (n : Nat) (v : Vc) : eP (mkV n v) = .list ((List.range n).map fun j => eF (v j)) := by
  unfold eP mkV
  rw [List.map_map]
  rfl
def entD (rows : List (List D)) (j k : Nat) : D := (rows.getD j []).getD k .none
def rowsB (rows : List (List D)) : Bool := (decide ((1 : Int) ≤ (rows.length : Nat)) && decide ((rows.length : Nat) ≤ (6 : Int))) && (rows.map fun r => decide (((r.length : Nat) : Int) = (rows.length : Nat))).all id
def entB (rows : List (List D)) (j k : Nat) : Bool := isF (entD rows j k) && PyData.eqv (entD rows j k) (entD rows k j)
def FormOk (rows : List (List D)) : Prop := rowsB rows = true ∧ ∀ j, j < rows.length → ∀ k, k < rows.length → entB rows j k = true
structure ShRows (rows : List (List D)) : Prop where
  len : rows.length ≤ 100
  sh : ∀ r ∈ rows, ∀ e ∈ r, SeqAt.shaped e = true
def vForm (ds : List D) (d : D) : Prop := ∃ rows : List (List D), ds = [.list (rows.map .list)] ∧ ShRows rows ∧ FormOk rows ∧ d = .none
def xForm (K : PySem.W.Frag) (ds : List D) (c : Value) : Prop := ∃ rows : List (List D), ds = [.list (rows.map .list)] ∧ ShRows rows ∧ ¬ FormOk rows ∧ c = ec K "BadForm"
theorem rows_eq {rows : List (List D)} (h : rowsB rows = true) : 1 ≤ rows.length ∧ rows.length ≤ 6 ∧ ∀ r ∈ rows, r.length = rows.length := by
  unfold rowsB at h
  rw [Bool.and_eq_true, Bool.and_eq_true] at h
  obtain ⟨⟨h1, h2⟩, h3⟩ := h
  have h1 := of_decide_eq_true h1
  have h2 := of_decide_eq_true h2
  refine ⟨by omega, by omega, fun r hr => ?_⟩
  have := List.all_eq_true.mp h3 _ (List.mem_map.mpr ⟨r, hr, rfl⟩)
  have := of_decide_eq_true this
  omega
theorem ix_rows {rows : List (List D)} {j : Nat} (h : j < rows.length) : ixD (.list (rows.map .list)) ((j : Nat) : Int) = some (.list (rows.getD j [])) := atI_nat (by
  rw [List.getElem?_map, List.getD_eq_getElem?_getD, List.getElem?_eq_getElem h]
  rfl)
theorem ix_ent {rows : List (List D)} (hr : rowsB rows = true) {j k : Nat} (hj : j < rows.length) (hk : k < rows.length) : ixD (.list (rows.getD j [])) ((k : Nat) : Int) = some (entD rows j k) := atI_nat (by
  have h3 := (rows_eq hr).2.2
  unfold entD
  have e : rows.getD j [] = rows[j] := by
    rw [List.getD_eq_getElem?_getD, List.getElem?_eq_getElem hj]
    rfl
  rw [e, List.getElem?_eq_getElem (by rw [h3 _ (List.getElem_mem hj)]; exact hk), List.getD_eq_getElem?_getD, List.getElem?_eq_getElem (by rw [h3 _ (List.getElem_mem hj)]; exact hk)]
  rfl)
theorem sh_ent {rows : List (List D)} (hs : ShRows rows) (hr : rowsB rows = true) {j k : Nat} (hj : j < rows.length) (hk : k < rows.length) : SeqAt.shaped (entD rows j k) = true := by
  have h3 := (rows_eq hr).2.2
  unfold entD
  have e : rows.getD j [] = rows[j] := by
    rw [List.getD_eq_getElem?_getD, List.getElem?_eq_getElem hj]
    rfl
  have hk' : k < rows[j].length := by rw [h3 _ (List.getElem_mem hj)]; exact hk
  rw [e, List.getD_eq_getElem?_getD, List.getElem?_eq_getElem hk']
  exact hs.sh _ (List.getElem_mem hj) _ (List.getElem_mem hk')
theorem sc_need_form : FnScope ["form", "many", "row", "j", "k"] ["form"] (defScope (top 18)) := ⟨rfl, rfl, rfl, by decide +kernel, rfl, by decide +kernel, by decide +kernel⟩
theorem fn_need_form (h : Hd K mg base) : Fn PR w K mg base "need_form" 46 1 vForm (xForm K) := by
  obtain ⟨f, fd, F, hm⟩ := h.d_need_form
  refine fn_mk F sc_need_form hm (F.bindsN fun _ _ _ _ _ _ us hl => match us, hl with | [_], _ => rfl) h.ns rfl (by decide) rfl (fun cdv A outer s H E X hX gx hp ds hl => ?_)
  subst hX
  have nd := sc_need_form.nd
  have main : ∀ rows : List (List D), ShRows rows → ∀ P : Po, (FormOk rows → ∀ γ, P.nx γ) → (¬ FormOk rows → P.rz (ec K "BadForm")) → SS Same (cxOf (L2N.CX PR w) PR w K mg base _ "need_form" (defScope (top 18)) f cdv A outer s H E) [.dat (.list (rows.map .list)), .no, .no, .no, .no] (defBody (top 18)) P := fun rows hs P h1 h2 => by
    have hl := hs.len
    refine ss_cons (s1_set 1 (ee_lenC (ee_var 0 rfl) h.b_len) ?_ nd)
    refine ss_midT (fun γ => γ = [.dat (.list (rows.map .list)), .dat (.int (rows.length : Nat)), .no, .no, .no] ∧ rowsB rows = true) (s1_if (et_is (ew_et (ew_or (et_not (et_chain ee_int (ee_var 1 rfl) (ee_glob h.k_MOST_ROWS) od_le od_le)) (fun _ => ew_or1 (et_not (et_val (ee_all (bs := rows.map fun r => decide (((r.length : Nat) : Int) = (rows.length : Nat))) (ee_is (ef_ee (ef_mapA "row" 2 (rows) (PyData.list) (fun r => .bool (decide (((r.length : Nat) : Int) = (rows.length : Nat)))) rfl nd (ei_is (ei_list (ee_var 0 rfl)) (rfl)) (blkOk_by (own := [("row", 2)]) (N := ["form", "many", "row", "j", "k"]) (sc := defScope (top 18)) (by decide +kernel)) (fun _ _ _ _ _ => pg_name (i := 2) nd rfl (Or.inl rfl)) (fun es z => by simp at z) ?_ (by omega))) (by rw [List.map_map]; rfl)) rfl h.b_all)))))) (b' := !rowsB rows) (by unfold rowsB; exact (Bool.not_and _ _).symm)) (fun hk => ?_) (fun hk => ss_nil ⟨rfl, by simpa using hk⟩)) (fun γ hI => ?_)
    · intro r hr s1 H1 C1 cl1 fp1
      exact ee_cmp (ee_len (ee_var 2 rfl) (n := r.length) rfl h.b_len) (ee_var 1 rfl) (od_eqI gx.blk) (nomark _)
    · refine ss_one (s1_raise h.e_BadForm (h2 fun z => ?_) rfl)
      rw [z.1] at hk
      cases hk
    obtain ⟨rfl, hr⟩ := hI
    obtain ⟨r1, r6, r3⟩ := rows_eq hr
    refine ss_one (s1_for (fun i γ => ∃ a b, γ = [.dat (.list (rows.map .list)), .dat (.int (rows.length : Nat)), .no, a, b] ∧ (∀ z, a ≠ .own z) ∧ (∀ z, b ≠ .own z) ∧ ∀ j, j < i → ∀ k, k < rows.length → entB rows j k = true) (ei_range1 (ee_var 1 rfl) (by omega) h.b_range) ⟨.no, .no, rfl, noO, noO, fun j hj => absurd hj (Nat.not_lt_zero j)⟩ (fun i d γ hd hI => ?_) (fun γ hI => ?_) hp rfl)
    · obtain ⟨a, b, rfl, na, nb, hg⟩ := hI
      obtain ⟨hi, rfl⟩ := rangeD_get hd
      have hi : i < rows.length := by omega
      refine ⟨_, eg_name (i := 3) nd, ?_⟩
      refine ss_one (s1_for (fun i2 γ => ∃ b, γ = [.dat (.list (rows.map .list)), .dat (.int (rows.length : Nat)), .no, .dat (.int (i : Nat)), b] ∧ (∀ z, b ≠ .own z) ∧ ∀ k, k < i2 → entB rows i k = true) (ei_range1 (ee_var 1 rfl) (by omega) h.b_range) ⟨b, rfl, nb, fun j hj => absurd hj (Nat.not_lt_zero j)⟩ (fun i2 d γ hd hI => ?_) (fun γ hI => ?_) hp rfl)
      · obtain ⟨b, rfl, nb, hg2⟩ := hI
        obtain ⟨hi2, rfl⟩ := rangeD_get hd
        have hi2 : i2 < rows.length := by omega
        refine ⟨_, eg_name (i := 4) nd, ?_⟩
        refine ss_one (s1_if (et_is (ew_et (ew_or (et_not (et_val (ee_call (fn_is_fraction h) (gx.room.mono (by decide)) (ea_cons (ee_ix (ee_ix (ee_var 0 rfl) (ee_var 3 rfl) (ix_rows hi)) (ee_var 4 rfl) (ix_ent hr hi hi2)) ea_nil) ⟨_, rfl, rfl⟩))) (fun hk1 => (ew_or1 (et_cmp (ee_ix (ee_ix (ee_var 0 rfl) (ee_var 3 rfl) (ix_rows hi)) (ee_var 4 rfl) (ix_ent hr hi hi2)) (ee_ix (ee_ix (ee_var 0 rfl) (ee_var 4 rfl) (ix_rows hi2)) (ee_var 3 rfl) (ix_ent hr hi2 hi)) (od_ne gx (sh_ent hs hr hi hi2) (sh_ent hs hr hi2 hi)) (nomark _)))))) (b' := !entB rows i i2) (by unfold entB; exact (Bool.not_and _ _).symm)) (fun hk => ?_) (fun hk => ss_nil ?_))
        · refine ss_one (s1_raise h.e_BadForm (h2 fun z => ?_) rfl)
          rw [z.2 i hi i2 hi2] at hk
          cases hk
        · refine ⟨.dat (.int (i2 : Nat)), rfl, datO, fun k hk2 => ?_⟩
          by_cases e : k = i2
          · rw [e]; simpa using hk
          · exact hg2 k (by omega)
      · obtain ⟨b, rfl, nb, hg2⟩ := hI
        rw [show (rangeD 0 ((rows.length : Nat) : Int).toNat).length = rows.length by simp [rangeD]] at hg2
        refine ⟨.dat (.int (i : Nat)), b, rfl, datO, nb, fun j hj k hk => ?_⟩
        by_cases e : j = i
        · rw [e]; exact hg2 k hk
        · exact hg j (by omega) k hk
    · obtain ⟨a, b, rfl, na, nb, hg⟩ := hI
      rw [show (rangeD 0 ((rows.length : Nat) : Int).toNat).length = rows.length by simp [rangeD]] at hg
      have hok : FormOk rows := ⟨hr, hg⟩
      exact h1 hok _
  refine ⟨fun d hv => ?_, fun c hc => ?_⟩
  · obtain ⟨rows, rfl, hs, hok, rfl⟩ := hv
    exact main rows hs _ (fun _ γ => rfl) (fun z => absurd hok z)
  · obtain ⟨rows, rfl, hs, hno, rfl⟩ := hc
    exact main rows hs _ (fun z => absurd z hno) (fun _ => rfl)


theorem eM_rows (n : Nat) (f : Mx) : eM (mkF n f) = .list (((mkF n f).map fun r => r.map eF).map .list) := by
  unfold eM
  rw [List.map_map]
  rfl
theorem mkF_get {n j : Nat} (f : Mx) (h : j < n) : (mkF n f)[j]? = some (mkV n (f j)) := by
  unfold mkF
  rw [List.getElem?_map, List.getElem?_range h]
  rfl
theorem ent_mk {n j k : Nat} (f : Mx) (hj : j < n) (hk : k < n) : entD ((mkF n f).map fun r => r.map eF) j k = eF (f j k) := by
  unfold entD
  have e : ((mkF n f).map fun r => r.map eF).getD j [] = (mkV n (f j)).map eF := by
    rw [List.getD_eq_getElem?_getD, List.getElem?_map, mkF_get f hj]
    rfl
  rw [e]
  rw [List.getD_eq_getElem?_getD, List.getElem?_map, mkV_get _ hk]
  rfl
theorem form_v {n : Nat} {f : Mx} (h1 : 1 ≤ n) (h6 : n ≤ 6) (hs : Sym n f) : vForm [eM (mkF n f)] .none := by
  refine ⟨(mkF n f).map fun r => r.map eF, by rw [eM_rows], ⟨by rw [List.length_map, mkF_len]; omega, fun r hr e he => ?_⟩, ⟨?_, fun j hj k hk => ?_⟩, rfl⟩
  · obtain ⟨v, hv, rfl⟩ := List.mem_map.mp hr
    obtain ⟨q, _, rfl⟩ := List.mem_map.mp he
    exact (sh_eF q).ok1
  · unfold rowsB
    rw [List.length_map, mkF_len, decide_eq_true (show (1 : Int) ≤ ((n : Nat) : Int) by omega), decide_eq_true (show ((n : Nat) : Int) ≤ 6 by omega)]
    refine List.all_eq_true.mpr fun b hb => ?_
    obtain ⟨r, hr, rfl⟩ := List.mem_map.mp hb
    obtain ⟨v, hv, rfl⟩ := List.mem_map.mp hr
    unfold mkF at hv
    obtain ⟨j, _, rfl⟩ := List.mem_map.mp hv
    rw [List.length_map, mkV_len]
    exact decide_eq_true rfl
  · rw [List.length_map, mkF_len] at hj hk
    unfold entB
    rw [ent_mk f hj hk, ent_mk f hk hj, isF_eF, eqv_eF, decide_eq_true (hs j hj k hk)]
    rfl
def vDot (ds : List D) (d : D) : Prop := ∃ (n s t : Nat) (a b : Vc), ds = [eP (mkV n a), eP (mkV n b)] ∧ CV s n a ∧ CV t n b ∧ n ≤ 7 ∧ 2 * (s + t) + 10 ≤ LIM ∧ d = eF (dotN n a b)
theorem sc_dot : FnScope ["some", "others", "found", "one", "other"] ["some", "others"] (defScope (top 19)) := ⟨rfl, rfl, rfl, by decide +kernel, rfl, by decide +kernel, by decide +kernel⟩
theorem fn_dot (h : Hd K mg base) : Fn PR w K mg base "dot" 46 2 vDot noX := by
  obtain ⟨f, fd, F, hm⟩ := h.d_dot
  refine fn_mk F sc_dot hm (F.bindsN fun _ _ _ _ _ _ us hl => match us, hl with | [_, _], _ => rfl) h.ns rfl (by decide) rfl (fun cdv A outer s H E X hX gx hp ds hl => ?_)
  subst hX
  have nd := sc_dot.nd
  refine ⟨fun d hv => ?_, fun c hc => hc.elim⟩
  obtain ⟨n, s', t', a, b, rfl, ha, hb, hn, hl, rfl⟩ := hv
  refine ss_cons (s1_set 2 (ee_glob h.k_NOUGHT) ?_ nd)
  refine ss_cons (s1_for (fun i γ => ∃ x y, γ = [.dat (eP (mkV n a)), .dat (eP (mkV n b)), .dat (eF (dotN i a b)), x, y] ∧ (∀ z, x ≠ .own z) ∧ ∀ z, y ≠ .own z) (ei_zip (ee_var 0 rfl) (ee_var 1 rfl) h.b_zip) ⟨.no, .no, rfl, noO, noO⟩ (fun i d γ hd hI => ?_) (fun γ hI => ?_) hp rfl)
  · obtain ⟨x, y, rfl, nx, ny⟩ := hI
    obtain ⟨u, v, hu, hv, rfl⟩ := zipD_get hd
    have hi : i < n := by
      have := (List.getElem?_eq_some_iff.mp hu).1
      rwa [List.length_map, mkV_len] at this
    rw [List.getElem?_map, mkV_get _ hi] at hu hv
    cases hu
    cases hv
    refine ⟨_, eg_pair (i := 3) (j := 4) rfl nd (ho := fun es z => nx es (by simpa using z)), ?_⟩
    have z1 := ha.rz hi
    have z2 := hb.rz hi
    have z3 := dot_rz ha hb (Nat.le_of_lt hi) hn
    refine ss_one (s1_set 2 (ee_call (fn_plus h) (gx.room.mono (by decide)) (ea_cons (ee_var 2 rfl) (ea_cons (ee_call (fn_times h) (gx.room.mono (by decide)) (ea_cons (ee_var 3 rfl) (ea_cons (ee_var 4 rfl) ea_nil)) (⟨_, _, _, _, rfl, z1, z2, by omega, rfl⟩)) ea_nil)) (⟨_, _, _, _, rfl, z3, z1.mul z2, by omega, rfl⟩)) ?_ nd)
    exact ⟨.dat (eF (a i)), .dat (eF (b i)), rfl, datO, datO⟩
  · obtain ⟨x, y, rfl, nx, ny⟩ := hI
    refine ss_one (s1_ret (ee_var 2 rfl) ?_)
    rw [zipD_len, List.length_map, List.length_map, mkV_len, mkV_len, Nat.min_self]
def vWorthAt (ds : List D) (d : D) : Prop := ∃ (n s t : Nat) (f : Mx) (x : Vc), ds = [eM (mkF n f), eP (mkV n x)] ∧ FZ s n f ∧ CV t n x ∧ n ≤ 7 ∧ 4 * (s + t) + 30 ≤ LIM ∧ d = eF (quad n f x)
theorem sc_worth_at : FnScope ["form", "point", "row"] ["form", "point"] (defScope (top 20)) := ⟨rfl, rfl, rfl, by decide +kernel, rfl, by decide +kernel, by decide +kernel⟩
theorem fn_worth_at (h : Hd K mg base) : Fn PR w K mg base "worth_at" 47 2 vWorthAt noX := by
  obtain ⟨f, fd, F, hm⟩ := h.d_worth_at
  refine fn_mk F sc_worth_at hm (F.bindsN fun _ _ _ _ _ _ us hl => match us, hl with | [_, _], _ => rfl) h.ns rfl (by decide) rfl (fun cdv A outer s H E X hX gx hp ds hl => ?_)
  subst hX
  have nd := sc_worth_at.nd
  refine ⟨fun d hv => ?_, fun c hc => hc.elim⟩
  obtain ⟨n, s', t', f', x, rfl, hf, hx, hn, hl, rfl⟩ := hv
  have hr := rows_cv hf hx hn
  refine ss_one (s1_ret (ee_call (fn_dot h) (gx.room.mono (by decide)) (ea_cons (ee_is (ef_ee (ef_mapA "row" 2 (List.range n) (fun j => eP (mkV n (f' j))) (fun j => eF (dotN n (f' j) x)) rfl nd (ei_is (ei_list (ee_var 0 rfl)) (by unfold mkF; rw [List.map_map]; rfl)) (blkOk_by (own := [("row", 2)]) (N := ["form", "point", "row"]) (sc := defScope (top 20)) (by decide +kernel)) (fun _ _ _ _ _ => pg_name (i := 2) nd rfl (Or.inl rfl)) (fun es z => nomatch z) ?_ (by rw [List.length_range]; omega))) (eP_range n fun j => dotN n (f' j) x).symm) (ea_cons (ee_var 1 rfl) ea_nil)) ⟨n, _, _, _, _, rfl, hr, hx, hn, by omega, rfl⟩) rfl)
  intro j hj s1 H1 C1 cl1 fp1
  exact (ee_call (fn_dot h) (gx.room.mono (by decide)) (ea_cons (ee_var 2 rfl) (ea_cons (ee_var 1 rfl) ea_nil)) (⟨n, _, _, _, _, rfl, hf.row (List.mem_range.mp hj), hx, hn, by omega, rfl⟩))
def vFormW (ds : List D) (d : D) : Prop := ∃ (n s t : Nat) (f : Mx) (x : Vc), ds = [eM (mkF n f), eP (mkV n x)] ∧ 1 ≤ n ∧ n ≤ 6 ∧ Sym n f ∧ FZ s n f ∧ CV t n x ∧ 4 * (s + t) + 30 ≤ LIM ∧ d = eF (quad n f x)
def xForm1 (K : PySem.W.Frag) (ds : List D) (c : Value) : Prop := ∃ x y, ds = [x, y] ∧ xForm K [x] c
theorem sc_form_worth : FnScope ["form", "point"] ["form", "point"] (defScope (top 21)) := ⟨rfl, rfl, rfl, by decide +kernel, rfl, by decide +kernel, by decide +kernel⟩
theorem fn_form_worth (h : Hd K mg base) : Fn PR w K mg base "form_worth" 48 2 vFormW (xForm1 K) := by
  obtain ⟨f, fd, F, hm⟩ := h.d_form_worth
  refine fn_mk F sc_form_worth hm (F.bindsN fun _ _ _ _ _ _ us hl => match us, hl with | [_, _], _ => rfl) h.ns rfl (by decide) rfl (fun cdv A outer s H E X hX gx hp ds hl => ?_)
  subst hX
  have nd := sc_form_worth.nd
  refine ⟨fun d hv => ?_, fun c hc => ?_⟩
  · obtain ⟨n, s', t', f', x, rfl, h1, h6, hs, hf, hx, hl, rfl⟩ := hv
    refine ss_cons (s1_expr (ee_call (fn_need_form h) (gx.room.mono (by decide)) (ea_cons (ee_var 0 rfl) ea_nil) (form_v h1 h6 hs)) ?_)
    exact ss_one (s1_ret (ee_call (fn_worth_at h) (gx.room.mono (by decide)) (ea_cons (ee_var 0 rfl) (ea_cons (ee_var 1 rfl) ea_nil)) (⟨n, s', t', f', x, rfl, hf, hx, by omega, hl, rfl⟩)) rfl)
  · obtain ⟨x, y, rfl, hx⟩ := hc
    exact ss_cons (s1_raises (fn_need_form h) (gx.room.mono (by decide)) (ea_cons (ee_var 0 rfl) ea_nil) hx rfl)
/-! a square taken off -/
def vLess2 (ds : List D) (d : D) : Prop := ∃ (n s t : Nat) (f : Mx) (w' : Rat) (l : Vc), ds = [eM (mkF n f), eF w', eP (mkV n l)] ∧ (∀ j, j < n → ∀ k, k < n → Rz s (f j k)) ∧ Rz t w' ∧ (∀ j, j < n → Rz t (l j)) ∧ n ≤ 7 ∧ s + 3 * t + 10 ≤ LIM ∧ d = eM (mkF n (lsq f w' l))
theorem sc_less_square : FnScope ["form", "weight", "line", "places", "j", "k"] ["form", "weight", "line"] (defScope (top 22)) := ⟨rfl, rfl, rfl, by decide +kernel, rfl, by decide +kernel, by decide +kernel⟩
theorem fn_less_square (h : Hd K mg base) : Fn PR w K mg base "less_square" 46 3 vLess2 noX := by
  obtain ⟨f, fd, F, hm⟩ := h.d_less_square
  refine fn_mk F sc_less_square hm (F.bindsN fun _ _ _ _ _ _ us hl => match us, hl with | [_, _, _], _ => rfl) h.ns rfl (by decide) rfl (fun cdv A outer s H E X hX gx hp ds hl => ?_)
  subst hX
  have nd := sc_less_square.nd
  refine ⟨fun d hv => ?_, fun c hc => hc.elim⟩
  obtain ⟨n, s', t', f', w', l, rfl, hf, hw, hlz, hn, hl, rfl⟩ := hv
  have el : ((mkF n f').length : Int) = (n : Nat) := by rw [mkF_len]
  refine ss_cons (s1_set 3 (ee_is (ef_ee (ef_listRg (ee_len (ee_var 0 rfl) (n := n) (by show some _ = some _; rw [List.length_map, mkF_len]) h.b_len) (by omega) h.b_list h.b_range rfl)) (show _ = PyData.list ((List.range n).map fun i : Nat => PyData.int (i : Nat)) by unfold rangeD; simp)) ?_ nd)
  refine ss_one (s1_ret (ee_is (ef_ee (ef_mapA "j" 4 (List.range n) (fun i : Nat => PyData.int (i : Nat)) (fun j => eP (mkV n (lsq f' w' l j))) rfl nd (ei_is (ei_list (ee_var 3 rfl)) (rfl)) (blkOk_by (own := [("j", 4)]) (N := ["form", "weight", "line", "places", "j", "k"]) (sc := defScope (top 22)) (by decide +kernel)) (fun _ _ _ _ _ => pg_name (i := 4) nd rfl (Or.inr rfl)) (fun es z => nomatch z) ?_ (by rw [List.length_range]; omega))) (eM_range n (lsq f' w' l)).symm) rfl)
  intro j hj s1 H1 C1 cl1 fp1
  have hj := List.mem_range.mp hj
  refine ee_is (ef_ee (ef_mapA "k" 5 (List.range n) (fun i : Nat => PyData.int (i : Nat)) (fun k => eF (lsq f' w' l j k)) rfl nd (ei_is (ei_list (ee_var 3 rfl)) (rfl)) (blkOk_by (own := [("k", 5)]) rfl) (fun _ _ _ _ _ => pg_name (i := 5) nd rfl (Or.inl rfl)) (fun es z => by simp at z) ?_ (by rw [List.length_range]; omega))) (eP_range n (lsq f' w' l j)).symm
  intro k hk s2 H2 C2 cl2 fp2
  have hk := List.mem_range.mp hk
  have z1 := (hlz j hj).mul (hlz k hk)
  have z2 := hw.mul z1
  exact (ee_call (fn_minus h) (gx.room.mono (by decide)) (ea_cons (ee_ix (ee_ix (ee_var 0 rfl) (ee_var 4 rfl) (ix_mat f' hj)) (ee_var 5 rfl) (ix_vec _ hk)) (ea_cons (ee_call (fn_times h) (gx.room.mono (by decide)) (ea_cons (ee_var 1 rfl) (ea_cons (ee_call (fn_times h) (gx.room.mono (by decide)) (ea_cons (ee_ix (ee_var 2 rfl) (ee_var 4 rfl) (ix_vec l hj)) (ea_cons (ee_ix (ee_var 2 rfl) (ee_var 5 rfl) (ix_vec l hk)) ea_nil)) (⟨_, _, _, _, rfl, hlz j hj, hlz k hk, by omega, rfl⟩)) ea_nil)) (⟨_, _, _, _, rfl, hw, z1, by omega, rfl⟩)) ea_nil)) (⟨_, _, _, _, rfl, hf j hj k hk, z2, by omega, rfl⟩))


theorem num_lt0 {q : Rat} : q.num < 0 ↔ q < 0 := by
  have h := num_lt (q := -q)
  rw [Rat.neg_num] at h
  constructor
  · intro z
    have := h.mp (by omega)
    grind
  · intro z
    have := h.mpr (by grind)
    omega
def vUnit (ds : List D) (d : D) : Prop := ∃ n p : Nat, ds = [.int (n : Nat), .int (p : Nat)] ∧ n ≤ 7 ∧ d = eP (mkV n (unitV p))
theorem rangeD_map (n : Nat) : rangeD 0 ((n : Nat) : Int).toNat = (List.range n).map fun i : Nat => PyData.int (i : Nat) := by
  unfold rangeD
  simp
theorem sc_unit : FnScope ["many", "place", "at"] ["many", "place"] (defScope (top 24)) := ⟨rfl, rfl, rfl, by decide +kernel, rfl, by decide +kernel, by decide +kernel⟩
theorem fn_unit (h : Hd K mg base) : Fn PR w K mg base "unit" 42 2 vUnit noX := by
  obtain ⟨f, fd, F, hm⟩ := h.d_unit
  refine fn_mk F sc_unit hm (F.bindsN fun _ _ _ _ _ _ us hl => match us, hl with | [_, _], _ => rfl) h.ns rfl (by decide) rfl (fun cdv A outer s H E X hX gx hp ds hl => ?_)
  subst hX
  have nd := sc_unit.nd
  refine ⟨fun d hv => ?_, fun c hc => hc.elim⟩
  obtain ⟨n, p, rfl, hn, rfl⟩ := hv
  refine ss_one (s1_ret (ee_is (ef_ee (ef_mapA "at" 2 (List.range n) (fun i : Nat => PyData.int (i : Nat)) (fun i => eF (unitV p i)) rfl nd (ei_is (ei_range1 (ee_var 0 rfl) (by omega) h.b_range) (rangeD_map n)) (blkOk_by (own := [("at", 2)]) (N := ["many", "place", "at"]) (sc := defScope (top 24)) (by decide +kernel)) (fun _ _ _ _ _ => pg_name (i := 2) nd rfl (Or.inl rfl)) (fun es z => nomatch z) ?_ (by rw [List.length_range]; omega))) (eP_range n (unitV p)).symm) rfl)
  intro i hi s1 H1 C1 cl1 fp1
  unfold unitV
  by_cases e : i = p
  · rw [if_pos e]
    exact ee_if (et_is (et_cmp (ee_var 2 rfl) (ee_var 1 rfl) (od_eqC gx.blk) (nomark _)) (b' := true) (decide_eq_true (by omega))) (fun _ => (ee_glob h.k_ONE)) (fun z => nomatch z)
  · rw [if_neg e]
    exact ee_if (et_is (et_cmp (ee_var 2 rfl) (ee_var 1 rfl) (od_eqC gx.blk) (nomark _)) (b' := false) (decide_eq_false (by omega))) (fun z => nomatch z) (fun _ => (ee_glob h.k_NOUGHT))
def vLowP (ds : List D) (d : D) : Prop := ∃ (n s : Nat) (f : Mx), ds = [eM (mkF n f)] ∧ FZ s n f ∧ n ≤ 7 ∧ 3 * s + 20 ≤ LIM ∧ ((d = .none ∧ ∀ q, q < n → NoLow n f q) ∨ ∃ p x, p < n ∧ (∀ q, q < p → NoLow n f q) ∧ LowV n f p x ∧ d = eP (mkV n x))
theorem sc_low_point : FnScope ["form", "many", "place", "other", "share", "at"] ["form"] (defScope (top 25)) := ⟨rfl, rfl, rfl, by decide +kernel, rfl, by decide +kernel, by decide +kernel⟩
theorem fn_low_point (h : Hd K mg base) : Fn PR w K mg base "low_point" 46 1 vLowP noX := by
  obtain ⟨f, fd, F, hm⟩ := h.d_low_point
  refine fn_mk F sc_low_point hm (F.bindsN fun _ _ _ _ _ _ us hl => match us, hl with | [_], _ => rfl) h.ns rfl (by decide) rfl (fun cdv A outer s H E X hX gx hp ds hl => ?_)
  subst hX
  have nd := sc_low_point.nd
  refine ⟨fun d hv => ?_, fun c hc => hc.elim⟩
  obtain ⟨n, s', f', rfl, hz, hn, hl, hd⟩ := hv
  refine ss_cons (s1_set 1 (ee_len (ee_var 0 rfl) (n := n) (by show some _ = some _; rw [List.length_map, mkF_len]) h.b_len) ?_ nd)
  -- a place at which nothing is below
  refine ss_cons (s1_for (fun i γ => ∃ a b c e, γ = [.dat (eM (mkF n f')), .dat (.int (n : Nat)), a, b, c, e] ∧ (∀ z, a ≠ .own z) ∧ (∀ z, b ≠ .own z) ∧ (∀ z, c ≠ .own z) ∧ (∀ z, e ≠ .own z) ∧ ∀ p x, p < n → (∀ q, q < p → NoLow n f' q) → LowV n f' p x → d = eP (mkV n x) → i ≤ p) (ei_range1 (ee_var 1 rfl) (by omega) h.b_range) ⟨.no, .no, .no, .no, rfl, noO, noO, noO, noO, fun _ _ _ _ _ _ => Nat.zero_le _⟩ (fun i dd γ hd2 hI => ?_) (fun γ hI => ?_) hp rfl)
  · obtain ⟨a, b, c, e, rfl, na, nb, nc, ne, hle⟩ := hI
    obtain ⟨hi, rfl⟩ := rangeD_get hd2
    have hi : i < n := by omega
    refine ⟨_, eg_name (i := 2) nd, ?_⟩
    have hix := ix_mat f' hi
    have hix2 := ix_vec (f' i) hi
    have hzi := hz.rz hi hi
    rcases low_or n f' i with hno | ⟨x, hx⟩
    · -- nothing here
      have hnx : ∀ p x, p < n → (∀ q, q < p → NoLow n f' q) → LowV n f' p x → d = eP (mkV n x) → i + 1 ≤ p := fun p x h1 h2 h3 h4 => by
        have h5 := hle p x h1 h2 h3 h4
        by_cases z : p = i
        · rw [z] at h3
          rcases hno with w | w
          · rcases h3 with y | y
            · exact absurd y.1 (by grind)
            · rw [y.1] at w
              exact absurd w (by decide)
          · rcases h3 with y | ⟨_, o, y1, _, y2, _⟩
            · rw [w.1] at y
              exact absurd y.1 (by decide)
            · exact absurd (w.2 o y1) y2
        · omega
      have h0 : ¬ f' i i < 0 := by
        rcases hno with w | w
        · grind
        · rw [w.1]; decide
      refine ss_keep (s1_if (et_is (et_cmp (ee_ix (ee_ix (ee_ix (ee_var 0 rfl) (ee_var 2 rfl) (hix)) (ee_var 2 rfl) (hix2)) ee_int rfl) ee_int od_lt (nomark _)) (b' := false) (decide_eq_false fun z => h0 (num_lt0.mp z))) (fun z => nomatch z) (fun _ => ss_nil rfl)) ?_
      by_cases hz0 : f' i i = 0
      · have hall : ∀ o, o < n → f' i o = 0 := by
          rcases hno with w | w
          · rw [hz0] at w
            exact absurd w (by decide)
          · exact w.2
        refine ss_one (s1_if (et_is (et_cmp (ee_ix (ee_ix (ee_var 0 rfl) (ee_var 2 rfl) (hix)) (ee_var 2 rfl) (hix2)) (ee_glob h.k_NOUGHT) (od_eqC gx) (nomark _)) (b' := true) (decide_eq_true hz0)) (fun _ => ?_) (fun z => nomatch z))
        refine ss_one (s1_for (fun _ γ => ∃ b, γ = [.dat (eM (mkF n f')), .dat (.int (n : Nat)), .dat (.int (i : Nat)), b, c, e] ∧ ∀ z, b ≠ .own z) (ei_range1 (ee_var 1 rfl) (by omega) h.b_range) ⟨b, rfl, nb⟩ (fun i2 dd γ hd3 hI => ?_) (fun γ hI => ?_) hp rfl)
        · obtain ⟨b, rfl, nb⟩ := hI
          obtain ⟨hi2, rfl⟩ := rangeD_get hd3
          have hi2 : i2 < n := by omega
          refine ⟨_, eg_name (i := 3) nd, ?_⟩
          exact ss_one (s1_if (et_is (et_cmp (ee_ix (ee_ix (ee_var 0 rfl) (ee_var 2 rfl) (hix)) (ee_var 3 rfl) (ix_vec (f' i) hi2)) (ee_glob h.k_NOUGHT) (od_neC gx) (nomark _)) (b' := false) (by rw [decide_eq_true (hall i2 hi2)]; rfl)) (fun z => nomatch z) (fun _ => ss_nil ⟨_, rfl, datO⟩))
        · obtain ⟨b, rfl, nb⟩ := hI
          exact ⟨_, b, c, e, rfl, datO, nb, nc, ne, hnx⟩
      · exact ss_one (s1_if (et_is (et_cmp (ee_ix (ee_ix (ee_var 0 rfl) (ee_var 2 rfl) (hix)) (ee_var 2 rfl) (hix2)) (ee_glob h.k_NOUGHT) (od_eqC gx) (nomark _)) (b' := false) (decide_eq_false hz0)) (fun z => nomatch z) (fun _ => ss_nil ⟨_, b, c, e, rfl, datO, nb, nc, ne, hnx⟩))
    · -- it is here
      have hdx : d = eP (mkV n x) := by
        rcases hd with ⟨_, h2⟩ | ⟨p, y, h1, h2, h3, h4⟩
        · rcases h2 i hi with w | w
          · rcases hx with y | y
            · exact absurd y.1 (by grind)
            · rw [y.1] at w
              exact absurd w (by decide)
          · rcases hx with y | ⟨_, o, y1, _, y2, _⟩
            · rw [w.1] at y
              exact absurd y.1 (by decide)
            · exact absurd (w.2 o y1) y2
        · have h5 := hle p y h1 h2 h3 h4
          have h6 : ¬ i < p := fun z => by
            rcases h2 i z with w | w
            · rcases hx with y | y
              · exact absurd y.1 (by grind)
              · rw [y.1] at w
                exact absurd w (by decide)
            · rcases hx with y | ⟨_, o, y1, _, y2, _⟩
              · rw [w.1] at y
                exact absurd y.1 (by decide)
              · exact absurd (w.2 o y1) y2
          have h7 : p = i := by omega
          subst h7
          rw [h4]
          congr 2
          rcases hx with ⟨a1, rfl⟩ | ⟨a1, o, o1, o2, o3, rfl⟩
          · rcases h3 with ⟨b1, rfl⟩ | ⟨b1, _⟩
            · rfl
            · rw [b1] at a1
              exact absurd a1 (by decide)
          · rcases h3 with ⟨b1, _⟩ | ⟨b1, o', p1, p2, p3, rfl⟩
            · rw [a1] at b1
              exact absurd b1 (by decide)
            · have : o = o' := by
                rcases Nat.lt_trichotomy o o' with z | z | z
                · exact absurd (p2 o z) o3
                · exact z
                · exact absurd (o2 o' z) p3
              rw [this]
      rw [hdx]
      rcases hx with ⟨a1, rfl⟩ | ⟨a1, o, o1, o2, o3, rfl⟩
      · exact ss_cons (s1_if (et_is (et_cmp (ee_ix (ee_ix (ee_ix (ee_var 0 rfl) (ee_var 2 rfl) (hix)) (ee_var 2 rfl) (hix2)) ee_int rfl) ee_int od_lt (nomark _)) (b' := true) (decide_eq_true (num_lt0.mpr a1))) (fun _ => ss_one (s1_ret (ee_call (fn_unit h) (gx.room.mono (by decide)) (ea_cons (ee_var 1 rfl) (ea_cons (ee_var 2 rfl) ea_nil)) (⟨n, i, rfl, hn, rfl⟩)) rfl)) (fun z => nomatch z))
      · refine ss_keep (s1_if (et_is (et_cmp (ee_ix (ee_ix (ee_ix (ee_var 0 rfl) (ee_var 2 rfl) (hix)) (ee_var 2 rfl) (hix2)) ee_int rfl) ee_int od_lt (nomark _)) (b' := false) (by rw [a1]; rfl)) (fun z => nomatch z) (fun _ => ss_nil rfl)) ?_
        refine ss_one (s1_if (et_is (et_cmp (ee_ix (ee_ix (ee_var 0 rfl) (ee_var 2 rfl) (hix)) (ee_var 2 rfl) (hix2)) (ee_glob h.k_NOUGHT) (od_eqC gx) (nomark _)) (b' := true) (decide_eq_true a1)) (fun _ => ?_) (fun z => nomatch z))
        refine ss_one (s1_for (fun i2 γ => i2 ≤ o ∧ ∃ b, γ = [.dat (eM (mkF n f')), .dat (.int (n : Nat)), .dat (.int (i : Nat)), b, c, e] ∧ ∀ z, b ≠ .own z) (ei_range1 (ee_var 1 rfl) (by omega) h.b_range) ⟨Nat.zero_le _, b, rfl, nb⟩ (fun i2 dd γ hd3 hI => ?_) (fun γ hI => ?_) hp rfl)
        · obtain ⟨hio, b, rfl, nb⟩ := hI
          obtain ⟨hi2, rfl⟩ := rangeD_get hd3
          have hi2 : i2 < n := by omega
          refine ⟨_, eg_name (i := 3) nd, ?_⟩
          by_cases z : i2 = o
          · subst z
            have z1 := hz.rz hi2 hi2
            have z2 := hz.rz hi hi2
            have z3 := (z1.add rz_one).mono (Nat.le_refl _)
            have z4 : Rz (s' + 4) (0 - (f' i2 i2 + 1)) := (rz_zero.sub z3).mono (by omega)
            have r2 : Rz 2 (2 : Rat) := by constructor <;> decide
            refine ss_one (s1_if (et_is (et_cmp (ee_ix (ee_ix (ee_var 0 rfl) (ee_var 2 rfl) (hix)) (ee_var 3 rfl) (ix_vec (f' i) hi2)) (ee_glob h.k_NOUGHT) (od_neC gx) (nomark _)) (b' := true) (by rw [decide_eq_false o3]; rfl)) (fun _ => ?_) (fun z => nomatch z))
            refine ss_cons (s1_set 4 (ee_is (ee_call (fn_over h) (gx.room.mono (by decide)) (ea_cons (ee_call (fn_minus h) (gx.room.mono (by decide)) (ea_cons (ee_glob h.k_NOUGHT) (ea_cons (ee_call (fn_plus h) (gx.room.mono (by decide)) (ea_cons (ee_ix (ee_ix (ee_var 0 rfl) (ee_var 3 rfl) (ix_mat f' hi2)) (ee_var 3 rfl) (ix_vec (f' i2) hi2)) (ea_cons (ee_glob h.k_ONE) ea_nil)) (⟨_, _, _, _, rfl, z1, rz_one, by omega, rfl⟩)) ea_nil)) (⟨_, _, _, _, rfl, rz_zero, z3, by omega, rfl⟩)) (ea_cons (ee_call (fn_times h) (gx.room.mono (by decide)) (ea_cons (ee_is (ee_tup (ea_cons ee_int (ea_cons ee_int ea_nil))) (show _ = eF (2 : Rat) from rfl)) (ea_cons (ee_ix (ee_ix (ee_var 0 rfl) (ee_var 2 rfl) (hix)) (ee_var 3 rfl) (ix_vec (f' i) hi2)) ea_nil)) (⟨_, _, _, _, rfl, r2, z2, by omega, rfl⟩)) ea_nil)) (⟨_, _, _, _, rfl, by grind, z4, r2.mul z2, by omega, rfl⟩)) (show _ = eF (shareQ f' i i2) from rfl)) ?_ nd)
            refine ss_one (s1_ret (ee_is (ef_ee (ef_mapA "at" 5 (List.range n) (fun i : Nat => PyData.int (i : Nat)) (fun j => eF (pairV (shareQ f' i i2) i i2 j)) rfl nd (ei_is (ei_range1 (ee_var 1 rfl) (by omega) h.b_range) (rangeD_map n)) (blkOk_by (own := [("at", 5)]) (N := ["form", "many", "place", "other", "share", "at"]) (sc := defScope (top 25)) (by decide +kernel)) (fun _ _ _ _ _ => pg_name (i := 5) nd rfl (Or.inl rfl)) (fun es z => ne es (by simpa using z)) ?_ (by rw [List.length_range]; omega))) (eP_range n (pairV (shareQ f' i i2) i i2)).symm) rfl)
            intro j hj s1 H1 C1 cl1 fp1
            unfold pairV
            by_cases e1 : j = i
            · rw [if_pos e1]
              exact ee_if (et_is (et_cmp (ee_var 5 rfl) (ee_var 2 rfl) (od_eqC gx.blk) (nomark _)) (b' := true) (decide_eq_true (by omega))) (fun _ => (ee_var 4 rfl)) (fun z => nomatch z)
            · rw [if_neg e1]
              refine ee_if (et_is (et_cmp (ee_var 5 rfl) (ee_var 2 rfl) (od_eqC gx.blk) (nomark _)) (b' := false) (decide_eq_false (by omega))) (fun z => nomatch z) (fun _ => ?_)
              by_cases e2 : j = i2
              · rw [if_pos e2]
                exact ee_if (et_is (et_cmp (ee_var 5 rfl) (ee_var 3 rfl) (od_eqC gx.blk) (nomark _)) (b' := true) (decide_eq_true (by omega))) (fun _ => (ee_glob h.k_ONE)) (fun z => nomatch z)
              · rw [if_neg e2]
                exact ee_if (et_is (et_cmp (ee_var 5 rfl) (ee_var 3 rfl) (od_eqC gx.blk) (nomark _)) (b' := false) (decide_eq_false (by omega))) (fun z => nomatch z) (fun _ => (ee_glob h.k_NOUGHT))
          · exact ss_one (s1_if (et_is (et_cmp (ee_ix (ee_ix (ee_var 0 rfl) (ee_var 2 rfl) (hix)) (ee_var 3 rfl) (ix_vec (f' i) hi2)) (ee_glob h.k_NOUGHT) (od_neC gx) (nomark _)) (b' := false) (by rw [decide_eq_true (o2 i2 (by omega))]; rfl)) (fun z => nomatch z) (fun _ => ss_nil ⟨by omega, _, rfl, datO⟩))
        · obtain ⟨hio, _⟩ := hI
          rw [show (rangeD 0 ((n : Nat) : Int).toNat).length = n by simp [rangeD]] at hio
          omega
  · obtain ⟨a, b, c, e, rfl, na, nb, nc, ne, hle⟩ := hI
    rw [show (rangeD 0 ((n : Nat) : Int).toNat).length = n by simp [rangeD]] at hle
    rcases hd with ⟨rfl, _⟩ | ⟨p, y, h1, h2, h3, h4⟩
    · exact ss_one (s1_ret ee_non rfl)
    · have := hle p y h1 h2 h3 h4
      omega
def eG (n : Nat) (g : Vc × Nat) : D := .tuple [eP (mkV n g.1), .int (g.2 : Nat)]
def vRaised (ds : List D) (d : D) : Prop := ∃ (n b t : Nat) (x : Vc) (G : List (Vc × Nat)), ds = [eP (mkV n x), .list (G.map (eG n))] ∧ CV t n x ∧ (∀ g ∈ G, CV b n g.1 ∧ g.1 g.2 = 1 ∧ g.2 < n) ∧ n ≤ 7 ∧ G.length ≤ 7 ∧ 2 * (t + 9 * (b + 3)) + 30 ≤ LIM ∧ d = eP (mkV n (raise n x G))
theorem mkV_set {n p : Nat} (y : Vc) (q : Rat) (hp : p < n) : ((mkV n y).map eF).set p (eF q) = (mkV n (setV y p q)).map eF := by
  refine List.ext_getElem? fun i => ?_
  by_cases hi : i < n
  · rw [List.getElem?_map, mkV_get _ hi]
    by_cases e : p = i
    · subst e
      rw [List.getElem?_set_self (by rw [List.length_map, mkV_len]; exact hi)]
      show _ = some (eF (if p = p then q else y p))
      rw [if_pos rfl]
    · rw [List.getElem?_set_ne e, List.getElem?_map, mkV_get _ hi]
      show _ = some (eF (if i = p then q else y i))
      rw [if_neg (fun z => e z.symm)]
      rfl
  · rw [List.getElem?_eq_none (by rw [List.length_set, List.length_map, mkV_len]; omega), List.getElem?_eq_none (by rw [List.length_map, mkV_len]; omega)]
theorem sc_raised : FnScope ["point", "paper", "found", "line", "place", "rest", "at", "one"] ["point", "paper"] (defScope (top 26)) := ⟨rfl, rfl, rfl, by decide +kernel, rfl, by decide +kernel, by decide +kernel⟩
theorem fn_raised (h : Hd K mg base) : Fn PR w K mg base "raised" 47 2 vRaised noX := by
  obtain ⟨f, fd, F, hm⟩ := h.d_raised
  refine fn_mk F sc_raised hm (F.bindsN fun _ _ _ _ _ _ us hl => match us, hl with | [_, _], _ => rfl) h.ns rfl (by decide) rfl (fun cdv A outer s H E X hX gx hp ds hl => ?_)
  subst hX
  have nd := sc_raised.nd
  refine ⟨fun d hv => ?_, fun c hc => hc.elim⟩
  obtain ⟨n, b', t', x, G, rfl, hx, hG, hn, hGl, hl, rfl⟩ := hv
  refine ss_cons (s1_setO 2 (ds := (mkV n x).map eF) (ef_list (ee_var 0 rfl) rfl h.b_list) ?_ nd (fun es z => nomatch z))
  refine ss_cons (s1_for (fun i γ => ∃ a b c, γ = [.dat (eP (mkV n x)), .dat (.list (G.map (eG n))), .own ((mkV n (raise n x (G.drop (G.length - i)))).map eF), a, b, c, .no, .no] ∧ (∀ z, a ≠ .own z) ∧ (∀ z, b ≠ .own z) ∧ ∀ z, c ≠ .own z) (ei_is (ei_list (ef_ee (ef_rev (ee_var 1 rfl)))) (show _ = G.reverse.map (eG n) by rw [← List.map_reverse])) ⟨.no, .no, .no, by rw [Nat.sub_zero, List.drop_length]; rfl, noO, noO, noO⟩ (fun i dd γ hd hI => ?_) (fun γ hI => ?_) hp rfl)
  · obtain ⟨a, b, c, rfl, na, nb, nc⟩ := hI
    have hi : i < G.length := by simpa using (List.getElem?_eq_some_iff.mp hd).1
    have hj : G.length - (i + 1) < G.length := by omega
    have ed : dd = eG n G[G.length - (i + 1)] := by
      rw [List.getElem?_map, List.getElem?_eq_getElem (by rw [List.length_reverse]; exact hi), List.getElem_reverse] at hd
      rw [← Option.some.inj hd]
      congr 2
      omega
    subst ed
    have hdrop : G.drop (G.length - (i + 1)) = G[G.length - (i + 1)] :: G.drop (G.length - i) := by
      rw [List.drop_eq_getElem_cons hj]
      congr 2
      omega
    have hgm := hG _ (List.getElem_mem hj)
    have hcv : CV (t' + (G.drop (G.length - i)).length * (b' + 3)) n (raise n x (G.drop (G.length - i))) := cv_raise hx hn fun g hg => ⟨(hG g (List.mem_of_mem_drop hg)).1, (hG g (List.mem_of_mem_drop hg)).2.1⟩
    have hlen : (G.drop (G.length - i)).length * (b' + 3) ≤ 7 * (b' + 3) := Nat.mul_le_mul_right _ (by rw [List.length_drop]; omega)
    rw [hdrop]
    generalize G[G.length - (i + 1)] = g at *
    obtain ⟨g1, g2, g3⟩ := hgm
    have hcv := hcv.mono (show _ ≤ t' + 7 * (b' + 3) by omega)
    generalize hy : raise n x (G.drop (G.length - i)) = y at *
    refine ⟨_, eg_pair (i := 3) (j := 4) rfl nd (ho := fun es z => na es (by simpa using z)), ?_⟩
    have hz := cv_zeroAt (p := g.2) g1
    have hdr := dot_rz hz hcv (Nat.le_refl n) hn
    refine ss_cons (s1_set 5 (ee_borrow 2 (ds := (mkV n y).map eF) (ee_call (fn_dot h) (gx.room.mono (by decide)) (ea_cons (ee_is (ef_ee (ef_map2A "at" "one" 6 7 (List.range n) (fun i : Nat => PyData.int (i : Nat)) (fun i => eF (g.1 i)) (fun i => eF (zeroAt g.1 g.2 i)) (by decide) rfl nd (ei_is (ei_enum (ee_var 3 rfl) h.b_enumerate) ?_) (blkOk_by (own := [("at", 6), ("one", 7)]) (N := ["point", "paper", "found", "line", "place", "rest", "at", "one"]) (sc := defScope (top 26)) (by decide +kernel)) (fun _ _ _ _ _ => pg_tup rfl (pgs_cons (pg_name (i := 6) nd rfl (Or.inl rfl)) (pgs_cons (pg_name (i := 7) nd rfl (Or.inl rfl)) pgs_nil))) (fun es z => nomatch z) (fun es z => nomatch z) ?_ (by rw [List.length_range]; omega))) (eP_range n (zeroAt g.1 g.2)).symm) (ea_cons (ee_var 2 rfl) ea_nil)) ⟨n, _, _, _, _, rfl, hz, hcv, hn, by omega, rfl⟩)) ?_ nd)
    · unfold enumD
      rw [List.length_map, mkV_len]
      refine List.map_congr_left fun i hi => ?_
      have hi := List.mem_range.mp hi
      rw [List.getD_eq_getElem?_getD, List.getElem?_map, mkV_get _ hi]
      rfl
    · intro j hj s1 H1 C1 cl1 fp1
      unfold zeroAt
      by_cases e1 : j = g.2
      · rw [if_neg (fun z => z e1)]
        exact ee_if (et_is (et_cmp (ee_var 6 rfl) (ee_var 4 rfl) (od_neC gx.blk) (nomark _)) (b' := false) (by rw [decide_eq_true (by omega)]; rfl)) (fun z => nomatch z) (fun _ => (ee_glob h.k_NOUGHT))
      · rw [if_pos e1]
        exact ee_if (et_is (et_cmp (ee_var 6 rfl) (ee_var 4 rfl) (od_neC gx.blk) (nomark _)) (b' := true) (by rw [decide_eq_false (by omega)]; rfl)) (fun _ => (ee_var 7 rfl)) (fun z => nomatch z)
    refine ss_one (s1_setIx 2 (ds := (mkV n y).map eF) (d := eF ((0 - dotN n (zeroAt g.1 g.2) y) / g.1 g.2)) (k := (g.2 : Nat)) (j := g.2) (ee_call (fn_over h) (gx.room.mono (by decide)) (ea_cons (ee_call (fn_minus h) (gx.room.mono (by decide)) (ea_cons (ee_glob h.k_NOUGHT) (ea_cons (ee_var 5 rfl) ea_nil)) (⟨_, _, _, _, rfl, rz_zero, hdr, by omega, rfl⟩)) (ea_cons (ee_ix (ee_var 3 rfl) (ee_var 4 rfl) (ix_vec g.1 g3)) ea_nil)) (⟨_, _, _, _, rfl, by rw [g2]; decide, rz_zero.sub hdr, g1.rz g3, by omega, rfl⟩)) (ee_var 4 rfl) ?_ ?_)
    · rw [List.length_map, mkV_len]
      unfold ixN
      rw [if_pos (by omega), if_pos (by omega)]
      rfl
    · rw [mkV_set _ _ g3]
      refine ⟨.dat (eP (mkV n g.1)), .dat (.int (g.2 : Nat)), .dat (eF (dotN n (zeroAt g.1 g.2) y)), ?_, datO, datO, datO⟩
      show _ = [_, _, Sl.own ((mkV n (setV (raise n x (G.drop (G.length - i))) g.2 ((0 - dotN n (zeroAt g.1 g.2) (raise n x (G.drop (G.length - i)))) / g.1 g.2))).map eF), _, _, _, _, _]
      rw [hy]
      rfl
  · obtain ⟨a, b, c, rfl, na, nb, nc⟩ := hI
    rw [List.length_map, List.length_reverse, Nat.sub_self, List.drop_zero]
    exact ss_freeze 2 (ss_one (s1_ret (ee_var 2 rfl) rfl))


def vSett (ds : List D) (d : D) : Prop := ∃ (n s : Nat) (F : Mx), ds = [eM (mkF n F)] ∧ 1 ≤ n ∧ n ≤ 6 ∧ Sym n F ∧ FZ s n F ∧ 0 < s ∧ 30 * (s * 3 ^ n + 3) ≤ LIM ∧ Sett n F [] [] d
theorem fil_nil {n : Nat} {f : Mx} (h : ∀ q, q < n → f q q = 0) : (List.range n).filter (fun i => !decide (f i i = 0)) = [] := List.filter_eq_nil_iff.mpr fun i hi z => by
  rw [decide_eq_true (h i (List.mem_range.mp hi))] at z
  cases z
theorem fil_first {n p : Nat} {f : Mx} (hp : p < n) (h : ∀ q, q < p → f q q = 0) (h0 : f p p ≠ 0) : ∃ r, (List.range n).filter (fun i => !decide (f i i = 0)) = p :: r := by
  obtain ⟨m, rfl⟩ : ∃ m, n = p + (m + 1) := ⟨n - p - 1, by omega⟩
  rw [List.range_add, List.filter_append, fil_nil h, List.nil_append, List.range_succ_eq_map, List.map_cons, List.filter_cons, if_pos]
  · exact ⟨_, rfl⟩
  · show (!decide (f (p + 0) (p + 0) = 0)) = true
    rw [Nat.add_zero, decide_eq_false h0]
    rfl
theorem sc_form_settled : FnScope ["form", "many", "rest", "paper", "gone", "point", "places", "place", "weight", "line", "one"] ["form"] (defScope (top 27)) := ⟨rfl, rfl, rfl, by decide +kernel, rfl, by decide +kernel, by decide +kernel⟩
theorem fn_form_settled (h : Hd K mg base) : Fn PR w K mg base "form_settled" 48 1 vSett (xForm K) := by
  obtain ⟨f, fd, F, hm⟩ := h.d_form_settled
  refine fn_mk F sc_form_settled hm (F.bindsN fun _ _ _ _ _ _ us hl => match us, hl with | [_], _ => rfl) h.ns rfl (by decide) rfl (fun cdv A outer s H E X hX gx hp ds hl => ?_)
  subst hX
  have nd := sc_form_settled.nd
  refine ⟨fun d hv => ?_, fun c hc => ?_⟩
  rotate_left
  · obtain ⟨rows, rfl, hx⟩ := hc
    exact ss_cons (s1_raises (fn_need_form h) (gx.room.mono (by decide)) (ea_cons (ee_var 0 rfl) ea_nil) ⟨rows, rfl, hx⟩ rfl)
  obtain ⟨n, s', F0, rfl, h1, h6, hsy, hfz, hs0, hl, hset⟩ := hv
  refine ss_cons (s1_expr (ee_call (fn_need_form h) (gx.room.mono (by decide)) (ea_cons (ee_var 0 rfl) ea_nil) (form_v h1 h6 hsy)) ?_)
  refine ss_cons (s1_set 1 (ee_len (ee_var 0 rfl) (n := n) (by show some _ = some _; rw [List.length_map, mkF_len]) h.b_len) ?_ nd)
  refine ss_cons (s1_set 2 (ee_var 0 rfl) ?_ nd)
  refine ss_cons (s1_setO 3 (ds := ([] : List Pr).map (ePr2 n)) (ef_lst ea_nil) ?_ nd (fun es z => by simp at z))
  refine ss_cons (s1_setO 4 (ds := ([] : List (Vc × Nat)).map (eG n)) (ef_lst ea_nil) ?_ nd (fun es z => by simp at z))
  have hst := st_start hsy hfz
  refine ss_one (s1_while (fun m γ => ∃ (f' : Mx) (L : List Pr) (G : List (Vc × Nat)) (a b c e : Sl), γ = [.dat (eM (mkF n F0)), .dat (.int (n : Nat)), .dat (eM (mkF n f')), .own (L.map (ePr2 n)), .own (G.map (eG n)), a, b, .no, c, e, .no] ∧ (∀ z, a ≠ .own z) ∧ (∀ z, b ≠ .own z) ∧ (∀ z, c ≠ .own z) ∧ (∀ z, e ≠ .own z) ∧ StOk n s' F0 f' L G ∧ Sett n f' L G d ∧ m = cntN f' n) (cntN F0 n) ⟨F0, [], [], .no, .no, .no, .no, rfl, noO, noO, noO, noO, hst, hset, rfl⟩ (fun m γ hI => ?_) hp)
  obtain ⟨f', L, G, a, b, c, e, rfl, na, nb, nc, ne, hok, hse, rfl⟩ := hI
  refine ⟨true, et_val ee_bl, fun _ => ?_, fun z => nomatch z⟩
  have hlen := hok.len
  have hgl : G.length = L.length := by
    have := congrArg List.length hok.same
    rwa [List.length_map, List.length_map] at this
  have hpow : s' * 3 ^ L.length ≤ s' * 3 ^ n := Nat.mul_le_mul_left _ (Nat.pow_le_pow_right (by decide) (by omega))
  have hz := hok.fz.mono hpow
  generalize hB : s' * 3 ^ n = B at *
  have hB0 : 0 < B := by rw [← hB]; exact Nat.mul_pos hs0 (Nat.pow_pos (by decide))
  cases hse with
  | low hp1 hq hx =>
    rename_i p x
    refine ss_cons (s1_set 5 (ee_call (fn_low_point h) (gx.room.mono (by decide)) (ea_cons (ee_var 2 rfl) ea_nil) (⟨n, B, f', rfl, hz, by omega, by omega, .inr ⟨p, x, hp1, hq, hx, rfl⟩⟩)) ?_ nd)
    refine ss_cons (s1_if (et_is (et_cmp (ee_var 5 rfl) ee_non od_notN (nomark _)) (b' := true) rfl) (fun _ => ?_) (fun z => nomatch z))
    refine ss_freeze 4 (ds := G.map (eG n)) (ss_one (s1_ret (ee_tup (ea_cons ee_str (ea_cons (ee_call (fn_raised h) (gx.room.mono (by decide)) (ea_cons (ee_var 5 rfl) (ea_cons (ee_var 4 rfl) ea_nil)) (⟨n, B, B + 2, x, G, rfl, cv_low hz hp1 hx, fun g hg => ⟨?_, hok.gone.one g hg, hok.gone.lt g hg⟩, by omega, by omega, by omega, rfl⟩)) ea_nil))) rfl))
    have : g.1 ∈ L.map (·.2) := by rw [← hok.same]; exact List.mem_map.mpr ⟨g, hg, rfl⟩
    obtain ⟨q, hq, e⟩ := List.mem_map.mp this
    rw [← e, ← hB]
    exact (hok.cz q hq).2
  | done hno hz0 =>
    refine ss_cons (s1_set 5 (ee_call (fn_low_point h) (gx.room.mono (by decide)) (ea_cons (ee_var 2 rfl) ea_nil) (⟨n, B, f', rfl, hz, by omega, by omega, .inl ⟨rfl, hno⟩⟩)) ?_ nd)
    refine ss_keep (s1_if (et_is (et_cmp (ee_var 5 rfl) ee_non od_notN (nomark _)) (b' := false) rfl) (fun z => nomatch z) (fun _ => ss_nil rfl)) ?_
    refine ss_cons (s1_setLc 6 (ds := []) (el_is (el_selA "place" 7 (List.range n) (fun i : Nat => PyData.int (i : Nat)) (fun i => !decide (f' i i = 0)) (fun i : Nat => PyData.int (i : Nat)) rfl nd (ei_is (ei_range1 (ee_var 1 rfl) (by omega) h.b_range) (rangeD_map n)) (blkOk_by (own := [("place", 7)]) (N := ["form", "many", "rest", "paper", "gone", "point", "places", "place", "weight", "line", "one"]) (sc := defScope (top 27)) (by decide +kernel)) (fun _ _ _ _ _ => pg_name (i := 7) nd rfl (Or.inl rfl)) (fun es z => by simp at z) ?_ ?_ (by rw [List.length_range]; omega)) (by rw [fil_nil hz0]; rfl)) ?_)
    · intro i hi s1 H1 C1 cl1 fp1
      have hi := List.mem_range.mp hi
      exact (et_cmp (ee_ix (ee_ix (ee_var 2 rfl) (ee_var 7 rfl) (ix_mat f' hi)) (ee_var 7 rfl) (ix_vec (f' i) hi)) (ee_glob h.k_NOUGHT) (od_neC gx.blk) (nomark _))
    · intro i hi hi2 s1 H1 C1 cl1 fp1
      exact (ee_var 7 rfl)
    refine ss_cons (s1_if (et_is (et_cmp (ee_var 6 rfl) (ef_ee (ef_lst ea_nil)) (od_eq gx (by decide +kernel) (by decide +kernel)) (nomark _)) (b' := true) (by decide +kernel)) (fun _ => ?_) (fun z => nomatch z))
    exact ss_freeze 3 (ds := L.map (ePr2 n)) (ss_one (s1_ret (ee_tup (ea_cons ee_str (ea_cons (ee_var 3 rfl) ea_nil))) rfl))
  | step hno hp1 hlt h0 hse =>
    rename_i p
    refine ss_cons (s1_set 5 (ee_call (fn_low_point h) (gx.room.mono (by decide)) (ea_cons (ee_var 2 rfl) ea_nil) (⟨n, B, f', rfl, hz, by omega, by omega, .inl ⟨rfl, hno⟩⟩)) ?_ nd)
    refine ss_keep (s1_if (et_is (et_cmp (ee_var 5 rfl) ee_non od_notN (nomark _)) (b' := false) rfl) (fun z => nomatch z) (fun _ => ss_nil rfl)) ?_
    obtain ⟨r, hr⟩ := fil_first hp1 hlt h0
    have hrl : (p :: r).length ≤ n := by
      rw [← hr]
      exact Nat.le_trans (List.length_filter_le _ _) (by rw [List.length_range]; exact Nat.le_refl _)
    refine ss_cons (s1_setLc 6 (ds := (p :: r).map fun i : Nat => PyData.int (i : Nat)) (el_is (el_selA "place" 7 (List.range n) (fun i : Nat => PyData.int (i : Nat)) (fun i => !decide (f' i i = 0)) (fun i : Nat => PyData.int (i : Nat)) rfl nd (ei_is (ei_range1 (ee_var 1 rfl) (by omega) h.b_range) (rangeD_map n)) (blkOk_by (own := [("place", 7)]) (N := ["form", "many", "rest", "paper", "gone", "point", "places", "place", "weight", "line", "one"]) (sc := defScope (top 27)) (by decide +kernel)) (fun _ _ _ _ _ => pg_name (i := 7) nd rfl (Or.inl rfl)) (fun es z => by simp at z) ?_ ?_ (by rw [List.length_range]; omega)) (by rw [hr])) ?_)
    · intro i hi s1 H1 C1 cl1 fp1
      have hi := List.mem_range.mp hi
      exact (et_cmp (ee_ix (ee_ix (ee_var 2 rfl) (ee_var 7 rfl) (ix_mat f' hi)) (ee_var 7 rfl) (ix_vec (f' i) hi)) (ee_glob h.k_NOUGHT) (od_neC gx.blk) (nomark _))
    · intro i hi hi2 s1 H1 C1 cl1 fp1
      exact (ee_var 7 rfl)
    have shP : SeqAt.shaped (.list ((p :: r).map fun i : Nat => PyData.int (i : Nat)) : D) = true := (sh_list (n := 0) fun d hd => by
      obtain ⟨z, _, rfl⟩ := List.mem_map.mp hd
      exact sh_int).ok1
    refine ss_keep (s1_if (et_is (et_cmp (ee_var 6 rfl) (ef_ee (ef_lst ea_nil)) (od_eq gx shP (by decide +kernel)) (nomark _)) (b' := false) ?_) (fun z => nomatch z) (fun _ => ss_nil rfl)) ?_
    · simp [PyData.eqv, PyData.eqvAll]
    have hix : ixD (.list ((p :: r).map fun i : Nat => PyData.int (i : Nat))) 0 = some (.int (p : Nat)) := show ixD _ ((0 : Nat) : Int) = _ from atI_nat rfl
    refine ss_cons (s1_set 8 (ee_ix (ee_ix (ee_var 2 rfl) (ee_ix (ee_var 6 rfl) ee_int (hix)) (ix_mat f' hp1)) (ee_ix (ee_var 6 rfl) ee_int (hix)) (ix_vec (f' p) hp1)) ?_ nd)
    have zw := hz.rz hp1 hp1
    refine ss_cons (s1_setLc 9 (ds := (mkV n fun k => f' p k / f' p p).map eF) (el_is (el_mapA "one" 10 (List.range n) (fun k => eF (f' p k)) (fun k => eF (f' p k / f' p p)) rfl nd (ei_is (ei_list (ee_ix (ee_var 2 rfl) (ee_ix (ee_var 6 rfl) ee_int (hix)) (show ixD (eM (mkF n f')) ((p : Nat) : Int) = some (.list ((List.range n).map fun k => eF (f' p k))) by rw [ix_mat f' hp1, eP_range]))) (rfl)) (blkOk_by (own := [("one", 10)]) (N := ["form", "many", "rest", "paper", "gone", "point", "places", "place", "weight", "line", "one"]) (sc := defScope (top 27)) (by decide +kernel)) (fun _ _ _ _ _ => pg_name (i := 10) nd rfl (Or.inl rfl)) (fun es z => by simp at z) ?_ (by rw [List.length_range]; omega)) (by unfold mkV; rw [List.map_map]; rfl)) ?_)
    · intro k hk s1 H1 C1 cl1 fp1
      have hk := List.mem_range.mp hk
      exact (ee_call (fn_over h) (gx.room.mono (by decide)) (ea_cons (ee_var 10 rfl) (ea_cons (ee_var 8 rfl) ea_nil)) (⟨_, _, _, _, rfl, h0, hz.rz hp1 hk, zw, by omega, rfl⟩))
    obtain ⟨hnx, hcn⟩ := hok.next hs0 hno hp1 h0
    obtain ⟨_, zl⟩ := fz_step hz hp1 h0 hok.sym
    refine ss_cons (s1_append 3 (ds := L.map (ePr2 n)) (d := ePr2 n (f' p p, fun k => f' p k / f' p p)) (ee_tup (ea_cons (ee_var 8 rfl) (ea_cons (ee_var 9 rfl) ea_nil))) ?_ (by rw [List.length_map]; omega))
    refine ss_cons (s1_append 4 (ds := G.map (eG n)) (d := eG n (fun k => f' p k / f' p p, p)) (ee_tup (ea_cons (ee_var 9 rfl) (ea_cons (ee_ix (ee_var 6 rfl) ee_int (hix)) ea_nil))) ?_ (by rw [List.length_map]; omega))
    refine ss_one (s1_set 2 (ee_call (fn_less_square h) (gx.room.mono (by decide)) (ea_cons (ee_var 2 rfl) (ea_cons (ee_var 8 rfl) (ea_cons (ee_var 9 rfl) ea_nil))) (⟨n, B, B, f', f' p p, fun k => f' p k / f' p p, rfl, fun j hj k hk => hz.rz hj hk, zw, fun j hj => zl.rz hj, by omega, by omega, rfl⟩)) ?_ nd)
    refine ⟨_, hcn, _, L ++ [(f' p p, fun k => f' p k / f' p p)], G ++ [(fun k => f' p k / f' p p, p)], .dat .none, .dat (.list ((p :: r).map fun i : Nat => PyData.int (i : Nat))), .dat (eF (f' p p)), .dat (eP (mkV n fun k => f' p k / f' p p)), ?_, datO, datO, datO, datO, hnx, hse, rfl⟩
    rw [List.map_append, List.map_append]
    rfl
/-! ### a paper looked at -/
structure PrOk (n t : Nat) (q : Pr) : Prop where
  pos : 0 < q.1
  zw : Rz t q.1
  zl : ∀ j, j < n → Rz t (q.2 j)
  ne : ∃ k, k < n ∧ q.2 k ≠ 0
/-- no pair of a paper -/
def BadPr (n : Nat) (d1 : D) (es : List D) : Prop := isF d1 = false ∨ ∃ q, d1 = eF q ∧ (q ≤ 0 ∨ es.length ≠ n ∨ (es.map isF).all id = false ∨ ∀ e ∈ es, e = eF 0)
def subF (f : Mx) (L : List Pr) : Mx := fun j k => f j k - pSum L j k
def zeroB (n : Nat) (g : Mx) : Bool := ((List.range n).map fun j => ((List.range n).map fun k => decide (g j k = 0)).all id).all id
def vShow (ds : List D) (d : D) : Prop := ∃ (n s t : Nat) (f : Mx) (L : List Pr), 1 ≤ n ∧ n ≤ 6 ∧ Sym n f ∧ (∀ j, j < n → ∀ k, k < n → Rz s (f j k)) ∧ (∀ q ∈ L, PrOk n t q) ∧ L.length ≤ 10 ∧ s + 12 * (3 * t + 1) + 10 ≤ LIM ∧
  ((ds = [eM (mkF n f), ePN n L] ∧ d = .bool (zeroB n (subF f L))) ∨ ∃ d1 es, ds = [eM (mkF n f), .list (L.map (ePr2 n) ++ [.tuple [d1, .list es]])] ∧ es.length ≤ 100 ∧ BadPr n d1 es ∧ d = .bool false)
theorem lsq_sub (f : Mx) (L : List Pr) (q : Pr) : lsq (subF f L) q.1 q.2 = subF f (L ++ [q]) := by
  funext j k
  show f j k - pSum L j k - q.1 * (q.2 j * q.2 k) = f j k - pSum (L ++ [q]) j k
  rw [pSum_app]
  show _ = f j k - (pSum L j k + (q.1 * (q.2 j * q.2 k) + 0))
  grind
theorem sub_rz {n s t : Nat} {f : Mx} {L : List Pr} (hf : ∀ j, j < n → ∀ k, k < n → Rz s (f j k)) (hL : ∀ q ∈ L, PrOk n t q) : ∀ i, i ≤ L.length → ∀ j, j < n → ∀ k, k < n → Rz (s + i * (3 * t + 1)) (subF f (L.take i) j k) := fun i => by
  induction i with
  | zero =>
    intro _ j hj k hk
    show Rz (s + 0 * (3 * t + 1)) (f j k - 0)
    rw [show f j k - 0 = f j k by grind, Nat.zero_mul, Nat.add_zero]
    exact hf j hj k hk
  | succ i ih =>
    intro hi j hj k hk
    have hlt : i < L.length := by omega
    have e : L.take (i + 1) = L.take i ++ [L[i]] := by rw [List.take_add_one, List.getElem?_eq_getElem hlt]; rfl
    rw [e, ← lsq_sub]
    have ho := hL _ (List.getElem_mem hlt)
    have h1 := ih (by omega) j hj k hk
    have h2 := ho.zw.mul ((ho.zl j hj).mul (ho.zl k hk))
    refine (h1.sub h2).mono ?_
    have e2 : (i + 1) * (3 * t + 1) = i * (3 * t + 1) + (3 * t + 1) := Nat.succ_mul _ _
    rw [e2]
    omega
theorem num_le00 {q : Rat} : q.num ≤ 0 ↔ ¬ 0 < q := by
  have := num_lt (q := q)
  constructor
  · intro h z
    have := this.mpr z
    omega
  · intro h
    have : ¬ 0 < q.num := fun z => h (this.mp z)
    omega
theorem range_all {n : Nat} {p : Nat → Bool} : ((List.range n).map p).all id = decide (∀ i, i < n → p i = true) := by
  rw [Bool.eq_iff_iff, decide_eq_true_eq, List.all_eq_true]
  constructor
  · intro h i hi
    exact h _ (List.mem_map.mpr ⟨i, List.mem_range.mpr hi, rfl⟩)
  · intro h b hb
    obtain ⟨i, hi, rfl⟩ := List.mem_map.mp hb
    exact h i (List.mem_range.mp hi)
theorem sc_form_shows : FnScope ["form", "paper", "rest", "weight", "line", "one", "row"] ["form", "paper"] (defScope (top 23)) := ⟨rfl, rfl, rfl, by decide +kernel, rfl, by decide +kernel, by decide +kernel⟩
theorem fn_form_shows (h : Hd K mg base) : Fn PR w K mg base "form_shows" 48 2 vShow (xForm1 K) := by
  obtain ⟨f, fd, F, hm⟩ := h.d_form_shows
  refine fn_mk F sc_form_shows hm (F.bindsN fun _ _ _ _ _ _ us hl => match us, hl with | [_, _], _ => rfl) h.ns rfl (by decide) rfl (fun cdv A outer s H E X hX gx hp ds hl => ?_)
  subst hX
  have nd := sc_form_shows.nd
  refine ⟨fun d hv => ?_, fun c hc => ?_⟩
  rotate_left
  · obtain ⟨x, y, rfl, hx⟩ := hc
    exact ss_cons (s1_raises (fn_need_form h) (gx.room.mono (by decide)) (ea_cons (ee_var 0 rfl) ea_nil) hx rfl)
  obtain ⟨n, s', t', f', L, h1, h6, hsy, hfz, hL, hL10, hl, hd⟩ := hv
  have main : ∀ (B : List D) (hB : B = [] ∧ d = .bool (zeroB n (subF f' L)) ∨ ∃ d1 es, B = [.tuple [d1, .list es]] ∧ es.length ≤ 100 ∧ BadPr n d1 es ∧ d = .bool false), SS Same (cxOf (L2N.CX PR w) PR w K mg base _ "form_shows" (defScope (top 23)) f cdv A outer s H E) [.dat (eM (mkF n f')), .dat (.list (L.map (ePr2 n) ++ B)), .no, .no, .no, .no, .no] (defBody (top 23)) { rt := fun e => e = d, nx := fun _ => d = .none } := fun B hB => by
    refine ss_cons (s1_expr (ee_call (fn_need_form h) (gx.room.mono (by decide)) (ea_cons (ee_var 0 rfl) ea_nil) (form_v h1 h6 hsy)) ?_)
    refine ss_cons (s1_set 2 (ee_is (ee_var 0 rfl) (show _ = eM (mkF n (subF f' (L.take 0))) by rw [show subF f' (L.take 0) = f' by funext j k; show f' j k - 0 = _; grind])) ?_ nd)
    have hlenF : ∀ g : Mx, lenD (eM (mkF n g)) = some n := fun g => by show some _ = some _; rw [List.length_map, mkF_len]
    refine ss_cons (s1_for (fun i γ => i ≤ L.length ∧ ∃ a b, γ = [.dat (eM (mkF n f')), .dat (.list (L.map (ePr2 n) ++ B)), .dat (eM (mkF n (subF f' (L.take i)))), a, b, .no, .no] ∧ (∀ z, a ≠ .own z) ∧ ∀ z, b ≠ .own z) (ei_list (ee_var 1 rfl)) ⟨Nat.zero_le _, .no, .no, rfl, noO, noO⟩ (fun i dd γ hdd hI => ?_) (fun γ hI => ?_) hp rfl)
    · obtain ⟨hi, a, b, rfl, na, nb⟩ := hI
      by_cases hiL : i < L.length
      · -- a pair as it should be
        have ed : dd = ePr2 n L[i] := by
          rw [List.getElem?_append_left (by rw [List.length_map]; exact hiL), List.getElem?_map, List.getElem?_eq_getElem hiL] at hdd
          exact (Option.some.inj hdd).symm
        subst ed
        have ho := hL _ (List.getElem_mem hiL)
        have e : L.take (i + 1) = L.take i ++ [L[i]] := by rw [List.take_add_one, List.getElem?_eq_getElem hiL]; rfl
        have hzr := sub_rz hfz hL i (by omega)
        rw [e, ← lsq_sub]
        generalize L[i] = q at *
        refine ⟨_, eg_pair (i := 3) (j := 4) rfl nd (ho := fun es z => na es (by simpa using z)), ?_⟩
        have hnum : ¬ q.1.num ≤ 0 := fun z => num_le00.mp z ho.pos
        refine ss_keep (s1_if (et_is (ew_et (ew_or (et_not (et_val (ee_call (fn_is_fraction h) (gx.room.mono (by decide)) (ea_cons (ee_var 3 rfl) ea_nil) ⟨_, rfl, rfl⟩))) (fun _ => ew_or (et_cmp (ee_ix (ee_var 3 rfl) ee_int rfl) ee_int od_le (nomark _)) (fun _ => ew_or1 (et_cmp (ee_len (ee_var 4 rfl) (n := n) (by show some _ = some _; rw [List.length_map, mkV_len]) h.b_len) (ee_len (ee_var 0 rfl) (n := n) (hlenF _) h.b_len) (od_neC gx) (nomark _)))))) (b' := false) ?_) (fun z => nomatch z) (fun _ => ss_nil rfl)) ?_
        · rw [isF_eF, decide_eq_false hnum, decide_eq_true rfl]
          rfl
        refine ss_keep (s1_if (et_is (ew_et (ew_or (et_not (et_val (ee_all (bs := (List.range n).map fun _ => true) (ee_is (ef_ee (ef_mapA "one" 5 (List.range n) (fun k => eF (q.2 k)) (fun _ => .bool true) rfl nd (ei_is (ei_list (ee_var 4 rfl)) (by unfold mkV; rw [List.map_map]; rfl)) (blkOk_by (own := [("one", 5)]) (N := ["form", "paper", "rest", "weight", "line", "one", "row"]) (sc := defScope (top 23)) (by decide +kernel)) (fun _ _ _ _ _ => pg_name (i := 5) nd rfl (Or.inl rfl)) (fun es z => by simp at z) ?_ (by rw [List.length_range]; omega))) (by rw [List.map_map]; rfl)) rfl h.b_all))) (fun _ => ew_or1 (et_val (ee_all (bs := (List.range n).map fun k => decide (q.2 k = 0)) (ee_is (ef_ee (ef_mapA "one" 5 (List.range n) (fun k => eF (q.2 k)) (fun k => .bool (decide (q.2 k = 0))) rfl nd (ei_is (ei_list (ee_var 4 rfl)) (by unfold mkV; rw [List.map_map]; rfl)) (blkOk_by (own := [("one", 5)]) (N := ["form", "paper", "rest", "weight", "line", "one", "row"]) (sc := defScope (top 23)) (by decide +kernel)) (fun _ _ _ _ _ => pg_name (i := 5) nd rfl (Or.inl rfl)) (fun es z => by simp at z) ?_ (by rw [List.length_range]; omega))) (by rw [List.map_map]; rfl)) rfl h.b_all))))) (b' := false) ?_) (fun z => nomatch z) (fun _ => ss_nil rfl)) ?_
        · intro k hk s1 H1 C1 cl1 fp1
          exact (ee_call (fn_is_fraction h) (gx.room.mono (by decide)) (ea_cons (ee_var 5 rfl) ea_nil) (⟨_, rfl, by rw [isF_eF]⟩))
        · intro k hk s1 H1 C1 cl1 fp1
          exact (ee_cmp (ee_var 5 rfl) (ee_glob h.k_NOUGHT) (od_eqC gx.blk) (nomark _))
        · rw [range_all, range_all, decide_eq_true (fun _ _ => rfl), decide_eq_false]
          · rfl
          · intro z
            obtain ⟨k, k1, k2⟩ := ho.ne
            exact k2 (of_decide_eq_true (z k k1))
        have hi10 : i * (3 * t' + 1) ≤ 10 * (3 * t' + 1) := Nat.mul_le_mul_right _ (by omega)
        refine ss_one (s1_set 2 (ee_call (fn_less_square h) (gx.room.mono (by decide)) (ea_cons (ee_var 2 rfl) (ea_cons (ee_var 3 rfl) (ea_cons (ee_var 4 rfl) ea_nil))) (⟨n, _, t', _, q.1, q.2, rfl, hzr, ho.zw, ho.zl, by omega, by omega, rfl⟩)) ?_ nd)
        exact ⟨by omega, .dat (eF q.1), .dat (eP (mkV n q.2)), rfl, datO, datO⟩
      · -- one that is none
        have hie : i = L.length := by omega
        rcases hB with ⟨rfl, _⟩ | ⟨d1, es, rfl, hes, hbad, rfl⟩
        · rw [List.append_nil, List.getElem?_eq_none (by rw [List.length_map]; omega)] at hdd
          cases hdd
        have ed : dd = .tuple [d1, .list es] := by
          rw [List.getElem?_append_right (by rw [List.length_map]; omega), List.length_map, hie, Nat.sub_self] at hdd
          exact (Option.some.inj hdd).symm
        subst ed
        refine ⟨_, eg_pair (i := 3) (j := 4) rfl nd (ho := fun es z => na es (by simpa using z)), ?_⟩
        rcases hbad with hb | ⟨q, rfl, hb⟩
        · exact ss_cons (s1_if (ew_et (et_ew_or (et_is (et_not (et_val (ee_call (fn_is_fraction h) (gx.room.mono (by decide)) (ea_cons (ee_var 3 rfl) ea_nil) ⟨_, rfl, rfl⟩))) (by rw [hb]; rfl)))) (fun _ => ss_one (s1_ret ee_bl rfl)) (fun z => nomatch z))
        by_cases hc1 : q ≤ 0 ∨ es.length ≠ n
        · refine ss_cons (s1_if (et_is (ew_et (ew_or (et_not (et_val (ee_call (fn_is_fraction h) (gx.room.mono (by decide)) (ea_cons (ee_var 3 rfl) ea_nil) ⟨_, rfl, rfl⟩))) (fun _ => ew_or (et_cmp (ee_ix (ee_var 3 rfl) ee_int rfl) ee_int od_le (nomark _)) (fun _ => ew_or1 (et_cmp (ee_len (ee_var 4 rfl) (n := es.length) rfl h.b_len) (ee_len (ee_var 0 rfl) (n := n) (hlenF _) h.b_len) (od_neC gx) (nomark _)))))) (b' := true) ?_) (fun _ => ss_one (s1_ret ee_bl rfl)) (fun z => nomatch z))
          rw [isF_eF]
          rcases hc1 with z | z
          · rw [decide_eq_true (num_le00.mpr (by grind))]
            rfl
          · rw [decide_eq_false (show ¬ ((es.length : Nat) : Int) = ((n : Nat) : Int) by omega)]
            simp
        · rw [not_or] at hc1
          refine ss_keep (s1_if (et_is (ew_et (ew_or (et_not (et_val (ee_call (fn_is_fraction h) (gx.room.mono (by decide)) (ea_cons (ee_var 3 rfl) ea_nil) ⟨_, rfl, rfl⟩))) (fun _ => ew_or (et_cmp (ee_ix (ee_var 3 rfl) ee_int rfl) ee_int od_le (nomark _)) (fun _ => ew_or1 (et_cmp (ee_len (ee_var 4 rfl) (n := es.length) rfl h.b_len) (ee_len (ee_var 0 rfl) (n := n) (hlenF _) h.b_len) (od_neC gx) (nomark _)))))) (b' := false) ?_) (fun z => nomatch z) (fun _ => ss_nil rfl)) ?_
          · rw [isF_eF, decide_eq_false (fun z => num_le00.mp z (by grind)), decide_eq_true (show ((es.length : Nat) : Int) = ((n : Nat) : Int) by have := hc1.2; omega)]
            rfl
          cases hall : (es.map isF).all id with
          | false =>
            refine ss_cons (s1_if (ew_et (et_ew_or (et_is (et_not (et_val (ee_all (bs := es.map isF) (ee_is (ef_ee (ef_mapA "one" 5 (es) (id) (fun e => .bool (isF e)) rfl nd (ei_is (ei_list (ee_var 4 rfl)) (by rw [List.map_id])) (blkOk_by (own := [("one", 5)]) (N := ["form", "paper", "rest", "weight", "line", "one", "row"]) (sc := defScope (top 23)) (by decide +kernel)) (fun _ _ _ _ _ => pg_name (i := 5) nd rfl (Or.inl rfl)) (fun es z => by simp at z) ?_ (by omega))) (by rw [List.map_map]; rfl)) rfl h.b_all))) (by rw [hall]; rfl)))) (fun _ => ss_one (s1_ret ee_bl rfl)) (fun z => nomatch z))
            intro e he s1 H1 C1 cl1 fp1
            exact (ee_call (fn_is_fraction h) (gx.room.mono (by decide)) (ea_cons (ee_var 5 rfl) ea_nil) (⟨_, rfl, rfl⟩))
          | true =>
            have hz0 : ∀ e ∈ es, e = eF 0 := by
              rcases hb with z | z | z | z
              · exact absurd z hc1.1
              · exact absurd z hc1.2
              · rw [hall] at z
                cases z
              · exact z
            refine ss_cons (s1_if (et_is (ew_et (ew_or (et_not (et_val (ee_all (bs := es.map isF) (ee_is (ef_ee (ef_mapA "one" 5 (es) (id) (fun e => .bool (isF e)) rfl nd (ei_is (ei_list (ee_var 4 rfl)) (by rw [List.map_id])) (blkOk_by (own := [("one", 5)]) (N := ["form", "paper", "rest", "weight", "line", "one", "row"]) (sc := defScope (top 23)) (by decide +kernel)) (fun _ _ _ _ _ => pg_name (i := 5) nd rfl (Or.inl rfl)) (fun es z => by simp at z) ?_ (by omega))) (by rw [List.map_map]; rfl)) rfl h.b_all))) (fun _ => ew_or1 (et_val (ee_all (bs := es.map fun _ => true) (ee_is (ef_ee (ef_mapA "one" 5 (es) (id) (fun e => .bool true) rfl nd (ei_is (ei_list (ee_var 4 rfl)) (by rw [List.map_id])) (blkOk_by (own := [("one", 5)]) (N := ["form", "paper", "rest", "weight", "line", "one", "row"]) (sc := defScope (top 23)) (by decide +kernel)) (fun _ _ _ _ _ => pg_name (i := 5) nd rfl (Or.inl rfl)) (fun es z => by simp at z) ?_ (by omega))) (by rw [List.map_map]; rfl)) rfl h.b_all))))) (b' := true) ?_) (fun _ => ss_one (s1_ret ee_bl rfl)) (fun z => nomatch z))
            · intro e he s1 H1 C1 cl1 fp1
              exact (ee_call (fn_is_fraction h) (gx.room.mono (by decide)) (ea_cons (ee_var 5 rfl) ea_nil) (⟨_, rfl, rfl⟩))
            · intro e he s1 H1 C1 cl1 fp1
              rw [hz0 e he, id]
              exact ee_is (ee_cmp (ee_var 5 rfl) (ee_glob h.k_NOUGHT) (od_eqC gx.blk) (nomark _)) rfl
            · rw [hall, List.all_eq_true.mpr fun b hb => by
                obtain ⟨_, _, rfl⟩ := List.mem_map.mp hb
                rfl]
              rfl
    · obtain ⟨hi, a, b, rfl, na, nb⟩ := hI
      rcases hB with ⟨rfl, hdz⟩ | ⟨d1, es, rfl, _, _, _⟩
      · have hiL : (L.map (ePr2 n) ++ []).length = L.length := by rw [List.append_nil, List.length_map]
        rw [hiL, List.take_length]
        refine ss_one (s1_ret (ee_all (bs := (List.range n).map fun j => ((List.range n).map fun k => decide (subF f' L j k = 0)).all id) (ee_is (ef_ee (ef_mapA "row" 6 (List.range n) (fun j => eP (mkV n (subF f' L j))) (fun j => .bool (((List.range n).map fun k => decide (subF f' L j k = 0)).all id)) rfl nd (ei_is (ei_list (ee_var 2 rfl)) (by unfold mkF; rw [List.map_map]; rfl)) (blkOk_by (own := [("row", 6)]) (N := ["form", "paper", "rest", "weight", "line", "one", "row"]) (sc := defScope (top 23)) (by decide +kernel)) (fun _ _ _ _ _ => pg_name (i := 6) nd rfl (Or.inl rfl)) (fun es z => by simp at z) ?_ (by rw [List.length_range]; omega))) (by rw [List.map_map]; rfl)) rfl h.b_all) hdz.symm)
        intro j hj s1 H1 C1 cl1 fp1
        refine ee_all (bs := (List.range n).map fun k => decide (subF f' L j k = 0)) (ee_is (ef_ee (ef_mapA "one" 5 (List.range n) (fun k => eF (subF f' L j k)) (fun k => .bool (decide (subF f' L j k = 0))) rfl nd (ei_is (ei_list (ee_var 6 rfl)) (by unfold mkV; rw [List.map_map]; rfl)) (blkOk_by (own := [("one", 5)]) rfl) (fun _ _ _ _ _ => pg_name (i := 5) nd rfl (Or.inl rfl)) (fun es z => by simp at z) ?_ (by rw [List.length_range]; omega))) (by rw [List.map_map]; rfl)) rfl h.b_all
        intro k hk s2 H2 C2 cl2 fp2
        exact ee_cmp (ee_var 5 rfl) (ee_glob h.k_NOUGHT) (od_eqC gx.blk.blk) (nomark _)
      · rw [List.length_append, List.length_map] at hi
        have : [(PyData.tuple [d1, .list es] : D)].length = 1 := rfl
        omega
  rcases hd with ⟨rfl, e⟩ | ⟨d1, es, rfl, hes, hb, e⟩
  · have := main [] (.inl ⟨rfl, e⟩)
    rw [List.append_nil] at this
    exact this
  · exact main _ (.inr ⟨d1, es, rfl, hes, hb, e⟩)


/-! ### the law's own reckoning of forms -/
theorem sumN_int {d : Int} {M : Nat} {a : Vc} : ∀ {m : Nat}, (∀ i, i < m → ∃ u : Int, u.natAbs ≤ M ∧ a i * (d : Rat) = (u : Rat)) → ∃ u : Int, u.natAbs ≤ m * M ∧ sumN m a * (d : Rat) = (u : Rat)
  | 0, _ => ⟨0, by simp, by show (0 : Rat) * _ = _; rw [Rat.zero_mul]; rfl⟩
  | m + 1, h => by
    obtain ⟨u, u1, u2⟩ := sumN_int (m := m) fun i hi => h i (by omega)
    obtain ⟨v, v1, v2⟩ := h m (by omega)
    refine ⟨u + v, ?_, ?_⟩
    · have := Int.natAbs_add_le u v
      rw [Nat.succ_mul]
      omega
    · show (sumN m a + a m) * _ = _
      rw [Rat.intCast_add, ← u2, ← v2]
      grind
def rowW (f : Mx) (x : Vc) (j k : Nat) : Rat := sumN k fun k' => f j k' * (x j * x k')
def totW (n : Nat) (f : Mx) (x : Vc) (j : Nat) : Rat := sumN j fun j' => rowW f x j' n
theorem totW_quad (n : Nat) (f : Mx) (x : Vc) : totW n f x n = quad n f x := by
  unfold totW quad dotN
  refine sumN_congr fun j _ => ?_
  unfold rowW
  show _ = sumN n (fun i => f j i * x i) * x j
  rw [show sumN n (fun i => f j i * x i) * x j = x j * sumN n (fun i => f j i * x i) by grind, ← sumN_mul]
  exact sumN_congr fun k _ => by grind
theorem totW_rz {n s t : Nat} {f : Mx} {x : Vc} (hf : FZ s n f) (hx : CV t n x) (hn : n ≤ 7) {j k : Nat} (hj : j ≤ n) (hk : k ≤ n) (hjk : j < n ∨ k = 0) : Rz (s + 2 * t + 6) (totW n f x j + rowW f x j k) := by
  obtain ⟨c, c0, c1, c2⟩ := hf
  obtain ⟨d, d0, d1, d2⟩ := hx
  have hterm : ∀ j, j < n → ∀ k, k < n → ∃ u : Int, u.natAbs ≤ 2 ^ (s + 2 * t) ∧ f j k * (x j * x k) * ((c * (d * d) : Int) : Rat) = (u : Rat) := fun j hj k hk => by
    obtain ⟨u, u1, u2⟩ := c2 j hj k hk
    obtain ⟨v, v1, v2⟩ := d2 j hj
    obtain ⟨w, w1, w2⟩ := d2 k hk
    have h3 := natAbs_mul_lt u1 (natAbs_mul_lt v1 w1)
    refine ⟨u * (v * w), by rw [show s + 2 * t = s + (t + t) by omega]; omega, ?_⟩
    rw [Rat.intCast_mul, Rat.intCast_mul, Rat.intCast_mul, Rat.intCast_mul, ← u2, ← v2, ← w2]
    grind
  have hrow : ∀ j, j < n → ∀ k, k ≤ n → ∃ u : Int, u.natAbs ≤ k * 2 ^ (s + 2 * t) ∧ rowW f x j k * ((c * (d * d) : Int) : Rat) = (u : Rat) := fun j hj k hk => sumN_int fun i hi => hterm j hj i (by omega)
  obtain ⟨u, u1, u2⟩ : ∃ u : Int, u.natAbs ≤ j * (n * 2 ^ (s + 2 * t)) ∧ totW n f x j * ((c * (d * d) : Int) : Rat) = (u : Rat) := sumN_int fun i hi => hrow i (by omega) n (Nat.le_refl _)
  obtain ⟨v, v1, v2⟩ : ∃ v : Int, v.natAbs ≤ k * 2 ^ (s + 2 * t) ∧ rowW f x j k * ((c * (d * d) : Int) : Rat) = (v : Rat) := by
    rcases hjk with z | z
    · exact hrow j z k hk
    · subst z
      exact ⟨0, by simp, by show (0 : Rat) * _ = _; rw [Rat.zero_mul]; rfl⟩
  have hp : 0 < 2 ^ (s + 2 * t) := Nat.pow_pos (by decide)
  have e : 2 ^ (s + 2 * t + 6) = 64 * 2 ^ (s + 2 * t) := by rw [Nat.pow_add]; omega
  have b1 : j * (n * 2 ^ (s + 2 * t)) ≤ 49 * 2 ^ (s + 2 * t) := by
    rw [← Nat.mul_assoc]
    exact Nat.mul_le_mul_right _ (Nat.mul_le_mul (show j ≤ 7 by omega) hn)
  have b2 : k * 2 ^ (s + 2 * t) ≤ 7 * 2 ^ (s + 2 * t) := Nat.mul_le_mul_right _ (by omega)
  refine rz_quot (t := u + v) (Int.mul_ne_zero c0 (Int.mul_ne_zero d0 d0)) ?_ ?_ ?_
  · have h3 := natAbs_mul_lt c1 (natAbs_mul_lt d1 d1)
    rw [show s + (t + t) = s + 2 * t by omega] at h3
    omega
  · have := Int.natAbs_add_le u v
    omega
  · rw [Rat.intCast_add, ← u2, ← v2]
    grind
def vLawW (ds : List D) (d : D) : Prop := ∃ (n s t : Nat) (f : Mx) (x : Vc), ds = [eM (mkF n f), eP (mkV n x)] ∧ FZ s n f ∧ CV t n x ∧ n ≤ 7 ∧ 3 * (s + 2 * t) + 30 ≤ LIM ∧ d = eF (quad n f x)
theorem sc__law_worth_at : FnScope ["form", "point", "found", "j", "row", "k", "one"] ["form", "point"] (defScope (top 38)) := ⟨rfl, rfl, rfl, by decide +kernel, rfl, by decide +kernel, by decide +kernel⟩
theorem fn__law_worth_at (h : Hd K mg base) : Fn PR w K mg base "_law_worth_at" 44 2 vLawW noX := by
  obtain ⟨f, fd, F, hm⟩ := h.d__law_worth_at
  refine fn_mk F sc__law_worth_at hm (F.bindsN fun _ _ _ _ _ _ us hl => match us, hl with | [_, _], _ => rfl) h.ns rfl (by decide) rfl (fun cdv A outer s H E X hX gx hp ds hl => ?_)
  subst hX
  have nd := sc__law_worth_at.nd
  refine ⟨fun d hv => ?_, fun c hc => hc.elim⟩
  obtain ⟨n, s', t', f', x, rfl, hf, hx, hn, hl, rfl⟩ := hv
  refine ss_cons (s1_set 2 (ee_is (ee_tup (ea_cons ee_int (ea_cons ee_int ea_nil))) (show _ = eF (0 : Rat) from rfl)) ?_ nd)
  have enumF : ∀ (i : Nat) (d : D), (enumD ((mkF n f').map eP))[i]? = some d → i < n ∧ d = .tuple [.int (i : Nat), eP (mkV n (f' i))] := fun i d hd => by
    obtain ⟨e, he, rfl⟩ := enumD_get hd
    have hi : i < n := by
      have := (List.getElem?_eq_some_iff.mp he).1
      rwa [List.length_map, mkF_len] at this
    rw [List.getElem?_map, mkF_get f' hi] at he
    exact ⟨hi, by rw [← Option.some.inj he]⟩
  have enumV : ∀ (v : Vc) (i : Nat) (d : D), (enumD ((mkV n v).map eF))[i]? = some d → i < n ∧ d = .tuple [.int (i : Nat), eF (v i)] := fun v i d hd => by
    obtain ⟨e, he, rfl⟩ := enumD_get hd
    have hi : i < n := by
      have := (List.getElem?_eq_some_iff.mp he).1
      rwa [List.length_map, mkV_len] at this
    rw [List.getElem?_map, mkV_get v hi] at he
    exact ⟨hi, by rw [← Option.some.inj he]⟩
  refine ss_cons (s1_for (fun j γ => ∃ a b c e, γ = [.dat (eM (mkF n f')), .dat (eP (mkV n x)), .dat (eF (totW n f' x j)), a, b, c, e] ∧ (∀ z, a ≠ .own z) ∧ (∀ z, b ≠ .own z) ∧ (∀ z, c ≠ .own z) ∧ ∀ z, e ≠ .own z) (ei_enum (ee_var 0 rfl) h.b_enumerate) ⟨.no, .no, .no, .no, rfl, noO, noO, noO, noO⟩ (fun j d γ hd hI => ?_) (fun γ hI => ?_) hp rfl)
  · obtain ⟨a, b, c, e, rfl, na, nb, nc, ne⟩ := hI
    obtain ⟨hj, rfl⟩ := enumF j d hd
    refine ⟨_, eg_pair (i := 3) (j := 4) rfl nd (ho := fun es z => na es (by simpa using z)), ?_⟩
    refine ss_one (s1_for (fun k γ => ∃ c e, γ = [.dat (eM (mkF n f')), .dat (eP (mkV n x)), .dat (eF (totW n f' x j + rowW f' x j k)), .dat (.int (j : Nat)), .dat (eP (mkV n (f' j))), c, e] ∧ (∀ z, c ≠ .own z) ∧ ∀ z, e ≠ .own z) (ei_enum (ee_var 4 rfl) h.b_enumerate) ⟨c, e, by show _ = [_, _, Sl.dat (eF (totW n f' x j + 0)), _, _, _, _]; rw [show totW n f' x j + 0 = totW n f' x j by grind]; rfl, nc, ne⟩ (fun k d γ hd hI => ?_) (fun γ hI => ?_) hp rfl)
    · obtain ⟨c, e, rfl, nc, ne⟩ := hI
      obtain ⟨hk, rfl⟩ := enumV (f' j) k d hd
      refine ⟨_, eg_pair (i := 5) (j := 6) rfl nd (ho := fun es z => nc es (by simpa using z)), ?_⟩
      have z1 := hx.rz hj
      have z2 := hx.rz hk
      have z3 := hf.rz hj hk
      have z4 := totW_rz hf hx hn (Nat.le_of_lt hj) (Nat.le_of_lt hk) (.inl hj)
      refine ss_one (s1_set 2 (ee_call (fn__law_plus h) (gx.room.mono (by decide)) (ea_cons (ee_var 2 rfl) (ea_cons (ee_call (fn__law_times h) (gx.room.mono (by decide)) (ea_cons (ee_var 6 rfl) (ea_cons (ee_call (fn__law_times h) (gx.room.mono (by decide)) (ea_cons (ee_ix (ee_var 1 rfl) (ee_var 3 rfl) (ix_vec x hj)) (ea_cons (ee_ix (ee_var 1 rfl) (ee_var 5 rfl) (ix_vec x hk)) ea_nil)) (⟨_, _, _, _, rfl, z1, z2, by omega, rfl⟩)) ea_nil)) (⟨_, _, _, _, rfl, z3, z1.mul z2, by omega, rfl⟩)) ea_nil)) (⟨_, _, _, _, rfl, z4, z3.mul (z1.mul z2), by omega, rfl⟩)) ?_ nd)
      refine ⟨.dat (.int (k : Nat)), .dat (eF (f' j k)), ?_, datO, datO⟩
      show _ = [_, _, Sl.dat (eF (totW n f' x j + (rowW f' x j k + f' j k * (x j * x k)))), _, _, _, _]
      rw [show totW n f' x j + (rowW f' x j k + f' j k * (x j * x k)) = totW n f' x j + rowW f' x j k + f' j k * (x j * x k) by grind]
      rfl
    · obtain ⟨c, e, rfl, nc, ne⟩ := hI
      rw [enumD_len, List.length_map, mkV_len]
      exact ⟨_, _, c, e, rfl, datO, datO, nc, ne⟩
  · obtain ⟨a, b, c, e, rfl, na, nb, nc, ne⟩ := hI
    rw [enumD_len, List.length_map, mkF_len, totW_quad]
    exact ss_one (s1_ret (ee_var 2 rfl) rfl)
/-! the form that a paper shows -/
def matD (n : Nat) (g : Mx) : List (List D) := (List.range n).map fun j => (List.range n).map fun k => eF (g j k)
theorem mat_eM (n : Nat) (g : Mx) : (PyData.list ((matD n g).map .list) : D) = eM (mkF n g) := by
  rw [eM_range]
  unfold matD
  rw [List.map_map]
  congr 1
  refine List.map_congr_left fun j _ => ?_
  rw [eP_range]
  rfl
theorem matD_get {n j : Nat} (g : Mx) (h : j < n) : (matD n g)[j]? = some ((List.range n).map fun k => eF (g j k)) := by
  unfold matD
  rw [List.getElem?_map, List.getElem?_range h]
  rfl
theorem matD_len (n : Nat) (g : Mx) : (matD n g).length = n := by
  unfold matD
  rw [List.length_map, List.length_range]
theorem rowD_get {n k : Nat} (v : Vc) (h : k < n) : ((List.range n).map fun k => eF (v k))[k]? = some (eF (v k)) := by
  rw [List.getElem?_map, List.getElem?_range h]
  rfl
def upd2 (g : Mx) (j k : Nat) (v : Rat) : Mx := fun a b => if a = j ∧ b = k then v else g a b
theorem matD_set {n j k : Nat} (g : Mx) (v : Rat) (hj : j < n) (hk : k < n) : (matD n g).set j (((List.range n).map fun k => eF (g j k)).set k (eF v)) = matD n (upd2 g j k v) := by
  refine List.ext_getElem? fun a => ?_
  by_cases ha : a < n
  · rw [matD_get _ ha]
    by_cases e : j = a
    · subst e
      rw [List.getElem?_set_self (by rw [matD_len]; exact ha)]
      congr 1
      refine List.ext_getElem? fun b => ?_
      by_cases hb : b < n
      · rw [rowD_get (upd2 g j k v j) hb]
        by_cases e2 : k = b
        · subst e2
          rw [List.getElem?_set_self (by rw [List.length_map, List.length_range]; exact hb)]
          show _ = some (eF (if j = j ∧ k = k then v else g j k))
          rw [if_pos ⟨rfl, rfl⟩]
        · rw [List.getElem?_set_ne e2, rowD_get (g j) hb]
          show _ = some (eF (if j = j ∧ b = k then v else g j b))
          rw [if_neg (fun z => e2 z.2.symm)]
      · rw [List.getElem?_eq_none (by rw [List.length_set, List.length_map, List.length_range]; omega), List.getElem?_eq_none (by rw [List.length_map, List.length_range]; omega)]
    · rw [List.getElem?_set_ne e, matD_get _ ha]
      congr 1
      refine List.map_congr_left fun b _ => ?_
      show _ = eF (if a = j ∧ b = k then v else g a b)
      rw [if_neg (fun z => e z.1.symm)]
  · rw [List.getElem?_eq_none (by rw [List.length_set, matD_len]; omega), List.getElem?_eq_none (by rw [matD_len]; omega)]
theorem matD_congr {n : Nat} {g g' : Mx} (h : ∀ j, j < n → ∀ k, k < n → g j k = g' j k) : matD n g = matD n g' := by
  unfold matD
  refine List.map_congr_left fun j hj => List.map_congr_left fun k hk => ?_
  rw [h j (List.mem_range.mp hj) k (List.mem_range.mp hk)]
def tmQ (q : Pr) (a b : Nat) : Rat := q.1 * (q.2 a * q.2 b)
def innQ (L : List Pr) (q : Pr) (j k : Nat) : Mx := fun a b => if a < j ∨ (a = j ∧ b < k) then pSum L a b + tmQ q a b else pSum L a b
structure PrZ2 (n t : Nat) (q : Pr) : Prop where
  zw : Rz t q.1
  zl : ∀ j, j < n → Rz t (q.2 j)
def vFormOf (ds : List D) (d : D) : Prop := ∃ (n t : Nat) (L : List Pr), ds = [ePN n L, .int (n : Nat)] ∧ n ≤ 7 ∧ (∀ q ∈ L, PrZ2 n t q) ∧ L.length ≤ 10 ∧ 12 * (3 * t + 1) + 10 ≤ LIM ∧ d = eM (mkF n (pSum L))
theorem pSum_rz {n t : Nat} : ∀ {L : List Pr}, (∀ q ∈ L, PrZ2 n t q) → ∀ j, j < n → ∀ k, k < n → Rz (1 + L.length * (3 * t + 1)) (pSum L j k)
  | [], _, j, _, k, _ => rz_zero.mono (by simp)
  | q :: L, h, j, hj, k, hk => by
    have ih := pSum_rz (L := L) (fun p hp => h p (List.mem_cons_of_mem _ hp)) j hj k hk
    have ho := h q List.mem_cons_self
    have h2 := ho.zw.mul ((ho.zl j hj).mul (ho.zl k hk))
    refine (h2.add ih).mono ?_
    have e2 : (L.length + 1) * (3 * t + 1) = L.length * (3 * t + 1) + (3 * t + 1) := Nat.succ_mul _ _
    rw [List.length_cons, e2]
    omega
theorem atI_row {rows : List (List D)} {j : Nat} {ds : List D} (h : rows[j]? = some ds) : atI rows ((j : Nat) : Int) = some ds := atI_nat h
theorem ixN_nat {n j : Nat} (h : j < n) : ixN n ((j : Nat) : Int) = some j := by
  unfold ixN
  rw [if_pos (by omega), if_pos (by omega)]
  rfl
theorem sc__law_form_of : FnScope ["paper", "many", "found", "j", "weight", "line", "k", "here"] ["paper", "many"] (defScope (top 39)) := ⟨rfl, rfl, rfl, by decide +kernel, rfl, by decide +kernel, by decide +kernel⟩
theorem fn__law_form_of (h : Hd K mg base) : Fn PR w K mg base "_law_form_of" 44 2 vFormOf noX := by
  obtain ⟨f, fd, F, hm⟩ := h.d__law_form_of
  refine fn_mk F sc__law_form_of hm (F.bindsN fun _ _ _ _ _ _ us hl => match us, hl with | [_, _], _ => rfl) h.ns rfl (by decide) rfl (fun cdv A outer s H E X hX gx hp ds hl => ?_)
  subst hX
  have nd := sc__law_form_of.nd
  refine ⟨fun d hv => ?_, fun c hc => hc.elim⟩
  obtain ⟨n, t', L, rfl, hn, hL, hL10, hl, rfl⟩ := hv
  refine ss_cons (s1_setLcN 2 (rows := matD n (pSum (L.take 0))) (en_mapA "j" 3 (List.range n) (fun i : Nat => PyData.int (i : Nat)) (fun _ => (List.range n).map fun _ => eF 0) rfl nd (ei_is (ei_range1 (ee_var 1 rfl) (by omega) h.b_range) (rangeD_map n)) (blkOk_by (own := [("j", 3)]) (N := ["paper", "many", "found", "j", "weight", "line", "k", "here"]) (sc := defScope (top 39)) (by decide +kernel)) (fun _ _ _ _ _ => pg_name (i := 3) nd rfl (Or.inl rfl)) (fun es z => by simp at z) ?_ (by rw [List.length_range]; omega)) (fun fs => ?_))
  · intro i hi s1 H1 C1 cl1 fp1
    refine ef_is (ef_rep (ef_lst (ea_cons (ee_is (ee_tup (ea_cons ee_int (ea_cons ee_int ea_nil))) (show _ = eF (0 : Rat) from rfl)) ea_nil)) (ee_var 1 rfl) (by omega) (by show 1 * _ ≤ _; omega)) ?_
    rw [Int.toNat_natCast]
    have : ∀ m : Nat, (List.replicate m [eF 0]).flatten = (List.range m).map fun _ => eF 0 := fun m => by
      rw [List.map_const', List.length_range]
      induction m with
      | zero => rfl
      | succ m ih => rw [List.replicate_succ, List.flatten_cons, ih, List.replicate_succ]; rfl
    exact this n
  refine ss_cons (s1_for (fun i γ => ∃ fs a b c e g, γ = [.dat (ePN n L), .dat (.int (n : Nat)), .own (.b (nlB (matD n (pSum (L.take i)))) fs), a, b, c, e, g] ∧ (∀ z, a ≠ .own z) ∧ (∀ z, b ≠ .own z) ∧ (∀ z, c ≠ .own z) ∧ (∀ z, e ≠ .own z) ∧ ∀ z, g ≠ .own z) (ei_list (ee_var 0 rfl)) ⟨fs, .no, .no, .no, .no, .no, rfl, noO, noO, noO, noO, noO⟩ (fun i d γ hd hI => ?_) (fun γ hI => ?_) hp rfl)
  · obtain ⟨fs, a, b, c, e, g, rfl, na, nb, nc, ne, ng⟩ := hI
    have hi : i < L.length := by simpa using (List.getElem?_eq_some_iff.mp hd).1
    have ed : d = ePr2 n L[i] := by
      rw [List.getElem?_map, List.getElem?_eq_getElem hi] at hd
      exact (Option.some.inj hd).symm
    subst ed
    have ho := hL _ (List.getElem_mem hi)
    have etk : L.take (i + 1) = L.take i ++ [L[i]] := by rw [List.take_add_one, List.getElem?_eq_getElem hi]; rfl
    have hrz := pSum_rz (n := n) (t := t') (L := L.take i) fun q hq => hL q (List.mem_of_mem_take hq)
    have hti : (L.take i).length * (3 * t' + 1) ≤ 10 * (3 * t' + 1) := Nat.mul_le_mul_right _ (by rw [List.length_take]; omega)
    have hnext : pSum (L.take (i + 1)) = fun a b => pSum (L.take i) a b + tmQ L[i] a b := by
      funext a b
      rw [etk, pSum_app]
      show _ + (_ + 0) = _
      unfold tmQ
      grind
    rw [hnext]
    clear hnext etk
    generalize L[i] = q at *
    generalize L.take i = M at *
    refine ⟨_, eg_pair (i := 4) (j := 5) rfl nd (ho := fun es z => nb es (by simpa using z)), ?_⟩
    refine ss_one (s1_for (fun j γ => ∃ fs a e g, γ = [.dat (ePN n L), .dat (.int (n : Nat)), .own (.b (nlB (matD n (innQ M q j 0))) fs), a, .dat (eF q.1), .dat (eP (mkV n q.2)), e, g] ∧ (∀ z, a ≠ .own z) ∧ (∀ z, e ≠ .own z) ∧ ∀ z, g ≠ .own z) (ei_range1 (ee_var 1 rfl) (by omega) h.b_range) ⟨fs, a, e, g, ?_, na, ne, ng⟩ (fun j d γ hd hI => ?_) (fun γ hI => ?_) hp rfl)
    · rw [matD_congr (g := innQ M q 0 0) (g' := pSum M) fun a _ b _ => if_neg (by omega)]
      rfl
    · obtain ⟨fs, a, e, g, rfl, na, ne, ng⟩ := hI
      obtain ⟨hj, rfl⟩ := rangeD_get hd
      have hj : j < n := by omega
      refine ⟨_, eg_name (i := 3) nd, ?_⟩
      refine ss_one (s1_for (fun k γ => ∃ fs e g, γ = [.dat (ePN n L), .dat (.int (n : Nat)), .own (.b (nlB (matD n (innQ M q j k))) fs), .dat (.int (j : Nat)), .dat (eF q.1), .dat (eP (mkV n q.2)), e, g] ∧ (∀ z, e ≠ .own z) ∧ ∀ z, g ≠ .own z) (ei_range1 (ee_var 1 rfl) (by omega) h.b_range) ⟨fs, e, g, rfl, ne, ng⟩ (fun k d γ hd hI => ?_) (fun γ hI => ?_) hp rfl)
      · obtain ⟨fs, e, g, rfl, ne, ng⟩ := hI
        obtain ⟨hk, rfl⟩ := rangeD_get hd
        have hk : k < n := by omega
        refine ⟨_, eg_name (i := 6) nd, ?_⟩
        have z1 := (ho.zl j hj).mul (ho.zl k hk)
        have z2 := ho.zw.mul z1
        have z3 := hrz j hj k hk
        refine ss_cons (s1_set 7 (ee_is (ee_call (fn__law_times h) (gx.room.mono (by decide)) (ea_cons (ee_var 4 rfl) (ea_cons (ee_call (fn__law_times h) (gx.room.mono (by decide)) (ea_cons (ee_ix (ee_var 5 rfl) (ee_var 3 rfl) (ix_vec q.2 hj)) (ea_cons (ee_ix (ee_var 5 rfl) (ee_var 6 rfl) (ix_vec q.2 hk)) ea_nil)) (⟨_, _, _, _, rfl, ho.zl j hj, ho.zl k hk, by omega, rfl⟩)) ea_nil)) (⟨_, _, _, _, rfl, ho.zw, z1, by omega, rfl⟩)) (show _ = eF (tmQ q j k) from rfl)) ?_ nd)
        have hval : innQ M q j k j k = pSum M j k := if_neg (by omega)
        refine ss_one (s1_setIx2 2 (rows := matD n (innQ M q j k)) (ds := (List.range n).map fun k' => eF (innQ M q j k j k')) (d := eF (pSum M j k + tmQ q j k)) (a := (j : Nat)) (b := (k : Nat)) (m := j) (n := k) (ee_call (fn__law_plus h) (gx.room.mono (by decide)) (ea_cons (ee_ix2 2 (rows := matD n (innQ M q j k)) (ds := (List.range n).map fun k' => eF (innQ M q j k j k')) (d := eF (pSum M j k)) (ha := (ee_var 3 rfl)) (hb := (ee_var 6 rfl)) (h1 := atI_row (matD_get _ hj)) (h2 := atI_nat (by rw [rowD_get (innQ M q j k j) hk, hval]))) (ea_cons (ee_var 7 rfl) ea_nil)) ⟨_, _, _, _, rfl, z3, z2, by omega, rfl⟩) (ee_var 3 rfl) (ee_var 6 rfl) (by rw [matD_len]; exact ixN_nat hj) (matD_get _ hj) (by rw [List.length_map, List.length_range]; exact ixN_nat hk) ?_)
        refine ⟨fs, .dat (.int (k : Nat)), .dat (eF (tmQ q j k)), ?_, datO, datO⟩
        rw [matD_set _ _ hj hk, matD_congr (g := upd2 (innQ M q j k) j k (pSum M j k + tmQ q j k)) (g' := innQ M q j (k + 1)) fun a _ b _ => ?_]
        · rfl
        · unfold upd2 innQ
          by_cases h1 : a = j ∧ b = k
          · rw [if_pos h1, if_pos (by omega), h1.1, h1.2]
          · rw [if_neg h1]
            by_cases h2 : a < j ∨ (a = j ∧ b < k)
            · rw [if_pos h2, if_pos (by omega)]
            · rw [if_neg h2, if_neg (by omega)]
      · obtain ⟨fs, e, g, rfl, ne, ng⟩ := hI
        rw [show (rangeD 0 ((n : Nat) : Int).toNat).length = n by simp [rangeD]]
        refine ⟨fs, .dat (.int (j : Nat)), e, g, ?_, datO, ne, ng⟩
        rw [matD_congr (g := innQ M q (j + 1) 0) (g' := innQ M q j n) fun a _ b hb => ?_]
        unfold innQ
        by_cases h2 : a < j + 1
        · rw [if_pos (by omega), if_pos (by omega)]
        · rw [if_neg (by omega), if_neg (by omega)]
    · obtain ⟨fs, a, e, g, rfl, na, ne, ng⟩ := hI
      rw [show (rangeD 0 ((n : Nat) : Int).toNat).length = n by simp [rangeD]]
      refine ⟨fs, a, .dat (eF q.1), .dat (eP (mkV n q.2)), e, g, ?_, na, datO, datO, ne, ng⟩
      rw [matD_congr (g := innQ M q n 0) (g' := fun a b => pSum M a b + tmQ q a b) fun a ha b _ => if_pos (by omega)]
  · obtain ⟨fs, a, b, c, e, g, rfl, na, nb, nc, ne, ng⟩ := hI
    rw [List.length_map, List.take_length]
    refine ss_freezeN 2 (rows := matD n (pSum L)) (ss_one (s1_ret (ee_var 2 rfl) ?_))
    exact mat_eM n (pSum L)


theorem sc__law_word : FnScope ["e", "flags", "flag"] ["e"] (defScope (top 31)) := ⟨rfl, rfl, rfl, by decide +kernel, rfl, by decide +kernel, by decide +kernel⟩
theorem fn_word_BadPoly (h : Hd K mg base) : FnW PR w K mg base "_law_word" 42 (He.ga K "BadPoly") "BadPoly" := by
  obtain ⟨f, fd, F, hm⟩ := h.d__law_word
  refine fnw_mk F sc__law_word hm (F.bindsN fun _ _ _ _ _ _ us hl => match us, hl with | [_], _ => rfl) rfl (fun X p cdv A outer s H hX hr hot hp hz hf _ _ => ?_)
  subst hX
  have nd := sc__law_word.nd
  refine ss_cons (s1_set 1 (ee_lst (ea_cons (ee_isP 0 (cl_own h.e_BadPoly.g) h.c_BadPoly hp hz hf h.i_BadPoly_BadPoly h.b_isinstance) (ea_cons (ee_isP 0 (cl_own h.e_NoWay.g) h.c_BadPoly hp hz hf h.i_BadPoly_NoWay h.b_isinstance) (ea_cons (ee_isP 0 (cl_own h.e_BadStretch.g) h.c_BadPoly hp hz hf h.i_BadPoly_BadStretch h.b_isinstance) ea_nil)))) ?_ nd)
  refine ss_cons (s1_set 1 (ee_is (ef_ee (ef_cat (ee_var 1) (ee_lst (ea_cons (ee_isP 0 (cl_own h.e_BadForm.g) h.c_BadPoly hp hz hf h.i_BadPoly_BadForm h.b_isinstance) ea_nil)) (Nat.le_of_ble_eq_true rfl))) (show _ = PyData.list ([true, false, false, false].map .bool) from rfl)) ?_ nd)
  refine ss_cons (s1_if (et_is (ew_et (ew_or (et_cmp (ee_sumH (ns := [1, 0, 0, 0]) (ee_is (ef_ee (ef_mapH "flag" 2 (fun d => match d with | .bool c => .int (if c then 1 else 0) | _ => .none) hot hp nd (ee_var 1) (blkOk_by (own := [("flag", 2)]) (N := ["e", "flags", "flag"]) (sc := defScope (top 31)) (by decide +kernel)) (fun _ _ _ _ _ => pg_name (i := 2) nd rfl (Or.inl rfl)) (fun es z => nomatch z) (fun d hd s1 H1 C1 cl1 fp1 => ?_) (Nat.le_of_ble_eq_true rfl))) rfl) ⟨p, hot, hp⟩ h.b_sum) ee_int (od_neH hr) (nomark _)) (fun _ => ew_or1 (et_not (et_val (ee_isP 0 (cl_ty h.b_ValueError (show bootBuiltins "ValueError" = some (.type "ValueError") by decide +kernel)) h.c_BadPoly hp hz hf h.v_BadPoly h.b_isinstance)))))) (b' := false) rfl) (fun z => nomatch z) (fun _ => ss_nil ?_))
  · obtain ⟨c, _, rfl⟩ := List.mem_map.mp hd
    exact ee_intB (ee_var 2) h.b_int
  · exact ss_one (s1_ret (ee_ix (ee_lst (ea_cons ee_str (ea_cons ee_str (ea_cons ee_str (ea_cons ee_str ea_nil))))) (ee_indexT 0 (ee_var 1) ee_bl rfl (fun m hm => by match m, hm with | m, hm => exact absurd hm (Nat.not_lt_zero m))) rfl) rfl)
theorem fn_word_NoWay (h : Hd K mg base) : FnW PR w K mg base "_law_word" 42 (He.ga K "NoWay") "NoWay" := by
  obtain ⟨f, fd, F, hm⟩ := h.d__law_word
  refine fnw_mk F sc__law_word hm (F.bindsN fun _ _ _ _ _ _ us hl => match us, hl with | [_], _ => rfl) rfl (fun X p cdv A outer s H hX hr hot hp hz hf _ _ => ?_)
  subst hX
  have nd := sc__law_word.nd
  refine ss_cons (s1_set 1 (ee_lst (ea_cons (ee_isP 0 (cl_own h.e_BadPoly.g) h.c_NoWay hp hz hf h.i_NoWay_BadPoly h.b_isinstance) (ea_cons (ee_isP 0 (cl_own h.e_NoWay.g) h.c_NoWay hp hz hf h.i_NoWay_NoWay h.b_isinstance) (ea_cons (ee_isP 0 (cl_own h.e_BadStretch.g) h.c_NoWay hp hz hf h.i_NoWay_BadStretch h.b_isinstance) ea_nil)))) ?_ nd)
  refine ss_cons (s1_set 1 (ee_is (ef_ee (ef_cat (ee_var 1) (ee_lst (ea_cons (ee_isP 0 (cl_own h.e_BadForm.g) h.c_NoWay hp hz hf h.i_NoWay_BadForm h.b_isinstance) ea_nil)) (Nat.le_of_ble_eq_true rfl))) (show _ = PyData.list ([false, true, false, false].map .bool) from rfl)) ?_ nd)
  refine ss_cons (s1_if (et_is (ew_et (ew_or (et_cmp (ee_sumH (ns := [0, 1, 0, 0]) (ee_is (ef_ee (ef_mapH "flag" 2 (fun d => match d with | .bool c => .int (if c then 1 else 0) | _ => .none) hot hp nd (ee_var 1) (blkOk_by (own := [("flag", 2)]) (N := ["e", "flags", "flag"]) (sc := defScope (top 31)) (by decide +kernel)) (fun _ _ _ _ _ => pg_name (i := 2) nd rfl (Or.inl rfl)) (fun es z => nomatch z) (fun d hd s1 H1 C1 cl1 fp1 => ?_) (Nat.le_of_ble_eq_true rfl))) rfl) ⟨p, hot, hp⟩ h.b_sum) ee_int (od_neH hr) (nomark _)) (fun _ => ew_or1 (et_not (et_val (ee_isP 0 (cl_ty h.b_ValueError (show bootBuiltins "ValueError" = some (.type "ValueError") by decide +kernel)) h.c_NoWay hp hz hf h.v_NoWay h.b_isinstance)))))) (b' := false) rfl) (fun z => nomatch z) (fun _ => ss_nil ?_))
  · obtain ⟨c, _, rfl⟩ := List.mem_map.mp hd
    exact ee_intB (ee_var 2) h.b_int
  · exact ss_one (s1_ret (ee_ix (ee_lst (ea_cons ee_str (ea_cons ee_str (ea_cons ee_str (ea_cons ee_str ea_nil))))) (ee_indexT 1 (ee_var 1) ee_bl rfl (fun m hm => by match m, hm with | 0, _ => exact rfl)) rfl) rfl)
theorem fn_word_BadStretch (h : Hd K mg base) : FnW PR w K mg base "_law_word" 42 (He.ga K "BadStretch") "BadStretch" := by
  obtain ⟨f, fd, F, hm⟩ := h.d__law_word
  refine fnw_mk F sc__law_word hm (F.bindsN fun _ _ _ _ _ _ us hl => match us, hl with | [_], _ => rfl) rfl (fun X p cdv A outer s H hX hr hot hp hz hf _ _ => ?_)
  subst hX
  have nd := sc__law_word.nd
  refine ss_cons (s1_set 1 (ee_lst (ea_cons (ee_isP 0 (cl_own h.e_BadPoly.g) h.c_BadStretch hp hz hf h.i_BadStretch_BadPoly h.b_isinstance) (ea_cons (ee_isP 0 (cl_own h.e_NoWay.g) h.c_BadStretch hp hz hf h.i_BadStretch_NoWay h.b_isinstance) (ea_cons (ee_isP 0 (cl_own h.e_BadStretch.g) h.c_BadStretch hp hz hf h.i_BadStretch_BadStretch h.b_isinstance) ea_nil)))) ?_ nd)
  refine ss_cons (s1_set 1 (ee_is (ef_ee (ef_cat (ee_var 1) (ee_lst (ea_cons (ee_isP 0 (cl_own h.e_BadForm.g) h.c_BadStretch hp hz hf h.i_BadStretch_BadForm h.b_isinstance) ea_nil)) (Nat.le_of_ble_eq_true rfl))) (show _ = PyData.list ([false, false, true, false].map .bool) from rfl)) ?_ nd)
  refine ss_cons (s1_if (et_is (ew_et (ew_or (et_cmp (ee_sumH (ns := [0, 0, 1, 0]) (ee_is (ef_ee (ef_mapH "flag" 2 (fun d => match d with | .bool c => .int (if c then 1 else 0) | _ => .none) hot hp nd (ee_var 1) (blkOk_by (own := [("flag", 2)]) (N := ["e", "flags", "flag"]) (sc := defScope (top 31)) (by decide +kernel)) (fun _ _ _ _ _ => pg_name (i := 2) nd rfl (Or.inl rfl)) (fun es z => nomatch z) (fun d hd s1 H1 C1 cl1 fp1 => ?_) (Nat.le_of_ble_eq_true rfl))) rfl) ⟨p, hot, hp⟩ h.b_sum) ee_int (od_neH hr) (nomark _)) (fun _ => ew_or1 (et_not (et_val (ee_isP 0 (cl_ty h.b_ValueError (show bootBuiltins "ValueError" = some (.type "ValueError") by decide +kernel)) h.c_BadStretch hp hz hf h.v_BadStretch h.b_isinstance)))))) (b' := false) rfl) (fun z => nomatch z) (fun _ => ss_nil ?_))
  · obtain ⟨c, _, rfl⟩ := List.mem_map.mp hd
    exact ee_intB (ee_var 2) h.b_int
  · exact ss_one (s1_ret (ee_ix (ee_lst (ea_cons ee_str (ea_cons ee_str (ea_cons ee_str (ea_cons ee_str ea_nil))))) (ee_indexT 2 (ee_var 1) ee_bl rfl (fun m hm => by match m, hm with | 0, _ => exact rfl | 1, _ => exact rfl)) rfl) rfl)
theorem fn_word_BadForm (h : Hd K mg base) : FnW PR w K mg base "_law_word" 42 (He.ga K "BadForm") "BadForm" := by
  obtain ⟨f, fd, F, hm⟩ := h.d__law_word
  refine fnw_mk F sc__law_word hm (F.bindsN fun _ _ _ _ _ _ us hl => match us, hl with | [_], _ => rfl) rfl (fun X p cdv A outer s H hX hr hot hp hz hf _ _ => ?_)
  subst hX
  have nd := sc__law_word.nd
  refine ss_cons (s1_set 1 (ee_lst (ea_cons (ee_isP 0 (cl_own h.e_BadPoly.g) h.c_BadForm hp hz hf h.i_BadForm_BadPoly h.b_isinstance) (ea_cons (ee_isP 0 (cl_own h.e_NoWay.g) h.c_BadForm hp hz hf h.i_BadForm_NoWay h.b_isinstance) (ea_cons (ee_isP 0 (cl_own h.e_BadStretch.g) h.c_BadForm hp hz hf h.i_BadForm_BadStretch h.b_isinstance) ea_nil)))) ?_ nd)
  refine ss_cons (s1_set 1 (ee_is (ef_ee (ef_cat (ee_var 1) (ee_lst (ea_cons (ee_isP 0 (cl_own h.e_BadForm.g) h.c_BadForm hp hz hf h.i_BadForm_BadForm h.b_isinstance) ea_nil)) (Nat.le_of_ble_eq_true rfl))) (show _ = PyData.list ([false, false, false, true].map .bool) from rfl)) ?_ nd)
  refine ss_cons (s1_if (et_is (ew_et (ew_or (et_cmp (ee_sumH (ns := [0, 0, 0, 1]) (ee_is (ef_ee (ef_mapH "flag" 2 (fun d => match d with | .bool c => .int (if c then 1 else 0) | _ => .none) hot hp nd (ee_var 1) (blkOk_by (own := [("flag", 2)]) (N := ["e", "flags", "flag"]) (sc := defScope (top 31)) (by decide +kernel)) (fun _ _ _ _ _ => pg_name (i := 2) nd rfl (Or.inl rfl)) (fun es z => nomatch z) (fun d hd s1 H1 C1 cl1 fp1 => ?_) (Nat.le_of_ble_eq_true rfl))) rfl) ⟨p, hot, hp⟩ h.b_sum) ee_int (od_neH hr) (nomark _)) (fun _ => ew_or1 (et_not (et_val (ee_isP 0 (cl_ty h.b_ValueError (show bootBuiltins "ValueError" = some (.type "ValueError") by decide +kernel)) h.c_BadForm hp hz hf h.v_BadForm h.b_isinstance)))))) (b' := false) rfl) (fun z => nomatch z) (fun _ => ss_nil ?_))
  · obtain ⟨c, _, rfl⟩ := List.mem_map.mp hd
    exact ee_intB (ee_var 2) h.b_int
  · exact ss_one (s1_ret (ee_ix (ee_lst (ea_cons ee_str (ea_cons ee_str (ea_cons ee_str (ea_cons ee_str ea_nil))))) (ee_indexT 3 (ee_var 1) ee_bl rfl (fun m hm => by match m, hm with | 0, _ => exact rfl | 1, _ => exact rfl | 2, _ => exact rfl)) rfl) rfl)
theorem sc_law : FnScope ["script", "k", "more", "many", "paper", "whole", "drawn", "j", "n", "point", "turned", "weight", "line", "row", "found", "bad", "odd", "none", "some"] ["script"] (defScope (top 42)) := ⟨rfl, rfl, rfl, by decide +kernel, rfl, by decide +kernel, by decide +kernel⟩
abbrev lawX (w : World) (K : PySem.W.Frag) (mg : Str → Option Value) (base : Heap) (f : Addr) (cdv : Value) (A : Around) (outer : List Env) (s : Shared) (H : Hp) (E : XK) : Cx := cxOf (L2N.CX PR w) PR w K mg base ["script", "k", "more", "many", "paper", "whole", "drawn", "j", "n", "point", "turned", "weight", "line", "row", "found", "bad", "odd", "none", "some"] "law" (defScope (top 42)) f cdv A outer s H E
def lT (K : PySem.W.Frag) : List (Addr × Str) := [((He.cT K ("law", none)).2, (envOfC "law" (defScope (top 42)) 0 0 .none).qual ++ "<lambda>"), ((He.cT K ("_law_right", none)).2, (envOfC "_law_right" (defScope (top 41)) 0 0 .none).qual ++ "<lambda>")]
structure TBs (K : PySem.W.Frag) (mg : Str → Option Value) (base : Heap) : Prop where
  t_law : LamX.TabB base mg (He.cT K ("law", none)).1 (He.cT K ("law", none)).2
  t__law_right : LamX.TabB base mg (He.cT K ("_law_right", none)).1 (He.cT K ("_law_right", none)).2
  n_law__law_right : (He.cT K ("law", none)).2 ≠ (He.cT K ("_law_right", none)).2
  n__law_right_law : (He.cT K ("_law_right", none)).2 ≠ (He.cT K ("law", none)).2
theorem sc__law_told : FnScope ["deed", "e"] ["deed"] (defScope (top 32)) := ⟨rfl, rfl, rfl, by decide +kernel, rfl, by decide +kernel, by decide +kernel⟩
theorem tld_law (h : Hd K mg base) (tb : TBs K mg base) {f : Addr} {cdv : Value} {A : Around} {outer : List Env} {s : Shared} {H : Hp} {E : XK} {k : Nat} (hcode : (cxOf (L2N.CX PR w) PR w K mg base ["script", "k", "more", "many", "paper", "whole", "drawn", "j", "n", "point", "turned", "weight", "line", "row", "found", "bad", "odd", "none", "some"] "law" (defScope (top 42)) f cdv A outer s H E).env.code = .ref (He.codeOf K ("law", none))) (hr : Room (k + 2) (cxOf (L2N.CX PR w) PR w K mg base ["script", "k", "more", "many", "paper", "whole", "drawn", "j", "n", "point", "turned", "weight", "line", "row", "found", "bad", "odd", "none", "some"] "law" (defScope (top 42)) f cdv A outer s H E).A) (hkw : 42 ≤ k + 1) :
    Tld (cxOf (L2N.CX PR w) PR w K mg base ["script", "k", "more", "many", "paper", "whole", "drawn", "j", "n", "point", "turned", "weight", "line", "row", "found", "bad", "odd", "none", "some"] "law" (defScope (top 42)) f cdv A outer s H E) (lT K) k 42 (He.ga K "NoughtError") := by
  obtain ⟨g, fd, F, hm⟩ := h.d__law_told
  intro params body scope p lpos pos L hdef hbind
  exact pe_told (X := (cxOf (L2N.CX PR w) PR w K mg base ["script", "k", "more", "many", "paper", "whole", "drawn", "j", "n", "point", "turned", "weight", "line", "row", "found", "bad", "odd", "none", "some"] "law" (defScope (top 42)) f cdv A outer s H E)) (kw := 42) (st := top 32) F rfl rfl hm (F.bindsN fun _ _ _ _ _ _ us hl => match us, hl with | [_], _ => rfl) sc__law_told (Or.inl rfl) rfl rfl h.e_NoughtError.g rfl tb.t_law hcode (List.Mem.head _) (fun p hp e => by
    simp only [lT, List.mem_cons, List.not_mem_nil, or_false] at hp
    rcases hp with rfl | rfl
    · exact rfl
    · exact absurd e tb.n__law_right_law) hr hkw L hdef hbind (by decide) (by decide) (by decide) (by decide) (by decide) (by decide) (by decide)
theorem tld__law_right (h : Hd K mg base) (tb : TBs K mg base) {f : Addr} {cdv : Value} {A : Around} {outer : List Env} {s : Shared} {H : Hp} {E : XK} {k : Nat} (hcode : (cxOf (L2N.CX PR w) PR w K mg base ["form", "is_so", "many", "told", "paper", "weight", "line"] "_law_right" (defScope (top 41)) f cdv A outer s H E).env.code = .ref (He.codeOf K ("_law_right", none))) (hr : Room (k + 2) (cxOf (L2N.CX PR w) PR w K mg base ["form", "is_so", "many", "told", "paper", "weight", "line"] "_law_right" (defScope (top 41)) f cdv A outer s H E).A) (hkw : 42 ≤ k + 1) :
    Tld (cxOf (L2N.CX PR w) PR w K mg base ["form", "is_so", "many", "told", "paper", "weight", "line"] "_law_right" (defScope (top 41)) f cdv A outer s H E) (lT K) k 42 (He.ga K "NoughtError") := by
  obtain ⟨g, fd, F, hm⟩ := h.d__law_told
  intro params body scope p lpos pos L hdef hbind
  exact pe_told (X := (cxOf (L2N.CX PR w) PR w K mg base ["form", "is_so", "many", "told", "paper", "weight", "line"] "_law_right" (defScope (top 41)) f cdv A outer s H E)) (kw := 42) (st := top 32) F rfl rfl hm (F.bindsN fun _ _ _ _ _ _ us hl => match us, hl with | [_], _ => rfl) sc__law_told (Or.inl rfl) rfl rfl h.e_NoughtError.g rfl tb.t__law_right hcode (List.Mem.tail _ (List.Mem.head _)) (fun p hp e => by
    simp only [lT, List.mem_cons, List.not_mem_nil, or_false] at hp
    rcases hp with rfl | rfl
    · exact absurd e tb.n_law__law_right
    · exact rfl) hr hkw L hdef hbind (by decide) (by decide) (by decide) (by decide) (by decide) (by decide) (by decide)
theorem lenL {l : List Sl} (h : l.length = 18) : ∃ a1 a2 a3 a4 a5 a6 a7 a8 a9 a10 a11 a12 a13 a14 a15 a16 a17 a18, l = [a1, a2, a3, a4, a5, a6, a7, a8, a9, a10, a11, a12, a13, a14, a15, a16, a17, a18] := by
  match l, h with
  | [a1, a2, a3, a4, a5, a6, a7, a8, a9, a10, a11, a12, a13, a14, a15, a16, a17, a18], _ => exact ⟨a1, a2, a3, a4, a5, a6, a7, a8, a9, a10, a11, a12, a13, a14, a15, a16, a17, a18, rfl⟩
theorem noL {a1 a2 a3 a4 a5 a6 a7 a8 a9 a10 a11 a12 a13 a14 a15 a16 a17 a18 : Sl} (h1 : ∀ z, a1 ≠ .own z) (h2 : ∀ z, a2 ≠ .own z) (h3 : ∀ z, a3 ≠ .own z) (h4 : ∀ z, a4 ≠ .own z) (h5 : ∀ z, a5 ≠ .own z) (h6 : ∀ z, a6 ≠ .own z) (h7 : ∀ z, a7 ≠ .own z) (h8 : ∀ z, a8 ≠ .own z) (h9 : ∀ z, a9 ≠ .own z) (h10 : ∀ z, a10 ≠ .own z) (h11 : ∀ z, a11 ≠ .own z) (h12 : ∀ z, a12 ≠ .own z) (h13 : ∀ z, a13 ≠ .own z) (h14 : ∀ z, a14 ≠ .own z) (h15 : ∀ z, a15 ≠ .own z) (h16 : ∀ z, a16 ≠ .own z) (h17 : ∀ z, a17 ≠ .own z) (h18 : ∀ z, a18 ≠ .own z) : ∀ x ∈ [a1, a2, a3, a4, a5, a6, a7, a8, a9, a10, a11, a12, a13, a14, a15, a16, a17, a18], ∀ z, x ≠ .own z := fun x hx => by
  simp only [List.mem_cons, List.not_mem_nil, or_false] at hx
  rcases hx with rfl | rfl | rfl | rfl | rfl | rfl | rfl | rfl | rfl | rfl | rfl | rfl | rfl | rfl | rfl | rfl | rfl | rfl <;> assumption
/-- the law's slots: the script, and nothing of one's own -/
def IvL (d : D) (γ : List Sl) : Prop := ∃ l : List Sl, γ = .dat d :: l ∧ l.length = 18 ∧ ∀ x ∈ l, ∀ z, x ≠ .own z
/-! ### the law's papers -/
def papW (h : Int) : Rat := mkRat (1 + h % 5) (1 + h / 8 % 3).toNat
def papQ (m : Int) (j : Nat) : Pr := (papW (drawnZ m (j : Nat)), fun k => fracZ (drawnZ (drawnZ m (j : Nat)) (k : Nat)))
def zeroV (n : Nat) (v : Vc) : Bool := ((List.range n).map fun k => decide (v k = 0)).all id
def papTo (m : Int) (n : Nat) : Nat → List Pr
  | 0 => []
  | i + 1 => if zeroV n (papQ m i).2 = true then papTo m n i else papTo m n i ++ [papQ m i]
def papZ (m : Int) (n : Nat) : List Pr := papTo m n (m % ((n : Nat) + 2)).toNat
theorem papW_ok (h : Int) : 0 < papW h ∧ Rz 4 (papW h) := by
  have h1 := Int.emod_nonneg h (show (5 : Int) ≠ 0 by decide)
  have h2 := Int.emod_lt_of_pos h (show (0 : Int) < 5 by decide)
  have h3 := Int.emod_nonneg (h / 8) (show (3 : Int) ≠ 0 by decide)
  have h4 := Int.emod_lt_of_pos (h / 8) (show (0 : Int) < 3 by decide)
  refine ⟨?_, Rz.mk (by omega) (by omega) (by omega)⟩
  unfold papW
  have hu : 0 < (1 + h / 8 % 3).toNat := by omega
  generalize (1 + h / 8 % 3).toNat = u at *
  have a1 : (0 : Rat) < ((1 + h % 5 : Int) : Rat) := Rat.intCast_pos.mpr (by omega)
  have a2 : (0 : Rat) < ((u : Int) : Rat) := Rat.intCast_pos.mpr (by omega)
  have e : mkRat (1 + h % 5) u * ((u : Int) : Rat) = ((1 + h % 5 : Int) : Rat) := by
    rw [Rat.mkRat_eq_div]
    exact Rat.div_mul_cancel (fun z => by
      have z : ((u : Int) : Rat) = 0 := z
      rw [z] at a2
      exact absurd a2 (by decide))
  refine Classical.byContradiction fun z => ?_
  have := Rat.mul_nonneg (show 0 ≤ -mkRat (1 + h % 5) u by grind) (Rat.le_of_lt a2)
  grind
theorem papTo_ok (m : Int) (n : Nat) : ∀ i, (∀ q ∈ papTo m n i, PrOk n 4 q) ∧ (papTo m n i).length ≤ i
  | 0 => ⟨fun q hq => (nomatch hq), Nat.le_refl _⟩
  | i + 1 => by
    obtain ⟨h1, h2⟩ := papTo_ok m n i
    have e : papTo m n (i + 1) = if zeroV n (papQ m i).2 = true then papTo m n i else papTo m n i ++ [papQ m i] := rfl
    rw [e]
    by_cases hz : zeroV n (papQ m i).2 = true
    · rw [if_pos hz]
      exact ⟨h1, by omega⟩
    · rw [if_neg hz]
      refine ⟨fun q hq => ?_, by rw [List.length_append]; show _ + 1 ≤ _; omega⟩
      rcases List.mem_append.mp hq with z | z
      · exact h1 q z
      · rw [List.mem_singleton.mp z]
        refine ⟨(papW_ok _).1, (papW_ok _).2, fun j _ => rz_frac _, ?_⟩
        unfold zeroV at hz
        rw [range_all, decide_eq_true_eq] at hz
        refine Classical.byContradiction fun w => hz fun k hk => decide_eq_true (Classical.byContradiction fun y => w ⟨k, hk, y⟩)
def vPapZ (ds : List D) (d : D) : Prop := ∃ (m : Int) (n : Nat), ds = [.int m, .int (n : Nat)] ∧ m.natAbs < 2 ^ 1000 ∧ n ≤ 6 ∧ d = ePN n (papZ m n)
theorem sc__law_paper : FnScope ["more", "many", "found", "j", "here", "line", "k", "one"] ["more", "many"] (defScope (top 40)) := ⟨rfl, rfl, rfl, by decide +kernel, rfl, by decide +kernel, by decide +kernel⟩
theorem fn__law_paper (h : Hd K mg base) : Fn PR w K mg base "_law_paper" 44 2 vPapZ noX := by
  obtain ⟨f, fd, F, hm⟩ := h.d__law_paper
  refine fn_mk F sc__law_paper hm (F.bindsN fun _ _ _ _ _ _ us hl => match us, hl with | [_, _], _ => rfl) h.ns rfl (by decide) rfl (fun cdv A outer s H E X hX gx hp ds hl => ?_)
  subst hX
  have nd := sc__law_paper.nd
  refine ⟨fun d hv => ?_, fun c hc => hc.elim⟩
  obtain ⟨m, n, rfl, hm, hn, rfl⟩ := hv
  have h1 := Int.emod_nonneg m (show ((n : Nat) : Int) + 2 ≠ 0 by omega)
  have h2 := Int.emod_lt_of_pos m (show (0 : Int) < ((n : Nat) : Int) + 2 by omega)
  have hm2 : m.natAbs < 2 ^ 1048600 := Nat.lt_of_lt_of_le hm (Nat.pow_le_pow_right (by decide) (by decide))
  refine ss_cons (s1_setO 2 (ds := (papTo m n 0).map (ePr2 n)) (ef_lst ea_nil) ?_ nd (fun es z => by simp at z))
  refine ss_cons (s1_for (fun i γ => ∃ a b c e g, γ = [.dat (.int m), .dat (.int (n : Nat)), .own ((papTo m n i).map (ePr2 n)), a, b, c, e, g] ∧ (∀ z, a ≠ .own z) ∧ (∀ z, b ≠ .own z) ∧ (∀ z, c ≠ .own z) ∧ (∀ z, e ≠ .own z) ∧ ∀ z, g ≠ .own z) (ei_range1 (ee_op (ee_var 0 rfl) (ee_op (ee_var 1 rfl) ee_int od_add) (od_mod (by omega))) (by omega) h.b_range) ⟨.no, .no, .no, .no, .no, rfl, noO, noO, noO, noO, noO⟩ (fun i d γ hd hI => ?_) (fun γ hI => ?_) hp rfl)
  · obtain ⟨a, b, c, e, g, rfl, na, nb, nc, ne, ng⟩ := hI
    obtain ⟨hi, rfl⟩ := rangeD_get hd
    have hi : i < 8 := by omega
    refine ⟨_, eg_name (i := 3) nd, ?_⟩
    have i1000 : i < 2 ^ 1000 := Nat.lt_of_lt_of_le (show i < 2 ^ 3 by omega) (Nat.pow_le_pow_right (by decide) (by decide))
    refine ss_cons (s1_set 4 (ee_call (fn__law_drawn h) (gx.room.mono (by decide)) (ea_cons (ee_var 0 rfl) (ea_cons (ee_var 3 rfl) ea_nil)) (⟨m, i, rfl, hm2, i1000, rfl⟩)) ?_ nd)
    have hH := drawn_in m (i : Nat)
    obtain ⟨hok, hlen⟩ := papTo_ok m n i
    have hstep : papTo m n (i + 1) = if zeroV n (papQ m i).2 = true then papTo m n i else papTo m n i ++ [papQ m i] := rfl
    have hq : papQ m i = (papW (drawnZ m (i : Nat)), fun k => fracZ (drawnZ (drawnZ m (i : Nat)) (k : Nat))) := rfl
    rw [hstep, hq]
    clear hstep hq
    generalize drawnZ m (i : Nat) = hr at *
    have hr2 : hr.natAbs < 2 ^ 1048600 := Nat.lt_of_lt_of_le (show hr.natAbs < 2 ^ 129 by unfold cM at hH; omega) (Nat.pow_le_pow_right (by decide) (by decide))
    refine ss_cons (s1_setLc 5 (ds := (mkV n fun k => fracZ (drawnZ hr (k : Nat))).map eF) (el_is (el_mapA "k" 6 (List.range n) (fun i : Nat => PyData.int (i : Nat)) (fun k => eF (fracZ (drawnZ hr (k : Nat)))) rfl nd (ei_is (ei_range1 (ee_var 1 rfl) (by omega) h.b_range) (rangeD_map n)) (blkOk_by (own := [("k", 6)]) (N := ["more", "many", "found", "j", "here", "line", "k", "one"]) (sc := defScope (top 40)) (by decide +kernel)) (fun _ _ _ _ _ => pg_name (i := 6) nd rfl (Or.inl rfl)) (fun es z => ne es (by simpa using z)) ?_ (by rw [List.length_range]; omega)) (by unfold mkV; rw [List.map_map]; rfl)) ?_)
    · intro k hk s1 H1 C1 cl1 fp1
      have hk := List.mem_range.mp hk
      have k1000 : k < 2 ^ 1000 := Nat.lt_of_lt_of_le (show k < 2 ^ 3 by omega) (Nat.pow_le_pow_right (by decide) (by decide))
      exact (ee_call (fn__law_fraction h) (gx.room.mono (by decide)) (ea_cons (ee_call (fn__law_drawn h) (gx.room.mono (by decide)) (ea_cons (ee_var 4 rfl) (ea_cons (ee_var 6 rfl) ea_nil)) (⟨hr, k, rfl, hr2, k1000, rfl⟩)) ea_nil) ⟨_, rfl, rfl⟩)
    have h3 := Int.emod_nonneg (hr / 8) (show (3 : Int) ≠ 0 by decide)
    refine ss_one (s1_if (et_not (et_val (ee_all (bs := (List.range n).map fun k => decide (fracZ (drawnZ hr (k : Nat)) = 0)) (ee_is (ef_ee (ef_mapA "one" 7 (List.range n) (fun k => eF (fracZ (drawnZ hr (k : Nat)))) (fun k => .bool (decide (fracZ (drawnZ hr (k : Nat)) = 0))) rfl nd (ei_is (ei_list (ee_var 5 rfl)) (by unfold mkV; rw [List.map_map]; rfl)) (blkOk_by (own := [("one", 7)]) (N := ["more", "many", "found", "j", "here", "line", "k", "one"]) (sc := defScope (top 40)) (by decide +kernel)) (fun _ _ _ _ _ => pg_name (i := 7) nd rfl (Or.inl rfl)) (fun es z => ng es (by simpa using z)) ?_ (by rw [List.length_range]; omega))) (by rw [List.map_map]; rfl)) rfl h.b_all))) (fun hk => ?_) (fun hk => ?_))
    · intro k hk s1 H1 C1 cl1 fp1
      exact (ee_cmp (ee_var 7 rfl) (ee_is (ee_tup (ea_cons ee_int (ea_cons ee_int ea_nil))) (show _ = eF (0 : Rat) from rfl)) (od_eqC gx.blk) (nomark _))
    · have hz : ¬ zeroV n (fun k => fracZ (drawnZ hr (k : Nat))) = true := fun z => by
        unfold zeroV at z
        rw [z] at hk
        cases hk
      rw [if_neg hz]
      refine ss_one (s1_append 2 (ds := (papTo m n i).map (ePr2 n)) (d := ePr2 n (papW hr, fun k => fracZ (drawnZ hr (k : Nat)))) (ee_tup (ea_cons (ee_call (fn__law_made h) (gx.room.mono (by decide)) (ea_cons (ee_op ee_int (ee_op (ee_var 4 rfl) ee_int (od_mod (by decide))) od_add) (ea_cons (ee_op ee_int (ee_op (ee_op (ee_var 4 rfl) ee_int (od_fdiv gx (by decide))) ee_int (od_mod (by decide))) od_add) ea_nil)) (⟨1 + hr % 5, (1 + hr / 8 % 3).toNat, by rw [show (((1 + hr / 8 % 3).toNat : Nat) : Int) = 1 + hr / 8 % 3 by omega], by omega, rfl⟩)) (ea_cons (ee_var 5 rfl) ea_nil))) ?_ (by rw [List.length_map]; omega))
      refine ⟨.dat (.int (i : Nat)), .dat (.int hr), .dat (eP (mkV n fun k => fracZ (drawnZ hr (k : Nat)))), e, g, ?_, datO, datO, datO, ne, ng⟩
      rw [List.map_append]
      rfl
    · have hz : zeroV n (fun k => fracZ (drawnZ hr (k : Nat))) = true := by
        unfold zeroV
        simpa using hk
      rw [if_pos hz]
      exact ss_nil ⟨.dat (.int (i : Nat)), .dat (.int hr), .dat (eP (mkV n fun k => fracZ (drawnZ hr (k : Nat)))), e, g, rfl, datO, datO, datO, ne, ng⟩
  · obtain ⟨a, b, c, e, g, rfl, na, nb, nc, ne, ng⟩ := hI
    rw [show (rangeD 0 (m % (((n : Nat) : Int) + 2)).toNat).length = (m % (((n : Nat) : Int) + 2)).toNat by simp [rangeD]]
    exact ss_freeze 2 (ds := (papZ m n).map (ePr2 n)) (ss_one (s1_ret (ee_var 2 rfl) rfl))
/-! ### what is told is right -/
theorem sh_eM (F : List (List Rat)) : Sh 3 (eM F) := sh_list fun d hd => by
  obtain ⟨r, _, rfl⟩ := List.mem_map.mp hd
  exact sh_eP r
theorem eqv_eM : ∀ F G : List (List Rat), PyData.eqv (eM F) (eM G) = decide (F = G) := fun F G => by
  have h : ∀ F G : List (List Rat), PyData.eqvAll (F.map eP) (G.map eP) = decide (F = G) := fun F => by
    induction F with
    | nil => intro G; cases G <;> simp [PyData.eqvAll]
    | cons r F ih =>
      intro G
      cases G with
      | nil => simp [PyData.eqvAll]
      | cons r' G =>
        simp only [List.map_cons, PyData.eqvAll]
        rw [eqv_eP, ih G]
        by_cases h1 : r = r' <;> by_cases h2 : F = G <;> simp [h1, h2]
  unfold eM
  simp only [PyData.eqv]
  exact h F G
instance (F G : List (List Rat)) : EqvD (eM F) (eM G) (decide (F = G)) := ⟨(sh_eM F).ok3, (sh_eM G).ok3, eqv_eM F G⟩
theorem mkF_eq {n : Nat} {f g : Mx} : mkF n f = mkF n g ↔ ∀ j, j < n → ∀ k, k < n → f j k = g j k := by
  constructor
  · intro h j hj k hk
    have h1 := mkF_get f hj
    rw [h, mkF_get g hj] at h1
    have h2 := mkV_get (f j) hk
    rw [← Option.some.inj h1, mkV_get (g j) hk] at h2
    exact (Option.some.inj h2).symm
  · intro h
    unfold mkF mkV
    exact List.map_congr_left fun j hj => List.map_congr_left fun k hk => h j (List.mem_range.mp hj) k (List.mem_range.mp hk)
theorem zeroB_eq (n : Nat) (f : Mx) (L : List Pr) : zeroB n (subF f L) = decide (mkF n (pSum L) = mkF n f) := by
  unfold zeroB
  rw [range_all]
  refine decide_eq_decide.mpr ?_
  rw [mkF_eq]
  constructor
  · intro h j hj k hk
    have := h j hj
    rw [range_all, decide_eq_true_eq] at this
    have := of_decide_eq_true (this k hk)
    unfold subF at this
    grind
  · intro h j hj
    rw [range_all, decide_eq_true_eq]
    intro k hk
    refine decide_eq_true ?_
    unfold subF
    rw [h j hj k hk]
    grind
def vRight (ds : List D) (d : D) : Prop := ∃ (n : Nat) (F : Mx) (b : Bool), ds = [eM (mkF n F), .bool b] ∧ 1 ≤ n ∧ n ≤ 6 ∧ Sym n F ∧ (∀ j, j < n → ∀ k, k < n → Rz 100 (F j k)) ∧ (b = true → ∀ x, 0 ≤ quad n F x) ∧ d = .bool true
theorem sc__law_right : FnScope ["form", "is_so", "many", "told", "paper", "weight", "line"] ["form", "is_so"] (defScope (top 41)) := ⟨rfl, rfl, rfl, by decide +kernel, rfl, by decide +kernel, by decide +kernel⟩
theorem fnt__law_right (h : Hd K mg base) (tb : TBs K mg base) : FnT PR w K mg base "_law_right" 55 2 (lT K) vRight := by
  obtain ⟨f, fd, F, hm⟩ := h.d__law_right
  have hf : f = He.ga K "_law_right" := by
    have e := hm.symm.trans h.g__law_right
    injection e with e
    injection e
  refine fnt_mk F sc__law_right hm (F.bindsN fun _ _ _ _ _ _ us hl => match us, hl with | [_, _], _ => rfl) hf rfl (by decide) h.ns rfl (fun cdv A outer s H E X hX gx hp hcode ds hl d hv => ?_)
  subst hX
  have nd := sc__law_right.nd
  have told := tld__law_right (k := 52) h tb hcode gx.room (by decide)
  obtain ⟨n, F0, is, rfl, h1, h6, hsy, hrz, hso, rfl⟩ := hv
  have hz := fz_of h6 (by decide) hrz
  obtain ⟨dd, hset, hgood⟩ := sett_all (F := F0) (show 0 < 37 * 100 by decide) (by omega) n (cntN_le F0 n) (st_start hsy hz)
  have h3 : 3 ^ n ≤ 3 ^ 6 := Nat.pow_le_pow_right (by decide) h6
  have h36 : (3 : Nat) ^ 6 = 729 := by decide
  have hb : 37 * 100 * 3 ^ n ≤ 37 * 100 * 729 := Nat.mul_le_mul_left _ (by omega)
  have bl : LIM = 134217728 := rfl
  have hvs : vSett [eM (mkF n F0)] dd := ⟨n, 37 * 100, F0, rfl, h1, h6, hsy, hz, by decide, by omega, hset⟩
  refine ss_cons (s1_set 2 (ee_len (ee_var 0 rfl) (n := n) (by show some _ = some _; rw [List.length_map, mkF_len]) h.b_len) ?_ nd)
  refine ss_cons (s1_set 3 (ee_told told (fun A' outer' s' H' f' c' E' hr => (ee_call (fn_form_settled h) (hr.mono (by decide)) (ea_cons (ee_var 0 rfl) ea_nil) (hvs)))) ?_ nd)
  rcases hgood with ⟨x, rfl, hneg, hcv⟩ | ⟨L, rfl, hLn, hL, hsum⟩
  · have hfalse : is = false := by
      cases is with
      | false => rfl
      | true => exact absurd hneg (by have := hso rfl x; grind)
    subst hfalse
    refine ss_keep (s1_if (et_is (ew_et (ew_or (et_not (et_val (ee_isi "tuple" (ee_var 3 rfl) (.inl rfl) h.b_isinstance h.b_tuple PyProof.Rows.boot_tuple))) (fun hk1 => (ew_or1 (et_cmp (ee_lenC (ee_var 3 rfl) h.b_len) ee_int (od_neC gx) (nomark _)))))) (b' := false) rfl) (fun z => nomatch z) (fun _ => ss_nil rfl)) ?_
    refine ss_cons (s1_if (et_is (et_cmp (ee_ix (ee_var 3 rfl) ee_int rfl) ee_str (od_eq gx (by decide +kernel) (by decide +kernel)) (nomark _)) (b' := true) (by decide +kernel)) (fun _ => ?_) (fun z => nomatch z))
    refine ss_one (s1_ret (ee_is (ee_and (ee_not (ee_var 1 rfl)) (fun _ => ee_and (ee_cmp (ee_len (ee_ix (ee_var 3 rfl) ee_int rfl) (n := n) (by show some _ = some _; rw [List.length_map, mkV_len]) h.b_len) (ee_var 2 rfl) (od_eqC gx) (nomark _)) (fun _ => ee_one (ee_cmp (ee_ix (ee_call (fn__law_worth_at h) (gx.room.mono (by decide)) (ea_cons (ee_var 0 rfl) (ea_cons (ee_ix (ee_var 3 rfl) ee_int rfl) ea_nil)) (⟨n, _, _, F0, x, rfl, hz, hcv, by omega, by omega, rfl⟩)) ee_int rfl) ee_int od_lt (nomark _))))) ?_) rfl)
    rw [decide_eq_true rfl, decide_eq_true (num_lt0.mpr hneg)]
    rfl
  · have hB : ∀ q ∈ L, PrOk n (37 * 100 * 3 ^ n) q := fun q hq => ⟨(hL q hq).1, (hL q hq).2.1, fun j hj => (hL q hq).2.2.1.rz hj, (hL q hq).2.2.2⟩
    have heq : mkF n (pSum L) = mkF n F0 := mkF_eq.mpr hsum
    refine ss_keep (s1_if (et_is (ew_et (ew_or (et_not (et_val (ee_isi "tuple" (ee_var 3 rfl) (.inl rfl) h.b_isinstance h.b_tuple PyProof.Rows.boot_tuple))) (fun hk1 => (ew_or1 (et_cmp (ee_lenC (ee_var 3 rfl) h.b_len) ee_int (od_neC gx) (nomark _)))))) (b' := false) rfl) (fun z => nomatch z) (fun _ => ss_nil rfl)) ?_
    refine ss_keep (s1_if (et_is (et_cmp (ee_ix (ee_var 3 rfl) ee_int rfl) ee_str (od_eq gx (by decide +kernel) (by decide +kernel)) (nomark _)) (b' := false) (by decide +kernel)) (fun z => nomatch z) (fun _ => ss_nil rfl)) ?_
    refine ss_cons (s1_set 4 (ee_ix (ee_var 3 rfl) ee_int rfl) ?_ nd)
    refine ss_keep (s1_if (et_is (ew_et (ew_or (et_cmp (ee_ix (ee_var 3 rfl) ee_int rfl) ee_str (od_ne gx (by decide +kernel) (by decide +kernel)) (nomark _)) (fun _ => ew_or (et_cmp (ee_len (ee_var 4 rfl) (n := L.length) (by show some _ = some _; rw [List.length_map]) h.b_len) (ee_var 2 rfl) od_gt (nomark _)) (fun _ => ew_or1 (et_not (et_val (ee_all (bs := L.map fun _ => true) (ee_is (ef_ee (ef_map2A "weight" "line" 5 6 (L) (fun q => eF q.1) (fun q => eP (mkV n q.2)) (fun _ => .bool true) (by decide) rfl nd (ei_is (ei_list (ee_var 4 rfl)) (rfl)) (blkOk_by (own := [("weight", 5), ("line", 6)]) (N := ["form", "is_so", "many", "told", "paper", "weight", "line"]) (sc := defScope (top 41)) (by decide +kernel)) (fun _ _ _ _ _ => pg_tup rfl (pgs_cons (pg_name (i := 5) nd rfl (Or.inl rfl)) (pgs_cons (pg_name (i := 6) nd rfl (Or.inl rfl)) pgs_nil))) (fun es z => by simp at z) (fun es z => by simp at z) ?_ (by omega))) (by rw [List.map_map]; rfl)) rfl h.b_all))))))) (b' := false) ?_) (fun z => nomatch z) (fun _ => ss_nil rfl)) ?_
    · intro q hq s1 H1 C1 cl1 fp1
      exact ee_is (ee_cmp (ee_ix (ee_var 5 rfl) ee_int rfl) ee_int od_gt (nomark _)) (congrArg PyData.bool (decide_eq_true (num_lt.mpr (hL q hq).1)))
    · rw [decide_eq_false (by omega), List.all_eq_true.mpr fun b hb => by
        obtain ⟨_, _, rfl⟩ := List.mem_map.mp hb
        rfl]
      decide +kernel
    refine ss_one (s1_ret (ee_is (ee_and (ee_cmp (ee_call (fn__law_form_of h) (gx.room.mono (by decide)) (ea_cons (ee_var 4 rfl) (ea_cons (ee_var 2 rfl) ea_nil)) (⟨n, _, L, rfl, by omega, fun q hq => ⟨(hB q hq).zw, (hB q hq).zl⟩, by omega, by omega, rfl⟩)) (ee_var 0 rfl) (od_eqC gx) (nomark _)) (fun _ => ee_one (ee_cmp (ee_call (fn_form_shows h) (gx.room.mono (by decide)) (ea_cons (ee_var 0 rfl) (ea_cons (ee_var 4 rfl) ea_nil)) (⟨n, 100, _, F0, L, h1, h6, hsy, hrz, hB, by omega, by omega, .inl ⟨rfl, rfl⟩⟩)) ee_bl od_isB (nomark _)))) ?_) rfl)
    rw [zeroB_eq, decide_eq_true heq]
    rfl


theorem cut_one (ds : List D) : cutD ds none (some 1) = ds.take 1 := by
  unfold cutD
  rw [show HT.sIx ds.length ds.length (some 1) = min 1 ds.length from HT.sIx_nat ds.length ds.length 1, HT.sIx_none]
  cases ds with
  | nil => rfl
  | cons x r =>
    rw [show min 1 (x :: r).length = 1 by rw [List.length_cons]; omega]
    rfl
theorem cut_rest (ds : List D) : cutD ds (some 1) none = ds.drop 1 := by
  unfold cutD
  rw [show HT.sIx ds.length 0 (some 1) = min 1 ds.length from HT.sIx_nat ds.length 0 1, HT.sIx_none]
  cases ds with
  | nil => rfl
  | cons x r =>
    rw [show min 1 (x :: r).length = 1 by rw [List.length_cons]; omega]
    show (List.take ((x :: r).length - 1) r) = r
    rw [List.length_cons, Nat.add_sub_cancel]
    exact List.take_length
def drV (M : Int) (a b : Nat) : Rat := fracZ (drawnZ M (9 * ((max a b : Nat) : Int) + ((min a b : Nat) : Int)))
def drQ (M : Int) (j m : Nat) : Mx := fun a b => if max a b < j ∨ (max a b = j ∧ min a b < m) then drV M a b else 0
theorem drV_sym (M : Int) (n : Nat) : Sym n (drV M) := fun a _ b _ => by
  unfold drV
  rw [Nat.max_comm, Nat.min_comm]
def turnV (l : Vc) : Vc := fun i => if i = 0 then -1 * l 0 else l i
theorem turn_list {n : Nat} (h : 1 ≤ n) (l : Vc) : eF (-1 * l 0) :: ((mkV n l).map eF).drop 1 = (mkV n (turnV l)).map eF := by
  obtain ⟨m, rfl⟩ : ∃ m, n = m + 1 := ⟨n - 1, by omega⟩
  unfold mkV
  rw [List.range_succ_eq_map, List.map_cons, List.map_cons, List.map_cons, List.map_cons]
  show _ :: _ = eF (turnV l 0) :: _
  congr 1
  show ((List.range m).map Nat.succ |>.map l).map eF = _
  rw [List.map_map, List.map_map, List.map_map, List.map_map]
  refine List.map_congr_left fun i _ => ?_
  show eF (l (i + 1)) = eF (if i + 1 = 0 then _ else l (i + 1))
  rw [if_neg (by omega)]
def turnP (L : List Pr) : List Pr := ((L.take 1).map fun q => (q.1, turnV q.2)) ++ L.drop 1
def rows5 (L : List Pr) : List (List Pr) := [L, L.drop 1, L ++ L.take 1, L.reverse, turnP L]
theorem rows5_ok {n : Nat} {L : List Pr} (h1 : 1 ≤ n) (h : ∀ q ∈ L, PrOk n 4 q) (hl : L.length ≤ 7) : ∀ M ∈ rows5 L, (∀ q ∈ M, PrOk n 8 q) ∧ M.length ≤ 10 := by
  have h8 : ∀ q ∈ L, PrOk n 8 q := fun q hq => ⟨(h q hq).pos, (h q hq).zw.mono (by decide), fun j hj => ((h q hq).zl j hj).mono (by decide), (h q hq).ne⟩
  intro M hM
  simp only [rows5, List.mem_cons, List.not_mem_nil, or_false] at hM
  rcases hM with rfl | rfl | rfl | rfl | rfl
  · exact ⟨h8, by omega⟩
  · exact ⟨fun q hq => h8 q (List.mem_of_mem_drop hq), by rw [List.length_drop]; omega⟩
  · refine ⟨fun q hq => ?_, by rw [List.length_append, List.length_take]; omega⟩
    rcases List.mem_append.mp hq with z | z
    · exact h8 q z
    · exact h8 q (List.mem_of_mem_take z)
  · exact ⟨fun q hq => h8 q (List.mem_reverse.mp hq), by rw [List.length_reverse]; omega⟩
  · refine ⟨fun q hq => ?_, by unfold turnP; rw [List.length_append, List.length_map, List.length_take, List.length_drop]; omega⟩
    rcases List.mem_append.mp hq with z | z
    · obtain ⟨p, hp, rfl⟩ := List.mem_map.mp z
      have hp' := h p (List.mem_of_mem_take hp)
      refine ⟨hp'.pos, hp'.zw.mono (by decide), fun j hj => ?_, ?_⟩
      · show Rz 8 (if j = 0 then -1 * p.2 0 else p.2 j)
        by_cases e : j = 0
        · rw [if_pos e, show -1 * p.2 0 = -p.2 0 by grind]
          exact (hp'.zl 0 (by omega)).neg.mono (by decide)
        · rw [if_neg e]
          exact (hp'.zl j hj).mono (by decide)
      · obtain ⟨k, k1, k2⟩ := hp'.ne
        refine ⟨k, k1, ?_⟩
        show (if k = 0 then -1 * p.2 0 else p.2 k) ≠ 0
        by_cases e : k = 0
        · rw [if_pos e]
          rw [e] at k2
          grind
        · rw [if_neg e]
          exact k2
    · exact h8 q (List.mem_of_mem_drop z)
def ones1 (n : Nat) : List D := List.replicate n (eF 1)
def badL (n : Nat) : List D := [.tuple [eF 0, .list (ones1 n)], .tuple [eF (-1), .list (ones1 n)], .tuple [eF 1, .list (List.replicate n (eF 0))], .tuple [eF 1, .list (ones1 (n + 1))], .tuple [eF 1, .list (List.replicate n (.int 1))], .tuple [.tuple [.int 2, .int 2], .list (ones1 n)], .tuple [eF 1, .list []]]
theorem rep_one (n : Nat) (d : D) : (List.replicate n [d]).flatten = List.replicate n d := by
  induction n with
  | zero => rfl
  | succ n ih => rw [List.replicate_succ, List.flatten_cons, ih, List.replicate_succ]; rfl
theorem badL_at {n : Nat} (h1 : 1 ≤ n) (h6 : n ≤ 6) (i : Nat) (hi : i < 7) : ∃ d1 es, (badL n)[i]? = some (.tuple [d1, .list es]) ∧ es.length ≤ 100 ∧ BadPr n d1 es := by
  have hl : ∀ m (d : D), (List.replicate m d).length = m := fun m d => List.length_replicate
  match i, hi with
  | 0, _ => exact ⟨_, _, rfl, by unfold ones1; rw [hl]; omega, .inr ⟨0, rfl, .inl (by decide)⟩⟩
  | 1, _ => exact ⟨_, _, rfl, by unfold ones1; rw [hl]; omega, .inr ⟨-1, rfl, .inl (by decide)⟩⟩
  | 2, _ => exact ⟨_, _, rfl, by rw [hl]; omega, .inr ⟨1, rfl, .inr (.inr (.inr fun e he => (List.mem_replicate.mp he).2))⟩⟩
  | 3, _ => exact ⟨_, _, rfl, by unfold ones1; rw [hl]; omega, .inr ⟨1, rfl, .inr (.inl (by unfold ones1; rw [hl]; omega))⟩⟩
  | 4, _ =>
    refine ⟨_, _, rfl, by rw [hl]; omega, .inr ⟨1, rfl, .inr (.inr (.inl ?_))⟩⟩
    obtain ⟨m, rfl⟩ : ∃ m, n = m + 1 := ⟨n - 1, by omega⟩
    rw [List.replicate_succ]
    rfl
  | 5, _ => exact ⟨_, _, rfl, by unfold ones1; rw [hl]; omega, .inl (by decide +kernel)⟩
  | 6, _ => exact ⟨_, _, rfl, by decide, .inr ⟨1, rfl, .inr (.inl (by show 0 ≠ n; omega))⟩⟩
  | m + 7, h => exact absurd h (by omega)
def oddR : List (List (List D)) := [[], [[eF 1], [eF 1]], [[eF 1, eF 2], [eF 3, eF 1]], [[.int 1]], [[.tuple [.int 2, .int 2]]], List.replicate 7 (List.replicate 7 (eF 1)), [[.none]]]
theorem oddR_at (i : Nat) (hi : i < 7) : ∃ rows, oddR[i]? = some rows ∧ ShRows rows ∧ ¬ FormOk rows := by
  have k1 : oddR.all (fun rows => decide (rows.length ≤ 100) && rows.all fun r => r.all fun e => SeqAt.shaped e) = true := by decide +kernel
  have k2 : oddR.all (fun rows => !(rowsB rows && (List.range rows.length).all fun j => (List.range rows.length).all fun k => entB rows j k)) = true := by decide +kernel
  have hl : oddR.length = 7 := rfl
  have hi' : i < oddR.length := by omega
  refine ⟨oddR[i], List.getElem?_eq_getElem hi', ?_, fun z => ?_⟩
  · have := List.all_eq_true.mp k1 _ (List.getElem_mem hi')
    rw [Bool.and_eq_true] at this
    exact ⟨of_decide_eq_true this.1, fun r hr e he => List.all_eq_true.mp (List.all_eq_true.mp this.2 r hr) e he⟩
  · have := List.all_eq_true.mp k2 _ (List.getElem_mem hi')
    rw [z.1, Bool.true_and, List.all_eq_true.mpr fun j hj => List.all_eq_true.mpr fun k hk => z.2 j (List.mem_range.mp hj) k (List.mem_range.mp hk)] at this
    cases this
theorem ix_mod {ds : List D} {z : Int} {m : Int} (hm : 0 < m) (hl : ds.length = m.toNat) {d : D} {i : Nat} (e : z % m = (i : Nat)) (h : ds[i]? = some d) : ixD (.list ds) (z % m) = some d := by
  rw [e]
  exact atI_nat h
theorem law_ss (h : Hd K mg base) (tb : TBs K mg base) {f : Addr} {cdv : Value} {A : Around} {outer : List Env} {s : Shared} {H : Hp} {E : XK} (gx : Gx (lawX w K mg base f cdv A outer s H E) 60) (hp : PassesOwn (model (lawX w K mg base f cdv A outer s H E).prog (lawX w K mg base f cdv A outer s H E).w) (lawX w K mg base f cdv A outer s H E).A (lawX w K mg base f cdv A outer s H E).env (lawX w K mg base f cdv A outer s H E).xe) (hcode : (lawX w K mg base f cdv A outer s H E).env.code = .ref (He.codeOf K ("law", none)))
    (ns : List Int) (hn : ns.length ≤ 63) (hb : ∀ z ∈ ns, Builtin.Int.intBits z ≤ 1048576) :
    SS (SameN (lT K)) (lawX w K mg base f cdv A outer s H E) (.dat (.list (ns.map .int)) :: List.replicate 18 .no) (defBody (top 42)) { rt := fun e => e = .bool true } := by
  have nd := sc_law.nd
  have rm : Room 60 (lawX w K mg base f cdv A outer s H E).A := gx.room
  have told := tld_law (k := 58) h tb hcode gx.room (by decide)
  refine ss_cons (s1_for (fun _ γ => IvL (.list (ns.map .int)) γ) (ei_range1 (ee_max ee_int (ee_min ee_int (ee_len (ee_var 0 rfl) (n := ns.length) (by simp [lenD]) h.b_len) rfl h.b_min) rfl h.b_max) (by omega) h.b_range) ⟨_, rfl, rfl, fun x hx z => by rw [(List.mem_replicate.mp hx).2]; exact noO z⟩ (fun i d γ hd hI => ?_) (fun γ hI => ?_) hp rfl)
  rotate_left
  · obtain ⟨l, rfl, hl, no⟩ := hI
    obtain ⟨a1, a2, a3, a4, a5, a6, a7, a8, a9, a10, a11, a12, a13, a14, a15, a16, a17, a18, rfl⟩ := lenL hl
    exact ss_one (s1_ret ee_bl rfl)
  obtain ⟨l, rfl, hl, no⟩ := hI
  obtain ⟨a1, a2, a3, a4, a5, a6, a7, a8, a9, a10, a11, a12, a13, a14, a15, a16, a17, a18, rfl⟩ := lenL hl
  obtain ⟨hi, rfl⟩ := rangeD_get hd
  have hiC : i < 4 := by omega
  have no1 : ∀ z, a1 ≠ .own z := no a1 (by simp)
  have no2 : ∀ z, a2 ≠ .own z := no a2 (by simp)
  have no3 : ∀ z, a3 ≠ .own z := no a3 (by simp)
  have no4 : ∀ z, a4 ≠ .own z := no a4 (by simp)
  have no5 : ∀ z, a5 ≠ .own z := no a5 (by simp)
  have no6 : ∀ z, a6 ≠ .own z := no a6 (by simp)
  have no7 : ∀ z, a7 ≠ .own z := no a7 (by simp)
  have no8 : ∀ z, a8 ≠ .own z := no a8 (by simp)
  have no9 : ∀ z, a9 ≠ .own z := no a9 (by simp)
  have no10 : ∀ z, a10 ≠ .own z := no a10 (by simp)
  have no11 : ∀ z, a11 ≠ .own z := no a11 (by simp)
  have no12 : ∀ z, a12 ≠ .own z := no a12 (by simp)
  have no13 : ∀ z, a13 ≠ .own z := no a13 (by simp)
  have no14 : ∀ z, a14 ≠ .own z := no a14 (by simp)
  have no15 : ∀ z, a15 ≠ .own z := no a15 (by simp)
  have no16 : ∀ z, a16 ≠ .own z := no a16 (by simp)
  have no17 : ∀ z, a17 ≠ .own z := no a17 (by simp)
  have no18 : ∀ z, a18 ≠ .own z := no a18 (by simp)
  refine ⟨_, eg_name (i := 1) nd, ?_⟩
  have i1000 : i < 2 ^ 1000 := Nat.lt_of_lt_of_le (show i < 2 ^ 3 by omega) (Nat.pow_le_pow_right (by decide) (by decide))
  refine ss_cons (s1_set 2 (ee_call (fn__law_drawn h) (rm.mono (by decide)) (ea_cons (ee_call (fn__law_cell h) (rm.mono (by decide)) (ea_cons (ee_var 0 rfl) (ea_cons (ee_var 1 rfl) ea_nil)) ⟨ns, i, rfl, by omega, by omega, rfl⟩) (ea_cons (ee_var 1 rfl) ea_nil)) ⟨cellZ ns i, i, rfl, cellZ_lt hb (by omega), i1000, rfl⟩) ?_ nd)
  have hM := drawn_in (cellZ ns i) i
  generalize drawnZ (cellZ ns i) i = M at hM
  have small : ∀ j : Int, 0 ≤ j → j ≤ M → j.natAbs < 2 ^ 1000 := fun j h0 h1 => Nat.lt_of_lt_of_le (show j.natAbs < 2 ^ 129 by unfold cM at hM; omega) (Nat.pow_le_pow_right (by decide) (by decide))
  have dv : ∀ k : Int, 0 < k → (M / k).natAbs < 2 ^ 1000 := fun k hk => small _ (Int.ediv_nonneg hM.1 (by omega)) (Int.ediv_le_self k hM.1)
  have M2 : M.natAbs < 2 ^ 1048600 := Nat.lt_of_lt_of_le (small M hM.1 (Int.le_refl _)) (Nat.pow_le_pow_right (by decide) (by decide))
  have bl : LIM = 134217728 := rfl
  obtain ⟨n, hn⟩ : ∃ n : Nat, 1 + M % 6 = (n : Nat) := ⟨(1 + M % 6).toNat, by have := Int.emod_nonneg M (show (6 : Int) ≠ 0 by decide); omega⟩
  have h1 : 1 ≤ n := by have := Int.emod_nonneg M (show (6 : Int) ≠ 0 by decide); omega
  have h6 : n ≤ 6 := by have := Int.emod_lt_of_pos M (show (0 : Int) < 6 by decide); omega
  refine ss_cons (s1_set 3 (ee_is (ee_op ee_int (ee_op (ee_var 2 rfl) ee_int (od_mod (by decide))) od_add) (congrArg PyData.int hn)) ?_ nd)
  refine ss_cons (s1_set 4 (ee_call (fn__law_paper h) (rm.mono (by decide)) (ea_cons (ee_op (ee_var 2 rfl) ee_int (od_fdiv gx (by decide))) (ea_cons (ee_var 3 rfl) ea_nil)) (⟨M / 8, n, rfl, dv 8 (by decide), h6, rfl⟩)) ?_ nd)
  obtain ⟨hL4, hLl⟩ := papTo_ok (M / 8) n (M / 8 % ((n : Nat) + 2)).toNat
  have hLl : (papZ (M / 8) n).length ≤ 7 := by
    have := Int.emod_lt_of_pos (M / 8) (show (0 : Int) < ((n : Nat) : Int) + 2 by omega)
    unfold papZ
    omega
  have hL4 : ∀ q ∈ papZ (M / 8) n, PrOk n 4 q := hL4
  generalize papZ (M / 8) n = L at *
  have hz2 : ∀ q ∈ L, PrZ2 n 4 q := fun q hq => ⟨(hL4 q hq).zw, (hL4 q hq).zl⟩
  refine ss_cons (s1_set 5 (ee_call (fn__law_form_of h) (rm.mono (by decide)) (ea_cons (ee_var 4 rfl) (ea_cons (ee_var 3 rfl) ea_nil)) (⟨n, 4, L, rfl, by omega, hz2, by omega, by decide, rfl⟩)) ?_ nd)
  -- the drawn form
  refine ss_cons (s1_setN 6 (rows := matD n fun _ _ => 0) (en_mapA "j" 7 (List.range n) (fun i : Nat => PyData.int (i : Nat)) (fun _ => (List.range n).map fun _ => eF 0) rfl nd (ei_is (ei_range1 (ee_var 3 rfl) (by omega) h.b_range) (rangeD_map n)) (blkOk_by (own := [("j", 7)]) (N := ["script", "k", "more", "many", "paper", "whole", "drawn", "j", "n", "point", "turned", "weight", "line", "row", "found", "bad", "odd", "none", "some"]) (sc := defScope (top 42)) (by decide +kernel)) (fun _ _ _ _ _ => pg_name (i := 7) nd rfl (Or.inl rfl)) (fun es z => no7 es (by simpa using z)) ?_ (by rw [List.length_range]; omega)) (fun fs => ?_) nd)
  · intro i hi s1 H1 C1 cl1 fp1
    refine ef_is (ef_rep (ef_lst (ea_cons (ee_is (ee_tup (ea_cons ee_int (ea_cons ee_int ea_nil))) (show _ = eF (0 : Rat) from rfl)) ea_nil)) (ee_var 3 rfl) (by omega) (by show 1 * _ ≤ _; omega)) ?_
    rw [Int.toNat_natCast, rep_one, List.map_const', List.length_range]
  refine ss_midT (fun γ => ∃ fs a b, γ = [.dat (.list (ns.map .int)), .dat (.int (i : Nat)), .dat (.int M), .dat (.int (n : Nat)), .dat (ePN n L), .dat (eM (mkF n (pSum L))), .own (.b (nlB (matD n (drV M))) fs), a, b, a9, a10, a11, a12, a13, a14, a15, a16, a17, a18] ∧ (∀ z, a ≠ .own z) ∧ ∀ z, b ≠ .own z)
    (s1_for (fun j γ => ∃ fs a b, γ = [.dat (.list (ns.map .int)), .dat (.int (i : Nat)), .dat (.int M), .dat (.int (n : Nat)), .dat (ePN n L), .dat (eM (mkF n (pSum L))), .own (.b (nlB (matD n (drQ M j 0))) fs), a, b, a9, a10, a11, a12, a13, a14, a15, a16, a17, a18] ∧ (∀ z, a ≠ .own z) ∧ ∀ z, b ≠ .own z) (ei_range1 (ee_var 3 rfl) (by omega) h.b_range) ⟨fs, a7, a8, ?_, no7, no8⟩ (fun j d γ hd hI => ?_) (fun γ hI => ?_) hp rfl) (fun γ hI => ?_)
  · rw [matD_congr (g := drQ M 0 0) (g' := fun _ _ => 0) fun a _ b _ => if_neg (by omega)]
    rfl
  · obtain ⟨fs, a, b, rfl, na, nb⟩ := hI
    obtain ⟨hj, rfl⟩ := rangeD_get hd
    have hj : j < n := by omega
    refine ⟨_, eg_name (i := 7) nd, ?_⟩
    refine ss_one (s1_for (fun m γ => ∃ fs b, γ = [.dat (.list (ns.map .int)), .dat (.int (i : Nat)), .dat (.int M), .dat (.int (n : Nat)), .dat (ePN n L), .dat (eM (mkF n (pSum L))), .own (.b (nlB (matD n (drQ M j m))) fs), .dat (.int (j : Nat)), b, a9, a10, a11, a12, a13, a14, a15, a16, a17, a18] ∧ ∀ z, b ≠ .own z) (ei_range1 (ee_op (ee_var 7 rfl) ee_int od_add) (by omega) h.b_range) ⟨fs, b, rfl, nb⟩ (fun m d γ hd hI => ?_) (fun γ hI => ?_) hp rfl)
    · obtain ⟨fs, b, rfl, nb⟩ := hI
      obtain ⟨hm, rfl⟩ := rangeD_get hd
      have hm : m ≤ j := by omega
      have hmn : m < n := by omega
      refine ⟨_, eg_name (i := 8) nd, ?_⟩
      have hbig : (9 * ((j : Nat) : Int) + ((m : Nat) : Int)).natAbs < 2 ^ 1000 := Nat.lt_of_lt_of_le (show _ < 2 ^ 10 by omega) (Nat.pow_le_pow_right (by decide) (by decide))
      have hv1 : fracZ (drawnZ M (9 * ((j : Nat) : Int) + ((m : Nat) : Int))) = drV M j m := by
        unfold drV
        rw [Nat.max_eq_left hm, Nat.min_eq_right hm]
      refine ss_cons (s1_setIx2 6 (rows := matD n (drQ M j m)) (ds := (List.range n).map fun k' => eF (drQ M j m j k')) (d := eF (drV M j m)) (a := (j : Nat)) (b := (m : Nat)) (m := j) (n := m) (ee_is (ee_call (fn__law_fraction h) (rm.mono (by decide)) (ea_cons (ee_call (fn__law_drawn h) (rm.mono (by decide)) (ea_cons (ee_var 2 rfl) (ea_cons (ee_op (ee_op ee_int (ee_var 7 rfl) (od_mul (mulx (n := 4) (m := 4) (by decide) (by rw [Int.natAbs_natCast]; show _ < 16; omega) (by decide)))) (ee_var 8 rfl) od_add) ea_nil)) (⟨M, _, rfl, M2, hbig, rfl⟩)) ea_nil) ⟨_, rfl, rfl⟩) (congrArg eF hv1)) (ee_var 7 rfl) (ee_var 8 rfl) (by rw [matD_len]; exact ixN_nat hj) (matD_get _ hj) (by rw [List.length_map, List.length_range]; exact ixN_nat hmn) ?_)
      rw [matD_set _ _ hj hmn]
      refine ss_one (s1_setIx2 6 (rows := matD n (upd2 (drQ M j m) j m (drV M j m))) (ds := (List.range n).map fun k' => eF (upd2 (drQ M j m) j m (drV M j m) m k')) (d := eF (drV M j m)) (a := (m : Nat)) (b := (j : Nat)) (m := m) (n := j) (ee_ix2 6 (rows := matD n (upd2 (drQ M j m) j m (drV M j m))) (ds := (List.range n).map fun k' => eF (upd2 (drQ M j m) j m (drV M j m) j k')) (d := eF (drV M j m)) (ha := (ee_var 7 rfl)) (hb := (ee_var 8 rfl)) (h1 := atI_row (matD_get _ hj)) (h2 := atI_nat (by rw [rowD_get (upd2 (drQ M j m) j m (drV M j m) j) hmn]; show some (eF (if j = j ∧ m = m then _ else _)) = _; rw [if_pos ⟨rfl, rfl⟩]))) (ee_var 8 rfl) (ee_var 7 rfl) (by rw [matD_len]; exact ixN_nat hmn) (matD_get _ hmn) (by rw [List.length_map, List.length_range]; exact ixN_nat hj) ?_)
      refine ⟨fs, .dat (.int (m : Nat)), ?_, datO⟩
      rw [matD_set _ _ hmn hj, matD_congr (g := upd2 (upd2 (drQ M j m) j m (drV M j m)) m j (drV M j m)) (g' := drQ M j (m + 1)) fun a _ b _ => ?_]
      · rfl
      · have hs : drV M m j = drV M j m := by unfold drV; rw [Nat.max_comm, Nat.min_comm]
        unfold upd2 drQ
        by_cases c1 : a = m ∧ b = j
        · rw [if_pos c1, if_pos (by rw [c1.1, c1.2]; omega), c1.1, c1.2, hs]
        · rw [if_neg c1]
          by_cases c2 : a = j ∧ b = m
          · rw [if_pos c2, if_pos (by rw [c2.1, c2.2]; omega), c2.1, c2.2]
          · rw [if_neg c2]
            by_cases c3 : max a b < j ∨ (max a b = j ∧ min a b < m)
            · rw [if_pos c3, if_pos (by omega)]
            · rw [if_neg c3, if_neg (by omega)]
    · obtain ⟨fs, b, rfl, nb⟩ := hI
      rw [show (rangeD 0 (((j : Nat) : Int) + 1).toNat).length = j + 1 by simp [rangeD]]
      refine ⟨fs, .dat (.int (j : Nat)), b, ?_, datO, nb⟩
      rw [matD_congr (g := drQ M (j + 1) 0) (g' := drQ M j (j + 1)) fun a _ b _ => ?_]
      unfold drQ
      by_cases c : max a b < j + 1
      · rw [if_pos (by omega), if_pos (by omega)]
      · rw [if_neg (by omega), if_neg (by omega)]
  · obtain ⟨fs, a, b, rfl, na, nb⟩ := hI
    rw [show (rangeD 0 ((n : Nat) : Int).toNat).length = n by simp [rangeD]]
    refine ⟨fs, a, b, ?_, na, nb⟩
    rw [matD_congr (g := drQ M n 0) (g' := drV M) fun a ha b hb => if_pos (by omega)]
  obtain ⟨fs, a, b, rfl, na, nb⟩ := hI
  refine ss_freezeN 6 (rows := matD n (drV M)) ?_
  rw [mat_eM]
  have hdz : ∀ j, j < n → ∀ k, k < n → Rz 100 (drV M j k) := fun j _ k _ => (rz_frac _).mono (by decide)
  have hdf := fz_of h6 (by decide) fun j (hj : j < n) k (hk : k < n) => (show Rz 4 (drV M j k) from rz_frac _)
  have hwz : ∀ j, j < n → ∀ k, k < n → Rz 100 (pSum L j k) := fun j hj k hk => (pSum_rz hz2 j hj k hk).mono (by omega)
  have hdsy := drV_sym M n
  generalize drV M = dF at *
  -- the point
  refine ss_cons (s1_set 9 (ee_is (ef_ee (ef_mapA "j" 7 (List.range n) (fun i : Nat => PyData.int (i : Nat)) (fun j => eF (fracZ (drawnZ M (70 + (j : Nat))))) rfl nd (ei_is (ei_range1 (ee_var 3 rfl) (by omega) h.b_range) (rangeD_map n)) (blkOk_by (own := [("j", 7)]) (N := ["script", "k", "more", "many", "paper", "whole", "drawn", "j", "n", "point", "turned", "weight", "line", "row", "found", "bad", "odd", "none", "some"]) (sc := defScope (top 42)) (by decide +kernel)) (fun _ _ _ _ _ => pg_name (i := 7) nd rfl (Or.inl rfl)) (fun es z => na es (by simpa using z)) ?_ (by rw [List.length_range]; omega))) (eP_range n fun j => fracZ (drawnZ M (70 + (j : Nat)))).symm) ?_ nd)
  · intro j hj s1 H1 C1 cl1 fp1
    have hj := List.mem_range.mp hj
    exact (ee_call (fn__law_fraction h) (rm.mono (by decide)) (ea_cons (ee_call (fn__law_drawn h) (rm.mono (by decide)) (ea_cons (ee_var 2 rfl) (ea_cons (ee_op ee_int (ee_var 7 rfl) od_add) ea_nil)) (⟨M, 70 + (j : Nat), rfl, M2, Nat.lt_of_lt_of_le (show _ < 2 ^ 10 by omega) (Nat.pow_le_pow_right (by decide) (by decide)), rfl⟩)) ea_nil) ⟨_, rfl, rfl⟩)
  have hxr : ∀ j, j < n → Rz 4 (fracZ (drawnZ M (70 + (j : Nat)))) := fun j _ => rz_frac _
  have hxc : CV (37 * 4) n fun j => fracZ (drawnZ M (70 + (j : Nat))) := (fz_of (f := fun _ j => fracZ (drawnZ M (70 + (j : Nat)))) h6 (by decide) fun j _ k hk => hxr k hk).row (j := 0) (by omega)
  generalize (fun j : Nat => fracZ (drawnZ M (70 + (j : Nat)))) = x at *
  refine ss_keep (s1_if (et_is (et_cmp (ee_told told (fun A' outer' s' H' f' c' E' hr => (ee_call (fn_form_worth h) (hr.mono (by decide)) (ea_cons (ee_var 6 rfl) (ea_cons (ee_var 9 rfl) ea_nil)) (⟨n, _, _, dF, x, rfl, h1, h6, hdsy, hdf, hxc, by decide, rfl⟩)))) (ee_call (fn__law_worth_at h) (rm.mono (by decide)) (ea_cons (ee_var 6 rfl) (ea_cons (ee_var 9 rfl) ea_nil)) (⟨n, _, _, dF, x, rfl, hdf, hxc, by omega, by decide, rfl⟩)) (od_neC gx) (nomark _)) (b' := false) (by rw [decide_eq_true rfl]; rfl)) (fun z => nomatch z) (fun _ => ss_nil rfl)) ?_
  have hwsy : Sym n (pSum L) := fun j _ k _ => by
    have : ∀ M : List Pr, pSum M j k = pSum M k j := fun M => by
      induction M with
      | nil => rfl
      | cons q M ih =>
        show q.1 * (q.2 j * q.2 k) + pSum M j k = q.1 * (q.2 k * q.2 j) + pSum M k j
        rw [ih]
        grind
    exact this L
  refine ss_keep (s1_if (et_is (ew_et (ew_or (et_not (et_val (ee_callT (fnt__law_right h tb) (rm.mono (by decide)) (ea_cons (ee_var 5 rfl) (ea_cons ee_bl ea_nil)) ⟨n, pSum L, true, rfl, h1, h6, hwsy, hwz, fun _ x => by rw [quad_pSum]; exact pQuad_nonneg n x fun q hq => (hL4 q hq).pos, rfl⟩))) (fun _ => ew_or1 (et_not (et_val (ee_callT (fnt__law_right h tb) (rm.mono (by decide)) (ea_cons (ee_var 6 rfl) (ea_cons ee_bl ea_nil)) ⟨n, dF, false, rfl, h1, h6, hdsy, hdz, fun z => (nomatch z), rfl⟩)))))) (b' := false) rfl) (fun z => nomatch z) (fun _ => ss_nil rfl)) ?_
  -- papers bent
  refine ss_cons (s1_set 10 (ee_is (ef_ee (ef_cat (ef_ee (ef_map2A "weight" "line" 11 12 (L.take 1) (fun q => eF q.1) (fun q => eP (mkV n q.2)) (fun q => ePr2 n (q.1, turnV q.2)) (by decide) rfl nd (ei_is (ei_list (ef_ee (ef_slice (ee_var 4 rfl) eo_none (eo_some ee_int)))) (by rw [cut_one, List.map_take]; rfl)) (blkOk_by (own := [("weight", 11), ("line", 12)]) (N := ["script", "k", "more", "many", "paper", "whole", "drawn", "j", "n", "point", "turned", "weight", "line", "row", "found", "bad", "odd", "none", "some"]) (sc := defScope (top 42)) (by decide +kernel)) (fun _ _ _ _ _ => pg_tup rfl (pgs_cons (pg_name (i := 11) nd rfl (Or.inl rfl)) (pgs_cons (pg_name (i := 12) nd rfl (Or.inl rfl)) pgs_nil))) (fun es z => no11 es (by simpa using z)) (fun es z => no12 es (by simpa using z)) ?_ (by rw [List.length_take]; omega))) (ef_ee (ef_slice (ee_var 4 rfl) (eo_some ee_int) eo_none)) (by rw [cut_rest, List.length_drop, List.length_map, List.length_map, List.length_take]; omega))) (show _ = ePN n (turnP L) by
    unfold ePN turnP
    rw [cut_rest, List.map_append, List.map_map, ← List.map_drop]
    rfl)) ?_ nd)
  · intro q hq s1 H1 C1 cl1 fp1
    have hq' := hL4 q (List.mem_of_mem_take hq)
    refine (ee_tup (ea_cons (ee_var 11 rfl) (ea_cons (ee_is (ef_ee (ef_cat (ef_ee (ef_lst (ea_cons (ee_call (fn__law_times h) (rm.mono (by decide)) (ea_cons (ee_is (ee_tup (ea_cons (ee_neg ee_int) (ea_cons ee_int ea_nil))) (show _ = eF (-1 : Rat) from rfl)) (ea_cons (ee_ix (ee_var 12 rfl) ee_int (show ixD (eP (mkV n q.2)) ((0 : Nat) : Int) = _ from ix_vec q.2 h1)) ea_nil)) (⟨-1, q.2 0, 1, 4, rfl, by constructor <;> decide +kernel, hq'.zl 0 h1, by decide, rfl⟩)) ea_nil))) (ef_ee (ef_slice (ee_var 12 rfl) (eo_some ee_int) eo_none)) (by rw [cut_rest, List.length_drop, List.length_map, mkV_len]; show 1 + _ ≤ _; omega))) (show _ = eP (mkV n (turnV q.2)) from ?_)) ea_nil)))
    rw [cut_rest]
    exact congrArg PyData.list (turn_list h1 q.2)
  have h5 := rows5_ok h1 hL4 hLl
  refine ss_midT (fun γ => ∃ c e, γ = [.dat (.list (ns.map .int)), .dat (.int (i : Nat)), .dat (.int M), .dat (.int (n : Nat)), .dat (ePN n L), .dat (eM (mkF n (pSum L))), .dat (eM (mkF n dF)), a, b, .dat (eP (mkV n x)), .dat (ePN n (turnP L)), a11, a12, c, e, a15, a16, a17, a18] ∧ (∀ z, c ≠ .own z) ∧ ∀ z, e ≠ .own z)
    (s1_for (fun _ γ => ∃ c e, γ = [.dat (.list (ns.map .int)), .dat (.int (i : Nat)), .dat (.int M), .dat (.int (n : Nat)), .dat (ePN n L), .dat (eM (mkF n (pSum L))), .dat (eM (mkF n dF)), a, b, .dat (eP (mkV n x)), .dat (ePN n (turnP L)), a11, a12, c, e, a15, a16, a17, a18] ∧ (∀ z, c ≠ .own z) ∧ ∀ z, e ≠ .own z) (ei_is (ei_list (ef_ee (ef_lst (ea_cons (ee_var 4 rfl) (ea_cons (ef_ee (ef_slice (ee_var 4 rfl) (eo_some ee_int) eo_none)) (ea_cons (ef_ee (ef_cat (ee_var 4 rfl) (ef_ee (ef_slice (ee_var 4 rfl) eo_none (eo_some ee_int))) (by rw [cut_one, List.length_take, List.length_map]; omega))) (ea_cons (ef_ee (ef_rev (ee_var 4 rfl))) (ea_cons (ee_var 10 rfl) ea_nil)))))))) (show _ = (rows5 L).map (ePN n) by
      rw [cut_one, cut_rest]
      unfold rows5 ePN
      rw [← List.map_drop, ← List.map_take, ← List.map_append, ← List.map_reverse]
      rfl)) ⟨a13, a14, rfl, no13, no14⟩ (fun j d γ hd hI => ?_) (fun γ hI => hI) hp rfl) (fun γ hI => ?_)
  · obtain ⟨c, e, rfl, nc, ne⟩ := hI
    obtain ⟨R, hR, rfl⟩ := List.mem_map.mp (List.mem_of_getElem? hd)
    obtain ⟨r1, r2⟩ := h5 R hR
    refine ⟨_, eg_name (i := 13) nd, ?_⟩
    refine ss_cons (s1_set 14 (ee_call (fn_form_shows h) (rm.mono (by decide)) (ea_cons (ee_var 5 rfl) (ea_cons (ee_var 13 rfl) ea_nil)) (⟨n, 100, 8, pSum L, R, h1, h6, hwsy, hwz, r1, r2, by decide, .inl ⟨rfl, rfl⟩⟩)) ?_ nd)
    refine ss_one (s1_if (et_is (ew_et (ew_or (et_not (et_val (ee_isi "bool" (ee_var 14 rfl) (.inr (.inr (.inr (.inl rfl)))) h.b_isinstance h.b_bool PyProof.Rows.boot_bool))) (fun hk1 => (ew_or1 (et_cmp (ee_var 14 rfl) (ee_cmp (ee_call (fn__law_form_of h) (rm.mono (by decide)) (ea_cons (ee_var 13 rfl) (ea_cons (ee_var 3 rfl) ea_nil)) (⟨n, 8, R, rfl, by omega, fun q hq => ⟨(r1 q hq).zw, (r1 q hq).zl⟩, r2, by decide, rfl⟩)) (ee_var 5 rfl) (od_eqC gx) (nomark _)) (od_neC gx) (nomark _)))))) (b' := false) ?_) (fun z => nomatch z) (fun _ => ss_nil ⟨_, _, rfl, datO, datO⟩))
    rw [zeroB_eq, beq_self_eq_true]
    rfl
  obtain ⟨c, e, rfl, nc, ne⟩ := hI
  -- a pair that is none
  have o1 : ∀ m : Nat, (List.replicate m [eF 1]).flatten = ones1 m := fun m => rep_one m _
  refine ss_cons (s1_set 15 (ef_ee (ef_lst (ea_cons (ee_tup (ea_cons (ee_is (ee_tup (ea_cons ee_int (ea_cons ee_int ea_nil))) (show _ = eF (0 : Rat) from rfl)) (ea_cons (ef_ee (ef_rep (ef_lst (ea_cons (ee_is (ee_tup (ea_cons ee_int (ea_cons ee_int ea_nil))) (show _ = eF (1 : Rat) from rfl)) ea_nil)) (ee_var 3 rfl) (by omega) (by show 1 * _ ≤ _; omega))) ea_nil))) (ea_cons (ee_tup (ea_cons (ee_is (ee_tup (ea_cons (ee_neg ee_int) (ea_cons ee_int ea_nil))) (show _ = eF (-1 : Rat) from rfl)) (ea_cons (ef_ee (ef_rep (ef_lst (ea_cons (ee_is (ee_tup (ea_cons ee_int (ea_cons ee_int ea_nil))) (show _ = eF (1 : Rat) from rfl)) ea_nil)) (ee_var 3 rfl) (by omega) (by show 1 * _ ≤ _; omega))) ea_nil))) ea_nil)))) ?_ nd)
  refine ss_cons (s1_set 15 (ef_ee (ef_cat (ee_var 15 rfl) (ef_ee (ef_lst (ea_cons (ee_tup (ea_cons (ee_is (ee_tup (ea_cons ee_int (ea_cons ee_int ea_nil))) (show _ = eF (1 : Rat) from rfl)) (ea_cons (ef_ee (ef_rep (ef_lst (ea_cons (ee_is (ee_tup (ea_cons ee_int (ea_cons ee_int ea_nil))) (show _ = eF (0 : Rat) from rfl)) ea_nil)) (ee_var 3 rfl) (by omega) (by show 1 * _ ≤ _; omega))) ea_nil))) (ea_cons (ee_tup (ea_cons (ee_is (ee_tup (ea_cons ee_int (ea_cons ee_int ea_nil))) (show _ = eF (1 : Rat) from rfl)) (ea_cons (ef_ee (ef_rep (ef_lst (ea_cons (ee_is (ee_tup (ea_cons ee_int (ea_cons ee_int ea_nil))) (show _ = eF (1 : Rat) from rfl)) ea_nil)) (ee_op (ee_var 3 rfl) ee_int od_add) (by omega) (by show 1 * _ ≤ _; omega))) ea_nil))) ea_nil)))) (Nat.le_of_ble_eq_true rfl))) ?_ nd)
  refine ss_cons (s1_set 15 (ee_is (ef_ee (ef_cat (ee_var 15 rfl) (ef_ee (ef_lst (ea_cons (ee_tup (ea_cons (ee_is (ee_tup (ea_cons ee_int (ea_cons ee_int ea_nil))) (show _ = eF (1 : Rat) from rfl)) (ea_cons (ef_ee (ef_rep (ef_lst (ea_cons ee_int ea_nil)) (ee_var 3 rfl) (by omega) (by show 1 * _ ≤ _; omega))) ea_nil))) (ea_cons (ee_tup (ea_cons (ee_tup (ea_cons ee_int (ea_cons ee_int ea_nil))) (ea_cons (ef_ee (ef_rep (ef_lst (ea_cons (ee_is (ee_tup (ea_cons ee_int (ea_cons ee_int ea_nil))) (show _ = eF (1 : Rat) from rfl)) ea_nil)) (ee_var 3 rfl) (by omega) (by show 1 * _ ≤ _; omega))) ea_nil))) (ea_cons (ee_tup (ea_cons (ee_is (ee_tup (ea_cons ee_int (ea_cons ee_int ea_nil))) (show _ = eF (1 : Rat) from rfl)) (ea_cons (ef_ee (ef_lst ea_nil)) ea_nil))) ea_nil))))) (Nat.le_of_ble_eq_true rfl))) (show _ = PyData.list (badL n) by
    rw [rep_one, rep_one, rep_one, rep_one, Int.toNat_natCast, show (((n : Nat) : Int) + 1).toNat = n + 1 by omega]
    rfl)) ?_ nd)
  obtain ⟨k7, hk7⟩ : ∃ k : Nat, M / 2 ^ (20 : Int).toNat % 7 = (k : Nat) := ⟨(M / 2 ^ (20 : Int).toNat % 7).toNat, by have := Int.emod_nonneg (M / 2 ^ (20 : Int).toNat) (show (7 : Int) ≠ 0 by decide); omega⟩
  have hk7l : k7 < 7 := by have := Int.emod_lt_of_pos (M / 2 ^ (20 : Int).toNat) (show (0 : Int) < 7 by decide); omega
  obtain ⟨d1, es, hbe, hbl, hbad⟩ := badL_at h1 h6 k7 hk7l
  have h8 : ∀ q ∈ L, PrOk n 8 q := (h5 L List.mem_cons_self).1
  refine ss_keep (s1_if (et_is (et_cmp (ee_call (fn_form_shows h) (rm.mono (by decide)) (ea_cons (ee_var 5 rfl) (ea_cons (ef_ee (ef_cat (ee_var 4 rfl) (ef_ee (ef_lst (ea_cons (ee_ix (ee_var 15 rfl) (ee_op (ee_op (ee_var 2 rfl) (ee_op ee_int ee_int (od_pow ⟨by decide, by decide, by decide⟩)) (od_fdiv gx (by decide))) ee_int (od_mod (by decide))) (ix_mod (by decide) rfl hk7 hbe)) ea_nil))) (by rw [List.length_map]; show _ + 1 ≤ _; omega))) ea_nil)) (⟨n, 100, 8, pSum L, L, h1, h6, hwsy, hwz, h8, by omega, by decide, .inr ⟨d1, es, rfl, hbl, hbad, rfl⟩⟩)) ee_bl od_isNB (nomark _)) (b' := false) rfl) (fun z => nomatch z) (fun _ => ss_nil rfl)) ?_
  -- forms that are none
  refine ss_cons (s1_set 16 (ef_ee (ef_lst (ea_cons (ef_ee (ef_lst ea_nil)) (ea_cons (ef_ee (ef_rep (ef_lst (ea_cons (ef_ee (ef_lst (ea_cons (ee_is (ee_tup (ea_cons ee_int (ea_cons ee_int ea_nil))) (show _ = eF (1 : Rat) from rfl)) ea_nil))) ea_nil)) ee_int (by decide) (by decide))) (ea_cons (ef_ee (ef_lst (ea_cons (ef_ee (ef_lst (ea_cons (ee_is (ee_tup (ea_cons ee_int (ea_cons ee_int ea_nil))) (show _ = eF (1 : Rat) from rfl)) (ea_cons (ee_is (ee_tup (ea_cons ee_int (ea_cons ee_int ea_nil))) (show _ = eF (2 : Rat) from rfl)) ea_nil)))) (ea_cons (ef_ee (ef_lst (ea_cons (ee_is (ee_tup (ea_cons ee_int (ea_cons ee_int ea_nil))) (show _ = eF (3 : Rat) from rfl)) (ea_cons (ee_is (ee_tup (ea_cons ee_int (ea_cons ee_int ea_nil))) (show _ = eF (1 : Rat) from rfl)) ea_nil)))) ea_nil)))) (ea_cons (ef_ee (ef_lst (ea_cons (ef_ee (ef_lst (ea_cons ee_int ea_nil))) ea_nil))) (ea_cons (ef_ee (ef_lst (ea_cons (ef_ee (ef_lst (ea_cons (ee_tup (ea_cons ee_int (ea_cons ee_int ea_nil))) ea_nil))) ea_nil))) ea_nil))))))) ?_ nd)
  refine ss_cons (s1_set 16 (ee_is (ef_ee (ef_cat (ee_var 16 rfl) (ef_ee (ef_lst (ea_cons (ef_ee (ef_rep (ef_lst (ea_cons (ef_ee (ef_rep (ef_lst (ea_cons (ee_is (ee_tup (ea_cons ee_int (ea_cons ee_int ea_nil))) (show _ = eF (1 : Rat) from rfl)) ea_nil)) ee_int (by decide) (by decide))) ea_nil)) ee_int (by decide) (by decide))) (ea_cons (ef_ee (ef_lst (ea_cons (ef_ee (ef_lst (ea_cons ee_non ea_nil))) ea_nil))) ea_nil)))) (Nat.le_of_ble_eq_true rfl))) (show _ = PyData.list (oddR.map fun rows => .list (rows.map .list)) from rfl)) ?_ nd)
  obtain ⟨k9, hk9⟩ : ∃ k : Nat, M / 2 ^ (24 : Int).toNat % 7 = (k : Nat) := ⟨(M / 2 ^ (24 : Int).toNat % 7).toNat, by have := Int.emod_nonneg (M / 2 ^ (24 : Int).toNat) (show (7 : Int) ≠ 0 by decide); omega⟩
  have hk9l : k9 < 7 := by have := Int.emod_lt_of_pos (M / 2 ^ (24 : Int).toNat) (show (0 : Int) < 7 by decide); omega
  obtain ⟨rows, hro, hsh, hno⟩ := oddR_at k9 hk9l
  have hxf : xForm K [.list (rows.map .list)] (ec K "BadForm") := ⟨rows, rfl, hsh, hno, rfl⟩
  refine ss_cons (s1_set 17 (ee_ix (ee_var 16 rfl) (ee_op (ee_op (ee_var 2 rfl) (ee_op ee_int ee_int (od_pow ⟨by decide, by decide, by decide⟩)) (od_fdiv gx (by decide))) ee_int (od_mod (by decide))) (ix_mod (d := .list (rows.map .list)) (by decide) rfl hk9 (by rw [List.getElem?_map, hro]; rfl))) ?_ nd)
  refine ss_cons (s1_setO 18 (ef_lst (ea_cons (ee_toldX told h.x_BadForm (fn_word_BadForm h) (fun A' outer' s' H' f' c' E' hr => (ex_call (fn_form_settled h) (hr.mono (by decide)) (ea_cons (ee_var 17 rfl) ea_nil) (hxf)))) ea_nil)) ?_ nd (fun es z => no18 es (by simpa using z)))
  refine ss_cons (s1_append 18 (ds := List.replicate 1 (.str "BadForm")) (ee_toldX told h.x_BadForm (fn_word_BadForm h) (fun A' outer' s' H' f' c' E' hr => (ex_call (fn_form_worth h) (hr.mono (by decide)) (ea_cons (ee_var 17 rfl) (ea_cons (ef_ee (ef_lst (ea_cons (ee_is (ee_tup (ea_cons ee_int (ea_cons ee_int ea_nil))) (show _ = eF (1 : Rat) from rfl)) ea_nil))) ea_nil)) (⟨_, _, rfl, hxf⟩)))) ?_ (by decide))
  refine ss_cons (s1_append 18 (ds := List.replicate 2 (.str "BadForm")) (ee_toldX told h.x_BadForm (fn_word_BadForm h) (fun A' outer' s' H' f' c' E' hr => (ex_call (fn_form_shows h) (hr.mono (by decide)) (ea_cons (ee_var 17 rfl) (ea_cons (ef_ee (ef_lst ea_nil)) ea_nil)) (⟨_, _, rfl, hxf⟩)))) ?_ (by decide))
  refine ss_freeze 18 (ds := List.replicate 3 (.str "BadForm")) (ss_one (s1_if (et_is (et_cmp (ee_is (ee_var 18 rfl) (show _ = PyData.list (List.replicate 3 (.str "BadForm")) from rfl)) (ef_ee (ef_rep (ef_lst (ea_cons ee_str ea_nil)) ee_int (by decide) (by decide))) (od_ne gx (by decide +kernel) (by decide +kernel)) (nomark _)) (b' := false) (by decide +kernel)) (fun z => nomatch z) (fun _ => ss_nil ?_)))
  exact ⟨[.dat (.int (i : Nat)), .dat (.int M), .dat (.int (n : Nat)), .dat (ePN n L), .dat (eM (mkF n (pSum L))), .dat (eM (mkF n dF)), a, b, .dat (eP (mkV n x)), .dat (ePN n (turnP L)), a11, a12, c, e, .dat (.list (badL n)), .dat (.list (oddR.map fun rows => .list (rows.map .list))), .dat (.list (rows.map .list)), .dat (.list (List.replicate 3 (.str "BadForm")))], rfl, rfl, noL datO datO datO datO datO datO na nb datO datO no11 no12 nc ne datO datO datO datO⟩


/-! ### the head -/
def hfn : List He.DefD := [⟨("common", none), "common", "common", defArgs (top 9), defBody (top 9), defScope (top 9), [], []⟩,
  ⟨("fraction", none), "fraction", "fraction", defArgs (top 10), defBody (top 10), defScope (top 10), [], []⟩,
  ⟨("plus", none), "plus", "plus", defArgs (top 11), defBody (top 11), defScope (top 11), [], []⟩,
  ⟨("minus", none), "minus", "minus", defArgs (top 12), defBody (top 12), defScope (top 12), [], []⟩,
  ⟨("times", none), "times", "times", defArgs (top 13), defBody (top 13), defScope (top 13), [], []⟩,
  ⟨("over", none), "over", "over", defArgs (top 14), defBody (top 14), defScope (top 14), [], []⟩,
  ⟨("is_fraction", none), "is_fraction", "is_fraction", defArgs (top 15), defBody (top 15), defScope (top 15), [], []⟩,
  ⟨("need_form", none), "need_form", "need_form", defArgs (top 18), defBody (top 18), defScope (top 18), [], []⟩,
  ⟨("dot", none), "dot", "dot", defArgs (top 19), defBody (top 19), defScope (top 19), [], []⟩,
  ⟨("worth_at", none), "worth_at", "worth_at", defArgs (top 20), defBody (top 20), defScope (top 20), [], []⟩,
  ⟨("form_worth", none), "form_worth", "form_worth", defArgs (top 21), defBody (top 21), defScope (top 21), [], []⟩,
  ⟨("less_square", none), "less_square", "less_square", defArgs (top 22), defBody (top 22), defScope (top 22), [], []⟩,
  ⟨("form_shows", none), "form_shows", "form_shows", defArgs (top 23), defBody (top 23), defScope (top 23), [], []⟩,
  ⟨("unit", none), "unit", "unit", defArgs (top 24), defBody (top 24), defScope (top 24), [], []⟩,
  ⟨("low_point", none), "low_point", "low_point", defArgs (top 25), defBody (top 25), defScope (top 25), [], []⟩,
  ⟨("raised", none), "raised", "raised", defArgs (top 26), defBody (top 26), defScope (top 26), [], []⟩,
  ⟨("form_settled", none), "form_settled", "form_settled", defArgs (top 27), defBody (top 27), defScope (top 27), [], []⟩,
  ⟨("_law_cell", none), "_law_cell", "_law_cell", defArgs (top 29), defBody (top 29), defScope (top 29), [], []⟩,
  ⟨("_law_drawn", none), "_law_drawn", "_law_drawn", defArgs (top 30), defBody (top 30), defScope (top 30), [], []⟩,
  ⟨("_law_word", none), "_law_word", "_law_word", defArgs (top 31), defBody (top 31), defScope (top 31), [], []⟩,
  ⟨("_law_told", none), "_law_told", "_law_told", defArgs (top 32), defBody (top 32), defScope (top 32), [], []⟩,
  ⟨("_law_made", none), "_law_made", "_law_made", defArgs (top 33), defBody (top 33), defScope (top 33), [], []⟩,
  ⟨("_law_plus", none), "_law_plus", "_law_plus", defArgs (top 34), defBody (top 34), defScope (top 34), [], []⟩,
  ⟨("_law_times", none), "_law_times", "_law_times", defArgs (top 35), defBody (top 35), defScope (top 35), [], []⟩,
  ⟨("_law_less", none), "_law_less", "_law_less", defArgs (top 36), defBody (top 36), defScope (top 36), [], []⟩,
  ⟨("_law_fraction", none), "_law_fraction", "_law_fraction", defArgs (top 37), defBody (top 37), defScope (top 37), [], []⟩,
  ⟨("_law_worth_at", none), "_law_worth_at", "_law_worth_at", defArgs (top 38), defBody (top 38), defScope (top 38), [], []⟩,
  ⟨("_law_form_of", none), "_law_form_of", "_law_form_of", defArgs (top 39), defBody (top 39), defScope (top 39), [], []⟩,
  ⟨("_law_paper", none), "_law_paper", "_law_paper", defArgs (top 40), defBody (top 40), defScope (top 40), [], []⟩,
  ⟨("_law_right", none), "_law_right", "_law_right", defArgs (top 41), defBody (top 41), defScope (top 41), [], []⟩,
  ⟨("law", none), "law", "law", defArgs (top 42), defBody (top 42), defScope (top 42), [], []⟩]
def hfa : List He.Fa := [.glo "common", .glo "fraction", .glo "plus", .glo "minus", .glo "times", .glo "over", .glo "is_fraction", .glo "need_form",
  .glo "dot", .glo "worth_at", .glo "form_worth", .glo "less_square", .glo "form_shows", .glo "unit", .glo "low_point", .glo "raised",
  .glo "form_settled", .glo "_law_cell", .glo "_law_drawn", .glo "_law_word", .glo "_law_told", .glo "_law_made", .glo "_law_plus", .glo "_law_times",
  .glo "_law_less", .glo "_law_fraction", .glo "_law_worth_at", .glo "_law_form_of", .glo "_law_paper", .glo "_law_right", .glo "law", .free "ValueError",
  .free "abs", .free "all", .free "bool", .free "enumerate", .free "int", .free "isinstance", .free "len", .free "list",
  .free "max", .free "min", .free "range", .free "sum", .free "tuple", .free "zip", .glo "NoughtError", .exc "NoughtError",
  .glo "BadPoly", .exc "BadPoly", .glo "NoWay", .exc "NoWay", .glo "BadStretch", .exc "BadStretch", .glo "BadForm", .exc "BadForm",
  .exm "BadPoly" "NoughtError" true, .exm "NoWay" "NoughtError" true, .exm "BadStretch" "NoughtError" true, .exm "BadForm" "NoughtError" true, .glo "NOUGHT", .glo "ONE", .int "MOST_ROWS" 6, .glo "__builtins__"]
def hex : List (PySem.W.Frag → Bool) := [seerB, noLst, excB "BadPoly", kitV "BadPoly", kitX "BadPoly" "BadPoly" true, kitX "BadPoly" "NoWay" false,
  kitX "BadPoly" "BadStretch" false, kitX "BadPoly" "BadForm" false, excB "NoWay", kitV "NoWay", kitX "NoWay" "BadPoly" false, kitX "NoWay" "NoWay" true,
  kitX "NoWay" "BadStretch" false, kitX "NoWay" "BadForm" false, excB "BadStretch", kitV "BadStretch", kitX "BadStretch" "BadPoly" false, kitX "BadStretch" "NoWay" false,
  kitX "BadStretch" "BadStretch" true, kitX "BadStretch" "BadForm" false, excB "BadForm", kitV "BadForm", kitX "BadForm" "BadPoly" false, kitX "BadForm" "NoWay" false,
  kitX "BadForm" "BadStretch" false, kitX "BadForm" "BadForm" true, kTwo "NOUGHT" 0 1, kTwo "ONE" 1 1, neT "law" "_law_right", neT "_law_right" "law"]
def htf : List He.Defn := [("law", none), ("_law_right", none)]
def hlo0 : List Str := ["__name__", "common", "fraction", "plus", "minus", "times", "over", "is_fraction", "need_form", "dot", "worth_at", "form_worth", "less_square", "form_shows", "unit", "low_point", "raised", "form_settled", "_law_cell", "_law_drawn", "_law_word", "_law_told", "_law_made", "_law_plus", "_law_times", "_law_less", "_law_fraction", "_law_worth_at", "_law_form_of", "_law_paper"]
def hlo1 : List Str := ["_law_right", "NoughtError", "BadPoly", "NoWay", "BadStretch", "BadForm", "NOUGHT", "ONE", "MOST_ROWS"]
def hlo : List Str := hlo0 ++ hlo1
theorem hd_of {w : World} {h base : Heap} {K : PySem.W.Frag} {mg : Str → Option Value} (X : K.In base) (G : base.Ns mainGlobals mg) (ns : base.NoSeer) (c : He.SaysX hfa hfn [] htf (fun K => hex.all fun f => f K) w h K) : Hd K mg base where
  ns := ns
  d_common := says_fe X G c 0 0
  d_fraction := says_fe X G c 1 1
  d_plus := says_fe X G c 2 2
  d_minus := says_fe X G c 3 3
  d_times := says_fe X G c 4 4
  d_over := says_fe X G c 5 5
  d_is_fraction := says_fe X G c 6 6
  d_need_form := says_fe X G c 7 7
  d_dot := says_fe X G c 8 8
  d_worth_at := says_fe X G c 9 9
  d_form_worth := says_fe X G c 10 10
  d_less_square := says_fe X G c 11 11
  d_form_shows := says_fe X G c 12 12
  d_unit := says_fe X G c 13 13
  d_low_point := says_fe X G c 14 14
  d_raised := says_fe X G c 15 15
  d_form_settled := says_fe X G c 16 16
  d__law_cell := says_fe X G c 17 17
  d__law_drawn := says_fe X G c 18 18
  d__law_word := says_fe X G c 19 19
  d__law_told := says_fe X G c 20 20
  d__law_made := says_fe X G c 21 21
  d__law_plus := says_fe X G c 22 22
  d__law_times := says_fe X G c 23 23
  d__law_less := says_fe X G c 24 24
  d__law_fraction := says_fe X G c 25 25
  d__law_worth_at := says_fe X G c 26 26
  d__law_form_of := says_fe X G c 27 27
  d__law_paper := says_fe X G c 28 28
  d__law_right := says_fe X G c 29 29
  d_law := says_fe X G c 30 30
  g_law := He.glo_ok X G (c.t.d.fact 30 rfl)
  g__law_right := He.glo_ok X G (c.t.d.fact 29 rfl)
  b_ValueError := says_free X G c 31
  b_abs := says_free X G c 32
  b_all := says_free X G c 33
  b_bool := says_free X G c 34
  b_enumerate := says_free X G c 35
  b_int := says_free X G c 36
  b_isinstance := says_free X G c 37
  b_len := says_free X G c 38
  b_list := says_free X G c 39
  b_max := says_free X G c 40
  b_min := says_free X G c 41
  b_range := says_free X G c 42
  b_sum := says_free X G c 43
  b_tuple := says_free X G c 44
  b_zip := says_free X G c 45
  e_NoughtError := says_err X G c 46 47
  e_BadPoly := says_err X G c 48 49
  e_NoWay := says_err X G c 50 51
  e_BadStretch := says_err X G c 52 53
  e_BadForm := says_err X G c 54 55
  c_BadPoly := excB_ok (says_ex c 2)
  x_BadPoly := says_exm c 56
  v_BadPoly := eqB_ok (says_ex (f := kitV "BadPoly") c 3)
  i_BadPoly_BadPoly := eqB_ok (says_ex (f := kitX "BadPoly" "BadPoly" true) c 4)
  i_BadPoly_NoWay := eqB_ok (says_ex (f := kitX "BadPoly" "NoWay" false) c 5)
  i_BadPoly_BadStretch := eqB_ok (says_ex (f := kitX "BadPoly" "BadStretch" false) c 6)
  i_BadPoly_BadForm := eqB_ok (says_ex (f := kitX "BadPoly" "BadForm" false) c 7)
  c_NoWay := excB_ok (says_ex c 8)
  x_NoWay := says_exm c 57
  v_NoWay := eqB_ok (says_ex (f := kitV "NoWay") c 9)
  i_NoWay_BadPoly := eqB_ok (says_ex (f := kitX "NoWay" "BadPoly" false) c 10)
  i_NoWay_NoWay := eqB_ok (says_ex (f := kitX "NoWay" "NoWay" true) c 11)
  i_NoWay_BadStretch := eqB_ok (says_ex (f := kitX "NoWay" "BadStretch" false) c 12)
  i_NoWay_BadForm := eqB_ok (says_ex (f := kitX "NoWay" "BadForm" false) c 13)
  c_BadStretch := excB_ok (says_ex c 14)
  x_BadStretch := says_exm c 58
  v_BadStretch := eqB_ok (says_ex (f := kitV "BadStretch") c 15)
  i_BadStretch_BadPoly := eqB_ok (says_ex (f := kitX "BadStretch" "BadPoly" false) c 16)
  i_BadStretch_NoWay := eqB_ok (says_ex (f := kitX "BadStretch" "NoWay" false) c 17)
  i_BadStretch_BadStretch := eqB_ok (says_ex (f := kitX "BadStretch" "BadStretch" true) c 18)
  i_BadStretch_BadForm := eqB_ok (says_ex (f := kitX "BadStretch" "BadForm" false) c 19)
  c_BadForm := excB_ok (says_ex c 20)
  x_BadForm := says_exm c 59
  v_BadForm := eqB_ok (says_ex (f := kitV "BadForm") c 21)
  i_BadForm_BadPoly := eqB_ok (says_ex (f := kitX "BadForm" "BadPoly" false) c 22)
  i_BadForm_NoWay := eqB_ok (says_ex (f := kitX "BadForm" "NoWay" false) c 23)
  i_BadForm_BadStretch := eqB_ok (says_ex (f := kitX "BadForm" "BadStretch" false) c 24)
  i_BadForm_BadForm := eqB_ok (says_ex (f := kitX "BadForm" "BadForm" true) c 25)
  k_NOUGHT := says_two X G c 60 26
  k_ONE := says_two X G c 61 27
  k_MOST_ROWS := says_int X G c 62
theorem hd_seer {w : World} {h base : Heap} {K : PySem.W.Frag} {mg : Str → Option Value} (X : K.In base) (G : base.Ns mainGlobals mg) (c : He.SaysX hfa hfn [] htf (fun K => hex.all fun f => f K) w h K)
    (hbl : ∃ mb, base.Ns builtinsNs mb ∧ ∀ x : Str, x ≠ "__name__" → mb x = bootBuiltins x) : base.NoSeer := seer_of (says_ex (f := seerB) c 0) X G (He.glo_ok X G (c.t.d.fact 63 rfl)) hbl
abbrev hR : PySem.W.OpenRow := PySem.W.OpenLaw.row PySem.Challenge.rw_abovenought_k60_whole_forms
abbrev hk : PySem.W.Hook := hookN 4 hfa hfn htf hex
def hob (s : PySem.W.SharedT) : He.AlX := obsN 4 hfa hfn htf hex (HandSHeadRun.getT s)
theorem hob_eq (s : PySem.W.SharedT) : hob s = hk.obs s.abs := obsN_eq (HandSHeadRun.getT_eq s)
theorem hrun (w : World) : HandSHeadRun.RunEq hR (PySem.W.view hR.prog [42]) hk hob 4000 hlo w := by
  intro os
  kernel_rfl


theorem law_at {w : World} {K : PySem.W.Frag} {h : Heap} {mg : Str → Option Value} {fa : Addr} (X : K.In h) (G : h.Ns mainGlobals mg) (hmg : mg ("law" : Str) = some (.ref fa)) (c : He.SaysX hfa hfn [] htf (fun K => hex.all fun f => f K) w h K) :
    LamX.LawAtS PySem.Challenge.rw_abovenought_k60_whole_forms w K (L2N.CX PR w) 61 63 "script" mg fa h := by
  obtain ⟨fd, F⟩ := c.t.d.def_ 30 (d := ⟨("law", none), "law", "law", defArgs (top 42), defBody (top 42), defScope (top 42), [], []⟩) rfl
  have eg := hmg.symm.trans (He.glo_ok X G (c.t.d.fact 30 (f := .glo "law") rfl))
  have ef : fa = He.ga K "law" := by
    injection eg with eg
    injection eg
  subst ef
  have b := FunD.bindsA (ps := ["script"]) F fun _ _ _ _ _ _ us hl => match us, hl with | [_], _ => rfl
  refine ⟨fd, [He.cT K ("law", none), He.cT K ("_law_right", none)], spLaw (lT K) 63, fun p hp => ?_, fun p hp => ?_, fun p hp => ?_, fun s v => b s [v] rfl, fun H a ns hl hb hT hS => ⟨a, ns, rfl, hl, hb, fun p hp => ?_, noLst_ok (says_ex (f := noLst) c 1) hS, fun _ => rfl⟩, fun base XB GB TB => ?_⟩
  · simp only [List.mem_cons, List.not_mem_nil, or_false] at hp
    rcases hp with rfl | rfl
    · exact c.empty _ (show _ ∈ htf by decide)
    · exact c.empty _ (show _ ∈ htf by decide)
  · simp only [List.mem_cons, List.not_mem_nil, or_false] at hp
    rcases hp with rfl | rfl
    · exact c.out _ (show _ ∈ htf by decide)
    · exact c.out _ (show _ ∈ htf by decide)
  · simp only [List.mem_cons, List.not_mem_nil, or_false] at hp
    rcases hp with rfl | rfl
    · exact PySem.W.codeHd_of_K X (c.hd _ (show _ ∈ htf by decide))
    · exact PySem.W.codeHd_of_K X (c.hd _ (show _ ∈ htf by decide))
  · simp only [lT, List.mem_cons, List.not_mem_nil, or_false] at hp
    rcases hp with rfl | rfl
    · exact hT _ (by simp)
    · exact hT _ (by simp)
  · refine law_mk (T := (lT K)) (st := top 42) F sc_law rfl rfl (by decide) (fun hbl => hd_seer XB GB c hbl) (fun seer cdv A outer s H E X hX gx hp hcode ns hn hb => ?_)
    subst hX
    exact law_ss (hd_of XB GB seer c) ⟨TB _ (by simp), TB _ (by simp), neT_ok (says_ex (f := neT "law" "_law_right") c 28), neT_ok (says_ex (f := neT "_law_right" "law") c 29)⟩ gx hp hcode ns hn hb
end
end An
open PySem PySem.W PySem.Calls PyProof.Rows in
theorem PySem.Challenge.cw_abovenought_k60_whole_forms_holds : PySem.Challenge.rw_abovenought_k60_whole_forms.Holds := by
  w_on; o_law
  refine HandSHeadRun.head_any (r := An.hR) (q := view An.hR.prog [42]) (H := An.hk) (ob := An.hob) (M := 4000) (loose := An.hlo) (d := HandSHeadRun.topDef An.hR.prog 42) (kwd := []) An.hob_eq (by kernel_rfl) (fun s => by kernel_rfl) An.hrun (by kernel_rfl) (by kernel_rfl) (by kernel_rfl) (by rfl) (by first | assumption | decide +kernel) (by decide +kernel) ⟨rfl, rfl, rfl, rfl, rfl, by decide +kernel⟩ ?hw ?hc
  case hw => w_witness2
  case hc =>
    refine LamX.walk_ofTsE (l := PySem.Challenge.rw_abovenought_k60_whole_forms) (n := 63) (k := 61) (x := "script") (CX := fun w => L2N.CX An.PR w) rfl (by decide) (by kernel_rfl) ⟨rfl, by decide, by decide⟩ ?F (fun w H s e s' z => ?G)
    case G =>
      obtain ⟨_, _, _, _, _, _, _, _, _, _, _, _, q⟩ := z
      exact q
    case F =>
      intro w mg fa h Y G hmg0
      obtain ⟨K, KX, c⟩ := Y
      have e : (HandSHeadRun.topDef An.hR.prog 42).name = ("law" : PySem.Str) := by kernel_rfl
      rw [e] at hmg0
      exact ⟨K, KX, An.law_at KX G hmg0 c⟩
namespace An
section


end
end An
