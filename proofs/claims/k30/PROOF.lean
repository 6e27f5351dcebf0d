import PyProof.Rows.All
import Wide.All
import OpenK.AllK
import Wide.FinOn
import KE.KLam
import HandS.ForMost
import HandS.ForExc
import HandS.Wide
import HandS.WideBits
import HandS.IsInst
import HandS.ExcIs
import HandS.Style
import HandS.Deep
import HandS.Zip
import HandS.HotCalls
import HandS.Lambda
import HandS.EndTab
import HandS.HeadWalk
import HandS.Head2
import HandS.HeadHook4
import HandS.TupSets
import HandS.Small
import HandS.TryOnly
import KE.GoesComp
import PySem.Challenge.RW_abovenought_k30_papers_looked_at
set_option Elab.async false
set_option linter.all false
set_option maxRecDepth 100000
set_option maxHeartbeats 4000000
/-! A logic of data over the hand layer: what stands in a slot is told as data (PyData), heaps are out of sight. -/
namespace An
open PySem PySem.Spec PyProof.Rows L2
abbrev D := PyData
/-! ### the best readings -/
section
variable {X : Cx}
@[irreducible] def we (X : Cx) (e : Expr) : TE := fun σ H Q => ∀ (pins : List (Addr × Obj)) (s : Shared), Inv X pins σ H s → wpAny (model X.prog X.w) X.A (eval e X.env) (EP X pins σ Q) X.xe s
@[irreducible] def wt (X : Cx) (e : Expr) : TT := fun σ H Q => ∀ (pins : List (Addr × Obj)) (s : Shared), Inv X pins σ H s → wpAny (model X.prog X.w) X.A (isTrue e X.env (eval e X.env)) (TP X pins σ Q) X.xe s
@[irreducible] def ww (X : Cx) (e : Expr) : TT := fun σ H Q => ∀ (whole : Sem Value) (pins : List (Addr × Obj)) (s : Shared), Inv X pins σ H s → wpAny (model X.prog X.w) X.A (isTrue e X.env whole) (TP X pins σ Q) X.xe s
@[irreducible] def wa (X : Cx) (es : List Expr) : TA := fun σ H Q => ∀ (pos : Pos) (pins : List (Addr × Obj)) (s : Shared), Inv X pins σ H s → wpAny (model X.prog X.w) X.A (spliced (backTo pos (starEach es X.env))) (AP X pins σ Q) X.xe s
@[irreducible] def wss (X : Cx) (st : List Stmt) : TS := fun D σ H => ∀ (pins : List (Addr × Obj)) (s : Shared), Inv X pins σ H s → wpAny (model X.prog X.w) X.A (execs st X.env) (SP X pins D) X.xe s
@[irreducible] def ws (X : Cx) (st : Stmt) : TS := fun D σ H => ∀ (pins : List (Addr × Obj)) (s : Shared), Inv X pins σ H s → wpAny (model X.prog X.w) X.A (exec st X.env) (SP X pins D) X.xe s
theorem pe_we {e : Expr} : PE X e (we X e) := ⟨fun pins s _ _ _ I h => by unfold we at h; exact h pins s I⟩
theorem pt_wt {e : Expr} : PT X e (wt X e) := ⟨fun pins s _ _ _ I h => by unfold wt at h; exact h pins s I⟩
theorem pw_ww {e : Expr} : PW X e (ww X e) := ⟨fun wh pins s _ _ _ I h => by unfold ww at h; exact h wh pins s I⟩
theorem pa_wa {es : List Expr} : PA X es (wa X es) := ⟨fun pos pins s _ _ _ I h => by unfold wa at h; exact h pos pins s I⟩
theorem pss_wss {st : List Stmt} : PSs X st (wss X st) := ⟨fun pins s _ _ _ I h => by unfold wss at h; exact h pins s I⟩
theorem ps_ws {st : Stmt} : PS X st (ws X st) := ⟨fun pins s _ _ _ I h => by unfold ws at h; exact h pins s I⟩
theorem we_of {e : Expr} {t : TE} {σ : L2.St} {H : Hp} {Q : VK} (h : PE X e t) (q : t σ H Q) : we X e σ H Q := by
  unfold we
  exact fun pins s I => h.run pins s σ H Q I q
theorem wt_of {e : Expr} {t : TT} {σ : L2.St} {H : Hp} {Q : Bool → Hp → Prop} (h : PT X e t) (q : t σ H Q) : wt X e σ H Q := by
  unfold wt
  exact fun pins s I => h.run pins s σ H Q I q
theorem ww_of {e : Expr} {t : TT} {σ : L2.St} {H : Hp} {Q : Bool → Hp → Prop} (h : PW X e t) (q : t σ H Q) : ww X e σ H Q := by
  unfold ww
  exact fun wh pins s I => h.run wh pins s σ H Q I q
theorem wa_of {es : List Expr} {t : TA} {σ : L2.St} {H : Hp} {Q : List V → Hp → Prop} (h : PA X es t) (q : t σ H Q) : wa X es σ H Q := by
  unfold wa
  exact fun pos pins s I => h.run pos pins s σ H Q I q
theorem wss_of {st : List Stmt} {t : TS} {σ : L2.St} {H : Hp} {E : Ends} (h : PSs X st t) (q : t E σ H) : wss X st E σ H := by
  unfold wss
  exact fun pins s I => h.run pins s σ H E I q
theorem ws_of {st : Stmt} {t : TS} {σ : L2.St} {H : Hp} {E : Ends} (h : PS X st t) (q : t E σ H) : ws X st E σ H := by
  unfold ws
  exact fun pins s I => h.run pins s σ H E I q
end
/-! ### heaps and data -/
/-- all but the tables of code objects is kept -/
def Keep (H H' : Hp) : Prop := ∀ a o, H a = some o → (∀ ps, o ≠ .tbl ps) → H' a = some o
theorem Keep.refl (H : Hp) : Keep H H := fun _ _ h _ => h
theorem Keep.trans {H H1 H2 : Hp} (a : Keep H H1) (b : Keep H1 H2) : Keep H H2 := fun c o h n => b c o (a c o h n) n
theorem Keep.of {H H' : Hp} (e : Same H H') : Keep H H' := fun b o h _ => e b o h
noncomputable def off (S : Addr → Prop) (H : Hp) : Hp := fun a => open Classical in if S a then none else H a
theorem off_some {S : Addr → Prop} {H : Hp} {a : Addr} {o : HO} (h : off S H a = some o) : ¬ S a ∧ H a = some o := by
  unfold off at h
  by_cases hs : S a
  · rw [if_pos hs] at h
    cases h
  · rw [if_neg hs] at h
    exact ⟨hs, h⟩
theorem off_of {S : Addr → Prop} {H : Hp} {a : Addr} {o : HO} (n : ¬ S a) (h : H a = some o) : off S H a = some o := by
  unfold off
  rw [if_neg n]
  exact h
theorem off_keep {S S' : Addr → Prop} {H H' : Hp} (k : Keep H H') (s : ∀ a, S' a → S a) : Keep (off S H) (off S' H') := fun a o h n => by
  obtain ⟨h1, h2⟩ := off_some h
  exact off_of (fun z => h1 (s a z)) (k a o h2 n)
theorem off_in {S : Addr → Prop} {H : Hp} : Keep (off S H) H := fun a o h _ => (off_some h).2
theorem rd_keep {H H' : Hp} {a : Addr} {xs : List V} (k : Keep H H') (h : Rd H a (.lst xs)) : Rd H' a (.lst xs) := by
  rcases h with h | ⟨o, h⟩
  · exact .inl (k _ _ h fun _ z => nomatch z)
  · exact .inr ⟨o, k _ _ h fun _ z => nomatch z⟩
theorem sql_keep {K : PySem.W.Frag} {H H' : Hp} {a : Addr} {xs : List V} (k : Keep H H') (h : SqL K H a xs) : SqL K H' a xs := by
  rcases h with (h | ⟨o, h⟩) | h
  · exact .inl (.inl (k _ _ h fun _ z => nomatch z))
  · exact .inl (.inr ⟨o, k _ _ h fun _ z => nomatch z⟩)
  · exact .inr h
theorem sqt_keep {K : PySem.W.Frag} {H H' : Hp} {a : Addr} {xs : List V} (k : Keep H H') (h : SqT K H a xs) : SqT K H' a xs := by
  rcases h with (h | ⟨o, h⟩) | h
  · exact .inl (.inl (k _ _ h fun _ z => nomatch z))
  · exact .inl (.inr ⟨o, k _ _ h fun _ z => nomatch z⟩)
  · exact .inr h
/-! data of any depth: lists that are tracked or locked, tuples that are tracked or written -/
mutual
inductive Dt (K : PySem.W.Frag) (H : Hp) : V → D → Prop
  | non : Dt K H .non .none
  | bl (b : Bool) : Dt K H (.bl b) (.bool b)
  | int (i : Int) : Dt K H (.int i) (.int i)
  | str (x : Str) : Dt K H (.str x) (.str x)
  | lst {a : Addr} {xs : List V} {ds : List D} : Rd H a (.lst xs) → DtAll K H xs ds → Dt K H (.ref a) (.list ds)
  | tup {a : Addr} {xs : List V} {ds : List D} : SqT K H a xs → DtAll K H xs ds → Dt K H (.ref a) (.tuple ds)
inductive DtAll (K : PySem.W.Frag) (H : Hp) : List V → List D → Prop
  | nil : DtAll K H [] []
  | cons {v : V} {vs : List V} {d : D} {ds : List D} : Dt K H v d → DtAll K H vs ds → DtAll K H (v :: vs) (d :: ds)
end
mutual
theorem Dt.dp {K : PySem.W.Frag} {H : Hp} : ∀ (d : D) (v : V), Dt K H v d → Dp K H v d
  | .none, _, h => by cases h; exact .non
  | .bool b, _, h => by cases h; exact .bl b
  | .int i, _, h => by cases h; exact .int i
  | .str x, _, h => by cases h; exact .str x
  | .list ds, _, h => by
    cases h with
    | lst hs ha => exact .lst (.inl hs) (DtAll.dp ds _ ha)
  | .tuple ds, _, h => by
    cases h with
    | tup hs ha => exact .tup hs (DtAll.dp ds _ ha)
  | .dict _, _, h => by cases h
theorem DtAll.dp {K : PySem.W.Frag} {H : Hp} : ∀ (ds : List D) (vs : List V), DtAll K H vs ds → DpAll K H vs ds
  | [], _, h => by cases h; exact .nil
  | d :: ds, _, h => by
    cases h with
    | cons h1 h2 => exact .cons (Dt.dp d _ h1) (DtAll.dp ds _ h2)
end
mutual
theorem dp_keep {K : PySem.W.Frag} {H H' : Hp} (k : Keep H H') : ∀ (d : D) (v : V), Dt K H v d → Dt K H' v d
  | .none, _, h => by cases h; exact .non
  | .bool b, _, h => by cases h; exact .bl b
  | .int i, _, h => by cases h; exact .int i
  | .str x, _, h => by cases h; exact .str x
  | .list ds, _, h => by
    cases h with
    | lst hs ha => exact .lst (rd_keep k hs) (dps_keep k ds _ ha)
  | .tuple ds, _, h => by
    cases h with
    | tup hs ha => exact .tup (sqt_keep k hs) (dps_keep k ds _ ha)
  | .dict _, _, h => by cases h
theorem dps_keep {K : PySem.W.Frag} {H H' : Hp} (k : Keep H H') : ∀ (ds : List D) (vs : List V), DtAll K H vs ds → DtAll K H' vs ds
  | [], _, h => by cases h; exact .nil
  | d :: ds, _, h => by
    cases h with
    | cons h1 h2 => exact .cons (dp_keep k d _ h1) (dps_keep k ds _ h2)
end
section
variable {K : PySem.W.Frag} {H : Hp}
theorem dps_len : ∀ {vs : List V} {ds : List D}, DtAll K H vs ds → vs.length = ds.length
  | _, _, .nil => rfl
  | _, _, .cons _ t => congrArg Nat.succ (dps_len t)
theorem dps_get : ∀ {vs : List V} {ds : List D} {i : Nat} {d : D}, DtAll K H vs ds → ds[i]? = some d → ∃ v, vs[i]? = some v ∧ Dt K H v d
  | _, _, _, _, .nil, h => by simp at h
  | _, _, 0, d, .cons h t, e => by
    simp at e
    subst e
    exact ⟨_, rfl, h⟩
  | _, _, i + 1, d, .cons h t, e => by
    simp at e
    obtain ⟨v, e1, e2⟩ := dps_get t e
    exact ⟨v, by simpa using e1, e2⟩
theorem dps_getV : ∀ {vs : List V} {ds : List D} {i : Nat} {v : V}, DtAll K H vs ds → vs[i]? = some v → ∃ d, ds[i]? = some d ∧ Dt K H v d
  | _, _, _, _, .nil, h => by simp at h
  | _, _, 0, d, .cons h t, e => by
    simp at e
    subst e
    exact ⟨_, rfl, h⟩
  | _, _, i + 1, d, .cons h t, e => by
    simp at e
    obtain ⟨v, e1, e2⟩ := dps_getV t e
    exact ⟨v, by simpa using e1, e2⟩
theorem dps_app : ∀ {vs ws : List V} {ds es : List D}, DtAll K H vs ds → DtAll K H ws es → DtAll K H (vs ++ ws) (ds ++ es)
  | _, _, _, _, .nil, s => s
  | _, _, _, _, .cons h t, s => .cons h (dps_app t s)
theorem dps_one {v : V} {d : D} (h : Dt K H v d) : DtAll K H [v] [d] := .cons h .nil
theorem dps_set : ∀ {vs : List V} {ds : List D} {v : V} {d : D} (i : Nat), DtAll K H vs ds → Dt K H v d → DtAll K H (vs.set i v) (ds.set i d)
  | _, _, _, _, _, .nil, _ => .nil
  | _, _, _, _, 0, .cons _ t, h => .cons h t
  | _, _, _, _, i + 1, .cons q t, h => .cons q (dps_set i t h)
theorem dps_take : ∀ {vs : List V} {ds : List D} (n : Nat), DtAll K H vs ds → DtAll K H (vs.take n) (ds.take n)
  | _, _, 0, _ => .nil
  | _, _, _ + 1, .nil => .nil
  | _, _, n + 1, .cons r t => .cons r (dps_take n t)
theorem dps_drop : ∀ {vs : List V} {ds : List D} (n : Nat), DtAll K H vs ds → DtAll K H (vs.drop n) (ds.drop n)
  | _, _, 0, r => r
  | _, _, _ + 1, .nil => .nil
  | _, _, n + 1, .cons _ t => dps_drop n t
theorem dps_rev {vs : List V} {ds : List D} (h : DtAll K H vs ds) : DtAll K H vs.reverse ds.reverse := by
  induction vs generalizing ds with
  | nil => cases h; exact .nil
  | cons v r ih =>
    cases h with
    | cons h1 h2 =>
      rw [List.reverse_cons, List.reverse_cons]
      exact dps_app (ih h2) (dps_one h1)
end
/-- what may be changed -/
def MutO : HO → Prop
  | .lst _ => True
  | .dK _ => True
  | .dT _ => True
  | .ins _ _ _ => True
  | .own _ => True
  | .frz _ _ => True
  | .ext φ => ∀ c q, HO.ext φ ≠ LamX.CodeO c q
  | _ => False
theorem MutO.nt {o : HO} (h : MutO o) : ∀ ps, o ≠ .tbl ps := fun ps e => by
  subst e
  exact h
/-- there is something there that may be changed -/
def NT (H : Hp) (a : Addr) : Prop := ∃ o, H a = some o ∧ MutO o
theorem NT.lst {H : Hp} {a : Addr} {xs : List V} (h : H a = some (.lst xs)) : NT H a := ⟨_, h, trivial⟩
theorem NT.there {H : Hp} {a : Addr} (h : NT H a) : H a ≠ none := by
  obtain ⟨o, e, _⟩ := h
  rw [e]
  exact fun z => nomatch z
theorem NT.keep {H H' : Hp} {a : Addr} (h : NT H a) (k : Keep H H') : H' a = H a := by
  obtain ⟨o, e, n⟩ := h
  rw [e, k a o e n.nt]
theorem NT.mono {H H' : Hp} {a : Addr} (h : NT H a) (k : Keep H H') : NT H' a := by
  obtain ⟨o, e, n⟩ := h
  exact ⟨o, k a o e n.nt, n⟩
/-- how heaps may follow one another in a body -/
class Rel (R : Hp → Hp → Prop) : Prop where
  /-- a heap that has come stands to itself so -/
  ends : ∀ {H H'}, R H H' → R H' H'
  trans : ∀ {H H1 H2}, R H H1 → R H1 H2 → R H H2
  more : ∀ {H H1 H2}, R H H1 → Same H1 H2 → R H H2
  keep : ∀ {H H'}, R H H' → Keep H H'
  dom : ∀ {H H' : Hp} {a : Addr}, R H H' → H a ≠ none → H' a ≠ none
  /-- what the first heap doesn't know may change -/
  chg : ∀ {H H' : Hp} {a : Addr} {o : HO}, R H H' → H a = none → NT H' a → MutO o → R H (upd H' a o)
  /-- the heap without some things -/
  cutr : ∀ {H H1 : Hp} {C : Addr → Prop}, R H H1 → (∀ a, C a → NT H1 a) → R (off C H1) H1
instance relSame : Rel Same where
  ends := fun {H H'} _ => Same.refl H'
  trans := Same.trans
  more := Same.trans
  keep := Keep.of
  dom := fun {H H' a} h n => by
    cases e : H a with
    | none => exact absurd e n
    | some o => rw [h a o e]; exact fun z => nomatch z
  chg := fun {H H' a o} h n _ _ b u e => by
    rw [upd_ne (ne_of_none e n)]
    exact h b u e
  cutr := fun _ _ a o e => (off_some e).2
theorem Rel.free {R : Hp → Hp → Prop} [Rel R] {H H' : Hp} {a : Addr} (h : R H H') (n : H' a = none) : H a = none := by
  cases e : H a with
  | none => rfl
  | some o => exact absurd n (Rel.dom h (by rw [e]; exact fun z => nomatch z))
theorem Rel.chgL {R : Hp → Hp → Prop} [Rel R] {H H' : Hp} {a : Addr} {xs : List V} (h : R H H') (n : H a = none) (k : ∃ ys, H' a = some (.lst ys)) : R H (upd H' a (.lst xs)) := by
  obtain ⟨ys, e⟩ := k
  exact Rel.chg h n (NT.lst e) trivial
theorem same_new {H : Hp} {p : Addr} {o : HO} (h : H p = none) : Same H (upd H p o) := fun b x e => by
  rw [upd_ne (ne_of_none e h)]
  exact e
/-! ### slots -/
/-- a thing of one's own, of any make: by its value, the addresses that are its own, the heap, and the heap of data -/
structure Bx where
  at_ : PySem.W.Frag → V → List Addr → Hp → Hp → Prop
  keep : ∀ {K : PySem.W.Frag} {v : V} {fs : List Addr} {H Hd H' Hd' : Hp}, at_ K v fs H Hd → (∀ a ∈ fs, H' a = H a) → Keep Hd Hd' → at_ K v fs H' Hd'
inductive Ow where
  | l (ds : List D)
  | b (B : Bx) (fs : List Addr)
instance : Coe (List D) Ow := ⟨Ow.l⟩
/-- a thing that stays as it is, of any make: by its value and the heap of data -/
structure Fix where
  at_ : PySem.W.Frag → V → Hp → Prop
  keep : ∀ {K : PySem.W.Frag} {v : V} {H H' : Hp}, at_ K v H → Keep H H' → at_ K v H'
/-- what is told of a slot: nothing; data; a thing of this body's own, which it may change; a value; a thing that stays -/
inductive Sl where
  | no
  | dat (d : D)
  | own (o : Ow)
  | val (v : V)
  | fix (F : Fix)
/-- what belongs to a slot -/
def Fx (x : Sl) (v : Option V) (a : Addr) : Prop := match x with
  | .own (.l _) => v = some (.ref a)
  | .own (.b _ fs) => a ∈ fs
  | _ => False
/-- what stands in a slot -/
def Okx (K : PySem.W.Frag) (x : Sl) (v : Option V) (H Hd : Hp) : Prop := match x with
  | .no => True
  | .dat d => ∃ u, v = some u ∧ Dt K Hd u d
  | .val u => v = some u
  | .fix F => ∃ u, v = some u ∧ F.at_ K u Hd
  | .own (.l ds) => ∃ l vs, v = some (.ref l) ∧ H l = some (.lst vs) ∧ DtAll K Hd vs ds
  | .own (.b B fs) => ∃ u, v = some u ∧ B.at_ K u fs H Hd
theorem Okx.keep {K : PySem.W.Frag} {x : Sl} {v : Option V} {H Hd H' Hd' : Hp} (h : Okx K x v H Hd) (f : ∀ a, Fx x v a → H' a = H a) (k : Keep Hd Hd') : Okx K x v H' Hd' := by
  match x, h, f with
  | .no, _, _ => exact trivial
  | .dat d, ⟨u, e, h⟩, _ => exact ⟨u, e, dp_keep k _ _ h⟩
  | .val u, h, _ => exact h
  | .fix F, ⟨u, e, h⟩, _ => exact ⟨u, e, F.keep h k⟩
  | .own (.l ds), ⟨l, vs, e, h1, h2⟩, f => exact ⟨l, vs, e, (f l e).trans h1, dps_keep k _ _ h2⟩
  | .own (.b B fs), ⟨u, e, h⟩, f => exact ⟨u, e, B.keep h f k⟩
def Fp (γ : List Sl) (σ : L2.St) (i : Nat) (a : Addr) : Prop := ∃ x v, γ[i]? = some x ∧ σ[i]? = some v ∧ Fx x v a
def Sx (S0 : Addr → Prop) (γ : List Sl) (σ : L2.St) (a : Addr) : Prop := S0 a ∨ ∃ i, Fp γ σ i a
structure SI (R : Hp → Hp → Prop) (K : PySem.W.Frag) (H0 : Hp) (S0 : Addr → Prop) (γ : List Sl) (σ : L2.St) (H : Hp) : Prop where
  rel : R H0 H
  dom : ∀ a, S0 a → H0 a ≠ none
  len : σ.length = γ.length
  ok : ∀ (i : Nat) (x : Sl), γ[i]? = some x → ∃ v, σ[i]? = some v ∧ Okx K x v H (off (Sx S0 γ σ) H)
  fp : ∀ (i : Nat) (a : Addr), Fp γ σ i a → H0 a = none ∧ NT H a
  inj : ∀ (i j : Nat) (a : Addr), Fp γ σ i a → Fp γ σ j a → i = j
theorem set_get {α : Type} {l : List α} {i j : Nat} {x y : α} (h : (l.set i x)[j]? = some y) : (j = i ∧ y = x ∧ i < l.length) ∨ (j ≠ i ∧ l[j]? = some y) := by
  by_cases hj : i = j
  · subst hj
    rw [List.getElem?_set_self'] at h
    cases q : l[i]? with
    | none => rw [q] at h; cases h
    | some z =>
      rw [q] at h
      cases h
      exact .inl ⟨rfl, rfl, (List.getElem?_eq_some_iff.mp q).1⟩
  · rw [List.getElem?_set_ne hj] at h
    exact .inr ⟨fun z => hj z.symm, h⟩
theorem fp_set {γ : List Sl} {σ : L2.St} {i j : Nat} {x : Sl} {v : Option V} {a : Addr} (h : Fp (γ.set i x) (σ.set i v) j a) : (j = i ∧ Fx x v a) ∨ (j ≠ i ∧ Fp γ σ j a) := by
  obtain ⟨y, w, h1, h2, h3⟩ := h
  rcases set_get h1 with ⟨rfl, rfl, _⟩ | ⟨nj, e⟩
  · rcases set_get h2 with ⟨_, rfl, _⟩ | ⟨nj, _⟩
    · exact .inl ⟨rfl, h3⟩
    · exact absurd rfl nj
  · rcases set_get h2 with ⟨e2, _, _⟩ | ⟨_, e2⟩
    · exact absurd e2 nj
    · exact .inr ⟨nj, y, w, e, e2, h3⟩
section
variable {R : Hp → Hp → Prop} [Rel R] {K : PySem.W.Frag} {H0 H H' : Hp} {S0 : Addr → Prop} {γ : List Sl} {σ : L2.St}
theorem SI.dat (s : SI R K H0 S0 γ σ H) (i : Nat) (d : D) (h : γ[i]? = some (.dat d)) : ∃ v, σ[i]? = some (some v) ∧ Dt K (off (Sx S0 γ σ) H) v d := by
  obtain ⟨v, e, u, rfl, h⟩ := s.ok i _ h
  exact ⟨u, e, h⟩
theorem SI.val (s : SI R K H0 S0 γ σ H) (i : Nat) (v : V) (h : γ[i]? = some (.val v)) : σ[i]? = some (some v) := by
  obtain ⟨u, e, h⟩ := s.ok i _ h
  rw [e, show u = some v from h]
theorem SI.own (s : SI R K H0 S0 γ σ H) (i : Nat) (ds : List D) (h : γ[i]? = some (.own (.l ds))) : ∃ l vs, σ[i]? = some (some (.ref l)) ∧ H0 l = none ∧ H l = some (.lst vs) ∧ DtAll K (off (Sx S0 γ σ) H) vs ds := by
  obtain ⟨v, e, l, vs, rfl, h1, h2⟩ := s.ok i _ h
  exact ⟨l, vs, e, (s.fp i l ⟨_, _, h, e, rfl⟩).1, h1, h2⟩
theorem SI.box (s : SI R K H0 S0 γ σ H) (i : Nat) {B : Bx} {fs : List Addr} (h : γ[i]? = some (.own (.b B fs))) : ∃ v, σ[i]? = some (some v) ∧ B.at_ K v fs H (off (Sx S0 γ σ) H) ∧ ∀ a ∈ fs, H0 a = none ∧ NT H a := by
  obtain ⟨v, e, u, rfl, h1⟩ := s.ok i _ h
  exact ⟨u, e, h1, fun a ha => s.fp i a ⟨_, _, h, e, ha⟩⟩
/-- the heap as it is -/
theorem SI.ref (s : SI R K H0 S0 γ σ H) : R H H := Rel.ends s.rel
theorem SI.mono (s : SI R K H0 S0 γ σ H) (r : R H H') : SI R K H0 S0 γ σ H' where
  rel := Rel.trans s.rel r
  dom := s.dom
  len := s.len
  ok := fun i x h => by
    obtain ⟨v, e, h1⟩ := s.ok i x h
    exact ⟨v, e, h1.keep (fun a f => (s.fp i a ⟨x, v, h, e, f⟩).2.keep (Rel.keep r)) (off_keep (Rel.keep r) fun _ z => z)⟩
  fp := fun i a h => ⟨(s.fp i a h).1, (s.fp i a h).2.mono (Rel.keep r)⟩
  inj := s.inj
theorem SI.there (s : SI R K H0 S0 γ σ H) {a : Addr} (h : Sx S0 γ σ a) : H a ≠ none := by
  rcases h with h | ⟨i, h⟩
  · exact Rel.dom s.rel (s.dom a h)
  · exact (s.fp i a h).2.there
/-- a slot is set -/
theorem SI.updS (s : SI R K H0 S0 γ σ H) (i : Nat) (v : Option V) (x : Sl) (rel : R H0 H') (f0 : ∀ a, Fx x v a → H0 a = none ∧ NT H' a ∧ ∀ j, j ≠ i → ¬ Fp γ σ j a) (oth : ∀ j a, j ≠ i → Fp γ σ j a → H' a = H a)
    (kp : Keep (off (Sx S0 γ σ) H) (off (Sx S0 (γ.set i x) (σ.set i v)) H')) (new : Okx K x v H' (off (Sx S0 (γ.set i x) (σ.set i v)) H')) : SI R K H0 S0 (γ.set i x) (σ.set i v) H' where
  rel := rel
  dom := s.dom
  len := by rw [List.length_set, List.length_set]; exact s.len
  ok := fun j y h => by
    rcases set_get h with ⟨rfl, rfl, hl⟩ | ⟨nj, e⟩
    · exact ⟨v, by rw [List.getElem?_set_self (by rw [s.len]; exact hl)], new⟩
    · obtain ⟨u, e1, h1⟩ := s.ok j y e
      refine ⟨u, by rw [List.getElem?_set_ne (fun z => nj z.symm)]; exact e1, h1.keep (fun a f => oth j a nj ⟨y, u, e, e1, f⟩) kp⟩
  fp := fun j a h => by
    rcases fp_set h with ⟨_, f⟩ | ⟨nj, f⟩
    · exact ⟨(f0 a f).1, (f0 a f).2.1⟩
    · obtain ⟨q1, o, q2, q3⟩ := s.fp j a f
      exact ⟨q1, o, by rw [oth j a nj f]; exact q2, q3⟩
  inj := fun j k a h1 h2 => by
    rcases fp_set h1 with ⟨e1, f1⟩ | ⟨n1, f1⟩
    · rcases fp_set h2 with ⟨e2, f2⟩ | ⟨n2, f2⟩
      · rw [e1, e2]
      · exact absurd f2 ((f0 a f1).2.2 k n2)
    · rcases fp_set h2 with ⟨e2, f2⟩ | ⟨n2, f2⟩
      · exact absurd f1 ((f0 a f2).2.2 j n1)
      · exact s.inj j k a f1 f2
theorem sx_set {i : Nat} {x : Sl} {v : Option V} (h : ∀ a, Fx x v a → Sx S0 γ σ a) : ∀ a, Sx S0 (γ.set i x) (σ.set i v) a → Sx S0 γ σ a := fun a z => by
  rcases z with z | ⟨j, z⟩
  · exact .inl z
  · rcases fp_set z with ⟨_, f⟩ | ⟨_, f⟩
    · exact h a f
    · exact .inr ⟨j, f⟩
theorem sx_dat {i : Nat} {d : D} {v : Option V} : ∀ a, Sx S0 (γ.set i (.dat d)) (σ.set i v) a → Sx S0 γ σ a := sx_set (x := .dat d) fun _ f => False.elim f
theorem sx_no {i : Nat} {v : Option V} : ∀ a, Sx S0 (γ.set i .no) (σ.set i v) a → Sx S0 γ σ a := sx_set (x := .no) fun _ f => False.elim f
/-- a slot is set to something that is not a thing of one's own -/
theorem SI.put (s : SI R K H0 S0 γ σ H) (i : Nat) (v : Option V) (x : Sl) (hx : ∀ a, ¬ Fx x v a) (hd : Okx K x v H (off (Sx S0 γ σ) H)) : SI R K H0 S0 (γ.set i x) (σ.set i v) H := by
  have kp : Keep (off (Sx S0 γ σ) H) (off (Sx S0 (γ.set i x) (σ.set i v)) H) := off_keep (Keep.refl H) (sx_set fun a f => absurd f (hx a))
  exact s.updS i v x s.rel (fun a f => absurd f (hx a)) (fun _ _ _ _ => rfl) kp (hd.keep (fun _ _ => rfl) kp)
theorem SI.putD (s : SI R K H0 S0 γ σ H) (i : Nat) {v : V} {d : D} (h : Dt K (off (Sx S0 γ σ) H) v d) : SI R K H0 S0 (γ.set i (.dat d)) (σ.set i (some v)) H :=
  s.put i (some v) (.dat d) (fun _ z => z) ⟨v, rfl, h⟩
theorem SI.putV (s : SI R K H0 S0 γ σ H) (i : Nat) {v : V} : SI R K H0 S0 (γ.set i (.val v)) (σ.set i (some v)) H :=
  s.put i (some v) (.val v) (fun _ z => z) rfl
theorem SI.putN (s : SI R K H0 S0 γ σ H) (i : Nat) {v : Option V} : SI R K H0 S0 (γ.set i .no) (σ.set i v) H :=
  s.put i v .no (fun _ z => z) trivial
/-- a new thing of one's own -/
theorem SI.putB (s : SI R K H0 S0 γ σ H) (i : Nat) {v : Option V} {o : Ow} (r : R H H') (hn : ∀ a, Fx (.own o) v a → H a = none ∧ NT H' a) (hd : Okx K (.own o) v H' (off (fun a => Fx (.own o) v a ∨ Sx S0 γ σ a) H')) : SI R K H0 S0 (γ.set i (.own o)) (σ.set i v) H' := by
  have s' := s.mono r
  have sub : ∀ a, Sx S0 (γ.set i (.own o)) (σ.set i v) a → Fx (.own o) v a ∨ Sx S0 γ σ a := fun a z => by
    rcases z with z | ⟨j, z⟩
    · exact .inr (.inl z)
    · rcases fp_set z with ⟨_, f⟩ | ⟨_, f⟩
      · exact .inl f
      · exact .inr (.inr ⟨j, f⟩)
  refine s.updS i v (.own o) s'.rel (fun a f => ⟨Rel.free s.rel (hn a f).1, (hn a f).2, fun j _ z => (s.fp j a z).2.there (hn a f).1⟩) (fun j a _ f => (s.fp j a f).2.keep (Rel.keep r)) (fun a u e n => ?_) (hd.keep (fun _ _ => rfl) (off_keep (Keep.refl H') sub))
  obtain ⟨h1, h2⟩ := off_some e
  refine off_of (fun z => ?_) (Rel.keep r a u h2 n)
  rcases sub a z with f | z
  · rw [(hn a f).1] at h2; cases h2
  · exact h1 z
/-- a new list of one's own -/
theorem SI.putO (s : SI R K H0 S0 γ σ H) (i : Nat) {p : Addr} {vs : List V} {ds : List D} (r : R H H') (hn : H p = none) (hp : H' p = some (.lst vs)) (hd : DtAll K (off (fun a => a = p ∨ Sx S0 γ σ a) H') vs ds) : SI R K H0 S0 (γ.set i (.own (.l ds))) (σ.set i (some (.ref p))) H' := by
  refine s.putB i r (fun a f => ?_) ⟨p, vs, rfl, hp, dps_keep (off_keep (Keep.refl H') fun a z => ?_) _ _ hd⟩
  · have e : some (V.ref p) = some (V.ref a) := f
    injection e with e
    injection e with e
    subst e
    exact ⟨hn, NT.lst hp⟩
  · rcases z with f | z
    · have e : some (V.ref p) = some (V.ref a) := f
      injection e with e
      injection e with e
      exact .inl e.symm
    · exact .inr z
/-- a thing of one's own is changed, at one address of its own -/
theorem SI.mutB (s : SI R K H0 S0 γ σ H) {i : Nat} {v : Option V} {x : Sl} {o : Ow} {l : Addr} {u : HO} (hi : γ[i]? = some x) (hv : σ[i]? = some v) (hl : Fx x v l) (hu : MutO u) (hx : ∀ a, Fx (.own o) v a ↔ Fx x v a)
    (hw : Okx K (.own o) v (upd H l u) (off (Sx S0 γ σ) (upd H l u))) : SI R K H0 S0 (γ.set i (.own o)) σ (upd H l u) := by
  have hσ : σ.set i v = σ := by
    have hlt := (List.getElem?_eq_some_iff.mp hv).1
    have e := (List.getElem?_eq_some_iff.mp hv).2
    rw [← e]
    exact List.set_getElem_self hlt
  have fl : Fp γ σ i l := ⟨x, v, hi, hv, hl⟩
  obtain ⟨q1, q2⟩ := s.fp i l fl
  have sub : ∀ a, Sx S0 (γ.set i (.own o)) (σ.set i v) a → Sx S0 γ σ a := sx_set fun a f => .inr ⟨i, x, v, hi, hv, (hx a).mp f⟩
  have t := s.updS (H' := L2.upd H l u) i v (.own o) (Rel.chg s.rel q1 q2 hu) (fun a f => ?_) (fun j a nj f => ?_) (fun a w e n => ?_) (hw.keep (fun _ _ => rfl) (off_keep (Keep.refl _) sub))
  · rw [hσ] at t
    exact t
  · have f' : Fp γ σ i a := ⟨x, v, hi, hv, (hx a).mp f⟩
    refine ⟨(s.fp i a f').1, ?_, fun j nj z => nj (s.inj j i a z f')⟩
    by_cases ha : a = l
    · subst ha
      exact ⟨u, upd_same, hu⟩
    · obtain ⟨w, w1, w2⟩ := (s.fp i a f').2
      exact ⟨w, by rw [upd_ne ha]; exact w1, w2⟩
  · have ha : a ≠ l := fun z => nj (s.inj j i a f (z ▸ fl))
    rw [upd_ne ha]
  · obtain ⟨h1, h2⟩ := off_some e
    refine off_of (fun z => h1 (sub a z)) ?_
    rw [upd_ne (fun (z : a = l) => h1 (.inr ⟨i, z ▸ fl⟩))]
    exact h2
/-- a list of one's own is changed -/
theorem SI.mutO (s : SI R K H0 S0 γ σ H) {i : Nat} {l : Addr} {ds es : List D} {ws : List V} (hi : γ[i]? = some (.own (.l ds))) (hl : σ[i]? = some (some (.ref l))) (hw : DtAll K (off (Sx S0 γ σ) H) ws es) : SI R K H0 S0 (γ.set i (.own (.l es))) σ (L2.upd H l (.lst ws)) := by
  refine s.mutB hi hl rfl trivial (fun _ => Iff.rfl) ⟨l, ws, rfl, upd_same, dps_keep (fun a o e n => ?_) _ _ hw⟩
  obtain ⟨h1, h2⟩ := off_some e
  refine off_of h1 ?_
  rw [upd_ne (fun z => h1 (.inr ⟨i, _, _, hi, hl, by rw [z]; rfl⟩))]
  exact h2
/-- a list of one's own is handed on: from now on it is data -/
theorem SI.freeze (s : SI R K H0 S0 γ σ H) {i : Nat} {ds : List D} (hi : γ[i]? = some (.own (.l ds))) : SI R K H0 S0 (γ.set i (.dat (.list ds))) σ H := by
  obtain ⟨l, vs, e1, h0, e3, e4⟩ := s.own i ds hi
  have hσ : σ.set i (some (.ref l)) = σ := by
    have hlt := (List.getElem?_eq_some_iff.mp e1).1
    have e := (List.getElem?_eq_some_iff.mp e1).2
    rw [← e]
    exact List.set_getElem_self hlt
  have sub : ∀ a, Sx S0 (γ.set i (.dat (.list ds))) (σ.set i (some (.ref l))) a → Sx S0 γ σ a := sx_set fun a f => False.elim f
  have kp : Keep (off (Sx S0 γ σ) H) (off (Sx S0 (γ.set i (.dat (.list ds))) (σ.set i (some (.ref l)))) H) := off_keep (Keep.refl H) sub
  have nl : ¬ Sx S0 (γ.set i (.dat (.list ds))) (σ.set i (some (.ref l))) l := fun z => by
    rcases z with z | ⟨j, z⟩
    · exact s.dom l z h0
    · rcases fp_set z with ⟨_, f⟩ | ⟨nj, f⟩
      · exact f
      · exact nj (s.inj j i l f ⟨_, _, hi, e1, rfl⟩)
  have t := s.updS i (some (.ref l)) (.dat (.list ds)) s.rel (fun a f => False.elim f) (fun _ _ _ _ => rfl) kp ⟨_, rfl, .lst (.inl (off_of nl e3)) (dps_keep kp _ _ e4)⟩
  rw [hσ] at t
  exact t
/-- a thing of one's own is left as it is from now on -/
theorem SI.freezeB (s : SI R K H0 S0 γ σ H) {i : Nat} {B : Bx} {fs : List Addr} {F : Fix} (hi : γ[i]? = some (.own (.b B fs))) (h : ∀ v Hd Hd', B.at_ K v fs H Hd → (∀ a ∈ fs, Hd' a = H a) → Keep Hd Hd' → F.at_ K v Hd') : SI R K H0 S0 (γ.set i (.fix F)) σ H := by
  obtain ⟨v, e1, h1, h2⟩ := s.box i hi
  have hσ : σ.set i (some v) = σ := by
    have hlt := (List.getElem?_eq_some_iff.mp e1).1
    have e := (List.getElem?_eq_some_iff.mp e1).2
    rw [← e]
    exact List.set_getElem_self hlt
  have sub : ∀ a, Sx S0 (γ.set i (.fix F)) (σ.set i (some v)) a → Sx S0 γ σ a := sx_set fun a f => False.elim f
  have kp : Keep (off (Sx S0 γ σ) H) (off (Sx S0 (γ.set i (.fix F)) (σ.set i (some v))) H) := off_keep (Keep.refl H) sub
  have nl : ∀ l ∈ fs, ¬ Sx S0 (γ.set i (.fix F)) (σ.set i (some v)) l := fun l hl z => by
    rcases z with z | ⟨j, z⟩
    · exact s.dom l z (h2 l hl).1
    · rcases fp_set z with ⟨_, f⟩ | ⟨nj, f⟩
      · exact f
      · exact nj (s.inj j i l f ⟨_, _, hi, e1, hl⟩)
  have t := s.updS i (some v) (.fix F) s.rel (fun a f => False.elim f) (fun _ _ _ _ => rfl) kp ⟨v, rfl, h v _ _ h1 (fun a ha => by
    unfold off
    rw [if_neg (nl a ha)]) kp⟩
  rw [hσ] at t
  exact t
theorem SI.fix (s : SI R K H0 S0 γ σ H) (i : Nat) {F : Fix} (h : γ[i]? = some (.fix F)) : ∃ v, σ[i]? = some (some v) ∧ F.at_ K v (off (Sx S0 γ σ) H) := by
  obtain ⟨v, e, u, rfl, h⟩ := s.ok i _ h
  exact ⟨u, e, h⟩
end
end An

/-! Expressions: what they come to. -/
namespace An
open PySem PySem.Spec PyProof.Rows L2
/-- e comes to a value that is the data d -/
def EE (R : Hp → Hp → Prop) (X : Cx) (γ : List Sl) (e : Expr) (d : D) : Prop :=
  ∀ (H0 : Hp) (S0 : Addr → Prop) (σ : L2.St) (H : Hp) (Q : VK), SI R X.K H0 S0 γ σ H → (∀ v H2, R H H2 → Dt X.K (off (Sx S0 γ σ) H2) v d → Q v H2) → we X e σ H Q
/-- e comes to a new list of ds -/
def EF (R : Hp → Hp → Prop) (X : Cx) (γ : List Sl) (e : Expr) (ds : List D) : Prop :=
  ∀ (H0 : Hp) (S0 : Addr → Prop) (σ : L2.St) (H : Hp) (Q : VK), SI R X.K H0 S0 γ σ H → (∀ p vs H2, H p = none → R H H2 → H2 p = some (.lst vs) → DtAll X.K (off (fun a => a = p ∨ Sx S0 γ σ a) H2) vs ds → Q (.ref p) H2) → we X e σ H Q
/-- e comes to the value v -/
def EV (R : Hp → Hp → Prop) (X : Cx) (γ : List Sl) (e : Expr) (v : V) : Prop :=
  ∀ (H0 : Hp) (S0 : Addr → Prop) (σ : L2.St) (H : Hp) (Q : VK), SI R X.K H0 S0 γ σ H → (∀ H2, R H H2 → Q v H2) → we X e σ H Q
def ET (R : Hp → Hp → Prop) (X : Cx) (γ : List Sl) (e : Expr) (b : Bool) : Prop :=
  ∀ (H0 : Hp) (S0 : Addr → Prop) (σ : L2.St) (H : Hp) (Q : Bool → Hp → Prop), SI R X.K H0 S0 γ σ H → (∀ H2, R H H2 → Q b H2) → wt X e σ H Q
def EW (R : Hp → Hp → Prop) (X : Cx) (γ : List Sl) (e : Expr) (b : Bool) : Prop :=
  ∀ (H0 : Hp) (S0 : Addr → Prop) (σ : L2.St) (H : Hp) (Q : Bool → Hp → Prop), SI R X.K H0 S0 γ σ H → (∀ H2, R H H2 → Q b H2) → ww X e σ H Q
def EA (R : Hp → Hp → Prop) (X : Cx) (γ : List Sl) (es : List Expr) (ds : List D) : Prop :=
  ∀ (H0 : Hp) (S0 : Addr → Prop) (σ : L2.St) (H : Hp) (Q : List V → Hp → Prop), SI R X.K H0 S0 γ σ H → (∀ vs H2, R H H2 → DtAll X.K (off (Sx S0 γ σ) H2) vs ds → Q vs H2) → wa X es σ H Q
section
variable {R : Hp → Hp → Prop} [Rel R] {X : Cx} {γ : List Sl} {pos : Pos}
theorem dt_up {K : PySem.W.Frag} {S : Addr → Prop} {H H' : Hp} {v : V} {d : D} (r : R H H') (h : Dt K (off S H) v d) : Dt K (off S H') v d := dp_keep (off_keep (Rel.keep r) fun _ z => z) _ _ h
theorem dts_up {K : PySem.W.Frag} {S : Addr → Prop} {H H' : Hp} {v : List V} {d : List D} (r : R H H') (h : DtAll K (off S H) v d) : DtAll K (off S H') v d := dps_keep (off_keep (Rel.keep r) fun _ z => z) _ _ h
theorem dt_in {K : PySem.W.Frag} {S : Addr → Prop} {H : Hp} {v : V} {d : D} (h : Dt K (off S H) v d) : Dt K H v d := dp_keep off_in _ _ h
theorem dts_in {K : PySem.W.Frag} {S : Addr → Prop} {H : Hp} {v : List V} {d : List D} (h : DtAll K (off S H) v d) : DtAll K H v d := dps_keep off_in _ _ h
theorem dt_new {K : PySem.W.Frag} {S : Addr → Prop} {H : Hp} {p : Addr} {o : HO} {v : V} {d : D} (n : H p = none) (h : Dt K (off S H) v d) : Dt K (off S (upd H p o)) v d := dp_keep (off_keep (Keep.of (same_new n)) fun _ z => z) _ _ h
theorem dts_new {K : PySem.W.Frag} {S : Addr → Prop} {H : Hp} {p : Addr} {o : HO} {v : List V} {d : List D} (n : H p = none) (h : DtAll K (off S H) v d) : DtAll K (off S (upd H p o)) v d := dps_keep (off_keep (Keep.of (same_new n)) fun _ z => z) _ _ h
/-- data that was there ahead of a new object doesn't hold it -/
theorem dts_newO {K : PySem.W.Frag} {S : Addr → Prop} {H : Hp} {p : Addr} {o : HO} {v : List V} {d : List D} (n : H p = none) (h : DtAll K (off S H) v d) : DtAll K (off (fun a => a = p ∨ S a) (upd H p o)) v d := by
  refine dps_keep (fun a u e z => ?_) _ _ h
  obtain ⟨h1, h2⟩ := off_some e
  have na : a ≠ p := ne_of_none h2 n
  refine off_of (fun q => ?_) ?_
  · rcases q with q | q
    · exact na q
    · exact h1 q
  · rw [upd_ne na]
    exact h2
theorem ee_is {e : Expr} {d d' : D} (h : EE R X γ e d) (q : d = d') : EE R X γ e d' := by
  rw [← q]
  exact h
theorem ef_ee {e : Expr} {ds : List D} (h : EF R X γ e ds) : EE R X γ e (.list ds) := fun H0 S0 σ H Q s k => h H0 S0 σ H Q s fun p vs H2 n r hp hd => by
  refine k (.ref p) H2 r (.lst (.inl (off_of (fun z => ?_) hp)) (dps_keep (off_keep (Keep.refl H2) fun a z => .inr z) _ _ hd))
  exact s.there z n
theorem ef_is {e : Expr} {ds ds' : List D} (h : EF R X γ e ds) (q : ds = ds') : EF R X γ e ds' := by
  rw [← q]
  exact h
/-! ### names, constants -/
theorem ee_var (i : Nat) {x : Str} {d : D} (h : γ[i]? = some (.dat d) := by rfl) (hN : X.N[i]? = some x := by rfl) (hv : Vis X.env.scope x := by first | exact Or.inl rfl | exact Or.inr (Or.inl rfl) | exact Or.inr (Or.inr rfl))
    (hd : (x == ("__debug__" : Str)) = false := by decide) (hcd : (x == ("__classdict__" : Str)) = false := by decide) : EE R X γ (.Name x pos) d := fun H0 S0 σ H Q s k => by
  obtain ⟨v, h1, h2⟩ := s.dat i d h
  exact we_of (pe_var hN hv hd hcd) ⟨v, h1, k v H (s.ref) h2⟩
theorem ev_var (i : Nat) {x : Str} {v : V} (h : γ[i]? = some (.val v) := by rfl) (hN : X.N[i]? = some x := by rfl) (hv : Vis X.env.scope x := by first | exact Or.inl rfl | exact Or.inr (Or.inl rfl) | exact Or.inr (Or.inr rfl))
    (hd : (x == ("__debug__" : Str)) = false := by decide) (hcd : (x == ("__classdict__" : Str)) = false := by decide) : EV R X γ (.Name x pos) v := fun H0 S0 σ H Q s k =>
  we_of (pe_var hN hv hd hcd) ⟨v, s.val i v h, k H (s.ref)⟩
theorem ee_int {i : Int} {j : Nat} : EE R X γ (.Constant (.int i) j pos) (.int i) := fun _ _ _ H Q s k => we_of pe_int (k _ H (s.ref) (.int i))
theorem ee_bl {b : Bool} {j : Nat} : EE R X γ (.Constant (.bool b) j pos) (.bool b) := fun _ _ _ H Q s k => we_of pe_bl (k _ H (s.ref) (.bl b))
theorem ee_non {j : Nat} : EE R X γ (.Constant .none j pos) .none := fun _ _ _ H Q s k => we_of pe_non (k _ H (s.ref) .non)
theorem ee_str {x : Str} {j : Nat} : EE R X γ (.Constant (.str x) j pos) (.str x) := fun _ _ _ H Q s k => we_of pe_str (k _ H (s.ref) (.str x))
/-- a module's constant: d at every heap -/
def KD (K : PySem.W.Frag) (mg : Str → Option Value) (x : Str) (d : D) : Prop := ∃ (v : V) (u : Value), mg x = some u ∧ RelV v u ∧ ∀ H : Hp, Dt K H v d
theorem ee_glob {x : Str} {d : D} (c : KD X.K X.mg x d) (hg : Gl X x := by rfl) (hd : (x == ("__debug__" : Str)) = false := by decide) : EE R X γ (.Name x pos) d := fun _ _ _ H Q s k => by
  obtain ⟨v, u, h1, h2, h3⟩ := c
  exact we_of (pe_glob hg h1 h2 hd) (k _ H (s.ref) (h3 _))
theorem ev_glob {x : Str} {v : V} {u : Value} (hm : X.mg x = some u) (r : RelV v u) (hg : Gl X x := by rfl) (hd : (x == ("__debug__" : Str)) = false := by decide) : EV R X γ (.Name x pos) v := fun _ _ _ H Q s k =>
  we_of (pe_glob hg hm r hd) (k H (s.ref))
theorem ev_bltn {x : Str} {v : V} {u : Value} (hm : X.mg x = none) (hv : bootBuiltins x = some u) (r : RelV v u) (hg : Gl X x := by rfl) (hn : x ≠ "__name__" := by decide) (hd : (x == ("__debug__" : Str)) = false := by decide) : EV R X γ (.Name x pos) v := fun _ _ _ H Q s k =>
  we_of (pe_bltn hg hm hv r hn hd) (k H (s.ref))
/-! ### argument lists, displays -/
theorem ea_nil : EA R X γ [] [] := fun _ _ _ H Q s k => wa_of pa_nil (k [] H (s.ref) .nil)
theorem ea_cons {e : Expr} {es : List Expr} {d : D} {ds : List D} (h : EE R X γ e d) (t : EA R X γ es ds) (hs : starEach (e :: es) X.env = (false, eval e X.env) :: starEach es X.env := by rfl) : EA R X γ (e :: es) (d :: ds) := fun H0 S0 σ H Q s k =>
  wa_of (pa_cons pe_we pa_wa hs) (h H0 S0 σ H _ s fun v H1 r1 d1 => t H0 S0 σ H1 _ (s.mono r1) fun vs H2 r2 d2 => k (v :: vs) H2 (Rel.trans r1 r2) (.cons (dt_up r2 d1) d2))
theorem ee_tup {es : List Expr} {x1} {ds : List D} (h : EA R X γ es ds) (hl : ds.length ≤ 1000 := by exact Nat.le_of_ble_eq_true rfl) : EE R X γ (.Tuple es x1 pos) (.tuple ds) := fun H0 S0 σ H Q s k =>
  we_of (pe_tup pa_wa) (h H0 S0 σ H _ s fun vs H1 r1 d1 => ⟨by rw [dps_len d1]; exact Nat.le_of_lt (small1000 hl), fun p n => by
    have sd := s.mono r1
    refine k (.ref p) _ (Rel.more r1 (same_new n)) (.tup (.inl (.inl (off_of (fun z => sd.there z n) upd_same))) (dts_new n d1))⟩)
theorem ef_lst {es : List Expr} {ds : List D} (h : EA R X γ es ds) (hl : ds.length ≤ 1000 := by exact Nat.le_of_ble_eq_true rfl) : EF R X γ (.List es pos) ds := fun H0 S0 σ H Q s k =>
  we_of (pe_lst pa_wa) (h H0 S0 σ H _ s fun vs H1 r1 d1 => ⟨by rw [dps_len d1]; exact Nat.le_of_lt (small1000 hl), fun p n =>
    k p vs _ (Rel.free r1 n) (Rel.more r1 (same_new n)) upd_same (dts_newO n d1)⟩)
theorem ee_lst {es : List Expr} {ds : List D} (h : EA R X γ es ds) (hl : ds.length ≤ 1000 := by exact Nat.le_of_ble_eq_true rfl) : EE R X γ (.List es pos) (.list ds) := ef_ee (ef_lst h hl)
/-! ### operators on data -/
/-- an operator, by data: what comes is no new object -/
def OpD (X : Cx) (f : Value → Value → Sem Value) (a b c : D) : Prop := ∃ r : R2, OpR X f r ∧ ∀ (H : Hp) (x y : V) (Q : VK), Dt X.K H x a → Dt X.K H y b → (∀ z, (∀ H', Dt X.K H' z c) → Q z H) → r x y H Q
theorem ee_op {a b : Expr} {op : Operator} {x y z : D} (ha : EE R X γ a x) (hb : EE R X γ b y) (ho : OpD X (binaryOp op) x y z) : EE R X γ (.BinOp a op b pos) z := fun H0 S0 σ H Q s k => by
  obtain ⟨r, h1, h2⟩ := ho
  exact we_of (pe_op h1 pe_we pe_we) (ha H0 S0 σ H _ s fun v H1 r1 d1 => hb H0 S0 σ H1 _ (s.mono r1) fun u H2 r2 d2 => h2 H2 v u Q (dt_in (dt_up r2 d1)) (dt_in d2) fun z q => k z H2 (Rel.trans r1 r2) (q _))
theorem ee_cmp {a b : Expr} {op : CmpOp} {x y z : D} (ha : EE R X γ a x) (hb : EE R X γ b y) (ho : OpD X (compareOp op) x y z) (hm : behindInMarks op b = false) : EE R X γ (.Compare a [op] [b] pos) z := fun H0 S0 σ H Q s k => by
  obtain ⟨r, h1, h2⟩ := ho
  exact we_of (pe_cmpR h1 pe_we pe_we hm) (ha H0 S0 σ H _ s fun v H1 r1 d1 => hb H0 S0 σ H1 _ (s.mono r1) fun u H2 r2 d2 => h2 H2 v u Q (dt_in (dt_up r2 d1)) (dt_in d2) fun z q => k z H2 (Rel.trans r1 r2) (q _))
theorem et_cmp {a b : Expr} {op : CmpOp} {x y : D} {c : Bool} (ha : EE R X γ a x) (hb : EE R X γ b y) (ho : OpD X (compareOp op) x y (.bool c)) (hm : behindInMarks op b = false) : ET R X γ (.Compare a [op] [b] pos) c := fun H0 S0 σ H Q s k => by
  obtain ⟨r, h1, h2⟩ := ho
  exact wt_of (pt_cmpR h1 pe_we pe_we hm) (ha H0 S0 σ H _ s fun v H1 r1 d1 => hb H0 S0 σ H1 _ (s.mono r1) fun u H2 r2 d2 => h2 H2 v u _ (dt_in (dt_up r2 d1)) (dt_in d2) fun z q => by
    have e := q H2
    cases e
    exact ⟨c, rfl, k H2 (Rel.trans r1 r2)⟩)
theorem opd_I0 {f : Value → Value → Sem Value} {g : Int → Int → V} {i j : Int} {c : D} (h : OpR X f (rI0 g)) (hc : ∀ H, Dt X.K H (g i j) c) : OpD X f (.int i) (.int j) c := ⟨_, h, fun H x y Q hx hy k => by
  cases hx
  cases hy
  exact ⟨i, j, rfl, rfl, k _ hc⟩⟩
theorem opd_I {f : Value → Value → Sem Value} {C : Int → Int → Prop} {g : Int → Int → V} {i j : Int} {c : D} (h : OpR X f (rI C g)) (hC : C i j) (hc : ∀ H, Dt X.K H (g i j) c) : OpD X f (.int i) (.int j) c := ⟨_, h, fun H x y Q hx hy k => by
  cases hx
  cases hy
  exact ⟨i, j, rfl, rfl, hC, k _ hc⟩⟩
theorem od_add {i j : Int} : OpD X (binaryOp .Add) (.int i) (.int j) (.int (i + j)) := opd_I0 op_add fun _ => .int _
theorem od_sub {i j : Int} : OpD X (binaryOp .Sub) (.int i) (.int j) (.int (i - j)) := opd_I0 op_sub fun _ => .int _
theorem od_mul {i j : Int} (h : CMulX i j) : OpD X (binaryOp .Mult) (.int i) (.int j) (.int (i * j)) := opd_I op_mulX h fun _ => .int _
theorem od_mod {i j : Int} (h : 0 < j) : OpD X (binaryOp .Mod) (.int i) (.int j) (.int (i % j)) := opd_I op_mod h fun _ => .int _
theorem od_lt {i j : Int} : OpD X (compareOp .Lt) (.int i) (.int j) (.bool (decide (i < j))) := opd_I0 op_lt fun _ => .bl _
theorem od_le {i j : Int} : OpD X (compareOp .LtE) (.int i) (.int j) (.bool (decide (i ≤ j))) := opd_I0 op_le fun _ => .bl _
theorem od_gt {i j : Int} : OpD X (compareOp .Gt) (.int i) (.int j) (.bool (decide (j < i))) := opd_I0 op_gt fun _ => .bl _
theorem od_ge {i j : Int} : OpD X (compareOp .GtE) (.int i) (.int j) (.bool (decide (j ≤ i))) := opd_I0 op_ge fun _ => .bl _
/-- what a body's context has besides: no one looks at a great division -/
structure Gx (X : Cx) (k : Nat) : Prop where
  room : Room k X.A
  big : 40 ≤ k
  ns : X.base.NoSeer
  tree : X.prog.given.tree = none
  stk : ∃ env l, X.stack = env :: l ∧ env.scope.isGenerator = false ∧ env.scope.isCoroutine = false ∧ env.builtins = builtinsNs ∧ env.globals = mainGlobals
theorem Gx.blk {k : Nat} (g : Gx X k) {s : Shared} {H : Hp} {scope : Scope} {cenv : Env} {fp : List Addr} : Gx (X.blk s H scope cenv fp) k := ⟨g.room, g.big, g.ns, g.tree, g.stk⟩
theorem Gx.pylong {k : Nat} (g : Gx X k) {pins : List (Addr × Obj)} {σ : L2.St} {H : Hp} {s : Shared} (I : Inv X pins σ H s) : PySem.PylongRoom (model X.prog X.w) X.A s := by
  obtain ⟨env, l, e, h1, h2, h3, h4⟩ := g.stk
  refine PySem.PylongRoom.of I.nolimit ?_ (PySem.SeerAt.of (env := env) (l := l) (g.ns.keeps I.bk) g.tree (by rw [I.ok.frames, e]) h1 h2 h3 h4)
  have h5 := g.room.dp
  have h6 := g.big
  show X.A.depth + 100 < recursionLimit
  omega
/-- // by a positive number of any size -/
theorem op_fdivR {k : Nat} (g : Gx X k) : OpR X (binaryOp .FloorDiv) (rI (fun _ j => 0 < j) fun i j => .int (i / j)) := by
  intro pins s σ H x y v u Q I rx ry h
  obtain ⟨i, j, rfl, rfl, hj, q⟩ := h
  have hj' : 0 < j := hj
  obtain ⟨t, rfl⟩ := rx
  obtain ⟨t', rfl⟩ := ry
  refine floordiv_int (by omega) ?_ (.inr (g.pylong I))
  rw [Int.fdiv_eq_ediv_of_nonneg i (by omega)]
  exact ⟨.int (i / j), H, I.tok _, ⟨_, rfl⟩, q⟩
theorem od_fdiv {i j : Int} {k : Nat} (g : Gx X k) (h : 0 < j) : OpD X (binaryOp .FloorDiv) (.int i) (.int j) (.int (i / j)) := opd_I (op_fdivR g) h fun _ => .int _
theorem od_eq {a b : D} {k : Nat} (g : Gx X k) (ha : SeqAt.shaped a = true) (hb : SeqAt.shaped b = true) : OpD X (compareOp .Eq) a b (.bool (PyData.eqv a b)) := ⟨_, op_eqD g.room.units, fun H x y Q hx hy k => ⟨a, b, hx.dp, hy.dp, ha, hb, k _ fun _ => .bl _⟩⟩
theorem od_ne {a b : D} {k : Nat} (g : Gx X k) (ha : SeqAt.shaped a = true) (hb : SeqAt.shaped b = true) : OpD X (compareOp .NotEq) a b (.bool (!PyData.eqv a b)) := ⟨_, op_neD g.room.units, fun H x y Q hx hy k => ⟨a, b, hx.dp, hy.dp, ha, hb, k _ fun _ => .bl _⟩⟩
theorem od_isN {a : D} : OpD X (compareOp .Is) a .none (.bool (match a with | .none => true | _ => false)) := ⟨_, op_isN, fun H x y Q hx hy k => by
  cases hy
  refine ⟨rfl, ?_⟩
  cases hx with
  | non => exact k _ fun _ => .bl true
  | bl b => exact k _ fun _ => .bl false
  | int i => exact k _ fun _ => .bl false
  | str z => exact k _ fun _ => .bl false
  | lst h1 h2 => exact k _ fun _ => .bl false
  | tup h1 h2 => exact k _ fun _ => .bl false⟩
theorem od_notN {a : D} : OpD X (compareOp .IsNot) a .none (.bool (match a with | .none => false | _ => true)) := ⟨_, op_notN, fun H x y Q hx hy k => by
  cases hy
  refine ⟨rfl, ?_⟩
  cases hx with
  | non => exact k _ fun _ => .bl false
  | bl b => exact k _ fun _ => .bl true
  | int i => exact k _ fun _ => .bl true
  | str z => exact k _ fun _ => .bl true
  | lst h1 h2 => exact k _ fun _ => .bl true
  | tup h1 h2 => exact k _ fun _ => .bl true⟩
/-- -n, n written -/
theorem ee_neg {a : Expr} {i : Int} (ha : EE R X γ a (.int i)) : EE R X γ (.UnaryOp .USub a pos) (.int (-i)) := fun H0 S0 σ H Q s k =>
  we_of (pe_un un_neg pe_we) (ha H0 S0 σ H _ s fun v H1 r1 d1 => by
    cases d1
    exact ⟨i, rfl, k _ H1 r1 (.int _)⟩)
/-- a chain of two comparisons -/
theorem ee_chain {a b c : Expr} {op op' : CmpOp} {x y z : D} {p : Bool} {w : Bool} (ha : EE R X γ a x) (hb : EE R X γ b y) (hc : EE R X γ c z) (ho : OpD X (compareOp op) x y (.bool p)) (ho' : OpD X (compareOp op') y z (.bool w)) (hm : lastMarks [op, op'] [b, c] = false := by with_unfolding_all rfl) :
    EE R X γ (.Compare a [op, op'] [b, c] pos) (.bool (p && w)) := fun H0 S0 σ H Q s k => by
  obtain ⟨r, h1, h2⟩ := ho
  obtain ⟨r', h1', h2'⟩ := ho'
  refine we_of (pe_chain h1 h1' pe_we pe_we pe_we hm) (ha H0 S0 σ H _ s fun v H1 r1 d1 => hb H0 S0 σ H1 _ (s.mono r1) fun u H2 r2 d2 => h2 H2 v u _ (dt_in (dt_up r2 d1)) (dt_in d2) fun t q => ?_)
  have e := q H2
  cases e
  refine ⟨p, rfl, ?_⟩
  cases p with
  | true =>
    rw [if_pos rfl]
    refine hc H0 S0 σ H2 _ (s.mono (Rel.trans r1 r2)) fun v3 H3 r3 d3 => h2' H3 u v3 Q (dt_in (dt_up r3 d2)) (dt_in d3) fun t q => ?_
    have e := q H3
    cases e
    exact k _ H3 (Rel.trans (Rel.trans r1 r2) r3) (q _)
  | false =>
    rw [if_neg Bool.false_ne_true]
    exact k _ H2 (Rel.trans r1 r2) (.bl false)
/-- .. as a test -/
theorem et_chain {a b c : Expr} {op op' : CmpOp} {x y z : D} {p : Bool} {w : Bool} (ha : EE R X γ a x) (hb : EE R X γ b y) (hc : EE R X γ c z) (ho : OpD X (compareOp op) x y (.bool p)) (ho' : OpD X (compareOp op') y z (.bool w)) (hm : lastMarks [op, op'] [b, c] = false := by with_unfolding_all rfl) :
    ET R X γ (.Compare a [op, op'] [b, c] pos) (p && w) := fun H0 S0 σ H Q s k => by
  obtain ⟨r, h1, h2⟩ := ho
  obtain ⟨r', h1', h2'⟩ := ho'
  refine wt_of (pt_chain h1 h1' pe_we pe_we pe_we hm) (ha H0 S0 σ H _ s fun v H1 r1 d1 => hb H0 S0 σ H1 _ (s.mono r1) fun u H2 r2 d2 => h2 H2 v u _ (dt_in (dt_up r2 d1)) (dt_in d2) fun t q => ?_)
  have e := q H2
  cases e
  refine ⟨p, rfl, ?_⟩
  cases p with
  | true =>
    rw [if_pos rfl]
    refine hc H0 S0 σ H2 _ (s.mono (Rel.trans r1 r2)) fun v3 H3 r3 d3 => h2' H3 u v3 _ (dt_in (dt_up r3 d2)) (dt_in d3) fun t q => ?_
    have e := q H3
    cases e
    exact ⟨_, rfl, k H3 (Rel.trans (Rel.trans r1 r2) r3)⟩
  | false =>
    rw [if_neg Bool.false_ne_true]
    exact ⟨_, rfl, k H2 (Rel.trans r1 r2)⟩
/-! ### truth -/
theorem et_val {e : Expr} {b : Bool} (h : EE R X γ e (.bool b)) (he : ∀ whole, isTrue e X.env whole = (do let v ← whole; standAt e.pos; holding [v] (truthy v)) := by intro _; rfl) : ET R X γ e b := fun H0 S0 σ H Q s k =>
  wt_of (pt_val pe_we he) (h H0 S0 σ H _ s fun v H1 r1 d1 => by
    cases d1
    exact ⟨b, rfl, k H1 r1⟩)
theorem et_is {e : Expr} {b b' : Bool} (h : ET R X γ e b) (q : b = b') : ET R X γ e b' := by
  rw [← q]
  exact h
theorem ew_and1 {a : Expr} {b : Bool} (h : ET R X γ a b) : EW R X γ (.BoolOp .And [a] pos) b := fun H0 S0 σ H Q s k => ww_of (pw_and1 pt_wt) (h H0 S0 σ H _ s k)
theorem ew_or1 {a : Expr} {b : Bool} (h : ET R X γ a b) : EW R X γ (.BoolOp .Or [a] pos) b := fun H0 S0 σ H Q s k => ww_of (pw_or1 pt_wt) (h H0 S0 σ H _ s k)
theorem ew_and {a c : Expr} {rest : List Expr} {p q : Bool} (h : ET R X γ a p) (t : p = true → EW R X γ (.BoolOp .And (c :: rest) pos) q) : EW R X γ (.BoolOp .And (a :: c :: rest) pos) (p && q) := fun H0 S0 σ H Q s k =>
  ww_of (pw_and pt_wt pw_ww) (h H0 S0 σ H _ s fun H1 r1 => by
    cases p with
    | true =>
      rw [if_pos rfl]
      exact t rfl H0 S0 σ H1 _ (s.mono r1) fun H2 r2 => k H2 (Rel.trans r1 r2)
    | false =>
      rw [if_neg Bool.false_ne_true]
      exact k H1 r1)
theorem ew_or {a c : Expr} {rest : List Expr} {p q : Bool} (h : ET R X γ a p) (t : p = false → EW R X γ (.BoolOp .Or (c :: rest) pos) q) : EW R X γ (.BoolOp .Or (a :: c :: rest) pos) (p || q) := fun H0 S0 σ H Q s k =>
  ww_of (pw_or pt_wt pw_ww) (h H0 S0 σ H _ s fun H1 r1 => by
    cases p with
    | true =>
      rw [if_pos rfl]
      exact k H1 r1
    | false =>
      rw [if_neg Bool.false_ne_true]
      exact t rfl H0 S0 σ H1 _ (s.mono r1) fun H2 r2 => k H2 (Rel.trans r1 r2))
/-- the first of several is so: the others aren't looked at -/
theorem et_ew_or {a c : Expr} {rest : List Expr} (h : ET R X γ a true) : EW R X γ (.BoolOp .Or (a :: c :: rest) pos) true := ew_or (q := true) h (fun z => nomatch z)
theorem ew_et {e : Expr} {b : Bool} (h : EW R X γ e b) : ET R X γ e b := fun H0 S0 σ H Q s k => wt_of pw_ww.pt (h H0 S0 σ H Q s k)
theorem et_not {a : Expr} {b : Bool} (h : ET R X γ a b) : ET R X γ (.UnaryOp .Not a pos) (!b) := fun H0 S0 σ H Q s k => wt_of (pt_not pt_wt) (h H0 S0 σ H _ s k)
/-! .. as values -/
theorem ee_one {op} {a : Expr} {d : D} (h : EE R X γ a d) : EE R X γ (.BoolOp op [a] pos) d := fun H0 S0 σ H Q s k => we_of (pe_one pe_we) (h H0 S0 σ H Q s k)
theorem ee_and {a c : Expr} {rest : List Expr} {p q : Bool} (h : EE R X γ a (.bool p)) (t : p = true → EE R X γ (.BoolOp .And (c :: rest) pos) (.bool q)) : EE R X γ (.BoolOp .And (a :: c :: rest) pos) (.bool (p && q)) := fun H0 S0 σ H Q s k =>
  we_of (pe_and pe_we pe_we) (h H0 S0 σ H _ s fun v H1 r1 d1 => by
    cases d1
    refine ⟨p, rfl, ?_⟩
    cases p with
    | true =>
      rw [if_pos rfl]
      exact t rfl H0 S0 σ H1 _ (s.mono r1) fun v H2 r2 => k v H2 (Rel.trans r1 r2)
    | false =>
      rw [if_neg Bool.false_ne_true]
      exact k _ H1 r1 (.bl false))
theorem ee_or {a c : Expr} {rest : List Expr} {p q : Bool} (h : EE R X γ a (.bool p)) (t : p = false → EE R X γ (.BoolOp .Or (c :: rest) pos) (.bool q)) : EE R X γ (.BoolOp .Or (a :: c :: rest) pos) (.bool (p || q)) := fun H0 S0 σ H Q s k =>
  we_of (pe_or pe_we pe_we) (h H0 S0 σ H _ s fun v H1 r1 d1 => by
    cases d1
    refine ⟨p, rfl, ?_⟩
    cases p with
    | true =>
      rw [if_pos rfl]
      exact k _ H1 r1 (.bl true)
    | false =>
      rw [if_neg Bool.false_ne_true]
      exact t rfl H0 S0 σ H1 _ (s.mono r1) fun v H2 r2 => k v H2 (Rel.trans r1 r2))
theorem ee_not {a : Expr} {b : Bool} (h : EE R X γ a (.bool b)) : EE R X γ (.UnaryOp .Not a pos) (.bool (!b)) := fun H0 S0 σ H Q s k =>
  we_of (pe_not pe_we) (h H0 S0 σ H _ s fun v H1 r1 d1 => by
    cases d1
    exact ⟨b, rfl, k _ H1 r1 (.bl _)⟩)
theorem ee_if {c a b : Expr} {p : Bool} {d : D} (h : ET R X γ c p) (h1 : p = true → EE R X γ a d) (h2 : p = false → EE R X γ b d) : EE R X γ (.IfExp c a b pos) d := fun H0 S0 σ H Q s k =>
  we_of (pe_ifExp pt_wt pe_we pe_we) (h H0 S0 σ H _ s fun H1 r1 => by
    cases p with
    | true =>
      rw [if_pos rfl]
      exact h1 rfl H0 S0 σ H1 _ (s.mono r1) fun v H2 r2 => k v H2 (Rel.trans r1 r2)
    | false =>
      rw [if_neg Bool.false_ne_true]
      exact h2 rfl H0 S0 σ H1 _ (s.mono r1) fun v H2 r2 => k v H2 (Rel.trans r1 r2))
/-! ### items, slices -/
def ixD : D → Int → Option D
  | .list ds, i => atI ds i
  | .tuple ds, i => atI ds i
  | _, _ => none
theorem atI_dts {K : PySem.W.Frag} {H : Hp} {vs : List V} {ds : List D} {i : Int} {d : D} (h : DtAll K H vs ds) (e : atI ds i = some d) : ∃ v, atI vs i = some v ∧ Dt K H v d := by
  unfold atI at e ⊢
  rw [dps_len h]
  cases q : ixN ds.length i with
  | none => rw [q] at e; cases e
  | some j =>
    rw [q] at e
    exact dps_get h e
theorem ee_ix {a b : Expr} {x d : D} {i : Int} (ha : EE R X γ a x) (hb : EE R X γ b (.int i)) (h : ixD x i = some d) (hs : PlainIx b := by exact fun _ _ => rfl) : EE R X γ (.Subscript a b pos) d := fun H0 S0 σ H Q s k => by
  cases x with
  | list ds =>
    exact we_of (pe_ix ix_list pe_we pe_we hs) (ha H0 S0 σ H _ s fun v H1 r1 d1 => hb H0 S0 σ H1 _ (s.mono r1) fun u H2 r2 d2 => by
      cases d2
      have d1' := dt_up r2 d1
      cases d1' with
      | lst h1 h2 =>
        obtain ⟨w, e1, e2⟩ := atI_dts h2 h
        exact ⟨_, _, i, w, rfl, rfl, (.inl (rd_keep off_in h1)), e1, k w H2 (Rel.trans r1 r2) e2⟩)
  | tuple ds =>
    exact we_of (pe_ix ix_tup pe_we pe_we hs) (ha H0 S0 σ H _ s fun v H1 r1 d1 => hb H0 S0 σ H1 _ (s.mono r1) fun u H2 r2 d2 => by
      cases d2
      have d1' := dt_up r2 d1
      cases d1' with
      | tup h1 h2 =>
        obtain ⟨w, e1, e2⟩ := atI_dts h2 h
        exact ⟨_, _, i, w, rfl, rfl, sqt_keep off_in h1, e1, k w H2 (Rel.trans r1 r2) e2⟩)
  | _ => cases h
/-- an item of a list of one's own -/
theorem ee_ixO (j : Nat) {x : Str} {b : Expr} {ds : List D} {d : D} {i : Int} {p : Pos} (hj : γ[j]? = some (.own ds) := by rfl) (hb : EE R X γ b (.int i)) (h : atI ds i = some d) (hs : PlainIx b := by exact fun _ _ => rfl) (hN : X.N[j]? = some x := by rfl)
    (hv : Vis X.env.scope x := by first | exact Or.inl rfl | exact Or.inr (Or.inl rfl) | exact Or.inr (Or.inr rfl)) (hd : (x == ("__debug__" : Str)) = false := by decide) (hcd : (x == ("__classdict__" : Str)) = false := by decide) :
    EE R X γ (.Subscript (.Name x p) b pos) d := fun H0 S0 σ H Q s k => by
  obtain ⟨l, vs, h1, _, _, _⟩ := s.own j ds hj
  refine we_of (pe_ix ix_list (pe_var hN hv hd hcd) pe_we hs) ⟨_, h1, hb H0 S0 σ H _ s fun u H2 r2 d2 => ?_⟩
  cases d2
  obtain ⟨l', vs', a1, _, a3, a4⟩ := (s.mono r2).own j ds hj
  rw [h1] at a1
  cases a1
  obtain ⟨w, e1, e2⟩ := atI_dts a4 h
  exact ⟨_, _, i, w, rfl, rfl, SqL.of a3, e1, k w H2 r2 e2⟩
/-- the bounds of a slice -/
def EO (R : Hp → Hp → Prop) (X : Cx) (γ : List Sl) (e : Option Expr) (i : Option Int) : Prop :=
  ∃ t : TO, PO X e t ∧ ∀ (H0 : Hp) (S0 : Addr → Prop) (σ : L2.St) (H : Hp) (Q : Option Int → Hp → Prop), SI R X.K H0 S0 γ σ H → (∀ H2, R H H2 → Q i H2) → t σ H Q
theorem eo_none : EO R X γ none none := ⟨_, po_none, fun _ _ _ H _ s k => k H (s.ref)⟩
theorem eo_some {e : Expr} {i : Int} (h : EE R X γ e (.int i)) : EO R X γ (some e) (some i) := ⟨_, po_some pe_we, fun H0 S0 σ H Q s k => h H0 S0 σ H _ s fun v H1 r1 d1 => by
  cases d1
  exact ⟨i, rfl, k H1 r1⟩⟩
def cutD (ds : List D) (lo hi : Option Int) : List D := (ds.drop (HT.sIx ds.length 0 lo)).take (HT.sIx ds.length ds.length hi - HT.sIx ds.length 0 lo)
theorem cut_dts {K : PySem.W.Frag} {H : Hp} {vs : List V} {ds : List D} {lo hi : Option Int} (h : DtAll K H vs ds) : DtAll K H (cutV vs lo hi) (cutD ds lo hi) := by
  unfold cutV cutD
  rw [dps_len h]
  exact dps_take _ (dps_drop _ h)
theorem ef_slice {e : Expr} {lo hi : Option Expr} {ds : List D} {l u : Option Int} {p2 : Pos} (he : EE R X γ e (.list ds)) (hl : EO R X γ lo l) (hu : EO R X γ hi u) : EF R X γ (.Subscript e (.Slice lo hi none p2) pos) (cutD ds l u) := fun H0 S0 σ H Q s k => by
  obtain ⟨tl, p1, q1⟩ := hl
  obtain ⟨th, p3, q3⟩ := hu
  refine we_of (pe_slice sl_list pe_we p1 p3) (he H0 S0 σ H _ s fun v H1 r1 d1 => q1 H0 S0 σ H1 _ (s.mono r1) fun H2 r2 => q3 H0 S0 σ H2 _ (s.mono (Rel.trans r1 r2)) fun H3 r3 => ?_)
  have d3 := dt_up r3 (dt_up r2 d1)
  cases d3 with
  | lst h1 h2 =>
    refine ⟨_, _, rfl, (.inl (rd_keep off_in h1)), fun p n => ?_⟩
    have rr := Rel.trans (Rel.trans r1 r2) r3
    exact k p _ _ (Rel.free rr n) (Rel.more rr (same_new n)) upd_same (dts_newO n (cut_dts h2))
theorem rd_obj {pins : List (Addr × Obj)} {σ : L2.St} {H : Hp} {s : Shared} {a : Addr} {xs : List V} (I : Inv X pins σ H s) (h : Rd H a (.lst xs)) : xs.length ≤ sizeLine ∧ ∃ (its : List Value) (n : Nat), Vals xs its ∧ s.heap.get? a = some { cls := .type "list", data := .seq its.toArray n } := by
  obtain ⟨z, its, n, r, e⟩ := h.ok I.hok
  exact ⟨z, its, n, r, e⟩
/-- xs + ys, locked ones too -/
theorem op_catR : OpR X (binaryOp .Add) (fun x y H Q => ∃ a b us ws, x = .ref a ∧ y = .ref b ∧ Rd H a (.lst us) ∧ Rd H b (.lst ws) ∧ us.length + ws.length ≤ sizeLine ∧ ∀ p, H p = none → Q (.ref p) (upd H p (.lst (us ++ ws)))) := by
  intro pins s σ H x y v u Q I rx ry h
  obtain ⟨a, b, us, ws, rfl, rfl, h1, h2, hz, q⟩ := h
  cases rx
  cases ry
  obtain ⟨_, its, n, r, e⟩ := rd_obj I h1
  obtain ⟨_, jts, m, t, f⟩ := rd_obj I h2
  have l1 := r.length
  have l2 := t.length
  refine PySem.P.add_list e f ?_ (by simp only [List.size_toArray]; omega)
  rw [show its.toArray ++ jts.toArray = (its ++ jts).toArray by simp]
  exact ⟨.ref _, _, I.lnew (t' := s.toks) (r.append t) (by simp only [List.length_append]; exact hz), rfl, q _ (I.hok.fresh (Nat.le_refl _))⟩
/-- xs + ys -/
theorem ef_cat {a b : Expr} {ds es : List D} (ha : EE R X γ a (.list ds)) (hb : EE R X γ b (.list es)) (hl : ds.length + es.length ≤ 1000) : EF R X γ (.BinOp a .Add b pos) (ds ++ es) := fun H0 S0 σ H Q s k =>
  we_of (pe_op op_catR pe_we pe_we) (ha H0 S0 σ H _ s fun v H1 r1 d1 => hb H0 S0 σ H1 _ (s.mono r1) fun u H2 r2 d2 => by
    have d1' := dt_up r2 d1
    cases d1' with
    | lst h1 h2 =>
      cases d2 with
      | lst h3 h4 =>
        refine ⟨_, _, _, _, rfl, rfl, rd_keep off_in h1, rd_keep off_in h3, ?_, fun p n => ?_⟩
        · rw [dps_len h2, dps_len h4]
          exact Nat.le_of_lt (small1000 hl)
        · have rr := Rel.trans r1 r2
          exact k p _ _ (Rel.free rr n) (Rel.more rr (same_new n)) upd_same (dts_newO n (dps_app h2 h4)))
theorem dps_rep {K : PySem.W.Frag} {H : Hp} {vs : List V} {ds : List D} (h : DtAll K H vs ds) : ∀ n : Nat, DtAll K H (List.replicate n vs).flatten (List.replicate n ds).flatten
  | 0 => .nil
  | n + 1 => by
    rw [List.replicate_succ, List.replicate_succ, List.flatten_cons, List.flatten_cons]
    exact dps_app h (dps_rep h n)
/-- xs * n, xs a new list -/
theorem ef_rep {a b : Expr} {ds : List D} {n : Int} (ha : EF R X γ a ds) (hb : EE R X γ b (.int n)) (hn : -1000 ≤ n ∧ n ≤ 1000) (hl : ds.length * n.toNat ≤ 1000) : EF R X γ (.BinOp a .Mult b pos) (List.replicate n.toNat ds).flatten := fun H0 S0 σ H Q s k =>
  we_of (pe_op op_rep pe_we pe_we) (ha H0 S0 σ H _ s fun l vs H1 n1 r1 h1 d1 => hb H0 S0 σ H1 _ (s.mono r1) fun u H2 r2 d2 => by
    cases d2
    have h2 := Rel.keep r2 _ _ h1 fun _ z => nomatch z
    have d3 : DtAll X.K (off (Sx S0 γ σ) H2) vs ds := dps_keep (off_keep (Keep.refl H2) fun a z => .inr z) _ _ (dts_up r2 d1)
    refine ⟨_, n, _, rfl, rfl, h2, by omega, by omega, ?_, fun p z => ?_⟩
    · rw [dps_len d1]
      exact Nat.le_of_lt (small1000 hl)
    · have rr := Rel.trans r1 r2
      exact k p _ _ (Rel.free rr z) (Rel.more rr (same_new z)) upd_same (dts_newO z (dps_rep d3 _)))
/-! ### built-ins called by name -/
/-- a built-in by data: what comes is no new object -/
def CallD (X : Cx) (f : Value) (xs : List D) (c : D) : Prop := ∃ r : List V → Hp → VK → Prop, CallR X f r ∧ ∀ (H : Hp) (vs : List V) (Q : VK), DtAll X.K H vs xs → (∀ z, (∀ H', Dt X.K H' z c) → Q z H) → r vs H Q
theorem ee_callB {x : Str} {id : String} {e : Expr} {es : List Expr} {p : Pos} {xs : List D} {c : D} (ha : EA R X γ (e :: es) xs) (hc : CallD X (.builtin id) xs c) (hm : X.mg x = none) (hv : bootBuiltins x = some (.builtin id)) (hg : Gl X x := by rfl)
    (hn : x ≠ "__name__" := by decide) (hdb : (x == ("__debug__" : Str)) = false := by decide) (he : starEach (e :: es) X.env = (false, eval e X.env) :: starEach es X.env := by rfl) (hpl : (backTo pos (starEach es X.env)).any (·.1) = false := by rfl) :
    EE R X γ (.Call (.Name x p) (e :: es) [] pos) c := fun H0 S0 σ H Q s k => by
  obtain ⟨r, h1, h2⟩ := hc
  exact we_of (pe_callB h1 hg hm hv pa_wa hn hdb he hpl) (ha H0 S0 σ H _ s fun vs H1 r1 d1 => h2 H1 vs Q (dts_in d1) fun z q => k z H1 r1 (q _))
theorem ee_callTy {x : Str} {T : String} {e : Expr} {es : List Expr} {p : Pos} {xs : List D} {c : D} (ha : EA R X γ (e :: es) xs) (hc : CallD X (.type T) xs c) (hm : X.mg x = none) (hv : bootBuiltins x = some (.type T)) (hg : Gl X x := by rfl)
    (hn : x ≠ "__name__" := by decide) (hdb : (x == ("__debug__" : Str)) = false := by decide) (he : starEach (e :: es) X.env = (false, eval e X.env) :: starEach es X.env := by rfl) (hpl : (backTo pos (starEach es X.env)).any (·.1) = false := by rfl) :
    EE R X γ (.Call (.Name x p) (e :: es) [] pos) c := fun H0 S0 σ H Q s k => by
  obtain ⟨r, h1, h2⟩ := hc
  exact we_of (pe_callTy h1 hg hm hv pa_wa hn hdb he hpl) (ha H0 S0 σ H _ s fun vs H1 r1 d1 => h2 H1 vs Q (dts_in d1) fun z q => k z H1 r1 (q _))
end
end An

/-! What is walked, comprehensions, statements. -/
namespace An
open PySem PySem.Spec PyProof.Rows L2
/-! ### targets -/
@[irreducible] def wg (X : Cx) (tg : Expr) : TG := fun v σ H Q => ∀ (pins : List (Addr × Obj)) (s : Shared) (u : Value), Inv X pins σ H s → RelV v u → wpAny (model X.prog X.w) X.A (assign tg X.env u) (fun _ s' => ∃ σ' H', Inv X pins σ' H' s' ∧ Q σ' H') X.xe s
theorem pg_wg {X : Cx} {tg : Expr} : PG X tg (wg X tg) := ⟨fun pins s _ _ _ u _ I r h => by unfold wg at h; exact h pins s u I r⟩
theorem wg_of {X : Cx} {tg : Expr} {t : TG} {v : V} {σ : L2.St} {H : Hp} {Q : L2.St → Hp → Prop} (h : PG X tg t) (q : t v σ H Q) : wg X tg v σ H Q := by
  unfold wg
  exact fun pins s u I r => h.run pins s σ H v u Q I r q
/-- the target takes the data d: the slots js are set -/
def EG (R : Hp → Hp → Prop) (X : Cx) (γ : List Sl) (tg : Expr) (d : D) (γ' : List Sl) : Prop :=
  ∀ (H0 : Hp) (S0 : Addr → Prop) (σ : L2.St) (H : Hp) (v : V) (Q : L2.St → Hp → Prop), SI R X.K H0 S0 γ σ H → Dt X.K (off (Sx S0 γ σ) H) v d → (∀ σ', SI R X.K H0 S0 γ' σ' H → Q σ' H) → wg X tg v σ H Q
section
variable {R : Hp → Hp → Prop} [Rel R] {X : Cx} {γ : List Sl} {pos : Pos}
theorem eg_name {i : Nat} {x : Str} {d : D} (hN : X.N.Nodup) (hi : X.N[i]? = some x := by rfl) (hx : Loc X.env.scope x := by first | exact Or.inl rfl | exact Or.inr rfl)
    (hf : X.fn x = true ∨ X.env.scope.names.lookup x = some .local := by first | exact .inl rfl | exact .inr rfl | assumption) : EG R X γ (.Name x pos) d (γ.set i (.dat d)) := fun H0 S0 σ H v Q s h k =>
  wg_of (pg_name hN hi hx hf) (k _ (s.putD i h))
theorem eg_pair {i j : Nat} {x y : Str} {d1 d2 : D} {p1 p2 : Pos} {kk : Nat} (hc : X.calm = true) (hN : X.N.Nodup) (hi : X.N[i]? = some x := by rfl) (hj : X.N[j]? = some y := by rfl) (hx : Loc X.env.scope x := by first | exact Or.inl rfl | exact Or.inr rfl)
    (hy : Loc X.env.scope y := by first | exact Or.inl rfl | exact Or.inr rfl)
    (hf : X.fn x = true ∨ X.env.scope.names.lookup x = some .local := by first | exact .inl rfl | exact .inr rfl | assumption) (hg : X.fn y = true ∨ X.env.scope.names.lookup y = some .local := by first | exact .inl rfl | exact .inr rfl | assumption)
    (ho : ∀ es, γ[i]? ≠ some (.own es)) :
    EG R X γ (.Tuple [.Name x p1, .Name y p2] kk pos) (.tuple [d1, d2]) ((γ.set i (.dat d1)).set j (.dat d2)) := fun H0 S0 σ H v Q s h k => by
  cases h with
  | tup h1 h2 =>
    cases h2 with
    | cons e1 r1 =>
      cases r1 with
      | cons e2 r2 =>
        cases r2
        refine wg_of (pg_tup hc (pgs_cons (pg_name hN hi hx hf) (pgs_cons (pg_name hN hj hy hg) pgs_nil))) ⟨_, _, rfl, sqt_keep off_in h1, rfl, _, _, rfl, _, _, rfl, rfl, ?_⟩
        have s1 := s.putD i e1
        exact k _ (s1.putD j (dp_keep (off_keep (Keep.refl H) sx_dat) _ _ e2))
/-! ### what is walked -/
/-- J walks ds, as long as the heap H1 is kept but for S -/
structure ItD (K : PySem.W.Frag) (S : Addr → Prop) (J : It) (ds : List D) (H1 : Hp) : Prop where
  go : ∀ (i : Nat) (H' : Hp) (S' : Addr → Prop), Keep (off S H1) (off S' H') → i < ds.length → J.go i H'
  stop : ∀ (i : Nat) (H' : Hp) (S' : Addr → Prop), Keep (off S H1) (off S' H') → ds.length ≤ i → J.stop i H'
  yld : ∀ (i : Nat) (H' : Hp) (S' : Addr → Prop) (x : V) (H'' : Hp) (d : D), Keep (off S H1) (off S' H') → (∀ a, S' a → H' a ≠ none) → J.yld i H' x H'' → ds[i]? = some d → Same H' H'' ∧ Dt K (off S' H'') x d
def EI (R : Hp → Hp → Prop) (X : Cx) (γ : List Sl) (tg iter : Expr) (ds : List D) : Prop :=
  ∃ wi : TI, PI X tg iter wi ∧ ∀ (H0 : Hp) (S0 : Addr → Prop) (σ : L2.St) (H : Hp) (Rk : It → Hp → Prop), SI R X.K H0 S0 γ σ H → (∀ J H1, R H H1 → ItD X.K (Sx S0 γ σ) J ds H1 → Rk J H1) → wi σ H Rk
theorem itd_list {K : PySem.W.Frag} {S : Addr → Prop} {H1 : Hp} {a : Addr} {ds : List D} (h : Dt K (off S H1) (.ref a) (.list ds)) : ItD K S (Itl K a) ds H1 := by
  have up : ∀ (H' : Hp) (S' : Addr → Prop), Keep (off S H1) (off S' H') → ∃ xs, SqL K H' a xs ∧ DtAll K (off S' H') xs ds := fun H' S' k => by
    have h' := dp_keep k _ _ h
    cases h' with
    | lst h1 h2 => exact ⟨_, (.inl (rd_keep off_in h1)), h2⟩
  refine ⟨fun i H' S' k hi => ?_, fun i H' S' k hi => ?_, fun i H' S' x H'' d k hd y hx => ?_⟩
  · obtain ⟨xs, h1, h2⟩ := up H' S' k
    obtain ⟨v, e, _⟩ := dps_get h2 (List.getElem?_eq_getElem hi)
    exact ⟨xs, v, h1, e⟩
  · obtain ⟨xs, h1, h2⟩ := up H' S' k
    exact ⟨xs, h1, by rw [dps_len h2]; exact hi⟩
  · obtain ⟨e, y⟩ := y
    subst e
    obtain ⟨xs, h1, h2⟩ := up _ S' k
    obtain ⟨v, e, q⟩ := dps_get h2 hx
    have e2 := y xs h1
    rw [e] at e2
    cases e2
    exact ⟨Same.refl _, q⟩
theorem itd_tup {K : PySem.W.Frag} {S : Addr → Prop} {H1 : Hp} {a : Addr} {ds : List D} (h : Dt K (off S H1) (.ref a) (.tuple ds)) : ItD K S (Itt K a) ds H1 := by
  have up : ∀ (H' : Hp) (S' : Addr → Prop), Keep (off S H1) (off S' H') → ∃ xs, SqT K H' a xs ∧ DtAll K (off S' H') xs ds := fun H' S' k => by
    have h' := dp_keep k _ _ h
    cases h' with
    | tup h1 h2 => exact ⟨_, sqt_keep off_in h1, h2⟩
  refine ⟨fun i H' S' k hi => ?_, fun i H' S' k hi => ?_, fun i H' S' x H'' d k hd y hx => ?_⟩
  · obtain ⟨xs, h1, h2⟩ := up H' S' k
    obtain ⟨v, e, _⟩ := dps_get h2 (List.getElem?_eq_getElem hi)
    exact ⟨xs, v, h1, e⟩
  · obtain ⟨xs, h1, h2⟩ := up H' S' k
    exact ⟨xs, h1, by rw [dps_len h2]; exact hi⟩
  · obtain ⟨e, y⟩ := y
    subst e
    obtain ⟨xs, h1, h2⟩ := up _ S' k
    obtain ⟨v, e, q⟩ := dps_get h2 hx
    have e2 := y xs h1
    rw [e] at e2
    cases e2
    exact ⟨Same.refl _, q⟩
theorem ei_list {tg l : Expr} {ds : List D} (h : EE R X γ l (.list ds)) : EI R X γ tg l ds := ⟨_, pi_list pe_we, fun H0 S0 σ H Rk s k => h H0 S0 σ H _ s fun v H1 r1 d1 => by
  cases d1 with
  | lst h1 h2 => exact ⟨_, rfl, ⟨_, (.inl (rd_keep off_in h1))⟩, k _ H1 r1 (itd_list (.lst h1 h2))⟩⟩
theorem ei_tup {tg l : Expr} {ds : List D} (h : EE R X γ l (.tuple ds)) : EI R X γ tg l ds := ⟨_, pi_tup pe_we, fun H0 S0 σ H Rk s k => h H0 S0 σ H _ s fun v H1 r1 d1 => by
  cases d1 with
  | tup h1 h2 => exact ⟨_, rfl, ⟨_, sqt_keep off_in h1⟩, k _ H1 r1 (itd_tup (.tup h1 h2))⟩⟩
def rangeD (lo : Int) (n : Nat) : List D := (List.range n).map fun i => .int (lo + (i : Nat))
theorem itd_range {K : PySem.W.Frag} {S : Addr → Prop} {H1 : Hp} {lo : Int} {n : Nat} : ItD K S (Itr lo n) (rangeD lo n) H1 := by
  have hl : (rangeD lo n).length = n := by simp [rangeD]
  refine ⟨fun i H' S' k hi => ?_, fun i H' S' k hi => ?_, fun i H' S' x H'' d k hd y hx => ?_⟩
  · rw [hl] at hi
    exact hi
  · rw [hl] at hi
    exact hi
  · obtain ⟨e, e2⟩ := y
    subst e e2
    have hi : i < n := by
      have := (List.getElem?_eq_some_iff.mp hx).1
      rw [hl] at this
      exact this
    have : d = .int (lo + (i : Nat)) := by
      unfold rangeD at hx
      rw [List.getElem?_map, List.getElem?_range hi] at hx
      exact (Option.some.inj hx).symm
    subst this
    exact ⟨Same.refl _, .int _⟩
theorem ei_range1 {tg a : Expr} {p : Pos} {n : Int} (h : EE R X γ a (.int n)) (hn : -1000000 ≤ n ∧ n ≤ 1000000) (hm : X.mg "range" = none) (hg : Gl X "range" := by rfl) (hs : starEach [a] X.env = [(false, eval a X.env)] := by rfl) : EI R X γ tg (.Call (.Name "range" p) [a] [] pos) (rangeD 0 n.toNat) :=
  ⟨_, pi_range1 hg hm pa_wa hs, fun H0 S0 σ H Rk s k => (ea_cons h ea_nil hs) H0 S0 σ H _ s fun vs H1 r1 d1 => by
    cases d1 with
    | cons d1 t =>
      cases t
      cases d1
      exact ⟨n, rfl, by omega, by omega, k _ H1 r1 itd_range⟩⟩
def enumD (ds : List D) : List D := (List.range ds.length).map fun (i : Nat) => .tuple [.int (i : Nat), ds.getD i .none]
theorem enumD_len (ds : List D) : (enumD ds).length = ds.length := by simp [enumD]
theorem enumD_get {ds : List D} {i : Nat} {d : D} (h : (enumD ds)[i]? = some d) : ∃ e, ds[i]? = some e ∧ d = .tuple [.int (i : Nat), e] := by
  have hi : i < ds.length := by
    have := (List.getElem?_eq_some_iff.mp h).1
    rw [enumD_len] at this
    exact this
  unfold enumD at h
  rw [List.getElem?_map, List.getElem?_range hi] at h
  refine ⟨ds[i], List.getElem?_eq_getElem hi, ?_⟩
  have e := (Option.some.inj h).symm
  rw [e]
  simp [List.getD, List.getElem?_eq_getElem hi]
theorem ei_enum {elts : List Expr} {kk : Nat} {tpos p : Pos} {a : Expr} {ds : List D} (h : EE R X γ a (.list ds)) (hm : X.mg "enumerate" = none) (hg : Gl X "enumerate" := by rfl) (hs : starEach [a] X.env = [(false, eval a X.env)] := by rfl) :
    EI R X γ (.Tuple elts kk tpos) (.Call (.Name "enumerate" p) [a] [] pos) (enumD ds) := ⟨_, pi_enum hg hm pa_wa hs, fun H0 S0 σ H Rk s k => (ea_cons h ea_nil hs) H0 S0 σ H _ s fun vs H1 r1 d1 => by
  cases d1 with
  | cons d1 t =>
    cases t
    cases d1 with
    | lst h1 h2 =>
      rename_i a xs
      refine ⟨a, xs, rfl, (.inl (rd_keep off_in h1)), k _ H1 r1 ?_⟩
      have base := itd_list (K := X.K) (S := Sx S0 γ σ) (H1 := H1) (.lst h1 h2)
      refine ⟨fun i H' S' kp hi => ?_, fun i H' S' kp hi => ?_, fun i H' S' x H'' d kp hd y hx => ?_⟩
      · rw [enumD_len] at hi
        exact base.go i H' S' kp hi
      · rw [enumD_len] at hi
        exact base.stop i H' S' kp hi
      · obtain ⟨e, he, rfl⟩ := enumD_get hx
        obtain ⟨T, z, rfl, nT, rfl, hz⟩ := y
        obtain ⟨_, q⟩ := base.yld i H' S' z H' e kp hd ⟨rfl, hz⟩ he
        refine ⟨same_new nT, .tup (.inl (.inl (off_of (fun w => hd T w nT) upd_same))) (.cons (.int _) (.cons (dt_new nT q) .nil))⟩⟩
def zipD (ds es : List D) : List D := (List.range (min ds.length es.length)).map fun (i : Nat) => .tuple [ds.getD i .none, es.getD i .none]
theorem zipD_len (ds es : List D) : (zipD ds es).length = min ds.length es.length := by simp [zipD]
theorem zipD_get {ds es : List D} {i : Nat} {d : D} (h : (zipD ds es)[i]? = some d) : ∃ a b, ds[i]? = some a ∧ es[i]? = some b ∧ d = .tuple [a, b] := by
  have hi : i < min ds.length es.length := by
    have := (List.getElem?_eq_some_iff.mp h).1
    rw [zipD_len] at this
    exact this
  unfold zipD at h
  rw [List.getElem?_map, List.getElem?_range hi] at h
  have h1 : i < ds.length := by omega
  have h2 : i < es.length := by omega
  refine ⟨ds[i], es[i], List.getElem?_eq_getElem h1, List.getElem?_eq_getElem h2, ?_⟩
  have e := (Option.some.inj h).symm
  rw [e]
  simp [List.getD, List.getElem?_eq_getElem h1, List.getElem?_eq_getElem h2]
theorem ei_zip {elts : List Expr} {kk : Nat} {tpos p : Pos} {a b : Expr} {ds es : List D} (h : EE R X γ a (.list ds)) (h' : EE R X γ b (.list es)) (hm : X.mg "zip" = none) (hg : Gl X "zip" := by rfl)
    (hs : starEach [a, b] X.env = (false, eval a X.env) :: starEach [b] X.env := by rfl) (hs2 : starEach [b] X.env = [(false, eval b X.env)] := by rfl) (hpl : (backTo pos (starEach [b] X.env)).any (·.1) = false := by rfl) :
    EI R X γ (.Tuple elts kk tpos) (.Call (.Name "zip" p) [a, b] [] pos) (zipD ds es) := ⟨_, pi_zip hg hm pa_wa hs hpl, fun H0 S0 σ H Rk s k => (ea_cons h (ea_cons h' ea_nil hs2) hs) H0 S0 σ H _ s fun vs H1 r1 d1 => by
  cases d1 with
  | cons d1 t =>
    cases t with
    | cons d2 t =>
      cases t
      cases d1 with
      | lst h1 h2 =>
        cases d2 with
        | lst h3 h4 =>
          rename_i a xs b ys
          refine ⟨a, b, xs, ys, rfl, (.inl (rd_keep off_in h1)), (.inl (rd_keep off_in h3)), k _ H1 r1 ?_⟩
          have ba := itd_list (K := X.K) (S := Sx S0 γ σ) (H1 := H1) (.lst h1 h2)
          have bb := itd_list (K := X.K) (S := Sx S0 γ σ) (H1 := H1) (.lst h3 h4)
          refine ⟨fun i H' S' kp hi => ?_, fun i H' S' kp hi => ?_, fun i H' S' x H'' d kp hd y hx => ?_⟩
          · rw [zipD_len] at hi
            obtain ⟨us, u, e1, e2⟩ := ba.go i H' S' kp (by omega)
            obtain ⟨ws, w, e3, e4⟩ := bb.go i H' S' kp (by omega)
            exact ⟨us, ws, u, w, e1, e3, e2, e4⟩
          · rw [zipD_len] at hi
            have up : ∀ {c : Addr} {zs : List V} {fs : List D}, Rd (off (Sx S0 γ σ) H1) c (.lst zs) → SqL X.K H' c zs := fun {c zs fs} e => .inl (rd_keep off_in (rd_keep kp e))
            refine ⟨xs, ys, up (fs := ds) h1, up (fs := es) h3, ?_⟩
            rw [dps_len h2, dps_len h4]
            omega
          · obtain ⟨p, q, hp, hq, rfl⟩ := zipD_get hx
            obtain ⟨T, u, w, rfl, nT, rfl, hu, hw⟩ := y
            obtain ⟨_, q1⟩ := ba.yld i H' S' u H' p kp hd ⟨rfl, hu⟩ hp
            obtain ⟨_, q2⟩ := bb.yld i H' S' w H' q kp hd ⟨rfl, hw⟩ hq
            exact ⟨same_new nT, .tup (.inl (.inl (off_of (fun w => hd T w nT) upd_same))) (.cons (dt_new nT q1) (.cons (dt_new nT q2) .nil))⟩⟩
/-! ### the base of a part of a body: the heap but the things of one's own -/
def isOwn (γ : List Sl) (σ : L2.St) (a : Addr) : Prop := ∃ i, Fp γ σ i a
noncomputable abbrev cutO (γ : List Sl) (σ : L2.St) (H : Hp) : Hp := off (isOwn γ σ) H
theorem cutO_none {γ : List Sl} {σ : L2.St} {H : Hp} {a : Addr} (h : isOwn γ σ a) : cutO γ σ H a = none := by
  unfold cutO off
  rw [if_pos h]
theorem SI.rebase {K : PySem.W.Frag} {H0 H : Hp} {S0 : Addr → Prop} {σ : L2.St} (s : SI R K H0 S0 γ σ H) : SI R K (cutO γ σ H) S0 γ σ H where
  rel := Rel.cutr s.rel fun a ⟨i, f⟩ => (s.fp i a f).2
  dom := fun a ha z => by
    have h1 := s.dom a ha
    have h2 := Rel.dom s.rel h1
    unfold cutO off at z
    by_cases hs : isOwn γ σ a
    · obtain ⟨i, f⟩ := hs
      exact h1 (s.fp i a f).1
    · rw [if_neg hs] at z
      exact h2 z
  len := s.len
  ok := s.ok
  fp := fun i a f => ⟨cutO_none ⟨i, f⟩, (s.fp i a f).2⟩
  inj := s.inj
/-- back to the first base -/
theorem SI.back {K : PySem.W.Frag} {H0 H H' : Hp} {S0 : Addr → Prop} {γ' : List Sl} {σ σ' : L2.St} (s : SI R K H0 S0 γ σ H) (t : SI R K (cutO γ σ H) S0 γ' σ' H') (hc : R H0 (cutO γ σ H)) : SI R K H0 S0 γ' σ' H' where
  rel := Rel.trans hc t.rel
  dom := s.dom
  len := t.len
  ok := t.ok
  fp := fun i a f => ⟨Rel.free hc (t.fp i a f).1, (t.fp i a f).2⟩
  inj := t.inj
end
/-- a relation that holds of the heap without things that the first heap doesn't know -/
class RelC (R : Hp → Hp → Prop) : Prop extends Rel R where
  cut : ∀ {H H1 : Hp} {C : Addr → Prop}, R H H1 → (∀ a, C a → H a = none ∧ NT H1 a) → R H (off C H1)
instance : RelC Same where
  cut := fun {H H1 C} h c a o e => by
    refine off_of (fun z => ?_) (h a o e)
    rw [(c a z).1] at e
    cases e
section
variable {R : Hp → Hp → Prop} [RelC R] {X : Cx} {γ : List Sl} {pos : Pos}
theorem SI.cutR {K : PySem.W.Frag} {H0 H : Hp} {S0 : Addr → Prop} {σ : L2.St} (s : SI R K H0 S0 γ σ H) : R H0 (cutO γ σ H) := RelC.cut s.rel fun a ⟨i, f⟩ => s.fp i a f
/-- what stood ahead of a part of a body, outside of one's own things, stands -/
theorem SI.kept {K : PySem.W.Frag} {H0 H H' : Hp} {S0 : Addr → Prop} {γ' : List Sl} {σ σ' : L2.St} (s : SI R K H0 S0 γ σ H) (t : SI R K (cutO γ σ H) S0 γ' σ' H') : Keep (off (Sx S0 γ σ) H) (off (Sx S0 γ' σ') H') := fun a o e n => by
  obtain ⟨h1, h2⟩ := off_some e
  have h3 : cutO γ σ H a = some o := off_of (fun z => h1 (.inr z)) h2
  refine off_of (fun z => ?_) (Rel.keep t.rel a o h3 n)
  rcases z with z | ⟨i, f⟩
  · exact h1 (.inl z)
  · have := (t.fp i a f).1
    rw [h3] at this
    cases this
/-- one address more is left alone -/
theorem SI.avoid {K : PySem.W.Frag} {H0 H H' : Hp} {S0 : Addr → Prop} {σ : L2.St} {p : Addr} (s : SI R K H0 S0 γ σ H) (r : R H H') (n : H p = none) (hp : H' p ≠ none) : SI R K (cutO γ σ H') (fun a => a = p ∨ S0 a) γ σ H' := by
  have sm := s.mono r
  have s' := sm.rebase
  have up : Keep (off (Sx S0 γ σ) H) (off (Sx (fun a => a = p ∨ S0 a) γ σ) H') := fun a o e nn => by
    obtain ⟨h1, h2⟩ := off_some e
    refine off_of (fun z => ?_) (Rel.keep r a o h2 nn)
    rcases z with (z | z) | z
    · rw [z, n] at h2
      cases h2
    · exact h1 (.inl z)
    · exact h1 (.inr z)
  refine ⟨s'.rel, fun a ha => ?_, s.len, fun i x h => ?_, s'.fp, s.inj⟩
  · rcases ha with rfl | ha
    · intro z
      unfold cutO off at z
      by_cases hs : isOwn γ σ a
      · obtain ⟨i, f⟩ := hs
        exact (s.fp i a f).2.there n
      · rw [if_neg hs] at z
        exact hp z
    · exact s'.dom a ha
  · obtain ⟨v, h1, h2⟩ := s.ok i x h
    exact ⟨v, h1, h2.keep (fun a f => (s.fp i a ⟨x, v, h, h1, f⟩).2.keep (Rel.keep r)) up⟩
/-! ### comprehensions -/
def wipeS (γ : List Sl) : List Nat → List Sl
  | [] => γ
  | v :: vs => (wipeS γ vs).set v .no
theorem SI.wipe {K : PySem.W.Frag} {H0 H : Hp} {S0 : Addr → Prop} {σ : L2.St} (s : SI R K H0 S0 γ σ H) : ∀ vs : List Nat, SI R K H0 S0 (wipeS γ vs) (L2.wipe σ vs) H
  | [] => s
  | v :: vs => (s.wipe vs).putN v
theorem wipeS_get {γ : List Sl} {j : Nat} : ∀ {vs : List Nat}, j ∉ vs → (wipeS γ vs)[j]? = γ[j]?
  | [], _ => rfl
  | v :: vs, h => by
    unfold wipeS
    rw [List.getElem?_set_ne (fun z => h (by rw [z]; exact List.mem_cons_self)), wipeS_get (fun z => h (List.mem_cons_of_mem _ z))]
theorem wipe_get {σ : L2.St} {j : Nat} : ∀ {vs : List Nat}, j ∉ vs → (L2.wipe σ vs)[j]? = σ[j]?
  | [], _ => rfl
  | v :: vs, h => by
    unfold L2.wipe
    rw [List.getElem?_set_ne (fun z => h (by rw [z]; exact List.mem_cons_self)), wipe_get (fun z => h (List.mem_cons_of_mem _ z))]
/-- a block with pins -/
abbrev blkP (X : Cx) (pn : List (Addr × Obj)) (s : Shared) (H : Hp) (scope : Scope) (ce : Env) (fp : List Addr) : Cx := { X.blk s H scope ce fp with pn := pn }
/-- a reading by which a new list of ds comes -/
def ELc (R : Hp → Hp → Prop) (X : Cx) (γ : List Sl) (mk : TE → Prop) (ds : List D) : Prop := ∃ t : TE, mk t ∧ ∀ (H0 : Hp) (S0 : Addr → Prop) (σ : L2.St) (H : Hp) (Q : VK), SI R X.K H0 S0 γ σ H →
  (∀ p vs H2, H p = none → R H H2 → H2 p = some (.lst vs) → DtAll X.K (off (fun a => a = p ∨ Sx S0 γ σ a) H2) vs ds → Q (.ref p) H2) → t σ H Q
/-- a comprehension's: as a value, and stored at once to a local name -/
def EL (R : Hp → Hp → Prop) (X : Cx) (γ : List Sl) (e : Expr) (ds : List D) : Prop := ELc R X γ (fun t => PE X e t ∧ ∀ (i : Nat) (y : Str) (py spos : Pos), X.N[i]? = some y → X.env.scope.names.lookup y = some .local → swapsWith e (some (.Name y py)) spos.line X.env = pure true → PS X (.Assign [.Name y py] e spos) (tAsg t (gName i))) ds
theorem ELc.ef {e : Expr} {ds : List D} (h : ELc R X γ (fun t => PE X e t) ds) : EF R X γ e ds := fun H0 S0 σ H Q s k => by
  obtain ⟨t, h1, h2⟩ := h
  exact we_of h1 (h2 H0 S0 σ H Q s k)
theorem EL.ef {e : Expr} {ds : List D} (h : EL R X γ e ds) : EF R X γ e ds := fun H0 S0 σ H Q s k => by
  obtain ⟨t, h1, h2⟩ := h
  exact we_of h1.1 (h2 H0 S0 σ H Q s k)
/-- [elt for tg in iter if ..]: to each item's data what comes of it, or nothing -/
theorem lc_gen {mk : TE → Prop} (pn : List (Addr × Obj)) {wi : TI} {elt tg iter : Expr} {ifs : List Expr} {scope : Scope} {own : List (Str × Nat)} {g : TG} {L : List (D × Option D)} (hwi : ∀ (H0 : Hp) (S0 : Addr → Prop) (σ : L2.St) (H : Hp) (Rk : It → Hp → Prop), SI R X.K H0 S0 γ σ H → (∀ J H1, R H H1 → ItD X.K (Sx S0 γ σ) J (L.map (·.1)) H1 → Rk J H1) → wi σ H Rk)
    (hpe : ∀ (tt : TT) (te : TE), (∀ (s : Shared) (H : Hp) (C : Addr) (cl : List (Str × Addr)) (fp : List Addr), PTs (blkP X pn s H scope (compEnvC scope cl C X.env) fp) ifs tt) → (∀ (s : Shared) (H : Hp) (C : Addr) (cl : List (Str × Addr)) (fp : List Addr), PE (blkP X pn s H scope (compEnvC scope cl C X.env) fp) elt te) →
      mk (tLc wi g tt te (own.map (·.2))))
    (hown : ∀ j ∈ own.map (·.2), ∀ es, γ[j]? ≠ some (.own es))
    (ht : ∀ e ∈ L, ∃ γ' : List Sl, wipeS γ' (own.map (·.2)) = wipeS γ (own.map (·.2)) ∧ (∀ (H0 : Hp) (S0 : Addr → Prop) (σ : L2.St) (H : Hp) (v : V) (Q : L2.St → Hp → Prop), SI R X.K H0 S0 (wipeS γ (own.map (·.2))) (L2.wipe σ (own.map (·.2))) H → Dt X.K (off (Sx S0 (wipeS γ (own.map (·.2))) (L2.wipe σ (own.map (·.2)))) H) v e.1 →
        (∀ σ', L2.wipe σ' (own.map (·.2)) = L2.wipe σ (own.map (·.2)) → SI R X.K H0 S0 γ' σ' H → Q σ' H) → g v (L2.wipe σ (own.map (·.2))) H Q) ∧
      (∀ (s : Shared) (H : Hp) (C : Addr) (cl : List (Str × Addr)) (fp : List Addr), (ifs = [] ∧ e.2.isSome = true) ∨ (∃ c, ifs = [c] ∧ ET R (blkP X pn s H scope (compEnvC scope cl C X.env) fp) γ' c e.2.isSome)) ∧
      (∀ r, e.2 = some r → ∀ (s : Shared) (H : Hp) (C : Addr) (cl : List (Str × Addr)) (fp : List Addr), EE R (blkP X pn s H scope (compEnvC scope cl C X.env) fp) γ' elt r))
    (hl : L.length ≤ 1000) :
    ELc R X γ mk (L.filterMap (·.2)) := by
  -- the reading of the tests and of the element: whatever context
  have pts : ∀ (s : Shared) (H : Hp) (C : Addr) (cl : List (Str × Addr)) (fp : List Addr), PTs (blkP X pn s H scope (compEnvC scope cl C X.env) fp) ifs (fun σ' H' Q' => ∀ (s : Shared) (H : Hp) (C : Addr) (cl : List (Str × Addr)) (fp : List Addr), (ifs = [] ∧ Q' true H') ∨ ∃ c, ifs = [c] ∧ wt (blkP X pn s H scope (compEnvC scope cl C X.env) fp) c σ' H' Q') := fun s1 H1 C cl fp => ⟨fun pins s2 σ2 H2 Q2 I2 h2 => by
      rcases h2 s1 H1 C cl fp with ⟨e, q⟩ | ⟨c, e, q⟩
      · subst e
        exact (pts_nil (X := blkP X pn s1 H1 scope (compEnvC scope cl C X.env) fp)).run pins s2 σ2 H2 Q2 I2 q
      · subst e
        exact (pts_one (pt_wt (X := blkP X pn s1 H1 scope (compEnvC scope cl C X.env) fp) (e := c))).run pins s2 σ2 H2 Q2 I2 q⟩
  have pel : ∀ (s : Shared) (H : Hp) (C : Addr) (cl : List (Str × Addr)) (fp : List Addr), PE (blkP X pn s H scope (compEnvC scope cl C X.env) fp) elt (fun σ' H' Q' => ∀ (s : Shared) (H : Hp) (C : Addr) (cl : List (Str × Addr)) (fp : List Addr), we (blkP X pn s H scope (compEnvC scope cl C X.env) fp) elt σ' H' Q') := fun s1 H1 C cl fp => ⟨fun pins s2 σ2 H2 Q2 I2 h2 => pe_we.run pins s2 σ2 H2 Q2 I2 (h2 s1 H1 C cl fp)⟩
  refine ⟨_, hpe _ _ pts pel, fun H0 S0 σ H Q s k => hwi H0 S0 σ H _ s fun J H1 r1 itd Dl hD => ?_⟩
  have s1 := s.mono r1
  have sw := s1.wipe (own.map (·.2))
  -- what has been made after i turns
  let made : Nat → List D := fun i => (L.take i).filterMap (·.2)
  have hln : (L.map (·.1)).length = L.length := by rw [List.length_map]
  refine ⟨fun i m H' => m = L.length - i ∧ i ≤ L.length ∧ R H1 H' ∧ ∃ vs, H' Dl = some (.lst vs) ∧ DtAll X.K (off (fun a => a = Dl ∨ Sx S0 γ σ a) H') vs (made i), ⟨L.length, by simp, Nat.zero_le _, Rel.more s1.ref (same_new hD), [], upd_same, .nil⟩, ?_⟩
  rintro i m H' ⟨rfl, hle, r', vs, hDl, hvs⟩
  have kp : Keep (off (Sx S0 γ σ) H1) (off (fun a => a = Dl ∨ Sx S0 γ σ a) H') := fun a u e n => by
    obtain ⟨h1, h2⟩ := off_some e
    refine off_of (fun z => ?_) (Rel.keep r' a u h2 n)
    rcases z with z | z
    · rw [z, hD] at h2
      cases h2
    · exact h1 z
  by_cases hlt : i < L.length
  · have hLi : L[i]? = some L[i] := List.getElem?_eq_getElem hlt
    have hdi : (L.map (·.1))[i]? = some L[i].1 := by rw [List.getElem?_map, hLi]; rfl
    obtain ⟨γ', hwg, hgt, htt, hel⟩ := ht L[i] (List.getElem_mem hlt)
    refine .inr ⟨itd.go i H' _ kp (by rw [hln]; exact hlt), fun H2 => R H1 H2 ∧ ∃ vs, H2 Dl = some (.lst vs) ∧ DtAll X.K (off (fun a => a = Dl ∨ Sx S0 γ σ a) H2) vs (made (i + 1)), fun H2 h2 => ⟨L.length - (i + 1), by omega, rfl, hlt, h2.1, h2.2⟩, fun x H2 hy => ?_⟩
    obtain ⟨sm, dx⟩ := itd.yld i H' _ x H2 L[i].1 kp (fun a z => by
      rcases z with z | z
      · rw [z, hDl]
        exact fun q => nomatch q
      · exact (s1.mono r').there z) hy hdi
    have r2 : R H1 H2 := Rel.more r' sm
    have hDl2 : H2 Dl = some (.lst vs) := sm _ _ hDl
    -- the slots without the comprehension's own
    have sa := sw.avoid r2 hD (by rw [hDl2]; exact fun q => nomatch q)
    have subw : ∀ (vv : List Nat) (a : Addr), Sx S0 (wipeS γ vv) (L2.wipe σ vv) a → Sx S0 γ σ a := fun vv => by
      induction vv with
      | nil => exact fun a z => z
      | cons v vv ih => exact fun a z => ih a (sx_no a z)
    have subs : ∀ a, Sx (fun a => a = Dl ∨ S0 a) (wipeS γ (own.map (·.2))) (L2.wipe σ (own.map (·.2))) a → a = Dl ∨ Sx S0 γ σ a := fun a z => by
      rcases z with (z | z) | z
      · exact .inl z
      · exact .inr (.inl z)
      · exact .inr (subw _ a (.inr z))
    refine hgt _ _ σ H2 x _ sa (dp_keep (off_keep (Keep.refl H2) subs) _ _ dx) fun σ' hw sg => ⟨hw, ?_⟩
    have step : made (i + 1) = made i ++ L[i].2.toList := by
      show (L.take (i + 1)).filterMap (·.2) = (L.take i).filterMap (·.2) ++ _
      rw [List.take_add_one, hLi]
      show (L.take i ++ [L[i]]).filterMap (·.2) = _
      rw [List.filterMap_append]
      congr 1
    have hml : (made i).length ≤ 1000 := by
      show ((L.take i).filterMap (·.2)).length ≤ 1000
      exact Nat.le_trans (List.length_filterMap_le _ _) (by rw [List.length_take]; omega)
    -- behind the element
    have fin : ∀ (H3 : Hp) (rr : D), R H2 H3 → L[i].2 = some rr → (∀ (s : Shared) (H : Hp) (C : Addr) (cl : List (Str × Addr)) (fp : List Addr), we (blkP X pn s H scope (compEnvC scope cl C X.env) fp) elt σ' H3 fun y H4 => ∃ acc, H4 Dl = some (.lst acc) ∧ acc.length < sizeLine ∧ R H1 (upd H4 Dl (.lst (acc ++ [y]))) ∧ ∃ vs, (upd H4 Dl (.lst (acc ++ [y]))) Dl = some (.lst vs) ∧ DtAll X.K (off (fun a => a = Dl ∨ Sx S0 γ σ a) (upd H4 Dl (.lst (acc ++ [y])))) vs (made (i + 1))) := fun H3 rr r3 hp s4 H4 C cl fp => by
      refine hel rr hp s4 H4 C cl fp _ _ σ' H3 _ (sg.mono r3) fun y H5 r5 dy => ?_
      have r35 := Rel.trans r3 r5
      have hD5 : H5 Dl = some (.lst vs) := Rel.keep r35 _ _ hDl2 (fun _ z => nomatch z)
      refine ⟨vs, hD5, Nat.lt_of_le_of_lt (by rw [dps_len hvs]; exact hml) (by decide), Rel.chgL (Rel.trans r2 r35) hD ⟨_, hD5⟩, vs ++ [y], upd_same, ?_⟩
      rw [step, hp]
      have k5 : Keep (off (fun a => a = Dl ∨ Sx S0 γ σ a) H5) (off (fun a => a = Dl ∨ Sx S0 γ σ a) (upd H5 Dl (.lst (vs ++ [y])))) := fun a u e n => by
        obtain ⟨h1, h2⟩ := off_some e
        refine off_of h1 ?_
        rw [upd_ne (fun z => h1 (.inl z))]
        exact h2
      refine dps_app (dps_keep (k5) _ _ (dts_up r35 (dps_keep (off_keep (Keep.of sm) fun _ z => z) _ _ hvs))) (dps_one (dp_keep k5 _ _ ?_))
      -- what comes does not hold a list of one's own: those stand in the slots that are left
      refine dp_keep (off_keep (Keep.refl H5) fun a z => ?_) _ _ dy
      rcases z with z | z
      · exact .inl (.inl z)
      · rcases z with z | ⟨j, y, v, z1, z2, z3⟩
        · exact .inl (.inr z)
        · have nj : j ∉ own.map (·.2) := fun q => by
            match y, z1, z3 with
            | .own o, z1, _ => exact hown j q o z1
          refine .inr ⟨j, y, v, ?_, ?_, z3⟩
          · rw [← wipeS_get nj, hwg, wipeS_get nj]
            exact z1
          · rw [← wipe_get nj, hw, wipe_get nj]
            exact z2
    show ∀ (s : Shared) (H : Hp) (C : Addr) (cl : List (Str × Addr)) (fp : List Addr), _ ∨ _
    intro s2 H3 C cl fp
    rcases htt s2 H3 C cl fp with ⟨e, hp⟩ | ⟨c, e, hct⟩
    · obtain ⟨rr, hr⟩ := Option.isSome_iff_exists.mp hp
      exact .inl ⟨e, iteT fun s H C cl fp => fin H2 rr (Rel.ends r2) hr s H C cl fp⟩
    · refine .inr ⟨c, e, hct _ _ σ' H2 _ sg fun H4 r4 => ?_⟩
      cases hp : L[i].2 with
      | some rr =>
        exact iteT fun s H C cl fp => fin H4 rr r4 hp s H C cl fp
      | none =>
        refine iteF ⟨Rel.trans r2 r4, vs, Rel.keep r4 _ _ hDl2 (fun _ z => nomatch z), ?_⟩
        rw [step, hp, Option.toList, List.append_nil]
        exact dts_up r4 (dps_keep (off_keep (Keep.of sm) fun _ z => z) _ _ hvs)
  · have e : i = L.length := by omega
    subst e
    refine .inl ⟨itd.stop _ H' _ kp (by rw [hln]; exact Nat.le_refl _), k Dl vs H' (Rel.free r1 hD) (Rel.trans r1 r') hDl ?_⟩
    have : made L.length = L.filterMap (·.2) := by
      show (L.take L.length).filterMap (·.2) = _
      rw [List.take_length]
    rw [this] at hvs
    exact hvs
theorem el_lc {elt tg iter : Expr} {ifs : List Expr} {scope : Scope} {own : List (Str × Nat)} {g : TG} {L : List (D × Option D)} (hc : X.calm = true) (hN : X.N.Nodup) (hi : EI R X γ tg iter (L.map (·.1))) (ok : BlkOk X.N X.env.scope scope own)
    (hg : ∀ (s : Shared) (H : Hp) (C : Addr) (cl : List (Str × Addr)) (fp : List Addr), PG (X.blk s H scope (compEnvC scope cl C X.env) fp) tg g)
    (hown : ∀ j ∈ own.map (·.2), ∀ es, γ[j]? ≠ some (.own es))
    (ht : ∀ e ∈ L, ∃ γ' : List Sl, wipeS γ' (own.map (·.2)) = wipeS γ (own.map (·.2)) ∧ (∀ (H0 : Hp) (S0 : Addr → Prop) (σ : L2.St) (H : Hp) (v : V) (Q : L2.St → Hp → Prop), SI R X.K H0 S0 (wipeS γ (own.map (·.2))) (L2.wipe σ (own.map (·.2))) H → Dt X.K (off (Sx S0 (wipeS γ (own.map (·.2))) (L2.wipe σ (own.map (·.2)))) H) v e.1 →
        (∀ σ', L2.wipe σ' (own.map (·.2)) = L2.wipe σ (own.map (·.2)) → SI R X.K H0 S0 γ' σ' H → Q σ' H) → g v (L2.wipe σ (own.map (·.2))) H Q) ∧
      (∀ (s : Shared) (H : Hp) (C : Addr) (cl : List (Str × Addr)) (fp : List Addr), (ifs = [] ∧ e.2.isSome = true) ∨ (∃ c, ifs = [c] ∧ ET R (X.blk s H scope (compEnvC scope cl C X.env) fp) γ' c e.2.isSome)) ∧
      (∀ r, e.2 = some r → ∀ (s : Shared) (H : Hp) (C : Addr) (cl : List (Str × Addr)) (fp : List Addr), EE R (X.blk s H scope (compEnvC scope cl C X.env) fp) γ' elt r))
    (hl : L.length ≤ 1000) (hs : ∀ x, foldedSetIterable iter X.env x = pure x := by intro _; rfl) :
    EL R X γ (.ListComp elt [⟨tg, iter, ifs, 0⟩] scope pos) (L.filterMap (·.2)) := by
  obtain ⟨wi, hpi, hwi⟩ := hi
  exact lc_gen (iter := iter) (tg := tg) [] hwi (fun tt te h1 h2 => ⟨pe_lc hc hN hpi ok hg h1 h2 hs, fun i y py spos hy hyl hsw => ps_setLc hc hN hy hyl hsw hpi ok hg h1 h2 hs⟩) hown ht hl
end
end An

/-! Comprehensions by their targets; statements; calls. -/
namespace An
open PySem PySem.Spec PyProof.Rows L2
section
variable {R : Hp → Hp → Prop} [RelC R] {X : Cx} {γ : List Sl} {pos : Pos}
/-- [elt for x in iter], [.. if c]: items are f of L, o tells what comes -/
theorem el_lc1 {α : Type} {elt iter : Expr} {ifs : List Expr} {scope : Scope} (x : Str) (j : Nat) (L : List α) (f : α → D) (o : α → Option D) {tp : Pos} (hc : X.calm = true) (hN : X.N.Nodup) (hi : EI R X γ (.Name x tp) iter (L.map f)) (ok : BlkOk X.N X.env.scope scope [(x, j)])
    (hg : ∀ (s : Shared) (H : Hp) (C : Addr) (cl : List (Str × Addr)) (fp : List Addr), PG (X.blk s H scope (compEnvC scope cl C X.env) fp) (.Name x tp) (gName j)) (hown : ∀ es, γ[j]? ≠ some (.own es))
    (hp : ∀ a ∈ L, ∀ (s : Shared) (H : Hp) (C : Addr) (cl : List (Str × Addr)) (fp : List Addr), (ifs = [] ∧ (o a).isSome = true) ∨ (∃ c, ifs = [c] ∧ ET R (X.blk s H scope (compEnvC scope cl C X.env) fp) (γ.set j (.dat (f a))) c (o a).isSome))
    (ht : ∀ a ∈ L, ∀ r, o a = some r → ∀ (s : Shared) (H : Hp) (C : Addr) (cl : List (Str × Addr)) (fp : List Addr), EE R (X.blk s H scope (compEnvC scope cl C X.env) fp) (γ.set j (.dat (f a))) elt r)
    (hl : L.length ≤ 1000) (hs : ∀ x, foldedSetIterable iter X.env x = pure x := by intro _; rfl) : EL R X γ (.ListComp elt [⟨.Name x tp, iter, ifs, 0⟩] scope pos) (L.filterMap o) := by
  have h := el_lc (pos := pos) (L := L.map fun a => (f a, o a)) (elt := elt) (ifs := ifs) (own := [(x, j)]) hc hN (by rw [List.map_map]; exact hi) ok hg (fun i hi es => by
    have e : i = j := by simpa using hi
    rw [e]
    exact hown es) (fun q hq => by
      obtain ⟨a, ha, rfl⟩ := List.mem_map.mp hq
      refine ⟨γ.set j (.dat (f a)), ?_, fun H0 S0 σ H v Q s h k => ?_, fun s H C cl fp => hp a ha s H C cl fp, fun r e => ht a ha r e⟩
      · show (γ.set j (.dat (f a))).set j .no = γ.set j .no
        rw [List.set_set]
      · show Q ((σ.set j none).set j (some v)) H
        refine k _ ?_ ?_
        · show ((σ.set j none).set j (some v)).set j none = σ.set j none
          rw [List.set_set, List.set_set]
        · have s2 := s.putD j h
          have e : (γ.set j .no).set j (.dat (f a)) = γ.set j (.dat (f a)) := List.set_set ..
          have s3 : SI R X.K H0 S0 ((γ.set j .no).set j (.dat (f a))) ((σ.set j none).set j (some v)) H := s2
          rw [e] at s3
          exact s3) (by rw [List.length_map]; exact hl) hs
  rw [List.filterMap_map] at h
  exact h
theorem ef_lc1 {α : Type} {elt iter : Expr} {ifs : List Expr} {scope : Scope} (x : Str) (j : Nat) (L : List α) (f : α → D) (o : α → Option D) {tp : Pos} (hc : X.calm = true) (hN : X.N.Nodup) (hi : EI R X γ (.Name x tp) iter (L.map f)) (ok : BlkOk X.N X.env.scope scope [(x, j)])
    (hg : ∀ (s : Shared) (H : Hp) (C : Addr) (cl : List (Str × Addr)) (fp : List Addr), PG (X.blk s H scope (compEnvC scope cl C X.env) fp) (.Name x tp) (gName j)) (hown : ∀ es, γ[j]? ≠ some (.own es))
    (hp : ∀ a ∈ L, ∀ (s : Shared) (H : Hp) (C : Addr) (cl : List (Str × Addr)) (fp : List Addr), (ifs = [] ∧ (o a).isSome = true) ∨ (∃ c, ifs = [c] ∧ ET R (X.blk s H scope (compEnvC scope cl C X.env) fp) (γ.set j (.dat (f a))) c (o a).isSome))
    (ht : ∀ a ∈ L, ∀ r, o a = some r → ∀ (s : Shared) (H : Hp) (C : Addr) (cl : List (Str × Addr)) (fp : List Addr), EE R (X.blk s H scope (compEnvC scope cl C X.env) fp) (γ.set j (.dat (f a))) elt r)
    (hl : L.length ≤ 1000) (hs : ∀ x, foldedSetIterable iter X.env x = pure x := by intro _; rfl) : EF R X γ (.ListComp elt [⟨.Name x tp, iter, ifs, 0⟩] scope pos) (L.filterMap o) :=
  (el_lc1 (pos := pos) x j L f o hc hN hi ok hg hown hp ht hl hs).ef
/-- [elt for x in iter] -/
theorem el_mapA {α : Type} {elt iter : Expr} {scope : Scope} (x : Str) (j : Nat) (L : List α) (f g : α → D) {tp : Pos} (hc : X.calm = true) (hN : X.N.Nodup) (hi : EI R X γ (.Name x tp) iter (L.map f)) (ok : BlkOk X.N X.env.scope scope [(x, j)])
    (hg : ∀ (s : Shared) (H : Hp) (C : Addr) (cl : List (Str × Addr)) (fp : List Addr), PG (X.blk s H scope (compEnvC scope cl C X.env) fp) (.Name x tp) (gName j)) (hown : ∀ es, γ[j]? ≠ some (.own es))
    (ht : ∀ a ∈ L, ∀ (s : Shared) (H : Hp) (C : Addr) (cl : List (Str × Addr)) (fp : List Addr), EE R (X.blk s H scope (compEnvC scope cl C X.env) fp) (γ.set j (.dat (f a))) elt (g a))
    (hl : L.length ≤ 1000) (hs : ∀ x, foldedSetIterable iter X.env x = pure x := by intro _; rfl) : EL R X γ (.ListComp elt [⟨.Name x tp, iter, [], 0⟩] scope pos) (L.map g) := by
  have h := el_lc1 (pos := pos) x j L f (fun a => some (g a)) (elt := elt) (ifs := []) hc hN hi ok hg hown (fun a ha s H C cl fp => .inl ⟨rfl, rfl⟩) (fun a ha r e => by cases e; exact ht a ha) hl hs
  rw [show (fun a => some (g a)) = (some ∘ g) from rfl, List.filterMap_eq_map] at h
  exact h
theorem ef_mapA {α : Type} {elt iter : Expr} {scope : Scope} (x : Str) (j : Nat) (L : List α) (f g : α → D) {tp : Pos} (hc : X.calm = true) (hN : X.N.Nodup) (hi : EI R X γ (.Name x tp) iter (L.map f)) (ok : BlkOk X.N X.env.scope scope [(x, j)])
    (hg : ∀ (s : Shared) (H : Hp) (C : Addr) (cl : List (Str × Addr)) (fp : List Addr), PG (X.blk s H scope (compEnvC scope cl C X.env) fp) (.Name x tp) (gName j)) (hown : ∀ es, γ[j]? ≠ some (.own es))
    (ht : ∀ a ∈ L, ∀ (s : Shared) (H : Hp) (C : Addr) (cl : List (Str × Addr)) (fp : List Addr), EE R (X.blk s H scope (compEnvC scope cl C X.env) fp) (γ.set j (.dat (f a))) elt (g a))
    (hl : L.length ≤ 1000) (hs : ∀ x, foldedSetIterable iter X.env x = pure x := by intro _; rfl) : EF R X γ (.ListComp elt [⟨.Name x tp, iter, [], 0⟩] scope pos) (L.map g) :=
  (el_mapA (pos := pos) x j L f g hc hN hi ok hg hown ht hl hs).ef
theorem filterMap_if {α β : Type} (p : α → Bool) (g : α → β) : ∀ L : List α, L.filterMap (fun a => if p a = true then some (g a) else none) = (L.filter p).map g
  | [] => rfl
  | a :: L => by
    rw [List.filterMap_cons, List.filter_cons, filterMap_if p g L]
    by_cases h : p a = true
    · rw [if_pos h, if_pos h]
      rfl
    · rw [if_neg h, if_neg h]
/-- [elt for x in iter if c] -/
theorem el_selA {α : Type} {elt iter c : Expr} {scope : Scope} (x : Str) (j : Nat) (L : List α) (f : α → D) (p : α → Bool) (g : α → D) {tp : Pos} (hc : X.calm = true) (hN : X.N.Nodup) (hi : EI R X γ (.Name x tp) iter (L.map f)) (ok : BlkOk X.N X.env.scope scope [(x, j)])
    (hg : ∀ (s : Shared) (H : Hp) (C : Addr) (cl : List (Str × Addr)) (fp : List Addr), PG (X.blk s H scope (compEnvC scope cl C X.env) fp) (.Name x tp) (gName j)) (hown : ∀ es, γ[j]? ≠ some (.own es))
    (hp : ∀ a ∈ L, ∀ (s : Shared) (H : Hp) (C : Addr) (cl : List (Str × Addr)) (fp : List Addr), ET R (X.blk s H scope (compEnvC scope cl C X.env) fp) (γ.set j (.dat (f a))) c (p a))
    (ht : ∀ a ∈ L, p a = true → ∀ (s : Shared) (H : Hp) (C : Addr) (cl : List (Str × Addr)) (fp : List Addr), EE R (X.blk s H scope (compEnvC scope cl C X.env) fp) (γ.set j (.dat (f a))) elt (g a))
    (hl : L.length ≤ 1000) (hs : ∀ x, foldedSetIterable iter X.env x = pure x := by intro _; rfl) : EL R X γ (.ListComp elt [⟨.Name x tp, iter, [c], 0⟩] scope pos) ((L.filter p).map g) := by
  have h := el_lc1 (pos := pos) x j L f (fun a => if p a = true then some (g a) else none) (elt := elt) (ifs := [c]) hc hN hi ok hg hown (fun a ha s H C cl fp => .inr ⟨c, rfl, by
    have := hp a ha s H C cl fp
    cases e : p a with
    | true => rw [e] at this; simpa using this
    | false => rw [e] at this; simpa using this⟩) (fun a ha r e => by
    by_cases q : p a = true
    · rw [if_pos q] at e
      cases e
      exact ht a ha q
    · rw [if_neg q] at e
      cases e) hl hs
  rw [filterMap_if] at h
  exact h
theorem ef_selA {α : Type} {elt iter c : Expr} {scope : Scope} (x : Str) (j : Nat) (L : List α) (f : α → D) (p : α → Bool) (g : α → D) {tp : Pos} (hc : X.calm = true) (hN : X.N.Nodup) (hi : EI R X γ (.Name x tp) iter (L.map f)) (ok : BlkOk X.N X.env.scope scope [(x, j)])
    (hg : ∀ (s : Shared) (H : Hp) (C : Addr) (cl : List (Str × Addr)) (fp : List Addr), PG (X.blk s H scope (compEnvC scope cl C X.env) fp) (.Name x tp) (gName j)) (hown : ∀ es, γ[j]? ≠ some (.own es))
    (hp : ∀ a ∈ L, ∀ (s : Shared) (H : Hp) (C : Addr) (cl : List (Str × Addr)) (fp : List Addr), ET R (X.blk s H scope (compEnvC scope cl C X.env) fp) (γ.set j (.dat (f a))) c (p a))
    (ht : ∀ a ∈ L, p a = true → ∀ (s : Shared) (H : Hp) (C : Addr) (cl : List (Str × Addr)) (fp : List Addr), EE R (X.blk s H scope (compEnvC scope cl C X.env) fp) (γ.set j (.dat (f a))) elt (g a))
    (hl : L.length ≤ 1000) (hs : ∀ x, foldedSetIterable iter X.env x = pure x := by intro _; rfl) : EF R X γ (.ListComp elt [⟨.Name x tp, iter, [c], 0⟩] scope pos) ((L.filter p).map g) :=
  (el_selA (pos := pos) x j L f p g hc hN hi ok hg hown hp ht hl hs).ef
theorem ef_map {elt iter : Expr} {scope : Scope} (x : Str) (j : Nat) {ds : List D} {tp : Pos} (o : D → D) (hc : X.calm = true) (hN : X.N.Nodup) (hi : EI R X γ (.Name x tp) iter ds) (ok : BlkOk X.N X.env.scope scope [(x, j)])
    (hg : ∀ (s : Shared) (H : Hp) (C : Addr) (cl : List (Str × Addr)) (fp : List Addr), PG (X.blk s H scope (compEnvC scope cl C X.env) fp) (.Name x tp) (gName j)) (hown : ∀ es, γ[j]? ≠ some (.own es))
    (ht : ∀ d ∈ ds, ∀ (s : Shared) (H : Hp) (C : Addr) (cl : List (Str × Addr)) (fp : List Addr), EE R (X.blk s H scope (compEnvC scope cl C X.env) fp) (γ.set j (.dat d)) elt (o d))
    (hl : ds.length ≤ 1000) (hs : ∀ x, foldedSetIterable iter X.env x = pure x := by intro _; rfl) : EF R X γ (.ListComp elt [⟨.Name x tp, iter, [], 0⟩] scope pos) (ds.map o) :=
  ef_mapA x j ds id o hc hN (by rw [List.map_id]; exact hi) ok hg hown ht hl hs
/-- the slots of a pair's names -/
theorem SI.putDD {K : PySem.W.Frag} {H0 H : Hp} {S0 : Addr → Prop} {σ : L2.St} (s : SI R K H0 S0 γ σ H) (i j : Nat) {v w : V} {d e : D} (h : Dt K (off (Sx S0 γ σ) H) v d) (h' : Dt K (off (Sx S0 γ σ) H) w e) : SI R K H0 S0 ((γ.set i (.dat d)).set j (.dat e)) ((σ.set i (some v)).set j (some w)) H := by
  have s1 := s.putD i h
  exact s1.putD j (dp_keep (off_keep (Keep.refl H) sx_dat) _ _ h')
/-- [elt for a, b in iter], [.. if c]: each item a pair -/
theorem el_lc2A {α : Type} {elt iter : Expr} {ifs : List Expr} {scope : Scope} (x y : Str) (i j : Nat) (L : List α) (f1 f2 : α → D) (o : α → Option D) {p1 p2 tp : Pos} {kk : Nat} (hij : i ≠ j) (hc : X.calm = true) (hN : X.N.Nodup)
    (hi : EI R X γ (.Tuple [.Name x p1, .Name y p2] kk tp) iter (L.map fun a => .tuple [f1 a, f2 a])) (ok : BlkOk X.N X.env.scope scope [(x, i), (y, j)])
    (hg : ∀ (s : Shared) (H : Hp) (C : Addr) (cl : List (Str × Addr)) (fp : List Addr), PG (X.blk s H scope (compEnvC scope cl C X.env) fp) (.Tuple [.Name x p1, .Name y p2] kk tp) (gTup X.K 2 (gCons (gName i) (gCons (gName j) gNil)))) (ho1 : ∀ es, γ[i]? ≠ some (.own es)) (ho2 : ∀ es, γ[j]? ≠ some (.own es))
    (hp : ∀ a ∈ L, ∀ (s : Shared) (H : Hp) (C : Addr) (cl : List (Str × Addr)) (fp : List Addr), (ifs = [] ∧ (o a).isSome = true) ∨ (∃ c, ifs = [c] ∧ ET R (X.blk s H scope (compEnvC scope cl C X.env) fp) ((γ.set i (.dat (f1 a))).set j (.dat (f2 a))) c (o a).isSome))
    (ht : ∀ a ∈ L, ∀ r, o a = some r → ∀ (s : Shared) (H : Hp) (C : Addr) (cl : List (Str × Addr)) (fp : List Addr), EE R (X.blk s H scope (compEnvC scope cl C X.env) fp) ((γ.set i (.dat (f1 a))).set j (.dat (f2 a))) elt r)
    (hl : L.length ≤ 1000) (hs : ∀ x, foldedSetIterable iter X.env x = pure x := by intro _; rfl) : EL R X γ (.ListComp elt [⟨.Tuple [.Name x p1, .Name y p2] kk tp, iter, ifs, 0⟩] scope pos) (L.filterMap o) := by
  have h := el_lc (pos := pos) (L := L.map fun a => (.tuple [f1 a, f2 a], o a)) (elt := elt) (ifs := ifs) (own := [(x, i), (y, j)]) hc hN (by rw [List.map_map]; exact hi) ok hg (fun k hk es => by
    have e : k = i ∨ k = j := by simpa using hk
    rcases e with e | e
    · rw [e]
      exact ho1 es
    · rw [e]
      exact ho2 es) (fun d hd => by
    obtain ⟨q, hq, rfl⟩ := List.mem_map.mp hd
    refine ⟨(γ.set i (.dat (f1 q))).set j (.dat (f2 q)), ?_, fun H0 S0 σ H v Q s h k => ?_, fun s H C cl fp => hp q hq s H C cl fp, fun r e => ht q hq r e⟩
    · show (((γ.set i (.dat (f1 q))).set j (.dat (f2 q))).set j .no).set i .no = (γ.set j .no).set i .no
      rw [List.set_set, List.set_comm _ _ hij, List.set_set]
    · cases h with
      | tup h1 h2 =>
        cases h2 with
        | cons e1 r1 =>
          cases r1 with
          | cons e2 r2 =>
            cases r2
            rename_i a v1 v2
            refine ⟨_, _, rfl, sqt_keep off_in h1, rfl, _, _, rfl, _, _, rfl, rfl, ?_⟩
            refine k ((((σ.set j none).set i none).set i (some v1)).set j (some v2)) ?_ ?_
            · show (((((σ.set j none).set i none).set i (some v1)).set j (some v2)).set j none).set i none = (σ.set j none).set i none
              rw [List.set_set, List.set_comm _ _ hij.symm, List.set_set, List.set_set, List.set_comm _ _ hij, List.set_set]
            · have s2 := s.putDD i j e1 e2
              have e : ((((γ.set j .no).set i .no).set i (.dat (f1 q))).set j (.dat (f2 q))) = (γ.set i (.dat (f1 q))).set j (.dat (f2 q)) := by
                rw [List.set_set, List.set_comm _ _ hij.symm, List.set_set]
              have s3 : SI R X.K H0 S0 ((((γ.set j .no).set i .no).set i (.dat (f1 q))).set j (.dat (f2 q))) ((((σ.set j none).set i none).set i (some v1)).set j (some v2)) H := s2
              rw [e] at s3
              exact s3) (by rw [List.length_map]; exact hl) hs
  rw [List.filterMap_map] at h
  exact h
theorem ef_lc2A {α : Type} {elt iter : Expr} {ifs : List Expr} {scope : Scope} (x y : Str) (i j : Nat) (L : List α) (f1 f2 : α → D) (o : α → Option D) {p1 p2 tp : Pos} {kk : Nat} (hij : i ≠ j) (hc : X.calm = true) (hN : X.N.Nodup)
    (hi : EI R X γ (.Tuple [.Name x p1, .Name y p2] kk tp) iter (L.map fun a => .tuple [f1 a, f2 a])) (ok : BlkOk X.N X.env.scope scope [(x, i), (y, j)])
    (hg : ∀ (s : Shared) (H : Hp) (C : Addr) (cl : List (Str × Addr)) (fp : List Addr), PG (X.blk s H scope (compEnvC scope cl C X.env) fp) (.Tuple [.Name x p1, .Name y p2] kk tp) (gTup X.K 2 (gCons (gName i) (gCons (gName j) gNil)))) (ho1 : ∀ es, γ[i]? ≠ some (.own es)) (ho2 : ∀ es, γ[j]? ≠ some (.own es))
    (hp : ∀ a ∈ L, ∀ (s : Shared) (H : Hp) (C : Addr) (cl : List (Str × Addr)) (fp : List Addr), (ifs = [] ∧ (o a).isSome = true) ∨ (∃ c, ifs = [c] ∧ ET R (X.blk s H scope (compEnvC scope cl C X.env) fp) ((γ.set i (.dat (f1 a))).set j (.dat (f2 a))) c (o a).isSome))
    (ht : ∀ a ∈ L, ∀ r, o a = some r → ∀ (s : Shared) (H : Hp) (C : Addr) (cl : List (Str × Addr)) (fp : List Addr), EE R (X.blk s H scope (compEnvC scope cl C X.env) fp) ((γ.set i (.dat (f1 a))).set j (.dat (f2 a))) elt r)
    (hl : L.length ≤ 1000) (hs : ∀ x, foldedSetIterable iter X.env x = pure x := by intro _; rfl) : EF R X γ (.ListComp elt [⟨.Tuple [.Name x p1, .Name y p2] kk tp, iter, ifs, 0⟩] scope pos) (L.filterMap o) :=
  (el_lc2A (pos := pos) x y i j L f1 f2 o hij hc hN hi ok hg ho1 ho2 hp ht hl hs).ef
theorem el_map2A {α : Type} {elt iter : Expr} {scope : Scope} (x y : Str) (i j : Nat) (L : List α) (f1 f2 g : α → D) {p1 p2 tp : Pos} {kk : Nat} (hij : i ≠ j) (hc : X.calm = true) (hN : X.N.Nodup)
    (hi : EI R X γ (.Tuple [.Name x p1, .Name y p2] kk tp) iter (L.map fun a => .tuple [f1 a, f2 a])) (ok : BlkOk X.N X.env.scope scope [(x, i), (y, j)])
    (hg : ∀ (s : Shared) (H : Hp) (C : Addr) (cl : List (Str × Addr)) (fp : List Addr), PG (X.blk s H scope (compEnvC scope cl C X.env) fp) (.Tuple [.Name x p1, .Name y p2] kk tp) (gTup X.K 2 (gCons (gName i) (gCons (gName j) gNil)))) (ho1 : ∀ es, γ[i]? ≠ some (.own es)) (ho2 : ∀ es, γ[j]? ≠ some (.own es))
    (ht : ∀ a ∈ L, ∀ (s : Shared) (H : Hp) (C : Addr) (cl : List (Str × Addr)) (fp : List Addr), EE R (X.blk s H scope (compEnvC scope cl C X.env) fp) ((γ.set i (.dat (f1 a))).set j (.dat (f2 a))) elt (g a))
    (hl : L.length ≤ 1000) (hs : ∀ x, foldedSetIterable iter X.env x = pure x := by intro _; rfl) : EL R X γ (.ListComp elt [⟨.Tuple [.Name x p1, .Name y p2] kk tp, iter, [], 0⟩] scope pos) (L.map g) := by
  have h := el_lc2A (pos := pos) x y i j L f1 f2 (fun a => some (g a)) (elt := elt) (ifs := []) hij hc hN hi ok hg ho1 ho2 (fun a ha s H C cl fp => .inl ⟨rfl, rfl⟩) (fun a ha r e => by cases e; exact ht a ha) hl hs
  rw [show (fun a => some (g a)) = (some ∘ g) from rfl, List.filterMap_eq_map] at h
  exact h
theorem ef_map2A {α : Type} {elt iter : Expr} {scope : Scope} (x y : Str) (i j : Nat) (L : List α) (f1 f2 g : α → D) {p1 p2 tp : Pos} {kk : Nat} (hij : i ≠ j) (hc : X.calm = true) (hN : X.N.Nodup)
    (hi : EI R X γ (.Tuple [.Name x p1, .Name y p2] kk tp) iter (L.map fun a => .tuple [f1 a, f2 a])) (ok : BlkOk X.N X.env.scope scope [(x, i), (y, j)])
    (hg : ∀ (s : Shared) (H : Hp) (C : Addr) (cl : List (Str × Addr)) (fp : List Addr), PG (X.blk s H scope (compEnvC scope cl C X.env) fp) (.Tuple [.Name x p1, .Name y p2] kk tp) (gTup X.K 2 (gCons (gName i) (gCons (gName j) gNil)))) (ho1 : ∀ es, γ[i]? ≠ some (.own es)) (ho2 : ∀ es, γ[j]? ≠ some (.own es))
    (ht : ∀ a ∈ L, ∀ (s : Shared) (H : Hp) (C : Addr) (cl : List (Str × Addr)) (fp : List Addr), EE R (X.blk s H scope (compEnvC scope cl C X.env) fp) ((γ.set i (.dat (f1 a))).set j (.dat (f2 a))) elt (g a))
    (hl : L.length ≤ 1000) (hs : ∀ x, foldedSetIterable iter X.env x = pure x := by intro _; rfl) : EF R X γ (.ListComp elt [⟨.Tuple [.Name x p1, .Name y p2] kk tp, iter, [], 0⟩] scope pos) (L.map g) :=
  (el_map2A (pos := pos) x y i j L f1 f2 g hij hc hN hi ok hg ho1 ho2 ht hl hs).ef
theorem el_sel2A {α : Type} {elt iter c : Expr} {scope : Scope} (x y : Str) (i j : Nat) (L : List α) (f1 f2 : α → D) (p : α → Bool) (g : α → D) {p1 p2 tp : Pos} {kk : Nat} (hij : i ≠ j) (hc : X.calm = true) (hN : X.N.Nodup)
    (hi : EI R X γ (.Tuple [.Name x p1, .Name y p2] kk tp) iter (L.map fun a => .tuple [f1 a, f2 a])) (ok : BlkOk X.N X.env.scope scope [(x, i), (y, j)])
    (hg : ∀ (s : Shared) (H : Hp) (C : Addr) (cl : List (Str × Addr)) (fp : List Addr), PG (X.blk s H scope (compEnvC scope cl C X.env) fp) (.Tuple [.Name x p1, .Name y p2] kk tp) (gTup X.K 2 (gCons (gName i) (gCons (gName j) gNil)))) (ho1 : ∀ es, γ[i]? ≠ some (.own es)) (ho2 : ∀ es, γ[j]? ≠ some (.own es))
    (hp : ∀ a ∈ L, ∀ (s : Shared) (H : Hp) (C : Addr) (cl : List (Str × Addr)) (fp : List Addr), ET R (X.blk s H scope (compEnvC scope cl C X.env) fp) ((γ.set i (.dat (f1 a))).set j (.dat (f2 a))) c (p a))
    (ht : ∀ a ∈ L, p a = true → ∀ (s : Shared) (H : Hp) (C : Addr) (cl : List (Str × Addr)) (fp : List Addr), EE R (X.blk s H scope (compEnvC scope cl C X.env) fp) ((γ.set i (.dat (f1 a))).set j (.dat (f2 a))) elt (g a))
    (hl : L.length ≤ 1000) (hs : ∀ x, foldedSetIterable iter X.env x = pure x := by intro _; rfl) : EL R X γ (.ListComp elt [⟨.Tuple [.Name x p1, .Name y p2] kk tp, iter, [c], 0⟩] scope pos) ((L.filter p).map g) := by
  have h := el_lc2A (pos := pos) x y i j L f1 f2 (fun a => if p a = true then some (g a) else none) (elt := elt) (ifs := [c]) hij hc hN hi ok hg ho1 ho2 (fun a ha s H C cl fp => .inr ⟨c, rfl, by
    have := hp a ha s H C cl fp
    cases e : p a with
    | true => rw [e] at this; simpa using this
    | false => rw [e] at this; simpa using this⟩) (fun a ha r e => by
    by_cases q : p a = true
    · rw [if_pos q] at e
      cases e
      exact ht a ha q
    · rw [if_neg q] at e
      cases e) hl hs
  rw [filterMap_if] at h
  exact h
theorem ef_sel2A {α : Type} {elt iter c : Expr} {scope : Scope} (x y : Str) (i j : Nat) (L : List α) (f1 f2 : α → D) (p : α → Bool) (g : α → D) {p1 p2 tp : Pos} {kk : Nat} (hij : i ≠ j) (hc : X.calm = true) (hN : X.N.Nodup)
    (hi : EI R X γ (.Tuple [.Name x p1, .Name y p2] kk tp) iter (L.map fun a => .tuple [f1 a, f2 a])) (ok : BlkOk X.N X.env.scope scope [(x, i), (y, j)])
    (hg : ∀ (s : Shared) (H : Hp) (C : Addr) (cl : List (Str × Addr)) (fp : List Addr), PG (X.blk s H scope (compEnvC scope cl C X.env) fp) (.Tuple [.Name x p1, .Name y p2] kk tp) (gTup X.K 2 (gCons (gName i) (gCons (gName j) gNil)))) (ho1 : ∀ es, γ[i]? ≠ some (.own es)) (ho2 : ∀ es, γ[j]? ≠ some (.own es))
    (hp : ∀ a ∈ L, ∀ (s : Shared) (H : Hp) (C : Addr) (cl : List (Str × Addr)) (fp : List Addr), ET R (X.blk s H scope (compEnvC scope cl C X.env) fp) ((γ.set i (.dat (f1 a))).set j (.dat (f2 a))) c (p a))
    (ht : ∀ a ∈ L, p a = true → ∀ (s : Shared) (H : Hp) (C : Addr) (cl : List (Str × Addr)) (fp : List Addr), EE R (X.blk s H scope (compEnvC scope cl C X.env) fp) ((γ.set i (.dat (f1 a))).set j (.dat (f2 a))) elt (g a))
    (hl : L.length ≤ 1000) (hs : ∀ x, foldedSetIterable iter X.env x = pure x := by intro _; rfl) : EF R X γ (.ListComp elt [⟨.Tuple [.Name x p1, .Name y p2] kk tp, iter, [c], 0⟩] scope pos) ((L.filter p).map g) :=
  (el_sel2A (pos := pos) x y i j L f1 f2 p g hij hc hN hi ok hg ho1 ho2 hp ht hl hs).ef
theorem ef_lc2 {elt iter : Expr} {ifs : List Expr} {scope : Scope} (x y : Str) (i j : Nat) {ds : List (D × D)} {p1 p2 tp : Pos} {kk : Nat} (p : D → D → Bool) (o : D → D → D) (hij : i ≠ j) (hc : X.calm = true) (hN : X.N.Nodup)
    (hi : EI R X γ (.Tuple [.Name x p1, .Name y p2] kk tp) iter (ds.map fun q => .tuple [q.1, q.2])) (ok : BlkOk X.N X.env.scope scope [(x, i), (y, j)])
    (hg : ∀ (s : Shared) (H : Hp) (C : Addr) (cl : List (Str × Addr)) (fp : List Addr), PG (X.blk s H scope (compEnvC scope cl C X.env) fp) (.Tuple [.Name x p1, .Name y p2] kk tp) (gTup X.K 2 (gCons (gName i) (gCons (gName j) gNil)))) (ho1 : ∀ es, γ[i]? ≠ some (.own es)) (ho2 : ∀ es, γ[j]? ≠ some (.own es))
    (hp : ∀ q ∈ ds, ∀ (s : Shared) (H : Hp) (C : Addr) (cl : List (Str × Addr)) (fp : List Addr), (ifs = [] ∧ p q.1 q.2 = true) ∨ (∃ c, ifs = [c] ∧ ET R (X.blk s H scope (compEnvC scope cl C X.env) fp) ((γ.set i (.dat q.1)).set j (.dat q.2)) c (p q.1 q.2)))
    (ht : ∀ q ∈ ds, p q.1 q.2 = true → ∀ (s : Shared) (H : Hp) (C : Addr) (cl : List (Str × Addr)) (fp : List Addr), EE R (X.blk s H scope (compEnvC scope cl C X.env) fp) ((γ.set i (.dat q.1)).set j (.dat q.2)) elt (o q.1 q.2))
    (hl : ds.length ≤ 1000) (hs : ∀ x, foldedSetIterable iter X.env x = pure x := by intro _; rfl) : EF R X γ (.ListComp elt [⟨.Tuple [.Name x p1, .Name y p2] kk tp, iter, ifs, 0⟩] scope pos) ((ds.filter fun q => p q.1 q.2).map fun q => o q.1 q.2) := by
  have h := el_lc2A (pos := pos) x y i j ds (·.1) (·.2) (fun q => if p q.1 q.2 = true then some (o q.1 q.2) else none) (elt := elt) (ifs := ifs) hij hc hN hi ok hg ho1 ho2 (fun q hq s H C cl fp => by
    have e : (if p q.1 q.2 = true then some (o q.1 q.2) else none).isSome = p q.1 q.2 := by
      cases p q.1 q.2 <;> rfl
    rw [e]
    exact hp q hq s H C cl fp) (fun q hq r e => by
    by_cases z : p q.1 q.2 = true
    · rw [if_pos z] at e
      cases e
      exact ht q hq z
    · rw [if_neg z] at e
      cases e) hl hs
  rw [filterMap_if (fun q : D × D => p q.1 q.2) (fun q => o q.1 q.2)] at h
  exact h.ef
end
/-! ### statements -/
/-- what is wanted behind statements -/
structure Po where
  nx : List Sl → Prop := fun _ => False
  rt : D → Prop := fun _ => False
  /-- a new list comes back -/
  rn : List D → Prop := fun _ => False
  bk : List Sl → Prop := fun _ => False
  ct : List Sl → Prop := fun _ => False
  rz : Value → Prop := fun _ => False
def SS (R : Hp → Hp → Prop) (X : Cx) (γ : List Sl) (st : List Stmt) (P : Po) : Prop :=
  ∀ (H0 : Hp) (S0 : Addr → Prop) (σ : L2.St) (H : Hp) (E : Ends) (W : XK), SI R X.K H0 S0 γ σ H → L2N.Takes X (fun c d _ H' => W c d H') →
    (∀ γ' σ' H', P.nx γ' → SI R X.K H0 S0 γ' σ' H' → E.nx σ' H') → ((∀ d v H', P.rt d → R H0 H' → Dt X.K (off S0 H') v d → E.rt v H') ∧ ∀ ds p vs H', P.rn ds → R H0 H' → H0 p = none → H' p = some (.lst vs) → DtAll X.K (off (fun a => a = p ∨ S0 a) H') vs ds → E.rt (.ref p) H') →
    (∀ γ' σ' H', P.bk γ' → SI R X.K H0 S0 γ' σ' H' → E.bk σ' H') → (∀ γ' σ' H', P.ct γ' → SI R X.K H0 S0 γ' σ' H' → E.ct σ' H') → (∀ c H', P.rz c → R H0 H' → W c none H') → wss X st E σ H
def S1 (R : Hp → Hp → Prop) (X : Cx) (γ : List Sl) (st : Stmt) (P : Po) : Prop :=
  ∀ (H0 : Hp) (S0 : Addr → Prop) (σ : L2.St) (H : Hp) (E : Ends) (W : XK), SI R X.K H0 S0 γ σ H → L2N.Takes X (fun c d _ H' => W c d H') →
    (∀ γ' σ' H', P.nx γ' → SI R X.K H0 S0 γ' σ' H' → E.nx σ' H') → ((∀ d v H', P.rt d → R H0 H' → Dt X.K (off S0 H') v d → E.rt v H') ∧ ∀ ds p vs H', P.rn ds → R H0 H' → H0 p = none → H' p = some (.lst vs) → DtAll X.K (off (fun a => a = p ∨ S0 a) H') vs ds → E.rt (.ref p) H') →
    (∀ γ' σ' H', P.bk γ' → SI R X.K H0 S0 γ' σ' H' → E.bk σ' H') → (∀ γ' σ' H', P.ct γ' → SI R X.K H0 S0 γ' σ' H' → E.ct σ' H') → (∀ c H', P.rz c → R H0 H' → W c none H') → ws X st E σ H
theorem passN {X : Cx} : Passes (L2N.CX X.prog X.w) X E0 := fun _ _ _ _ _ _ _ h => by
  obtain ⟨_, _, _, _, _, _, _, _, _, _, _, _, z⟩ := h
  exact z.elim
section
variable {R : Hp → Hp → Prop} [RelC R] {X : Cx} {γ : List Sl} {P : Po} {pos : Pos} {rest : List Stmt}
theorem dt_S0 {K : PySem.W.Frag} {S0 : Addr → Prop} {σ : L2.St} {H : Hp} {v : V} {d : D} (h : Dt K (off (Sx S0 γ σ) H) v d) : Dt K (off S0 H) v d := dp_keep (off_keep (Keep.refl H) fun _ z => .inl z) _ _ h
theorem ss_nil (h : P.nx γ) : SS R X γ [] P := fun H0 S0 σ H E W s tk n r b c z => wss_of pss_nil (n γ σ H h s)
/-- one statement, then the rest -/
theorem ss_cons {st : Stmt} (h : S1 R X γ st { P with nx := fun γ' => SS R X γ' rest P }) : SS R X γ (st :: rest) P := fun H0 S0 σ H E W s tk n r b c z =>
  wss_of (pss_cons ps_ws pss_wss) (h H0 S0 σ H { E with nx := fun σ' H' => wss X rest E σ' H' } W s tk (fun γ' σ' H' q s' => q H0 S0 σ' H' E W s' tk n r b c z) r b c z)
theorem ss_one {st : Stmt} (h : S1 R X γ st P) : SS R X γ [st] P := fun H0 S0 σ H E W s tk n r b c z => wss_of (pss_one ps_ws) (h H0 S0 σ H E W s tk n r b c z)
theorem ss_imp {st : List Stmt} {P' : Po} (h : SS R X γ st P') (h1 : ∀ g, P'.nx g → P.nx g) (h2 : ∀ d, P'.rt d → P.rt d) (h3 : ∀ g, P'.bk g → P.bk g) (h4 : ∀ g, P'.ct g → P.ct g) (h5 : ∀ c, P'.rz c → P.rz c) (h6 : ∀ ds, P'.rn ds → P.rn ds := by exact fun _ z => z) : SS R X γ st P := fun H0 S0 σ H E W s tk n r b c z =>
  h H0 S0 σ H E W s tk (fun g x y q => n g x y (h1 g q)) ⟨fun d v y q => r.1 d v y (h2 d q), fun ds p vs y q => r.2 ds p vs y (h6 ds q)⟩ (fun g x y q => b g x y (h3 g q)) (fun g x y q => c g x y (h4 g q)) fun d y q => z d y (h5 d q)
theorem s1_imp {st : Stmt} {P' : Po} (h : S1 R X γ st P') (h1 : ∀ g, P'.nx g → P.nx g) (h2 : ∀ d, P'.rt d → P.rt d := by exact fun _ z => z) (h3 : ∀ g, P'.bk g → P.bk g := by exact fun _ z => z) (h4 : ∀ g, P'.ct g → P.ct g := by exact fun _ z => z) (h5 : ∀ c, P'.rz c → P.rz c := by exact fun _ z => z) (h6 : ∀ ds, P'.rn ds → P.rn ds := by exact fun _ z => z) : S1 R X γ st P := fun H0 S0 σ H E W s tk n r b c z =>
  h H0 S0 σ H E W s tk (fun g x y q => n g x y (h1 g q)) ⟨fun d v y q => r.1 d v y (h2 d q), fun ds p vs y q => r.2 ds p vs y (h6 ds q)⟩ (fun g x y q => b g x y (h3 g q)) (fun g x y q => c g x y (h4 g q)) fun d y q => z d y (h5 d q)
/-- a statement, by itself, that leads to the slots γ' -/
theorem ss_mid {st : Stmt} (γ' : List Sl) (h : S1 R X γ st { P with nx := fun g => g = γ' }) (k : SS R X γ' rest P) : SS R X γ (st :: rest) P := ss_cons (s1_imp h fun g e => by
  have e : g = γ' := e
  rw [e]
  exact k)
/-- a statement, by itself, that leads to slots of which T holds -/
theorem ss_midT {st : Stmt} (T : List Sl → Prop) (h : S1 R X γ st { P with nx := T }) (k : ∀ g, T g → SS R X g rest P) : SS R X γ (st :: rest) P := ss_cons (s1_imp h fun g e => k g e)
/-- a statement that leaves the slots -/
theorem ss_keep {st : Stmt} (h : S1 R X γ st { P with nx := fun g => g = γ }) (k : SS R X γ rest P) : SS R X γ (st :: rest) P := ss_mid γ h k
/-- other slots that say the same -/
theorem ss_eq {st : List Stmt} {γ' : List Sl} (e : γ = γ') (h : SS R X γ' st P) : SS R X γ st P := by
  rw [e]
  exact h
/-- a list of one's own is data from here on -/
theorem ss_freeze {st : List Stmt} (i : Nat) {ds : List D} (h : SS R X (γ.set i (.dat (.list ds))) st P) (hi : γ[i]? = some (.own ds) := by rfl) : SS R X γ st P := fun H0 S0 σ H E W s tk n r b c z => h H0 S0 σ H E W (s.freeze hi) tk n r b c z
theorem s1_pass (h : P.nx γ) : S1 R X γ (.Pass pos) P := fun H0 S0 σ H E W s tk n r b c z => ws_of ps_pass (n γ σ H h s)
theorem s1_ret {e : Expr} {d : D} (he : EE R X γ e d) (h : P.rt d) : S1 R X γ (.Return (some e) pos) P := fun H0 S0 σ H E W s tk n r b c z =>
  ws_of (ps_ret pe_we) (he H0 S0 σ H _ s fun v H1 r1 d1 => r.1 d v H1 h (Rel.trans s.rel r1) (dt_S0 d1))
/-- a new list goes back -/
theorem s1_retF {e : Expr} {ds : List D} (he : EF R X γ e ds) (h : P.rn ds) : S1 R X γ (.Return (some e) pos) P := fun H0 S0 σ H E W s tk n r b c z =>
  ws_of (ps_ret pe_we) (he H0 S0 σ H _ s fun p vs H1 n1 r1 e1 d1 => r.2 ds p vs H1 h (Rel.trans s.rel r1) (Rel.free s.rel n1) e1 (dps_keep (off_keep (Keep.refl H1) fun a z => z.imp id .inl) _ _ d1))
/-- a list of one's own goes back -/
theorem s1_retO (i : Nat) {x : Str} {ds : List D} {p : Pos} (h : P.rn ds) (hi : γ[i]? = some (.own ds) := by rfl) (hN : X.N[i]? = some x := by rfl)
    (hv : Vis X.env.scope x := by first | exact Or.inl rfl | exact Or.inr (Or.inl rfl) | exact Or.inr (Or.inr rfl)) (hd : (x == ("__debug__" : Str)) = false := by decide) (hcd : (x == ("__classdict__" : Str)) = false := by decide) :
    S1 R X γ (.Return (some (.Name x p)) pos) P := fun H0 S0 σ H E W s tk n r b c z => by
  obtain ⟨l, vs, h1, h2, h3, h4⟩ := s.own i ds hi
  refine ws_of (ps_ret (pe_var hN hv hd hcd)) ⟨_, h1, r.2 ds l vs H h s.rel h2 h3 (dps_keep (off_keep (Keep.refl H) fun a z => ?_) _ _ h4)⟩
  rcases z with z | z
  · rw [z]
    exact .inr ⟨i, _, _, hi, h1, rfl⟩
  · exact .inl z
theorem s1_retN (h : P.rt .none) : S1 R X γ (.Return none pos) P := fun H0 S0 σ H E W s tk n r b c z =>
  ws_of ps_retN (r.1 .none .non H h s.rel .non)
theorem s1_expr {e : Expr} {d : D} (he : EE R X γ e d) (h : P.nx γ) (hs : swapsWith e none pos.line X.env = pure false := by rfl) : S1 R X γ (.Expr e pos) P := fun H0 S0 σ H E W s tk n r b c z =>
  ws_of (ps_expr pe_we hs) (he H0 S0 σ H _ s fun v H1 r1 d1 => n γ σ H1 h (s.mono r1))
theorem s1_set (i : Nat) {x : Str} {e : Expr} {d : D} {p : Pos} (he : EE R X γ e d) (h : P.nx (γ.set i (.dat d))) (hN : X.N.Nodup) (hi : X.N[i]? = some x := by rfl) (hx : Loc X.env.scope x := by first | exact Or.inl rfl | exact Or.inr rfl)
    (hs : swapsWith e (some (.Name x p)) pos.line X.env = pure false := by rfl) (hf : X.fn x = true ∨ X.env.scope.names.lookup x = some .local := by first | exact .inl rfl | exact .inr rfl | assumption) : S1 R X γ (.Assign [.Name x p] e pos) P := fun H0 S0 σ H E W s tk n r b c z =>
  ws_of (ps_set hN hi hx pe_we hs hf) (he H0 S0 σ H _ s fun v H1 r1 d1 => n _ _ H1 h ((s.mono r1).putD i d1))
/-- a value that isn't told as data -/
theorem s1_setV (i : Nat) {x : Str} {e : Expr} {v : V} {p : Pos} (he : EV R X γ e v) (h : P.nx (γ.set i (.val v))) (hN : X.N.Nodup) (hi : X.N[i]? = some x := by rfl) (hx : Loc X.env.scope x := by first | exact Or.inl rfl | exact Or.inr rfl)
    (hs : swapsWith e (some (.Name x p)) pos.line X.env = pure false := by rfl) (hf : X.fn x = true ∨ X.env.scope.names.lookup x = some .local := by first | exact .inl rfl | exact .inr rfl | assumption) : S1 R X γ (.Assign [.Name x p] e pos) P := fun H0 S0 σ H E W s tk n r b c z =>
  ws_of (ps_set hN hi hx pe_we hs hf) (he H0 S0 σ H _ s fun H1 r1 => n _ _ H1 h ((s.mono r1).putV i))
/-- x = a new list, which this body may change -/
theorem s1_setO (i : Nat) {x : Str} {e : Expr} {ds : List D} {p : Pos} (he : EF R X γ e ds) (h : P.nx (γ.set i (.own ds))) (hN : X.N.Nodup) (ho : ∀ es, γ[i]? ≠ some (.own es)) (hi : X.N[i]? = some x := by rfl) (hx : Loc X.env.scope x := by first | exact Or.inl rfl | exact Or.inr rfl)
    (hs : swapsWith e (some (.Name x p)) pos.line X.env = pure false := by rfl) (hf : X.fn x = true ∨ X.env.scope.names.lookup x = some .local := by first | exact .inl rfl | exact .inr rfl | assumption) : S1 R X γ (.Assign [.Name x p] e pos) P := fun H0 S0 σ H E W s tk n r b c z =>
  ws_of (ps_set hN hi hx pe_we hs hf) (he H0 S0 σ H _ s fun l vs H1 n1 r1 h1 d1 => n _ _ H1 h (s.putO i r1 n1 h1 d1))
theorem el_is {e : Expr} {ds ds' : List D} (h : EL R X γ e ds) (q : ds = ds') : EL R X γ e ds' := by
  rw [← q]
  exact h
/-- x = [.. for ..], where the swap is decided -/
theorem s1_setLc (i : Nat) {x : Str} {e : Expr} {ds : List D} {p : Pos} (he : EL R X γ e ds) (h : P.nx (γ.set i (.dat (.list ds)))) (hi : X.N[i]? = some x := by rfl) (hx : X.env.scope.names.lookup x = some .local := by rfl)
    (hs : swapsWith e (some (.Name x p)) pos.line X.env = pure true := by rfl) : S1 R X γ (.Assign [.Name x p] e pos) P := fun H0 S0 σ H E W s tk n r b c z => by
  obtain ⟨t, ⟨_, h1⟩, h2⟩ := he
  refine ws_of (h1 i x p pos hi hx hs) (h2 H0 S0 σ H _ s fun l vs H1 n1 r1 h3 d1 => n _ _ H1 h ((s.mono r1).putD i (.lst (.inl (off_of (fun z => ?_) h3)) (dps_keep (off_keep (Keep.refl H1) fun a z => .inr z) _ _ d1))))
  exact s.there z n1
theorem s1_setLcO (i : Nat) {x : Str} {e : Expr} {ds : List D} {p : Pos} (he : EL R X γ e ds) (h : P.nx (γ.set i (.own ds))) (ho : ∀ es, γ[i]? ≠ some (.own es)) (hi : X.N[i]? = some x := by rfl) (hx : X.env.scope.names.lookup x = some .local := by rfl)
    (hs : swapsWith e (some (.Name x p)) pos.line X.env = pure true := by rfl) : S1 R X γ (.Assign [.Name x p] e pos) P := fun H0 S0 σ H E W s tk n r b c z => by
  obtain ⟨t, ⟨_, h1⟩, h2⟩ := he
  exact ws_of (h1 i x p pos hi hx hs) (h2 H0 S0 σ H _ s fun l vs H1 n1 r1 h3 d1 => n _ _ H1 h (s.putO i r1 n1 h3 d1))
/-- a, b = x, y: two local names -/
theorem s1_par (i j : Nat) {x y : Str} {a b : Expr} {d1 d2 : D} {px py pt pt2 : Pos} {kt k2 : Nat} (ha : EE R X γ a d1) (hb : EE R X γ b d2) (h : P.nx ((γ.set i (.dat d1)).set j (.dat d2))) (hc : X.calm = true) (hN : X.N.Nodup) (hij : i ≠ j := by decide) (hi : X.N[i]? = some x := by rfl) (hj : X.N[j]? = some y := by rfl)
    (hx : X.env.scope.names.lookup x = some .local := by rfl) (hy : X.env.scope.names.lookup y = some .local := by rfl)
    (hw : swappedStores [.Tuple [.Name x px, .Name y py] kt pt] (.Tuple [a, b] k2 pt2) X.env = pure (some [x, y]) := by rfl)
    (hs : swapsWithSole [.Tuple [.Name x px, .Name y py] kt pt] (.Tuple [a, b] k2 pt2) pos.line X.env = pure false := by rfl)
    (hst : starEach [a, b] X.env = (false, eval a X.env) :: starEach [b] X.env := by rfl) (hst2 : starEach [b] X.env = [(false, eval b X.env)] := by rfl) :
    S1 R X γ (.Assign [.Tuple [.Name x px, .Name y py] kt pt] (.Tuple [a, b] k2 pt2) pos) P := fun H0 S0 σ H E W s tk n r bk c z =>
  ws_of (ps_par hc hN hi hj hij hx hy pa_wa hw hs) ((ea_cons ha (ea_cons hb ea_nil hst2) hst) H0 S0 σ H _ s fun vs H1 r1 dd => by
    cases dd with
    | cons e1 t =>
      cases t with
      | cons e2 t =>
        cases t
        exact ⟨_, _, rfl, n _ _ H1 h ((s.mono r1).putDD i j e1 e2)⟩)
/-- a, b = x, y: the first a new list, which this body may change -/
theorem s1_parO (i j : Nat) {x y : Str} {a b : Expr} {ds : List D} {d2 : D} {px py pt pt2 : Pos} {kt k2 : Nat} (ha : EF R X γ a ds) (hb : EE R X γ b d2) (h : P.nx ((γ.set i (.own (.l ds))).set j (.dat d2))) (hc : X.calm = true) (hN : X.N.Nodup) (hij : i ≠ j := by decide) (hi : X.N[i]? = some x := by rfl) (hj : X.N[j]? = some y := by rfl)
    (hx : X.env.scope.names.lookup x = some .local := by rfl) (hy : X.env.scope.names.lookup y = some .local := by rfl)
    (hw : swappedStores [.Tuple [.Name x px, .Name y py] kt pt] (.Tuple [a, b] k2 pt2) X.env = pure (some [x, y]) := by rfl)
    (hs : swapsWithSole [.Tuple [.Name x px, .Name y py] kt pt] (.Tuple [a, b] k2 pt2) pos.line X.env = pure false := by rfl)
    (hst : starEach [a, b] X.env = (false, eval a X.env) :: starEach [b] X.env := by rfl) (hst2 : starEach [b] X.env = [(false, eval b X.env)] := by rfl) :
    S1 R X γ (.Assign [.Tuple [.Name x px, .Name y py] kt pt] (.Tuple [a, b] k2 pt2) pos) P := fun H0 S0 σ H E W s tk n r bk c z => by
  refine ws_of (ps_par hc hN hi hj hij hx hy pa_wa hw hs) (wa_of (pa_cons pe_we pa_wa hst) (ha H0 S0 σ H _ s fun p vs H1 n1 r1 h1 d1 => ?_))
  have sa := s.putO i r1 n1 h1 d1
  refine (ea_cons hb ea_nil hst2) _ _ σ H1 _ (s.avoid r1 n1 (by rw [h1]; exact fun q => nomatch q)) fun us H2 r2 d2' => ?_
  cases d2' with
  | cons e2 t =>
    cases t
    refine ⟨_, _, rfl, n _ _ H2 h ((sa.mono r2).putD j (dp_keep (off_keep (Keep.refl H2) fun a zz => ?_) _ _ e2))⟩
    rcases zz with zz | ⟨k, zz⟩
    · exact .inl (.inr zz)
    · rcases fp_set zz with ⟨_, f⟩ | ⟨_, f⟩
      · have e : some (V.ref p) = some (V.ref a) := f
        injection e with e
        injection e with e
        exact .inl (.inl e.symm)
      · exact .inr ⟨k, f⟩
/-- target = e, any target -/
theorem s1_asgG {tg e : Expr} {d : D} {γ' : List Sl} (he : EE R X γ e d) (hg : EG R X γ tg d γ') (h : P.nx γ') (hs : swapsWithSole [tg] e pos.line X.env = pure false := by rfl) (hw : swappedStores [tg] e X.env = pure none := by rfl)
    (h1 : (assignEach [tg] X.env).map (·.2) = [assign tg X.env] := by rfl) : S1 R X γ (.Assign [tg] e pos) P := fun H0 S0 σ H E W s tk n r bk ct z =>
  ws_of (ps_asg pe_we pg_wg hs hw h1) (he H0 S0 σ H _ s fun v H1 r1 d1 => hg H0 S0 σ H1 v _ (s.mono r1) d1 fun σ' s' => n γ' σ' H1 h s')
theorem s1_if {c : Expr} {a b : List Stmt} {k : Bool} (hc : ET R X γ c k) (h1 : k = true → SS R X γ a P) (h2 : k = false → SS R X γ b P) : S1 R X γ (.If c a b pos) P := fun H0 S0 σ H E W s tk n r bk ct z =>
  ws_of (ps_if pt_wt pss_wss pss_wss) (hc H0 S0 σ H _ s fun H1 r1 => by
    cases k with
    | true => exact iteT (h1 rfl H0 S0 σ H1 E W (s.mono r1) tk n r bk ct z)
    | false => exact iteF (h2 rfl H0 S0 σ H1 E W (s.mono r1) tk n r bk ct z))
theorem s1_while {c : Expr} {body : List Stmt} (Iv : Nat → List Sl → Prop) (m0 : Nat) (h0 : Iv m0 γ)
    (hs : ∀ m γ', Iv m γ' → ∃ k, ET R X γ' c k ∧ (k = true → SS R X γ' body { P with nx := fun g => ∃ m', m' < m ∧ Iv m' g, ct := fun g => ∃ m', m' < m ∧ Iv m' g, bk := P.nx }) ∧ (k = false → P.nx γ'))
    (hp : PassesOwn (model X.prog X.w) X.A X.env X.xe) : S1 R X γ (.While c body [] pos) P := fun H0 S0 σ H E W s tk n r bk ct z =>
  ws_of (ps_while hp pt_wt pss_wss) ⟨fun m σ' H' => ∃ γ', Iv m γ' ∧ SI R X.K H0 S0 γ' σ' H', ⟨m0, γ, h0, s⟩, fun m σ' H' ⟨γ', hv, s'⟩ => by
    obtain ⟨k, e1, e2, e3⟩ := hs m γ' hv
    refine e1 H0 S0 σ' H' _ s' fun H1 r1 => ?_
    cases k with
    | true =>
      refine iteT ⟨fun σ2 H2 => ∃ γ2 m', m' < m ∧ Iv m' γ2 ∧ SI R X.K H0 S0 γ2 σ2 H2, fun σ2 H2 ⟨γ2, m', hm, h2, s2⟩ => ⟨m', hm, γ2, h2, s2⟩, ?_⟩
      exact e2 rfl H0 S0 σ' H1 _ W (s'.mono r1) tk (fun γ2 σ2 H2 ⟨m', hm, q⟩ s2 => ⟨γ2, m', hm, q, s2⟩) r (fun γ2 σ2 H2 q s2 => n γ2 σ2 H2 q s2) (fun γ2 σ2 H2 ⟨m', hm, q⟩ s2 => ⟨γ2, m', hm, q, s2⟩) z
    | false => exact iteF (n γ' σ' H1 (e3 rfl) (s'.mono r1))⟩
/-- for tg in iter: Iv by the turn -/
theorem s1_for {tg iter : Expr} {body : List Stmt} {ds : List D} (Iv : Nat → List Sl → Prop) (hi : EI R X γ tg iter ds) (h0 : Iv 0 γ)
    (hs : ∀ i d γ', ds[i]? = some d → Iv i γ' → ∃ γ'', EG R X γ' tg d γ'' ∧ SS R X γ'' body { P with nx := Iv (i + 1), ct := Iv (i + 1), bk := P.nx }) (hd : ∀ γ', Iv ds.length γ' → P.nx γ')
    (hp : PassesOwn (model X.prog X.w) X.A X.env X.xe) (hc : X.calm = true) (hf : ∀ x, foldedSetIterable iter X.env x = pure x := by intro _; rfl) : S1 R X γ (.For tg iter body [] pos) P := fun H0 S0 σ H E W s tk n r bk ct z => by
  obtain ⟨wi, hpi, hwi⟩ := hi
  refine ws_of (ps_for hp hc hpi pg_wg pss_wss hf) (hwi H0 S0 σ H _ s fun J H1 r1 itd => ?_)
  have s1 := s.mono r1
  have sb := s1.rebase
  have hcut := s1.cutR
  refine ⟨fun i m σ' H' => m = ds.length - i ∧ i ≤ ds.length ∧ ∃ γ', Iv i γ' ∧ SI R X.K (cutO γ σ H1) S0 γ' σ' H', ⟨ds.length, by simp, Nat.zero_le _, γ, h0, sb⟩, ?_⟩
  rintro i m σ' H' ⟨rfl, hle, γ', hv, s'⟩
  have kp := s1.kept s'
  by_cases hlt : i < ds.length
  · have hdi : ds[i]? = some ds[i] := List.getElem?_eq_getElem hlt
    obtain ⟨γ'', hg, hb⟩ := hs i ds[i] γ' hdi hv
    refine .inr ⟨itd.go i H' _ kp hlt, fun σ2 H2 => ∃ γ2, Iv (i + 1) γ2 ∧ SI R X.K (cutO γ σ H1) S0 γ2 σ2 H2, fun σ2 H2 ⟨γ2, h2, s2⟩ => ⟨ds.length - (i + 1), by omega, rfl, hlt, γ2, h2, s2⟩, fun x H2 hy => ?_⟩
    obtain ⟨sm, dx⟩ := itd.yld i H' _ x H2 ds[i] kp (fun a q => s'.there q) hy hdi
    refine hg _ S0 σ' H2 x _ (s'.mono (Rel.more s'.ref sm)) dx fun σ2 s2 => ?_
    exact hb _ S0 σ2 H2 _ W s2 tk (fun γ2 σ3 H3 q s3 => ⟨γ2, q, s3⟩) ⟨fun d v H3 q r3 d3 => r.1 d v H3 q (Rel.trans hcut r3) d3, fun ds p vs H3 q r3 n3 e3 d3 => r.2 ds p vs H3 q (Rel.trans hcut r3) (Rel.free hcut n3) e3 d3⟩ (fun γ2 σ3 H3 q s3 => n γ2 σ3 H3 q (s1.back s3 hcut)) (fun γ2 σ3 H3 q s3 => ⟨γ2, q, s3⟩) fun c H3 q r3 => z c H3 q (Rel.trans hcut r3)
  · have e : i = ds.length := by omega
    subst e
    exact .inl ⟨itd.stop _ H' _ kp (Nat.le_refl _), n γ' σ' H' (hd γ' hv) (s1.back s' hcut)⟩
/-! ### lists of one's own, changed -/
theorem s1_append (i : Nat) {x : Str} {e : Expr} {ds : List D} {d : D} {p apos cpos : Pos} (he : EE R X γ e d) (h : P.nx (γ.set i (.own (ds ++ [d])))) (hl : ds.length < 1000) (hi : γ[i]? = some (.own ds) := by rfl) (hN : X.N[i]? = some x := by rfl)
    (hv : Vis X.env.scope x := by first | exact Or.inl rfl | exact Or.inr (Or.inl rfl) | exact Or.inr (Or.inr rfl)) (hd : (x == ("__debug__" : Str)) = false := by decide) (hcd : (x == ("__classdict__" : Str)) = false := by decide)
    (hbase : attributeBase (.Name x p) "append" X.env (eval (.Name x p) X.env) = eval (.Name x p) X.env := by rfl)
    (hfew : ((backTo cpos (starEach [e] X.env)).all (fun x => !x.1) && (backToKw cpos (keywordEach [] X.env)).all (fun x => x.1.isSome) && decide (([e] : List Expr).length + ([] : List Keyword).length + (if ([] : List Keyword).isEmpty then 0 else 1) < 30)) = true := by rfl)
    (hline : (apos.endLine == cpos.line) = true := by rfl) (hst : starEach [e] X.env = (false, eval e X.env) :: starEach [] X.env := by rfl) (hplain : (backTo cpos (starEach [] X.env)).any (·.1) = false := by rfl)
    (hs : swapsWith (.Call (.Attribute (.Name x p) "append" apos) [e] [] cpos) none pos.line X.env = pure false := by rfl) : S1 R X γ (.Expr (.Call (.Attribute (.Name x p) "append" apos) [e] [] cpos) pos) P := fun H0 S0 σ H E W s tk n r bk ct z => by
  obtain ⟨l, vs, h1, _, h3, _⟩ := s.own i ds hi
  refine ws_of (ps_expr (pe_bm PySem.F.plainAttrs_list PySem.F.slot_list_append PySem.F.type_list_append mt_append (pe_var hN hv hd hcd) pa_wa hbase hfew hline hst hplain) hs) ⟨_, h1, .inl ⟨rfl, _, SqL.of h3⟩, (ea_cons he ea_nil hst) H0 S0 σ H _ s fun ws H1 r1 d1 => ?_⟩
  cases d1 with
  | cons d1 t =>
    cases t
    have s1 := s.mono r1
    obtain ⟨l', vs', a1, a2, a3, a4⟩ := s1.own i ds hi
    rw [h1] at a1
    cases a1
    refine ⟨l, vs', _, rfl, rfl, a3, Nat.lt_trans (by rw [dps_len a4]; exact hl) (by decide), ?_⟩
    exact n _ _ _ h (s1.mutO hi h1 (dps_app a4 (dps_one d1)))
theorem s1_extend (i : Nat) {x : Str} {e : Expr} {ds es : List D} {p apos cpos : Pos} (he : EF R X γ e es) (h : P.nx (γ.set i (.own (ds ++ es)))) (hl : ds.length + es.length ≤ 1000) (hi : γ[i]? = some (.own ds) := by rfl) (hN : X.N[i]? = some x := by rfl)
    (hv : Vis X.env.scope x := by first | exact Or.inl rfl | exact Or.inr (Or.inl rfl) | exact Or.inr (Or.inr rfl)) (hd : (x == ("__debug__" : Str)) = false := by decide) (hcd : (x == ("__classdict__" : Str)) = false := by decide)
    (hbase : attributeBase (.Name x p) "extend" X.env (eval (.Name x p) X.env) = eval (.Name x p) X.env := by rfl)
    (hfew : ((backTo cpos (starEach [e] X.env)).all (fun x => !x.1) && (backToKw cpos (keywordEach [] X.env)).all (fun x => x.1.isSome) && decide (([e] : List Expr).length + ([] : List Keyword).length + (if ([] : List Keyword).isEmpty then 0 else 1) < 30)) = true := by rfl)
    (hline : (apos.endLine == cpos.line) = true := by rfl) (hst : starEach [e] X.env = (false, eval e X.env) :: starEach [] X.env := by rfl) (hplain : (backTo cpos (starEach [] X.env)).any (·.1) = false := by rfl)
    (hs : swapsWith (.Call (.Attribute (.Name x p) "extend" apos) [e] [] cpos) none pos.line X.env = pure false := by rfl) : S1 R X γ (.Expr (.Call (.Attribute (.Name x p) "extend" apos) [e] [] cpos) pos) P := fun H0 S0 σ H E W s tk n r bk ct z => by
  obtain ⟨l, vs, h1, _, h3, _⟩ := s.own i ds hi
  refine ws_of (ps_expr (pe_bm PySem.F.plainAttrs_list PySem.F.slot_list_extend PySem.F.type_list_extend mt_extend (pe_var hN hv hd hcd) pa_wa hbase hfew hline hst hplain) hs) ⟨_, h1, .inl ⟨rfl, _, SqL.of h3⟩, wa_of (pa_cons pe_we pa_wa hst) (he H0 S0 σ H _ s fun p2 ws H1 n1 r1 g1 d1 => wa_of pa_nil ?_)⟩
  have d2 : DtAll X.K (off (Sx S0 γ σ) H1) ws es := dps_keep (off_keep (Keep.refl H1) fun a z => .inr z) _ _ d1
  have s1 := s.mono r1
  obtain ⟨l', vs', a1, a2, a3, a4⟩ := s1.own i ds hi
  rw [h1] at a1
  cases a1
  refine ⟨l, _, vs', _, rfl, rfl, a3, g1, Nat.le_of_lt (small1000 (by rw [dps_len a4, dps_len d2]; exact hl)), ?_⟩
  exact n _ _ _ h (s1.mutO hi h1 (dps_app a4 d2))
theorem s1_pop (i : Nat) {x : Str} {ds : List D} {p apos cpos : Pos} (hne : ds ≠ []) (h : P.nx (γ.set i (.own ds.dropLast))) (hi : γ[i]? = some (.own ds) := by rfl) (hN : X.N[i]? = some x := by rfl)
    (hv : Vis X.env.scope x := by first | exact Or.inl rfl | exact Or.inr (Or.inl rfl) | exact Or.inr (Or.inr rfl)) (hd : (x == ("__debug__" : Str)) = false := by decide) (hcd : (x == ("__classdict__" : Str)) = false := by decide)
    (hbase : attributeBase (.Name x p) "pop" X.env (eval (.Name x p) X.env) = eval (.Name x p) X.env := by rfl) (hline : (apos.endLine == cpos.line) = true := by rfl)
    (hs : swapsWith (.Call (.Attribute (.Name x p) "pop" apos) [] [] cpos) none pos.line X.env = pure false := by rfl) : S1 R X γ (.Expr (.Call (.Attribute (.Name x p) "pop" apos) [] [] cpos) pos) P := fun H0 S0 σ H E W s tk n r bk ct z => by
  obtain ⟨l, vs, h1, _, h3, h4⟩ := s.own i ds hi
  have hlen := dps_len h4
  have hpos : 0 < vs.length := by
    rw [hlen]
    exact List.length_pos_iff.mpr hne
  have hlast : vs[vs.length - 1]? = some vs[vs.length - 1] := List.getElem?_eq_getElem (by omega)
  have hdl : DtAll X.K (off (Sx S0 γ σ) H) vs.dropLast ds.dropLast := by
    rw [List.dropLast_eq_take, List.dropLast_eq_take, hlen]
    exact dps_take _ h4
  exact ws_of (ps_expr (pe_bm0 PySem.F.plainAttrs_list PySem.F.slot_list_pop PySem.F.type_list_pop mt_pop (pe_var hN hv hd hcd) hbase hline) hs) ⟨_, h1, .inl ⟨rfl, _, SqL.of h3⟩, l, vs, _, rfl, rfl, h3, hlast, n _ _ _ h (s.mutO hi h1 hdl)⟩
/-- x[j] = e -/
theorem s1_setIx (i : Nat) {x : Str} {e ix : Expr} {ds : List D} {d : D} {k : Int} {j : Nat} {p p2 : Pos} (he : EE R X γ e d) (hx : EE R X γ ix (.int k)) (hj : ixN ds.length k = some j) (h : P.nx (γ.set i (.own (ds.set j d)))) (hi : γ[i]? = some (.own ds) := by rfl) (hN : X.N[i]? = some x := by rfl)
    (hv : Vis X.env.scope x := by first | exact Or.inl rfl | exact Or.inr (Or.inl rfl) | exact Or.inr (Or.inr rfl)) (hd : (x == ("__debug__" : Str)) = false := by decide) (hcd : (x == ("__classdict__" : Str)) = false := by decide)
    (ha : ∀ v, assign (.Subscript (.Name x p) ix p2) X.env v = (do
      let ov ← holding [v] (eval (.Name x p) X.env)
      let iv ← holding [v, ov] (eval ix X.env)
      standAt p2
      holding [v, ov, iv] (setItem ov iv v)
      release [v, ov, iv] []) := by intro _; rfl)
    (hs : swapsWithSole [.Subscript (.Name x p) ix p2] e pos.line X.env = pure false := by rfl) (hw : swappedStores [.Subscript (.Name x p) ix p2] e X.env = pure none := by rfl)
    (h1 : (assignEach [.Subscript (.Name x p) ix p2] X.env).map (·.2) = [assign (.Subscript (.Name x p) ix p2) X.env] := by rfl) : S1 R X γ (.Assign [.Subscript (.Name x p) ix p2] e pos) P := fun H0 S0 σ H E W s tk n r bk ct z =>
  ws_of (ps_asg pe_we (pg_sub (pe_var hN hv hd hcd) pe_we set_list ha) hs hw h1) (he H0 S0 σ H _ s fun v H1 r1 d1 => by
    have s1 := s.mono r1
    obtain ⟨l, vs, e1, _, _, _⟩ := s1.own i ds hi
    refine ⟨_, e1, hx H0 S0 σ H1 _ s1 fun u H2 r2 d2 => ?_⟩
    cases d2
    have s2 := s1.mono r2
    obtain ⟨l', vs', a1, _, a3, a4⟩ := s2.own i ds hi
    rw [e1] at a1
    cases a1
    exact ⟨l, vs', k, j, rfl, rfl, a3, by rw [dps_len a4]; exact hj, n _ _ _ h (s2.mutO hi e1 (dps_set j a4 (dt_up r2 d1)))⟩)
/-! ### defs -/
/-- a def by data: what comes (Val), or the class that is raised (Exc) -/
def spD (K : PySem.W.Frag) (n : Nat) (Val : List D → D → Prop) (Exc : List D → Value → Prop) : Sp := fun vs H Q E => vs.length = n ∧ ∃ (S : Addr → Prop) (ds : List D), (∀ a, S a → H a ≠ none) ∧ DtAll K (off S H) vs ds ∧
  ((∃ d, Val ds d ∧ ∀ v H2, Same H H2 → Dt K (off S H2) v d → Q v H2) ∨ (∃ c, Exc ds c ∧ ∀ H2, Same H H2 → E c none H2))
/-- a def of the text that keeps such a promise -/
structure Fn (P : Program) (w : World) (K : PySem.W.Frag) (mg : Str → Option Value) (base : Heap) (x : Str) (k n : Nat) (Val : List D → D → Prop) (Exc : List D → Value → Prop) : Prop where
  ok : ∃ (f : Addr) (fd : FuncData) (ps : List Str), FnOk P w K mg base (L2N.CX P w) k f fd ps (spD K n Val Exc) ∧ mg x = some (.ref f) ∧ PySem.W.keepIn K (.ref f) = true ∧ Binds K fd ps []
theorem Fn.mono {Pr : Program} {w : World} {K : PySem.W.Frag} {mg : Str → Option Value} {base : Heap} {x : Str} {k k' n : Nat} {Val : List D → D → Prop} {Exc : List D → Value → Prop} (F : Fn Pr w K mg base x k n Val Exc) (h : k ≤ k') : Fn Pr w K mg base x k' n Val Exc := by
  obtain ⟨f, fd, ps, h1, h2, h3, h4⟩ := F.ok
  exact ⟨f, fd, ps, h1.mono h, h2, h3, h4⟩
theorem sx_dom {K : PySem.W.Frag} {H0 H : Hp} {S0 : Addr → Prop} {σ : L2.St} (s : SI R K H0 S0 γ σ H) : ∀ a, Sx S0 γ σ a → H a ≠ none := fun a h => s.there h
/-- f(..), nothing raised -/
theorem ee_call {x : Str} {k n : Nat} {Val : List D → D → Prop} {Exc : List D → Value → Prop} {e : Expr} {es : List Expr} {p : Pos} {ds : List D} {d : D} (F : Fn X.prog X.w X.K X.mg X.base x k n Val Exc) (hr : Room k X.A) (ha : EA R X γ (e :: es) ds) (hv : Val ds d) (hn : ds.length = n := by rfl) (hg : Gl X x := by rfl)
    (hdb : (x == ("__debug__" : Str)) = false := by decide) (he : starEach (e :: es) X.env = (false, eval e X.env) :: starEach es X.env := by rfl) (hpl : (backTo pos (starEach es X.env)).any (·.1) = false := by rfl) :
    EE R X γ (.Call (.Name x p) (e :: es) [] pos) d := fun H0 S0 σ H Q s kk => by
  obtain ⟨f, fd, ps, h1, h2, h3, h4⟩ := F.ok
  refine we_of (pe_call h1 hr hg h2 h3 h4 .nil passN pa_wa hdb he hpl) (ha H0 S0 σ H _ s fun vs H1 r1 d1 => ?_)
  rw [List.append_nil]
  refine ⟨by rw [dps_len d1]; exact hn, Sx S0 γ σ, ds, sx_dom (s.mono r1), d1, .inl ⟨d, hv, fun v H2 sm dv => kk v H2 (Rel.more r1 sm) dv⟩⟩
/-- f(), nothing raised -/
theorem ee_call0 {x : Str} {k : Nat} {Val : List D → D → Prop} {Exc : List D → Value → Prop} {p : Pos} {d : D} (F : Fn X.prog X.w X.K X.mg X.base x k 0 Val Exc) (hr : Room k X.A) (hv : Val [] d) (hg : Gl X x := by rfl) (hdb : (x == ("__debug__" : Str)) = false := by decide) :
    EE R X γ (.Call (.Name x p) [] [] pos) d := fun H0 S0 σ H Q s kk => by
  obtain ⟨f, fd, ps, h1, h2, h3, h4⟩ := F.ok
  refine we_of (pe_call0 h1 hr hg h2 h3 h4 .nil passN hdb) ?_
  exact ⟨rfl, Sx S0 γ σ, [], sx_dom s, .nil, .inl ⟨d, hv, fun v H2 sm dv => kk v H2 (Rel.more s.ref sm) dv⟩⟩
/-- f(..) as a statement: the class that is raised -/
theorem s1_raises {x : Str} {k n : Nat} {Val : List D → D → Prop} {Exc : List D → Value → Prop} {e : Expr} {es : List Expr} {p cp : Pos} {ds : List D} {c : Value} (F : Fn X.prog X.w X.K X.mg X.base x k n Val Exc) (hr : Room k X.A) (ha : EA R X γ (e :: es) ds) (hv : Exc ds c) (h : P.rz c) (hn : ds.length = n := by rfl) (hg : Gl X x := by rfl)
    (hdb : (x == ("__debug__" : Str)) = false := by decide) (he : starEach (e :: es) X.env = (false, eval e X.env) :: starEach es X.env := by rfl) (hpl : (backTo cp (starEach es X.env)).any (·.1) = false := by rfl) (hs : swapsWith (.Call (.Name x p) (e :: es) [] cp) none pos.line X.env = pure false := by rfl) :
    S1 R X γ (.Expr (.Call (.Name x p) (e :: es) [] cp) pos) P := fun H0 S0 σ H E W s tk nn r bk ct z => by
  obtain ⟨f, fd, ps, h1, h2, h3, h4⟩ := F.ok
  refine ws_of (ps_expr (pe_call (E := W) h1 hr hg h2 h3 h4 .nil (L2N.passes_call tk fun _ _ _ _ h => h) pa_wa hdb he hpl) hs) (ha H0 S0 σ H _ s fun vs H1 r1 d1 => ?_)
  rw [List.append_nil]
  exact ⟨by rw [dps_len d1]; exact hn, Sx S0 γ σ, ds, sx_dom (s.mono r1), d1, .inr ⟨c, hv, fun H2 sm => z c H2 h (Rel.trans s.rel (Rel.more r1 sm))⟩⟩
/-- return f(..): the class that is raised -/
theorem s1_retRaises {x : Str} {k n : Nat} {Val : List D → D → Prop} {Exc : List D → Value → Prop} {e : Expr} {es : List Expr} {p cp : Pos} {ds : List D} {c : Value} (F : Fn X.prog X.w X.K X.mg X.base x k n Val Exc) (hr : Room k X.A) (ha : EA R X γ (e :: es) ds) (hv : Exc ds c) (h : P.rz c) (hn : ds.length = n := by rfl) (hg : Gl X x := by rfl)
    (hdb : (x == ("__debug__" : Str)) = false := by decide) (he : starEach (e :: es) X.env = (false, eval e X.env) :: starEach es X.env := by rfl) (hpl : (backTo cp (starEach es X.env)).any (·.1) = false := by rfl) :
    S1 R X γ (.Return (some (.Call (.Name x p) (e :: es) [] cp)) pos) P := fun H0 S0 σ H E W s tk nn r bk ct z => by
  obtain ⟨f, fd, ps, h1, h2, h3, h4⟩ := F.ok
  refine ws_of (ps_ret (pe_call (E := W) h1 hr hg h2 h3 h4 .nil (L2N.passes_call tk fun _ _ _ _ h => h) pa_wa hdb he hpl)) (ha H0 S0 σ H _ s fun vs H1 r1 d1 => ?_)
  rw [List.append_nil]
  exact ⟨by rw [dps_len d1]; exact hn, Sx S0 γ σ, ds, sx_dom (s.mono r1), d1, .inr ⟨c, hv, fun H2 sm => z c H2 h (Rel.trans s.rel (Rel.more r1 sm))⟩⟩
/-- what is written of an own class of errors -/
structure Err (K : PySem.W.Frag) (mg : Str → Option Value) (x : Str) (C : Addr) : Prop where
  g : mg x = some (.ref C)
  x : PySem.W.excIn K C He.veBase "ValueError.__new__" = true
  k : PySem.W.keepIn K (.ref C) = true
  b : PySem.W.subIn K (.ref C) (.type "BaseException") = some true
  t : PySem.W.typeIn K (.ref C) = some (.type "type")
theorem s1_raise {x m : Str} {C : Addr} {j : Nat} {p p2 cp : Pos} (T : Err X.K X.mg x C) (h : P.rz (.ref C)) (hc : X.calm = true) (hg : Gl X x := by rfl) (hdb : (x == ("__debug__" : Str)) = false := by decide) :
    S1 R X γ (.Raise (some (.Call (.Name x p) [.Constant (.str m) j p2] [] cp)) none pos) P := fun H0 S0 σ H E W s tk nn r bk ct z =>
  ws_of (L2N.ps_raise hc tk (L2N.pmk_own PySem.F.excBase_ValueError T.x T.g T.k (raises_own T.b T.t) hg hdb)) (z _ H h s.rel)
end
/-- the slots at a def's entry -/
theorem si_startR {R : Hp → Hp → Prop} [Rel R] {K : PySem.W.Frag} {H : Hp} {Sv : Addr → Prop} {N : List Str} {vs : List V} {ds : List D} {n : Nat} (hR : R H H) (hS : ∀ a, Sv a → H a ≠ none) (hd : DtAll K (off Sv H) vs ds) (hl : vs.length = n) (hdl : ds.length = n) : SI R K H Sv (ds.map .dat ++ List.replicate (N.length - n) .no) (L2.start N vs) H := by
  have flat : ∀ {i : Nat} {x : Sl}, (ds.map Sl.dat ++ List.replicate (N.length - n) .no)[i]? = some x → (∃ d, ds[i]? = some d ∧ x = .dat d) ∨ (ds.length ≤ i ∧ i < N.length - n + ds.length ∧ x = .no) := fun {i x} h => by
    rw [List.getElem?_append] at h
    split at h
    · rw [List.getElem?_map] at h
      cases q : ds[i]? with
      | none => rw [q] at h; cases h
      | some d =>
        rw [q] at h
        cases h
        exact .inl ⟨d, rfl, rfl⟩
    · rename_i hge
      rw [List.length_map] at hge
      rw [List.getElem?_replicate] at h
      split at h
      · rename_i hlt
        rw [List.length_map] at hlt
        cases h
        exact .inr ⟨by omega, by omega, rfl⟩
      · cases h
  have nofp : ∀ i a, ¬ Fp (ds.map Sl.dat ++ List.replicate (N.length - n) .no) (L2.start N vs) i a := fun i a ⟨x, v, h1, _, h3⟩ => by
    rcases flat h1 with ⟨d, _, rfl⟩ | ⟨_, _, rfl⟩
    · exact h3
    · exact h3
  have sno : ∀ a, Sx Sv (ds.map .dat ++ List.replicate (N.length - n) .no) (L2.start N vs) a → Sv a := fun a z => by
    rcases z with z | ⟨i, f⟩
    · exact z
    · exact absurd f (nofp i a)
  refine ⟨hR, hS, ?_, fun i x h => ?_, fun i a f => absurd f (nofp i a), fun i j a f _ => absurd f (nofp i a)⟩
  · unfold L2.start
    simp only [List.length_append, List.length_map, List.length_replicate, hl, hdl]
  · rcases flat h with ⟨d, q, rfl⟩ | ⟨h1, h2, rfl⟩
    · obtain ⟨v, e1, e2⟩ := dps_get hd q
      refine ⟨some v, ?_, v, rfl, dp_keep (off_keep (Keep.refl H) sno) _ _ e2⟩
      unfold L2.start
      rw [List.getElem?_append_left (by rw [List.length_map]; exact (List.getElem?_eq_some_iff.mp e1).1), List.getElem?_map, e1]
      rfl
    · refine ⟨none, ?_, trivial⟩
      unfold L2.start
      rw [List.getElem?_append_right (by rw [List.length_map]; omega), List.getElem?_replicate, if_pos (by rw [List.length_map]; omega)]
theorem si_start {K : PySem.W.Frag} {H : Hp} {Sv : Addr → Prop} {N : List Str} {vs : List V} {ds : List D} {n : Nat} (hS : ∀ a, Sv a → H a ≠ none) (hd : DtAll K (off Sv H) vs ds) (hl : vs.length = n) (hdl : ds.length = n) : SI Same K H Sv (ds.map .dat ++ List.replicate (N.length - n) .no) (L2.start N vs) H := si_startR (Same.refl H) hS hd hl hdl
/-- a def's body by data -/
theorem fn_mk {Pr : Program} {w : World} {K : PySem.W.Frag} {mg : Str → Option Value} {base : Heap} {x : Str} {st : Stmt} {f : Addr} {fd : FuncData} {N ps : List Str} {k n : Nat} {Val : List D → D → Prop} {Exc : List D → Value → Prop}
    (F : FunD K x x (defArgs st) (defBody st) (defScope st) [] [] f fd) (S : FnScope N ps (defScope st)) (hm : mg x = some (.ref f)) (hb : Binds K fd ps []) (hns : base.NoSeer) (htr : Pr.given.tree = none) (hk : 40 ≤ k) (hn : ps.length = n)
    (body : ∀ (cdv : Value) (A : Around) (outer : List Env) (s : Shared) (H : Hp) (E : XK) (X : Cx), X = cxOf (L2N.CX Pr w) Pr w K mg base N x (defScope st) f cdv A outer s H E → Gx X k → PassesOwn (model X.prog X.w) X.A X.env X.xe → ∀ ds : List D, ds.length = n →
      (∀ d, Val ds d → SS Same X (ds.map .dat ++ List.replicate (N.length - n) .no) (defBody st) { rt := fun e => e = d, nx := fun _ => d = .none }) ∧
      (∀ c, Exc ds c → SS Same X (ds.map .dat ++ List.replicate (N.length - n) .no) (defBody st) { rz := fun e => e = c })) : Fn Pr w K mg base x (k + 1) n Val Exc := by
  refine ⟨f, fd, ps, F.ok (CX := L2N.CX Pr w) S (fun vs H Q E h => by rw [h.1, hn]) (fun cdv A outer s H vs Q E hr h => ?_), hm, F.kp, hb⟩
  obtain ⟨hl, Sv, ds, hS, hd, hq⟩ := h
  let X : Cx := cxOf (L2N.CX Pr w) Pr w K mg base N x (defScope st) f cdv A outer s H E
  have hdl : ds.length = n := by rw [← dps_len hd, hl]
  have gx : Gx X k := ⟨hr, hk, hns, htr, ⟨_, _, rfl, S.gen, S.co, rfl, rfl⟩⟩
  have tk : L2N.Takes X (fun c d _ H' => E c d H') := L2N.takes_of rfl rfl rfl rfl
  have pss : PassesOwn (model X.prog X.w) X.A X.env X.xe := passes_of rfl
  obtain ⟨b1, b2⟩ := body cdv A outer s H E X rfl gx pss ds hdl
  have si : SI Same K H Sv (ds.map .dat ++ List.replicate (N.length - n) .no) (L2.start N vs) H := si_start hS hd hl hdl
  refine ⟨wss X (defBody st), pss_wss, ?_⟩
  rcases hq with ⟨d, hv, hk⟩ | ⟨c, hv, hk⟩
  · exact b1 d hv H Sv _ H _ E si tk (fun γ' σ' H' e s' => hk .non H' s'.rel (by rw [show d = .none from e]; exact .non)) ⟨fun e v H' he r' dv => hk v H' r' (by rw [← show e = d from he]; exact dv), fun _ _ _ _ h => h.elim⟩ (fun _ _ _ h _ => h.elim) (fun _ _ _ h _ => h.elim) fun c H' h _ => h.elim
  · exact b2 c hv H Sv _ H _ E si tk (fun γ' σ' H' e s' => e.elim) ⟨fun e v H' he r' dv => he.elim, fun _ _ _ _ h => h.elim⟩ (fun _ _ _ h _ => h.elim) (fun _ _ _ h _ => h.elim) fun e H' h r' => by
      rw [show e = c from h]
      exact hk H' r'
/-! ### defs that bring a new list -/
def spN (K : PySem.W.Frag) (n : Nat) (Val : List D → D → Prop) (Exc : List D → Value → Prop) : Sp := fun vs H Q E => vs.length = n ∧ ∃ (S : Addr → Prop) (ds : List D), (∀ a, S a → H a ≠ none) ∧ DtAll K (off S H) vs ds ∧
  ((∃ es, Val ds (.list es) ∧ ∀ p ws H2, Same H H2 → H p = none → H2 p = some (.lst ws) → DtAll K (off (fun a => a = p ∨ S a) H2) ws es → Q (.ref p) H2) ∨ (∃ c, Exc ds c ∧ ∀ H2, Same H H2 → E c none H2))
structure FnN (P : Program) (w : World) (K : PySem.W.Frag) (mg : Str → Option Value) (base : Heap) (x : Str) (k n : Nat) (Val : List D → D → Prop) (Exc : List D → Value → Prop) : Prop where
  ok : ∃ (f : Addr) (fd : FuncData) (ps : List Str), FnOk P w K mg base (L2N.CX P w) k f fd ps (spN K n Val Exc) ∧ mg x = some (.ref f) ∧ PySem.W.keepIn K (.ref f) = true ∧ Binds K fd ps []
  lst : ∀ ds d, Val ds d → ∃ es, d = .list es
theorem FnN.fn {Pr : Program} {w : World} {K : PySem.W.Frag} {mg : Str → Option Value} {base : Heap} {x : Str} {k n : Nat} {Val : List D → D → Prop} {Exc : List D → Value → Prop} (F : FnN Pr w K mg base x k n Val Exc) : Fn Pr w K mg base x k n Val Exc := by
  obtain ⟨f, fd, ps, h1, h2, h3, h4⟩ := F.ok
  refine ⟨f, fd, ps, h1.imp fun vs H Q E h => ?_, h2, h3, h4⟩
  obtain ⟨hl, S, ds, hS, hd, h⟩ := h
  refine ⟨hl, S, ds, hS, hd, ?_⟩
  rcases h with ⟨d, hv, hq⟩ | h
  · obtain ⟨es, rfl⟩ := F.lst ds d hv
    refine .inl ⟨es, hv, fun p ws H2 sm n e dt => hq _ H2 sm (.lst (.inl (off_of (fun z => hS p z n) e)) (dps_keep (off_keep (Keep.refl H2) fun a z => .inr z) _ _ dt))⟩
  · exact .inr h
section
variable {R : Hp → Hp → Prop} [RelC R] {X : Cx} {γ : List Sl} {pos : Pos}
theorem ef_call {x : Str} {k n : Nat} {Val : List D → D → Prop} {Exc : List D → Value → Prop} {e : Expr} {es : List Expr} {p : Pos} {ds rs : List D} (F : FnN X.prog X.w X.K X.mg X.base x k n Val Exc) (hr : Room k X.A) (ha : EA R X γ (e :: es) ds) (hv : Val ds (.list rs)) (hn : ds.length = n := by rfl) (hg : Gl X x := by rfl)
    (hdb : (x == ("__debug__" : Str)) = false := by decide) (he : starEach (e :: es) X.env = (false, eval e X.env) :: starEach es X.env := by rfl) (hpl : (backTo pos (starEach es X.env)).any (·.1) = false := by rfl) : EF R X γ (.Call (.Name x p) (e :: es) [] pos) rs := fun H0 S0 σ H Q s kk => by
  obtain ⟨f, fd, ps, h1, h2, h3, h4⟩ := F.ok
  refine we_of (pe_call (E := E0) h1 hr hg h2 h3 h4 .nil passN pa_wa hdb he hpl) (ha H0 S0 σ H _ s fun vs H1 r1 d1 => ?_)
  rw [List.append_nil]
  exact ⟨by rw [dps_len d1]; exact hn, Sx S0 γ σ, ds, sx_dom (s.mono r1), d1, .inl ⟨rs, hv, fun q ws H2 sm n2 e2 d2 => kk q ws H2 (Rel.free r1 n2) (Rel.more r1 sm) e2 d2⟩⟩
/-- a list just come, one item appended, let go -/
theorem s1_appendTmp {o e : Expr} {ds : List D} {d : D} {apos cpos : Pos} {P : Po} (ho : EF R X γ o ds) (he : EE R X γ e d) (h : P.nx γ) (hl : ds.length < 1000)
    (hbase : attributeBase o "append" X.env (eval o X.env) = eval o X.env := by rfl)
    (hfew : ((backTo cpos (starEach [e] X.env)).all (fun x => !x.1) && (backToKw cpos (keywordEach [] X.env)).all (fun x => x.1.isSome) && decide (([e] : List Expr).length + ([] : List Keyword).length + (if ([] : List Keyword).isEmpty then 0 else 1) < 30)) = true := by rfl)
    (hline : (apos.endLine == cpos.line) = true := by rfl) (hst : starEach [e] X.env = (false, eval e X.env) :: starEach [] X.env := by rfl) (hplain : (backTo cpos (starEach [] X.env)).any (·.1) = false := by rfl)
    (hs : swapsWith (.Call (.Attribute o "append" apos) [e] [] cpos) none pos.line X.env = pure false := by rfl) : S1 R X γ (.Expr (.Call (.Attribute o "append" apos) [e] [] cpos) pos) P := fun H0 S0 σ H E W s tk n r bk ct z => by
  refine ws_of (ps_expr (pe_bm PySem.F.plainAttrs_list PySem.F.slot_list_append PySem.F.type_list_append mt_append pe_we pa_wa hbase hfew hline hst hplain) hs) (ho H0 S0 σ H _ s fun l vs H1 n1 r1 e1 d1 => ⟨.inl ⟨rfl, _, SqL.of e1⟩, (ea_cons he ea_nil hst) H0 S0 σ H1 _ (s.mono r1) fun ws H2 r2 d2 => ?_⟩)
  cases d2 with
  | cons d2 t =>
    cases t
    have e2 : H2 l = some (.lst vs) := Rel.keep r2 _ _ e1 fun _ z => nomatch z
    refine ⟨l, vs, _, rfl, rfl, e2, Nat.lt_trans (by rw [dps_len d1]; exact hl) (by decide), ?_⟩
    exact n γ σ _ h (s.mono (Rel.chgL (Rel.trans r1 r2) n1 ⟨_, e2⟩))
end
theorem fnn_mk {Pr : Program} {w : World} {K : PySem.W.Frag} {mg : Str → Option Value} {base : Heap} {x : Str} {st : Stmt} {f : Addr} {fd : FuncData} {N ps : List Str} {k n : Nat} {Val : List D → D → Prop} {Exc : List D → Value → Prop} (hlst : ∀ ds d, Val ds d → ∃ es, d = .list es)
    (F : FunD K x x (defArgs st) (defBody st) (defScope st) [] [] f fd) (S : FnScope N ps (defScope st)) (hm : mg x = some (.ref f)) (hb : Binds K fd ps []) (hns : base.NoSeer) (htr : Pr.given.tree = none) (hk : 40 ≤ k) (hn : ps.length = n)
    (body : ∀ (cdv : Value) (A : Around) (outer : List Env) (s : Shared) (H : Hp) (E : XK) (X : Cx), X = cxOf (L2N.CX Pr w) Pr w K mg base N x (defScope st) f cdv A outer s H E → Gx X k → PassesOwn (model X.prog X.w) X.A X.env X.xe → ∀ ds : List D, ds.length = n →
      (∀ d, Val ds d → SS Same X (ds.map .dat ++ List.replicate (N.length - n) .no) (defBody st) { rn := fun es => .list es = d }) ∧
      (∀ c, Exc ds c → SS Same X (ds.map .dat ++ List.replicate (N.length - n) .no) (defBody st) { rz := fun e => e = c })) : FnN Pr w K mg base x (k + 1) n Val Exc := by
  refine ⟨⟨f, fd, ps, F.ok (CX := L2N.CX Pr w) S (fun vs H Q E h => by rw [h.1, hn]) (fun cdv A outer s H vs Q E hr h => ?_), hm, F.kp, hb⟩, hlst⟩
  obtain ⟨hl, Sv, ds, hS, hd, hq⟩ := h
  let X : Cx := cxOf (L2N.CX Pr w) Pr w K mg base N x (defScope st) f cdv A outer s H E
  have hdl : ds.length = n := by rw [← dps_len hd, hl]
  have gx : Gx X k := ⟨hr, hk, hns, htr, ⟨_, _, rfl, S.gen, S.co, rfl, rfl⟩⟩
  have tk : L2N.Takes X (fun c d _ H' => E c d H') := L2N.takes_of rfl rfl rfl rfl
  obtain ⟨b1, b2⟩ := body cdv A outer s H E X rfl gx (passes_of rfl) ds hdl
  refine ⟨wss X (defBody st), pss_wss, ?_⟩
  rcases hq with ⟨es, hv, hk⟩ | ⟨c, hv, hk⟩
  · exact b1 _ hv H Sv _ H _ E (si_start hS hd hl hdl) tk (fun _ _ _ h _ => h.elim) ⟨fun _ _ _ h => h.elim, fun es' p vs' H' he r' n' e' d' => hk p vs' H' r' n' e' (by
      have e : PyData.list es' = PyData.list es := he
      injection e with e
      rw [← e]
      exact d')⟩ (fun _ _ _ h _ => h.elim) (fun _ _ _ h _ => h.elim) fun c H' h _ => h.elim
  · exact b2 c hv H Sv _ H _ E (si_start hS hd hl hdl) tk (fun γ' σ' H' e s' => e.elim) ⟨fun e v H' he r' dv => he.elim, fun _ _ _ _ h => h.elim⟩ (fun _ _ _ h _ => h.elim) (fun _ _ _ h _ => h.elim) fun e H' h r' => by
      rw [show e = c from h]
      exact hk H' r'
end An

/-! Built-ins by data. -/
namespace An
open PySem PySem.Spec PyProof.Rows L2
section
variable {R : Hp → Hp → Prop} [RelC R] {X : Cx} {γ : List Sl} {pos p : Pos} {a b : Expr}
def lenD : D → Option Nat
  | .list ds => some ds.length
  | .tuple ds => some ds.length
  | _ => none
theorem cd_len {x : D} {n : Nat} (h : lenD x = some n) : CallD X (.builtin "len") [x] (.int n) := ⟨_, call_len_seq, fun H vs Q hd k => by
  cases hd with
  | cons d t =>
    cases t
    cases d with
    | lst h1 h2 =>
      cases h
      refine ⟨_, _, rfl, .inl (.inl h1), ?_⟩
      rw [dps_len h2]
      exact k _ fun _ => .int _
    | tup h1 h2 =>
      cases h
      refine ⟨_, _, rfl, .inr h1, ?_⟩
      rw [dps_len h2]
      exact k _ fun _ => .int _
    | _ => cases h⟩
theorem ee_len {x : D} {n : Nat} (ha : EE R X γ a x) (h : lenD x = some n) (hm : X.mg "len" = none) (hg : Gl X "len" := by rfl) (he : starEach [a] X.env = (false, eval a X.env) :: starEach [] X.env := by rfl) (hpl : (backTo pos (starEach [] X.env)).any (·.1) = false := by rfl) :
    EE R X γ (.Call (.Name "len" p) [a] [] pos) (.int n) := ee_callB (ea_cons ha ea_nil he) (cd_len h) hm PySem.boot_len hg (by decide) (by decide) he hpl
/-- len of a list of one's own -/
theorem ee_lenO (i : Nat) {x : Str} {ds : List D} {p2 : Pos} (hm : X.mg "len" = none) (hi : γ[i]? = some (.own ds) := by rfl) (hg : Gl X "len" := by rfl) (hN : X.N[i]? = some x := by rfl) (hv : Vis X.env.scope x := by first | exact Or.inl rfl | exact Or.inr (Or.inl rfl) | exact Or.inr (Or.inr rfl))
    (hd : (x == ("__debug__" : Str)) = false := by decide) (hcd : (x == ("__classdict__" : Str)) = false := by decide) (he : starEach [.Name x p2] X.env = (false, eval (.Name x p2) X.env) :: starEach [] X.env := by rfl) (hpl : (backTo pos (starEach [] X.env)).any (·.1) = false := by rfl) :
    EE R X γ (.Call (.Name "len" p) [.Name x p2] [] pos) (.int ds.length) := fun H0 S0 σ H Q s k => by
  obtain ⟨l, vs, h1, _, h3, h4⟩ := s.own i ds hi
  refine we_of (pe_callB call_len_seq hg hm PySem.boot_len (pa_cons (pe_var hN hv hd hcd) pa_nil he) (by decide) (by decide) he hpl) ⟨_, h1, _, _, rfl, .inl (SqL.of h3), ?_⟩
  rw [dps_len h4]
  exact k _ H (s.ref) (.int _)
theorem ee_abs {i : Int} (ha : EE R X γ a (.int i)) (hm : X.mg "abs" = none) (hg : Gl X "abs" := by rfl) (he : starEach [a] X.env = (false, eval a X.env) :: starEach [] X.env := by rfl) (hpl : (backTo pos (starEach [] X.env)).any (·.1) = false := by rfl) :
    EE R X γ (.Call (.Name "abs" p) [a] [] pos) (.int (i.natAbs : Nat)) := ee_callB (ea_cons ha ea_nil he) ⟨_, call_abs, fun H vs Q hd k => by
  cases hd with
  | cons d t =>
    cases t
    cases d
    refine ⟨i, rfl, ?_⟩
    have e : (if i < 0 then -i else i) = (i.natAbs : Nat) := by
      split <;> omega
    rw [e]
    exact k _ fun _ => .int _⟩ hm PyProof.Rows.boot_abs hg (by decide) (by decide) he hpl
theorem ee_max {i j : Int} (ha : EE R X γ a (.int i)) (hb : EE R X γ b (.int j)) (hc : X.calm = true) (hm : X.mg "max" = none) (hg : Gl X "max" := by rfl) (he : starEach [a, b] X.env = (false, eval a X.env) :: starEach [b] X.env := by rfl) (he2 : starEach [b] X.env = (false, eval b X.env) :: starEach [] X.env := by rfl) (hpl : (backTo pos (starEach [b] X.env)).any (·.1) = false := by rfl) :
    EE R X γ (.Call (.Name "max" p) [a, b] [] pos) (.int (max i j)) := ee_callB (ea_cons ha (ea_cons hb ea_nil he2) he) ⟨_, call_max2 hc, fun H vs Q hd k => by
  cases hd with
  | cons d t =>
    cases t with
    | cons d2 t =>
      cases t
      cases d
      cases d2
      refine ⟨i, j, rfl, ?_⟩
      have e : (if j > i then j else i) = max i j := by
        split <;> omega
      rw [e]
      exact k _ fun _ => .int _⟩ hm PyProof.Rows.boot_max hg (by decide) (by decide) he hpl
theorem ee_min {i j : Int} (ha : EE R X γ a (.int i)) (hb : EE R X γ b (.int j)) (hc : X.calm = true) (hm : X.mg "min" = none) (hg : Gl X "min" := by rfl) (he : starEach [a, b] X.env = (false, eval a X.env) :: starEach [b] X.env := by rfl) (he2 : starEach [b] X.env = (false, eval b X.env) :: starEach [] X.env := by rfl) (hpl : (backTo pos (starEach [b] X.env)).any (·.1) = false := by rfl) :
    EE R X γ (.Call (.Name "min" p) [a, b] [] pos) (.int (min i j)) := ee_callB (ea_cons ha (ea_cons hb ea_nil he2) he) ⟨_, call_min2 hc, fun H vs Q hd k => by
  cases hd with
  | cons d t =>
    cases t with
    | cons d2 t =>
      cases t
      cases d
      cases d2
      refine ⟨i, j, rfl, ?_⟩
      have e : (if j < i then j else i) = min i j := by
        split <;> omega
      rw [e]
      exact k _ fun _ => .int _⟩ hm PyProof.Rows.boot_min hg (by decide) (by decide) he hpl
theorem ee_intB {c : Bool} (ha : EE R X γ a (.bool c)) (hm : X.mg "int" = none) (hg : Gl X "int" := by rfl) (he : starEach [a] X.env = (false, eval a X.env) :: starEach [] X.env := by rfl) (hpl : (backTo pos (starEach [] X.env)).any (·.1) = false := by rfl) :
    EE R X γ (.Call (.Name "int" p) [a] [] pos) (.int (if c then 1 else 0)) := ee_callTy (ea_cons ha ea_nil he) ⟨_, call_int1, fun H vs Q hd k => by
  cases hd with
  | cons d t =>
    cases t
    cases d
    exact .inr ⟨c, rfl, k _ fun _ => .int _⟩⟩ hm PyProof.Rows.boot_int hg (by decide) (by decide) he hpl
theorem vs_bools {K : PySem.W.Frag} {H : Hp} : ∀ {vs : List V} {bs : List Bool}, DtAll K H vs (bs.map .bool) → vs = bs.map V.bl
  | [], [], _ => rfl
  | [], _ :: _, h => by cases h
  | _ :: _, [], h => by cases h
  | v :: vs, b :: bs, h => by
    cases h with
    | cons h1 h2 =>
      cases h1
      rw [vs_bools h2] <;> rfl
theorem vs_ints {K : PySem.W.Frag} {H : Hp} : ∀ {vs : List V} {ns : List Int}, DtAll K H vs (ns.map .int) → vs = ns.map V.int
  | [], [], _ => rfl
  | [], _ :: _, h => by cases h
  | _ :: _, [], h => by cases h
  | v :: vs, b :: bs, h => by
    cases h with
    | cons h1 h2 =>
      cases h1
      rw [vs_ints h2] <;> rfl
theorem ee_all {bs : List Bool} (ha : EE R X γ a (.list (bs.map .bool))) (hc : X.calm = true) (hm : X.mg "all" = none) (hg : Gl X "all" := by rfl) (he : starEach [a] X.env = (false, eval a X.env) :: starEach [] X.env := by rfl) (hpl : (backTo pos (starEach [] X.env)).any (·.1) = false := by rfl) :
    EE R X γ (.Call (.Name "all" p) [a] [] pos) (.bool (bs.all id)) := ee_callB (ea_cons ha ea_nil he) ⟨_, cr_all hc, fun H vs Q hd k => by
  cases hd with
  | cons d t =>
    cases t
    cases d with
    | lst h1 h2 =>
      rw [vs_bools h2] at h1
      exact ⟨_, bs, rfl, (.inl h1), k _ fun _ => .bl _⟩⟩ hm PyProof.Rows.boot_all hg (by decide) (by decide) he hpl
theorem ee_sum {ns : List Int} (ha : EE R X γ a (.list (ns.map .int))) (hc : X.calm = true) (hm : X.mg "sum" = none) (hg : Gl X "sum" := by rfl) (he : starEach [a] X.env = (false, eval a X.env) :: starEach [] X.env := by rfl) (hpl : (backTo pos (starEach [] X.env)).any (·.1) = false := by rfl) :
    EE R X γ (.Call (.Name "sum" p) [a] [] pos) (.int ns.sum) := ee_callB (ea_cons ha ea_nil he) ⟨_, cr_sum hc, fun H vs Q hd k => by
  cases hd with
  | cons d t =>
    cases t
    cases d with
    | lst h1 h2 =>
      rw [vs_ints h2] at h1
      exact ⟨_, ns, rfl, (.inl h1), k _ fun _ => .int _⟩⟩ hm PyProof.Rows.boot_sum hg (by decide) (by decide) he hpl
/-- list(x): a new one -/
def itemsD : D → Option (List D)
  | .list ds => some ds
  | .tuple ds => some ds
  | _ => none
theorem ef_list {x : D} {ds : List D} (ha : EE R X γ a x) (h : itemsD x = some ds) (hm : X.mg "list" = none) (hg : Gl X "list" := by rfl) (he : starEach [a] X.env = (false, eval a X.env) :: starEach [] X.env := by rfl) (hpl : (backTo pos (starEach [] X.env)).any (·.1) = false := by rfl) :
    EF R X γ (.Call (.Name "list" p) [a] [] pos) ds := fun H0 S0 σ H Q s k =>
  we_of (pe_callTy call_list_of hg hm PyProof.Rows.boot_list pa_wa (by decide) (by decide) he hpl) ((ea_cons ha ea_nil he) H0 S0 σ H _ s fun vs H1 r1 d1 => by
    cases d1 with
    | cons d t =>
      cases t
      cases d with
      | lst h1 h2 =>
        cases h
        exact ⟨_, _, rfl, .inl ((.inl (rd_keep off_in h1))), fun l n => k l _ _ (Rel.free r1 n) (Rel.more r1 (same_new n)) upd_same (dts_newO n h2)⟩
      | tup h1 h2 =>
        cases h
        exact ⟨_, _, rfl, .inr (sqt_keep off_in h1), fun l n => k l _ _ (Rel.free r1 n) (Rel.more r1 (same_new n)) upd_same (dts_newO n h2)⟩
      | _ => cases h)
/-- xs[::-1] -/
theorem ef_rev {ds : List D} {kk : Nat} {p1 p2 p3 : Pos} (ha : EE R X γ a (.list ds)) : EF R X γ (.Subscript a (.Slice none none (some (.UnaryOp .USub (.Constant (.int 1) kk p1) p2)) p3) pos) ds.reverse := fun H0 S0 σ H Q s k =>
  we_of (pe_revL pe_we) (ha H0 S0 σ H _ s fun v H1 r1 d1 => by
    cases d1 with
    | lst h1 h2 => exact ⟨_, _, rfl, (.inl (rd_keep off_in h1)), fun l n => k l _ _ (Rel.free r1 n) (Rel.more r1 (same_new n)) upd_same (dts_newO n (dps_rev h2))⟩)
/-! isinstance -/
def tyN : D → String
  | .none => "NoneType"
  | .bool _ => "bool"
  | .int _ => "int"
  | .str _ => "str"
  | .list _ => "list"
  | .tuple _ => "tuple"
  | .dict _ => "dict"
def isN (a T : String) : Bool := a == T || (a == "bool" && T == "int")
abbrev isT (x : D) (T : String) : Bool := isN (tyN x) T
theorem tyN_mem (x : D) : tyN x ∈ ["NoneType", "bool", "int", "str", "list", "tuple", "dict"] := by
  cases x <;> simp [tyN]
theorem kit_all : ∀ T ∈ ["tuple", "list", "int", "bool", "str"], ∀ a ∈ ["NoneType", "bool", "int", "str", "list", "tuple", "dict"], kitB a T = some (isN a T) := by decide +kernel
theorem kit_isT (x : D) {T : String} (hT : T = "tuple" ∨ T = "list" ∨ T = "int" ∨ T = "bool" ∨ T = "str") : kitB (tyN x) T = some (isT x T) := kit_all T (by simpa using hT) (tyN x) (tyN_mem x)
theorem tyX_of {K : PySem.W.Frag} {H : Hp} {v : V} {d : D} (h : Dt K H v d) : TyX K H v (.type (tyN d)) := by
  cases h with
  | non => exact .base .non
  | bl b => exact .base (.bl b)
  | int i => exact .base (.int i)
  | str x => exact .base (.str x)
  | lst h1 h2 =>
    rcases h1 with h | ⟨o, h⟩
    · exact .base (.lst h)
    · exact .base (.frz h)
  | tup h1 h2 =>
    rcases h1 with (h | ⟨o, h⟩) | ⟨o, its, n, h, hc, _⟩
    · exact .base (.tup h)
    · exact .fTuple h
    · exact .kTuple h hc
theorem ee_isi {x : D} (T : String) {nm : Str} {pT : Pos} (ha : EE R X γ a x) (hT : T = "tuple" ∨ T = "list" ∨ T = "int" ∨ T = "bool" ∨ T = "str") (hm : X.mg "isinstance" = none) (hmT : X.mg nm = none) (hv : bootBuiltins nm = some (.type T)) (hg : Gl X "isinstance" := by rfl) (hgT : Gl X nm := by rfl) (hn : nm ≠ "__name__" := by decide) (hdb : (nm == ("__debug__" : Str)) = false := by decide)
    (he : starEach [a, .Name nm pT] X.env = (false, eval a X.env) :: starEach [.Name nm pT] X.env := by rfl) (he2 : starEach [.Name nm pT] X.env = (false, eval (.Name nm pT) X.env) :: starEach [] X.env := by rfl) (hpl : (backTo pos (starEach [.Name nm pT] X.env)).any (·.1) = false := by rfl) :
    EE R X γ (.Call (.Name "isinstance" p) [a, .Name nm pT] [] pos) (.bool (isT x T)) := fun H0 S0 σ H Q s k =>
  we_of (pe_callB call_isi hg hm PyProof.Rows.boot_isinstance (pa_cons pe_we (pa_cons (pe_bltn (v := .ty T) hgT hmT hv rfl hn hdb) pa_nil he2) he) (by decide) (by decide) he hpl) (ha H0 S0 σ H _ s fun v H1 r1 d1 =>
    ⟨v, .ty T, .type (tyN x), .type T, isT x T, rfl, .ty T, tyX_of (dt_in d1), kit_ty (kit_isT x hT), k _ H1 r1 (.bl _)⟩)
/-! == of a list of one's own, as a test -/
theorem et_cmpO {c : Bool} (i : Nat) {x : Str} {ds : List D} {op : CmpOp} {y : D} {p2 : Pos} (hb : EE R X γ b y) (ho : OpD X (compareOp op) (.list ds) y (.bool c)) (hmk : behindInMarks op b = false) (hi : γ[i]? = some (.own ds) := by rfl) (hN : X.N[i]? = some x := by rfl)
    (hv : Vis X.env.scope x := by first | exact Or.inl rfl | exact Or.inr (Or.inl rfl) | exact Or.inr (Or.inr rfl)) (hd : (x == ("__debug__" : Str)) = false := by decide) (hcd : (x == ("__classdict__" : Str)) = false := by decide) :
    ET R X γ (.Compare (.Name x p2) [op] [b] pos) c := fun H0 S0 σ H Q s k => by
  obtain ⟨r, h1, h2⟩ := ho
  obtain ⟨l, vs, e1, _, _, _⟩ := s.own i ds hi
  refine wt_of (pt_cmpR h1 (pe_var hN hv hd hcd) pe_we hmk) ⟨_, e1, hb H0 S0 σ H _ s fun u H2 r2 d2 => ?_⟩
  obtain ⟨l', vs', a1, _, a3, a4⟩ := (s.mono r2).own i ds hi
  rw [e1] at a1
  cases a1
  refine h2 H2 _ u _ (.lst (.inl a3) (dts_in a4)) (dt_in d2) fun z q => ?_
  have e := q H2
  cases e
  exact ⟨c, rfl, k H2 r2⟩
/-! is, is not, of truths -/
theorem op_isB : OpR X (compareOp .Is) (fun x y H Q => ∃ a b, x = .bl a ∧ y = .bl b ∧ Q (.bl (a == b)) H) := by
  intro pins s σ H x y v u Q I rx ry h
  obtain ⟨a, b, rfl, rfl, q⟩ := h
  cases rx
  cases ry
  show wpAny _ _ (isSame (Value.bool a) (Value.bool b) >>= fun z => pure (Value.bool z)) _ _ s
  exact wpAny_bind (wpAny_isSame_plain rfl (wpAny_pure (fin_bl I q (by cases a <;> cases b <;> rfl))))
theorem op_isNB : OpR X (compareOp .IsNot) (fun x y H Q => ∃ a b, x = .bl a ∧ y = .bl b ∧ Q (.bl (!(a == b))) H) := by
  intro pins s σ H x y v u Q I rx ry h
  obtain ⟨a, b, rfl, rfl, q⟩ := h
  cases rx
  cases ry
  show wpAny _ _ (isSame (Value.bool a) (Value.bool b) >>= fun z => pure (Value.bool (!z))) _ _ s
  exact wpAny_bind (wpAny_isSame_plain rfl (wpAny_pure (fin_bl I q (by cases a <;> cases b <;> rfl))))
theorem od_isB {a b : Bool} : OpD X (compareOp .Is) (.bool a) (.bool b) (.bool (a == b)) := ⟨_, op_isB, fun H x y Q hx hy k => by
  cases hx
  cases hy
  exact ⟨a, b, rfl, rfl, k _ fun _ => .bl _⟩⟩
theorem od_isNB {a b : Bool} : OpD X (compareOp .IsNot) (.bool a) (.bool b) (.bool (!(a == b))) := ⟨_, op_isNB, fun H x y Q hx hy k => by
  cases hx
  cases hy
  exact ⟨a, b, rfl, rfl, k _ fun _ => .bl _⟩⟩
end
end An

/-! Fractions as data; their sizes. -/
namespace An
open PySem
/-- the most bits of two factors together -/
def LIM : Nat := 134217728
def eF (q : Rat) : D := .tuple [.int q.num, .int (q.den : Nat)]
def eP (p : List Rat) : D := .list (p.map eF)
/-- a fraction of less than n bits -/
def Rz (n : Nat) (q : Rat) : Prop := q.num.natAbs < 2 ^ n ∧ q.den < 2 ^ n
theorem Rz.mono {n m : Nat} {q : Rat} (h : Rz n q) (k : n ≤ m) : Rz m q :=
  ⟨Nat.lt_of_lt_of_le h.1 (Nat.pow_le_pow_right (by decide) k), Nat.lt_of_lt_of_le h.2 (Nat.pow_le_pow_right (by decide) k)⟩
theorem Rz.pos {n : Nat} {q : Rat} (h : Rz n q) : 0 < n := by
  cases n with
  | zero =>
    have h1 := h.2
    have h2 := q.den_pos
    simp at h1
    omega
  | succ n => omega
theorem eF_inj {a b : Rat} (h : eF a = eF b) : a = b := by
  unfold eF at h
  injection h with h
  injection h with h1 h2
  injection h2 with h2 _
  injection h1 with h1
  injection h2 with h2
  exact Rat.ext h1 (by omega)
theorem Rz.mk {n : Nat} {t : Int} {u : Nat} (ht : t.natAbs < 2 ^ n) (hu : u < 2 ^ n) (h0 : 0 < u) : Rz n (mkRat t u) := by
  have hz : u ≠ 0 := by omega
  constructor
  · rw [Rat.num_mkRat, if_neg hz]
    refine Nat.lt_of_le_of_lt ?_ ht
    rw [Int.natAbs_ediv_of_dvd (Int.ofNat_dvd_left.mpr (Nat.gcd_dvd_right _ _))]
    exact Nat.div_le_self _ _
  · rw [Rat.den_mkRat, if_neg hz]
    exact Nat.lt_of_le_of_lt (Nat.div_le_self _ _) hu
theorem nat_mul_lt {a b n m : Nat} (ha : a < 2 ^ n) (hb : b < 2 ^ m) : a * b < 2 ^ (n + m) := by
  rw [Nat.pow_add]
  exact Nat.mul_lt_mul'' ha hb
theorem Rz.mul {n m : Nat} {a b : Rat} (ha : Rz n a) (hb : Rz m b) : Rz (n + m) (a * b) := by
  rw [Rat.mul_def']
  refine Rz.mk ?_ ?_ (Nat.mul_pos a.den_pos b.den_pos)
  · rw [Int.natAbs_mul]
    exact nat_mul_lt ha.1 hb.1
  · exact nat_mul_lt ha.2 hb.2
theorem Rz.add {n m : Nat} {a b : Rat} (ha : Rz n a) (hb : Rz m b) : Rz (n + m + 1) (a + b) := by
  rw [Rat.add_def']
  have h1 := nat_mul_lt ha.1 hb.2
  have h2 := nat_mul_lt ha.2 hb.1
  have h3 := nat_mul_lt ha.2 hb.2
  have e : (2 : Nat) ^ (n + m + 1) = 2 ^ (n + m) + 2 ^ (n + m) := by rw [Nat.pow_succ]; omega
  refine Rz.mk ?_ ?_ (Nat.mul_pos a.den_pos b.den_pos)
  · refine Nat.lt_of_le_of_lt (Int.natAbs_add_le _ _) ?_
    rw [Int.natAbs_mul, Int.natAbs_mul, Int.natAbs_natCast, Int.natAbs_natCast, Nat.mul_comm b.num.natAbs, e]
    omega
  · rw [e]
    omega
theorem Rz.neg {n : Nat} {a : Rat} (ha : Rz n a) : Rz n (-a) := ⟨by rw [Rat.neg_num, Int.natAbs_neg]; exact ha.1, ha.2⟩
theorem Rz.sub {n m : Nat} {a b : Rat} (ha : Rz n a) (hb : Rz m b) : Rz (n + m + 1) (a - b) := by
  rw [Rat.sub_eq_add_neg]
  exact ha.add hb.neg
theorem Rz.inv {n : Nat} {a : Rat} (ha : Rz n a) : Rz n a⁻¹ := by
  constructor
  · rw [Rat.num_inv, Int.natAbs_mul, Int.natAbs_natCast]
    have : a.num.sign.natAbs ≤ 1 := by
      rcases Int.lt_trichotomy a.num 0 with h | h | h
      · rw [Int.sign_eq_neg_one_of_neg h]; decide
      · rw [h]; decide
      · rw [Int.sign_eq_one_of_pos h]; decide
    refine Nat.lt_of_le_of_lt (Nat.mul_le_mul_right _ this) ?_
    rw [Nat.one_mul]
    exact ha.2
  · rw [Rat.den_inv]
    split
    · exact Nat.lt_of_le_of_lt a.den_pos ha.2
    · exact ha.1
theorem Rz.div {n m : Nat} {a b : Rat} (ha : Rz n a) (hb : Rz m b) : Rz (n + m) (a / b) := by
  rw [Rat.div_def]
  exact ha.mul hb.inv
/-- what two sizes let be multiplied -/
theorem mulx {n m : Nat} {i j : Int} (hi : i.natAbs < 2 ^ n) (hj : j.natAbs < 2 ^ m) (h : n + m ≤ LIM) : L2.CMulX i j := L2.mulx_ok hi hj h
/-! the fraction of a top and an under above nought, as the program makes it -/
theorem made_eq {t : Int} {u : Nat} (h : 0 < u) : (PyData.tuple [.int (t / (Nat.gcd t.natAbs u : Nat)), .int ((u : Int) / (Nat.gcd t.natAbs u : Nat))] : D) = eF (mkRat t u) := by
  have hz : u ≠ 0 := by omega
  unfold eF
  rw [Rat.num_mkRat, Rat.den_mkRat, if_neg hz, if_neg hz, Nat.gcd_comm u]
  rfl
theorem divInt_pos {t : Int} {u : Nat} : Rat.divInt t (u : Int) = mkRat t u := Rat.divInt_ofNat t u
/-- is it a fraction -/
def isF : D → Bool
  | .tuple [.int t, .int u] => decide (0 < u) && Nat.gcd t.natAbs u.natAbs == 1
  | _ => false
theorem isF_eF (q : Rat) : isF (eF q) = true := by
  unfold eF isF
  have h := q.reduced
  have h2 := q.den_pos
  simp only [Bool.and_eq_true, decide_eq_true_eq, beq_iff_eq, Int.natAbs_natCast]
  exact ⟨by omega, h⟩
theorem isF_some {x : D} (h : isF x = true) : ∃ q, x = eF q := by
  unfold isF at h
  split at h
  · rename_i t u
    rw [Bool.and_eq_true, decide_eq_true_eq, beq_iff_eq] at h
    refine ⟨⟨t, u.natAbs, by omega, h.2⟩, ?_⟩
    unfold eF
    have : (u.natAbs : Int) = u := by omega
    rw [this]
  · cases h
end An
namespace An
open PySem PySem.Spec PyProof.Rows L2
abbrev noX : List D → Value → Prop := fun _ _ => False
/-- a def of the text stands behind the top -/
def FE (K : PySem.W.Frag) (mg : Str → Option Value) (x : Str) (st : Stmt) : Prop := ∃ (f : Addr) (fd : FuncData), FunD K x x (defArgs st) (defBody st) (defScope st) [] [] f fd ∧ mg x = some (.ref f)
def ec (K : PySem.W.Frag) (x : Str) : Value := .ref (He.ga K x)
end An

/-! Polynomials as lists of fractions. -/
namespace An
open PySem
/-! ### data that can be compared -/
def Sh (n : Nat) (d : D) : Prop := d.canLay0 = true ∧ d.depth ≤ n
theorem Sh.ok {n : Nat} {d : D} (h : Sh n d) (k : n ≤ 64) : SeqAt.shaped d = true := by
  unfold SeqAt.shaped
  rw [h.1, Bool.true_and]
  exact decide_eq_true (Nat.le_trans h.2 k)
theorem Sh.ok0 {d : D} (h : Sh 0 d) : SeqAt.shaped d = true := h.ok (by decide)
theorem Sh.ok1 {d : D} (h : Sh 1 d) : SeqAt.shaped d = true := h.ok (by decide)
theorem Sh.ok2 {d : D} (h : Sh 2 d) : SeqAt.shaped d = true := h.ok (by decide)
theorem Sh.ok3 {d : D} (h : Sh 3 d) : SeqAt.shaped d = true := h.ok (by decide)
theorem Sh.ok4 {d : D} (h : Sh 4 d) : SeqAt.shaped d = true := h.ok (by decide)
theorem sh_int {n : Nat} {i : Int} : Sh n (.int i) := ⟨by simp [PyData.canLay0], by simp [PyData.depth]⟩
theorem sh_bool {n : Nat} {i : Bool} : Sh n (.bool i) := ⟨by simp [PyData.canLay0], by simp [PyData.depth]⟩
theorem sh_none {n : Nat} : Sh n .none := ⟨by simp [PyData.canLay0], by simp [PyData.depth]⟩
theorem sh_str {n : Nat} {x : Str} (h : PyData.strOk x = true) : Sh n (.str x) := ⟨by simp [PyData.canLay0, h], by simp [PyData.depth]⟩
theorem depthAll_le {n : Nat} : ∀ {ds : List D}, (∀ d ∈ ds, d.depth ≤ n) → PyData.depthAll ds ≤ n
  | [], _ => by simp [PyData.depthAll]
  | d :: ds, h => by
    have h1 := h d List.mem_cons_self
    have h2 := depthAll_le (ds := ds) fun e he => h e (List.mem_cons_of_mem _ he)
    simp only [PyData.depthAll]
    omega
theorem layAll {ds : List D} (h : ∀ d ∈ ds, d.canLay0 = true) : PyData.canLayAll0 ds = true := by
  induction ds with
  | nil => simp [PyData.canLayAll0]
  | cons d ds ih =>
    simp only [PyData.canLayAll0, Bool.and_eq_true]
    exact ⟨h d List.mem_cons_self, ih fun e he => h e (List.mem_cons_of_mem _ he)⟩
theorem sh_list {n : Nat} {ds : List D} (h : ∀ d ∈ ds, Sh n d) : Sh (n + 1) (.list ds) :=
  ⟨by simp only [PyData.canLay0]; exact layAll fun d hd => (h d hd).1, by simp only [PyData.depth]; have := depthAll_le fun d hd => (h d hd).2; omega⟩
theorem sh_tup {n : Nat} {ds : List D} (h : ∀ d ∈ ds, Sh n d) : Sh (n + 1) (.tuple ds) :=
  ⟨by simp only [PyData.canLay0]; exact layAll fun d hd => (h d hd).1, by simp only [PyData.depth]; have := depthAll_le fun d hd => (h d hd).2; omega⟩
theorem Sh.mono {n m : Nat} {d : D} (h : Sh n d) (k : n ≤ m) : Sh m d := ⟨h.1, Nat.le_trans h.2 k⟩
theorem sh_eF (q : Rat) : Sh 1 (eF q) := sh_tup fun d hd => by
  have : d = .int q.num ∨ d = .int (q.den : Nat) := by simpa using hd
  rcases this with rfl | rfl
  · exact sh_int
  · exact sh_int
theorem sh_eP (p : List Rat) : Sh 2 (eP p) := sh_list fun d hd => by
  obtain ⟨q, _, rfl⟩ := List.mem_map.mp hd
  exact sh_eF q
theorem eqv_eF (a b : Rat) : PyData.eqv (eF a) (eF b) = decide (a = b) := by
  unfold eF
  simp only [PyData.eqv, PyData.eqvAll, Bool.and_true]
  by_cases h : a = b
  · subst h
    simp
  · rw [decide_eq_false h]
    by_cases h1 : a.num = b.num
    · have h2 : a.den ≠ b.den := fun e => h (Rat.ext h1 e)
      have : ((a.den : Int) == (b.den : Int)) = false := beq_eq_false_iff_ne.mpr fun e => h2 (by omega)
      rw [this, Bool.and_false]
    · have : (a.num == b.num) = false := by simpa using h1
      rw [this, Bool.false_and]
theorem eqvAll_map {α : Type} [DecidableEq α] {f : α → D} (hf : ∀ a b, PyData.eqv (f a) (f b) = decide (a = b)) : ∀ xs ys : List α, PyData.eqvAll (xs.map f) (ys.map f) = decide (xs = ys)
  | [], [] => by simp [PyData.eqvAll]
  | [], _ :: _ => by simp [PyData.eqvAll]
  | _ :: _, [] => by simp [PyData.eqvAll]
  | x :: xs, y :: ys => by
    simp only [List.map_cons, PyData.eqvAll, hf, eqvAll_map hf xs ys]
    by_cases h1 : x = y
    · subst h1
      simp
    · simp [h1]
theorem eqv_eP (p q : List Rat) : PyData.eqv (eP p) (eP q) = decide (p = q) := by
  unfold eP
  simp only [PyData.eqv]
  exact eqvAll_map eqv_eF p q
/-! ### polynomials -/
abbrev Poly := List Rat
def coef (p : Poly) (i : Nat) : Rat := p.getD i 0
/-- without noughts behind -/
def trim : Poly → Poly
  | [] => []
  | a :: r => if trim r = [] ∧ a = 0 then [] else a :: trim r
/-- a polynomial's own form -/
def Own (p : Poly) : Prop := trim p = p
instance (p : Poly) : Decidable (Own p) := inferInstanceAs (Decidable (trim p = p))
theorem coef_nil (i : Nat) : coef [] i = 0 := by simp [coef]
theorem coef_zero (a : Rat) (r : Poly) : coef (a :: r) 0 = a := rfl
theorem coef_succ (a : Rat) (r : Poly) (i : Nat) : coef (a :: r) (i + 1) = coef r i := by simp [coef]
theorem coef_out {p : Poly} {i : Nat} (h : p.length ≤ i) : coef p i = 0 := by
  unfold coef
  rw [List.getD_eq_getElem?_getD, List.getElem?_eq_none h]
  rfl
theorem coef_in {p : Poly} {i : Nat} (h : i < p.length) : coef p i = p[i] := by
  unfold coef
  rw [List.getD_eq_getElem?_getD, List.getElem?_eq_getElem h]
  rfl
theorem coef_trim : ∀ (p : Poly) (i : Nat), coef (trim p) i = coef p i
  | [], i => rfl
  | a :: r, i => by
    unfold trim
    by_cases h : trim r = [] ∧ a = 0
    · rw [if_pos h, coef_nil]
      cases i with
      | zero => rw [coef_zero, h.2]
      | succ i => rw [coef_succ, ← coef_trim r i, h.1, coef_nil]
    · rw [if_neg h]
      cases i with
      | zero => rw [coef_zero, coef_zero]
      | succ i => rw [coef_succ, coef_succ, coef_trim r i]
theorem trim_idem : ∀ p : Poly, trim (trim p) = trim p
  | [] => rfl
  | a :: r => by
    show trim (if trim r = [] ∧ a = 0 then [] else a :: trim r) = if trim r = [] ∧ a = 0 then [] else a :: trim r
    by_cases h : trim r = [] ∧ a = 0
    · rw [if_pos h]
      rfl
    · rw [if_neg h]
      show (if trim (trim r) = [] ∧ a = 0 then [] else a :: trim (trim r)) = _
      rw [trim_idem r, if_neg h]
theorem own_trim (p : Poly) : Own (trim p) := trim_idem p
/-- the same fractions, the same own form -/
theorem trim_ext : ∀ {p q : Poly}, (∀ i, coef p i = coef q i) → trim p = trim q
  | [], [], _ => rfl
  | [], b :: s, h => by
    have h1 : b = 0 := by
      have := h 0
      rw [coef_nil, coef_zero] at this
      exact this.symm
    have h2 : trim [] = trim s := trim_ext fun i => by
      have := h (i + 1)
      rw [coef_nil, coef_succ] at this
      rw [coef_nil, this]
    show [] = if trim s = [] ∧ b = 0 then [] else b :: trim s
    rw [if_pos ⟨h2.symm, h1⟩]
  | a :: r, [], h => by
    have h1 : a = 0 := by
      have := h 0
      rw [coef_nil, coef_zero] at this
      exact this
    have h2 : trim r = trim [] := trim_ext fun i => by
      have := h (i + 1)
      rw [coef_nil, coef_succ] at this
      rw [coef_nil, this]
    show (if trim r = [] ∧ a = 0 then [] else a :: trim r) = []
    rw [if_pos ⟨h2, h1⟩]
  | a :: r, b :: s, h => by
    have h1 : a = b := by
      have := h 0
      rw [coef_zero, coef_zero] at this
      exact this
    have h2 : trim r = trim s := trim_ext fun i => by
      have := h (i + 1)
      rw [coef_succ, coef_succ] at this
      exact this
    subst h1
    show (if trim r = [] ∧ a = 0 then [] else a :: trim r) = (if trim s = [] ∧ a = 0 then [] else a :: trim s)
    rw [h2]
theorem own_ext {p q : Poly} (hp : Own p) (hq : Own q) (h : ∀ i, coef p i = coef q i) : p = q := by
  rw [← hp, ← hq]
  exact trim_ext h
theorem trim_len : ∀ p : Poly, (trim p).length ≤ p.length
  | [] => Nat.le_refl _
  | a :: r => by
    unfold trim
    split
    · exact Nat.zero_le _
    · exact Nat.succ_le_succ (trim_len r)
theorem trim_mem : ∀ {p : Poly} {q : Rat}, q ∈ trim p → q ∈ p
  | [], q, h => h
  | a :: r, q, h => by
    unfold trim at h
    split at h
    · cases h
    · rcases List.mem_cons.mp h with h | h
      · exact h ▸ List.mem_cons_self
      · exact List.mem_cons_of_mem _ (trim_mem h)
theorem own_nil : Own [] := rfl
theorem own_cons {a : Rat} {r : Poly} (h : Own (a :: r)) : Own r := by
  unfold Own trim at h
  split at h
  · cases h
  · injection h with _ h
theorem own_iff {p : Poly} : Own p ↔ p = [] ∨ coef p (p.length - 1) ≠ 0 := by
  induction p with
  | nil => exact ⟨fun _ => .inl rfl, fun _ => rfl⟩
  | cons a r ih =>
    constructor
    · intro h
      refine .inr ?_
      have hr := own_cons h
      rcases ih.mp hr with e | e
      · subst e
        intro z
        have z' : a = 0 := z
        unfold Own trim at h
        rw [if_pos ⟨rfl, z'⟩] at h
        cases h
      · cases r with
        | nil => exact absurd (coef_nil _) e
        | cons b s =>
          show coef (a :: b :: s) (s.length + 1) ≠ 0
          rw [coef_succ]
          exact e
    · intro h
      rcases h with h | h
      · cases h
      · unfold Own trim
        cases r with
        | nil =>
          have h' : a ≠ 0 := h
          rw [if_neg (fun z => h' z.2)]
          rfl
        | cons b s =>
          have hr : Own (b :: s) := ih.mpr (.inr (by
            have h' : coef (a :: b :: s) (s.length + 1) ≠ 0 := h
            rw [coef_succ] at h'
            exact h'))
          have hr' : trim (b :: s) = b :: s := hr
          rw [hr', if_neg (fun z => nomatch z.1)]
/-- where the noughts begin -/
theorem trim_take {p : Poly} {m : Nat} (h1 : ∀ i, m ≤ i → coef p i = 0) (h2 : m = 0 ∨ coef p (m - 1) ≠ 0) (hm : m ≤ p.length) : p.take m = trim p := by
  have hl : (p.take m).length = m := by rw [List.length_take]; omega
  have ho : Own (p.take m) := own_iff.mpr (by
    rcases h2 with h | h
    · left
      rw [h]
      rfl
    · right
      rw [hl]
      unfold coef at h ⊢
      rw [List.getD_eq_getElem?_getD] at h ⊢
      by_cases h0 : m = 0
      · subst h0
        cases p with
        | nil => exact h
        | cons a r => exact absurd (h1 0 (Nat.le_refl _)) h
      · rw [List.getElem?_take_of_lt (by omega)]
        exact h)
  rw [← ho]
  refine trim_ext fun i => ?_
  by_cases hi : i < m
  · unfold coef
    rw [List.getD_eq_getElem?_getD, List.getD_eq_getElem?_getD, List.getElem?_take_of_lt hi]
  · rw [coef_out (by omega), h1 i (by omega)]
/-! ### is it a polynomial -/
def isPo : D → Bool
  | .list ds => decide (ds.length ≤ 13) && ds.all isF && (ds.isEmpty || !PyData.eqv (ds.getD (ds.length - 1) .none) (eF 0))
  | _ => false
theorem all_isF {ds : List D} (h : ds.all isF = true) : ∃ p : Poly, ds = p.map eF := by
  induction ds with
  | nil => exact ⟨[], rfl⟩
  | cons d ds ih =>
    rw [List.all_cons, Bool.and_eq_true] at h
    obtain ⟨q, rfl⟩ := isF_some h.1
    obtain ⟨p, rfl⟩ := ih h.2
    exact ⟨q :: p, rfl⟩
theorem isPo_eP (p : Poly) : isPo (eP p) = (decide (p.length ≤ 13) && decide (Own p)) := by
  unfold isPo eP
  have h1 : (p.map eF).all isF = true := by
    rw [List.all_eq_true]
    intro d hd
    obtain ⟨q, _, rfl⟩ := List.mem_map.mp hd
    exact isF_eF q
  have h2 : ((p.map eF).isEmpty || !PyData.eqv ((p.map eF).getD ((p.map eF).length - 1) .none) (eF 0)) = decide (Own p) := by
    cases p with
    | nil => simp [own_nil]
    | cons a r =>
      have e : ((a :: r).map eF).getD (((a :: r).map eF).length - 1) .none = eF (coef (a :: r) ((a :: r).length - 1)) := by
        rw [List.length_map, List.getD_eq_getElem?_getD, List.getElem?_map, coef_in (by rw [List.length_cons]; omega), List.getElem?_eq_getElem (by rw [List.length_cons]; omega)]
        rfl
      rw [e, eqv_eF]
      have hq : decide (Own (a :: r)) = !decide (coef (a :: r) ((a :: r).length - 1) = 0) := by
        rw [← decide_not]
        refine decide_eq_decide.mpr ⟨fun h => ?_, fun h => own_iff.mpr (.inr h)⟩
        rcases own_iff.mp h with h | h
        · cases h
        · exact h
      rw [hq]
      rfl
  show (decide ((p.map eF).length ≤ 13) && (p.map eF).all isF && ((p.map eF).isEmpty || !PyData.eqv ((p.map eF).getD ((p.map eF).length - 1) .none) (eF 0))) = _
  rw [h1, h2, List.length_map, Bool.and_true]
theorem isPo_some {x : D} (h : isPo x = true) : ∃ p : Poly, x = eP p ∧ p.length ≤ 13 ∧ Own p := by
  unfold isPo at h
  split at h
  · rename_i ds
    have h0 := h
    rw [Bool.and_eq_true, Bool.and_eq_true] at h
    obtain ⟨p, rfl⟩ := all_isF h.1.2
    have h3 : isPo (eP p) = true := h0
    rw [isPo_eP, Bool.and_eq_true] at h3
    exact ⟨p, rfl, of_decide_eq_true h3.1, of_decide_eq_true h3.2⟩
  · cases h
/-! ### sizes -/
def PZ (n : Nat) (p : Poly) : Prop := ∀ q ∈ p, Rz n q
theorem rz_zero : Rz 1 0 := by constructor <;> decide
theorem rz_one : Rz 1 1 := by constructor <;> decide
theorem PZ.mono {n m : Nat} {p : Poly} (h : PZ n p) (k : n ≤ m) : PZ m p := fun q hq => (h q hq).mono k
theorem PZ.coef {n : Nat} {p : Poly} (h : PZ n p) (hn : 0 < n) (i : Nat) : Rz n (coef p i) := by
  by_cases hi : i < p.length
  · rw [coef_in hi]
    exact h _ (List.getElem_mem hi)
  · rw [coef_out (by omega)]
    exact rz_zero.mono hn
theorem PZ.trim {n : Nat} {p : Poly} (h : PZ n p) : PZ n (trim p) := fun q hq => h q (trim_mem hq)
theorem pz_nil {n : Nat} : PZ n [] := fun q hq => by cases hq
/-! ### sums -/
def paddRaw (p q : Poly) : Poly := (List.range (max p.length q.length)).map fun i => coef p i + coef q i
def padd (p q : Poly) : Poly := trim (paddRaw p q)
theorem coef_map {n : Nat} {f : Nat → Rat} {i : Nat} : coef ((List.range n).map f) i = if i < n then f i else 0 := by
  by_cases h : i < n
  · rw [if_pos h]
    unfold coef
    rw [List.getD_eq_getElem?_getD, List.getElem?_map, List.getElem?_range h]
    rfl
  · rw [if_neg h, coef_out (by simpa using h)]
theorem coef_padd (p q : Poly) (i : Nat) : coef (padd p q) i = coef p i + coef q i := by
  unfold padd paddRaw
  rw [coef_trim, coef_map]
  split
  · rfl
  · rw [coef_out (by omega), coef_out (by omega), Rat.add_zero]
theorem own_padd (p q : Poly) : Own (padd p q) := own_trim _
theorem padd_len (p q : Poly) : (padd p q).length ≤ max p.length q.length := Nat.le_trans (trim_len _) (by unfold paddRaw; simp)
theorem pz_padd {n m : Nat} {p q : Poly} (hp : PZ n p) (hq : PZ m q) (h0 : 0 < n) (h1 : 0 < m) : PZ (n + m + 1) (padd p q) := PZ.trim fun a ha => by
  obtain ⟨i, _, rfl⟩ := List.mem_map.mp ha
  exact (hp.coef h0 i).add (hq.coef h1 i)
/-! ### products -/
def cmul : Poly → Poly → Nat → Rat
  | [], _, _ => 0
  | a :: p, q, k => a * coef q k + (match k with | 0 => 0 | k + 1 => cmul p q k)
def pmul (p q : Poly) : Poly := trim ((List.range (p.length + q.length - 1)).map (cmul p q))
theorem cmul_out : ∀ {p q : Poly} {k : Nat}, p.length + q.length ≤ k + 1 → cmul p q k = 0
  | [], _, _, _ => rfl
  | a :: p, q, 0, h => by
    have : q.length = 0 := by rw [List.length_cons] at h; omega
    show a * coef q 0 + 0 = 0
    rw [coef_out (by omega), Rat.mul_zero, Rat.zero_add]
  | a :: p, q, k + 1, h => by
    rw [List.length_cons] at h
    show a * coef q (k + 1) + cmul p q k = 0
    rw [cmul_out (by omega)]
    by_cases hq : q.length ≤ k + 1
    · rw [coef_out hq, Rat.mul_zero, Rat.zero_add]
    · omega
theorem coef_pmul (p q : Poly) (k : Nat) : coef (pmul p q) k = cmul p q k := by
  unfold pmul
  rw [coef_trim, coef_map]
  split
  · rfl
  · rw [cmul_out (by omega)]
theorem own_pmul (p q : Poly) : Own (pmul p q) := own_trim _
theorem pmul_len (p q : Poly) : (pmul p q).length ≤ p.length + q.length - 1 := Nat.le_trans (trim_len _) (by simp)
/-- one row more -/
theorem cmul_row : ∀ {p q : Poly} {i k : Nat} (h : i < p.length), cmul (p.take (i + 1)) q k = cmul (p.take i) q k + (if i ≤ k then p[i] * coef q (k - i) else 0)
  | a :: p, q, 0, k, h => by
    show a * coef q k + (match k with | 0 => 0 | k + 1 => cmul [] q k) = 0 + _
    rw [if_pos (Nat.zero_le _), Rat.zero_add]
    cases k with
    | zero => exact Rat.add_zero _
    | succ k => exact Rat.add_zero _
  | a :: p, q, i + 1, 0, h => by
    show a * coef q 0 + 0 = a * coef q 0 + 0 + _
    rw [if_neg (by omega), Rat.add_zero, Rat.add_zero]
  | a :: p, q, i + 1, k + 1, h => by
    have h' : i < p.length := by simpa using h
    show a * coef q (k + 1) + cmul (p.take (i + 1)) q k = a * coef q (k + 1) + cmul (p.take i) q k + _
    rw [cmul_row h', Rat.add_assoc]
    congr 2
    by_cases hk : i ≤ k
    · rw [if_pos hk, if_pos (by omega)]
      simp
    · rw [if_neg hk, if_neg (by omega)]
theorem rz_cmul {n m : Nat} : ∀ {p q : Poly} {k : Nat}, PZ n p → PZ m q → 0 < m → Rz (1 + p.length * (n + m + 1)) (cmul p q k)
  | [], q, k, _, _, _ => rz_zero.mono (by simp)
  | a :: p, q, k, hp, hq, h0 => by
    have h1 := (hp a List.mem_cons_self).mul (hq.coef h0 k)
    have hp' : PZ n p := fun b hb => hp b (List.mem_cons_of_mem _ hb)
    have e : 1 + (a :: p).length * (n + m + 1) = (n + m) + (1 + p.length * (n + m + 1)) + 1 := by
      rw [List.length_cons, Nat.succ_mul]
      omega
    rw [e]
    cases k with
    | zero => exact h1.add (rz_zero.mono (by omega))
    | succ k => exact h1.add (rz_cmul hp' hq h0)
theorem pz_pmul {n m : Nat} {p q : Poly} (hp : PZ n p) (hq : PZ m q) (h0 : 0 < m) : PZ (1 + p.length * (n + m + 1)) (pmul p q) := PZ.trim fun a ha => by
  obtain ⟨i, _, rfl⟩ := List.mem_map.mp ha
  exact rz_cmul hp hq h0
/-! ### worths, slopes -/
def peval (p : Poly) (x : Rat) : Rat := p.foldr (fun a t => t * x + a) 0
theorem rz_peval {n m : Nat} : ∀ {p : Poly} {x : Rat}, PZ n p → Rz m x → Rz (1 + p.length * (n + m + 1)) (peval p x)
  | [], x, _, _ => rz_zero.mono (by simp)
  | a :: p, x, hp, hx => by
    have h1 := rz_peval (p := p) (x := x) (fun b hb => hp b (List.mem_cons_of_mem _ hb)) hx
    have h2 := (h1.mul hx).add (hp a List.mem_cons_self)
    exact h2.mono (by rw [List.length_cons, Nat.succ_mul]; omega)
def pder (p : Poly) : Poly := (List.range (p.length - 1)).map fun i => coef p (i + 1) * ((i + 1 : Nat) : Rat)
/-! ### a number of times -/
def pscale (p : Poly) (c : Rat) : Poly := trim (p.map fun a => a * c)
theorem coef_mapP {p : Poly} {f : Rat → Rat} (h0 : f 0 = 0) (i : Nat) : coef (p.map f) i = f (coef p i) := by
  unfold coef
  rw [List.getD_eq_getElem?_getD, List.getD_eq_getElem?_getD, List.getElem?_map]
  cases p[i]? with
  | none => exact h0.symm
  | some a => rfl
theorem coef_pscale (p : Poly) (c : Rat) (i : Nat) : coef (pscale p c) i = coef p i * c := by
  unfold pscale
  rw [coef_trim, coef_mapP (Rat.zero_mul c)]
theorem own_pscale (p : Poly) (c : Rat) : Own (pscale p c) := own_trim _
theorem pscale_len (p : Poly) (c : Rat) : (pscale p c).length ≤ p.length := Nat.le_trans (trim_len _) (by simp)
theorem pz_pscale {n m : Nat} {p : Poly} {c : Rat} (hp : PZ n p) (hc : Rz m c) : PZ (n + m) (pscale p c) := PZ.trim fun a ha => by
  obtain ⟨b, hb, rfl⟩ := List.mem_map.mp ha
  exact (hp b hb).mul hc
end An
namespace An
open PySem PySem.Spec PyProof.Rows L2
section
variable {X : Cx} {k : Nat}
theorem od_eqI {i j : Int} (g : Gx X k) : OpD X (compareOp .Eq) (.int i) (.int j) (.bool (decide (i = j))) := by
  have h := od_eq (X := X) g (sh_int (n := 0) (i := i)).ok0 (sh_int (n := 0) (i := j)).ok0
  have e : PyData.eqv (.int i) (.int j) = decide (i = j) := by
    simp only [PyData.eqv]
    by_cases z : i = j <;> simp [z]
  rw [e] at h
  exact h
theorem od_neI {i j : Int} (g : Gx X k) : OpD X (compareOp .NotEq) (.int i) (.int j) (.bool (decide (i ≠ j))) := by
  have h := od_ne (X := X) g (sh_int (n := 0) (i := i)).ok0 (sh_int (n := 0) (i := j)).ok0
  have e : (!PyData.eqv (.int i) (.int j)) = decide (i ≠ j) := by
    simp only [PyData.eqv]
    by_cases z : i = j <;> simp [z]
  rw [e] at h
  exact h
theorem od_eqF {a b : Rat} (g : Gx X k) : OpD X (compareOp .Eq) (eF a) (eF b) (.bool (decide (a = b))) := by
  have h := od_eq (X := X) g (sh_eF a).ok1 (sh_eF b).ok1
  rw [eqv_eF] at h
  exact h
theorem od_neF {a b : Rat} (g : Gx X k) : OpD X (compareOp .NotEq) (eF a) (eF b) (.bool (decide (a ≠ b))) := by
  have h := od_ne (X := X) g (sh_eF a).ok1 (sh_eF b).ok1
  rw [eqv_eF, ← decide_not] at h
  exact h
theorem od_eqP {a b : Poly} (g : Gx X k) : OpD X (compareOp .Eq) (eP a) (eP b) (.bool (decide (a = b))) := by
  have h := od_eq (X := X) g (sh_eP a).ok2 (sh_eP b).ok2
  rw [eqv_eP] at h
  exact h
theorem od_neP {a b : Poly} (g : Gx X k) : OpD X (compareOp .NotEq) (eP a) (eP b) (.bool (decide (a ≠ b))) := by
  have h := od_ne (X := X) g (sh_eP a).ok2 (sh_eP b).ok2
  rw [eqv_eP, ← decide_not] at h
  exact h
end
/-! kinds -/
theorem isT_tuple {x : D} (h : isT x "tuple" = true) : ∃ ys, x = .tuple ys := by
  cases x with
  | tuple ys => exact ⟨ys, rfl⟩
  | _ => simp [isN, tyN] at h
theorem isT_list {x : D} (h : isT x "list" = true) : ∃ ys, x = .list ys := by
  cases x with
  | list ys => exact ⟨ys, rfl⟩
  | _ => simp [isN, tyN] at h
def isI : D → Bool
  | .int _ => true
  | _ => false
theorem isI_eq (x : D) : (isT x "int" && !isT x "bool") = isI x := by
  cases x <;> simp [isN, tyN, isI]
end An
namespace An
theorem noO (z : Ow) : Sl.no ≠ .own z := fun e => nomatch e
theorem datO {d : D} (z : Ow) : Sl.dat d ≠ .own z := fun e => nomatch e
theorem valO {d : L2.V} (z : Ow) : Sl.val d ≠ .own z := fun e => nomatch e
theorem fixO {F : Fix} (z : Ow) : Sl.fix F ≠ .own z := fun e => nomatch e
end An
namespace An
open PySem PySem.Spec PyProof.Rows L2
theorem ei_is {R : Hp → Hp → Prop} {X : Cx} {γ : List Sl} {tg it : Expr} {ds ds' : List D} (h : EI R X γ tg it ds) (e : ds = ds') : EI R X γ tg it ds' := by
  rw [← e]
  exact h
end An

/-! While an exception is handled: a list walked to its end, a list comprehension, sum. -/
namespace An
open PySem PySem.Spec PyProof.Rows L2 HotX L2H
section
variable {prog : Program} {w : World} {A : Around} {E : Value → Shared → Prop} {s : Shared}
theorem ext_new {h1 h2 : Heap} {it : Addr} {o1 o2 : Obj} {f : Obj → Obj} (e : Heap.ExtBut it h1 h2) : Heap.ExtBut it h1 (((h2.push o1).push o2).update (h2.push o1).objs.size f) := fun b o hb g => by
  have g1 := Heap.get?_push_of_some o2 (Heap.get?_push_of_some o1 (e b o hb g))
  rw [Heap.get?_update_other _ _ (Nat.ne_of_gt (Heap.lt_size (Heap.get?_push_of_some o1 (e b o hb g))))]
  exact g1
theorem next_list_end_hot {it l x1 : Addr} {i : Nat} {items : Array Value} {Q : Option Value → Shared → Prop} (hot : HotAt A x1 s.heap) (ne : x1 ≠ it) (hi : s.heap.IsListIter it l i) (hl : s.heap.IsList l items) (hx : items[i]? = none)
    (hQ : ∀ h', Heap.ExtBut it s.heap h' → Q none { s with heap := h' }) : wpAny (model prog w) A (pyNext (.ref it)) Q E s := by
  obtain ⟨o, ho, hc, hd⟩ := id hi
  obtain ⟨ol, hol, _, nl, hdl⟩ := hl
  obtain ⟨hh, o1, vs1, h1, d1, c1⟩ := hot
  unfold pyNext
  refine wpAny_bind (wpAny_attempt (wpAny_callSpecial?_slot (name := Str.ofString "__next__") hi.typeIs slot_listiter_next (wpAny_call_entry slot_listiter_next hi.typeIs entry_listiter_next ?_ (args_listiter_next _))))
  show wpAny _ _ (field (.ref it) 0 >>= _) _ _ _
  refine wpAny_bind (wpAny_field ho hd (x := .ref l) rfl ?_)
  show wpAny _ _ (if (Value.ref l == Value.none) = true then _ else _) _ _ _
  rw [if_neg (show ¬ (Value.ref l == Value.none) = true from Bool.false_ne_true)]
  show wpAny _ _ (field (.ref it) 1 >>= _) _ _ _
  refine wpAny_bind (wpAny_field ho hd (x := .int i 0) rfl ?_)
  show wpAny _ _ (seqItems? (.ref l) >>= _) _ _ _
  refine wpAny_bind (wpAny_seqItems hol hdl ?_)
  simp only [Int.toNat_natCast, hx]
  refine wpAny_bind (wpAny_rule (wpAny_bind (wpAny_setField ho hd (by simp) ?_)))
  show wpAny _ _ (newExc (.type "StopIteration") [] >>= _) _ _ _; refine wpAny_bind ?_; simp only [newExc, newTuple]
  refine wpAny_bind (wpAny_newObj_type ?_ (by size_fits))
  refine wpAny_bind (m := firstArgMember _ _) (wpAny_of_eq (a := Value.none) (by first | rfl | (simp only [firstArgMember]; rfl)) ?_); refine wpAny_newObj_type ?_ (by size_fits)
  have k1 := (Heap.get?_update_other s.heap (Obj.mapFields (·.setIfInBounds 0 Value.none)) (Ne.symm ne)).trans h1
  refine raiseNew_hot (x1 := x1) ⟨hh, o1, vs1, Heap.get?_push_of_some _ (Heap.get?_push_of_some _ k1), d1, c1⟩ (Nat.ne_of_lt (Heap.lt_size (Heap.get?_push_of_some _ k1))) (Heap.get?_push_size _ rfl) rfl (by first | (simp; done) | (simp; omega)) ?_
  refine wpAny_bind (wpAny_isInstance (T := "StopIteration") (b := true) ⟨_, Heap.get?_update_self _ (Heap.get?_push_size _ rfl) rfl, rfl⟩ isSubtype_stop ?_)
  exact wpAny_pure (hQ _ (ext_new (Heap.SameBut.update ..).extBut))
/-- a list walked while x1 is handled -/
theorem walksH (I ax x1 : Addr) (hne : ax ≠ I) (n1 : x1 ≠ I) (items : Array Value) : Walks prog w A I [I, ax, x1] [I] items.size (fun i v => items[i]? = some v) (fun i h => h.IsListIter I ax i ∧ h.IsList ax items ∧ HotAt A x1 h) where
  sub := fun b hb => by
    rw [List.mem_singleton.mp hb]
    exact List.mem_cons_self
  frame := fun i h h' ⟨a, b, c, o, vs, d, e⟩ k => ⟨a.at fun o z => k I (by simp) o z, b.at fun o z => k ax (by simp) o z, c, o, vs, k x1 (by simp) o d, e⟩
  item := fun i s Q E hi ⟨a, b, c, o, vs, d, e⟩ hQ => wpAny_pyNext_list_item a b (x := items[i]) (by simp [hi]) fun h' hit hs =>
    hQ _ h' s.toks (by simp [hi]) ⟨hit, b.extBut hs.extBut hne, c, o, vs, hs.extBut x1 o n1 d, e⟩ fun b o hb z => hs.extBut b o (fun y => hb (by simp [y])) z
  done := fun s Q E ⟨a, b, c⟩ hQ => next_list_end_hot c n1 a b (by simp) fun h' e => hQ h' s.toks fun b o hb z => e b o (fun y => hb (by simp [y])) z
  self := fun _ _ _ _ st hQ => wpAny_pyIter_listiter st.1 hQ
theorem sum_hot {l x1 : Addr} {xs : Array (Int × Tok)} {Q : Value → Shared → Prop} (hot : HotAt A x1 s.heap) (hl : s.heap.IsList l (intItems xs))
    (h : ∀ h' tk t', (∀ b o, s.heap.get? b = some o → h'.get? b = some o) → Q (.int (preSum (numAt xs) xs.size) t') { s with heap := h', toks := tk }) : wpAny (model prog w) A (call (.builtin "sum") [.ref l]) Q E s := by
  refine call_sum_walkG (iter_intList hl fun s2 e st hfp hlI => ?_)
  subst e
  obtain ⟨hh, o1, vs1, h1, d1⟩ := hot
  have lt1 := Heap.lt_size h1
  refine ⟨_, _, _, _, _, _, numAt xs, rfl, walksH (A := A.in1) _ l x1 hlI (Nat.ne_of_lt lt1) (intItems xs), ⟨st.1, st.2, hh, o1, vs1, Heap.get?_push_of_some _ h1, d1⟩, fun b hb => ?_, (fun _ _ => intItems_at), fun h' tk t' hk => ?_⟩
  · rcases List.mem_cons.mp hb with z | hb
    · exact hfp b (by rw [z]; exact List.mem_cons_self)
    · rcases List.mem_cons.mp hb with z | hb
      · exact hfp b (by rw [z]; exact List.mem_cons_of_mem _ List.mem_cons_self)
      · rw [List.mem_singleton.mp hb]
        exact Nat.lt_of_lt_of_le lt1 (by show _ ≤ (s.heap.push _).objs.size; rw [Heap.size_push]; exact Nat.le_succ _)
  · have q := h h' tk t' (old_kept hk)
    simpa [intItems] using q
end
section
variable {X : Cx}
theorem cr_sumH (hc : HotC X) : CallR X (.builtin "sum") (rSum X.K) := by
  intro pins s σ H vs us Q I r h
  obtain ⟨a, ns, rfl, hs, q⟩ := h
  obtain ⟨its, rv, hl, _⟩ := I.list hs
  rw [Vals.ref1 r]
  obtain ⟨x1, hot⟩ := hc.at I
  have hi := rv.ints
  obtain ⟨xs, e⟩ := hi.allInts.items
  have hn : numsOf (intItems xs).toList = ns := by
    rw [← e]
    exact hi.numsOf
  rw [nums_intItems] at hn
  subst hn
  have hl' := hl.isList
  rw [e] at hl'
  refine sum_hot hot hl' fun h' tk t' hk => ⟨.int _, H, I.kept hk, ⟨t', ?_⟩, q⟩
  rw [preSum_eq, List.take_of_length_le (by simp)]
/-- a block that starts while p is handled -/
abbrev hblk (X : Cx) (p : Addr × Obj) (s : Shared) (H : Hp) (scope : Scope) (ce : Env) (fp : List Addr) : Cx := blkP X [p] s H scope ce fp
theorem inv_hblk {p : Addr × Obj} {pins : List (Addr × Obj)} {σ σ' : L2.St} {H : Hp} {s s4 : Shared} {scope : Scope} {ce : Env} {fp : List Addr} (I : Inv X pins σ H s) (hp : p ∈ X.pn) (J : Inv (X.blk s H scope ce fp) [] σ' H s4)
    (hk : ∀ b o, s.heap.get? b = some o → s4.heap.get? b = some o) (hL : ce.locals = s.heap.objs.size) : Inv (hblk X p s H scope ce fp) [] σ' H s4 := by
  obtain ⟨⟨o1, o2, o3, o4, o5, o6, o7, o8, o9, o10, o11, o12, o13, o14, o15, o16, o17, o18⟩, j1, j2, j3, j4, j5, j6, j7, _, j8, j9⟩ := J
  refine ⟨⟨o1, o2, o3, o4, o5, o6, o7, o8, o9, o10, o11, o12, o13, o14, o15, o16, o17, o18⟩, j1, j2, j3, j4, j5, j6, j7, fun q hq => ?_, j8, j9⟩
  have e : q = p := by simpa using (show q ∈ [p] ++ ([] : List (Addr × Obj)) from hq)
  rw [e]
  obtain ⟨a1, a2, a3, a4, a5⟩ := I.pin p (List.mem_append_left _ hp)
  refine ⟨hk _ _ a1, a2, ?_, fun z => ?_, a5⟩
  · show p.1 ≠ ce.locals
    rw [hL]
    exact Nat.ne_of_lt (Heap.lt_size a1)
  · exact (List.mem_cons.mp (I.stkSub p.1 z)).elim a3 a4
theorem turnH_list {P : Program} {w : World} {K : PySem.W.Frag} {tg : Expr} (a it : Addr) : TurnH P w K tg (Itl K a) [it] it (fun i h => h.IsListIter it a i) where
  mem := List.mem_singleton.mpr rfl
  obj := fun i h ⟨o, e, c, d⟩ b hb => by
    rw [List.mem_singleton.mp hb]
    exact ⟨o, e, fun v z => by rw [d] at z; cases z⟩
  keep := fun i h h' st k => st.at fun o e => k it (List.mem_singleton.mpr rfl) o e
  item := by
    rintro X rfl rfl rfl hc i pins s σ H E I hf st ⟨xs, x, hq, hx⟩
    obtain ⟨its, rv, p, hz⟩ := I.list hq
    obtain ⟨u, hu, ru⟩ := rv.get hx
    obtain ⟨f0, f1, f2, f3, f4, f5⟩ := hf it (List.mem_singleton.mpr rfl)
    refine wpAny_pyNext_list_item st p.isList (x := u) (by simpa using hu) fun h' st' sb => ?_
    obtain ⟨o, e, c, d⟩ := id st'
    have I1 : Inv X pins σ H { s with heap := h' } := I.turned (t' := s.toks) (fun b o hb e => (sb.2 b hb).trans e) f0 f1 f3 f4 f5
    refine ⟨u, rfl, go_of (s := { s with heap := h' }) e c d (by decide) ⟨x, H, I1, ru, ⟨rfl, fun ys hy => ?_⟩, st', fun b hb => (hf b hb).1⟩⟩
    rw [I.list_inj hy hq]
    exact hx
  done := by
    rintro X rfl rfl rfl hc i pins s σ H E I hf st ⟨xs, hq, hx⟩
    obtain ⟨its, rv, p, hz⟩ := I.list hq
    obtain ⟨f0, f1, f2, f3, f4, f5⟩ := hf it (List.mem_singleton.mpr rfl)
    have hl := rv.length
    obtain ⟨p1, ⟨hh, v1, e1, c1⟩, hp⟩ := hc
    have P1 := I.pin p1 (List.mem_append_left _ hp)
    refine next_list_end_hot (x1 := p1.1) ⟨hh, p1.2, v1, P1.1, e1, c1⟩ (f5 p1 (List.mem_append_left _ hp)) st p.isList (by simp; omega) fun h' eb => ⟨rfl, I.turned (t' := s.toks) (fun b o hb e => eb b o hb e) f0 f1 f3 f4 f5⟩
  self := fun _ _ _ _ _ st h => wpAny_pyIter_listiter st h
theorem piH_list {tg l : Expr} {tl : TE} (hl : PE X l tl) : PIH X tg l (iList X.K tl) := ⟨fun pins s σ H R I h => thn (hl.run pins s σ H _ I h) fun v s1 ⟨x, H1, I1, r1, q1⟩ => by
  obtain ⟨a, e, ⟨xs, hq⟩, q⟩ := q1
  subst e
  cases r1
  obtain ⟨its, rv, p, hz⟩ := I1.list hq
  refine wpAny_pyIter_list p.isList ⟨s1.heap.objs.size, [s1.heap.objs.size], _, _, H1, rfl, I1.kept (t' := s1.toks) fun b o e => Heap.get?_push_of_some _ e, turnH_list a _, ⟨_, Heap.get?_push_size _ rfl, rfl, rfl⟩, fun b hb => ?_, q⟩
  rw [List.mem_singleton.mp hb]
  exact I1.fpOk (Nat.le_refl _) (I1.hok.fresh (Nat.le_refl _))⟩
/-- [elt for target in iter] while p is handled -/
theorem pe_lcH {p : Addr × Obj} {elt tg iter : Expr} {ifs : List Expr} {scope : Scope} {own : List (Str × Nat)} {pos : Pos} {wi : TI} {g : TG} {tt : TT} {te : TE} (ho : Hot1 X.A p) (hp : p ∈ X.pn) (hN : X.N.Nodup) (hi : PIH X tg iter wi) (ok : BlkOk X.N X.env.scope scope own)
    (hg : ∀ (s : Shared) (H : Hp) (C : Addr) (cl : List (Str × Addr)) (fp : List Addr), PG (hblk X p s H scope (compEnvC scope cl C X.env) fp) tg g)
    (ht : ∀ (s : Shared) (H : Hp) (C : Addr) (cl : List (Str × Addr)) (fp : List Addr), PTs (hblk X p s H scope (compEnvC scope cl C X.env) fp) ifs tt)
    (he : ∀ (s : Shared) (H : Hp) (C : Addr) (cl : List (Str × Addr)) (fp : List Addr), PE (hblk X p s H scope (compEnvC scope cl C X.env) fp) elt te) (hs : ∀ x, foldedSetIterable iter X.env x = pure x := by intro _; rfl) :
    PE X (.ListComp elt [⟨tg, iter, ifs, 0⟩] scope pos) (tLc wi g tt te (own.map (·.2))) := by
  refine ⟨fun pins s σ H Q I h => ?_⟩
  rw [eval_ListComp]
  have hfree : ∀ y ∈ scope.names, y.2 = .free → ∃ c, X.env.cells.lookup y.1 = some c := fun y hy e => (ok.free y hy e).elim (fun k => I.ok.has _ (.inl k)) fun k => I.ok.has _ (.inr k)
  refine wpAny_comprehension_free (use := none) rfl hs (closure_ok hfree) ok.kind (fun y hy e => by rw [ok.uniq y hy, e]) (thn (hi.run pins s σ H _ I h) fun xv s1 hx => thn hx fun itv s2 ⟨it, fp, tn, J, H2, e, I2, T, st2, f2, q⟩ => ?_)
  subst e
  refine wpAny_newObj_type (newEnv_comp ?_) (by show 0 ≤ sizeLine; decide)
  generalize hD : s2.heap.objs.size = D
  obtain ⟨W, ⟨m0, w0⟩, turn⟩ := q D (I2.hok.fresh (Nat.le_of_eq hD))
  generalize hs3 : ({ s2 with heap := s2.heap.push { cls := .type "list", data := .seq ([] : List Value).toArray } } : Shared) = s3
  have h3 : s3.heap = s2.heap.push { cls := .type "list", data := .seq ([] : List Value).toArray } := by rw [← hs3]
  have I3 : Inv X pins σ (upd H2 D (.lst [])) s3 := by
    rw [← hs3]
    refine I2.laid (t' := s2.toks) (fun b o e => Heap.get?_push_of_some _ e) (Nat.le_of_eq hD) ⟨Nat.zero_le _, [], 0, .nil, ?_⟩
    rw [← hD]; exact Heap.get?_push_size _ rfl
  have f3 : ∀ b ∈ fp, FpOk X pins (upd H2 D (.lst [])) b ∧ b < s3.heap.objs.size := fun b hb => by
    obtain ⟨o, e, _⟩ := T.obj _ _ st2 b hb
    have hlt := Heap.lt_size e
    have f := f2 b hb
    refine ⟨⟨?_, f.2⟩, ?_⟩
    · rw [upd_ne (by rw [← hD]; exact Nat.ne_of_lt hlt)]
      exact f.1
    · rw [h3, Heap.size_push]
      exact Nat.lt_succ_of_lt hlt
  have st3 : tn 0 s3.heap := T.keep _ _ _ st2 fun b _ o e => by
    rw [h3]
    exact Heap.get?_push_of_some _ e
  generalize hcl : cellsFrom (s3.heap.objs.size + 1) scope.names (cloFrom X.env.cells scope.names []) = cl
  have I4 := block_start I3 ok hN f3
  rw [hcl] at I4
  have kk : ∀ b o, s3.heap.get? b = some o → (pushCells (s3.heap.push { cls := .type "dict", data := .dict #[] }) scope.names).get? b = some o := fun b o e => pushCells_keeps _ _ _ _ (Heap.get?_push_of_some _ e)
  have I4 := inv_hblk I3 hp I4 kk rfl
  have pg := hg s3 (upd H2 D (.lst [])) s3.heap.objs.size cl fp
  have pt := ht s3 (upd H2 D (.lst [])) s3.heap.objs.size cl fp
  have pe := he s3 (upd H2 D (.lst [])) s3.heap.objs.size cl fp
  show codeAny _ _ (.compStart (.ListComp elt [⟨tg, iter, ifs, 0⟩] scope pos) 0 (.ref it) (.ref D) (compEnvC scope cl s3.heap.objs.size X.env)) (compPost (model X.prog X.w) X.A X.xe none (EP X pins σ Q) (.ref D) s3.heap.objs.size) { s3 with heap := pushCells (s3.heap.push { cls := .type "dict", data := .dict #[] }) scope.names }
  have nfp : ∀ b ∈ fp, upd H2 D (.lst []) b = none := fun b hb => (f3 b hb).1.1
  generalize hce : compEnvC scope cl s3.heap.objs.size X.env = ce at I4 pg pt pe ⊢
  have cL : ce.locals = s3.heap.objs.size := by
    subst hce
    rfl
  generalize hH3 : upd H2 D (.lst []) = H3 at I3 I4 pg pt pe w0 nfp f3
  generalize hs4 : ({ s3 with heap := pushCells (s3.heap.push { cls := .type "dict", data := .dict #[] }) scope.names } : Shared) = s4 at I4 ⊢
  have st4 : tn 0 s4.heap := T.keep _ _ _ st3 fun b _ o e => by
    rw [← hs4]
    exact kk b o e
  have hcB : HotC (hblk X p s3 H3 scope ce fp) := ⟨p, ho, List.mem_singleton.mpr rfl⟩
  have stat : ∀ {σ' : L2.St} {H' : Hp} {s' : Shared}, Inv (hblk X p s3 H3 scope ce fp) [] σ' H' s' → (∀ b ∈ fp, H' b = none) → ∀ b ∈ fp, FpOk (hblk X p s3 H3 scope ce fp) [] H' b := fun {σ' H' s'} I' hn b hb => by
    refine ⟨hn b hb, (I'.ok.exf b hb).1, I'.ok.exfs b hb, .inl hb, fun x c e => (I'.ok.exf b hb).2 x c e, fun r hr => ?_⟩
    have e : r = p := by simpa using (show r ∈ [p] ++ ([] : List (Addr × Obj)) from hr)
    rw [e]
    exact (f3 b hb).1.2.2.2.2.2 p (List.mem_append_left _ hp)
  have loop : codeAny (model X.prog X.w) X.A (.compLoop (.ListComp elt [⟨tg, iter, ifs, 0⟩] scope pos) 0 (.ref it) (.ref D) ce) (compPost (model X.prog X.w) X.A X.xe none (EP X pins σ Q) (.ref D) s3.heap.objs.size) s4 := by
    refine compLoop_any (fun n s' => ∃ i H', Inv (hblk X p s3 H3 scope ce fp) [] (wipe σ (own.map (·.2))) H' s' ∧ tn i s'.heap ∧ (∀ b ∈ fp, H' b = none) ∧ W i n H') ?_ m0 ⟨0, H3, I4, st4, nfp, w0⟩
    rintro n s5 ⟨i, H5, I5, st5, n5, w5⟩
    rcases turn i n H5 w5 with ⟨stop, qq⟩ | ⟨go, Nx, hNx, step⟩
    · refine thnF (T.done (hblk X p s3 H3 scope ce fp) rfl rfl rfl hcB i [] s5 _ H5 (fun _ _ => False) I5 (stat I5 n5) st5 stop) fun r s6 ⟨hr, I6⟩ => ?_
      subst hr
      have I7 : Inv X pins σ H5 s6 := I3.call' (ch := fp) I6.os I6.base I6.hok I6.bare fun b hb => let f := (f3 b hb).1; ⟨f.2.2.2.1, f.2.1, f.2.2.2.2.1, f.2.2.2.2.2⟩
      have nC : H5 s3.heap.objs.size = none := by
        rw [← cL]
        exact I6.free
      obtain ⟨m, hn, _⟩ := I6.loc
      have hn : s6.heap.Ns ce.locals m := hn
      rw [cL] at hn
      obtain ⟨f0, f1, f2, f3, f4, f5⟩ := I3.fpOk (Nat.le_refl _) nC
      exact ⟨m, hn, fun h2 sb => ⟨.ref D, H5, I7.turned (t' := s6.toks) (fun b o hb e => (sb.2 b hb).trans e) f0 f1 f3 f4 f5, rfl, qq⟩⟩
    · refine thnF (T.item (hblk X p s3 H3 scope ce fp) rfl rfl rfl hcB i [] s5 _ H5 (fun _ _ => False) I5 (stat I5 n5) st5 go) fun r s6 ⟨u, hr, h6⟩ => ?_
      subst hr
      refine thnF h6 fun _ s7 ⟨x, H7, I7, r7, y7, st7, n7⟩ => ?_
      refine thnF (pg.run _ s7 _ H7 x u _ (I7.pinned (stat I7 n7) (T.obj _ _ st7)) r7 (step x H7 y7)) fun _ s8 ⟨σ8, H8, I8, hw8, q8⟩ => ?_
      refine thnF (pt.run _ s8 σ8 H8 _ I8 q8) fun b s9 ⟨H9, I9, q9⟩ => ?_
      have fin : ∀ {s' : Shared} {H' : Hp}, Inv (hblk X p s3 H3 scope ce fp) ([] ++ pinsAt fp s7.heap) σ8 H' s' → Nx H' → ∃ m, m < n ∧ ∃ i H', Inv (hblk X p s3 H3 scope ce fp) [] (wipe σ (own.map (·.2))) H' s' ∧ tn i s'.heap ∧ (∀ b ∈ fp, H' b = none) ∧ W i m H' := fun {s' H'} I' nx => by
        obtain ⟨m', hm, w'⟩ := hNx H' nx
        have pin' : ∀ b ∈ fp, ∀ o, s7.heap.get? b = some o → s'.heap.get? b = some o ∧ H' b = none := fun b hb o e => (I'.pin (b, o) (List.mem_append_right _ (List.mem_append_right _ (mem_pinsAt hb e)))).imp id And.left
        refine ⟨m', hm, i + 1, H', (I'.unpinned (pins := [])).weak (by rw [← hw8, wipe_length]) (fun j v e => ?_), T.keep _ _ _ st7 fun b hb o e => (pin' b hb o e).1, fun b hb => ?_, w'⟩
        · rw [← hw8] at e
          exact (wipe_some e).1
        · obtain ⟨o, e, _⟩ := T.obj _ _ st7 b hb
          exact (pin' b hb o e).2
      cases b with
      | false =>
        simp only [Bool.false_eq_true, if_false] at q9 ⊢
        exact fin I9 q9
      | true =>
        simp only [if_true] at q9 ⊢
        exact thnF (pe.run _ s9 σ8 H9 _ I9 q9) fun z s10 ⟨yv, H10, I10, r10, acc, hD10, hz10, nx⟩ => app_ok (X := hblk X p s3 H3 scope ce fp) I10 hD10 hz10 r10 fun s11 I11 => fin I11 nx
  exact codeAny_compStart_list loop (T.self X.A 0 _ _ _ st4 loop)
/-- isinstance(e, c), e the exception that is handled -/
theorem call_isP {D : Addr} {p : Addr × Obj} (C : ExcC X.K D) (hp : p ∈ X.pn) (hz : Zc (.ref D) none p.2) (hf : ∃ vs, p.2.data = .fields vs) : CallR X (.builtin "isinstance") (rIsE X.K D p.1) := by
  intro pins s σ H xs us Q I r h
  obtain ⟨c, cv, b, rfl, hcv, e, q⟩ := h
  obtain ⟨a, oe⟩ := p
  obtain ⟨hget, _⟩ := I.pin (a, oe) (List.mem_append_left _ hp)
  cases r with
  | cons rx rr => cases rr with
    | cons rt rr =>
      cases rr
      cases rx
      have ec := hcv _ rt
      subst ec
      obtain ⟨vs, hv⟩ := hf
      obtain ⟨oc, od, oda, osl⟩ := oe
      obtain ⟨h1, h2⟩ := hz
      dsimp only at h1 h2 hv hget
      subst h1 h2 hv
      exact PySem.W.kia_one (PySem.W.handS_kitx_exc C.hg C.hk C.hs C.hd C.ha C.hn C.ht C.hm) I.kIn (PySem.W.InstAt.mk hget rfl rfl trivial) e (fun z => nomatch z) fun tk => ⟨.bl b, H, I.kept (t' := tk) fun _ _ z => z, rfl, q⟩
end
section
variable {R : Hp → Hp → Prop} [RelC R] {X : Cx} {γ : List Sl} {pos : Pos}
/-- a class by its name -/
def ClN (X : Cx) (nm : Str) (c : V) (u : Value) : Prop := Gl X nm ∧ (nm == ("__debug__" : Str)) = false ∧ RelV c u ∧ (∀ u', RelV c u' → u' = u) ∧ (X.mg nm = some u ∨ (X.mg nm = none ∧ bootBuiltins nm = some u ∧ nm ≠ "__name__"))
theorem pe_cl {nm : Str} {c : V} {u : Value} {q : Pos} (h : ClN X nm c u) : PE X (.Name nm q) (tC c) := by
  obtain ⟨h1, h2, h3, _, h4 | ⟨h4, h5, h6⟩⟩ := h
  · exact pe_glob h1 h4 h3 h2
  · exact pe_bltn h1 h4 h5 h3 h6 h2
theorem ee_isP {D : Addr} {pr : Addr × Obj} {x nm : Str} {c : V} {u : Value} {b : Bool} {p0 p1 p2 : Pos} (i : Nat) (hc : ClN X nm c u) (C : ExcC X.K D) (hp : pr ∈ X.pn) (hz : Zc (.ref D) none pr.2) (hf : ∃ vs, pr.2.data = .fields vs) (hk : PySem.W.kitOne X.K (.ref D) u = some b)
    (hm : X.mg "isinstance" = none) (hi : γ[i]? = some (.val (.ref pr.1)) := by rfl) (hN : X.N[i]? = some x := by rfl)
    (hv : Vis X.env.scope x := by first | exact Or.inl rfl | exact Or.inr (Or.inl rfl) | exact Or.inr (Or.inr rfl)) (hd : (x == ("__debug__" : Str)) = false := by decide) (hcd : (x == ("__classdict__" : Str)) = false := by decide)
    (hg : Gl X "isinstance" := by rfl) (he : starEach [.Name x p1, .Name nm p2] X.env = (false, eval (.Name x p1) X.env) :: starEach [.Name nm p2] X.env := by rfl) (he2 : starEach [.Name nm p2] X.env = (false, eval (.Name nm p2) X.env) :: starEach [] X.env := by rfl) (hpl : (backTo pos (starEach [.Name nm p2] X.env)).any (·.1) = false := by rfl) :
    EE R X γ (.Call (.Name "isinstance" p0) [.Name x p1, .Name nm p2] [] pos) (.bool b) := fun H0 S0 σ H Q s k =>
  we_of (pe_callB (call_isP C hp hz hf) hg hm PyProof.Rows.boot_isinstance (pa_cons (pe_var hN hv hd hcd) (pa_cons (pe_cl hc) pa_nil he2) he) (by decide) (by decide) he hpl) ⟨_, s.val i _ hi, c, u, b, rfl, hc.2.2.2.1, hk, k _ H (s.ref) (.bl _)⟩
/-- [int(x) for x in xs] while p is handled -/
theorem ef_mapH {pr : Addr × Obj} {elt l : Expr} {scope : Scope} (x : Str) (j : Nat) {ds : List D} {tp : Pos} (o : D → D) (ho : Hot1 X.A pr) (hp : pr ∈ X.pn) (hN : X.N.Nodup) (hi : EE R X γ l (.list ds)) (ok : BlkOk X.N X.env.scope scope [(x, j)])
    (hg : ∀ (s : Shared) (H : Hp) (C : Addr) (cl : List (Str × Addr)) (fp : List Addr), PG (hblk X pr s H scope (compEnvC scope cl C X.env) fp) (.Name x tp) (gName j)) (hown : ∀ es, γ[j]? ≠ some (.own es))
    (ht : ∀ d ∈ ds, ∀ (s : Shared) (H : Hp) (C : Addr) (cl : List (Str × Addr)) (fp : List Addr), EE R (hblk X pr s H scope (compEnvC scope cl C X.env) fp) (γ.set j (.dat d)) elt (o d))
    (hl : ds.length ≤ 1000) (hs : ∀ x, foldedSetIterable l X.env x = pure x := by intro _; rfl) : EF R X γ (.ListComp elt [⟨.Name x tp, l, [], 0⟩] scope pos) (ds.map o) := by
  have h := lc_gen (mk := fun t => PE X (.ListComp elt [⟨.Name x tp, l, [], 0⟩] scope pos) t) (R := R) (γ := γ) (X := X) (scope := scope) (elt := elt) (tg := .Name x tp) (iter := l) (ifs := []) (own := [(x, j)]) (g := gName j) (L := ds.map fun d => (d, some (o d))) (wi := iList X.K (we X l)) [pr]
    (fun H0 S0 σ H Rk s k => hi H0 S0 σ H _ s fun v H1 r1 d1 => by
      cases d1 with
      | lst h1 h2 => exact ⟨_, rfl, ⟨_, (.inl (rd_keep off_in h1))⟩, k _ H1 r1 (by rw [List.map_map, show ((fun q : D × Option D => q.1) ∘ fun d => (d, some (o d))) = id from rfl, List.map_id]; exact itd_list (.lst h1 h2))⟩)
    (fun tt te h1 h2 => pe_lcH ho hp hN (piH_list pe_we) ok hg h1 h2 hs) (fun i hi es => by
      have e : i = j := by simpa using hi
      rw [e]
      exact hown es) (fun q hq => by
      obtain ⟨d, hd, rfl⟩ := List.mem_map.mp hq
      refine ⟨γ.set j (.dat d), ?_, fun H0 S0 σ H v Q s h k => ?_, fun _ _ _ _ _ => .inl ⟨rfl, rfl⟩, fun r e => by cases e; exact ht d hd⟩
      · show (γ.set j (.dat d)).set j .no = γ.set j .no
        rw [List.set_set]
      · show Q ((σ.set j none).set j (some v)) H
        refine k _ ?_ ?_
        · show ((σ.set j none).set j (some v)).set j none = σ.set j none
          rw [List.set_set, List.set_set]
        · have s3 : SI R X.K H0 S0 ((γ.set j .no).set j (.dat d)) ((σ.set j none).set j (some v)) H := s.putD j h
          rw [show (γ.set j .no).set j (.dat d) = γ.set j (.dat d) from List.set_set ..] at s3
          exact s3) (by rw [List.length_map]; exact hl)
  rw [List.filterMap_map, show ((fun q : D × Option D => q.2) ∘ fun d => (d, some (o d))) = (some ∘ o) from rfl, List.filterMap_eq_map] at h
  exact h.ef
theorem ee_sumH {a : Expr} {ns : List Int} {p : Pos} (ha : EE R X γ a (.list (ns.map .int))) (hc : HotC X) (hm : X.mg "sum" = none) (hg : Gl X "sum" := by rfl) (he : starEach [a] X.env = (false, eval a X.env) :: starEach [] X.env := by rfl) (hpl : (backTo pos (starEach [] X.env)).any (·.1) = false := by rfl) :
    EE R X γ (.Call (.Name "sum" p) [a] [] pos) (.int ns.sum) := ee_callB (ea_cons ha ea_nil he) ⟨_, cr_sumH hc, fun H vs Q hd k => by
  cases hd with
  | cons d t =>
    cases t
    cases d with
    | lst h1 h2 =>
      rw [vs_ints h2] at h1
      exact ⟨_, ns, rfl, .inl h1, k _ fun _ => .int _⟩⟩ hm PyProof.Rows.boot_sum hg (by decide) (by decide) he hpl
/-- xs.index(True) -/
theorem ee_indexT {l b : Expr} {bs : List Bool} (j : Nat) {apos : Pos} (hl : EE R X γ l (.list (bs.map .bool))) (hb : EE R X γ b (.bool true)) (h1 : bs[j]? = some true) (h2 : ∀ m, m < j → bs[m]? = some false)
    (hbase : attributeBase l "index" X.env (eval l X.env) = eval l X.env := by rfl)
    (hfew : ((backTo pos (starEach [b] X.env)).all (fun x => !x.1) && (backToKw pos (keywordEach [] X.env)).all (fun x => x.1.isSome) && decide (([b] : List Expr).length + ([] : List Keyword).length + (if ([] : List Keyword).isEmpty then 0 else 1) < 30)) = true := by rfl)
    (hline : (apos.endLine == pos.line) = true := by rfl) (hst : starEach [b] X.env = (false, eval b X.env) :: starEach [] X.env := by rfl) (hplain : (backTo pos (starEach [] X.env)).any (·.1) = false := by rfl) :
    EE R X γ (.Call (.Attribute l "index" apos) [b] [] pos) (.int j) := fun H0 S0 σ H Q s k =>
  we_of (pe_bm PySem.F.plainAttrs_list PySem.F.slot_list_index PySem.F.type_list_index mt_index pe_we pa_wa hbase hfew hline hst hplain) (hl H0 S0 σ H _ s fun v H1 r1 d1 => by
    have d1' := d1
    cases d1 with
    | lst g1 g2 =>
      refine ⟨.inl ⟨rfl, _, (.inl (rd_keep off_in g1))⟩, (ea_cons hb ea_nil hst) H0 S0 σ H1 _ (s.mono r1) fun ws H2 r2 d2 => ?_⟩
      cases d2 with
      | cons d2 t =>
        cases t
        cases d2
        have d3 := dt_up r2 d1'
        cases d3 with
        | lst g3 g4 =>
          rw [vs_bools g4] at g3
          have at_ : ∀ m : Nat, (bs.map V.bl)[m]? = bs[m]?.map V.bl := fun m => List.getElem?_map
          refine ⟨_, _, .bl true, j, .bl true, rfl, rfl, .inl (rd_keep off_in g3), rfl, ?_, ?_, rfl, fun m z hm hz => ?_, k _ H2 (Rel.trans r1 r2) (.int _)⟩
          · rw [List.all_map]
            exact List.all_eq_true.mpr fun _ _ => rfl
          · rw [at_, h1]
            rfl
          · rw [at_, h2 m hm] at hz
            cases hz
            rfl)
end
/-- a def that tells a word of the exception that is handled, a class D's -/
structure FnW (P : Program) (w : World) (K : PySem.W.Frag) (mg : Str → Option Value) (base : Heap) (x : Str) (k : Nat) (D : Addr) (wd : Str) : Prop where
  ok : ∃ (f : Addr) (fd : FuncData) (ps : List Str), mg x = some (.ref f) ∧ PySem.W.keepIn K (.ref f) = true ∧ Binds K fd ps [] ∧ ps.length = 1 ∧
    ∀ (A : Around) (outer : List Env) (s : Shared) (H : Hp) (args : Args) (p : Addr × Obj) (Q : VK), RoomH k A → Hot1 A p → PinOk outer H s p → Zc (.ref D) none p.2 → (∃ vs, p.2.data = .fields vs) → Env0 P w K mg base A outer s H → BindsTo s fd args (ps.zip [.ref p.1]) →
      (∀ H', Same H H' → Q (.str wd) H') → codeAny (model P w) A (.call (.ref f) args) (CR (L2N.CX P w) outer P w H s Q (fun _ _ _ => False)) s
theorem fnw_mk {Pr : Program} {w : World} {K : PySem.W.Frag} {mg : Str → Option Value} {base : Heap} {x : Str} {st : Stmt} {f : Addr} {fd : FuncData} {N ps : List Str} {k : Nat} {D : Addr} {wd : Str}
    (F : FunD K x x (defArgs st) (defBody st) (defScope st) [] [] f fd) (S : FnScope N ps (defScope st)) (hm : mg x = some (.ref f)) (hb : Binds K fd ps []) (hn : ps.length = 1)
    (body : ∀ (X : Cx) (p : Addr × Obj) (cdv : Value) (A : Around) (outer : List Env) (s : Shared) (H : Hp), X = cxH (L2N.CX Pr w) Pr w K mg base N x (defScope st) f cdv A outer s H (fun _ _ _ => False) p → RoomH k X.A → Hot1 X.A p → p ∈ X.pn → Zc (.ref D) none p.2 → (∃ vs, p.2.data = .fields vs) → X.K = K → X.mg = mg →
      SS Same X (.val (.ref p.1) :: List.replicate (N.length - 1) .no) (defBody st) { rt := fun e => e = .str wd }) : FnW Pr w K mg base x (k + 1) D wd := by
  obtain ⟨oc, od, dV, kV, doc, pm, an, cdv, ct, osl, rfl, lk, hcd, _, _⟩ := F.ex
  refine ⟨f, _, ps, hm, F.kp, hb, hn, fun A outer s H args p Q hr hot hpin hz hf e0 bt hq => ?_⟩
  have KX : K.In s.heap := e0.mod.kin.keeps fun b o e => (e0.bs b o e).1
  have lim : s.heap.NoLimit := e0.mod.nolimit.keeps fun b o e => (e0.bs b o e).1
  have hkind : ∀ y ∈ ps.zip [Value.ref p.1], (defScope st).names.lookup y.1 = some .local ∨ ((defScope st).names.lookup y.1 = some .cell ∧ ((cellsFrom (s.heap.objs.size + 1) (defScope st).names []).lookup y.1).isSome = true) := fun ⟨n, v⟩ hy =>
    (S.par n (List.of_mem_zip hy).1).elim .inl fun q => .inr ⟨q, PySem.W.cellsFrom_some _ _ _ (.inl q)⟩
  refine codeAny_call_function hr.depth (KX _ _ lk) rfl S.co S.gen rfl (PySem.W.codeRec_of KX hcd) (bt _ _ _ _ (wpAny_newFunctionEnv_cells S.kind hkind fun env he s1 x1 => ?_))
  subst he
  refine ⟨lim.keeps x1.toInCall.keep, codeAny_func ?_⟩
  let X : Cx := cxH (L2N.CX Pr w) Pr w K mg base N x (defScope st) f cdv A outer s H (fun _ _ _ => False) p
  have I : Inv X [] (L2.start N [.ref p.1]) H s1 := inv_startH S hpin e0 (by rw [hn]; rfl) (.cons rfl .nil) x1
  have hN : 1 ≤ N.length := by
    have := congrArg List.length S.pre
    rw [List.length_take, hn] at this
    omega
  have si : SI Same K H (fun _ => False) (.val (.ref p.1) :: List.replicate (N.length - 1) .no) (L2.start N [.ref p.1]) H := by
    have rp : ∀ {i : Nat} {y : Sl}, (List.replicate (N.length - 1) Sl.no)[i]? = some y → y = .no := fun {i y} h => by
      rw [List.getElem?_replicate] at h
      split at h
      · cases h
        rfl
      · cases h
    have nofp : ∀ i a, ¬ Fp (.val (.ref p.1) :: List.replicate (N.length - 1) .no) (L2.start N [.ref p.1]) i a := fun i a ⟨x, v, h1, _, h3⟩ => by
      cases i with
      | zero =>
        cases h1
        exact h3
      | succ i =>
        have e := rp (by simpa using h1)
        subst e
        exact h3
    refine ⟨Same.refl H, fun _ z => z.elim, ?_, fun i x h => ?_, fun i a f => absurd f (nofp i a), fun i j a f _ => absurd f (nofp i a)⟩
    · unfold L2.start
      simp
    · cases i with
      | zero =>
        cases h
        exact ⟨_, rfl, rfl⟩
      | succ i =>
        have h' : (List.replicate (N.length - 1) Sl.no)[i]? = some x := by simpa using h
        have e := rp h'
        subst e
        have hi := (List.getElem?_eq_some_iff.mp h').1
        rw [List.length_replicate] at hi
        refine ⟨none, ?_, trivial⟩
        unfold L2.start
        rw [List.getElem?_append_right (by simp), List.getElem?_replicate, if_pos (by simp; omega)]
  have tk : L2N.Takes X (fun c d _ H' => (fun _ _ _ => False : XK) c d H') := L2N.takes_of rfl rfl rfl rfl
  have run := body X p cdv A outer s H rfl (hr.deeper _) hot (List.mem_singleton.mpr rfl) hz hf rfl rfl H (fun _ => False) _ H { nx := fun _ H' => Q .non H', rt := Q } _ si tk (fun _ _ _ h _ => h.elim) ⟨fun e v H' he r' dv => by
    rw [show e = .str wd from he] at dv
    cases dv
    exact hq H' r', fun _ _ _ _ h => h.elim⟩ (fun _ _ _ h _ => h.elim) (fun _ _ _ h _ => h.elim) (fun _ _ h _ => h.elim)
  refine wpAny_mono ((pss_wss (X := X)).run [] s1 (L2.start N [.ref p.1]) H _ I run) (fun fl s' hs => ?_) fun e s' hs => hs
  cases fl with
  | ret u =>
    obtain ⟨v, σ', H', J, rv, q⟩ := hs
    exact ⟨v, H', J.os, J.bare, J.base, J.hok, rv, q⟩
  | next =>
    obtain ⟨σ', H', J, q⟩ := hs
    exact ⟨.non, H', J.os, J.bare, J.base, J.hok, rfl, q⟩
  | brk =>
    obtain ⟨_, _, _, q⟩ := hs
    exact q.elim
  | cont =>
    obtain ⟨_, _, _, q⟩ := hs
    exact q.elim
section
variable {R : Hp → Hp → Prop} [RelC R] {X : Cx} {γ : List Sl} {pos : Pos}
/-- word(e) -/
theorem pe_word {x e : Str} {D : Addr} {wd : Str} {k : Nat} {pr : Addr × Obj} {q p1 : Pos} (i : Nat) (F : FnW X.prog X.w X.K X.mg X.base x k D wd) (hr : RoomH k X.A) (hot : Hot1 X.A pr) (hp : pr ∈ X.pn) (hz : Zc (.ref D) none pr.2) (hf : ∃ vs, pr.2.data = .fields vs)
    (hN : X.N[i]? = some e) (hv : Vis X.env.scope e) (hd : (e == ("__debug__" : Str)) = false) (hcd : (e == ("__classdict__" : Str)) = false) (hg : Gl X x) (hdb : (x == ("__debug__" : Str)) = false)
    (he : starEach [.Name e p1] X.env = (false, eval (.Name e p1) X.env) :: starEach [] X.env) (hpl : (backTo pos (starEach [] X.env)).any (·.1) = false) :
    PE X (.Call (.Name x q) [.Name e p1] [] pos) (fun σ H Q => σ[i]? = some (some (.ref pr.1)) ∧ ∀ H', Same H H' → Q (.str wd) H') := by
  obtain ⟨f, fd, ps, h1, h2, h3, h4, h5⟩ := F.ok
  refine ⟨fun pins s σ H Q I h => ?_⟩
  refine wpAny_Call_Name_kw (ld_glob I hg h1 ?_ hdb)
  have ha : PA X [.Name e p1] _ := pa_cons (pe_var hN hv hd hcd) pa_nil he
  refine PySem.W.callWith_K (h₀ := X.base) I.ok.mod.kin h2 (thn (ha.run pos pins s σ H (fun vs H1 => vs = [.ref pr.1] ∧ H = H1) I ⟨_, h.1, rfl, rfl⟩) fun us s1 ⟨vs, H1, I1, r, ev, eH⟩ => ⟨I1.kIn, ?_⟩) he hpl
  subst ev eH
  rw [Vals.ref1 r]
  have P1 := I1.pin pr (List.mem_append_left _ hp)
  have hpin : PinOk X.stack H s1 pr := ⟨P1.1, P1.2.1, fun hm => (List.mem_cons.mp (I1.stkSub pr.1 hm)).elim P1.2.2.1 P1.2.2.2.1, P1.2.2.2.2⟩
  have b := h3 s1 [.ref pr.1] I1.kIn (by rw [List.append_nil, h4]; rfl)
  rw [List.append_nil] at b
  refine wpAny_call (codeAny_mono (h5 X.A X.stack s1 H ⟨[.ref pr.1], []⟩ pr Q hr hot hpin hz hf I1.env0 b h.2) fun r s' hq => ?_)
  cases r with
  | error e =>
    obtain ⟨_, _, _, _, _, _, _, _, _, _, _, _, z⟩ := hq
    exact z.elim
  | ok fl =>
    cases fl with
    | ret u => exact I1.after hq
    | next => exact hq.elim
    | brk => exact hq.elim
    | cont => exact hq.elim
theorem od_neH {i j : Int} {k : Nat} (hr : RoomH k X.A) : OpD X (compareOp .NotEq) (.int i) (.int j) (.bool (!(i == j))) := ⟨_, op_neD (by have := hr.un; omega), fun H x y Q hx hy k => ⟨.int i, .int j, hx.dp, hy.dp, rfl, rfl, k _ fun _ => .bl _⟩⟩
theorem cl_own {nm : Str} {C : Addr} (h : X.mg nm = some (.ref C)) (hg : Gl X nm := by rfl) (hd : (nm == ("__debug__" : Str)) = false := by decide) : ClN X nm (.ref C) (.ref C) := ⟨hg, hd, rfl, fun _ z => z, .inl h⟩
theorem cl_ty {nm : Str} {T : String} (h : X.mg nm = none) (hb : bootBuiltins nm = some (.type T)) (hg : Gl X nm := by rfl) (hd : (nm == ("__debug__" : Str)) = false := by decide) (hn : nm ≠ "__name__" := by decide) : ClN X nm (.ty T) (.type T) := ⟨hg, hd, rfl, fun _ z => z, .inr ⟨h, hb, hn⟩⟩
end
end An

/-! A lambda without parameters handed to a def that calls it and tells a word of what is raised. -/
namespace An
open PySem PySem.Spec PyProof.Rows L2 HotX L2H LamX
/-- as Same, but tables of code objects may grow -/
def SameN (T : List (Addr × Str)) (H H' : Hp) : Prop := Keep H H' ∧ (∀ a, H a ≠ none → H' a ≠ none) ∧ Tabs T H ∧ Tabs T H'
theorem tabs_keep {T : List (Addr × Str)} {H H' : Hp} (t : Tabs T H) (h : ∀ b o, H b = some o → ¬ MutO o → H' b = some o) : Tabs T H' := fun p hp => by
  obtain ⟨ps, h1, h2, h3⟩ := t p hp
  refine ⟨ps, h _ _ h1 (fun z => z), h2, fun pos cv hc => ?_⟩
  obtain ⟨c, e1, e2⟩ := h3 pos cv hc
  exact ⟨c, e1, h _ _ e2 fun z => z c p.2 rfl⟩
instance relN (T : List (Addr × Str)) : RelC (SameN T) where
  ends := fun {H H'} h => ⟨Keep.refl _, fun _ z => z, h.2.2.2, h.2.2.2⟩
  trans := fun h h' => ⟨h.1.trans h'.1, fun a z => h'.2.1 a (h.2.1 a z), h.2.2.1, h'.2.2.2⟩
  more := fun {H H1 H2} h sm => by
    refine ⟨h.1.trans (Keep.of sm), fun a z => ?_, h.2.2.1, h.2.2.2.ext sm⟩
    have z1 := h.2.1 a z
    cases e : H1 a with
    | none => exact absurd e z1
    | some o => rw [sm a o e]; exact fun q => nomatch q
  keep := fun h => h.1
  dom := fun {H H' a} h => h.2.1 a
  chg := fun {H H' a u} h n ⟨ys, hy, hm⟩ hu => by
    refine ⟨fun b o e q => ?_, fun b q => ?_, h.2.2.1, tabs_keep h.2.2.2 fun b o e q => ?_⟩
    · rw [upd_ne (ne_of_none e n)]
      exact h.1 b o e q
    · rw [upd_ne (fun z => q (by rw [z]; exact n))]
      exact h.2.1 b q
    · rw [upd_ne fun z => q (by rw [z, hy] at e; rw [← Option.some.inj e]; exact hm)]
      exact e
  cutr := fun {H H1 C} h c => by
    refine ⟨off_in, fun a z => ?_, tabs_keep h.2.2.2 fun b o e q => off_of (fun z => ?_) e, h.2.2.2⟩
    · cases e : off C H1 a with
      | none => exact absurd e z
      | some o => rw [(off_some e).2]; exact fun q => nomatch q
    · obtain ⟨u, e2, hm⟩ := c b z
      rw [e] at e2
      rw [← Option.some.inj e2] at hm
      exact q hm
  cut := fun {H H1 C} h c => by
    refine ⟨fun b o e q => off_of (fun z => ?_) (h.1 b o e q), fun b q => ?_, h.2.2.1, tabs_keep h.2.2.2 fun b o e q => off_of (fun z => ?_) e⟩
    · rw [(c b z).1] at e
      cases e
    · have q1 := h.2.1 b q
      cases e : H1 b with
      | none => exact absurd e q1
      | some o => rw [off_of (fun z => q (c b z).1) e]; exact fun q => nomatch q
    · obtain ⟨u, e2, hm⟩ := (c b z).2
      rw [e] at e2
      rw [← Option.some.inj e2] at hm
      exact q hm
section
variable {X : Cx} {pins : List (Addr × Obj)} {σ : L2.St} {H : Hp} {s : Shared}
theorem inv_xe {xe : Value → Shared → Prop} (I : Inv X pins σ H s) : Inv { X with xe := xe } pins σ H s := by
  obtain ⟨⟨o1, o2, o3, o4, o5, o6, o7, o8, o9, o10, o11, o12, o13, o14, o15, o16, o17, o18⟩, j1, j2, j3, j4, j5, j6, j7, j0, j8, j9⟩ := I
  exact ⟨⟨o1, o2, o3, o4, o5, o6, o7, o8, o9, o10, o11, o12, o13, o14, o15, o16, o17, o18⟩, j1, j2, j3, j4, j5, j6, j7, j0, j8, j9⟩
/-- the lambda's object -/
abbrev lamO (X : Cx) (params : Arguments) (body : Expr) (scope : Scope) (pm : Value) (c' : Addr) (ctv : Value) : Obj := PySem.W.kla_obj "<lambda>" (X.env.qual ++ "<lambda>") params body scope (cloFrom X.env.cells scope.names []) pm c' ctv
theorem lam_new {T : List (Addr × Str)} {c P : Addr} {params : Arguments} {body : Expr} {scope : Scope} {pos : Pos} {E : Value → Shared → Prop} {Q : Value → Shared → Prop} (I : Inv X pins σ H s) (TB : TabB X.base X.mg c P) (hcode : X.env.code = .ref c)
    (hm : (P, X.env.qual ++ "<lambda>") ∈ T) (hu : ∀ p ∈ T, p.1 = P → p.2 = X.env.qual ++ "<lambda>") (hT : Tabs T H) (hdef : defaultsOf params X.env = ([], [])) (hfree : ∀ y ∈ scope.names, y.2 = .free → ∃ c, X.env.cells.lookup y.1 = some c)
    (h : ∀ (f c' : Addr) (pm ctv : Value) (H1 : Hp) (s' : Shared), Inv X pins σ H1 s' → SameN T H H1 → s'.heap.get? f = some (lamO X params body scope pm c' ctv) → H1 f = none → f ∉ frs X.stack → H1 c' = some (CodeO c' (X.env.qual ++ "<lambda>")) → Q (.ref f) s') :
    wpAny (model X.prog X.w) X.A (eval (.Lambda params body scope pos) X.env) Q E s := by
  obtain ⟨ps, hP, ht, ha⟩ := hT _ hm
  have bP : s.heap.BuiltinsAt X.mg P := TB.bm.keeps I.bk
  have hP' : s.heap.get? P = some { cls := .none, data := .fields ps } := I.hok P _ hP
  have nofr : ∀ f, s.heap.objs.size ≤ f → f ∉ frs X.stack := fun f hf z => (List.mem_cons.mp (I.stkSub _ z)).elim (fun e => Nat.lt_irrefl _ (Nat.lt_of_lt_of_le (by have h1 := I.lt; rw [← e] at h1; exact h1) hf)) (I.nofs hf)
  refine PySem.W.kla_eval hdef ?_
  cases hc : codeAmong pos ps.toList with
  | some cv =>
    obtain ⟨c', rfl, hco⟩ := ha pos cv hc
    refine PySem.W.kla_makeFunctionHit (mg := X.mg) (c := c) (P := P) (ps := ps) (closure_ok hfree) I.ok.glob (I.mod.glob.keeps I.bk) hcode (TB.code.keeps I.bk) hP' ht hc bP fun ctv h' tk hx hsz => ?_
    refine h h'.objs.size c' ((X.mg "__name__").getD .none) ctv H _ (I.kept (t' := tk) fun b o e => Heap.get?_push_of_some _ (hx b o e)) ⟨Keep.refl H, fun _ z => z, hT, hT⟩ (Heap.get?_push_size _ rfl) (I.hok.fresh hsz) (nofr _ hsz) hco
  | none =>
    refine PySem.W.kla_makeFunction (mg := X.mg) (c := c) (P := P) (ps := ps) (closure_ok hfree) I.ok.glob (I.mod.glob.keeps I.bk) hcode (TB.code.keeps I.bk) hP' ht hc TB.gP bP fun c' ctv h' tk hx hge hlt hrec htb => ?_
    obtain ⟨c2, oc, vs, t, e2, hoc, hd, hv⟩ := hrec
    cases e2
    have nC : H c' = none := I.hok.fresh hge
    have hsz : s.heap.objs.size ≤ h'.objs.size := Nat.le_trans hge (Nat.le_of_lt hlt)
    have I1 := inv_table (t' := tk) (more := #[rawInt pos.line, rawInt pos.col, .ref c']) (h' := h'.push (lamO X params body scope ((X.mg "__name__").getD .none) c' ctv)) I hP (fun b o hb e => Heap.get?_push_of_some _ (hx b o hb e)) (Heap.get?_push_of_some _ htb) hge ⟨oc, vs, t, Heap.get?_push_of_some _ hoc, hd, hv⟩
    have eL : (ps ++ #[rawInt pos.line, rawInt pos.col, .ref c']).toList = ps.toList ++ [rawInt pos.line, rawInt pos.col, .ref c'] := by simp
    generalize hH1 : upd (upd H P (.tbl (ps ++ #[rawInt pos.line, rawInt pos.col, .ref c']))) c' (CodeO c' (X.env.qual ++ "<lambda>")) = H1 at I1
    have atC : H1 c' = some (CodeO c' (X.env.qual ++ "<lambda>")) := by
      rw [← hH1, upd_same]
    have atP : H1 P = some (.tbl (ps ++ #[rawInt pos.line, rawInt pos.col, .ref c'])) := by
      rw [← hH1, upd_ne (ne_of_none hP nC), upd_same]
    have at_ : ∀ b, b ≠ P → b ≠ c' → H1 b = H b := fun b h1 h2 => by
      rw [← hH1, upd_ne h2, upd_ne h1]
    have kp : Keep H H1 := fun b o e n => by
      rw [at_ b (fun z => n ps (Option.some.inj (e.symm.trans (by rw [z]; exact hP)))) (ne_of_none e nC)]
      exact e
    have T1 : Tabs T H1 := fun p hp => by
      by_cases hb : p.1 = P
      · rw [hu p hp hb, hb]
        refine ⟨_, atP, by rw [eL]; exact PySem.TriplesOk_snoc _ _ _ _ ht, fun p' cv hcv => ?_⟩
        rw [eL] at hcv
        rcases among_app _ ht hcv with z | z
        · obtain ⟨c0, e1, e2⟩ := ha p' cv z
          exact ⟨c0, e1, kp _ _ e2 codeO_ne⟩
        · exact ⟨c', z, atC⟩
      · obtain ⟨ps', a1, a2, a3⟩ := hT p hp
        refine ⟨ps', by rw [at_ _ hb (ne_of_none a1 nC)]; exact a1, a2, fun p' cv hcv => ?_⟩
        obtain ⟨c0, e1, e2⟩ := a3 p' cv hcv
        exact ⟨c0, e1, kp _ _ e2 codeO_ne⟩
    refine h h'.objs.size c' ((X.mg "__name__").getD .none) ctv _ _ I1 ⟨kp, fun b hb => ?_, hT, T1⟩ (Heap.get?_push_size _ rfl) ?_ (nofr _ hsz) atC
    · by_cases h1 : b = P
      · rw [h1, atP]
        exact fun z => nomatch z
      · rw [at_ b h1 (fun z => hb (by rw [z]; exact nC))]
        exact hb
    · rw [at_ _ (Nat.ne_of_gt (Nat.lt_of_lt_of_le (Heap.lt_size hP') hsz)) (Nat.ne_of_gt hlt)]
      exact I.hok.fresh hsz
/-- the context of the lambda's body -/
def lamN (X : Cx) (A : Around) (outer : List Env) (s : Shared) (H : Hp) (E : XK) (scope : Scope) (f c' : Addr) : Cx :=
  { lamCx X A outer s H E scope f c' with xe := fun e s' => wpAny (model X.prog X.w) (A.deeper (lamEnv X scope s.heap.objs.size f c')) (leaving (lamEnv X scope s.heap.objs.size f c') e) (fun _ s'' => L2N.CX X.prog X.w outer H s E e s'') (fun e' s'' => L2N.CX X.prog X.w outer H s E e' s'') s' }
/-- what the told def lets be of an exception -/
def Ew (X : Cx) (CS : Addr) (wn : Str) (kw : Nat) (Q : VK) : XK := fun cls d H' => ∃ (D : Addr) (wd : Str), cls = .ref D ∧ d = none ∧ PySem.W.exmOne X.K cls (.ref CS) = some true ∧ FnW X.prog X.w X.K X.mg X.base wn kw D wd ∧ ∀ H'', Same H' H'' → Q (.str wd) H''
/-- x(lambda: body), x as: try: return a() / except ne as en: return wn(en) -/
theorem pe_told {T : List (Addr × Str)} {x a ne en wn : Str} {g c P CS : Addr} {k kw : Nat} {st : Stmt} {fd : FuncData} {params : Arguments} {body : Expr} {scope : Scope} {p lpos pos p1 p2 p3 p4 p5 p6 p7 p8 p9 p0 : Pos} (F : FunD X.K x x (defArgs st) (defBody st) (defScope st) [] [] g fd)
    (hbg : defBody st = [.Try [.Return (some (.Call (.Name a p1) [] [] p2)) p3] [.ExceptHandler (some (.Name ne p4)) (some en) [.Return (some (.Call (.Name wn p5) [.Name en p6] [] p7)) p8] p9] [] [] p0])
    (hg : Gl X x) (hm : X.mg x = some (.ref g)) (hb : L2.Binds X.K fd [a] []) (Sg : FnScope [a, en] [a] (defScope st)) (hva : Vis (defScope st) a) (hvn : (defScope st).names.lookup en = some .local)
    (hne : (defScope st).names.lookup ne = some .globalImplicit) (hme : X.mg ne = some (.ref CS)) (hwn : (defScope st).names.lookup wn = some .globalImplicit)
    (TB : TabB X.base X.mg c P) (hcode : X.env.code = .ref c) (hmT : (P, X.env.qual ++ "<lambda>") ∈ T) (hu : ∀ p ∈ T, p.1 = P → p.2 = X.env.qual ++ "<lambda>") (hr : Room (k + 2) X.A) (hkw : kw ≤ k + 1) (L : LamS X.env.scope scope) (hdef : defaultsOf params X.env = ([], []))
    (hbind : ∀ (q : Str) (cl : List (Str × Addr)) (pm cv ctv : Value), bindArgs (PySem.W.kla_fn "<lambda>" q params body scope cl pm cv ctv) ⟨[], []⟩ = pure [])
    (hdb : (x == ("__debug__" : Str)) = false) (hd : (a == ("__debug__" : Str)) = false) (hcd : (a == ("__classdict__" : Str)) = false) (hde : (ne == ("__debug__" : Str)) = false) (hdw : (wn == ("__debug__" : Str)) = false) (hd2 : (en == ("__debug__" : Str)) = false) (hcd2 : (en == ("__classdict__" : Str)) = false) :
    PE X (.Call (.Name x p) [.Lambda params body scope lpos] [] pos) (fun σ H Q => Tabs T H ∧ ∀ H1, SameN T H H1 → ∀ (A : Around) (outer : List Env) (s : Shared) (H' : Hp) (f c' : Addr) (E : XK), (∀ cls d H', Ew X CS wn kw Q cls d H' → E cls d H') → Room k (A.deeper (lamEnv X scope s.heap.objs.size f c')) → we (lamN X A outer s H' E scope f c') body σ H1 Q) := by
  refine ⟨fun pins s σ H Q I h => ?_⟩
  obtain ⟨hT, h⟩ := h
  obtain ⟨oc, od, dV, kV, doc, pm, an, cdv, ct, osl, rfl, lk, hcd0, _, _⟩ := F.ex
  refine wpAny_Call_Name_kw (ld_glob I hg hm ?_ hdb)
  refine PySem.W.callWith_K (h₀ := X.base) I.ok.mod.kin F.kp ?_ (by rfl) (by rfl)
  show wpAny _ _ (spliced ((false, eval (.Lambda params body scope lpos) X.env) :: backTo pos (starEach [] X.env))) _ _ _
  refine Calls.spliced_cons (lam_new I TB hcode hmT hu hT hdef (L.has I.ok) fun f c' pm' ctv H1 s' I1 eN hf hfn hfr hco => Calls.spliced_nil ⟨I1.kIn, ?_⟩)
  have rc : codeAny (model X.prog X.w) X.A (.call (.ref g) ⟨[.ref f], []⟩) (CR (L2N.CX X.prog X.w) X.stack X.prog X.w H1 s' Q (fun _ _ _ => False)) s' := by
    refine run_ofS (N := [a, en]) (ps := [a]) (us := [.ref f]) (vs := [.ref f]) lk hcd0 Sg hr I1.env0 (hb s' [.ref f] I1.kIn rfl) (.cons rfl .nil) rfl fun hr' => ?_
    rw [hbg]
    generalize hZ : cxOf (L2N.CX X.prog X.w) X.prog X.w X.K X.mg X.base [a, en] x (defScope st) g cdv X.A X.stack s' H1 (fun _ _ _ => False) = Z
    have zK : Z.K = X.K := by rw [← hZ]; rfl
    have tk0 : L2N.Takes Z (fun _ _ _ _ => False) := fun _ _ q => by
      obtain ⟨_, _, _, _, _, _, _, _, _, _, _, _, _, _, _, _, z⟩ := q
      exact z.elim
    have names : Names Z ne (.ref CS) := by
      rw [← hZ]
      exact ⟨hne, hde, .inl hme⟩
    -- a(), the lambda's body run
    have act : ∀ (W : WX) (pn : List (Addr × Obj)) (xe : Value → Shared → Prop), L2N.Takes (Z.tr pn xe) W → PE (Z.tr pn xe) (.Call (.Name a p1) [] [] p2) (fun σZ HZ QZ => σZ[0]? = some (some (.ref f)) ∧ HZ c' = some (CodeO c' (X.env.qual ++ "<lambda>")) ∧
        ∀ (A : Around) (outer : List Env) (s : Shared) (H' : Hp) (f c' : Addr), Room k (A.deeper (lamEnv X scope s.heap.objs.size f c')) → we (lamN X A outer s H' (fun cls d H2 => W cls d σZ H2) scope f c') body σ HZ QZ) := fun W pn xe tk => by
      subst hZ
      refine ⟨fun pinsZ sZ σZ HZ QZ IZ hz => ?_⟩
      obtain ⟨hs, hc, ht⟩ := hz
      refine wpAny_Call_Name_kw (thn ((pe_var (pos := p1) (i := 0) (x := a) rfl hva hd hcd).run pinsZ sZ σZ HZ (fun v H1 => v = .ref f ∧ H1 = HZ) IZ ⟨.ref f, hs, rfl, rfl⟩) fun u s1 ⟨v, H2, I2, r1, ev, eH⟩ => ?_)
      subst ev
      rw [eH] at I2
      obtain rfl : u = Value.ref f := r1
      have of1 : s1.heap.get? f = some (lamO X params body scope pm' c' ctv) := I2.base.keep f _ hf hfn hfr (fun z => nomatch (show f ∈ ([] : List Addr) from z))
      refine PySem.W.callWith_F0 ⟨_, _, _, _, of1⟩ ?_
      have un : Un (frs X.stack) [] H1 HZ s'.heap s1.heap := I2.base
      obtain ⟨⟨oc, vs, t, hoc, hdc, hvc⟩, _, _⟩ := I2.hok c' _ hc
      have hx := L2N.passAt tk σZ
      have rc : codeAny (model X.prog X.w) (X.A.deeper (envOfC x (defScope st) s'.heap.objs.size g cdv)) (.call (.ref f) ⟨[], []⟩) (CR (L2N.CX X.prog X.w) (envOfC x (defScope st) s'.heap.objs.size g cdv :: X.stack) X.prog X.w HZ s1 QZ (fun cls d H2 => W cls d σZ H2)) s1 := by
        refine PySem.W.kla_callFunE hr'.depth of1 rfl L.co L.gen rfl ⟨c', oc, vs, t, rfl, hoc, hdc, hvc⟩ ?_
        rw [hbind]
        refine wpAny_pure (wpAny_newFunctionEnv (fun y hy => (L.own y hy).2) (fun y hy => absurd hy (by simp)) (fun h1 hns hsb => ⟨I2.nolimit.fresh _ hsb, ?_⟩) L.kind)
        show codeAny _ _ (.expr body (lamEnv X scope s1.heap.objs.size f c')) _ _
        have kp : ∀ b o, s1.heap.get? b = some o → h1.get? b = some o := fun b o e => hsb.extBut b o (Nat.ne_of_lt (Heap.lt_size e)) (Heap.get?_push_of_some _ e)
        have J0 := lam_start2 (E := fun cls d H2 => W cls d σZ H2) (tk := s1.toks + ([] : List (Str × Value)).length) (f := f) (c' := c') I1 L I2.env0 hr'.hd un hns kp
        have J : Inv (lamN X (X.A.deeper (envOfC x (defScope st) s'.heap.objs.size g cdv)) (envOfC x (defScope st) s'.heap.objs.size g cdv :: X.stack) s1 HZ (fun cls d H2 => W cls d σZ H2) scope f c') [] σ HZ { s1 with heap := h1, toks := s1.toks + ([] : List (Str × Value)).length } := inv_xe J0
        refine PySem.W.kla_codeExpr (wpAny_mono ((pe_we (X := lamN X (X.A.deeper (envOfC x (defScope st) s'.heap.objs.size g cdv)) (envOfC x (defScope st) s'.heap.objs.size g cdv :: X.stack) s1 HZ (fun cls d H2 => W cls d σZ H2) scope f c')).run [] _ σ HZ QZ J (ht _ _ _ _ _ _ (hr'.deeper _))) (fun v s3 hq => ?_) fun e s3 hq => hq)
        obtain ⟨w', H', J', rv, q⟩ := hq
        exact ⟨w', H', J'.os, J'.bare, J'.base, J'.hok, rv, q⟩
      refine wpAny_call (codeAny_mono rc fun r s2 hq => ?_)
      cases r with
      | error e => exact hx pinsZ HZ s1 e s2 I2 hq
      | ok fl =>
        cases fl with
        | ret u => exact I2.after hq
        | next => exact hq.elim
        | brk => exact hq.elim
        | cont => exact hq.elim
    refine ⟨_, pss_one (L2N.ps_try_as (X := Z) (i := 1) (n := en) (x := ne) (c := .ref CS) (Wout := fun _ _ _ _ => False)
      (tb := fun W D σZ HZ => σZ[0]? = some (some (.ref f)) ∧ HZ c' = some (CodeO c' (X.env.qual ++ "<lambda>")) ∧ ∀ (A : Around) (outer : List Env) (s : Shared) (H' : Hp) (f c' : Addr), Room k (A.deeper (lamEnv X scope s.heap.objs.size f c')) → we (lamN X A outer s H' (fun cls d H2 => W cls d σZ H2) scope f c') body σ HZ D.rt)
      (ts := fun a' cls d D σZ HZ => ∃ (D' : Addr) (wd : Str), cls = .ref D' ∧ d = none ∧ FnW X.prog X.w X.K X.mg X.base wn kw D' wd ∧ σZ[1]? = some (some (.ref a')) ∧ ∀ H'', Same HZ H'' → D.rt (.str wd) H'')
      (by rw [← hZ]; rfl) (by rw [← hZ]; rfl) (by rw [← hZ]; exact Sg.nd) (by rw [← hZ]; rfl) (by rw [← hZ]; exact hvn) names tk0 (fun W pn xe tk _ => ?_) (fun a' oe cls d pn hz hf => ?_)), ?_⟩
    · exact pss_one (ps_ret (act W pn xe tk))
    · refine ⟨fun pins s2 σ2 H2 D2 I2 h2 => ?_⟩
      obtain ⟨D', wd, rfl, rfl, fw, h3, h4⟩ := h2
      obtain ⟨vs, hvs⟩ := hf
      subst hZ
      have hro : RoomH kw (X.A.deeper (envOfC x (defScope st) s'.heap.objs.size g cdv)) := (roomH_of hr').mono hkw
      refine (pss_one (ps_ret (pe_word (X := (cxOf (L2N.CX X.prog X.w) X.prog X.w X.K X.mg X.base [a, en] x (defScope st) g cdv X.A X.stack s' H1 (fun _ _ _ => False)).suite a' ((a', oe) :: pn)) (pr := (a', oe)) 1 fw ⟨hro.dp, hro.un⟩ ⟨rfl, vs, hvs, hz.2.2 vs hvs⟩ List.mem_cons_self hz.zc ⟨vs, hvs⟩ rfl (.inl hvn) hd2 hcd2 hwn hdw rfl rfl))).run pins s2 σ2 H2 D2 I2 ⟨h3, h4⟩
    · refine ⟨rfl, hco, fun A outer s2 H2 f2 c2 hrm => h H1 eN A outer s2 H2 f2 c2 _ (fun cls d H3 hE => ?_) hrm⟩
      obtain ⟨D', wd, rfl, rfl, e1, fw, hq⟩ := hE
      rw [zK]
      exact ⟨true, e1, fun _ a' na => ⟨D', wd, rfl, rfl, fw, rfl, hq⟩, fun z => nomatch z⟩
  refine wpAny_call (codeAny_mono rc fun r s2 hq => ?_)
  cases r with
  | error e =>
    obtain ⟨_, _, _, _, _, _, _, _, _, _, _, _, z⟩ := hq
    exact z.elim
  | ok fl =>
    cases fl with
    | ret u => exact I1.after hq
    | next => exact hq.elim
    | brk => exact hq.elim
    | cont => exact hq.elim
end
/-- told, from the frame X, whatever the lambda -/
def Tld (X : Cx) (T : List (Addr × Str)) (k kw : Nat) (CS : Addr) : Prop := ∀ (params : Arguments) (body : Expr) (scope : Scope) (p lpos pos : Pos), LamS X.env.scope scope → defaultsOf params X.env = ([], []) →
  (∀ (q : Str) (cl : List (Str × Addr)) (pm cv ctv : Value), bindArgs (PySem.W.kla_fn "<lambda>" q params body scope cl pm cv ctv) ⟨[], []⟩ = pure []) →
  PE X (.Call (.Name "_law_told" p) [.Lambda params body scope lpos] [] pos) (fun σ H Q => Tabs T H ∧ ∀ H1, SameN T H H1 → ∀ (A : Around) (outer : List Env) (s : Shared) (H' : Hp) (f c' : Addr) (E : XK), (∀ cls d H', Ew X CS "_law_word" kw Q cls d H' → E cls d H') → Room k (A.deeper (lamEnv X scope s.heap.objs.size f c')) → we (lamN X A outer s H' E scope f c') body σ H1 Q)
/-- e raises the class c -/
def EX (R : Hp → Hp → Prop) (X : Cx) (γ : List Sl) (e : Expr) (c : Value) : Prop :=
  ∀ (H0 : Hp) (S0 : Addr → Prop) (σ : L2.St) (H : Hp) (Q : VK) (W : XK), SI R X.K H0 S0 γ σ H → L2N.Takes X (fun c d _ H' => W c d H') → (∀ H2, R H H2 → W c none H2) → we X e σ H Q
theorem ex_call {R : Hp → Hp → Prop} [RelC R] {X : Cx} {γ : List Sl} {pos : Pos} {x : Str} {k n : Nat} {Val : List D → D → Prop} {Exc : List D → Value → Prop} {e : Expr} {es : List Expr} {p : Pos} {ds : List D} {c : Value} (F : Fn X.prog X.w X.K X.mg X.base x k n Val Exc) (hr : Room k X.A) (ha : EA R X γ (e :: es) ds) (hv : Exc ds c) (hn : ds.length = n := by rfl) (hg : Gl X x := by rfl)
    (hdb : (x == ("__debug__" : Str)) = false := by decide) (he : starEach (e :: es) X.env = (false, eval e X.env) :: starEach es X.env := by rfl) (hpl : (backTo pos (starEach es X.env)).any (·.1) = false := by rfl) :
    EX R X γ (.Call (.Name x p) (e :: es) [] pos) c := fun H0 S0 σ H Q W s tk z => by
  obtain ⟨f, fd, ps, h1, h2, h3, h4⟩ := F.ok
  refine we_of (pe_call (E := W) h1 hr hg h2 h3 h4 .nil (L2N.passes_call tk fun _ _ _ _ h => h) pa_wa hdb he hpl) (ha H0 S0 σ H _ s fun vs H1 r1 d1 => ?_)
  rw [List.append_nil]
  exact ⟨by rw [dps_len d1]; exact hn, Sx S0 γ σ, ds, sx_dom (s.mono r1), d1, .inr ⟨c, hv, fun H2 sm => z H2 (Rel.more r1 sm)⟩⟩
section
variable {X : Cx} {T : List (Addr × Str)} {k kw : Nat} {CS : Addr} {γ : List Sl} {params : Arguments} {body : Expr} {scope : Scope} {p lpos pos : Pos}
theorem ee_told {d : D} (t : Tld X T k kw CS) (hbody : ∀ (A : Around) (outer : List Env) (s : Shared) (H' : Hp) (f c' : Addr) (E : XK), Room k (A.deeper (lamEnv X scope s.heap.objs.size f c')) → EE (SameN T) (lamN X A outer s H' E scope f c') γ body d)
    (L : lamSB X.env.scope scope = true := by rfl) (hdef : defaultsOf params X.env = ([], []) := by rfl) (hbind : ∀ (q : Str) (cl : List (Str × Addr)) (pm cv ctv : Value), bindArgs (PySem.W.kla_fn "<lambda>" q params body scope cl pm cv ctv) ⟨[], []⟩ = pure [] := by exact fun _ _ _ _ _ => rfl) :
    EE (SameN T) X γ (.Call (.Name "_law_told" p) [.Lambda params body scope lpos] [] pos) d := fun H0 S0 σ H Q s kk =>
  we_of (t params body scope p lpos pos (lamS_by L) hdef hbind) ⟨s.rel.2.2.2, fun H1 r1 A outer s2 H' f c' E hE hr => hbody A outer s2 H' f c' E hr H0 S0 σ H1 Q (s.mono r1) fun v H2 r2 d2 => kk v H2 (Rel.trans r1 r2) d2⟩
theorem ee_toldX {D : Addr} {wd : Str} (t : Tld X T k kw CS) (he : PySem.W.exmOne X.K (.ref D) (.ref CS) = some true) (fw : FnW X.prog X.w X.K X.mg X.base "_law_word" kw D wd)
    (hbody : ∀ (A : Around) (outer : List Env) (s : Shared) (H' : Hp) (f c' : Addr) (E : XK), Room k (A.deeper (lamEnv X scope s.heap.objs.size f c')) → EX (SameN T) (lamN X A outer s H' E scope f c') γ body (.ref D))
    (L : lamSB X.env.scope scope = true := by rfl) (hdef : defaultsOf params X.env = ([], []) := by rfl) (hbind : ∀ (q : Str) (cl : List (Str × Addr)) (pm cv ctv : Value), bindArgs (PySem.W.kla_fn "<lambda>" q params body scope cl pm cv ctv) ⟨[], []⟩ = pure [] := by exact fun _ _ _ _ _ => rfl) :
    EE (SameN T) X γ (.Call (.Name "_law_told" p) [.Lambda params body scope lpos] [] pos) (.str wd) := fun H0 S0 σ H Q s kk =>
  we_of (t params body scope p lpos pos (lamS_by L) hdef hbind) ⟨s.rel.2.2.2, fun H1 r1 A outer s2 H' f c' E hE hr => hbody A outer s2 H' f c' E hr H0 S0 σ H1 Q E (s.mono r1) (L2N.takes_of rfl rfl rfl rfl)
    fun H2 r2 => hE _ _ _ ⟨D, wd, rfl, rfl, he, fw, fun H3 sm => kk (.str wd) H3 (Rel.more (Rel.trans r1 r2) sm) (.str _)⟩⟩
end
end An

/-! What the top leaves: the head's hook with two tables of the machine, the law's own promise. -/
namespace An
open PySem PySem.Spec PyProof.Rows L2 LamX He
/-! ### the hook -/
def asN (g : Addr → Option Obj) (n : Nat) : List Addr := asD g n ++ [sysModules, cStatics]
def obsN (n : Nat) (fa : List Fa) (fn : List DefD) (tf : List Defn) (ex : List (PySem.W.Frag → Bool)) (g : Addr → Option Obj) : AlX := (obsT fa fn [] (frT g (asN g n)), (ex.all fun f => f (frT g (asN g n))) && tabsB g tf (frT g (asN g n)))
theorem saysN_of {n : Nat} {fa : List Fa} {fn : List DefD} {tf : List Defn} {ex : List (PySem.W.Frag → Bool)} {w : World} {h : Heap} (e : obsN n fa fn tf ex h.get? = valX fn [] w) : SaysX fa fn [] tf (fun K => ex.all fun f => f K) w h (frT h.get? (asN h.get? n)) := by
  have e1 : obsT fa fn [] (frT h.get? (asN h.get? n)) = valT fn [] w := congrArg Prod.fst e
  have e2 : ((ex.all fun f => f (frT h.get? (asN h.get? n))) && tabsB h.get? tf (frT h.get? (asN h.get? n))) = true := congrArg Prod.snd e
  generalize frT h.get? (asN h.get? n) = K, (fun (a : Addr) (o : Obj) (q : h.get? a = some o) (z : emptyTab o = true) => frT_none (as := asN h.get? n) q z) = out at e1 e2
  obtain ⟨h1, h2⟩ := ba e2
  have key : ∀ p ∈ tf, PySem.W.codeHdIn K (cT K p).1 (cT K p).2 = true ∧ ∃ o, h.get? (cT K p).2 = some o ∧ emptyTab o = true := fun p hp => by
    obtain ⟨h3, h4⟩ := ba (List.all_eq_true.mp h2 p hp)
    refine ⟨h3, ?_⟩
    cases q : h.get? (cT K p).2 with
    | none => rw [q] at h4; cases h4
    | some o => rw [q] at h4; exact ⟨o, rfl, h4⟩
  refine ⟨e1, h1, fun p hp => (key p hp).1, fun p hp => ?_, fun p hp => ?_⟩
  · obtain ⟨_, o, q, z⟩ := key p hp
    exact out _ o q z
  · obtain ⟨_, o, q, z⟩ := key p hp
    rw [q, emptyTab_eq z]
def hookN (n : Nat) (fa : List Fa) (fn : List DefD) (tf : List Defn) (ex : List (PySem.W.Frag → Bool)) : PySem.W.Hook where
  α := AlX
  obs := fun s => obsN n fa fn tf ex s.heap.get?
  val := fun w => valX fn [] w
  says := fun w h => ∃ K : PySem.W.Frag, K.In h ∧ SaysX fa fn [] tf (fun K => ex.all fun f => f K) w h K
  of := fun _ _ e => ⟨_, frT_in, saysN_of e⟩
  keeps := fun _ _ _ ⟨K, hK, c⟩ k => ⟨K, PySem.W.Frag.In.keeps hK k, ⟨c.t, c.more, c.hd, c.out, fun p hp => k _ _ (c.empty p hp)⟩⟩
theorem obsN_eq {n : Nat} {fa : List Fa} {fn : List DefD} {tf : List Defn} {ex : List (PySem.W.Frag → Bool)} {g : Addr → Option Obj} {s : Shared} (h : ∀ a, g a = s.heap.get? a) : obsN n fa fn tf ex g = (hookN n fa fn tf ex).obs s := by
  rw [show g = s.heap.get? from funext h]
  rfl
section
variable {fa : List Fa} {fn : List DefD} {tf : List Defn} {ex : List (PySem.W.Frag → Bool)} {w : World} {h base : Heap} {K : PySem.W.Frag} {mg : Str → Option Value}
theorem says_ex (c : SaysX fa fn [] tf (fun K => ex.all fun f => f K) w h K) (i : Nat) {f : PySem.W.Frag → Bool} (hi : ex[i]? = some f := by rfl) : f K = true := List.all_eq_true.mp c.more f (List.mem_of_getElem? hi)
theorem says_fe (X : K.In base) (G : base.Ns mainGlobals mg) (c : SaysX fa fn [] tf (fun K => ex.all fun f => f K) w h K) (i j : Nat) {x : Str} {st : Stmt} (hi : fa[i]? = some (.glo x) := by rfl) (hj : fn[j]? = some ⟨(x, none), x, x, defArgs st, defBody st, defScope st, [], []⟩ := by rfl) : FE K mg x st := by
  obtain ⟨fd, F⟩ := c.t.d.def_ j hj
  exact ⟨_, fd, F, glo_ok X G (c.t.d.fact i hi)⟩
theorem says_free (X : K.In base) (G : base.Ns mainGlobals mg) (c : SaysX fa fn [] tf (fun K => ex.all fun f => f K) w h K) (i : Nat) {x : Str} (hi : fa[i]? = some (.free x) := by rfl) : mg x = none := free_ok X G (c.t.d.fact i hi)
theorem says_int (X : K.In base) (G : base.Ns mainGlobals mg) (c : SaysX fa fn [] tf (fun K => ex.all fun f => f K) w h K) (i : Nat) {x : Str} {n : Int} (hi : fa[i]? = some (.int x n) := by rfl) : KD K mg x (.int n) := by
  obtain ⟨t, e⟩ := int_ok X G (c.t.d.fact i hi)
  exact ⟨.int n, _, e, ⟨t, rfl⟩, fun _ => .int n⟩
theorem says_err (X : K.In base) (G : base.Ns mainGlobals mg) (c : SaysX fa fn [] tf (fun K => ex.all fun f => f K) w h K) (i j : Nat) {x : Str} (hi : fa[i]? = some (.glo x) := by rfl) (hj : fa[j]? = some (.exc x) := by rfl) : Err K mg x (ga K x) := by
  obtain ⟨h1, h2, h3, h4⟩ := exc_ok (c.t.d.fact j hj)
  exact ⟨glo_ok X G (c.t.d.fact i hi), h1, h2, h3, h4⟩
theorem says_exm (c : SaysX fa fn [] tf (fun K => ex.all fun f => f K) w h K) (i : Nat) {x y : Str} {b : Bool} (hi : fa[i]? = some (.exm x y b) := by rfl) : PySem.W.exmOne K (.ref (ga K x)) (.ref (ga K y)) = some b := exm_ok (c.t.d.fact i hi)
def kTwo (x : Str) (a b : Int) (K : PySem.W.Frag) : Bool := tupB K x [.int a, .int b]
theorem says_two (X : K.In base) (G : base.Ns mainGlobals mg) (c : SaysX fa fn [] tf (fun K => ex.all fun f => f K) w h K) (i j : Nat) {x : Str} {a b : Int} (hi : fa[i]? = some (.glo x) := by rfl) (hj : ex[j]? = some (kTwo x a b) := by rfl) : KD K mg x (.tuple [.int a, .int b]) :=
  ⟨.ref (ga K x), _, glo_ok X G (c.t.d.fact i hi), rfl, fun H => .tup (tupB_ok (says_ex c j hj) H) (.cons (.int a) (.cons (.int b) .nil))⟩
/-! classes of errors, asked by isinstance -/
def eqB (a : Option Bool) (b : Bool) : Bool := match a with
  | some c => c == b
  | none => false
theorem eqB_ok {a : Option Bool} {b : Bool} (h : eqB a b = true) : a = some b := by
  cases a with
  | none => cases h
  | some c => rw [beq_iff_eq.mp (show (c == b) = true from h)]
def excB (x : Str) (K : PySem.W.Frag) : Bool :=
  eqO (PySem.W.findIn K (.ref (ga K x)) "__getattribute__") (some (some (.builtin "BaseException.__getattribute__"))) && (eqO (PySem.W.findIn K (.ref (ga K x)) "__getattr__") (some none) && (eqB (PySem.W.subIn K (.ref (ga K x)) (.type "BaseException")) true &&
    (PySem.W.hasDictIn K (ga K x) && (eqO (PySem.W.findIn K (.ref (ga K x)) "__class__") (some (some (.builtin "object.__class__"))) && (eqO (PySem.W.specialIn K (.builtin "object.__class__") "__get__") (some (some (.builtin "getset_descriptor.__get__"))) &&
      (eqB (PySem.W.takesIn K (.builtin "object.__class__")) true && eqB (PySem.W.mroIn K (ga K x) (.type "object")) true))))))
theorem excB_ok {x : Str} (h : excB x K = true) : ExcC K (ga K x) := by
  obtain ⟨h1, h⟩ := ba h
  obtain ⟨h2, h⟩ := ba h
  obtain ⟨h3, h⟩ := ba h
  obtain ⟨h4, h⟩ := ba h
  obtain ⟨h5, h⟩ := ba h
  obtain ⟨h6, h⟩ := ba h
  obtain ⟨h7, h8⟩ := ba h
  exact ⟨eqO_ok h1, eqO_ok h2, eqB_ok h3, h4, eqO_ok h5, eqO_ok h6, eqB_ok h7, eqB_ok h8⟩
def kitX (x y : Str) (b : Bool) (K : PySem.W.Frag) : Bool := eqB (PySem.W.kitOne K (.ref (ga K x)) (.ref (ga K y))) b
def kitV (x : Str) (K : PySem.W.Frag) : Bool := eqB (PySem.W.kitOne K (.ref (ga K x)) (.type "ValueError")) true
/-! no list stands there; big divisions go by the model's own road -/
def noLst (K : PySem.W.Frag) : Bool := K.all fun q => match q.2.cls with
  | .type n => !(n == "list")
  | _ => true
theorem noLst_ok (h : noLst K = true) {H : Hp} {a : Addr} {xs : List V} (s : SqL K H a xs) : Rd H a (.lst xs) := by
  rcases s with s | ⟨o, its, n, lk, hc, _⟩
  · exact s
  · have q := List.all_eq_true.mp h (a, o) (lookup_mem lk)
    rw [show ((a, o) : Addr × Obj).2.cls = .type "list" from hc] at q
    cases q
def nsB (K : PySem.W.Frag) (a : Addr) (xs : List Str) : Bool := match K.lookup a with
  | some ⟨_, _, .dict es _, _⟩ => (es.toList.all fun e => match e.key with | .str _ _ => true | _ => false) && xs.all fun x => (nsFind es x).isNone
  | _ => false
theorem nsB_ok {a : Addr} {xs : List Str} (h : nsB K a xs = true) (X : K.In base) : ∃ m, base.Ns a m ∧ ∀ x ∈ xs, m x = none := by
  unfold nsB at h
  split at h
  · rename_i c d es n sl q
    obtain ⟨h1, h2⟩ := ba h
    refine ⟨nsFind es, ⟨_, es, n, X _ _ q, rfl, fun e he => ?_, fun _ => rfl⟩, fun x hx => ?_⟩
    · have z := List.all_eq_true.mp h1 e (Array.mem_toList_iff.mpr he)
      cases k : e.key with
      | str m t => exact ⟨m, t, rfl⟩
      | _ => rw [k] at z; cases z
    · exact Option.isNone_iff_eq_none.mp (List.all_eq_true.mp h2 x hx)
  · cases h
def seerB (K : PySem.W.Frag) : Bool := nsB K cStatics ["sys.audit-hooks", "sys.dict"] && (nsB K sysModules ["_pylong"] && (match K.lookup (ga K "__builtins__") with
  | some ⟨.type c, some d, _, _⟩ => c == "module" && d == builtinsNs
  | _ => false))
theorem seer_of (h : seerB K = true) (X : K.In base) (G : base.Ns mainGlobals mg) (hb : mg "__builtins__" = some (.ref (ga K "__builtins__"))) (hbl : ∃ mb, base.Ns builtinsNs mb ∧ ∀ x : Str, x ≠ "__name__" → mb x = bootBuiltins x) : base.NoSeer := by
  obtain ⟨h1, h⟩ := ba h
  obtain ⟨h2, h3⟩ := ba h
  obtain ⟨mc, c1, c2⟩ := nsB_ok h1 X
  obtain ⟨mm, m1, m2⟩ := nsB_ok h2 X
  refine ⟨⟨mc, c1, c2 _ (by simp), c2 _ (by simp)⟩, ⟨mm, m1, m2 _ (by simp)⟩, hbl, mg, ga K "__builtins__", ?_⟩
  split at h3
  · rename_i c d dt sl q
    obtain ⟨h4, h5⟩ := ba h3
    exact ⟨_, G, hb, X _ _ q, by rw [beq_iff_eq.mp h4], by rw [beq_iff_eq.mp h5]⟩
  · cases h3
end
/-! ### the law -/
/-- what the law is handed, what it comes to -/
def spLaw (T : List (Addr × Str)) (n : Nat) : Sp := fun vs H Q _ => ∃ (a : Addr) (ns : List Int), vs = [.ref a] ∧ ns.length ≤ n ∧ (∀ z ∈ ns, Builtin.Int.intBits z ≤ 1048576) ∧ (∀ p ∈ T, H p.1 = some (.tbl #[])) ∧ Rd H a (.lst (ns.map V.int)) ∧ ∀ H', Q (.bl true) H'
theorem dts_ints {K : PySem.W.Frag} {H : Hp} : ∀ ns : List Int, DtAll K H (ns.map V.int) (ns.map .int)
  | [] => .nil
  | n :: ns => .cons (.int n) (dts_ints ns)
theorem law_mk {Pr : Program} {w : World} {K : PySem.W.Frag} {mg : Str → Option Value} {base : Heap} {st : Stmt} {f : Addr} {fd : FuncData} {N : List Str} {k n : Nat} {T : List (Addr × Str)}
    (F : FunD K "law" "law" (defArgs st) (defBody st) (defScope st) [] [] f fd) (S : FnScope N ["script"] (defScope st)) (hf : f = ga K "law") (htr : Pr.given.tree = none) (hk : 40 ≤ k) (hns : (∃ mb, base.Ns builtinsNs mb ∧ ∀ x : Str, x ≠ "__name__" → mb x = bootBuiltins x) → base.NoSeer)
    (body : base.NoSeer → ∀ (cdv : Value) (A : Around) (outer : List Env) (s : Shared) (H : Hp) (E : XK) (X : Cx), X = cxOf (L2N.CX Pr w) Pr w K mg base N "law" (defScope st) f cdv A outer s H E → Gx X k → PassesOwn (model X.prog X.w) X.A X.env X.xe → X.env.code = .ref (codeOf K ("law", none)) → ∀ ns : List Int, ns.length ≤ n → (∀ z ∈ ns, Builtin.Int.intBits z ≤ 1048576) →
      SS (SameN T) X (.dat (.list (ns.map .int)) :: List.replicate (N.length - 1) .no) (defBody st) { rt := fun e => e = .bool true }) : FnOk Pr w K mg base (L2N.CX Pr w) (k + 1) f fd ["script"] (spLaw T n) := by
  obtain ⟨oc, od, dV, kV, doc, pm, an, cdv, ct, osl, rfl, lk, hcd, _, _⟩ := F.ex
  have len : ∀ vs H Q E, spLaw T n vs H Q E → vs.length = (["script"] : List Str).length := fun vs H Q E h => by
    obtain ⟨a, ns, rfl, _⟩ := h
    rfl
  refine ⟨len, fun A outer s H args us vs Q E hr e0 => ?_⟩
  have seer := hns e0.mod.blt
  obtain ⟨c, hc⟩ := codeIn_ref hcd
  have hco : cdv = .ref (codeOf K ("law", none)) := by
    rw [hc]
    subst hf
    rw [codeOf_eq (p := ("law", none)) lk hc]
  refine (fn_of (CX := L2N.CX Pr w) (k := k) (sp := spLaw T n) lk hcd S len fun A outer s H vs Q E hr h => ?_).run A outer s H args us vs Q E hr e0
  obtain ⟨a, ns, rfl, hl, hb, hT, hR, hq⟩ := h
  let X : Cx := cxOf (L2N.CX Pr w) Pr w K mg base N "law" (defScope st) f cdv A outer s H E
  have gx : Gx X k := ⟨hr, hk, seer, htr, ⟨_, _, rfl, S.gen, S.co, rfl, rfl⟩⟩
  have tk : L2N.Takes X (fun c d _ H' => E c d H') := L2N.takes_of rfl rfl rfl rfl
  have pss : PassesOwn (model X.prog X.w) X.A X.env X.xe := passes_of rfl
  have hN : 1 ≤ N.length := by
    have := congrArg List.length S.pre
    rw [List.length_take] at this
    simp at this
    omega
  have TT : Tabs T H := fun p hp => TabS.nil (hT p hp)
  have si : SI (SameN T) K H (fun _ => False) (.dat (.list (ns.map .int)) :: List.replicate (N.length - 1) .no) (L2.start N [.ref a]) H :=
    si_startR (N := N) (vs := [.ref a]) (ds := [.list (ns.map .int)]) (n := 1) ⟨Keep.refl H, fun _ z => z, TT, TT⟩ (fun _ z => z.elim) (.cons (.lst (rd_keep (fun b o e _ => off_of (fun z => z.elim) e) hR) (dts_ints ns)) .nil) rfl rfl
  refine ⟨wss X (defBody st), pss_wss, ?_⟩
  exact body seer cdv A outer s H E X rfl gx pss hco ns hl hb H (fun _ => False) _ H _ E si tk (fun _ _ _ h _ => h.elim) ⟨fun e v H' he r' dv => by
    rw [show e = .bool true from he] at dv
    cases dv
    exact hq H', fun _ _ _ _ h => h.elim⟩ (fun _ _ _ h _ => h.elim) (fun _ _ _ h _ => h.elim) (fun _ _ h _ => h.elim)
end An

/-! Defs that make lambdas: the tables of code objects may grow. -/
namespace An
open PySem PySem.Spec PyProof.Rows L2 He LamX
def spT (T : List (Addr × Str)) (K : PySem.W.Frag) (n : Nat) (Val : List D → D → Prop) : Sp := fun vs H Q _ => vs.length = n ∧ Tabs T H ∧ ∃ (S : Addr → Prop) (ds : List D), (∀ a, S a → H a ≠ none) ∧ DtAll K (off S H) vs ds ∧ ∃ d, Val ds d ∧ ∀ v H2, SameN T H H2 → Dt K (off S H2) v d → Q v H2
structure FnT (P : Program) (w : World) (K : PySem.W.Frag) (mg : Str → Option Value) (base : Heap) (x : Str) (k n : Nat) (T : List (Addr × Str)) (Val : List D → D → Prop) : Prop where
  ok : ∃ (f : Addr) (fd : FuncData) (ps : List Str), FnOk P w K mg base (L2N.CX P w) k f fd ps (spT T K n Val) ∧ mg x = some (.ref f) ∧ PySem.W.keepIn K (.ref f) = true ∧ Binds K fd ps []
section
variable {T : List (Addr × Str)} {X : Cx} {γ : List Sl} {pos : Pos}
theorem ee_callT {x : Str} {k n : Nat} {Val : List D → D → Prop} {e : Expr} {es : List Expr} {p : Pos} {ds : List D} {d : D} (F : FnT X.prog X.w X.K X.mg X.base x k n T Val) (hr : Room k X.A) (ha : EA (SameN T) X γ (e :: es) ds) (hv : Val ds d) (hn : ds.length = n := by rfl) (hg : Gl X x := by rfl)
    (hdb : (x == ("__debug__" : Str)) = false := by decide) (he : starEach (e :: es) X.env = (false, eval e X.env) :: starEach es X.env := by rfl) (hpl : (backTo pos (starEach es X.env)).any (·.1) = false := by rfl) :
    EE (SameN T) X γ (.Call (.Name x p) (e :: es) [] pos) d := fun H0 S0 σ H Q s kk => by
  obtain ⟨f, fd, ps, h1, h2, h3, h4⟩ := F.ok
  refine we_of (pe_call (E := E0) h1 hr hg h2 h3 h4 .nil passN pa_wa hdb he hpl) (ha H0 S0 σ H _ s fun vs H1 r1 d1 => ?_)
  rw [List.append_nil]
  exact ⟨by rw [dps_len d1]; exact hn, r1.2.2.2, Sx S0 γ σ, ds, sx_dom (s.mono r1), d1, d, hv, fun v H2 sm dv => kk v H2 (Rel.trans r1 sm) dv⟩
theorem ee_callT0 {x : Str} {k : Nat} {Val : List D → D → Prop} {p : Pos} {d : D} (F : FnT X.prog X.w X.K X.mg X.base x k 0 T Val) (hr : Room k X.A) (hv : Val [] d) (hg : Gl X x := by rfl) (hdb : (x == ("__debug__" : Str)) = false := by decide) :
    EE (SameN T) X γ (.Call (.Name x p) [] [] pos) d := fun H0 S0 σ H Q s kk => by
  obtain ⟨f, fd, ps, h1, h2, h3, h4⟩ := F.ok
  refine we_of (pe_call0 (E := E0) h1 hr hg h2 h3 h4 .nil passN hdb) ?_
  exact ⟨rfl, s.rel.2.2.2, Sx S0 γ σ, [], sx_dom s, .nil, d, hv, fun v H2 sm dv => kk v H2 sm dv⟩
end
def neT (a b : Str) (K : PySem.W.Frag) : Bool := decide ((cT K (a, none)).2 ≠ (cT K (b, none)).2)
theorem neT_ok {a b : Str} {K : PySem.W.Frag} (h : neT a b K = true) : (cT K (a, none)).2 ≠ (cT K (b, none)).2 := of_decide_eq_true h
theorem fnt_mk {Pr : Program} {w : World} {K : PySem.W.Frag} {mg : Str → Option Value} {base : Heap} {x : Str} {st : Stmt} {f : Addr} {fd : FuncData} {N ps : List Str} {k n : Nat} {T : List (Addr × Str)} {Val : List D → D → Prop}
    (F : FunD K x x (defArgs st) (defBody st) (defScope st) [] [] f fd) (S : FnScope N ps (defScope st)) (hm : mg x = some (.ref f)) (hb : Binds K fd ps []) (hf : f = ga K x) (htr : Pr.given.tree = none) (hk : 40 ≤ k) (hns : base.NoSeer) (hn : ps.length = n)
    (body : ∀ (cdv : Value) (A : Around) (outer : List Env) (s : Shared) (H : Hp) (E : XK) (X : Cx), X = cxOf (L2N.CX Pr w) Pr w K mg base N x (defScope st) f cdv A outer s H E → Gx X k → PassesOwn (model X.prog X.w) X.A X.env X.xe → X.env.code = .ref (codeOf K (x, none)) → ∀ ds : List D, ds.length = n →
      ∀ d, Val ds d → SS (SameN T) X (ds.map .dat ++ List.replicate (N.length - n) .no) (defBody st) { rt := fun e => e = d, nx := fun _ => d = .none }) : FnT Pr w K mg base x (k + 1) n T Val := by
  have kp := F.kp
  obtain ⟨oc, od, dV, kV, doc, pm, an, cdv, ct, osl, rfl, lk, hcd, _, _⟩ := F.ex
  have len : ∀ vs H Q E, spT T K n Val vs H Q E → vs.length = ps.length := fun vs H Q E h => by rw [h.1, hn]
  refine ⟨_, _, ps, ⟨len, fun A outer s H args us vs Q E hr e0 => ?_⟩, hm, kp, hb⟩
  obtain ⟨c, hc⟩ := codeIn_ref hcd
  have hco : cdv = .ref (codeOf K (x, none)) := by
    rw [hc]
    subst hf
    rw [codeOf_eq (p := (x, none)) lk hc]
  refine (fn_of (CX := L2N.CX Pr w) (k := k) (sp := spT T K n Val) lk hcd S len fun A outer s H vs Q E hr h => ?_).run A outer s H args us vs Q E hr e0
  obtain ⟨hl, hT, Sv, ds, hS, hd, d, hv, hq⟩ := h
  let X : Cx := cxOf (L2N.CX Pr w) Pr w K mg base N x (defScope st) f cdv A outer s H E
  have hdl : ds.length = n := by rw [← dps_len hd, hl]
  have gx : Gx X k := ⟨hr, hk, hns, htr, ⟨_, _, rfl, S.gen, S.co, rfl, rfl⟩⟩
  have tk : L2N.Takes X (fun c d _ H' => E c d H') := L2N.takes_of rfl rfl rfl rfl
  have pss : PassesOwn (model X.prog X.w) X.A X.env X.xe := passes_of rfl
  refine ⟨wss X (defBody st), pss_wss, ?_⟩
  have si : SI (SameN T) K H Sv (ds.map .dat ++ List.replicate (N.length - n) .no) (L2.start N vs) H := si_startR ⟨Keep.refl H, fun _ z => z, hT, hT⟩ hS hd hl hdl
  exact body cdv A outer s H E X rfl gx pss hco ds hdl d hv H Sv _ H _ E si tk (fun γ' σ' H' e s' => hq .non H' s'.rel (by rw [show d = .none from e]; exact .non)) ⟨fun e v H' he r' dv => hq v H' r' (by rw [← show e = d from he]; exact dv), fun _ _ _ _ h => h.elim⟩ (fun _ _ _ h _ => h.elim) (fun _ _ _ h _ => h.elim) fun c H' h _ => h.elim
end An

/-! Polynomials: sums and products keep the laws of reckoning. -/
namespace An
open PySem
/-- a polynomial acting on a row of fractions: the row of the product -/
def sft (g : Nat → Rat) : Nat → Rat
  | 0 => 0
  | k + 1 => g k
def act : Poly → (Nat → Rat) → Nat → Rat
  | [], _ => fun _ => 0
  | a :: r, g => fun k => a * g k + sft (act r g) k
theorem sft_add (f g : Nat → Rat) : (sft fun k => f k + g k) = fun k => sft f k + sft g k := funext fun k => by
  cases k with
  | zero => show (0 : Rat) = 0 + 0; rw [Rat.add_zero]
  | succ k => rfl
theorem sft_mul (a : Rat) (g : Nat → Rat) : (sft fun k => a * g k) = fun k => a * sft g k := funext fun k => by
  cases k with
  | zero => show (0 : Rat) = a * 0; rw [Rat.mul_zero]
  | succ k => rfl
theorem act_zero : ∀ p : Poly, act p (fun _ => 0) = fun _ => 0
  | [] => rfl
  | a :: r => funext fun k => by
    show a * 0 + sft (act r fun _ => 0) k = 0
    rw [act_zero r, Rat.mul_zero]
    cases k <;> exact Rat.add_zero 0
theorem act_add : ∀ (p : Poly) (f g : Nat → Rat), (act p fun k => f k + g k) = fun k => act p f k + act p g k
  | [], _, _ => funext fun _ => (Rat.add_zero 0).symm
  | a :: r, f, g => funext fun k => by
    show a * (f k + g k) + sft (act r fun k => f k + g k) k = (a * f k + sft (act r f) k) + (a * g k + sft (act r g) k)
    rw [act_add r f g, sft_add]
    grind
theorem act_mul : ∀ (p : Poly) (c : Rat) (g : Nat → Rat), (act p fun k => c * g k) = fun k => c * act p g k
  | [], c, _ => funext fun _ => (Rat.mul_zero c).symm
  | a :: r, c, g => funext fun k => by
    show a * (c * g k) + sft (act r fun k => c * g k) k = c * (a * g k + sft (act r g) k)
    rw [act_mul r c g, sft_mul]
    grind
theorem act_sft : ∀ (p : Poly) (g : Nat → Rat), act p (sft g) = sft (act p g)
  | [], _ => funext fun k => by cases k <;> rfl
  | a :: r, g => funext fun k => by
    show a * sft g k + sft (act r (sft g)) k = sft (fun k => a * g k + sft (act r g) k) k
    rw [act_sft r g, sft_add, sft_mul]
theorem act_comm : ∀ (p q : Poly) (g : Nat → Rat), act p (act q g) = act q (act p g)
  | [], q, g => by
    show (fun _ => 0) = act q fun _ => 0
    rw [act_zero]
  | a :: r, q, g => by
    have e : act q (act (a :: r) g) = fun k => act q (fun k => a * g k) k + act q (sft (act r g)) k := act_add q (fun k => a * g k) (sft (act r g))
    rw [e, act_mul, act_sft, ← act_comm r q g]
    rfl
/-- the row of the polynomial 1 -/
def uno : Nat → Rat
  | 0 => 1
  | _ + 1 => 0
theorem act_uno : ∀ p : Poly, act p uno = coef p
  | [] => funext fun k => (coef_nil k).symm
  | a :: r => funext fun k => by
    show a * uno k + sft (act r uno) k = coef (a :: r) k
    rw [act_uno r]
    cases k with
    | zero => show a * 1 + 0 = _; rw [Rat.mul_one, Rat.add_zero, coef_zero]
    | succ k => show a * 0 + coef r k = _; rw [Rat.mul_zero, Rat.zero_add, coef_succ]
theorem cmul_act : ∀ (p q : Poly), cmul p q = act p (coef q)
  | [], q => rfl
  | a :: r, q => funext fun k => by
    have e := cmul_act r q
    cases k with
    | zero => simp [cmul, act, sft]
    | succ k => simp [cmul, act, sft, e]
theorem coef_act (p q : Poly) : coef (pmul p q) = act p (coef q) := funext fun k => by
  rw [coef_pmul, cmul_act]
/-- acting goes by the coefficients alone -/
theorem act_pmul (p q r : Poly) : act (pmul p q) (coef r) = act p (act q (coef r)) := by
  rw [← act_uno r, act_comm (pmul p q) r, act_uno, coef_act, ← act_uno q, act_comm r p, act_comm r q]
theorem pmul_comm (p q : Poly) : pmul p q = pmul q p := own_ext (own_pmul _ _) (own_pmul _ _) fun i => by
  rw [coef_act, coef_act, ← act_uno q, act_comm p q, act_uno p]
theorem pmul_assoc (p q r : Poly) : pmul (pmul p q) r = pmul p (pmul q r) := own_ext (own_pmul _ _) (own_pmul _ _) fun i => by
  rw [coef_act, act_pmul, coef_act, coef_act]
theorem padd_comm (p q : Poly) : padd p q = padd q p := own_ext (own_padd _ _) (own_padd _ _) fun i => by
  rw [coef_padd, coef_padd, Rat.add_comm]
theorem padd_assoc (p q r : Poly) : padd (padd p q) r = padd p (padd q r) := own_ext (own_padd _ _) (own_padd _ _) fun i => by
  rw [coef_padd, coef_padd, coef_padd, coef_padd, Rat.add_assoc]
theorem padd_nil {p : Poly} (h : Own p) : padd p [] = p := own_ext (own_padd _ _) h fun i => by
  rw [coef_padd, coef_nil, Rat.add_zero]
theorem pmul_nil (p : Poly) : pmul p [] = [] := own_ext (own_pmul _ _) own_nil fun i => by
  rw [coef_act, show coef ([] : Poly) = fun _ => 0 from funext coef_nil, act_zero]
theorem nil_pmul (p : Poly) : pmul [] p = [] := by
  rw [pmul_comm, pmul_nil]
theorem pmul_padd (p q r : Poly) : pmul p (padd q r) = padd (pmul p q) (pmul p r) := own_ext (own_pmul _ _) (own_padd _ _) fun i => by
  rw [coef_padd, coef_act, coef_act, coef_act, show coef (padd q r) = fun k => coef q k + coef r k from funext (coef_padd q r), act_add]
theorem padd_pmul (p q r : Poly) : pmul (padd p q) r = padd (pmul p r) (pmul q r) := by
  rw [pmul_comm, pmul_padd, pmul_comm r p, pmul_comm r q]
theorem pmul_pscale (p q : Poly) (c : Rat) : pmul p (pscale q c) = pscale (pmul p q) c := own_ext (own_pmul _ _) (own_pscale _ _) fun i => by
  rw [coef_act, coef_pscale, coef_act, show coef (pscale q c) = fun k => c * coef q k from funext fun k => by rw [coef_pscale, Rat.mul_comm], act_mul, Rat.mul_comm]
theorem pscale_padd (p q : Poly) (c : Rat) : pscale (padd p q) c = padd (pscale p c) (pscale q c) := own_ext (own_pscale _ _) (own_padd _ _) fun i => by
  rw [coef_padd, coef_pscale, coef_pscale, coef_pscale, coef_padd, Rat.add_mul]
theorem pscale_pscale (p : Poly) (b c : Rat) : pscale (pscale p b) c = pscale p (b * c) := own_ext (own_pscale _ _) (own_pscale _ _) fun i => by
  rw [coef_pscale, coef_pscale, coef_pscale, Rat.mul_assoc]
theorem pscale_one {p : Poly} (h : Own p) : pscale p 1 = p := own_ext (own_pscale _ _) h fun i => by
  rw [coef_pscale, Rat.mul_one]
theorem pmul_const (c : Rat) (p : Poly) : pmul [c] p = pscale p c := own_ext (own_pmul _ _) (own_pscale _ _) fun i => by
  rw [coef_act, coef_pscale]
  show c * coef p i + sft (fun _ => 0) i = _
  cases i <;> exact (Rat.add_zero _).trans (Rat.mul_comm _ _)
theorem one_pmul {p : Poly} (h : Own p) : pmul [1] p = p := by
  rw [pmul_const, pscale_one h]
end An

/-! What the defs bring, by data; sizes found by instances. -/
namespace An
open PySem PySem.Spec PyProof.Rows L2
def vCommon (ds : List D) (d : D) : Prop := ∃ a b : Nat, ds = [.int a, .int b] ∧ d = .int (Nat.gcd a b : Nat)
def vFraction (ds : List D) (d : D) : Prop := ∃ t u : Int, ds = [.int t, .int u] ∧ u ≠ 0 ∧ d = eF (Rat.divInt t u)
def Bin (f : Rat → Rat → Rat) (ds : List D) (d : D) : Prop := ∃ (a b : Rat) (n m : Nat), ds = [eF a, eF b] ∧ Rz n a ∧ Rz m b ∧ n + m ≤ LIM ∧ d = eF (f a b)
def vIsF (ds : List D) (d : D) : Prop := ∃ x, ds = [x] ∧ d = .bool (isF x)
def vIsP (ds : List D) (d : D) : Prop := ∃ x, ds = [x] ∧ d = .bool (isPo x)
def vNeedP (ds : List D) (d : D) : Prop := ∃ x, ds = [x] ∧ isPo x = true ∧ d = .none
def xNeedP (K : PySem.W.Frag) (ds : List D) (c : Value) : Prop := ∃ x, ds = [x] ∧ isPo x = false ∧ c = ec K "BadPoly"
def xFst (K : PySem.W.Frag) (ds : List D) (c : Value) : Prop := ∃ x r, ds = x :: r ∧ isPo x = false ∧ c = ec K "BadPoly"
def vTrim (ds : List D) (d : D) : Prop := ∃ p : Poly, ds = [eP p] ∧ p.length ≤ 1000 ∧ d = eP (trim p)
def vTell (ds : List D) (d : D) : Prop := ∃ x, ds = [x] ∧ isPo x = true ∧ d = x
def vAt (ds : List D) (d : D) : Prop := ∃ (p : Poly) (i : Nat), ds = [eP p, .int i] ∧ d = eF (coef p i)
def vAdd (ds : List D) (d : D) : Prop := ∃ (p q : Poly) (n m : Nat), ds = [eP p, eP q] ∧ PZ n p ∧ PZ m q ∧ 0 < n ∧ 0 < m ∧ n + m ≤ LIM ∧ p.length ≤ 1000 ∧ q.length ≤ 1000 ∧ d = eP (padd p q)
def vScale (ds : List D) (d : D) : Prop := ∃ (p : Poly) (c : Rat) (n m : Nat), ds = [eP p, eF c] ∧ PZ n p ∧ Rz m c ∧ n + m ≤ LIM ∧ p.length ≤ 1000 ∧ d = eP (pscale p c)
def vMul (ds : List D) (d : D) : Prop := ∃ (p q : Poly) (n m : Nat), ds = [eP p, eP q] ∧ PZ n p ∧ PZ m q ∧ 0 < n ∧ 0 < m ∧ p.length ≤ 100 ∧ q.length ≤ 100 ∧ (p.length + 2) * (n + m + 1) ≤ LIM ∧ d = eP (pmul p q)
def vWorth (ds : List D) (d : D) : Prop := ∃ (p : Poly) (x : Rat) (n m : Nat), ds = [eP p, eF x] ∧ PZ n p ∧ Rz m x ∧ 0 < n ∧ p.length ≤ 100 ∧ (p.length + 2) * (n + m + 1) ≤ LIM ∧ d = eF (peval p x)
def vSlope (ds : List D) (d : D) : Prop := ∃ (p : Poly) (n : Nat), ds = [eP p] ∧ PZ n p ∧ 0 < n ∧ p.length ≤ 100 ∧ n + 8 ≤ LIM ∧ d = eP (pder p)
/-! ### lengths, comparisons by kind -/
class LenD (x : D) (n : outParam Nat) : Prop where
  ok : lenD x = some n
instance (p : Poly) : LenD (eP p) p.length := ⟨by simp [eP, lenD]⟩
instance (ds : List D) : LenD (.list ds) ds.length := ⟨rfl⟩
instance (ds : List D) : LenD (.tuple ds) ds.length := ⟨rfl⟩
instance {α : Type} (f : α → D) (l : List α) : LenD (.list (l.map f)) l.length := ⟨by simp [lenD]⟩
class EqvD (a b : D) (c : outParam Bool) : Prop where
  sa : SeqAt.shaped a = true
  sb : SeqAt.shaped b = true
  eq : PyData.eqv a b = c
instance (a b : Rat) : EqvD (eF a) (eF b) (decide (a = b)) := ⟨(sh_eF a).ok1, (sh_eF b).ok1, eqv_eF a b⟩
instance (a b : Poly) : EqvD (eP a) (eP b) (decide (a = b)) := ⟨(sh_eP a).ok2, (sh_eP b).ok2, eqv_eP a b⟩
instance (a : Poly) : EqvD (eP a) (.list []) (decide (a = [])) := ⟨(sh_eP a).ok2, (sh_eP []).ok2, eqv_eP a []⟩
instance (i j : Int) : EqvD (.int i) (.int j) (decide (i = j)) := ⟨sh_int.ok0, sh_int.ok0, by
  simp only [PyData.eqv]
  by_cases z : i = j <;> simp [z]⟩
section
variable {R : Hp → Hp → Prop} [RelC R] {X : Cx} {γ : List Sl} {pos p : Pos} {a b : Expr} {k : Nat}
theorem ee_lenC {x : D} {n : Nat} [LenD x n] (ha : EE R X γ a x) (hm : X.mg "len" = none) (hg : Gl X "len" := by rfl) (he : starEach [a] X.env = (false, eval a X.env) :: starEach [] X.env := by rfl) (hpl : (backTo pos (starEach [] X.env)).any (·.1) = false := by rfl) :
    EE R X γ (.Call (.Name "len" p) [a] [] pos) (.int n) := ee_len ha LenD.ok hm hg he hpl
theorem od_eqC {x y : D} {c : Bool} [EqvD x y c] (g : Gx X k) : OpD X (compareOp .Eq) x y (.bool c) := by
  have h := od_eq (X := X) g (EqvD.sa (a := x) (b := y)) (EqvD.sb (a := x) (b := y))
  rw [EqvD.eq (a := x) (b := y)] at h
  exact h
theorem od_neC {x y : D} {c : Bool} [EqvD x y c] (g : Gx X k) : OpD X (compareOp .NotEq) x y (.bool (!c)) := by
  have h := od_ne (X := X) g (EqvD.sa (a := x) (b := y)) (EqvD.sb (a := x) (b := y))
  rw [EqvD.eq (a := x) (b := y)] at h
  exact h
end
/-! ### sizes -/
class RB (q : Rat) (n : outParam Nat) : Prop where
  z : Rz n q
class PB (p : Poly) (n l : outParam Nat) : Prop where
  z : PZ n p
  p0 : 0 < n
  len : p.length ≤ l
class OB (p : Poly) : Prop where
  o : Own p
theorem pbz (p : Poly) {n l : Nat} [h : PB p n l] : PZ n p := h.z
theorem pb0 (p : Poly) {n l : Nat} [h : PB p n l] : 0 < n := h.p0
theorem pbl (p : Poly) {n l : Nat} [h : PB p n l] : p.length ≤ l := h.len
instance : RB 0 1 := ⟨rz_zero⟩
instance : RB 1 1 := ⟨rz_one⟩
section
variable {a b : Rat} {n m l k : Nat} {p q : Poly}
instance [RB a n] [RB b m] : RB (a * b) (n + m) := ⟨RB.z.mul RB.z⟩
instance [RB a n] [RB b m] : RB (a + b) (n + m + 1) := ⟨RB.z.add RB.z⟩
instance [RB a n] [RB b m] : RB (a - b) (n + m + 1) := ⟨RB.z.sub RB.z⟩
instance [RB a n] : RB (-a) n := ⟨RB.z.neg⟩
instance [RB a n] [RB b m] : RB (a / b) (n + m) := ⟨RB.z.div RB.z⟩
instance [RB a n] : RB a⁻¹ n := ⟨RB.z.inv⟩
instance [PB p n l] (i : Nat) : RB (coef p i) n := ⟨(pbz p).coef (pb0 p) i⟩
instance [PB p n l] [RB a m] : RB (peval p a) (1 + l * (n + m + 1)) := ⟨(rz_peval (pbz p) (RB.z (q := a))).mono (Nat.add_le_add_left (Nat.mul_le_mul_right _ (pbl p)) _)⟩
instance : PB [] 1 0 := ⟨pz_nil, by decide, Nat.le_refl _⟩
instance [RB a n] [PB p m l] : PB (a :: p) (n + m) (l + 1) := ⟨fun q hq => by
  rcases List.mem_cons.mp hq with h | h
  · rw [h]; exact RB.z.mono (Nat.le_add_right _ _)
  · exact (pbz p q h).mono (Nat.le_add_left _ _), Nat.lt_of_lt_of_le (pb0 p) (Nat.le_add_left _ _), Nat.succ_le_succ (pbl p)⟩
instance [PB p n l] [PB q m k] : PB (padd p q) (n + m + 1) (max l k) := ⟨pz_padd (pbz p) (pbz q) (pb0 p) (pb0 q), Nat.succ_pos _, Nat.le_trans (padd_len p q) (by have := pbl p; have := pbl q; omega)⟩
instance [PB p n l] [PB q m k] : PB (pmul p q) (1 + l * (n + m + 1)) (l + k) := ⟨(pz_pmul (pbz p) (pbz q) (pb0 q)).mono (Nat.add_le_add_left (Nat.mul_le_mul_right _ (pbl p)) _), by omega, Nat.le_trans (pmul_len p q) (by have := pbl p; have := pbl q; omega)⟩
instance [PB p n l] [RB a m] : PB (pscale p a) (n + m) l := ⟨pz_pscale (pbz p) (RB.z (q := a)), Nat.lt_of_lt_of_le (pb0 p) (Nat.le_add_right _ _), Nat.le_trans (pscale_len p a) (pbl p)⟩
instance [PB p n l] : PB (trim p) n l := ⟨(pbz p).trim, pb0 p, Nat.le_trans (trim_len p) (pbl p)⟩
instance : OB [] := ⟨own_nil⟩
instance : OB (padd p q) := ⟨own_padd _ _⟩
instance : OB (pmul p q) := ⟨own_pmul _ _⟩
instance : OB (pscale p a) := ⟨own_pscale _ _⟩
instance : OB (trim p) := ⟨own_trim _⟩
theorem bin_c {f : Rat → Rat → Rat} [RB a n] [RB b m] (h : n + m ≤ LIM) : Bin f [eF a, eF b] (eF (f a b)) := ⟨a, b, n, m, rfl, RB.z, RB.z, h, rfl⟩
theorem add_c [PB p n l] [PB q m k] (h : n + m ≤ LIM ∧ l ≤ 1000 ∧ k ≤ 1000) : vAdd [eP p, eP q] (eP (padd p q)) := ⟨p, q, n, m, rfl, pbz p, pbz q, pb0 p, pb0 q, h.1, Nat.le_trans (pbl p) h.2.1, Nat.le_trans (pbl q) h.2.2, rfl⟩
theorem scale_c [PB p n l] [RB a m] (h : n + m ≤ LIM ∧ l ≤ 1000) : vScale [eP p, eF a] (eP (pscale p a)) := ⟨p, a, n, m, rfl, pbz p, RB.z, h.1, Nat.le_trans (pbl p) h.2, rfl⟩
theorem mul_c [PB p n l] [PB q m k] (h : (l + 2) * (n + m + 1) ≤ LIM ∧ l ≤ 100 ∧ k ≤ 100) : vMul [eP p, eP q] (eP (pmul p q)) := ⟨p, q, n, m, rfl, pbz p, pbz q, pb0 p, pb0 q, Nat.le_trans (pbl p) h.2.1, Nat.le_trans (pbl q) h.2.2, Nat.le_trans (Nat.mul_le_mul_right _ (Nat.add_le_add_right (pbl p) 2)) h.1, rfl⟩
theorem worth_c [PB p n l] [RB a m] (h : (l + 2) * (n + m + 1) ≤ LIM ∧ l ≤ 100) : vWorth [eP p, eF a] (eF (peval p a)) := ⟨p, a, n, m, rfl, pbz p, RB.z, pb0 p, Nat.le_trans (pbl p) h.2, Nat.le_trans (Nat.mul_le_mul_right _ (Nat.add_le_add_right (pbl p) 2)) h.1, rfl⟩
theorem slope_c [PB p n l] (h : n + 8 ≤ LIM ∧ l ≤ 100) : vSlope [eP p] (eP (pder p)) := ⟨p, n, rfl, pbz p, pb0 p, Nat.le_trans (pbl p) h.2, h.1, rfl⟩
theorem trim_c [PB p n l] (h : l ≤ 1000) : vTrim [eP p] (eP (trim p)) := ⟨p, rfl, Nat.le_trans (pbl p) h, rfl⟩
theorem po_c [PB p n l] [OB p] (h : l ≤ 13) : isPo (eP p) = true := by
  rw [isPo_eP, decide_eq_true (Nat.le_trans (pbl p) h), decide_eq_true (OB.o (p := p))]
  rfl
theorem need_c [PB p n l] [OB p] (h : l ≤ 13) : vNeedP [eP p] .none := ⟨_, rfl, po_c h, rfl⟩
theorem tell_c [PB p n l] [OB p] (h : l ≤ 13) : vTell [eP p] (eP p) := ⟨_, rfl, po_c h, rfl⟩
end
end An

/-! The ring of polynomials; degrees; division; common parts. -/
namespace An
open PySem
structure QX where
  p : Poly
  own : Own p
theorem QX.ext' {a b : QX} (h : a.p = b.p) : a = b := by
  cases a; cases b; cases h; rfl
theorem QX.extC {a b : QX} (h : ∀ i, coef a.p i = coef b.p i) : a = b := QX.ext' (own_ext a.own b.own h)
/-- a number as a polynomial -/
def QX.C (c : Rat) : QX := ⟨trim [c], own_trim _⟩
theorem coef_C (c : Rat) (i : Nat) : coef (QX.C c).p i = if i = 0 then c else 0 := by
  show coef (trim [c]) i = _
  rw [coef_trim]
  cases i with
  | zero => rfl
  | succ i => rw [coef_succ, coef_nil, if_neg (by omega)]
def QX.pw (a : QX) : Nat → QX
  | 0 => QX.C 1
  | n + 1 => ⟨pmul (QX.pw a n).p a.p, own_pmul _ _⟩
instance : Add QX := ⟨fun a b => ⟨padd a.p b.p, own_padd _ _⟩⟩
instance : Mul QX := ⟨fun a b => ⟨pmul a.p b.p, own_pmul _ _⟩⟩
instance : Neg QX := ⟨fun a => ⟨pscale a.p (-1), own_pscale _ _⟩⟩
instance : Sub QX := ⟨fun a b => ⟨padd a.p (pscale b.p (-1)), own_padd _ _⟩⟩
instance : NatCast QX := ⟨fun n => QX.C n⟩
instance : IntCast QX := ⟨fun n => QX.C n⟩
instance (n : Nat) : OfNat QX n := ⟨QX.C n⟩
instance : SMul Nat QX := ⟨fun n a => (n : QX) * a⟩
instance : SMul Int QX := ⟨fun n a => (n : QX) * a⟩
instance : HPow QX Nat QX := ⟨QX.pw⟩
theorem qx_add (a b : QX) : (a + b).p = padd a.p b.p := rfl
theorem qx_mul (a b : QX) : (a * b).p = pmul a.p b.p := rfl
theorem qx_neg (a : QX) : (-a).p = pscale a.p (-1) := rfl
theorem qx_sub (a b : QX) : (a - b).p = padd a.p (pscale b.p (-1)) := rfl
theorem coef_add (a b : QX) (i : Nat) : coef (a + b).p i = coef a.p i + coef b.p i := coef_padd _ _ _
theorem coef_neg (a : QX) (i : Nat) : coef (-a).p i = -coef a.p i := by
  rw [qx_neg, coef_pscale]
  grind
theorem coef_sub (a b : QX) (i : Nat) : coef (a - b).p i = coef a.p i - coef b.p i := by
  rw [qx_sub, coef_padd, coef_pscale]
  grind
theorem qx_zero : (0 : QX).p = [] := by
  show trim [((0 : Nat) : Rat)] = []
  decide +kernel
theorem qx_one : (1 : QX).p = [1] := by
  show trim [((1 : Nat) : Rat)] = [1]
  decide +kernel
theorem coef_Cmul (c : Rat) (a : QX) (i : Nat) : coef (QX.C c * a).p i = c * coef a.p i := by
  show coef (pmul (trim [c]) a.p) i = _
  by_cases h : c = 0
  · subst h
    rw [show trim [(0 : Rat)] = [] by decide +kernel, nil_pmul, coef_nil, Rat.zero_mul]
  · have e : trim [c] = [c] := by
      show (if trim [] = [] ∧ c = 0 then [] else c :: trim []) = [c]
      rw [if_neg (fun z => h z.2)]
      rfl
    rw [e, pmul_const, coef_pscale, Rat.mul_comm]
theorem C_add (a b : Rat) : QX.C (a + b) = QX.C a + QX.C b := QX.extC fun i => by
  rw [coef_add, coef_C, coef_C, coef_C]
  split
  · rfl
  · rw [Rat.add_zero]
theorem C_mul (a b : Rat) : QX.C (a * b) = QX.C a * QX.C b := QX.extC fun i => by
  rw [coef_Cmul, coef_C, coef_C]
  split
  · rfl
  · rw [Rat.mul_zero]
theorem C_neg (a : Rat) : QX.C (-a) = -QX.C a := QX.extC fun i => by
  rw [coef_neg, coef_C, coef_C]
  split
  · rfl
  · grind
instance : Lean.Grind.CommRing QX where
  add_zero a := QX.extC fun i => by rw [coef_add, qx_zero, coef_nil, Rat.add_zero]
  add_comm a b := QX.ext' (padd_comm _ _)
  add_assoc a b c := QX.ext' (padd_assoc _ _ _)
  mul_assoc a b c := QX.ext' (pmul_assoc _ _ _)
  mul_comm a b := QX.ext' (pmul_comm _ _)
  mul_one a := QX.ext' (by rw [qx_mul, pmul_comm, qx_one, one_pmul a.own])
  left_distrib a b c := QX.ext' (pmul_padd _ _ _)
  one_mul a := QX.ext' (by rw [qx_mul, qx_one, one_pmul a.own])
  right_distrib a b c := QX.ext' (padd_pmul _ _ _)
  mul_zero a := QX.ext' (by rw [qx_mul, qx_zero, pmul_nil])
  zero_mul a := QX.ext' (by rw [qx_mul, qx_zero, nil_pmul])
  pow_zero a := rfl
  pow_succ a n := rfl
  ofNat_succ n := by
    show QX.C ((n + 1 : Nat) : Rat) = QX.C n + QX.C (1 : Nat)
    rw [← C_add, Rat.natCast_add]
  neg_add_cancel a := QX.extC fun i => by rw [coef_add, coef_neg, qx_zero, coef_nil]; grind
  sub_eq_add_neg a b := rfl
  neg_zsmul i a := by
    show QX.C ((-i : Int) : Rat) * a = -(QX.C (i : Rat) * a)
    refine QX.extC fun k => ?_
    rw [coef_neg, coef_Cmul, coef_Cmul, Rat.intCast_neg]
    grind
  zsmul_natCast_eq_nsmul n a := by
    show QX.C (((n : Nat) : Int) : Rat) * a = QX.C (n : Rat) * a
    rw [Rat.intCast_natCast]
  intCast_ofNat n := by
    show QX.C (((n : Nat) : Int) : Rat) = QX.C (n : Rat)
    rw [Rat.intCast_natCast]
  intCast_neg i := by
    show QX.C ((-i : Int) : Rat) = -QX.C (i : Rat)
    rw [Rat.intCast_neg, C_neg]
example (a b c : QX) : (a + b) * (a - b) + b ^ 2 = a ^ 2 := by grind
/-! ### degrees: by the length -/
def QX.len (a : QX) : Nat := a.p.length
def lc (p : Poly) : Rat := coef p (p.length - 1)
theorem own_len {p : Poly} (h : Own p) {m : Nat} (z : ∀ i, m ≤ i → coef p i = 0) : p.length ≤ m := by
  rcases own_iff.mp h with e | e
  · rw [e]; exact Nat.zero_le _
  · refine Nat.le_of_not_lt fun q => e (z _ (by omega))
theorem lc_ne {p : Poly} (h : Own p) (hn : p ≠ []) : lc p ≠ 0 := by
  rcases own_iff.mp h with e | e
  · exact absurd e hn
  · exact e
theorem len_zero {a : QX} : a.len = 0 ↔ a = 0 := ⟨fun h => QX.ext' (by rw [qx_zero]; exact List.length_eq_zero_iff.mp h), fun h => by rw [h]; show (0 : QX).p.length = 0; rw [qx_zero]; rfl⟩
theorem ne_zero {a : QX} : a ≠ 0 ↔ a.p ≠ [] := ⟨fun h z => h (QX.ext' (by rw [qx_zero]; exact z)), fun h z => h (by rw [z]; exact qx_zero)⟩
theorem cmul_top : ∀ {p q : Poly}, p ≠ [] → q ≠ [] → cmul p q (p.length + q.length - 2) = lc p * lc q
  | [], _, h, _ => absurd rfl h
  | [a], q, _, hq => by
    have : 0 < q.length := List.length_pos_iff.mpr hq
    show cmul [a] q (1 + q.length - 2) = a * lc q
    rw [show 1 + q.length - 2 = q.length - 1 by omega]
    unfold lc
    show a * coef q (q.length - 1) + _ = _
    cases q.length - 1 with
    | zero => exact Rat.add_zero _
    | succ k => exact Rat.add_zero _
  | a :: b :: p, q, _, hq => by
    have : 0 < q.length := List.length_pos_iff.mpr hq
    have ih := cmul_top (p := b :: p) (q := q) (by simp) hq
    have e : (a :: b :: p).length + q.length - 2 = ((b :: p).length + q.length - 2) + 1 := by
      simp only [List.length_cons]
      omega
    rw [e]
    show a * coef q ((b :: p).length + q.length - 2 + 1) + cmul (b :: p) q ((b :: p).length + q.length - 2) = _
    rw [ih, coef_out (p := q) (by simp only [List.length_cons]; omega), Rat.mul_zero, Rat.zero_add]
    congr 1
theorem pmul_top {p q : Poly} (hp : Own p) (hq : Own q) (h1 : p ≠ []) (h2 : q ≠ []) : (pmul p q).length = p.length + q.length - 1 ∧ lc (pmul p q) = lc p * lc q := by
  have e1 : 0 < p.length := List.length_pos_iff.mpr h1
  have e2 : 0 < q.length := List.length_pos_iff.mpr h2
  have hle := pmul_len p q
  have ht : coef (pmul p q) (p.length + q.length - 2) = lc p * lc q := by rw [coef_pmul, cmul_top h1 h2]
  have hne : lc p * lc q ≠ 0 := fun z => by
    rcases Rat.mul_eq_zero.mp z with z | z
    · exact lc_ne hp h1 z
    · exact lc_ne hq h2 z
  have hl : (pmul p q).length = p.length + q.length - 1 := by
    refine Nat.le_antisymm hle (Nat.le_of_not_lt fun z => hne ?_)
    rw [← ht, coef_out (by omega)]
  refine ⟨hl, ?_⟩
  show coef (pmul p q) ((pmul p q).length - 1) = _
  rw [hl, show p.length + q.length - 1 - 1 = p.length + q.length - 2 by omega, ht]
theorem len_mul {a b : QX} (h1 : a ≠ 0) (h2 : b ≠ 0) : (a * b).len = a.len + b.len - 1 := (pmul_top a.own b.own (ne_zero.mp h1) (ne_zero.mp h2)).1
theorem lc_mul {a b : QX} (h1 : a ≠ 0) (h2 : b ≠ 0) : lc (a * b).p = lc a.p * lc b.p := (pmul_top a.own b.own (ne_zero.mp h1) (ne_zero.mp h2)).2
theorem mul_ne {a b : QX} (h1 : a ≠ 0) (h2 : b ≠ 0) : a * b ≠ 0 := fun z => by
  have h := len_mul h1 h2
  have e1 : a.len ≠ 0 := fun q => h1 (len_zero.mp q)
  have e2 : b.len ≠ 0 := fun q => h2 (len_zero.mp q)
  rw [z, len_zero.mpr rfl] at h
  omega
theorem mul_zero' {a b : QX} (h : a * b = 0) : a = 0 ∨ b = 0 := by
  by_cases h1 : a = 0
  · exact .inl h1
  · by_cases h2 : b = 0
    · exact .inr h2
    · exact absurd h (mul_ne h1 h2)
theorem mul_cancel {a b c : QX} (h : a ≠ 0) (e : a * b = a * c) : b = c := by
  have z : a * (b - c) = 0 := by grind
  rcases mul_zero' z with z | z
  · exact absurd z h
  · grind
theorem len_add (a b : QX) : (a + b).len ≤ max a.len b.len := padd_len _ _
theorem pos_len {a : QX} (h : a ≠ 0) : 0 < a.len := Nat.pos_of_ne_zero fun z => h (len_zero.mp z)
/-! ### divisors -/
def QX.dvd (a b : QX) : Prop := ∃ c, b = a * c
theorem dvd_refl (a : QX) : a.dvd a := ⟨1, by grind⟩
theorem dvd_trans {a b c : QX} (h : a.dvd b) (k : b.dvd c) : a.dvd c := by
  obtain ⟨x, rfl⟩ := h
  obtain ⟨y, rfl⟩ := k
  exact ⟨x * y, by grind⟩
theorem dvd_zero (a : QX) : a.dvd 0 := ⟨0, by grind⟩
theorem dvd_add {a b c : QX} (h : a.dvd b) (k : a.dvd c) : a.dvd (b + c) := by
  obtain ⟨x, rfl⟩ := h
  obtain ⟨y, rfl⟩ := k
  exact ⟨x + y, by grind⟩
theorem dvd_mul {a b : QX} (c : QX) (h : a.dvd b) : a.dvd (c * b) := by
  obtain ⟨x, rfl⟩ := h
  exact ⟨c * x, by grind⟩
theorem dvd_len {a b : QX} (h : a.dvd b) (hb : b ≠ 0) : a.len ≤ b.len := by
  obtain ⟨x, rfl⟩ := h
  have ha : a ≠ 0 := fun z => hb (by rw [z]; grind)
  have hx : x ≠ 0 := fun z => hb (by rw [z]; grind)
  rw [len_mul ha hx]
  have := pos_len hx
  omega
/-- a number's polynomial -/
theorem C_ne {c : Rat} (h : c ≠ 0) : QX.C c ≠ 0 := fun z => h (by
  have := coef_C c 0
  rw [z, qx_zero, coef_nil, if_pos rfl] at this
  exact this.symm)
theorem len_one {a : QX} (h : a.len = 1) : a = QX.C (lc a.p) := QX.extC fun i => by
  rw [coef_C]
  have hl : a.p.length = 1 := h
  split
  · rename_i e
    rw [e]
    unfold lc
    rw [hl]
  · rw [coef_out (by omega)]
theorem len_C {c : Rat} (h : c ≠ 0) : (QX.C c).len = 1 := by
  have h1 := pos_len (C_ne h)
  have h2 : (QX.C c).len ≤ 1 := trim_len [c]
  omega
theorem len_Cmul {c : Rat} (h : c ≠ 0) (a : QX) : (QX.C c * a).len = a.len := by
  by_cases ha : a = 0
  · rw [ha, show QX.C c * 0 = (0 : QX) by grind]
  · rw [len_mul (C_ne h) ha, len_C h]
    omega
/-- two that divide one another, both with the last fraction 1 -/
def Monic (a : QX) : Prop := a ≠ 0 ∧ lc a.p = 1
theorem dvd_anti {a b : QX} (ha : Monic a) (hb : Monic b) (h : a.dvd b) (k : b.dvd a) : a = b := by
  obtain ⟨x, e⟩ := h
  have hx : x ≠ 0 := fun z => hb.1 (by rw [e, z]; grind)
  have h1 := dvd_len k ha.1
  have h2 := len_mul ha.1 hx
  rw [← e] at h2
  have h3 := pos_len hx
  have h4 := pos_len ha.1
  have hx1 : x.len = 1 := by omega
  have h5 := lc_mul ha.1 hx
  rw [← e, hb.2, ha.2, Rat.one_mul] at h5
  rw [e, len_one hx1, ← h5]
  show a = a * QX.C 1
  have : QX.C 1 = 1 := rfl
  rw [this]
  grind
end An

/-! Division, common parts, sizes over one denominator. -/
namespace An
open PySem
def mono (k : Nat) (c : Rat) : QX := ⟨trim (List.replicate k 0 ++ [c]), own_trim _⟩
theorem coef_shift (k : Nat) (p : Poly) (i : Nat) : coef (List.replicate k 0 ++ p) i = if i < k then 0 else coef p (i - k) := by
  induction k generalizing i with
  | zero => rfl
  | succ k ih =>
    rw [List.replicate_succ, List.cons_append]
    cases i with
    | zero => rw [coef_zero, if_pos (Nat.succ_pos k)]
    | succ i =>
      rw [coef_succ, ih i]
      by_cases h : i < k
      · rw [if_pos h, if_pos (by omega)]
      · rw [if_neg h, if_neg (by omega), show i + 1 - (k + 1) = i - k by omega]
theorem coef_mono (k : Nat) (c : Rat) (i : Nat) : coef (mono k c).p i = if i = k then c else 0 := by
  show coef (trim _) i = _
  rw [coef_trim, coef_shift]
  by_cases h : i < k
  · rw [if_pos h, if_neg (by omega)]
  · rw [if_neg h]
    by_cases e : i = k
    · rw [if_pos e, e, Nat.sub_self]
      rfl
    · rw [if_neg e, coef_out (by show 1 ≤ i - k; omega)]
theorem act_shift (k : Nat) (c : Rat) (g : Nat → Rat) (i : Nat) : act (List.replicate k 0 ++ [c]) g i = if i < k then 0 else c * g (i - k) := by
  induction k generalizing i with
  | zero =>
    show c * g i + sft (fun _ => 0) i = c * g i
    cases i <;> exact Rat.add_zero _
  | succ k ih =>
    rw [List.replicate_succ, List.cons_append]
    show 0 * g i + sft (act (List.replicate k 0 ++ [c]) g) i = _
    rw [Rat.zero_mul, Rat.zero_add]
    cases i with
    | zero => rw [if_pos (Nat.succ_pos k)]; rfl
    | succ i =>
      show act (List.replicate k 0 ++ [c]) g i = _
      rw [ih i]
      by_cases h : i < k
      · rw [if_pos h, if_pos (by omega)]
      · rw [if_neg h, if_neg (by omega), show i + 1 - (k + 1) = i - k by omega]
theorem act_trim (p q : Poly) : act (trim p) (coef q) = act p (coef q) := by
  rw [← act_uno q, act_comm (trim p), act_comm p, act_uno, act_uno]
  congr 1
  exact funext fun i => coef_trim p i
theorem coef_mono_mul (k : Nat) (c : Rat) (o : QX) (i : Nat) : coef (mono k c * o).p i = if i < k then 0 else c * coef o.p (i - k) := by
  show coef (pmul (trim _) o.p) i = _
  rw [coef_act, act_trim, act_shift]
/-! ### one step of a division -/
def dst (r o : QX) : QX := r - mono (r.len - o.len) (lc r.p / lc o.p) * o
/-- as the program does it -/
theorem dst_made (r o : QX) : padd r.p (pscale (List.replicate (r.p.length - o.p.length) 0 ++ pscale o.p (lc r.p / lc o.p)) (-1)) = (dst r o).p := own_ext (own_padd _ _) (dst r o).own fun i => by
  unfold dst
  rw [coef_sub, coef_mono_mul, coef_padd, coef_pscale, coef_shift, show r.len = r.p.length from rfl, show o.len = o.p.length from rfl]
  by_cases h : i < r.p.length - o.p.length
  · rw [if_pos h, if_pos h]
    grind
  · rw [if_neg h, if_neg h, coef_pscale]
    show _ = coef r.p i - lc r.p / lc o.p * coef o.p (i - (r.p.length - o.p.length))
    grind
theorem dst_len {r o : QX} (ho : o ≠ 0) (h : o.len ≤ r.len) : (dst r o).len < r.len := by
  have h1 := pos_len ho
  have hl : (dst r o).len ≤ r.len - 1 := own_len (dst r o).own fun i hi => by
    unfold dst
    rw [coef_sub, coef_mono_mul, if_neg (by omega)]
    have e1 : r.p.length = r.len := rfl
    have e2 : o.p.length = o.len := rfl
    by_cases e : i = r.len - 1
    · rw [e, show r.len - 1 - (r.len - o.len) = o.len - 1 by omega]
      show lc r.p - lc r.p / lc o.p * lc o.p = 0
      rw [Rat.div_mul_cancel (lc_ne o.own (ne_zero.mp ho)), Rat.sub_self]
    · rw [coef_out (p := r.p) (by omega), coef_out (p := o.p) (by omega), Rat.mul_zero]
      grind
  omega
def qdm : Nat → QX → QX → QX → QX × QX
  | 0, q, r, _ => (q, r)
  | n + 1, q, r, o => if r.len < o.len then (q, r) else qdm n (q + mono (r.len - o.len) (lc r.p / lc o.p)) (dst r o) o
def qquo (a o : QX) : QX := (qdm a.len 0 a o).1
def qrem (a o : QX) : QX := (qdm a.len 0 a o).2
theorem qdm_ok {a o : QX} (ho : o ≠ 0) : ∀ (n : Nat) (q r : QX), r.len ≤ n → a = q * o + r → a = (qdm n q r o).1 * o + (qdm n q r o).2 ∧ (qdm n q r o).2.len < o.len
  | 0, q, r, h, e => ⟨e, by have := pos_len ho; show r.len < _; omega⟩
  | n + 1, q, r, h, e => by
    unfold qdm
    by_cases hl : r.len < o.len
    · rw [if_pos hl]
      exact ⟨e, hl⟩
    · rw [if_neg hl]
      have hd := dst_len ho (Nat.le_of_not_lt hl)
      refine qdm_ok ho n _ _ (by omega) ?_
      unfold dst
      grind
theorem qdiv_ok {a o : QX} (ho : o ≠ 0) : a = qquo a o * o + qrem a o ∧ (qrem a o).len < o.len := qdm_ok ho a.len 0 a (Nat.le_refl _) (by grind)
theorem div_uniq {o q q' r r' : QX} (ho : o ≠ 0) (e : q * o + r = q' * o + r') (h1 : r.len < o.len) (h2 : r'.len < o.len) : q = q' ∧ r = r' := by
  have z : (q - q') * o = r' - r := by grind
  by_cases hq : q - q' = 0
  · have h3 : q = q' := by grind
    subst h3
    exact ⟨rfl, by grind⟩
  · have h3 := len_mul hq ho
    have h4 := pos_len hq
    have h5 : (r' - r).len ≤ max r'.len r.len := by
      refine Nat.le_trans (padd_len _ _) ?_
      have := pscale_len r.p (-1)
      have e1 : r.p.length = r.len := rfl
      have e2 : r'.p.length = r'.len := rfl
      omega
    rw [← z, h3] at h5
    omega
theorem qrem_small {a o : QX} (ho : o ≠ 0) (h : a.len < o.len) : qrem a o = a := by
  obtain ⟨h1, h2⟩ := qdiv_ok (a := a) ho
  exact (div_uniq (q := qquo a o) (q' := 0) ho (by grind) h2 h).2
theorem qrem_dvd {a o : QX} (ho : o ≠ 0) : qrem a o = 0 ↔ o.dvd a := by
  obtain ⟨h1, h2⟩ := qdiv_ok (a := a) ho
  constructor
  · intro h
    exact ⟨qquo a o, by grind⟩
  · rintro ⟨c, e⟩
    have h0 : (0 : QX).len = 0 := len_zero.mpr rfl
    have := pos_len ho
    exact (div_uniq (q := qquo a o) (q' := c) (r' := 0) ho (by grind) h2 (by omega)).2
/-! ### common parts -/
def qgcd : Nat → QX → QX → QX
  | 0, a, _ => a
  | n + 1, a, b => if b.len = 0 then a else qgcd n b (qrem a b)
theorem qgcd_ok {x y : QX} : ∀ (n : Nat) (a b : QX), b.len ≤ n → (∃ u v, a = u * x + v * y) → (∃ u v, b = u * x + v * y) → (∀ d : QX, d.dvd a → d.dvd b → d.dvd x ∧ d.dvd y) → (a ≠ 0 ∨ b ≠ 0) →
    (qgcd n a b).dvd x ∧ (qgcd n a b).dvd y ∧ (∃ u v, qgcd n a b = u * x + v * y) ∧ qgcd n a b ≠ 0
  | 0, a, b, h, ha, hb, hd, hn => by
    have h0 : b = 0 := len_zero.mp (by omega)
    subst h0
    obtain ⟨d1, d2⟩ := hd a (dvd_refl a) (dvd_zero a)
    exact ⟨d1, d2, ha, hn.elim id fun z => absurd rfl z⟩
  | n + 1, a, b, h, ha, hb, hd, hn => by
    unfold qgcd
    by_cases h0 : b.len = 0
    · rw [if_pos h0]
      have h0 : b = 0 := len_zero.mp h0
      subst h0
      obtain ⟨d1, d2⟩ := hd a (dvd_refl a) (dvd_zero a)
      exact ⟨d1, d2, ha, hn.elim id fun z => absurd rfl z⟩
    · rw [if_neg h0]
      have hb0 : b ≠ 0 := fun z => h0 (len_zero.mpr z)
      obtain ⟨e, hl⟩ := qdiv_ok (a := a) hb0
      refine qgcd_ok n b (qrem a b) (by omega) hb ?_ (fun d d1 d2 => hd d ?_ d1) (.inl hb0)
      · obtain ⟨u, v, e1⟩ := ha
        obtain ⟨u', v', e2⟩ := hb
        exact ⟨u - qquo a b * u', v - qquo a b * v', by grind⟩
      · rw [e]
        exact dvd_add (dvd_mul _ d1) d2
/-- the last fraction made 1 -/
def qmon (a : QX) : QX := ⟨pscale a.p (1 / lc a.p), own_pscale _ _⟩
theorem qmon_eq (a : QX) : qmon a = QX.C (1 / lc a.p) * a := QX.extC fun i => by
  rw [coef_Cmul]
  show coef (pscale _ _) i = _
  rw [coef_pscale, Rat.mul_comm]
theorem inv_ne {c : Rat} (h : c ≠ 0) : 1 / c ≠ 0 := fun z => by
  have := Rat.div_mul_cancel (a := 1) h
  rw [z, Rat.zero_mul] at this
  exact absurd this (by decide)
theorem lc_Cmul {c : Rat} (h : c ≠ 0) {a : QX} (ha : a ≠ 0) : lc (QX.C c * a).p = c * lc a.p := by
  unfold lc
  have := len_Cmul h a
  rw [show (QX.C c * a).p.length = a.p.length from this, coef_Cmul]
theorem qmon_monic {a : QX} (ha : a ≠ 0) : Monic (qmon a) := by
  have hl := lc_ne a.own (ne_zero.mp ha)
  rw [qmon_eq]
  refine ⟨mul_ne (C_ne (inv_ne hl)) ha, ?_⟩
  rw [lc_Cmul (inv_ne hl) ha, Rat.div_mul_cancel hl]
theorem qmon_dvd {a b : QX} (ha : a ≠ 0) (h : a.dvd b) : (qmon a).dvd b := by
  have hl := lc_ne a.own (ne_zero.mp ha)
  obtain ⟨c, rfl⟩ := h
  refine ⟨QX.C (lc a.p) * c, ?_⟩
  have e : QX.C (1 / lc a.p) * QX.C (lc a.p) = 1 := by
    rw [← C_mul, Rat.div_mul_cancel hl]
    rfl
  rw [qmon_eq]
  grind
def qsh (a b : QX) : QX := qmon (qgcd b.len a b)
theorem qsh_ok {a b : QX} (h : a ≠ 0 ∨ b ≠ 0) : (qsh a b).dvd a ∧ (qsh a b).dvd b ∧ (∃ u v, qsh a b = u * a + v * b) ∧ Monic (qsh a b) := by
  obtain ⟨h1, h2, ⟨u, v, h3⟩, h4⟩ := qgcd_ok (x := a) (y := b) b.len a b (Nat.le_refl _) ⟨1, 0, by grind⟩ ⟨0, 1, by grind⟩ (fun d d1 d2 => ⟨d1, d2⟩) h
  refine ⟨qmon_dvd h4 h1, qmon_dvd h4 h2, ⟨QX.C (1 / lc (qgcd b.len a b).p) * u, QX.C (1 / lc (qgcd b.len a b).p) * v, ?_⟩, qmon_monic h4⟩
  show qmon _ = _
  rw [qmon_eq]
  grind
/-- the common part, by what it is -/
theorem qsh_uniq {a b g : QX} (h : a ≠ 0 ∨ b ≠ 0) (h1 : g.dvd a) (h2 : g.dvd b) (h3 : ∀ d : QX, d.dvd a → d.dvd b → d.dvd g) (h4 : Monic g) : qsh a b = g := by
  obtain ⟨k1, k2, ⟨u, v, e⟩, k4⟩ := qsh_ok h
  refine dvd_anti k4 h4 (h3 _ k1 k2) ?_
  rw [e]
  exact dvd_add (dvd_mul _ h1) (dvd_mul _ h2)
theorem qsh_dvd {a b d : QX} (h : a ≠ 0 ∨ b ≠ 0) (h1 : d.dvd a) (h2 : d.dvd b) : d.dvd (qsh a b) := by
  obtain ⟨k1, k2, ⟨u, v, e⟩, k4⟩ := qsh_ok h
  rw [e]
  exact dvd_add (dvd_mul _ h1) (dvd_mul _ h2)
theorem qsh_comm {a b : QX} (h : a ≠ 0 ∨ b ≠ 0) : qsh a b = qsh b a := by
  obtain ⟨k1, k2, k3, k4⟩ := qsh_ok h.symm
  exact qsh_uniq h k2 k1 (fun d d1 d2 => qsh_dvd h.symm d2 d1) k4
/-! ### sizes over one denominator -/
def CZ (n : Nat) (p : Poly) : Prop := ∃ d : Int, d ≠ 0 ∧ d.natAbs < 2 ^ n ∧ ∀ i, ∃ t : Int, t.natAbs < 2 ^ n ∧ coef p i * (d : Rat) = (t : Rat)
theorem CZ.mono {n m : Nat} {p : Poly} (h : CZ n p) (k : n ≤ m) : CZ m p := by
  obtain ⟨d, h0, h1, h2⟩ := h
  have e : 2 ^ n ≤ 2 ^ m := Nat.pow_le_pow_right (by decide) k
  exact ⟨d, h0, Nat.lt_of_lt_of_le h1 e, fun i => by
    obtain ⟨t, t1, t2⟩ := h2 i
    exact ⟨t, Nat.lt_of_lt_of_le t1 e, t2⟩⟩
theorem CZ.pos {n : Nat} {p : Poly} (h : CZ n p) : 0 < n := by
  obtain ⟨d, h0, h1, _⟩ := h
  cases n with
  | zero => simp at h1; omega
  | succ n => omega
theorem rz_quot {n : Nat} {t d : Int} {a : Rat} (h0 : d ≠ 0) (h1 : d.natAbs < 2 ^ n) (h2 : t.natAbs < 2 ^ n) (e : a * (d : Rat) = (t : Rat)) : Rz n a := by
  have hd : (d : Rat) ≠ 0 := fun z => h0 (Rat.intCast_eq_zero_iff.mp z)
  have e2 : a = (t : Rat) / (d : Rat) := by
    rw [← e, Rat.mul_div_cancel hd]
  rw [e2, ← Rat.divInt_eq_div]
  rcases Int.lt_or_gt_of_ne h0 with hz | hz
  · have : Rat.divInt t d = mkRat (-t) d.natAbs := by
      rw [← Rat.divInt_ofNat, ← Rat.neg_divInt_neg t d]
      congr 1
      omega
    rw [this]
    exact Rz.mk (by omega) (by omega) (by omega)
  · have : Rat.divInt t d = mkRat t d.natAbs := by
      rw [← Rat.divInt_ofNat]
      congr 1
      omega
    rw [this]
    exact Rz.mk (by omega) (by omega) (by omega)
theorem CZ.pz {n : Nat} {p : Poly} (h : CZ n p) : PZ n p := fun a ha => by
  obtain ⟨d, h0, h1, h2⟩ := h
  obtain ⟨i, hi, rfl⟩ := List.getElem_of_mem ha
  obtain ⟨t, t1, t2⟩ := h2 i
  rw [coef_in hi] at t2
  exact rz_quot h0 h1 t1 t2
theorem CZ.rz {n : Nat} {p : Poly} (h : CZ n p) (i : Nat) : Rz n (coef p i) := h.pz.coef h.pos i
theorem natAbs_mul_lt {a b : Int} {n m : Nat} (ha : a.natAbs < 2 ^ n) (hb : b.natAbs < 2 ^ m) : (a * b).natAbs < 2 ^ (n + m) := by
  rw [Int.natAbs_mul]
  exact nat_mul_lt ha hb
theorem cz_dst {r o : QX} {n m : Nat} (ho : o ≠ 0) (h1 : CZ n r.p) (h2 : CZ m o.p) : CZ (n + m + 1) (dst r o).p := by
  obtain ⟨d, d0, d1, hd⟩ := h1
  obtain ⟨e, e0, e1, he⟩ := h2
  obtain ⟨a, a1, a2⟩ := hd (r.p.length - 1)
  obtain ⟨b, b1, b2⟩ := he (o.p.length - 1)
  have hlo : lc o.p ≠ 0 := lc_ne o.own (ne_zero.mp ho)
  have hb0 : b ≠ 0 := fun z => by
    rw [z] at b2
    have b2 : lc o.p * (e : Rat) = ((0 : Int) : Rat) := b2
    rcases Rat.mul_eq_zero.mp (b2.trans Rat.intCast_zero) with q | q
    · exact hlo q
    · exact e0 (Rat.intCast_eq_zero_iff.mp q)
  have pw : 2 ^ (n + m + 1) = 2 ^ (n + m) + 2 ^ (n + m) := by rw [Nat.pow_succ]; omega
  refine ⟨d * b, Int.mul_ne_zero d0 hb0, by have := natAbs_mul_lt d1 b1; omega, fun i => ?_⟩
  unfold dst
  rw [coef_sub, coef_mono_mul]
  obtain ⟨x, x1, x2⟩ := hd i
  by_cases hi : i < r.len - o.len
  · rw [if_pos hi]
    refine ⟨x * b, by have := natAbs_mul_lt x1 b1; omega, ?_⟩
    rw [Rat.intCast_mul, Rat.intCast_mul, ← x2]
    grind
  · rw [if_neg hi]
    obtain ⟨y, y1, y2⟩ := he (i - (r.len - o.len))
    refine ⟨x * b - a * y, ?_, ?_⟩
    · have q1 := natAbs_mul_lt x1 b1
      have q2 := natAbs_mul_lt a1 y1
      omega
    · have b2 : lc o.p * (e : Rat) = (b : Rat) := b2
      have a2 : lc r.p * (d : Rat) = (a : Rat) := a2
      rw [Rat.intCast_mul, Rat.intCast_sub, Rat.intCast_mul, Rat.intCast_mul, ← x2, ← y2, ← a2, ← b2]
      have q : lc r.p / lc o.p * lc o.p = lc r.p := Rat.div_mul_cancel hlo
      generalize lc r.p / lc o.p = t at q ⊢
      rw [← q]
      grind
theorem cz_qdm {a o : QX} {n m : Nat} (ho : o ≠ 0) (h2 : CZ m o.p) : ∀ (k : Nat) (q r : QX), r.len ≤ k → r.len ≤ a.len → CZ (n + (a.len - max r.len (o.len - 1)) * (m + 1)) r.p → CZ (n + (a.len - (o.len - 1)) * (m + 1)) (qdm k q r o).2.p
  | 0, q, r, h, hle, hc => hc.mono (Nat.add_le_add_left (Nat.mul_le_mul_right _ (by omega)) _)
  | k + 1, q, r, h, hle, hc => by
    unfold qdm
    by_cases hl : r.len < o.len
    · rw [if_pos hl]
      exact hc.mono (Nat.add_le_add_left (Nat.mul_le_mul_right _ (by omega)) _)
    · rw [if_neg hl]
      have hd := dst_len ho (Nat.le_of_not_lt hl)
      refine cz_qdm ho h2 k _ _ (by omega) (by omega) ((cz_dst ho hc h2).mono ?_)
      have : (a.len - max r.len (o.len - 1)) + 1 ≤ a.len - max (dst r o).len (o.len - 1) := by omega
      have := Nat.mul_le_mul_right (m + 1) this
      rw [Nat.succ_mul] at this
      omega
theorem cz_qrem {a o : QX} {n m : Nat} (ho : o ≠ 0) (h1 : CZ n a.p) (h2 : CZ m o.p) : CZ (n + (a.len - (o.len - 1)) * (m + 1)) (qrem a o).p :=
  cz_qdm ho h2 a.len 0 a (Nat.le_refl _) (Nat.le_refl _) (h1.mono (Nat.le_add_right _ _))
theorem cz_qmon {a : QX} {n : Nat} (ha : a ≠ 0) (h : CZ n a.p) : CZ n (qmon a).p := by
  obtain ⟨d, d0, d1, hd⟩ := h
  obtain ⟨b, b1, b2⟩ := hd (a.p.length - 1)
  have b2 : lc a.p * (d : Rat) = (b : Rat) := b2
  have hl := lc_ne a.own (ne_zero.mp ha)
  have hb0 : b ≠ 0 := fun z => by
    rw [z] at b2
    rcases Rat.mul_eq_zero.mp (b2.trans Rat.intCast_zero) with q | q
    · exact hl q
    · exact d0 (Rat.intCast_eq_zero_iff.mp q)
  refine ⟨b, hb0, b1, fun i => ?_⟩
  obtain ⟨t, t1, t2⟩ := hd i
  refine ⟨t, t1, ?_⟩
  show coef (pscale _ _) i * _ = _
  rw [coef_pscale, ← b2, ← t2]
  have q : 1 / lc a.p * lc a.p = 1 := Rat.div_mul_cancel hl
  generalize 1 / lc a.p = u at q ⊢
  grind
end An

/-! What division and common parts bring, by data. -/
namespace An
open PySem PySem.Spec PyProof.Rows L2
theorem isPo_ok {p : Poly} (h1 : p.length ≤ 13) (h2 : Own p) : isPo (eP p) = true := by
  rw [isPo_eP, decide_eq_true h1, decide_eq_true h2]
  rfl
theorem eP_inj {p q : Poly} (h : eP p = eP q) : p = q := by
  have : PyData.eqv (eP p) (eP q) = true := by
    rw [h, eqv_eP]
    exact decide_eq_true rfl
  rw [eqv_eP] at this
  exact of_decide_eq_true this
theorem ix_last {p : Poly} (h : p ≠ []) : ixD (eP p) (-1) = some (eF (lc p)) := by
  have hpos : 0 < p.length := List.length_pos_iff.mpr h
  show atI (p.map eF) (-1) = _
  unfold atI ixN lc
  rw [List.length_map, if_neg (by decide), if_pos (by omega)]
  show (p.map eF)[(-1 + (p.length : Int)).toNat]? = _
  rw [show (-1 + (p.length : Int)).toNat = p.length - 1 by omega, List.getElem?_map, List.getElem?_eq_getElem (by omega), coef_in (by omega)]
  rfl
def vOver (ds : List D) (d : D) : Prop := ∃ (a b : Rat) (n m : Nat), ds = [eF a, eF b] ∧ b ≠ 0 ∧ Rz n a ∧ Rz m b ∧ n + m ≤ LIM ∧ d = eF (a / b)
def vOff (ds : List D) (d : D) : Prop := ∃ (p q : Poly) (n m : Nat), ds = [eP p, eP q] ∧ PZ n p ∧ PZ m q ∧ 0 < n ∧ 0 < m ∧ n + m + 1 ≤ LIM ∧ p.length ≤ 1000 ∧ q.length ≤ 1000 ∧ d = eP (padd p (pscale q (-1)))
def vPart (ds : List D) (d : D) : Prop := ∃ (a o : QX) (n m : Nat), ds = [eP a.p, eP o.p] ∧ o ≠ 0 ∧ CZ n a.p ∧ CZ m o.p ∧ a.len ≤ 100 ∧ o.len ≤ 100 ∧ 2 * (n + (a.len + 1) * (m + 1)) + 2 * m + 2 ≤ LIM ∧ d = .tuple [eP (qquo a o).p, eP (qrem a o).p]
theorem div_num (a b : Rat) : Rat.divInt (a.num * (b.den : Int)) ((a.den : Int) * b.num) = a / b := by
  rw [Rat.div_def, Rat.inv_def, ← Rat.divInt_mul_divInt, Rat.num_divInt_den]
/-! ### sizes along a common part -/
theorem gz_two : ∀ d : Nat, 1 ≤ d → 5 * 2 ^ d ≤ 2 * 5 ^ d ∧ (5 * d + 7) * 2 ^ d ≤ 5 * 5 ^ d
  | 0, h => by omega
  | 1, _ => by decide
  | d + 2, _ => by
    obtain ⟨h1, h2⟩ := gz_two (d + 1) (by omega)
    rw [Nat.pow_succ 2 (d + 1), Nat.pow_succ 5 (d + 1)]
    refine ⟨by omega, ?_⟩
    have e : (5 * (d + 2) + 7) * (2 ^ (d + 1) * 2) = (5 * (d + 1) + 7) * 2 ^ (d + 1) * 2 + 10 * 2 ^ (d + 1) := by
      have : (5 * (d + 2) + 7) = (5 * (d + 1) + 7) + 5 := by omega
      rw [this, Nat.add_mul, Nat.mul_assoc]
      omega
    have h3 : 10 * 2 ^ (d + 1) ≤ (5 * (d + 1) + 7) * 2 ^ (d + 1) := Nat.mul_le_mul_right _ (by omega)
    omega
/-- how great the sizes get, ahead of the pair (a, b) -/
structure GZ (N : Nat) (a b : QX) : Prop where
  z : ∃ n m, CZ n a.p ∧ CZ m b.p ∧ (2 * (n + 1) + 5 * (m + 1)) * 5 ^ a.len ≤ N * 2 ^ a.len ∧ b.len < a.len
theorem GZ.next {N : Nat} {a b : QX} (h : GZ N a b) (hb : b ≠ 0) : GZ N b (qrem a b) := by
  obtain ⟨n, m, h1, h2, h3, h4⟩ := h.z
  have hr := (qdiv_ok (a := a) hb).2
  refine ⟨m, n + (a.len - (b.len - 1)) * (m + 1), h2, cz_qrem hb h1 h2, ?_, hr⟩
  have hp := pos_len hb
  have e : a.len - (b.len - 1) = (a.len - b.len) + 1 := by omega
  generalize hd : a.len - b.len = d at e
  have hd1 : 1 ≤ d := by omega
  rw [e]
  obtain ⟨g1, g2⟩ := gz_two d hd1
  have ea : a.len = b.len + d := by omega
  rw [ea, Nat.pow_add, Nat.pow_add] at h3
  have k1 : (2 * (m + 1) + 5 * (n + (d + 1) * (m + 1) + 1)) * 2 ^ d ≤ (2 * (n + 1) + 5 * (m + 1)) * 5 ^ d := by
    have q1 : (5 * (n + 1)) * 2 ^ d ≤ (2 * (n + 1)) * 5 ^ d := by
      have := Nat.mul_le_mul_left (n + 1) g1
      rw [Nat.mul_comm 5, Nat.mul_assoc, Nat.mul_comm 2 (n + 1), Nat.mul_assoc]
      exact this
    have q2 : ((5 * d + 7) * (m + 1)) * 2 ^ d ≤ (5 * (m + 1)) * 5 ^ d := by
      have := Nat.mul_le_mul_left (m + 1) g2
      rw [Nat.mul_comm (5 * d + 7), Nat.mul_assoc, Nat.mul_comm 5 (m + 1), Nat.mul_assoc]
      exact this
    have e1 : 2 * (m + 1) + 5 * (n + (d + 1) * (m + 1) + 1) = 5 * (n + 1) + (5 * d + 7) * (m + 1) := by
      have h5 : (5 * d + 7) * (m + 1) = 5 * (d * (m + 1)) + 7 * (m + 1) := by rw [Nat.add_mul, Nat.mul_assoc]
      have h6 : (d + 1) * (m + 1) = d * (m + 1) + (m + 1) := Nat.succ_mul _ _
      rw [h5, h6]
      omega
    have q3 := Nat.add_le_add q1 q2
    rw [← Nat.add_mul, ← Nat.add_mul] at q3
    rw [e1]
    exact q3
  refine Nat.le_of_mul_le_mul_right (c := 2 ^ d) ?_ (Nat.pow_pos (by decide))
  calc (2 * (m + 1) + 5 * (n + (d + 1) * (m + 1) + 1)) * 5 ^ b.len * 2 ^ d = (2 * (m + 1) + 5 * (n + (d + 1) * (m + 1) + 1)) * 2 ^ d * 5 ^ b.len := by rw [Nat.mul_right_comm]
    _ ≤ (2 * (n + 1) + 5 * (m + 1)) * 5 ^ d * 5 ^ b.len := Nat.mul_le_mul_right _ k1
    _ = (2 * (n + 1) + 5 * (m + 1)) * (5 ^ b.len * 5 ^ d) := by rw [Nat.mul_assoc, Nat.mul_comm (5 ^ d)]
    _ ≤ N * (2 ^ b.len * 2 ^ d) := h3
    _ = N * 2 ^ b.len * 2 ^ d := by rw [Nat.mul_assoc]
theorem GZ.sz {N : Nat} {a b : QX} (h : GZ N a b) : CZ (N / 2) a.p ∧ CZ (N / 2) b.p := by
  obtain ⟨n, m, h1, h2, h3, h4⟩ := h.z
  have hle : N * 2 ^ a.len ≤ N * 5 ^ a.len := Nat.mul_le_mul_left _ (Nat.pow_le_pow_left (by decide) _)
  have hW : 2 * (n + 1) + 5 * (m + 1) ≤ N := Nat.le_of_mul_le_mul_right (Nat.le_trans h3 hle) (Nat.pow_pos (by decide))
  exact ⟨h1.mono (by omega), h2.mono (by omega)⟩
/-- the greatest size, of two of n bits and L fractions -/
def gz (n L : Nat) : Nat := 12 * (n + 1) * 5 ^ L / 2 ^ L + 1
theorem gz_ok (n L : Nat) : 12 * (n + 1) * 5 ^ L ≤ gz n L * 2 ^ L := by
  unfold gz
  generalize 12 * (n + 1) * 5 ^ L = x
  have h := Nat.lt_div_mul_add (a := x) (b := 2 ^ L) (Nat.pow_pos (by decide))
  rw [Nat.add_mul, Nat.one_mul]
  exact Nat.le_of_lt h
theorem gz_at {n L l W : Nat} (hl : l ≤ L) (hW : W ≤ 12 * (n + 1)) : W * 5 ^ l ≤ gz n L * 2 ^ l := by
  have h0 := gz_ok n L
  obtain ⟨k, rfl⟩ : ∃ k, L = l + k := ⟨L - l, by omega⟩
  refine Nat.le_of_mul_le_mul_right (c := 5 ^ k) ?_ (Nat.pow_pos (by decide))
  calc W * 5 ^ l * 5 ^ k = W * 5 ^ (l + k) := by rw [Nat.mul_assoc, Nat.pow_add]
    _ ≤ 12 * (n + 1) * 5 ^ (l + k) := Nat.mul_le_mul_right _ hW
    _ ≤ gz n (l + k) * 2 ^ (l + k) := h0
    _ = gz n (l + k) * 2 ^ l * 2 ^ k := by rw [Nat.pow_add, Nat.mul_assoc]
    _ ≤ gz n (l + k) * 2 ^ l * 5 ^ k := Nat.mul_le_mul_left _ (Nat.pow_le_pow_left (by decide) _)
theorem gz_n (n L : Nat) : n + 1 ≤ gz n L / 2 := by
  have h := gz_at (n := n) (L := L) (l := 0) (Nat.zero_le _) (Nat.le_refl _)
  simp at h
  omega
theorem cz_qgcd {N : Nat} : ∀ (n : Nat) (a b : QX), b.len ≤ n → GZ N a b → CZ (N / 2) (qgcd n a b).p
  | 0, a, b, h, g => g.sz.1
  | n + 1, a, b, h, g => by
    unfold qgcd
    by_cases h0 : b.len = 0
    · rw [if_pos h0]
      exact g.sz.1
    · rw [if_neg h0]
      have hb : b ≠ 0 := fun z => h0 (len_zero.mpr z)
      have hr := (qdiv_ok (a := a) hb).2
      exact cz_qgcd n b (qrem a b) (by omega) (g.next hb)
theorem gz_first {n L : Nat} {x y : QX} (hx : x.len ≤ L) (hy : y.len ≤ L) (hca : CZ n x.p) (hcb : CZ n y.p) (hy0 : y ≠ 0) : GZ (gz n L) y (qrem x y) := by
  have hr := (qdiv_ok (a := x) hy0).2
  by_cases hlt : y.len < x.len
  · exact GZ.next ⟨n, n, hca, hcb, gz_at hx (by omega), hlt⟩ hy0
  · refine ⟨n, n + (x.len - (y.len - 1)) * (n + 1), hcb, cz_qrem hy0 hca hcb, gz_at hy ?_, hr⟩
    have h1 : (x.len - (y.len - 1)) * (n + 1) ≤ 1 * (n + 1) := Nat.mul_le_mul_right _ (by omega)
    omega
/-- the common part's size -/
theorem cz_qsh {n L : Nat} {a b : QX} (h : a ≠ 0 ∨ b ≠ 0) (ha : CZ n a.p) (hb : CZ n b.p) (hl1 : a.len ≤ L) (hl2 : b.len ≤ L) : CZ (gz n L / 2) (qsh a b).p := by
  obtain ⟨_, _, _, h4⟩ := qgcd_ok (x := a) (y := b) b.len a b (Nat.le_refl _) ⟨1, 0, by grind⟩ ⟨0, 1, by grind⟩ (fun d d1 d2 => ⟨d1, d2⟩) h
  refine cz_qmon h4 ?_
  have hn := gz_n n L
  by_cases h0 : b.len = 0
  · rw [h0]
    exact ha.mono (by omega)
  · have hb0 : b ≠ 0 := fun z => h0 (len_zero.mpr z)
    have hr := (qdiv_ok (a := a) hb0).2
    conv => rw [show b.len = (b.len - 1) + 1 by omega]
    have e : qgcd (b.len - 1 + 1) a b = qgcd (b.len - 1) b (qrem a b) := by
      show (if b.len = 0 then a else _) = _
      rw [if_neg h0]
    rw [e]
    exact cz_qgcd _ b (qrem a b) (by omega) (gz_first hl1 hl2 ha hb hb0)
/-- the quotient's size -/
theorem pz_qdm {a o : QX} {n m B : Nat} (ho : o ≠ 0) (h2 : CZ m o.p) (hB : n + (a.len + 1) * (m + 1) + m ≤ B) : ∀ (k : Nat) (q r : QX), r.len ≤ k → r.len ≤ a.len → CZ (n + (a.len - max r.len (o.len - 1)) * (m + 1)) r.p → (∀ i, i + o.len ≤ r.len → coef q.p i = 0) → (∀ i, Rz B (coef q.p i)) → ∀ i, Rz B (coef (qdm k q r o).1.p i)
  | 0, q, r, h, hle, hc, hz, hs => hs
  | k + 1, q, r, h, hle, hc, hz, hs => by
    unfold qdm
    by_cases hl : r.len < o.len
    · rw [if_pos hl]
      exact hs
    · rw [if_neg hl]
      have hd := dst_len ho (Nat.le_of_not_lt hl)
      have hop := pos_len ho
      refine pz_qdm ho h2 hB k _ _ (by omega) (by omega) ((cz_dst ho hc h2).mono ?_) (fun i hi => ?_) (fun i => ?_)
      · have : (a.len - max r.len (o.len - 1)) + 1 ≤ a.len - max (dst r o).len (o.len - 1) := by omega
        have := Nat.mul_le_mul_right (m + 1) this
        rw [Nat.succ_mul] at this
        omega
      · rw [coef_add, coef_mono, hz i (by omega), if_neg (by omega), Rat.add_zero]
      · rw [coef_add, coef_mono]
        by_cases e : i = r.len - o.len
        · rw [if_pos e, hz i (by omega), Rat.zero_add]
          have hm : (a.len - max r.len (o.len - 1)) * (m + 1) ≤ (a.len + 1) * (m + 1) := Nat.mul_le_mul_right _ (by omega)
          exact ((hc.rz (r.p.length - 1)).div (h2.rz (o.p.length - 1))).mono (by omega)
        · rw [if_neg e, Rat.add_zero]
          exact hs i
theorem pz_qquo {a o : QX} {n m : Nat} (ho : o ≠ 0) (h1 : CZ n a.p) (h2 : CZ m o.p) : PZ (n + (a.len + 1) * (m + 1) + m) (qquo a o).p := fun x hx => by
  obtain ⟨i, hi, rfl⟩ := List.getElem_of_mem hx
  rw [← coef_in hi]
  refine pz_qdm (n := n) ho h2 (Nat.le_refl _) a.len 0 a (Nat.le_refl _) (Nat.le_refl _) (h1.mono (Nat.le_add_right _ _)) (fun i _ => by rw [qx_zero, coef_nil]) (fun i => ?_) i
  rw [qx_zero, coef_nil]
  exact rz_zero.mono (by have := h1.pos; omega)
theorem qquo_len {a o : QX} (ho : o ≠ 0) : (qquo a o).len ≤ a.len := by
  obtain ⟨e, hl⟩ := qdiv_ok (a := a) ho
  by_cases h0 : qquo a o = 0
  · rw [h0, len_zero.mpr rfl]; exact Nat.zero_le _
  · have h1 := len_mul h0 ho
    have hop := pos_len ho
    have hqp := pos_len h0
    have h2 : (qquo a o * o).len ≤ max a.len (qrem a o).len := by
      have e2 : qquo a o * o = a - qrem a o := by grind
      rw [e2]
      refine Nat.le_trans (padd_len _ _) ?_
      have := pscale_len (qrem a o).p (-1)
      have e1 : a.p.length = a.len := rfl
      have e2 : (qrem a o).p.length = (qrem a o).len := rfl
      omega
    omega
theorem cmul_cz {q : Poly} {d e : Int} {n m : Nat} (hq : ∀ i, ∃ t : Int, t.natAbs < 2 ^ m ∧ coef q i * (e : Rat) = (t : Rat)) : ∀ (p : Poly), (∀ i, ∃ t : Int, t.natAbs < 2 ^ n ∧ coef p i * (d : Rat) = (t : Rat)) → ∀ k, ∃ t : Int, t.natAbs ≤ p.length * 2 ^ (n + m) ∧ cmul p q k * ((d * e : Int) : Rat) = (t : Rat)
  | [], _, k => ⟨0, by simp, by show (0 : Rat) * _ = _; rw [Rat.zero_mul]; rfl⟩
  | a :: p, hp, k => by
    obtain ⟨x, x1, x2⟩ := hp 0
    obtain ⟨y, y1, y2⟩ := hq k
    have hxy := natAbs_mul_lt x1 y1
    have e1 : (a :: p).length * 2 ^ (n + m) = p.length * 2 ^ (n + m) + 2 ^ (n + m) := by rw [List.length_cons, Nat.succ_mul]
    rw [coef_zero] at x2
    cases k with
    | zero =>
      refine ⟨x * y, by omega, ?_⟩
      show (a * coef q 0 + 0) * _ = _
      rw [Rat.intCast_mul, Rat.intCast_mul, ← x2, ← y2]
      grind
    | succ k =>
      obtain ⟨t, t1, t2⟩ := cmul_cz hq p (fun i => by have := hp (i + 1); rw [coef_succ] at this; exact this) k
      refine ⟨x * y + t, by omega, ?_⟩
      show (a * coef q (k + 1) + cmul p q k) * _ = _
      rw [Rat.intCast_add, ← t2, Rat.intCast_mul, Rat.intCast_mul, ← x2, ← y2]
      grind
theorem cz_pmul {p q : Poly} {n m k : Nat} (hp : CZ n p) (hq : CZ m q) (hk : p.length < 2 ^ k) : CZ (n + m + k) (pmul p q) := by
  obtain ⟨d, d0, d1, hd⟩ := hp
  obtain ⟨e, e0, e1, he⟩ := hq
  have h0 : 0 < 2 ^ (n + m) := Nat.pow_pos (by decide)
  have hpw : 2 ^ (n + m + k) = 2 ^ k * 2 ^ (n + m) := by rw [Nat.pow_add, Nat.mul_comm]
  refine ⟨d * e, Int.mul_ne_zero d0 e0, Nat.lt_of_lt_of_le (natAbs_mul_lt d1 e1) (Nat.pow_le_pow_right (by decide) (Nat.le_add_right _ _)), fun i => ?_⟩
  obtain ⟨t, t1, t2⟩ := cmul_cz he p hd i
  refine ⟨t, ?_, by rw [coef_pmul]; exact t2⟩
  rw [hpw]
  exact Nat.lt_of_le_of_lt t1 (Nat.mul_lt_mul_of_pos_right hk h0)
def vShare (ds : List D) (d : D) : Prop := ∃ (a b : QX) (n L : Nat), ds = [eP a.p, eP b.p] ∧ (a ≠ 0 ∨ b ≠ 0) ∧ CZ n a.p ∧ CZ n b.p ∧ a.len ≤ L ∧ b.len ≤ L ∧ L ≤ 20 ∧ 23 * gz n L + 44 ≤ LIM ∧ d = eP (qsh a b).p
theorem qgcd_fuel : ∀ (n : Nat) (a b : QX), b.len ≤ n → qgcd n a b = qgcd b.len a b
  | 0, a, b, h => by rw [show b.len = 0 by omega]
  | n + 1, a, b, h => by
    by_cases h0 : b.len = 0
    · rw [h0]
      show (if b.len = 0 then a else _) = a
      rw [if_pos h0]
    · have hb : b ≠ 0 := fun z => h0 (len_zero.mpr z)
      have hr := (qdiv_ok (a := a) hb).2
      have e : qgcd b.len a b = qgcd (b.len - 1) b (qrem a b) := by
        conv => lhs; rw [show b.len = (b.len - 1) + 1 by omega]
        show (if b.len = 0 then a else _) = _
        rw [if_neg h0]
      rw [e, qgcd_fuel (b.len - 1) b (qrem a b) (by omega)]
      show (if b.len = 0 then a else _) = _
      rw [if_neg h0, qgcd_fuel n b (qrem a b) (by omega)]
termination_by n => n
decreasing_by all_goals omega
def xTwo (K : PySem.W.Frag) (ds : List D) (c : Value) : Prop := ∃ x y, ds = [x, y] ∧ (isPo x = false ∨ isPo y = false) ∧ c = ec K "BadPoly"
def vDiv (ds : List D) (d : D) : Prop := ∃ (a o : QX) (n m : Nat), ds = [eP a.p, eP o.p] ∧ o ≠ 0 ∧ CZ n a.p ∧ CZ m o.p ∧ a.p.length ≤ 13 ∧ o.p.length ≤ 13 ∧ 2 * (n + (a.len + 1) * (m + 1)) + 2 * m + 2 ≤ LIM ∧ d = .tuple [eP (qquo a o).p, eP (qrem a o).p]
def xDiv (K : PySem.W.Frag) (ds : List D) (c : Value) : Prop := xTwo K ds c ∨ (∃ a, ds = [a, .list []] ∧ isPo (.list []) = true ∧ isPo a = true ∧ c = ec K "NoWay")
def vCom (ds : List D) (d : D) : Prop := ∃ (a b : QX) (n L : Nat), ds = [eP a.p, eP b.p] ∧ (a ≠ 0 ∨ b ≠ 0) ∧ CZ n a.p ∧ CZ n b.p ∧ a.len ≤ L ∧ b.len ≤ L ∧ L ≤ 13 ∧ 23 * gz n L + 44 ≤ LIM ∧ d = eP (qsh a b).p
def xCom (K : PySem.W.Frag) (ds : List D) (c : Value) : Prop := xTwo K ds c ∨ (ds = [.list [], .list []] ∧ c = ec K "NoWay")
end An

/-! Worths of sums and products; roots; polynomials composed; through points. -/
namespace An
open PySem
/-! ### worths -/
theorem peval_trim (x : Rat) : ∀ p : Poly, peval (trim p) x = peval p x
  | [] => rfl
  | a :: r => by
    have ih := peval_trim x r
    unfold trim
    by_cases h : trim r = [] ∧ a = 0
    · rw [if_pos h]
      rw [h.1] at ih
      show (0 : Rat) = peval r x * x + a
      rw [← ih, h.2]
      show (0 : Rat) = 0 * x + 0
      grind
    · rw [if_neg h]
      show peval (trim r) x * x + a = peval r x * x + a
      rw [ih]
theorem peval_ext {p q : Poly} (h : ∀ i, coef p i = coef q i) (x : Rat) : peval p x = peval q x := by
  rw [← peval_trim x p, ← peval_trim x q, trim_ext h]
def addL : Poly → Poly → Poly
  | [], q => q
  | p, [] => p
  | a :: p, b :: q => (a + b) :: addL p q
theorem coef_addL : ∀ (p q : Poly) (i : Nat), coef (addL p q) i = coef p i + coef q i
  | [], q, i => by rw [addL, coef_nil, Rat.zero_add]
  | a :: p, [], i => by rw [addL, coef_nil, Rat.add_zero]; simp
  | a :: p, b :: q, 0 => rfl
  | a :: p, b :: q, i + 1 => by rw [addL, coef_succ, coef_succ, coef_succ, coef_addL]
theorem peval_addL (x : Rat) : ∀ (p q : Poly), peval (addL p q) x = peval p x + peval q x
  | [], q => by rw [addL]; show _ = 0 + _; rw [Rat.zero_add]
  | a :: p, [] => by rw [addL]; show _ = _ + 0; rw [Rat.add_zero]; simp
  | a :: p, b :: q => by
    rw [addL]
    show peval (addL p q) x * x + (a + b) = (peval p x * x + a) + (peval q x * x + b)
    rw [peval_addL x p q]
    grind
theorem peval_padd (p q : Poly) (x : Rat) : peval (padd p q) x = peval p x + peval q x := by
  rw [← peval_addL, peval_ext (q := addL p q) fun i => by rw [coef_padd, coef_addL]]
theorem peval_map (c x : Rat) : ∀ p : Poly, peval (p.map fun a => a * c) x = peval p x * c
  | [] => by show (0 : Rat) = 0 * c; rw [Rat.zero_mul]
  | a :: p => by
    show peval (p.map fun a => a * c) x * x + a * c = (peval p x * x + a) * c
    rw [peval_map c x p]
    grind
theorem peval_pscale (p : Poly) (c x : Rat) : peval (pscale p c) x = peval p x * c := by
  unfold pscale
  rw [peval_trim, peval_map]
def mulL : Poly → Poly → Poly
  | [], _ => []
  | a :: p, q => addL (q.map fun b => b * a) (0 :: mulL p q)
theorem coef_mulL : ∀ (p q : Poly) (k : Nat), coef (mulL p q) k = cmul p q k
  | [], q, k => by rw [mulL, coef_nil]; rfl
  | a :: p, q, 0 => by
    rw [mulL, coef_addL, coef_mapP (Rat.zero_mul a), coef_zero]
    show coef q 0 * a + 0 = a * coef q 0 + 0
    rw [Rat.mul_comm]
  | a :: p, q, k + 1 => by
    rw [mulL, coef_addL, coef_mapP (Rat.zero_mul a), coef_succ, coef_mulL p q k]
    show coef q (k + 1) * a + _ = a * coef q (k + 1) + cmul p q k
    rw [Rat.mul_comm]
theorem peval_mulL (x : Rat) : ∀ (p q : Poly), peval (mulL p q) x = peval p x * peval q x
  | [], q => by show (0 : Rat) = 0 * _; rw [Rat.zero_mul]
  | a :: p, q => by
    rw [mulL, peval_addL, peval_map]
    show peval q x * a + (peval (mulL p q) x * x + 0) = (peval p x * x + a) * peval q x
    rw [peval_mulL x p q]
    grind
theorem peval_pmul (p q : Poly) (x : Rat) : peval (pmul p q) x = peval p x * peval q x := by
  rw [← peval_mulL, peval_ext (q := mulL p q) fun i => by rw [coef_pmul, coef_mulL]]
def QX.ev (a : QX) (x : Rat) : Rat := peval a.p x
theorem ev_add (a b : QX) (x : Rat) : (a + b).ev x = a.ev x + b.ev x := peval_padd _ _ _
theorem ev_mul (a b : QX) (x : Rat) : (a * b).ev x = a.ev x * b.ev x := peval_pmul _ _ _
theorem ev_C (c x : Rat) : (QX.C c).ev x = c := by
  show peval (trim [c]) x = c
  rw [peval_trim]
  show (0 : Rat) * x + c = c
  grind
theorem ev_zero (x : Rat) : (0 : QX).ev x = 0 := by
  show peval (0 : QX).p x = 0
  rw [qx_zero]
  rfl
theorem ev_one (x : Rat) : (1 : QX).ev x = 1 := ev_C 1 x
theorem ev_neg (a : QX) (x : Rat) : (-a).ev x = -a.ev x := by
  show peval (pscale a.p (-1)) x = _
  rw [peval_pscale]
  show a.ev x * -1 = _
  grind
theorem ev_sub (a b : QX) (x : Rat) : (a - b).ev x = a.ev x - b.ev x := by
  show peval (padd a.p (pscale b.p (-1))) x = _
  rw [peval_padd, peval_pscale]
  show a.ev x + b.ev x * -1 = _
  grind
/-! ### roots -/
theorem own_lin (x : Rat) : Own [x, 1] := own_iff.mpr (.inr (by show (1 : Rat) ≠ 0; decide))
/-- x less a place -/
def lin (x : Rat) : QX := ⟨[-x, 1], own_lin _⟩
theorem ev_lin (a x : Rat) : (lin a).ev x = x - a := by
  show ((0 : Rat) * x + 1) * x + -a = x - a
  grind
theorem lin_len (x : Rat) : (lin x).len = 2 := rfl
theorem lin_ne (x : Rat) : lin x ≠ 0 := ne_zero.mpr (by intro h; cases h)
theorem root_dvd {a : QX} {x : Rat} (h : a.ev x = 0) : ∃ b, a = b * lin x := by
  obtain ⟨e, hl⟩ := qdiv_ok (a := a) (lin_ne x)
  have hl : (qrem a (lin x)).len < 2 := hl
  have hr : qrem a (lin x) = 0 := by
    by_cases h0 : (qrem a (lin x)).len = 0
    · exact len_zero.mp h0
    · have h1 := len_one (a := qrem a (lin x)) (by omega)
      have h2 : a.ev x = (qquo a (lin x)).ev x * (lin x).ev x + (qrem a (lin x)).ev x := by rw [← ev_mul, ← ev_add, ← e]
      rw [ev_lin, h, h1, ev_C] at h2
      have h3 : lc (qrem a (lin x)).p = 0 := by grind
      exact absurd h3 (lc_ne (qrem a (lin x)).own (ne_zero.mp fun z => h0 (len_zero.mpr z)))
  exact ⟨qquo a (lin x), by grind⟩
/-- fewer fractions than roots: nought -/
theorem roots_zero : ∀ (xs : List Rat) (a : QX), xs.Nodup → (∀ x ∈ xs, a.ev x = 0) → a.len ≤ xs.length → a = 0
  | [], a, _, _, hl => len_zero.mp (by simpa using hl)
  | x :: xs, a, hn, hz, hl => by
    obtain ⟨b, e⟩ := root_dvd (hz x List.mem_cons_self)
    have hn' := List.nodup_cons.mp hn
    have hb : b = 0 := by
      refine roots_zero xs b hn'.2 (fun y hy => ?_) ?_
      · have h1 := hz y (List.mem_cons_of_mem _ hy)
        rw [e, ev_mul, ev_lin] at h1
        rcases Rat.mul_eq_zero.mp h1 with h1 | h1
        · exact h1
        · have : y = x := by grind
          exact absurd (this ▸ hy) hn'.1
      · by_cases h0 : b = 0
        · rw [h0, len_zero.mpr rfl]
          exact Nat.zero_le _
        · have := len_mul h0 (lin_ne x)
          rw [← e, lin_len] at this
          rw [List.length_cons] at hl
          omega
    rw [e, hb]
    grind
theorem poly_uniq {xs : List Rat} {a b : QX} (hn : xs.Nodup) (h : ∀ x ∈ xs, a.ev x = b.ev x) (ha : a.len ≤ xs.length) (hb : b.len ≤ xs.length) : a = b := by
  have hz : a - b = 0 := roots_zero xs (a - b) hn (fun x hx => by rw [ev_sub, h x hx]; grind) (by
    refine Nat.le_trans (padd_len _ _) ?_
    have := pscale_len b.p (-1)
    have e1 : a.p.length = a.len := rfl
    have e2 : b.p.length = b.len := rfl
    omega)
  grind
/-! ### sizes over one denominator -/
theorem cz_padd {p q : Poly} {n m : Nat} (hp : CZ n p) (hq : CZ m q) : CZ (n + m + 1) (padd p q) := by
  obtain ⟨d, d0, d1, hd⟩ := hp
  obtain ⟨e, e0, e1, he⟩ := hq
  have pw : 2 ^ (n + m + 1) = 2 ^ (n + m) + 2 ^ (n + m) := by rw [Nat.pow_succ]; omega
  refine ⟨d * e, Int.mul_ne_zero d0 e0, by have := natAbs_mul_lt d1 e1; omega, fun i => ?_⟩
  obtain ⟨x, x1, x2⟩ := hd i
  obtain ⟨y, y1, y2⟩ := he i
  refine ⟨x * e + d * y, ?_, ?_⟩
  · have q1 := natAbs_mul_lt x1 e1
    have q2 := natAbs_mul_lt d1 y1
    omega
  · rw [coef_padd, Rat.intCast_mul, Rat.intCast_add, Rat.intCast_mul, Rat.intCast_mul, ← x2, ← y2]
    grind
theorem den_ne (c : Rat) : ((c.den : Int) : Rat) ≠ 0 := fun z => by
  have := Rat.intCast_eq_zero_iff.mp z
  have := c.den_pos
  omega
theorem num_eq (c : Rat) : c * ((c.den : Int) : Rat) = (c.num : Rat) := by
  have e : c = (c.num : Rat) / ((c.den : Int) : Rat) := by
    rw [← Rat.divInt_eq_div, Rat.num_divInt_den]
  conv => lhs; lhs; rw [e]
  exact Rat.div_mul_cancel (den_ne c)
theorem cz_pscale {p : Poly} {c : Rat} {n m : Nat} (hp : CZ n p) (hc : Rz m c) : CZ (n + m) (pscale p c) := by
  obtain ⟨d, d0, d1, hd⟩ := hp
  have hden : (c.den : Int).natAbs < 2 ^ m := by simpa using hc.2
  have := c.den_pos
  refine ⟨d * (c.den : Int), Int.mul_ne_zero d0 (by omega), natAbs_mul_lt d1 hden, fun i => ?_⟩
  obtain ⟨x, x1, x2⟩ := hd i
  refine ⟨x * c.num, natAbs_mul_lt x1 hc.1, ?_⟩
  rw [coef_pscale, Rat.intCast_mul, Rat.intCast_mul, ← x2, ← num_eq c]
  grind
theorem cz_nil {n : Nat} (h : 0 < n) : CZ n [] := ⟨1, by decide, Nat.one_lt_two_pow (by omega), fun i => ⟨0, Nat.pow_pos (by decide), by rw [coef_nil]; grind⟩⟩
theorem cz_one {c : Rat} {n : Nat} (h : Rz n c) : CZ n (trim [c]) := by
  have := c.den_pos
  refine ⟨(c.den : Int), by omega, by simpa using h.2, fun i => ?_⟩
  rw [coef_trim]
  cases i with
  | zero => exact ⟨c.num, h.1, by rw [coef_zero, num_eq]⟩
  | succ i => exact ⟨0, Nat.pow_pos (by decide), by rw [coef_succ, coef_nil]; grind⟩
theorem cz_trim {p : Poly} {n : Nat} (h : CZ n p) : CZ n (trim p) := by
  obtain ⟨d, d0, d1, hd⟩ := h
  exact ⟨d, d0, d1, fun i => by rw [coef_trim]; exact hd i⟩
theorem cz_cons {c : Rat} {p : Poly} {n m : Nat} (hc : Rz n c) (hp : CZ m p) : CZ (n + m) (c :: p) := by
  obtain ⟨d, d0, d1, hd⟩ := hp
  have hden : (c.den : Int).natAbs < 2 ^ n := by simpa using hc.2
  have := c.den_pos
  refine ⟨(c.den : Int) * d, Int.mul_ne_zero (by omega) d0, natAbs_mul_lt hden d1, fun i => ?_⟩
  cases i with
  | zero =>
    refine ⟨c.num * d, natAbs_mul_lt hc.1 d1, ?_⟩
    rw [coef_zero, Rat.intCast_mul, Rat.intCast_mul, ← num_eq c]
    grind
  | succ i =>
    obtain ⟨x, x1, x2⟩ := hd i
    refine ⟨(c.den : Int) * x, natAbs_mul_lt hden x1, ?_⟩
    rw [coef_succ, Rat.intCast_mul, Rat.intCast_mul, ← x2]
    grind
theorem peval_cz {x : Rat} {d : Int} {n m : Nat} (hx : Rz m x) : ∀ (p : Poly), (∀ i, ∃ t : Int, t.natAbs < 2 ^ n ∧ coef p i * (d : Rat) = (t : Rat)) → ∃ t : Int, t.natAbs < 2 ^ (n + p.length * m + p.length) ∧ peval p x * ((d * (x.den : Int) ^ p.length : Int) : Rat) = (t : Rat)
  | [], _ => ⟨0, Nat.pow_pos (by decide), by show (0 : Rat) * _ = _; rw [Rat.zero_mul]; rfl⟩
  | a :: p, hp => by
    obtain ⟨t, t1, t2⟩ := peval_cz hx p (fun i => by have := hp (i + 1); rw [coef_succ] at this; exact this)
    obtain ⟨u, u1, u2⟩ := hp 0
    rw [coef_zero] at u2
    have hden : (x.den : Int).natAbs < 2 ^ m := by simpa using hx.2
    have hdp : ∀ k : Nat, ((x.den : Int) ^ k).natAbs ≤ 2 ^ (k * m) := fun k => by
      induction k with
      | zero => simp
      | succ k ih =>
        rw [Int.pow_succ, Int.natAbs_mul, Nat.succ_mul, Nat.pow_add]
        exact Nat.mul_le_mul ih (Nat.le_of_lt hden)
    refine ⟨t * x.num + u * (x.den : Int) ^ (p.length + 1), ?_, ?_⟩
    · have q1 := natAbs_mul_lt t1 hx.1
      have q2 : (u * (x.den : Int) ^ (p.length + 1)).natAbs < 2 ^ (n + (p.length + 1) * m) := by
        rw [Int.natAbs_mul, Nat.pow_add]
        exact Nat.mul_lt_mul_of_lt_of_le u1 (hdp _) (Nat.pow_pos (by decide))
      have e1 : n + (a :: p).length * m + (a :: p).length = (n + (p.length + 1) * m + p.length) + 1 := by rw [List.length_cons]; omega
      have e2 : n + p.length * m + p.length + m = n + (p.length + 1) * m + p.length := by rw [Nat.succ_mul]; omega
      rw [e2] at q1
      have q3 : 2 ^ (n + (p.length + 1) * m) ≤ 2 ^ (n + (p.length + 1) * m + p.length) := Nat.pow_le_pow_right (by decide) (Nat.le_add_right _ _)
      rw [e1, Nat.pow_succ]
      omega
    · show (peval p x * x + a) * ((d * (x.den : Int) ^ (p.length + 1) : Int) : Rat) = _
      rw [Rat.intCast_add, Rat.intCast_mul, Rat.intCast_mul, ← t2, Rat.intCast_mul, Rat.intCast_mul, ← u2, ← num_eq x, Int.pow_succ, Rat.intCast_mul]
      grind
theorem rz_pevalC {p : Poly} {x : Rat} {n m l : Nat} (hp : CZ n p) (hx : Rz m x) (hl : p.length ≤ l) : Rz (n + l * m + l) (peval p x) := by
  obtain ⟨d, d0, d1, hd⟩ := hp
  obtain ⟨t, t1, t2⟩ := peval_cz hx p hd
  have hden : (x.den : Int).natAbs < 2 ^ m := by simpa using hx.2
  have hdp : ∀ k : Nat, ((x.den : Int) ^ k).natAbs ≤ 2 ^ (k * m) := fun k => by
    induction k with
    | zero => simp
    | succ k ih =>
      rw [Int.pow_succ, Int.natAbs_mul, Nat.succ_mul, Nat.pow_add]
      exact Nat.mul_le_mul ih (Nat.le_of_lt hden)
  have hx0 : (x.den : Int) ≠ 0 := by have := x.den_pos; omega
  have hle : n + p.length * m + p.length ≤ n + l * m + l := by
    have := Nat.mul_le_mul_right m hl
    omega
  refine (rz_quot (n := n + p.length * m + p.length) (Int.mul_ne_zero d0 (Int.pow_ne_zero hx0)) ?_ t1 t2).mono hle
  rw [Int.natAbs_mul]
  have : d.natAbs * ((x.den : Int) ^ p.length).natAbs < 2 ^ n * 2 ^ (p.length * m) := Nat.mul_lt_mul_of_lt_of_le d1 (hdp _) (Nat.pow_pos (by decide))
  rw [← Nat.pow_add] at this
  exact Nat.lt_of_lt_of_le this (Nat.pow_le_pow_right (by decide) (Nat.le_add_right _ _))
/-! ### one polynomial at another one -/
def cstep (q acc : Poly) (a : Rat) : Poly := padd (pmul acc q) (trim [a])
def pcomp (p q : Poly) : Poly := p.foldr (fun a acc => cstep q acc a) []
theorem own_pcomp (p q : Poly) : Own (pcomp p q) := by
  cases p with
  | nil => exact own_nil
  | cons a p => exact own_padd _ _
theorem peval_pcomp (q : Poly) (x : Rat) : ∀ p : Poly, peval (pcomp p q) x = peval p (peval q x)
  | [] => rfl
  | a :: p => by
    show peval (padd (pmul (pcomp p q) q) (trim [a])) x = peval p (peval q x) * peval q x + a
    rw [peval_padd, peval_pmul, peval_pcomp q x p, peval_trim]
    show _ + ((0 : Rat) * x + a) = _
    grind
theorem pcomp_len (q : Poly) : ∀ p : Poly, (pcomp p q).length ≤ (p.length - 1) * (q.length - 1) + 1
  | [] => Nat.zero_le _
  | [a] => by
    show (padd (pmul [] q) (trim [a])).length ≤ _
    refine Nat.le_trans (padd_len _ _) ?_
    have := trim_len [a]
    rw [nil_pmul]
    simp at this ⊢
    omega
  | a :: b :: p => by
    have ih := pcomp_len q (b :: p)
    show (padd (pmul (pcomp (b :: p) q) q) (trim [a])).length ≤ _
    refine Nat.le_trans (padd_len _ _) ?_
    have h1 := pmul_len (pcomp (b :: p) q) q
    have h2 := trim_len [a]
    have e : (a :: b :: p).length - 1 = ((b :: p).length - 1) + 1 := by simp
    rw [e, Nat.succ_mul]
    simp at h2
    by_cases hq : q.length = 0
    · have : q = [] := List.length_eq_zero_iff.mp hq
      subst this
      rw [pmul_nil] at h1 ⊢
      simp
      omega
    · omega
theorem cz_pcomp {q : Poly} {n m : Nat} (hq : CZ m q) (hn : 0 < n) : ∀ p : Poly, (∀ a ∈ p, Rz n a) → p.length * q.length ≤ 120 → CZ (1 + p.length * (n + m + 8)) (pcomp p q)
  | [], _, _ => cz_nil (by omega)
  | a :: p, hp, hl => by
    have hl' : p.length * q.length + q.length ≤ 120 := by rw [List.length_cons, Nat.succ_mul] at hl; exact hl
    have ih := cz_pcomp hq hn p (fun b hb => hp b (List.mem_cons_of_mem _ hb)) (by omega)
    have hlen : (pcomp p q).length < 2 ^ 7 := by
      refine Nat.lt_of_le_of_lt (pcomp_len q p) ?_
      have : (p.length - 1) * (q.length - 1) ≤ p.length * q.length := Nat.mul_le_mul (by omega) (by omega)
      show _ < 128
      omega
    have h1 := cz_padd (cz_pmul ih hq hlen) (cz_one (hp a List.mem_cons_self))
    refine CZ.mono h1 ?_
    rw [List.length_cons, Nat.succ_mul]
    omega
/-! ### through points -/
def tstep (s : Poly × Poly) (pt : Rat × Rat) : Poly × Poly := (padd s.1 (pscale s.2 ((pt.2 - peval s.1 pt.1) / peval s.2 pt.1)), pmul s.2 [(-1) * pt.1, 1])
def thrS (pts : List (Rat × Rat)) : Poly × Poly := pts.foldl tstep ([], [1])
def thr (pts : List (Rat × Rat)) : Poly := (thrS pts).1
theorem peval_lin' (a x : Rat) : peval [(-1) * a, 1] x = x - a := by
  show ((0 : Rat) * x + 1) * x + (-1) * a = x - a
  grind
theorem thrS_snoc (pts : List (Rat × Rat)) (pt : Rat × Rat) : thrS (pts ++ [pt]) = tstep (thrS pts) pt := by
  unfold thrS
  rw [List.foldl_append]
  rfl
theorem list_snoc {α : Type} {P : List α → Prop} (h0 : P []) (h1 : ∀ l a, P l → P (l ++ [a])) : ∀ l, P l := fun l => by
  have : ∀ m : List α, P m.reverse := fun m => by
    induction m with
    | nil => exact h0
    | cons a m ih => rw [List.reverse_cons]; exact h1 _ _ ih
  have := this l.reverse
  rwa [List.reverse_reverse] at this
/-- the base is worth nought at the places met, and nowhere else -/
theorem base_ev (x : Rat) : ∀ pts : List (Rat × Rat), (peval (thrS pts).2 x = 0 ↔ x ∈ pts.map (·.1)) := by
  refine list_snoc (by
    show peval [1] x = 0 ↔ x ∈ []
    have : peval [1] x = 1 := by show (0 : Rat) * x + 1 = 1; grind
    rw [this]
    simp) fun l a ih => ?_
  rw [thrS_snoc, List.map_append, List.mem_append, ← ih]
  show peval (pmul _ _) x = 0 ↔ _
  rw [peval_pmul, peval_lin', Rat.mul_eq_zero]
  simp
  exact or_congr Iff.rfl ⟨fun h => by grind, fun h => by grind⟩
theorem own_thrS : ∀ pts : List (Rat × Rat), Own (thrS pts).1 ∧ Own (thrS pts).2 := list_snoc ⟨own_nil, own_iff.mpr (.inr (by show (1 : Rat) ≠ 0; decide))⟩ fun l a _ => by
  rw [thrS_snoc]
  exact ⟨own_padd _ _, own_pmul _ _⟩
theorem thrS_len : ∀ pts : List (Rat × Rat), (thrS pts).1.length ≤ pts.length ∧ (thrS pts).2.length ≤ pts.length + 1 := list_snoc ⟨Nat.le_refl 0, Nat.le_refl 1⟩ fun l a ih => by
  rw [thrS_snoc, List.length_append]
  constructor
  · refine Nat.le_trans (padd_len _ _) ?_
    have := pscale_len (thrS l).2 ((a.2 - peval (thrS l).1 a.1) / peval (thrS l).2 a.1)
    simp
    omega
  · refine Nat.le_trans (pmul_len _ _) ?_
    simp
    omega
theorem thr_ev : ∀ pts : List (Rat × Rat), (pts.map (·.1)).Nodup → ∀ pt ∈ pts, peval (thr pts) pt.1 = pt.2 := list_snoc (fun _ pt h => by cases h) fun l a ih hn pt hp => by
  rw [List.map_append, List.nodup_append] at hn
  obtain ⟨n1, n2, n3⟩ := hn
  have hb : ∀ x, x ∈ l.map (·.1) → peval (thrS l).2 x = 0 := fun x hx => (base_ev x l).mpr hx
  have ha : peval (thrS l).2 a.1 ≠ 0 := fun z => by
    have := (base_ev a.1 l).mp z
    exact n3 a.1 this a.1 (by simp) rfl
  unfold thr
  rw [thrS_snoc]
  show peval (padd _ (pscale _ _)) pt.1 = pt.2
  rw [peval_padd, peval_pscale]
  rcases List.mem_append.mp hp with h | h
  · have h1 := ih n1 pt h
    unfold thr at h1
    rw [h1, hb pt.1 (List.mem_map.mpr ⟨pt, h, rfl⟩)]
    grind
  · have : pt = a := by simpa using h
    rw [this, Rat.mul_comm, Rat.div_mul_cancel ha]
    grind
theorem thr_uniq {pts : List (Rat × Rat)} {a : QX} (hn : (pts.map (·.1)).Nodup) (h : ∀ pt ∈ pts, a.ev pt.1 = pt.2) (hl : a.len ≤ pts.length) : thr pts = a.p := by
  have := poly_uniq (xs := pts.map (·.1)) (a := ⟨thr pts, (own_thrS pts).1⟩) (b := a) hn (fun x hx => by
    obtain ⟨pt, hp, rfl⟩ := List.mem_map.mp hx
    rw [h pt hp]
    exact thr_ev pts hn pt hp) (by rw [List.length_map]; exact (thrS_len pts).1) (by rw [List.length_map]; exact hl)
  exact congrArg QX.p this
end An

/-! len(set(xs)), xs a list of fractions. -/
namespace An
open PySem PySem.Spec PyProof.Rows L2
section
variable {X : Cx}
def tLenSetT (K : PySem.W.Frag) (ta : TE) : TE := fun σ H Q => ta σ H fun x H1 => ∃ (l : Addr) (ks : List (Addr × List Int)), x = V.ref l ∧ SqL K H1 l (ks.map fun p => V.ref p.1) ∧ (∀ p ∈ ks, SqT K H1 p.1 (p.2.map V.int)) ∧ ks.length < 64 ∧
  ∀ L : List (Addr × List Int), (L.map (·.2)).Nodup → (∀ p ∈ L, p ∈ ks) → (∀ p ∈ ks, p.2 ∈ L.map (·.2)) → Q (.int L.length) H1
theorem pe_lenSetT {a : Expr} {ta : TE} {p p2 q pos : Pos} (hc : X.calm = true) (hu : X.A.units + 64 < cLine) (hg : Gl X "len") (hm : X.mg "len" = none) (hg2 : Gl X "set") (hm2 : X.mg "set" = none) (ha : PE X a ta)
    (na : starEach [a] X.env = (false, eval a X.env) :: starEach [] X.env := by rfl) : PE X (.Call (.Name "len" p) [.Call (.Name "set" p2) [a] [] q] [] pos) (tLenSetT X.K ta) := by
  refine ⟨fun pins s σ H Q I h => ?_⟩
  refine Call_ (ld_blt I hg hm PySem.boot_len ?_)
  refine PyProof.Rows.callWith_builtin1 (PyProof.Rows.args_cons ?_ rfl) rfl rfl
  refine Call_ (ld_blt I hg2 hm2 PyProof.Rows.boot_set ?_)
  refine PyProof.Rows.callWith_type1 (PyProof.Rows.args_cons (thn (ha.run pins s σ H _ I h) fun v s1 ⟨x, H1, I1, r1, q1⟩ => PyProof.Rows.args_nil ?_) na) na rfl
  obtain ⟨l, ks, rfl, hq, hk, hf, q1⟩ := q1
  cases r1
  obtain ⟨its, rv, pl, hz⟩ := I1.list hq
  refine call_set_tups (P := X.prog) (w := X.w) ks (I1.ok.hd hc) pl.isList (by simpa using refs_of_vals rv) (fun p hp => I1.isT (hk p hp)) hf (by omega) fun h' tk L es ep t R g kp => ?_
  refine PyProof.Rows.args_nil ?_
  have R' : SetTR X.prog X.w ({ s1 with heap := h', toks := tk } : Shared).heap s1.heap.objs.size L es ep t := R
  have hsz := R'.size
  have hfit := R'.fits
  obtain ⟨o, ho, hex, hd⟩ := R'.ob
  have hfew := R'.few
  have I2 : Inv X pins σ H1 { s1 with heap := h', toks := tk } := I1.kept fun b o e => kp b o e
  refine call_len_set ho hex hd hfit (by rw [hsz]; omega) ⟨.int L.length, H1, I2.tok _, ⟨_, by rw [hsz]⟩, q1 L R'.nd (fun p hp => List.mem_of_mem_take (g.sub p hp)) (fun p hp => g.all p (by rw [List.take_length]; exact hp))⟩
end
/-- how many are different -/
def ndis {α : Type} [DecidableEq α] : List α → Nat
  | [] => 0
  | q :: r => if q ∈ r then ndis r else ndis r + 1
theorem ndis_len {α : Type} [DecidableEq α] : ∀ (m l : List α), l.Nodup → (∀ x ∈ l, x ∈ m) → (∀ x ∈ m, x ∈ l) → l.length = ndis m
  | [], l, _, h1, _ => by
    cases l with
    | nil => rfl
    | cons a l => exact absurd (h1 a List.mem_cons_self) (by simp)
  | q :: r, l, hn, h1, h2 => by
    unfold ndis
    by_cases hq : q ∈ r
    · rw [if_pos hq]
      refine ndis_len r l hn (fun x hx => ?_) fun x hx => h2 x (List.mem_cons_of_mem _ hx)
      rcases List.mem_cons.mp (h1 x hx) with e | e
      · rw [e]; exact hq
      · exact e
    · rw [if_neg hq]
      have hql : q ∈ l := h2 q List.mem_cons_self
      have hlen := List.length_erase_of_mem hql
      have hpos : 0 < l.length := List.length_pos_of_mem hql
      rw [← ndis_len r (l.erase q) (hn.erase q) (fun x hx => ?_) (fun x hx => ?_)]
      · omega
      · have hx' := (List.Nodup.mem_erase_iff hn).mp hx
        rcases List.mem_cons.mp (h1 x hx'.2) with e | e
        · exact absurd e hx'.1
        · exact e
      · exact (List.Nodup.mem_erase_iff hn).mpr ⟨fun e => hq (e ▸ hx), h2 x (List.mem_cons_of_mem _ hx)⟩
theorem ndis_le {α : Type} [DecidableEq α] : ∀ m : List α, ndis m ≤ m.length
  | [] => Nat.le_refl _
  | q :: r => by
    unfold ndis
    have := ndis_le r
    split <;> simp only [List.length_cons] <;> omega
theorem ndis_nodup {α : Type} [DecidableEq α] : ∀ m : List α, ndis m = m.length ↔ m.Nodup
  | [] => by simp [ndis]
  | q :: r => by
    unfold ndis
    have h1 := ndis_le r
    have h2 := ndis_nodup r
    rw [List.nodup_cons, List.length_cons]
    by_cases hq : q ∈ r
    · rw [if_pos hq]
      constructor
      · intro h; omega
      · intro h; exact absurd hq h.1
    · rw [if_neg hq]
      constructor
      · intro h; exact ⟨hq, h2.mp (by omega)⟩
      · intro h; have := h2.mpr h.2; omega
theorem fr_keys {K : PySem.W.Frag} {H : Hp} : ∀ {xs : List V} {qs : List Rat}, DtAll K H xs (qs.map eF) → ∃ ks : List (Addr × List Int), xs = ks.map (fun p => V.ref p.1) ∧ ks.map (·.2) = qs.map (fun q => [q.num, (q.den : Int)]) ∧ ∀ p ∈ ks, SqT K H p.1 (p.2.map V.int)
  | [], [], _ => ⟨[], rfl, rfl, fun p hp => by cases hp⟩
  | [], _ :: _, h => by cases h
  | _ :: _, [], h => by cases h
  | x :: xs, q :: qs, h => by
    cases h with
    | cons h1 h2 =>
      obtain ⟨ks, e1, e2, e3⟩ := fr_keys h2
      cases h1 with
      | tup t1 t2 =>
        rename_i a vs
        have ev : vs = [V.int q.num, V.int (q.den : Int)] := by
          cases t2 with
          | cons u1 t2 =>
            cases t2 with
            | cons u2 t2 =>
              cases t2
              cases u1
              cases u2
              rfl
        subst ev
        refine ⟨(a, [q.num, (q.den : Int)]) :: ks, by rw [e1]; rfl, by rw [List.map_cons, e2]; rfl, fun p hp => ?_⟩
        rcases List.mem_cons.mp hp with e | e
        · rw [e]; exact t1
        · exact e3 p e
theorem ee_lenSet {R : Hp → Hp → Prop} [RelC R] {X : Cx} {γ : List Sl} {pos p p2 q : Pos} {a : Expr} {qs : List Rat} {k : Nat} (g : Gx X k) (ha : EE R X γ a (.list (qs.map eF))) (hl : qs.length < 64) (hc : X.calm = true) (hm : X.mg "len" = none) (hm2 : X.mg "set" = none) (hg : Gl X "len" := by rfl) (hg2 : Gl X "set" := by rfl)
    (na : starEach [a] X.env = (false, eval a X.env) :: starEach [] X.env := by rfl) : EE R X γ (.Call (.Name "len" p) [.Call (.Name "set" p2) [a] [] q] [] pos) (.int (ndis qs)) := fun H0 S0 σ H Q s k =>
  we_of (pe_lenSetT hc g.room.units hg hm hg2 hm2 pe_we na) (ha H0 S0 σ H _ s fun v H1 r1 d1 => by
    cases d1 with
    | lst h1 h2 =>
      obtain ⟨ks, e1, e2, e3⟩ := fr_keys h2
      rw [e1] at h1
      have hkl : ks.length = qs.length := by
        have := congrArg List.length e2
        rwa [List.length_map, List.length_map] at this
      refine ⟨_, ks, rfl, .inl (rd_keep off_in h1), fun p hp => sqt_keep off_in (e3 p hp), by omega, fun L hn h3 h4 => ?_⟩
      let f : Rat → List Int := fun q => [q.num, (q.den : Int)]
      have finj : ∀ x y, f x = f y → x = y := fun x y e => by
        have e : [x.num, (x.den : Int)] = [y.num, (y.den : Int)] := e
        injection e with e1 e2
        injection e2 with e2 _
        exact Rat.ext e1 (by omega)
      have hL : L.length = ndis (qs.map f) := by
        have h := ndis_len (qs.map f) (L.map (·.2)) hn (fun x hx => ?_) (fun x hx => ?_)
        · rw [List.length_map] at h
          exact h
        · obtain ⟨p, hp, rfl⟩ := List.mem_map.mp hx
          have : p.2 ∈ ks.map (·.2) := List.mem_map.mpr ⟨p, h3 p hp, rfl⟩
          rw [e2] at this
          exact this
        · have : x ∈ ks.map (·.2) := by rw [e2]; exact hx
          obtain ⟨p, hp, rfl⟩ := List.mem_map.mp this
          exact h4 p hp
      have hf : ∀ m : List Rat, ndis (m.map f) = ndis m := fun m => by
        induction m with
        | nil => rfl
        | cons a m ih =>
          rw [List.map_cons]
          unfold ndis
          rw [ih]
          by_cases h : a ∈ m
          · rw [if_pos h, if_pos (List.mem_map.mpr ⟨a, h, rfl⟩)]
          · rw [if_neg h, if_neg fun z => by
              obtain ⟨b, hb, e⟩ := List.mem_map.mp z
              exact h (finj _ _ e ▸ hb)]
      rw [hL, hf]
      exact k _ H1 r1 (.int _))
end An

/-! Slopes; polynomials that have nothing in common; parts without roots twice. -/
namespace An
open PySem
/-! ### slopes -/
theorem coef_pder (p : Poly) (i : Nat) : coef (pder p) i = coef p (i + 1) * ((i + 1 : Nat) : Rat) := by
  unfold pder
  rw [coef_map]
  split
  · rfl
  · rw [coef_out (by omega), Rat.zero_mul]
theorem natR_pos (i : Nat) : ((i + 1 : Nat) : Rat) ≠ 0 := fun z => by
  have := Rat.natCast_eq_zero_iff.mp z
  omega
theorem pder_len (p : Poly) : (pder p).length = p.length - 1 := by
  unfold pder
  rw [List.length_map, List.length_range]
theorem own_pder {p : Poly} (h : Own p) : Own (pder p) := own_iff.mpr (by
  rcases own_iff.mp h with e | e
  · left
    rw [e]
    rfl
  · by_cases hl : p.length ≤ 1
    · left
      exact List.length_eq_zero_iff.mp (by rw [pder_len]; omega)
    · right
      rw [coef_pder, pder_len]
      intro z
      rcases Rat.mul_eq_zero.mp z with z | z
      · exact e (by rw [show p.length - 1 = p.length - 1 - 1 + 1 by omega]; exact z)
      · exact natR_pos _ z)
def QX.der (a : QX) : QX := ⟨pder a.p, own_pder a.own⟩
theorem coef_der (a : QX) (i : Nat) : coef a.der.p i = coef a.p (i + 1) * ((i + 1 : Nat) : Rat) := coef_pder a.p i
theorem der_add (a b : QX) : (a + b).der = a.der + b.der := QX.extC fun i => by
  rw [coef_der, coef_add, coef_add, coef_der, coef_der, Rat.add_mul]
theorem der_C (c : Rat) : (QX.C c).der = 0 := QX.extC fun i => by
  rw [coef_der, coef_C, if_neg (by omega), qx_zero, coef_nil, Rat.zero_mul]
theorem der_Cmul (c : Rat) (a : QX) : (QX.C c * a).der = QX.C c * a.der := QX.extC fun i => by
  rw [coef_der, coef_Cmul, coef_Cmul, coef_der, Rat.mul_assoc]
/-- the polynomial x -/
def QX.X : QX := mono 1 1
theorem coef_Xmul (a : QX) (i : Nat) : coef (QX.X * a).p i = match i with | 0 => 0 | i + 1 => coef a.p i := by
  show coef (mono 1 1 * a).p i = _
  rw [coef_mono_mul]
  cases i with
  | zero => rfl
  | succ i => rw [if_neg (by omega), Rat.one_mul]; rfl
theorem der_Xmul (a : QX) : (QX.X * a).der = a + QX.X * a.der := QX.extC fun i => by
  rw [coef_der, coef_add, coef_Xmul, coef_Xmul]
  cases i with
  | zero =>
    show coef a.p 0 * ((0 + 1 : Nat) : Rat) = coef a.p 0 + 0
    have : ((0 + 1 : Nat) : Rat) = 1 := rfl
    rw [this]
    grind
  | succ i =>
    show coef a.p (i + 1) * ((i + 1 + 1 : Nat) : Rat) = coef a.p (i + 1) + coef a.der.p i
    rw [coef_der, show ((i + 1 + 1 : Nat) : Rat) = ((i + 1 : Nat) : Rat) + 1 by rw [Rat.natCast_add]; rfl]
    grind
theorem cons_eq {a : Rat} {r : Poly} (h : Own (a :: r)) : (⟨a :: r, h⟩ : QX) = QX.C a + QX.X * ⟨r, own_cons h⟩ := QX.extC fun i => by
  rw [coef_add, coef_C, coef_Xmul]
  cases i with
  | zero => rw [if_pos rfl]; show a = a + 0; rw [Rat.add_zero]
  | succ i => rw [if_neg (by omega)]; show coef (a :: r) (i + 1) = 0 + coef r i; rw [coef_succ, Rat.zero_add]
theorem der_mul : ∀ (p : Poly) (h : Own p) (b : QX), ((⟨p, h⟩ : QX) * b).der = (⟨p, h⟩ : QX).der * b + ⟨p, h⟩ * b.der
  | [], h, b => by
    have e : (⟨[], h⟩ : QX) = 0 := QX.ext' qx_zero.symm
    have e2 : (0 : QX).der = 0 := der_C _
    rw [e, e2, show (0 : QX) * b = 0 by grind, e2]
    grind
  | a :: r, h, b => by
    have ih := der_mul r (own_cons h) b
    rw [cons_eq h]
    generalize (⟨r, own_cons h⟩ : QX) = q at ih ⊢
    have e : (QX.C a + QX.X * q) * b = QX.C a * b + QX.X * (q * b) := by grind
    rw [e, der_add, der_Cmul, der_Xmul, ih, der_add, der_C, der_Xmul]
    grind
theorem der_prod (a b : QX) : (a * b).der = a.der * b + a * b.der := der_mul a.p a.own b
theorem der_one : (1 : QX).der = 0 := der_C _
theorem der_len (a : QX) : a.der.len = a.len - 1 := pder_len a.p
/-! ### nothing in common -/
def Cop (a b : QX) : Prop := ∃ u v, u * a + v * b = 1
theorem Cop.symm {a b : QX} (h : Cop a b) : Cop b a := by
  obtain ⟨u, v, e⟩ := h
  exact ⟨v, u, by grind⟩
theorem Cop.mul {a b c : QX} (h : Cop a b) (k : Cop a c) : Cop a (b * c) := by
  obtain ⟨u, v, e⟩ := h
  obtain ⟨x, y, f⟩ := k
  refine ⟨u * x * a + u * y * c + v * b * x, v * y, ?_⟩
  have : (u * a + v * b) * (x * a + y * c) = 1 := by rw [e, f]; grind
  grind
theorem Cop.one (a : QX) : Cop a 1 := ⟨0, 1, by grind⟩
theorem Cop.pow {a b : QX} (h : Cop a b) : ∀ n : Nat, Cop a (b ^ n)
  | 0 => by
    rw [show b ^ 0 = (1 : QX) by grind]
    exact Cop.one a
  | n + 1 => by
    rw [show b ^ (n + 1) = b ^ n * b by grind]
    exact (h.pow n).mul h
theorem Cop.add {a b c : QX} (h : Cop a b) : Cop a (b + a * c) := by
  obtain ⟨u, v, e⟩ := h
  exact ⟨u - v * c, v, by grind⟩
theorem Cop.scale {a b : QX} {c : Rat} (hc : c ≠ 0) (h : Cop a b) : Cop a (QX.C c * b) := by
  obtain ⟨u, v, e⟩ := h
  refine ⟨u, v * QX.C (1 / c), ?_⟩
  have : QX.C (1 / c) * QX.C c = 1 := by
    rw [← C_mul, Rat.div_mul_cancel hc]
    rfl
  grind
theorem Cop.of_mul {a b c : QX} (h : Cop a (b * c)) : Cop a b := by
  obtain ⟨u, v, e⟩ := h
  exact ⟨u, v * c, by grind⟩
theorem cop_dvd {a b c : QX} (h : Cop a b) (k : a.dvd (b * c)) : a.dvd c := by
  obtain ⟨u, v, e⟩ := h
  obtain ⟨x, f⟩ := k
  refine ⟨u * c + v * x, ?_⟩
  have : c = (u * a + v * b) * c := by rw [e]; grind
  grind
/-- the common part of two with a common factor and nothing else -/
theorem qsh_cop {g a b : QX} (hg : Monic g) (h : Cop a b) (hne : g * a ≠ 0 ∨ g * b ≠ 0) : qsh (g * a) (g * b) = g := by
  refine qsh_uniq hne ⟨a, rfl⟩ ⟨b, rfl⟩ (fun d d1 d2 => ?_) hg
  obtain ⟨u, v, e⟩ := h
  have : g = u * (g * a) + v * (g * b) := by
    have : g = g * (u * a + v * b) := by rw [e]; grind
    grind
  rw [this]
  exact dvd_add (dvd_mul _ d1) (dvd_mul _ d2)
theorem monic_mul {a b : QX} (ha : Monic a) (hb : Monic b) : Monic (a * b) := ⟨mul_ne ha.1 hb.1, by rw [lc_mul ha.1 hb.1, ha.2, hb.2, Rat.one_mul]⟩
theorem monic_one : Monic 1 := ⟨C_ne (by decide), by rw [qx_one]; rfl⟩
theorem monic_pow {a : QX} (ha : Monic a) : ∀ n : Nat, Monic (a ^ n)
  | 0 => by
    rw [show a ^ 0 = (1 : QX) by grind]
    exact monic_one
  | n + 1 => by
    rw [show a ^ (n + 1) = a ^ n * a by grind]
    exact monic_mul (monic_pow ha n) ha
theorem qquo_mul {a o : QX} (ho : o ≠ 0) : qquo (a * o) o = a ∧ qrem (a * o) o = 0 := by
  obtain ⟨e, hl⟩ := qdiv_ok (a := a * o) ho
  have h0 : (0 : QX).len < o.len := by rw [len_zero.mpr rfl]; exact pos_len ho
  have := div_uniq (q := qquo (a * o) o) (q' := a) (r := qrem (a * o) o) (r' := 0) ho (by grind) hl h0
  exact this
/-! ### powers of factors -/
abbrev Fac := List (QX × Nat)
/-- the product of f^(e m) -/
def fprod (e : Nat → Nat) : Fac → QX
  | [] => 1
  | (f, m) :: r => f ^ (e m) * fprod e r
structure FacOk (F : Fac) : Prop where
  mon : ∀ q ∈ F, Monic q.1
  sf : ∀ q ∈ F, Cop q.1 q.1.der
  cop : F.Pairwise fun p q => Cop p.1 q.1
theorem FacOk.tail {q : QX × Nat} {F : Fac} (h : FacOk (q :: F)) : FacOk F := ⟨fun p hp => h.mon p (List.mem_cons_of_mem _ hp), fun p hp => h.sf p (List.mem_cons_of_mem _ hp), (List.pairwise_cons.mp h.cop).2⟩
theorem fprod_monic {F : Fac} (h : ∀ q ∈ F, Monic q.1) (e : Nat → Nat) : Monic (fprod e F) := by
  induction F with
  | nil => exact monic_one
  | cons q F ih => exact monic_mul (monic_pow (h q List.mem_cons_self) _) (ih fun p hp => h p (List.mem_cons_of_mem _ hp))
theorem fprod_cop {F : Fac} {a : QX} (h : ∀ q ∈ F, Cop a q.1) (e : Nat → Nat) : Cop a (fprod e F) := by
  induction F with
  | nil => exact Cop.one a
  | cons q F ih => exact ((h q List.mem_cons_self).pow _).mul (ih fun p hp => h p (List.mem_cons_of_mem _ hp))
theorem fprod_cop2 {F : Fac} (h : FacOk F) (e e' : Nat → Nat) (hd : ∀ q ∈ F, e q.2 = 0 ∨ e' q.2 = 0) : Cop (fprod e F) (fprod e' F) := by
  induction F with
  | nil => exact Cop.one 1
  | cons q F ih =>
    obtain ⟨f, m⟩ := q
    have ih := ih h.tail fun p hp => hd p (List.mem_cons_of_mem _ hp)
    have hc := (List.pairwise_cons.mp h.cop).1
    show Cop (f ^ e m * fprod e F) (f ^ e' m * fprod e' F)
    have c1 : Cop f (fprod e' F) := fprod_cop (fun p hp => hc p hp) e'
    have c2 : Cop f (fprod e F) := fprod_cop (fun p hp => hc p hp) e
    have c3 : Cop (f ^ e m) (f ^ e' m) := by
      rcases hd (f, m) List.mem_cons_self with z | z
      · rw [show e m = 0 from z, show f ^ 0 = (1 : QX) by grind]
        exact (Cop.one _).symm
      · rw [show e' m = 0 from z, show f ^ 0 = (1 : QX) by grind]
        exact Cop.one _
    refine Cop.mul (Cop.symm (Cop.mul c3.symm ?_)) (Cop.symm (Cop.mul (c1.symm.pow (e m)) ih.symm))
    exact ((c2.symm.pow (e' m)).symm)
theorem fprod_mul (F : Fac) (e e' : Nat → Nat) : fprod (fun m => e m + e' m) F = fprod e F * fprod e' F := by
  induction F with
  | nil => show (1 : QX) = 1 * 1; grind
  | cons q F ih =>
    obtain ⟨f, m⟩ := q
    show f ^ (e m + e' m) * fprod (fun m => e m + e' m) F = (f ^ e m * fprod e F) * (f ^ e' m * fprod e' F)
    rw [ih, Lean.Grind.Semiring.pow_add]
    grind
theorem fprod_congr {F : Fac} {e e' : Nat → Nat} (h : ∀ q ∈ F, e q.2 = e' q.2) : fprod e F = fprod e' F := by
  induction F with
  | nil => rfl
  | cons q F ih =>
    obtain ⟨f, m⟩ := q
    show f ^ e m * fprod e F = f ^ e' m * fprod e' F
    rw [ih fun p hp => h p (List.mem_cons_of_mem _ hp), show e m = e' m from h (f, m) List.mem_cons_self]
/-! the slope of a product of powers -/
theorem der_pow (f : QX) : ∀ n : Nat, (f ^ (n + 1)).der = QX.C ((n + 1 : Nat) : Rat) * (f ^ n * f.der)
  | 0 => by
    rw [show f ^ (0 + 1) = f by grind, show f ^ 0 = (1 : QX) by grind]
    have : QX.C ((0 + 1 : Nat) : Rat) = 1 := rfl
    rw [this]
    grind
  | n + 1 => by
    rw [show f ^ (n + 1 + 1) = f ^ (n + 1) * f by grind, der_prod, der_pow f n, show ((n + 1 + 1 : Nat) : Rat) = ((n + 1 : Nat) : Rat) + 1 by rw [Rat.natCast_add]; rfl, C_add]
    have : QX.C 1 = 1 := rfl
    rw [this]
    generalize QX.C ((n + 1 : Nat) : Rat) = c
    have e : f ^ (n + 1) = f ^ n * f := by grind
    rw [e]
    grind
/-- what is left of the slope: nothing in common with the factors -/
theorem der_fprod : ∀ (F : Fac), FacOk F → (∀ q ∈ F, 1 ≤ q.2) → ∃ T, (fprod id F).der = fprod (fun m => m - 1) F * T ∧ Cop (fprod (fun _ => 1) F) T
  | [], _, _ => ⟨0, by show (1 : QX).der = 1 * 0; rw [der_one]; grind, ⟨1, 0, by show 1 * (1 : QX) + 0 * 0 = 1; grind⟩⟩
  | (f, m) :: F, h, h1 => by
    obtain ⟨T, e, c⟩ := der_fprod F h.tail fun q hq => h1 q (List.mem_cons_of_mem _ hq)
    have hm : 1 ≤ m := h1 (f, m) List.mem_cons_self
    obtain ⟨n, rfl⟩ : ∃ n, m = n + 1 := ⟨m - 1, by omega⟩
    have hc := (List.pairwise_cons.mp h.cop).1
    have hsf : Cop f f.der := h.sf (f, n + 1) List.mem_cons_self
    have cR : Cop f (fprod (fun _ => 1) F) := fprod_cop (fun p hp => hc p hp) _
    have eR : fprod id F = fprod (fun m => m - 1) F * fprod (fun _ => 1) F := by
      rw [← fprod_mul]
      refine fprod_congr fun q hq => ?_
      have := h1 q (List.mem_cons_of_mem _ hq)
      show q.2 = q.2 - 1 + 1
      omega
    refine ⟨QX.C ((n + 1 : Nat) : Rat) * (f.der * fprod (fun _ => 1) F) + f * T, ?_, ?_⟩
    · show (f ^ (n + 1) * fprod id F).der = f ^ (n + 1 - 1) * fprod (fun m => m - 1) F * _
      rw [der_prod, der_pow, e, eR, show n + 1 - 1 = n by omega]
      have e2 : f ^ (n + 1) = f ^ n * f := by grind
      rw [e2]
      grind
    · show Cop (f ^ 1 * fprod (fun _ => 1) F) _
      have e1 : f ^ 1 = f := by grind
      rw [e1]
      refine Cop.symm (Cop.mul (Cop.symm ?_) (Cop.symm ?_))
      · exact Cop.add (Cop.scale (natR_pos n) (hsf.mul cR))
      · have q : Cop (fprod (fun _ => 1) F) (f * T + fprod (fun _ => 1) F * (QX.C ((n + 1 : Nat) : Rat) * f.der)) := Cop.add (cR.symm.mul c)
        have e3 : f * T + fprod (fun _ => 1) F * (QX.C ((n + 1 : Nat) : Rat) * f.der) = QX.C ((n + 1 : Nat) : Rat) * (f.der * fprod (fun _ => 1) F) + f * T := by grind
        rw [e3] at q
        exact q
theorem qsh_der {F : Fac} (h : FacOk F) (h1 : ∀ q ∈ F, 1 ≤ q.2) : qsh (fprod id F) (fprod id F).der = fprod (fun m => m - 1) F := by
  obtain ⟨T, e, c⟩ := der_fprod F h h1
  have eR : fprod id F = fprod (fun m => m - 1) F * fprod (fun _ => 1) F := by
    rw [← fprod_mul]
    refine fprod_congr fun q hq => ?_
    have := h1 q hq
    show q.2 = q.2 - 1 + 1
    omega
  have hm := fprod_monic h.mon id
  rw [e]
  have := qsh_cop (fprod_monic h.mon (fun m => m - 1)) c (.inl (by rw [← eR]; exact hm.1))
  rw [← eR] at this
  exact this
/-! along the parts' loop: factors met at least j times -/
def oneAt (j : Nat) : Nat → Nat := fun m => if j ≤ m then 1 else 0
def justAt (j : Nat) : Nat → Nat := fun m => if m = j then 1 else 0
def leftAt (j : Nat) : Nat → Nat := fun m => m - j
theorem qsh_step {F : Fac} (h : FacOk F) (j : Nat) : qsh (fprod (oneAt j) F) (fprod (leftAt j) F) = fprod (oneAt (j + 1)) F := by
  have e1 : fprod (oneAt j) F = fprod (oneAt (j + 1)) F * fprod (justAt j) F := by
    rw [← fprod_mul]
    refine fprod_congr fun q hq => ?_
    unfold oneAt justAt
    by_cases a : j ≤ q.2
    · by_cases b : q.2 = j
      · rw [if_pos a, if_neg (by omega), if_pos b]
      · rw [if_pos a, if_pos (by omega), if_neg b]
    · rw [if_neg a, if_neg (by omega), if_neg (by omega)]
  have e2 : fprod (leftAt j) F = fprod (oneAt (j + 1)) F * fprod (leftAt (j + 1)) F := by
    rw [← fprod_mul]
    refine fprod_congr fun q hq => ?_
    unfold oneAt leftAt
    split <;> omega
  have hm := fprod_monic h.mon (oneAt j)
  rw [e2]
  have c : Cop (fprod (justAt j) F) (fprod (leftAt (j + 1)) F) := fprod_cop2 h _ _ fun q hq => by
    unfold justAt leftAt
    by_cases b : q.2 = j
    · right; omega
    · left; rw [if_neg b]
  have := qsh_cop (fprod_monic h.mon (oneAt (j + 1))) c (.inl (by rw [← e1]; exact hm.1))
  rw [← e1] at this
  exact this
theorem own_step {F : Fac} (h : FacOk F) (j : Nat) : qquo (fprod (oneAt j) F) (fprod (oneAt (j + 1)) F) = fprod (justAt j) F := by
  have e1 : fprod (oneAt j) F = fprod (justAt j) F * fprod (oneAt (j + 1)) F := by
    rw [← fprod_mul]
    refine fprod_congr fun q hq => ?_
    unfold oneAt justAt
    split <;> split <;> split <;> omega
  rw [e1]
  exact (qquo_mul (fprod_monic h.mon (oneAt (j + 1))).1).1
theorem left_step {F : Fac} (h : FacOk F) (j : Nat) : qquo (fprod (leftAt j) F) (fprod (oneAt (j + 1)) F) = fprod (leftAt (j + 1)) F := by
  have e2 : fprod (leftAt j) F = fprod (leftAt (j + 1)) F * fprod (oneAt (j + 1)) F := by
    rw [← fprod_mul]
    refine fprod_congr fun q hq => ?_
    unfold oneAt leftAt
    split <;> omega
  rw [e2]
  exact (qquo_mul (fprod_monic h.mon (oneAt (j + 1))).1).1
end An

/-! Each polynomial is made of factors that have nothing in common. -/
namespace An
open PySem
theorem monic_of_mul {a b : QX} (ha : Monic a) (h : Monic (a * b)) : Monic b := by
  have hb : b ≠ 0 := fun z => h.1 (by rw [z]; grind)
  refine ⟨hb, ?_⟩
  have := lc_mul ha.1 hb
  rw [h.2, ha.2, Rat.one_mul] at this
  exact this.symm
theorem monic_len1 {a : QX} (ha : Monic a) (h : a.len = 1) : a = 1 := by
  rw [len_one h, ha.2]
  rfl
structure Irr (f : QX) : Prop where
  mon : Monic f
  len : 1 < f.len
  div : ∀ d : QX, Monic d → d.dvd f → d = 1 ∨ d = f
theorem monic_dvd_len {d f : QX} (hd : Monic d) (hf : Monic f) (h : d.dvd f) (hl : f.len ≤ d.len) : d = f := by
  obtain ⟨c, e⟩ := h
  have hc : Monic c := monic_of_mul hd (by rw [← e]; exact hf)
  have hl2 := len_mul hd.1 hc.1
  rw [← e] at hl2
  have h1 := pos_len hc.1
  have h2 := pos_len hd.1
  have hc1 := monic_len1 hc (by omega)
  rw [e, hc1]
  grind
theorem irr_dvd : ∀ (n : Nat) (p : QX), p.len ≤ n → Monic p → 1 < p.len → ∃ f, Irr f ∧ f.dvd p
  | 0, p, h, _, hl => by omega
  | n + 1, p, h, hm, hl => by
    by_cases hp : ∃ d : QX, Monic d ∧ d.dvd p ∧ 1 < d.len ∧ d.len < p.len
    · obtain ⟨d, d1, d2, d3, d4⟩ := hp
      obtain ⟨f, f1, f2⟩ := irr_dvd n d (by omega) d1 d3
      exact ⟨f, f1, dvd_trans f2 d2⟩
    · refine ⟨p, ⟨hm, hl, fun d d1 d2 => ?_⟩, dvd_refl p⟩
      have hle := dvd_len d2 hm.1
      have hpos := pos_len d1.1
      by_cases h1 : d.len = 1
      · exact .inl (monic_len1 d1 h1)
      · refine .inr (monic_dvd_len d1 hm d2 (Nat.le_of_not_lt fun z => hp ⟨d, d1, d2, by omega, z⟩))
theorem irr_cop {f g : QX} (hf : Irr f) (hn : ¬ f.dvd g) : Cop f g := by
  obtain ⟨h1, h2, ⟨u, v, e⟩, h4⟩ := qsh_ok (a := f) (b := g) (.inl hf.mon.1)
  rcases hf.div _ h4 h1 with z | z
  · exact ⟨u, v, by rw [← e, z]⟩
  · rw [z] at h2
    exact absurd h2 hn
theorem irr_sf {f : QX} (hf : Irr f) : Cop f f.der := irr_cop hf fun z => by
  have hl := der_len f
  have h1 := hf.len
  have hd : f.der ≠ 0 := fun q => by
    have := len_zero.mpr q
    omega
  have := dvd_len z hd
  omega
theorem peel {f : QX} (hf : Irr f) : ∀ (n : Nat) (p : QX), p.len ≤ n → Monic p → ∃ (m : Nat) (r : QX), p = f ^ m * r ∧ Monic r ∧ ¬ f.dvd r
  | 0, p, h, hm => by
    have := pos_len hm.1
    omega
  | n + 1, p, h, hm => by
    by_cases hd : f.dvd p
    · obtain ⟨c, e⟩ := hd
      have hc : Monic c := monic_of_mul hf.mon (by rw [← e]; exact hm)
      have hl := len_mul hf.mon.1 hc.1
      rw [← e] at hl
      have h1 := hf.len
      obtain ⟨m, r, e2, r1, r2⟩ := peel hf n c (by omega) hc
      exact ⟨m + 1, r, by rw [e, e2]; grind, r1, r2⟩
    · exact ⟨0, p, by grind, hm, hd⟩
theorem fprod_mem_dvd {F : Fac} {q : QX × Nat} (hq : q ∈ F) (h : 1 ≤ q.2) : q.1.dvd (fprod id F) := by
  induction F with
  | nil => cases hq
  | cons p F ih =>
    obtain ⟨f, m⟩ := p
    rcases List.mem_cons.mp hq with e | e
    · subst e
      obtain ⟨n, rfl⟩ : ∃ n, m = n + 1 := ⟨m - 1, by have : 1 ≤ m := h; omega⟩
      exact ⟨f ^ n * fprod id F, by show f ^ (n + 1) * fprod id F = _; grind⟩
    · have := ih e
      exact dvd_mul _ this
/-- the factors of a polynomial -/
theorem factors : ∀ (n : Nat) (p : QX), p.len ≤ n → Monic p → ∃ F : Fac, FacOk F ∧ (∀ q ∈ F, 1 ≤ q.2 ∧ Irr q.1) ∧ fprod id F = p
  | 0, p, h, hm => by
    have := pos_len hm.1
    omega
  | n + 1, p, h, hm => by
    have hp := pos_len hm.1
    by_cases h1 : p.len = 1
    · exact ⟨[], ⟨fun q hq => (nomatch hq), fun q hq => (nomatch hq), List.Pairwise.nil⟩, fun q hq => (nomatch hq), (monic_len1 hm h1).symm⟩
    · obtain ⟨f, hf, hd⟩ := irr_dvd p.len p (Nat.le_refl _) hm (by omega)
      obtain ⟨m, r, e, r1, r2⟩ := peel hf p.len p (Nat.le_refl _) hm
      have hm1 : 1 ≤ m := by
        cases m with
        | zero =>
          rw [show f ^ 0 * r = r by grind] at e
          rw [e] at hd
          exact absurd hd r2
        | succ m => omega
      have hrl : r.len < p.len := by
        obtain ⟨k, rfl⟩ : ∃ k, m = k + 1 := ⟨m - 1, by omega⟩
        have h2 := len_mul (monic_pow hf.mon (k + 1)).1 r1.1
        have h3 : (f ^ (k + 1)).len ≥ f.len := by
          have h4 : f ^ (k + 1) = f ^ k * f := by grind
          rw [h4, len_mul (monic_pow hf.mon k).1 hf.mon.1]
          have := pos_len (monic_pow hf.mon k).1
          omega
        rw [← e] at h2
        have := hf.len
        have := pos_len r1.1
        omega
      obtain ⟨F, F1, F2, F3⟩ := factors n r (by omega) r1
      have cf : ∀ q ∈ F, Cop f q.1 := fun q hq => irr_cop hf fun z => r2 (by
        rw [← F3]
        exact dvd_trans z (fprod_mem_dvd hq (F2 q hq).1))
      refine ⟨(f, m) :: F, ⟨fun q hq => ?_, fun q hq => ?_, List.pairwise_cons.mpr ⟨fun q hq => cf q hq, F1.cop⟩⟩, fun q hq => ?_, ?_⟩
      · rcases List.mem_cons.mp hq with z | z
        · rw [z]; exact hf.mon
        · exact F1.mon q z
      · rcases List.mem_cons.mp hq with z | z
        · rw [z]; exact irr_sf hf
        · exact F1.sf q z
      · rcases List.mem_cons.mp hq with z | z
        · rw [z]; exact ⟨hm1, hf⟩
        · exact F2 q z
      · show f ^ m * fprod id F = p
        rw [F3, ← e]
/-! ### divisors of a polynomial of whole numbers -/
def IntP (a : QX) : Prop := ∀ i, ∃ t : Int, coef a.p i = (t : Rat)
/-- a number that makes all fractions whole -/
theorem clears (a : QX) : ∃ c : Nat, 0 < c ∧ IntP (QX.C (c : Rat) * a) := by
  have : ∀ p : Poly, ∃ c : Nat, 0 < c ∧ ∀ i, ∃ t : Int, (c : Rat) * coef p i = (t : Rat) := fun p => by
    induction p with
    | nil => exact ⟨1, by decide, fun i => ⟨0, by rw [coef_nil, Rat.mul_zero]; rfl⟩⟩
    | cons a p ih =>
      obtain ⟨c, c0, h⟩ := ih
      refine ⟨c * a.den, Nat.mul_pos c0 a.den_pos, fun i => ?_⟩
      cases i with
      | zero =>
        refine ⟨(c : Int) * a.num, ?_⟩
        rw [coef_zero, Rat.natCast_mul, Rat.intCast_mul, ← num_eq a, Rat.intCast_natCast, Rat.intCast_natCast]
        grind
      | succ i =>
        obtain ⟨t, e⟩ := h i
        refine ⟨t * (a.den : Int), ?_⟩
        rw [coef_succ, Rat.natCast_mul, Rat.intCast_mul, ← e, Rat.intCast_natCast]
        grind
  obtain ⟨c, c0, h⟩ := this a.p
  exact ⟨c, c0, fun i => by
    obtain ⟨t, e⟩ := h i
    exact ⟨t, by rw [coef_Cmul]; exact e⟩⟩
theorem least {P : Nat → Prop} : ∀ n, P n → ∃ k, k ≤ n ∧ P k ∧ ∀ j, j < k → ¬ P j := by
  intro n
  induction n using Nat.strongRecOn with
  | _ n ih =>
    intro h
    by_cases hj : ∃ j, j < n ∧ P j
    · obtain ⟨j, h1, h2⟩ := hj
      obtain ⟨k, k1, k2, k3⟩ := ih j h1 h2
      exact ⟨k, by omega, k2, k3⟩
    · exact ⟨n, Nat.le_refl _, h, fun j hj' hp => hj ⟨j, hj', hp⟩⟩
/-- a whole multiple that no prime divides through -/
theorem primitive (a : QX) : ∃ c : Nat, 0 < c ∧ IntP (QX.C (c : Rat) * a) ∧ ∀ q : Nat, 1 < q → q ∣ c → ∃ i, ∀ t : Int, coef (QX.C (c : Rat) * a).p i = (t : Rat) → ¬ (q : Int) ∣ t := by
  obtain ⟨c0, h0, h1⟩ := clears a
  obtain ⟨c, _, ⟨c1, c2⟩, c3⟩ := least (P := fun c => 0 < c ∧ IntP (QX.C (c : Rat) * a)) c0 ⟨h0, h1⟩
  refine ⟨c, c1, c2, fun q hq hqc => ?_⟩
  refine Classical.byContradiction fun hn => ?_
  obtain ⟨k, hk⟩ := hqc
  have hk0 : 0 < k := Nat.pos_of_ne_zero fun z => by rw [z, Nat.mul_zero] at hk; omega
  refine c3 k (by rw [hk]; exact (Nat.lt_mul_iff_one_lt_left hk0).mpr hq) ⟨hk0, fun i => ?_⟩
  have hi : ∃ t : Int, coef (QX.C (c : Rat) * a).p i = (t : Rat) ∧ (q : Int) ∣ t := Classical.byContradiction fun z => hn ⟨i, fun t e d => z ⟨t, e, d⟩⟩
  obtain ⟨t, e, u, hu⟩ := hi
  refine ⟨u, ?_⟩
  rw [coef_Cmul] at e ⊢
  rw [hk, Rat.natCast_mul, hu, Rat.intCast_mul, Rat.intCast_natCast] at e
  have hq0 : (q : Rat) ≠ 0 := fun z => by
    have := Rat.natCast_eq_zero_iff.mp z
    omega
  have e2 : (q : Rat) * ((k : Rat) * coef a.p i - (u : Rat)) = 0 := by grind
  rcases Rat.mul_eq_zero.mp e2 with z | z
  · exact absurd z hq0
  · grind
/-! ### Gauss -/
def conv : List Int → (Nat → Int) → Nat → Int
  | [], _, _ => 0
  | a :: r, g, k => a * g k + (match k with | 0 => 0 | k + 1 => conv r g k)
theorem conv_cast {b : QX} {g : Nat → Int} (hg : ∀ i, coef b.p i = (g i : Rat)) : ∀ (α : List Int) (k : Nat), cmul (α.map fun t : Int => (t : Rat)) b.p k = (conv α g k : Rat)
  | [], k => by show (0 : Rat) = ((0 : Int) : Rat); rfl
  | a :: r, 0 => by
    show (a : Rat) * coef b.p 0 + 0 = ((a * g 0 + 0 : Int) : Rat)
    rw [hg, Rat.intCast_add, Rat.intCast_mul]
    rfl
  | a :: r, k + 1 => by
    show (a : Rat) * coef b.p (k + 1) + cmul (r.map fun t : Int => (t : Rat)) b.p k = ((a * g (k + 1) + conv r g k : Int) : Rat)
    rw [hg, conv_cast hg r k, Rat.intCast_add, Rat.intCast_mul]
theorem conv_low {q : Int} {g : Nat → Int} : ∀ (r : List Int) (m : Nat), (∀ l, l ≤ m → q ∣ g l) → q ∣ conv r g m
  | [], m, _ => Int.dvd_zero q
  | a :: r, 0, h => by
    show q ∣ a * g 0 + 0
    rw [Int.add_zero]
    exact Int.dvd_mul_of_dvd_right (h 0 (Nat.le_refl _))
  | a :: r, m + 1, h => by
    show q ∣ a * g (m + 1) + conv r g m
    exact Int.dvd_add (Int.dvd_mul_of_dvd_right (h _ (Nat.le_refl _))) (conv_low r m fun l hl => h l (by omega))
/-- a number that only 1 and itself divide -/
def Prm (q : Nat) : Prop := 1 < q ∧ ∀ d, d ∣ q → d = 1 ∨ d = q
theorem prm_of {e : Nat} (h : 1 < e) : ∃ q, Prm q ∧ q ∣ e := by
  obtain ⟨q, _, ⟨q1, q2⟩, q3⟩ := least (P := fun d => 1 < d ∧ d ∣ e) e ⟨h, Nat.dvd_refl e⟩
  refine ⟨q, ⟨q1, fun d hd => ?_⟩, q2⟩
  have hle := Nat.le_of_dvd (by omega) hd
  by_cases h1 : d ≤ 1
  · left
    have : d ≠ 0 := fun z => by rw [z] at hd; have := Nat.eq_zero_of_zero_dvd hd; omega
    omega
  · right
    have : ¬ d < q := fun z => q3 d z ⟨by omega, Nat.dvd_trans hd q2⟩
    omega
theorem prm_mul {q : Nat} (hq : Prm q) {x y : Int} (h : (q : Int) ∣ x * y) : (q : Int) ∣ x ∨ (q : Int) ∣ y := by
  have h' : q ∣ x.natAbs * y.natAbs := by
    rw [← Int.natAbs_mul]
    exact Int.ofNat_dvd_left.mp h
  rcases hq.2 _ (Nat.gcd_dvd_left q x.natAbs) with g | g
  · right
    exact Int.ofNat_dvd_left.mpr (Nat.Coprime.dvd_of_dvd_mul_left g h')
  · left
    have := Nat.gcd_dvd_right q x.natAbs
    rw [g] at this
    exact Int.ofNat_dvd_left.mpr this
theorem conv_all {q : Nat} (hq : Prm q) {g : Nat → Int} (hg : ∃ j, ¬ (q : Int) ∣ g j) : ∀ α : List Int, (∀ k, (q : Int) ∣ conv α g k) → ∀ t ∈ α, (q : Int) ∣ t
  | [], _, t, ht => nomatch ht
  | a :: r, h, t, ht => by
    obtain ⟨j, hj⟩ := hg
    obtain ⟨j0, _, j1, j2⟩ := least (P := fun j => ¬ (q : Int) ∣ g j) j hj
    have low : ∀ l, l < j0 → (q : Int) ∣ g l := fun l hl => Classical.byContradiction fun z => j2 l hl z
    have ha : (q : Int) ∣ a := by
      have h0 := h j0
      have h1 : (q : Int) ∣ a * g j0 := by
        cases j0 with
        | zero =>
          have h0 : (q : Int) ∣ a * g 0 + 0 := h0
          rw [Int.add_zero] at h0
          exact h0
        | succ m =>
          have h0 : (q : Int) ∣ a * g (m + 1) + conv r g m := h0
          exact (Int.dvd_iff_dvd_of_dvd_add h0).mpr (conv_low r m fun l hl => low l (by omega))
      rcases prm_mul hq h1 with z | z
      · exact z
      · exact absurd z j1
    rcases List.mem_cons.mp ht with e | e
    · rw [e]; exact ha
    · refine conv_all hq ⟨j, hj⟩ r (fun k => ?_) t e
      have h0 : (q : Int) ∣ a * g (k + 1) + conv r g k := h (k + 1)
      exact (Int.dvd_iff_dvd_of_dvd_add h0).mp (Int.dvd_mul_of_dvd_left ha)
theorem int_list {a : QX} (h : IntP a) : ∃ α : List Int, a.p = α.map fun t : Int => (t : Rat) := by
  have : ∀ p : Poly, (∀ i, ∃ t : Int, coef p i = (t : Rat)) → ∃ α : List Int, p = α.map fun t : Int => (t : Rat) := fun p => by
    induction p with
    | nil => exact fun _ => ⟨[], rfl⟩
    | cons a p ih =>
      intro h
      obtain ⟨t, e⟩ := h 0
      obtain ⟨α, e2⟩ := ih fun i => by have := h (i + 1); rw [coef_succ] at this; exact this
      exact ⟨t :: α, by rw [List.map_cons, ← e2, ← e, coef_zero]⟩
  exact this a.p h
theorem gauss {P G H : QX} (hP : IntP P) (hG : IntP G) (hpr : ∀ q : Nat, 1 < q → ∃ i, ∀ t : Int, coef G.p i = (t : Rat) → ¬ (q : Int) ∣ t) (e : P = G * H) : IntP H := by
  obtain ⟨c, c0, c1, c2⟩ := primitive H
  by_cases hc : c = 1
  · subst hc
    intro i
    obtain ⟨t, e2⟩ := c1 i
    rw [coef_Cmul] at e2
    exact ⟨t, by rw [← e2]; have : ((1 : Nat) : Rat) = 1 := rfl; rw [this]; grind⟩
  · exfalso
    obtain ⟨q, hq, hqc⟩ := prm_of (e := c) (by omega)
    obtain ⟨α, eα⟩ := int_list hG
    have hg : ∃ g : Nat → Int, ∀ i, coef (QX.C (c : Rat) * H).p i = (g i : Rat) := ⟨fun i => Classical.choose (c1 i), fun i => Classical.choose_spec (c1 i)⟩
    obtain ⟨g, hg⟩ := hg
    have key : ∀ k, (q : Int) ∣ conv α g k := fun k => by
      have h1 := conv_cast hg α k
      rw [← eα, ← coef_pmul] at h1
      have h2 : coef (G * (QX.C (c : Rat) * H)).p k = (conv α g k : Rat) := h1
      have h3 : G * (QX.C (c : Rat) * H) = QX.C (c : Rat) * P := by rw [e]; grind
      rw [h3, coef_Cmul] at h2
      obtain ⟨t, et⟩ := hP k
      rw [et, ← Rat.intCast_natCast, ← Rat.intCast_mul] at h2
      have h4 := Rat.intCast_inj.mp h2
      rw [← h4]
      exact Int.dvd_mul_of_dvd_left (Int.natCast_dvd_natCast.mpr hqc)
    obtain ⟨j, hj⟩ := c2 q hq.1 hqc
    have all := conv_all hq ⟨j, hj _ (hg j)⟩ α key
    obtain ⟨i, hi⟩ := hpr q hq.1
    obtain ⟨t, et⟩ := hG i
    refine hi t et ?_
    by_cases hl : i < G.p.length
    · have hl' : i < α.length := by rw [eα, List.length_map] at hl; exact hl
      have : coef G.p i = ((α[i] : Int) : Rat) := by
        rw [coef_in hl]
        simp only [eα, List.getElem_map]
      rw [et] at this
      rw [Rat.intCast_inj.mp this]
      exact all _ (List.getElem_mem hl')
    · rw [coef_out (by omega)] at et
      have : t = 0 := Rat.intCast_eq_zero_iff.mp et.symm
      rw [this]
      exact Int.dvd_zero _
end An

/-! How great the divisors of a polynomial of whole numbers can be. -/
namespace An
open PySem
def Ab (V x : Rat) : Prop := -V ≤ x ∧ x ≤ V
theorem Ab.mul {V W x y : Rat} (h : Ab V x) (k : Ab W y) : Ab (V * W) (x * y) := by
  obtain ⟨h1, h2⟩ := h
  obtain ⟨k1, k2⟩ := k
  have p1 := Rat.mul_nonneg (a := V - x) (b := W + y) (by grind) (by grind)
  have p2 := Rat.mul_nonneg (a := V + x) (b := W - y) (by grind) (by grind)
  have p3 := Rat.mul_nonneg (a := V - x) (b := W - y) (by grind) (by grind)
  have p4 := Rat.mul_nonneg (a := V + x) (b := W + y) (by grind) (by grind)
  constructor <;> grind
theorem Ab.add {V W x y : Rat} (h : Ab V x) (k : Ab W y) : Ab (V + W) (x + y) := by
  obtain ⟨h1, h2⟩ := h
  obtain ⟨k1, k2⟩ := k
  constructor <;> grind
theorem Ab.neg {V x : Rat} (h : Ab V x) : Ab V (-x) := by
  obtain ⟨h1, h2⟩ := h
  constructor <;> grind
theorem Ab.mono {V W x : Rat} (h : Ab V x) (k : V ≤ W) : Ab W x := by
  obtain ⟨h1, h2⟩ := h
  constructor <;> grind
theorem Ab.pos {V x : Rat} (h : Ab V x) : 0 ≤ V := by
  obtain ⟨h1, h2⟩ := h
  grind
theorem ab_int {n : Nat} {k : Int} (h : k.natAbs ≤ n) : Ab (n : Rat) (k : Rat) := by
  have h1 : -(n : Int) ≤ k := by omega
  have h2 : k ≤ (n : Int) := by omega
  constructor
  · rw [← Rat.intCast_natCast, ← Rat.intCast_neg]
    exact Rat.intCast_le_intCast.mpr h1
  · rw [← Rat.intCast_natCast]
    exact Rat.intCast_le_intCast.mpr h2
theorem ab_nat {n : Nat} {k : Int} (h : Ab (n : Rat) (k : Rat)) : k.natAbs ≤ n := by
  obtain ⟨h1, h2⟩ := h
  rw [← Rat.intCast_natCast] at h1 h2
  rw [← Rat.intCast_neg] at h1
  have q1 := Rat.intCast_le_intCast.mp h1
  have q2 := Rat.intCast_le_intCast.mp h2
  omega
/-- a whole number that isn't nought makes nothing less -/
theorem ab_div {W x : Rat} {d : Int} (hd : d ≠ 0) (h : Ab W ((d : Rat) * x)) : Ab W x := by
  obtain ⟨h1, h2⟩ := h
  rcases Int.lt_or_gt_of_ne hd with z | z
  · have e : (d : Rat) ≤ -1 := by
      have : ((-1 : Int) : Rat) = -1 := rfl
      rw [← this]
      exact Rat.intCast_le_intCast.mpr (by omega)
    rcases Rat.le_total (a := 0) (b := x) with q | q
    · have := Rat.mul_nonneg (a := -1 - (d : Rat)) (b := x) (by grind) q
      constructor <;> grind
    · have := Rat.mul_nonneg (a := -1 - (d : Rat)) (b := -x) (by grind) (by grind)
      constructor <;> grind
  · have e : 1 ≤ (d : Rat) := by
      have : ((1 : Int) : Rat) = 1 := rfl
      rw [← this]
      exact Rat.intCast_le_intCast.mpr (by omega)
    rcases Rat.le_total (a := 0) (b := x) with q | q
    · have := Rat.mul_nonneg (a := (d : Rat) - 1) (b := x) (by grind) q
      constructor <;> grind
    · have := Rat.mul_nonneg (a := (d : Rat) - 1) (b := -x) (by grind) (by grind)
      constructor <;> grind
def prv (p : Poly) : Nat → Rat
  | 0 => 0
  | i + 1 => coef p i
theorem coef_mul_lin (b : QX) (k : Rat) (i : Nat) : coef (b * lin k).p i = prv b.p i - k * coef b.p i := by
  have e : b * lin k = QX.X * b + -(QX.C k * b) := by
    have : lin k = QX.X - QX.C k := QX.extC fun i => by
      rw [coef_sub, coef_C]
      show coef [-k, 1] i = coef (mono 1 1).p i - _
      rw [coef_mono]
      match i with
      | 0 => show -k = _; rw [if_neg (by decide), if_pos rfl]; grind
      | 1 => show (1 : Rat) = _; rw [if_pos rfl, if_neg (by decide)]; grind
      | i + 2 => rw [if_neg (by omega), if_neg (by omega), coef_out (by simp)]; grind
    rw [this]
    grind
  rw [e, coef_add, coef_neg, coef_Cmul, coef_Xmul]
  cases i with
  | zero => show (0 : Rat) + _ = 0 - _; grind
  | succ i => show coef b.p i + _ = coef b.p i - _; grind
def pw19 : Nat → Rat
  | 0 => 1
  | n + 1 => 19 * pw19 n
theorem pw19_pos : ∀ n, 1 ≤ pw19 n
  | 0 => by show (1 : Rat) ≤ 1; grind
  | n + 1 => by
    have := pw19_pos n
    show 1 ≤ 19 * pw19 n
    grind
theorem coef_bound : ∀ (ks : List Int) (G : QX) (V : Rat), ks.Nodup → (∀ k ∈ ks, k.natAbs ≤ 8) → G.len ≤ ks.length → 0 ≤ V → (∀ k ∈ ks, Ab V (G.ev (k : Rat))) → ∀ i, Ab (V * pw19 ks.length) (coef G.p i)
  | [], G, V, _, _, hl, hV, _, i => by
    have h0 : G = 0 := len_zero.mp (by simpa using hl)
    rw [h0, qx_zero, coef_nil]
    show Ab (V * 1) 0
    constructor <;> grind
  | k :: ks, G, V, hn, hk, hl, hV, hv, i => by
    have hn' := List.nodup_cons.mp hn
    obtain ⟨b, e⟩ := root_dvd (a := G - QX.C (G.ev (k : Rat))) (x := (k : Rat)) (by rw [ev_sub, ev_C]; grind)
    have eG : G = QX.C (G.ev (k : Rat)) + b * lin (k : Rat) := by grind
    have hv0 := hv k List.mem_cons_self
    have hbl : b.len ≤ ks.length := by
      by_cases h0 : b = 0
      · rw [h0, len_zero.mpr rfl]; exact Nat.zero_le _
      · have h1 := len_mul h0 (lin_ne (k : Rat))
        rw [lin_len, ← e] at h1
        have h2 : (G - QX.C (G.ev (k : Rat))).len ≤ max G.len 1 := by
          refine Nat.le_trans (padd_len _ _) ?_
          have h3 := pscale_len (QX.C (G.ev (k : Rat))).p (-1)
          have h4 : (QX.C (G.ev (k : Rat))).p.length ≤ 1 := trim_len [_]
          have e1 : G.p.length = G.len := rfl
          omega
        have h3 := pos_len h0
        rw [List.length_cons] at hl
        omega
    have hb : ∀ j ∈ ks, Ab (2 * V) (b.ev (j : Rat)) := fun j hj => by
      have hjk : j - k ≠ 0 := fun z => hn'.1 (by rw [show k = j by omega]; exact hj)
      refine ab_div hjk ?_
      have h1 : G.ev (j : Rat) = G.ev (k : Rat) + b.ev (j : Rat) * ((j : Rat) - (k : Rat)) := by
        conv => lhs; rw [eG]
        rw [ev_add, ev_C, ev_mul, ev_lin]
      have h2 := hv j (List.mem_cons_of_mem _ hj)
      have h3 := h2.add hv0.neg
      rw [Rat.intCast_sub]
      have h4 : ((j : Rat) - (k : Rat)) * b.ev (j : Rat) = G.ev (j : Rat) + -G.ev (k : Rat) := by grind
      rw [h4]
      exact h3.mono (by grind)
    have ih := coef_bound ks b (2 * V) hn'.2 (fun j hj => hk j (List.mem_cons_of_mem _ hj)) hbl (by grind) hb
    have hkb : Ab 8 (k : Rat) := ab_int (hk k List.mem_cons_self)
    rw [eG, coef_add, coef_C, coef_mul_lin]
    have hp := pw19_pos ks.length
    have hW : 0 ≤ V * pw19 ks.length := Rat.mul_nonneg hV (by grind)
    have hW2 : V ≤ V * pw19 ks.length := by
      have := Rat.mul_nonneg (a := V) (b := pw19 ks.length - 1) hV (by grind)
      grind
    have c1 : Ab V (if i = 0 then G.ev (k : Rat) else 0) := by
      split
      · exact hv0
      · constructor <;> grind
    have c2 : Ab (2 * V * pw19 ks.length) (prv b.p i) := by
      cases i with
      | zero => show Ab _ 0; constructor <;> grind
      | succ i => exact ih i
    have c3 := hkb.mul (ih i)
    have c4 := c1.add (c2.add c3.neg)
    rw [show prv b.p i - (k : Rat) * coef b.p i = prv b.p i + -((k : Rat) * coef b.p i) by grind]
    refine c4.mono ?_
    show _ ≤ V * (19 * pw19 ks.length)
    grind
theorem ev_bound {n : Nat} {k : Int} (hk : k.natAbs ≤ 8) : ∀ (p : Poly), (∀ a ∈ p, Ab (n : Rat) a) → Ab ((9 ^ p.length * n : Nat) : Rat) (peval p (k : Rat))
  | [], _ => by
    show Ab _ 0
    have : (0 : Rat) ≤ ((9 ^ 0 * n : Nat) : Rat) := by
      rw [← Rat.intCast_natCast]
      have : ((0 : Int) : Rat) = 0 := rfl
      rw [← this]
      exact Rat.intCast_le_intCast.mpr (by omega)
    constructor
    · show -((9 ^ 0 * n : Nat) : Rat) ≤ 0
      grind
    · exact this
  | a :: p, h => by
    have ih := ev_bound hk p fun b hb => h b (List.mem_cons_of_mem _ hb)
    have h1 := (ih.mul (ab_int hk)).add (h a List.mem_cons_self)
    refine h1.mono ?_
    rw [← Rat.natCast_mul, ← Rat.natCast_add]
    rw [← Rat.intCast_natCast, ← Rat.intCast_natCast]
    refine Rat.intCast_le_intCast.mpr ?_
    have : n ≤ 9 ^ p.length * n := Nat.le_mul_of_pos_left _ (Nat.pow_pos (by decide))
    rw [List.length_cons, Nat.pow_succ]
    have e : 9 ^ p.length * 9 * n = 9 ^ p.length * n * 8 + 9 ^ p.length * n := by
      rw [Nat.mul_assoc, Nat.mul_comm 9 n, ← Nat.mul_assoc]
      omega
    omega
theorem ev_int {a : QX} (h : IntP a) (k : Int) : ∃ t : Int, a.ev (k : Rat) = (t : Rat) := by
  have : ∀ p : Poly, (∀ i, ∃ t : Int, coef p i = (t : Rat)) → ∃ t : Int, peval p (k : Rat) = (t : Rat) := fun p => by
    induction p with
    | nil => exact fun _ => ⟨0, rfl⟩
    | cons a p ih =>
      intro h
      obtain ⟨t, e⟩ := h 0
      obtain ⟨u, e2⟩ := ih fun i => by have := h (i + 1); rw [coef_succ] at this; exact this
      refine ⟨u * k + t, ?_⟩
      show peval p (k : Rat) * (k : Rat) + a = _
      rw [e2, show a = (t : Rat) from e, Rat.intCast_add, Rat.intCast_mul]
  exact this a.p h
theorem filter_sum {α : Type} (p : α → Bool) : ∀ l : List α, l.length = (l.filter p).length + (l.filter fun a => !p a).length
  | [] => rfl
  | a :: l => by
    have := filter_sum p l
    cases h : p a <;> simp [h] <;> omega
def nodes : List Int := [-8, -7, -6, -5, -4, -3, -2, -1, 0, 1, 2, 3, 4, 5, 6, 7, 8]
/-- a monic divisor of a polynomial of whole numbers of at most nine fractions -/
theorem div_bound {P g : QX} {n : Nat} (hP : ∀ i, ∃ t : Int, t.natAbs < 2 ^ n ∧ coef P.p i = (t : Rat)) (hl : P.len ≤ 9) (hP0 : P ≠ 0) (hg : Monic g) (hd : g.dvd P) : CZ (n + 67) g.p := by
  obtain ⟨c, c0, c1, c2⟩ := primitive g
  have hcr : (c : Rat) ≠ 0 := fun z => by
    have := Rat.natCast_eq_zero_iff.mp z
    omega
  have hG0 : QX.C (c : Rat) * g ≠ 0 := mul_ne (C_ne hcr) hg.1
  have hGl : (QX.C (c : Rat) * g).len = g.len := len_Cmul hcr g
  have top : coef (QX.C (c : Rat) * g).p (g.p.length - 1) = (c : Rat) := by
    rw [coef_Cmul]
    have : coef g.p (g.p.length - 1) = 1 := hg.2
    rw [this, Rat.mul_one]
  have hpr : ∀ q : Nat, 1 < q → ∃ i, ∀ t : Int, coef (QX.C (c : Rat) * g).p i = (t : Rat) → ¬ (q : Int) ∣ t := fun q hq => by
    by_cases hqc : q ∣ c
    · exact c2 q hq hqc
    · refine ⟨g.p.length - 1, fun t e z => hqc ?_⟩
      rw [top, ← Rat.intCast_natCast] at e
      rw [← Rat.intCast_inj.mp e] at z
      exact Int.natCast_dvd_natCast.mp z
  obtain ⟨h, e⟩ := hd
  have hcc : QX.C (1 / (c : Rat)) * QX.C (c : Rat) = 1 := by
    rw [← C_mul, Rat.div_mul_cancel hcr]
    rfl
  have eP : P = (QX.C (c : Rat) * g) * (QX.C (1 / (c : Rat)) * h) := by grind
  have hPi : IntP P := fun i => by
    obtain ⟨t, _, et⟩ := hP i
    exact ⟨t, et⟩
  have hH := gauss hPi c1 hpr eP
  generalize hGe : QX.C (c : Rat) * g = G at *
  generalize hHe : QX.C (1 / (c : Rat)) * h = H at *
  have hgl : g.len ≤ 9 := Nat.le_trans (dvd_len ⟨h, e⟩ hP0) hl
  -- places at which it is not nought
  let ks := (nodes.filter fun k : Int => decide (P.ev (k : Rat) ≠ 0)).take 9
  have ksub : ks.Sublist nodes := (List.take_sublist _ _).trans List.filter_sublist
  have knd : ks.Nodup := ksub.nodup (by decide)
  have k8 : ∀ k ∈ ks, k.natAbs ≤ 8 := fun k hk => by
    have := ksub.subset hk
    have h17 : ∀ k ∈ nodes, k.natAbs ≤ 8 := by decide
    exact h17 k this
  have knz : ∀ k ∈ ks, P.ev (k : Rat) ≠ 0 := fun k hk => by
    have := List.mem_of_mem_take hk
    have := (List.mem_filter.mp this).2
    exact of_decide_eq_true this
  have klen : ks.length = 9 := by
    have hz : (nodes.filter fun k : Int => !decide (P.ev (k : Rat) ≠ 0)).length < P.len := by
      refine Nat.lt_of_not_le fun z => hP0 ?_
      refine roots_zero ((nodes.filter fun k : Int => !decide (P.ev (k : Rat) ≠ 0)).map fun k : Int => (k : Rat)) P ?_ (fun x hx => ?_) (by rw [List.length_map]; exact z)
      · refine List.Pairwise.map (R := fun a b : Int => a ≠ b) _ (fun a b hab z => hab (Rat.intCast_inj.mp z)) ?_
        exact (List.filter_sublist).nodup (by decide)
      · obtain ⟨k, hk, rfl⟩ := List.mem_map.mp hx
        have := (List.mem_filter.mp hk).2
        simpa using this
    have hsum := filter_sum (fun k : Int => decide (P.ev (k : Rat) ≠ 0)) nodes
    have h17 : nodes.length = 17 := rfl
    show ((nodes.filter _).take 9).length = 9
    rw [List.length_take]
    omega
  have hcoef : ∀ a ∈ P.p, Ab ((2 ^ n : Nat) : Rat) a := fun a ha => by
    obtain ⟨i, hi, rfl⟩ := List.getElem_of_mem ha
    obtain ⟨t, t1, t2⟩ := hP i
    rw [coef_in hi] at t2
    rw [t2]
    exact ab_int (Nat.le_of_lt t1)
  have hV : ∀ k ∈ ks, Ab ((9 ^ 9 * 2 ^ n : Nat) : Rat) (G.ev (k : Rat)) := fun k hk => by
    obtain ⟨u, eu⟩ := ev_int c1 k
    obtain ⟨v, ev⟩ := ev_int hH k
    have h1 := ev_bound (k8 k hk) P.p hcoef
    have h2 : P.ev (k : Rat) = ((u * v : Int) : Rat) := by
      rw [eP, ev_mul, eu, ev, Rat.intCast_mul]
    have h3 : peval P.p (k : Rat) = ((u * v : Int) : Rat) := h2
    rw [h3] at h1
    have h4 := ab_nat h1
    have h5 : u * v ≠ 0 := fun z => knz k hk (by rw [h2, z]; rfl)
    have h6 : v ≠ 0 := fun z => h5 (by rw [z, Int.mul_zero])
    rw [eu]
    refine ab_int (Nat.le_trans ?_ (Nat.le_trans h4 (Nat.mul_le_mul_right _ (Nat.pow_le_pow_right (by decide) (show P.p.length ≤ 9 from hl)))))
    rw [Int.natAbs_mul]
    exact Nat.le_mul_of_pos_right _ (by omega)
  have hVp : (0 : Rat) ≤ ((9 ^ 9 * 2 ^ n : Nat) : Rat) := (hV _ (List.getElem_mem (show 0 < ks.length by omega))).pos
  have hb := coef_bound ks G _ knd k8 (by rw [hGl, klen]; exact hgl) hVp hV
  rw [klen] at hb
  have hlim : 9 ^ 9 * 2 ^ n * 19 ^ 9 < 2 ^ (n + 67) := by
    rw [Nat.pow_add, show 9 ^ 9 * 2 ^ n * 19 ^ 9 = 2 ^ n * (9 ^ 9 * 19 ^ 9) by rw [Nat.mul_comm (9 ^ 9), Nat.mul_assoc]]
    exact Nat.mul_lt_mul_of_pos_left (by decide) (Nat.pow_pos (by decide))
  have sz : ∀ i t, coef G.p i = ((t : Int) : Rat) → t.natAbs < 2 ^ (n + 67) := fun i t et => by
    have h1 := hb i
    rw [et] at h1
    have e19 : pw19 9 = ((19 ^ 9 : Nat) : Rat) := by decide +kernel
    rw [e19, ← Rat.natCast_mul] at h1
    exact Nat.lt_of_le_of_lt (ab_nat h1) hlim
  refine ⟨(c : Int), by omega, ?_, fun i => ?_⟩
  · exact sz (g.p.length - 1) (c : Int) (by rw [top, Rat.intCast_natCast])
  · obtain ⟨t, et⟩ := c1 i
    refine ⟨t, sz i t et, ?_⟩
    rw [← et, ← hGe, coef_Cmul, Rat.intCast_natCast, Rat.mul_comm]
end An

/-! The parts of a polynomial. -/
namespace An
open PySem
theorem fprod_dvd (F : Fac) {e : Nat → Nat} (h : ∀ m, e m ≤ m) : (fprod e F).dvd (fprod id F) := by
  refine ⟨fprod (fun m => m - e m) F, ?_⟩
  rw [← fprod_mul]
  refine fprod_congr fun q hq => ?_
  have := h q.2
  show q.2 = e q.2 + (q.2 - e q.2)
  omega
theorem fprod_len {F : Fac} (hF : FacOk F) {e : Nat → Nat} (h : ∀ m, e m ≤ m) : (fprod e F).len ≤ (fprod id F).len := dvd_len (fprod_dvd F h) (fprod_monic hF.mon id).1
theorem fprod_zero {F : Fac} {e : Nat → Nat} (h : ∀ q ∈ F, e q.2 = 0) : fprod e F = 1 := by
  induction F with
  | nil => rfl
  | cons q F ih =>
    obtain ⟨f, m⟩ := q
    show f ^ e m * fprod e F = 1
    rw [ih fun p hp => h p (List.mem_cons_of_mem _ hp), show e m = 0 from h (f, m) List.mem_cons_self]
    grind
theorem fprod_dvd_at {F : Fac} {q : QX × Nat} {e : Nat → Nat} (hq : q ∈ F) (h : e q.2 = 1) : q.1.dvd (fprod e F) := by
  induction F with
  | nil => cases hq
  | cons p F ih =>
    obtain ⟨f, m⟩ := p
    rcases List.mem_cons.mp hq with z | z
    · subst z
      have h : e m = 1 := h
      exact ⟨fprod e F, by show f ^ e m * fprod e F = _; rw [h]; grind⟩
    · exact dvd_mul _ (ih z)
theorem one_len : (1 : QX).len = 1 := by
  show (1 : QX).p.length = 1
  rw [qx_one]
  rfl
theorem fprod_one_len {F : Fac} {e : Nat → Nat} (h : 1 < (fprod e F).len) : ∃ q ∈ F, e q.2 ≠ 0 := by
  refine Classical.byContradiction fun z => ?_
  have : fprod e F = 1 := fprod_zero fun q hq => Classical.byContradiction fun y => z ⟨q, hq, y⟩
  rw [this, one_len] at h
  omega
theorem one_le (j : Nat) (hj : 1 ≤ j) : ∀ m, oneAt j m ≤ m := fun m => by unfold oneAt; split <;> omega
theorem just_le (j : Nat) (hj : 1 ≤ j) : ∀ m, justAt j m ≤ m := fun m => by unfold justAt; split <;> omega
theorem left_le (j : Nat) : ∀ m, leftAt j m ≤ m := fun m => Nat.sub_le m j
/-- a part as data -/
def ePt (F : Fac) (j : Nat) : D := .tuple [.int (j : Nat), eP (fprod (justAt j) F).p]
/-- the parts met ahead of j times -/
def ptsTo (F : Fac) : Nat → List D
  | 0 => []
  | j + 1 => ptsTo F j ++ (if 1 < (fprod (justAt (j + 1)) F).len then [ePt F (j + 1)] else [])
theorem ptsTo_more {F : Fac} {M : Nat} (h : ∀ q ∈ F, q.2 ≤ M) : ∀ k, ptsTo F (M + k) = ptsTo F M
  | 0 => rfl
  | k + 1 => by
    show ptsTo F (M + k) ++ (if 1 < (fprod (justAt (M + k + 1)) F).len then [ePt F (M + k + 1)] else []) = _
    have : fprod (justAt (M + k + 1)) F = 1 := fprod_zero fun q hq => by
      have := h q hq
      unfold justAt
      rw [if_neg (by omega)]
    rw [ptsTo_more h k, this, one_len, if_neg (by decide), List.append_nil]
theorem ptsTo_len (F : Fac) : ∀ j, (ptsTo F j).length ≤ j
  | 0 => Nat.le_refl _
  | j + 1 => by
    have := ptsTo_len F j
    show (ptsTo F j ++ _).length ≤ _
    rw [List.length_append]
    split
    · show _ + 1 ≤ _; omega
    · show _ + 0 ≤ _; omega
theorem cz_pder {p : Poly} {n : Nat} (h : CZ n p) (hl : p.length ≤ 16) : CZ (n + 4) (pder p) := by
  obtain ⟨d, d0, d1, hd⟩ := h
  refine ⟨d, d0, Nat.lt_of_lt_of_le d1 (Nat.pow_le_pow_right (by decide) (Nat.le_add_right _ _)), fun i => ?_⟩
  rw [coef_pder]
  by_cases hi : i + 1 < p.length
  · obtain ⟨t, t1, t2⟩ := hd (i + 1)
    refine ⟨t * ((i + 1 : Nat) : Int), natAbs_mul_lt t1 (by rw [Int.natAbs_natCast]; show i + 1 < 16; omega), ?_⟩
    rw [Rat.intCast_mul, ← t2, Rat.intCast_natCast]
    grind
  · refine ⟨0, Nat.pow_pos (by decide), ?_⟩
    rw [coef_out (by omega)]
    grind
structure PaOk (p : QX) (F : Fac) (n M L : Nat) : Prop where
  ne : p ≠ 0
  len : p.len ≤ L
  ten : L ≤ 10
  fac : FacOk F
  mul : ∀ q ∈ F, 1 ≤ q.2 ∧ q.2 ≤ M ∧ 1 < q.1.len
  eq : p = QX.C (lc p.p) * fprod id F
  sz : CZ n p.p
  szs : ∀ e : Nat → Nat, (∀ m, e m ≤ m) → CZ n (fprod e F).p
  most : M ≤ 20
  lim : 23 * gz (n + 4) L + 44 ≤ LIM
theorem PaOk.mon {p : QX} {F : Fac} {n M L : Nat} (h : PaOk p F n M L) : qmon p = fprod id F := by
  have hl := lc_ne p.own (ne_zero.mp h.ne)
  have hc : QX.C (1 / lc p.p) * QX.C (lc p.p) = 1 := by
    rw [← C_mul, Rat.div_mul_cancel hl]
    rfl
  rw [qmon_eq]
  have e := h.eq
  generalize lc p.p = c at *
  rw [e]
  grind
theorem PaOk.plen {p : QX} {F : Fac} {n M L : Nat} (h : PaOk p F n M L) : (fprod id F).len = p.len := by
  have hl := lc_ne p.own (ne_zero.mp h.ne)
  conv => rhs; rw [h.eq]
  rw [len_Cmul hl]
def vParts (ds : List D) (d : D) : Prop := ∃ (p : QX) (F : Fac) (n M L : Nat), ds = [eP p.p] ∧ PaOk p F n M L ∧ d = .list (ptsTo F M)
end An

/-! What the parts multiply to; parts of squares; factors' sizes. -/
namespace An
open PySem
theorem qpow_mul (a b : QX) : ∀ n : Nat, (a * b) ^ n = a ^ n * b ^ n
  | 0 => by grind
  | n + 1 => by
    rw [show (a * b) ^ (n + 1) = (a * b) ^ n * (a * b) by grind, qpow_mul a b n]
    grind
theorem qpow_pow (a : QX) (m : Nat) : ∀ n : Nat, (a ^ m) ^ n = a ^ (m * n)
  | 0 => by rw [Nat.mul_zero]; grind
  | n + 1 => by
    rw [show (a ^ m) ^ (n + 1) = (a ^ m) ^ n * a ^ m by grind, qpow_pow a m n, Nat.mul_succ, Lean.Grind.Semiring.pow_add]
theorem fprod_pow (e : Nat → Nat) (k : Nat) : ∀ F : Fac, (fprod e F) ^ k = fprod (fun m => e m * k) F
  | [] => by
    show (1 : QX) ^ k = 1
    exact Lean.Grind.Semiring.one_pow k
  | (f, m) :: F => by
    show (f ^ e m * fprod e F) ^ k = f ^ (e m * k) * fprod (fun m => e m * k) F
    rw [qpow_mul, qpow_pow, fprod_pow e k F]
/-- the parts as factors -/
def ptF (F : Fac) : Nat → Fac
  | 0 => []
  | j + 1 => ptF F j ++ (if 1 < (fprod (justAt (j + 1)) F).len then [(fprod (justAt (j + 1)) F, j + 1)] else [])
theorem ptsTo_ptF (F : Fac) : ∀ j, ptsTo F j = (ptF F j).map fun q => .tuple [.int (q.2 : Nat), eP q.1.p]
  | 0 => rfl
  | j + 1 => by
    show ptsTo F j ++ _ = (ptF F j ++ _).map _
    rw [ptsTo_ptF F j, List.map_append]
    congr 1
    split <;> rfl
theorem fprod_append (A B : Fac) : fprod id (A ++ B) = fprod id A * fprod id B := by
  induction A with
  | nil => show _ = (1 : QX) * _; grind
  | cons q A ih =>
    obtain ⟨f, m⟩ := q
    show f ^ m * fprod id (A ++ B) = (f ^ m * fprod id A) * fprod id B
    rw [ih]
    grind
theorem fprod_ptF {F : Fac} (h : FacOk F) : ∀ j, fprod id (ptF F j) = fprod (fun m => if m ≤ j then m else 0) F
  | 0 => by
    show (1 : QX) = _
    rw [fprod_zero]
    intro q hq
    show (if q.2 ≤ 0 then q.2 else 0) = 0
    split <;> omega
  | j + 1 => by
    show fprod id (ptF F j ++ _) = _
    rw [fprod_append, fprod_ptF h j]
    have e : fprod (fun m => if m ≤ j + 1 then m else 0) F = fprod (fun m => if m ≤ j then m else 0) F * (fprod (justAt (j + 1)) F) ^ (j + 1) := by
      rw [fprod_pow, ← fprod_mul]
      refine fprod_congr fun q hq => ?_
      show (if q.2 ≤ j + 1 then q.2 else 0) = (if q.2 ≤ j then q.2 else 0) + justAt (j + 1) q.2 * (j + 1)
      unfold justAt
      by_cases a : q.2 ≤ j
      · rw [if_pos (by omega), if_pos a, if_neg (by omega)]
        omega
      · by_cases b : q.2 = j + 1
        · rw [if_pos (by omega), if_neg a, if_pos b]
          omega
        · rw [if_neg (by omega), if_neg a, if_neg b]
          omega
    rw [e]
    congr 1
    by_cases hl : 1 < (fprod (justAt (j + 1)) F).len
    · rw [if_pos hl]
      show fprod (justAt (j + 1)) F ^ (j + 1) * 1 = _
      grind
    · rw [if_neg hl]
      have hm := fprod_monic h.mon (justAt (j + 1))
      have := pos_len hm.1
      have h1 := monic_len1 hm (by omega)
      rw [h1]
      show (1 : QX) = 1 ^ (j + 1)
      exact (Lean.Grind.Semiring.one_pow _).symm
theorem fprod_ptF_all {F : Fac} (h : FacOk F) {M : Nat} (hM : ∀ q ∈ F, q.2 ≤ M) : fprod id (ptF F M) = fprod id F := by
  rw [fprod_ptF h]
  refine fprod_congr fun q hq => ?_
  show (if q.2 ≤ M then q.2 else 0) = q.2
  rw [if_pos (hM q hq)]
theorem ptF_mem {F : Fac} {q : QX × Nat} : ∀ {j : Nat}, q ∈ ptF F j → q.1 = fprod (justAt q.2) F ∧ 1 ≤ q.2 ∧ q.2 ≤ j ∧ 1 < q.1.len
  | 0, h => nomatch h
  | j + 1, h => by
    have h : q ∈ ptF F j ++ _ := h
    rcases List.mem_append.mp h with z | z
    · obtain ⟨h1, h2, h3, h4⟩ := ptF_mem z
      exact ⟨h1, h2, by omega, h4⟩
    · split at z
      · rename_i hl
        rw [List.mem_singleton.mp z]
        exact ⟨rfl, by show 1 ≤ j + 1; omega, Nat.le_refl _, hl⟩
      · cases z
theorem ptF_len (F : Fac) : ∀ j, (ptF F j).length ≤ j
  | 0 => Nat.le_refl _
  | j + 1 => by
    have := ptF_len F j
    show (ptF F j ++ _).length ≤ _
    rw [List.length_append]
    split
    · show _ + 1 ≤ _; omega
    · show _ + 0 ≤ _; omega
/-! ### squares -/
def dbl (F : Fac) : Fac := F.map fun q => (q.1, 2 * q.2)
theorem fprod_dbl (e : Nat → Nat) : ∀ F : Fac, fprod e (dbl F) = fprod (fun m => e (2 * m)) F
  | [] => rfl
  | (f, m) :: F => by
    show f ^ e (2 * m) * fprod e (dbl F) = _
    rw [fprod_dbl e F]
    rfl
theorem dbl_ok {F : Fac} (h : FacOk F) : FacOk (dbl F) where
  mon := fun q hq => by
    obtain ⟨p, hp, rfl⟩ := List.mem_map.mp hq
    exact h.mon p hp
  sf := fun q hq => by
    obtain ⟨p, hp, rfl⟩ := List.mem_map.mp hq
    exact h.sf p hp
  cop := List.pairwise_map.mpr h.cop
theorem fprod_sq (F : Fac) : fprod id (dbl F) = fprod id F * fprod id F := by
  rw [fprod_dbl, ← fprod_mul]
  refine fprod_congr fun q hq => ?_
  show 2 * q.2 = q.2 + q.2
  omega
theorem ptF_dbl (F : Fac) : ∀ j, ptF (dbl F) (2 * j) = dbl (ptF F j)
  | 0 => rfl
  | j + 1 => by
    have e1 : fprod (justAt (2 * j + 1)) (dbl F) = 1 := by
      rw [fprod_dbl]
      refine fprod_zero fun q hq => ?_
      show (if 2 * q.2 = 2 * j + 1 then 1 else 0) = 0
      rw [if_neg (by omega)]
    have e2 : fprod (justAt (2 * j + 1 + 1)) (dbl F) = fprod (justAt (j + 1)) F := by
      rw [fprod_dbl]
      refine fprod_congr fun q hq => ?_
      show (if 2 * q.2 = 2 * j + 1 + 1 then 1 else 0) = (if q.2 = j + 1 then 1 else 0)
      by_cases a : q.2 = j + 1
      · rw [if_pos (by omega), if_pos a]
      · rw [if_neg (by omega), if_neg a]
    rw [show 2 * (j + 1) = 2 * j + 1 + 1 by omega]
    show (ptF (dbl F) (2 * j) ++ (if 1 < (fprod (justAt (2 * j + 1)) (dbl F)).len then [(fprod (justAt (2 * j + 1)) (dbl F), 2 * j + 1)] else [])) ++ (if 1 < (fprod (justAt (2 * j + 1 + 1)) (dbl F)).len then [(fprod (justAt (2 * j + 1 + 1)) (dbl F), 2 * j + 1 + 1)] else []) = dbl (ptF F j ++ (if 1 < (fprod (justAt (j + 1)) F).len then [(fprod (justAt (j + 1)) F, j + 1)] else []))
    rw [e1, e2, one_len, if_neg (by decide), List.append_nil, ptF_dbl F j]
    unfold dbl
    rw [List.map_append]
    congr 1
    split
    · show [_] = [_]
      congr 2
    · rfl
/-! ### sizes of the law's factors -/
def sumE (e : Nat → Nat) : Fac → Nat
  | [] => 0
  | (_, m) :: F => e m + sumE e F
theorem cz_powm {f g : QX} {n : Nat} (hf : CZ 2 f.p) (hl : f.len ≤ 3) (hg : CZ n g.p) : ∀ k : Nat, CZ (n + 4 * k) (f ^ k * g).p
  | 0 => by
    rw [show f ^ 0 * g = g by grind]
    exact hg.mono (by omega)
  | k + 1 => by
    rw [show f ^ (k + 1) * g = f * (f ^ k * g) by grind]
    exact (cz_pmul hf (cz_powm hf hl hg k) (show f.p.length < 2 ^ 2 from Nat.lt_of_le_of_lt hl (by decide))).mono (by omega)
theorem cz_fprod {e : Nat → Nat} : ∀ F : Fac, (∀ q ∈ F, CZ 2 q.1.p ∧ q.1.len ≤ 3) → CZ (1 + 4 * sumE e F) (fprod e F).p
  | [], _ => by
    show CZ _ (1 : QX).p
    rw [qx_one]
    exact (cz_one rz_one).mono (by omega)
  | (f, m) :: F, h => by
    have ih := cz_fprod (e := e) F fun q hq => h q (List.mem_cons_of_mem _ hq)
    obtain ⟨h1, h2⟩ := h (f, m) List.mem_cons_self
    refine (cz_powm h1 h2 ih (e m)).mono ?_
    show _ ≤ 1 + 4 * (e m + sumE e F)
    omega
theorem sumE_le {e : Nat → Nat} (h : ∀ m, e m ≤ m) : ∀ F : Fac, sumE e F ≤ sumE id F
  | [] => Nat.le_refl _
  | (f, m) :: F => by
    have := sumE_le h F
    have := h m
    show e m + sumE e F ≤ m + sumE id F
    omega
theorem pow_len_ge {f : QX} (hf : Monic f) (h1 : 1 < f.len) : ∀ k : Nat, k + 1 ≤ (f ^ k).len
  | 0 => by rw [show f ^ 0 = (1 : QX) by grind, one_len]; exact Nat.le_refl _
  | k + 1 => by
    rw [show f ^ (k + 1) = f ^ k * f by grind, len_mul (monic_pow hf k).1 hf.1]
    have := pow_len_ge hf h1 k
    omega
theorem sumE_len : ∀ {F : Fac}, (∀ q ∈ F, Monic q.1 ∧ 1 < q.1.len) → sumE id F + 1 ≤ (fprod id F).len
  | [], _ => by show 1 ≤ (1 : QX).len; rw [one_len]; exact Nat.le_refl _
  | (f, m) :: F, h => by
    have ih := sumE_len (F := F) fun q hq => h q (List.mem_cons_of_mem _ hq)
    obtain ⟨h1, h2⟩ := h (f, m) List.mem_cons_self
    have hF : Monic (fprod id F) := fprod_monic (fun q hq => (h q (List.mem_cons_of_mem _ hq)).1) id
    show m + sumE id F + 1 ≤ (f ^ m * fprod id F).len
    rw [len_mul (monic_pow h1 m).1 hF.1]
    have := pow_len_ge h1 h2 m
    omega
end An
namespace An
open PySem
/-- parts of a polynomial that a whole number makes whole -/
theorem pa_mk {p : QX} {F : Fac} {M L n : Nat} {c : Int} (hc : c ≠ 0) (hcn : c.natAbs < 2 ^ n) (hP : ∀ i, ∃ t : Int, t.natAbs < 2 ^ n ∧ coef p.p i * (c : Rat) = (t : Rat)) (hp : p ≠ 0) (hl : p.len ≤ L) (hL : L ≤ 9) (hF : FacOk F) (hm : ∀ q ∈ F, 1 ≤ q.2 ∧ 1 < q.1.len) (heq : p = QX.C (lc p.p) * fprod id F) (hM : p.len ≤ M + 1) (hM2 : M ≤ 20) (hlim : 23 * gz (n + 67 + 4) L + 44 ≤ LIM) : PaOk p F (n + 67) M L := by
  have hl0 := lc_ne p.own (ne_zero.mp hp)
  have hmonF := fprod_monic hF.mon id
  have hlen : (fprod id F).len = p.len := by
    conv => rhs; rw [heq]
    rw [len_Cmul hl0]
  have hcr : (c : Rat) ≠ 0 := fun z => hc (Rat.intCast_eq_zero_iff.mp z)
  have hPP : ∀ i, ∃ t : Int, t.natAbs < 2 ^ n ∧ coef (QX.C (c : Rat) * p).p i = (t : Rat) := fun i => by
    obtain ⟨t, t1, t2⟩ := hP i
    exact ⟨t, t1, by rw [coef_Cmul, Rat.mul_comm]; exact t2⟩
  refine ⟨hp, hl, by omega, hF, fun q hq => ⟨(hm q hq).1, ?_, (hm q hq).2⟩, heq, ?_, fun e he => ?_, hM2, hlim⟩
  · have hs := sumE_len (F := F) fun q hq => ⟨hF.mon q hq, (hm q hq).2⟩
    have : ∀ F : Fac, q ∈ F → q.2 ≤ sumE id F := fun F => by
      induction F with
      | nil => intro h; cases h
      | cons p F ih =>
        intro h
        obtain ⟨f, m⟩ := p
        show q.2 ≤ m + sumE id F
        rcases List.mem_cons.mp h with z | z
        · rw [z]; exact Nat.le_add_right _ _
        · have := ih z; omega
    have := this F hq
    omega
  · exact ⟨c, hc, Nat.lt_of_lt_of_le hcn (Nat.pow_le_pow_right (by decide) (Nat.le_add_right _ _)), fun i => by
      obtain ⟨t, t1, t2⟩ := hP i
      exact ⟨t, Nat.lt_of_lt_of_le t1 (Nat.pow_le_pow_right (by decide) (Nat.le_add_right _ _)), t2⟩⟩
  · refine div_bound (P := QX.C (c : Rat) * p) hPP (by rw [len_Cmul hcr]; omega) (mul_ne (C_ne hcr) hp) (fprod_monic hF.mon e) ?_
    refine dvd_trans (fprod_dvd F he) ?_
    refine ⟨QX.C (c : Rat) * QX.C (lc p.p), ?_⟩
    conv => lhs; rw [heq]
    grind
/-- the factors of any polynomial -/
theorem pa_fac {p : QX} (hp : p ≠ 0) : ∃ F : Fac, FacOk F ∧ (∀ q ∈ F, 1 ≤ q.2 ∧ 1 < q.1.len) ∧ p = QX.C (lc p.p) * fprod id F := by
  obtain ⟨F, h1, h2, h3⟩ := factors (qmon p).len (qmon p) (Nat.le_refl _) (qmon_monic hp)
  refine ⟨F, h1, fun q hq => ⟨(h2 q hq).1, (h2 q hq).2.len⟩, ?_⟩
  have hl := lc_ne p.own (ne_zero.mp hp)
  rw [h3, qmon_eq]
  have hc : QX.C (lc p.p) * QX.C (1 / lc p.p) = 1 := by
    rw [← C_mul, Rat.mul_comm, Rat.div_mul_cancel hl]
    rfl
  generalize QX.C (lc p.p) = a at *
  generalize QX.C (1 / lc p.p) = b at *
  grind
theorem lc_Cmon {c : Rat} (hc : c ≠ 0) {a : QX} (ha : Monic a) : lc (QX.C c * a).p = c := by
  rw [lc_Cmul hc ha.1, ha.2, Rat.mul_one]
/-- parts of a square -/
theorem pa_sq {p : QX} {F : Fac} (h : FacOk F) (heq : p = QX.C (lc p.p) * fprod id F) (hp : p ≠ 0) : p * p = QX.C (lc (p * p).p) * fprod id (dbl F) := by
  rw [lc_mul hp hp, C_mul, fprod_sq]
  conv => lhs; rw [heq]
  grind
end An

/-! A dict whose keys and values are fractions. -/
namespace An
open PySem PySem.Spec PyProof.Rows L2
/-- the thing at a is just this object -/
def ObO (a : Addr) (o : Obj) : HO := .ext fun h => h.get? a = some o
theorem obo_get {P : Program} {w : World} {H : Hp} {h : Heap} {a : Addr} {o : Obj} (ok : HOk P w H h) (e : H a = some (ObO a o)) : h.get? a = some o := (ok a _ e).1
theorem obo_ok {P : Program} {w : World} {H : Hp} {h : Heap} {a : Addr} {o : Obj} (e : h.get? a = some o) : ObjOk P w H h a (ObO a o) := ⟨e, ⟨o, e⟩, fun h1 h2 f k => k o f⟩
theorem obo_mut {a : Addr} {o : Obj} (h : ∃ es ep, o.data = .dict es ep) : MutO (ObO a o) := fun c q e => by
  obtain ⟨es, ep, hd⟩ := h
  unfold LamX.CodeO at e
  injection e with e
  have all : ∀ (n b : Nat) (x : Obj), Heap.get? ⟨Array.replicate n o, {}⟩ b = some x → x = o := fun n b x hx => by
    unfold Heap.get? at hx
    split at hx
    · cases hx
    · simp only [Array.getElem?_replicate] at hx
      split at hx
      · exact (Option.some.inj hx).symm
      · cases hx
  have h1 : Heap.get? ⟨Array.replicate (a + 1) o, {}⟩ a = some o := by
    unfold Heap.get?
    simp only [Array.getElem?_replicate, if_pos (Nat.lt_succ_self a)]
    split
    · rename_i z
      injection z with z
      rw [z] at hd
      cases hd
    · rfl
  have h2 := congrFun e ⟨Array.replicate (a + 1) o, {}⟩
  rw [h2] at h1
  obtain ⟨oc, vs, t, g1, g2, _⟩ := h1
  rw [all _ _ _ g1, hd] at g2
  cases g2
def fkey (q : Rat) : List Key := [.inl q.num, .inl (q.den : Nat)]
theorem fkey_inj {a b : Rat} (h : fkey a = fkey b) : a = b := by
  unfold fkey at h
  injection h with h1 h2
  injection h2 with h2 _
  injection h1 with h1
  injection h2 with h2
  exact Rat.ext h1 (by omega)
theorem sqt_frac {K : PySem.W.Frag} {H : Hp} {v : V} {q : Rat} (h : Dt K H v (eF q)) : ∃ b, v = .ref b ∧ SqT K H b ((fkey q).map kV) := by
  unfold eF at h
  cases h with
  | tup h1 h2 =>
    cases h2 with
    | cons e1 t =>
      cases t with
      | cons e2 t =>
        cases t
        cases e1
        cases e2
        exact ⟨_, rfl, h1⟩
theorem dt_frac {K : PySem.W.Frag} {H : Hp} {b : Addr} {q : Rat} (h : SqT K H b ((fkey q).map kV)) : Dt K H (.ref b) (eF q) := .tup h (.cons (.int _) (.cons (.int _) .nil))
abbrev DX := List (List Key × Addr × Value)
/-- the object is a dict of these entries -/
def DicO (P : Program) (w : World) (o : Obj) (xs : DX) : Prop := ∃ es ep, o.ExactDict ∧ o.data = .dict es ep ∧ es.toList = xs.map (entryOfKey (tupleKind (mixKind P w)))
/-- entries stand for pairs of fractions -/
def DicR (K : PySem.W.Frag) (H : Hp) : List (Rat × Rat) → DX → Prop := Paired fun p q => q.1 = fkey p.1 ∧ SqT K H q.2.1 (q.1.map kV) ∧ ∃ v, RelV v q.2.2 ∧ Dt K H v (eF p.2)
theorem DicR.keep {K : PySem.W.Frag} {H H' : Hp} {kvs : List (Rat × Rat)} {xs : DX} (r : DicR K H kvs xs) (k : Keep H H') : DicR K H' kvs xs := Paired.mapP r fun _ _ ⟨h1, h2, v, h3, h4⟩ => ⟨h1, sqt_keep k h2, v, h3, dp_keep k _ _ h4⟩
def dicAt (P : Program) (w : World) (kvs : List (Rat × Rat)) (K : PySem.W.Frag) (a : Addr) (H Hd : Hp) : Prop := ∃ o xs, (a == sysModules) = false ∧ H a = some (ObO a o) ∧ DicO P w o xs ∧ DicR K Hd kvs xs ∧ (xs.map (·.1)).Nodup
def dicB (P : Program) (w : World) (kvs : List (Rat × Rat)) : Bx where
  at_ := fun K v fs H Hd => ∃ a, v = .ref a ∧ fs = [a] ∧ dicAt P w kvs K a H Hd
  keep := fun {K v fs H Hd H' Hd'} ⟨a, e, ef, o, xs, h1, h2, h3, h4, h5⟩ hf hk => ⟨a, e, ef, o, xs, h1, by rw [hf a (by rw [ef]; exact List.mem_singleton.mpr rfl)]; exact h2, h3, h4.keep hk, h5⟩
def dicF (P : Program) (w : World) (kvs : List (Rat × Rat)) : Fix where
  at_ := fun K v H => ∃ a, v = .ref a ∧ dicAt P w kvs K a H H
  keep := fun {K v H H'} ⟨a, e, o, xs, h1, h2, h3, h4, h5⟩ hk => ⟨a, e, o, xs, h1, hk a _ h2 (fun _ z => nomatch z), h3, h4.keep hk, h5⟩
/-! ### pairs of fractions -/
def lookF (kvs : List (Rat × Rat)) (x : Rat) : Option Rat := (kvs.find? fun p => decide (p.1 = x)).map (·.2)
def putF (kvs : List (Rat × Rat)) (x y : Rat) : List (Rat × Rat) := if (lookF kvs x).isSome then kvs.map fun p => if p.1 = x then (p.1, y) else p else kvs ++ [(x, y)]
theorem lookF_mem {kvs : List (Rat × Rat)} {p : Rat × Rat} (h : p ∈ kvs) (nd : (kvs.map (·.1)).Nodup) : lookF kvs p.1 = some p.2 := by
  induction kvs with
  | nil => cases h
  | cons q r ih =>
    rw [List.map_cons, List.nodup_cons] at nd
    unfold lookF
    rw [List.find?_cons]
    rcases List.mem_cons.mp h with e | e
    · subst e
      rw [decide_eq_true rfl]
      rfl
    · have ne : q.1 ≠ p.1 := fun z => nd.1 (by rw [z]; exact List.mem_map.mpr ⟨p, e, rfl⟩)
      rw [decide_eq_false ne]
      exact ih e nd.2
theorem lookF_none {kvs : List (Rat × Rat)} {x : Rat} (h : (lookF kvs x).isSome = false) : x ∉ kvs.map (·.1) := fun z => by
  obtain ⟨p, hp, e⟩ := List.mem_map.mp z
  unfold lookF at h
  rw [Option.isSome_map] at h
  have : (kvs.find? fun p => decide (p.1 = x)).isSome = true := List.find?_isSome.mpr ⟨p, hp, decide_eq_true e⟩
  rw [h] at this
  cases this
theorem putF_nodup {kvs : List (Rat × Rat)} {x y : Rat} (nd : (kvs.map (·.1)).Nodup) : ((putF kvs x y).map (·.1)).Nodup := by
  unfold putF
  by_cases h : (lookF kvs x).isSome = true
  · rw [if_pos h, List.map_map]
    have : (fun p : Rat × Rat => p.1) ∘ (fun p => if p.1 = x then (p.1, y) else p) = fun p => p.1 := by
      funext p
      show (if p.1 = x then (p.1, y) else p).1 = p.1
      split <;> rfl
    rw [this]
    exact nd
  · rw [if_neg h, List.map_append]
    have hn := lookF_none (kvs := kvs) (x := x) (by simpa using h)
    exact List.nodup_append.mpr ⟨nd, by simp, fun a ha b hb e => hn (by
      have : b = x := by simpa using hb
      rw [← this, ← e]
      exact ha)⟩
theorem putF_len (kvs : List (Rat × Rat)) (x y : Rat) : (putF kvs x y).length ≤ kvs.length + 1 := by
  unfold putF
  split
  · rw [List.length_map]; omega
  · rw [List.length_append]; exact Nat.le_refl _
theorem putF_ne (kvs : List (Rat × Rat)) (x y : Rat) : putF kvs x y ≠ [] := by
  unfold putF
  split
  · rename_i h
    intro z
    rw [List.map_eq_nil_iff] at z
    subst z
    cases h
  · simp
theorem putF_mem {kvs : List (Rat × Rat)} {x y : Rat} {p : Rat × Rat} (h : p ∈ putF kvs x y) : p ∈ kvs ∨ p = (x, y) := by
  unfold putF at h
  split at h
  · obtain ⟨q, hq, e⟩ := List.mem_map.mp h
    split at e
    · rename_i z
      right
      rw [← e, z]
    · left
      rw [← e]
      exact hq
  · rcases List.mem_append.mp h with h | h
    · exact .inl h
    · exact .inr (List.mem_singleton.mp h)
section
variable {K : PySem.W.Frag} {H : Hp} {kvs : List (Rat × Rat)} {xs : DX}
theorem DicR.some_iff (r : DicR K H kvs xs) (x : Rat) : (atKey xs (fkey x)).isSome = (lookF kvs x).isSome := by
  unfold DicR at r
  induction r with
  | nil => rfl
  | @cons p q ps qs h t ih =>
    obtain ⟨h1, _⟩ := h
    by_cases e : p.1 = x
    · have e' : q.1 = fkey x := by rw [h1, e]
      have b : atKey (q :: qs) (fkey x) = some q.2 := by simp [atKey, List.find?_cons, e']
      rw [b]
      unfold lookF
      rw [List.find?_cons, decide_eq_true e]
      rfl
    · have e' : ¬ q.1 = fkey x := fun z => e (fkey_inj (h1.symm.trans z))
      have b : atKey (q :: qs) (fkey x) = atKey qs (fkey x) := by simp [atKey, List.find?_cons, e']
      rw [b, ih]
      unfold lookF
      rw [List.find?_cons, decide_eq_false e]
theorem DicR.look (r : DicR K H kvs xs) {x y : Rat} (h : lookF kvs x = some y) : ∃ p v, atKey xs (fkey x) = some p ∧ RelV v p.2 ∧ Dt K H v (eF y) := by
  unfold DicR at r
  induction r with
  | nil => cases h
  | @cons p q ps qs hq t ih =>
    obtain ⟨h1, h2, v, h3, h4⟩ := hq
    by_cases e : p.1 = x
    · have e' : q.1 = fkey x := by rw [h1, e]
      have b : atKey (q :: qs) (fkey x) = some q.2 := by simp [atKey, List.find?_cons, e']
      unfold lookF at h
      rw [List.find?_cons, decide_eq_true e] at h
      have h : some p.2 = some y := h
      cases h
      exact ⟨q.2, v, b, h3, h4⟩
    · have e' : ¬ q.1 = fkey x := fun z => e (fkey_inj (h1.symm.trans z))
      have b : atKey (q :: qs) (fkey x) = atKey qs (fkey x) := by simp [atKey, List.find?_cons, e']
      unfold lookF at h
      rw [List.find?_cons, decide_eq_false e] at h
      rw [b]
      exact ih h
theorem DicR.put (r : DicR K H kvs xs) {x y : Rat} {b : Addr} {v : V} {u : Value} (hb : SqT K H b ((fkey x).map kV)) (ru : RelV v u) (hv : Dt K H v (eF y)) : DicR K H (putF kvs x y) (storedH xs (fkey x) b u) := by
  have e := r.some_iff x
  unfold putF storedH
  rw [e]
  by_cases q : (lookF kvs x).isSome = true
  · rw [if_pos q, if_pos q]
    clear e q
    unfold DicR at r ⊢
    induction r with
    | nil => exact .nil
    | @cons p q ps qs h t ih =>
      rw [List.map_cons, List.map_cons]
      refine .cons ?_ ih
      obtain ⟨h1, h2, v', h3, h4⟩ := h
      unfold putAt
      by_cases e : p.1 = x
      · rw [if_pos e, if_pos (by rw [h1, e])]
        exact ⟨h1, h2, v, ru, hv⟩
      · rw [if_neg e, if_neg (fun z => e (fkey_inj (h1.symm.trans z)))]
        exact ⟨h1, h2, v', h3, h4⟩
  · rw [if_neg q, if_neg q]
    exact Paired.snoc r ⟨rfl, hb, v, ru, hv⟩
theorem DicR.len (r : DicR K H kvs xs) : kvs.length = xs.length := Paired.length r
end
/-! ### readings -/
section
variable {X : Cx} {pins : List (Addr × Obj)} {σ : L2.St} {H : Hp} {s : Shared} {a b : Addr} {o : Obj} {xs : DX} {kvs : List (Rat × Rat)}
theorem key_ofS {k : List Key} (I : Inv X pins σ H s) (h : SqT X.K H b (k.map kV)) : (tupleKind (mixKind X.prog X.w)).is s.heap k b := by
  obtain ⟨its, r, ⟨o, h1, h2, n, h3⟩, _⟩ := I.tuple h
  exact ⟨o, its.toArray, n, h1, h2, h3, by simpa using items_are r⟩
theorem dic_of (I : Inv X pins σ H s) (e : H a = some (ObO a o)) (h1 : DicO X.prog X.w o xs) (h2 : DicR X.K H kvs xs) (nd : (xs.map (·.1)).Nodup) : s.heap.DictOfH (tupleKind (mixKind X.prog X.w)) a xs := by
  obtain ⟨es, ep, a1, a2, a3⟩ := h1
  refine ⟨o, es, ep, obo_get I.hok e, a1, a2, a3, fun x hx => ?_, nd⟩
  have all : ∀ {l : List (Rat × Rat)} {m : DX}, DicR X.K H l m → ∀ x ∈ m, SqT X.K H x.2.1 (x.1.map kV) := fun {l m} r => by
    unfold DicR at r
    induction r with
    | nil => intro x hx; cases hx
    | cons h t ih =>
      intro x hx
      rcases List.mem_cons.mp hx with e | hx
      · subst e
        exact h.2.1
      · exact ih x hx
  exact key_ofS I (all h2 x hx)
end
def tDNewX : TE := fun _ H Q => ∀ p, H p = none → (p == sysModules) = false → Q (.ref p) (upd H p (ObO p { cls := .type "dict", data := .dict #[] }))
theorem pe_dnewX {X : Cx} {pos : Pos} : PE X (.Dict [] [] pos) tDNewX := ⟨fun pins s σ H Q I h =>
  wpAny_Dict_empty ⟨.ref s.heap.objs.size, _, I.laid (a := s.heap.objs.size) (o := ObO s.heap.objs.size { cls := .type "dict", data := .dict #[] }) (t' := s.toks) (fun _ _ q => Heap.get?_push_of_some _ q) (Nat.le_refl _) (obo_ok (Heap.get?_push_size _ rfl)), rfl, h _ (I.hok.fresh (Nat.le_refl _)) (beq_eq_false_iff_ne.mpr (Ne.symm (Nat.ne_of_lt I.big)))⟩⟩
theorem dicO_nil (P : Program) (w : World) : DicO P w { cls := .type "dict", data := .dict #[] } [] := ⟨#[], 0, ⟨rfl, rfl, rfl⟩, rfl, rfl⟩
def rSetX (P : Program) (w : World) (K : PySem.W.Frag) : TSet := fun o i v H Q => ∃ a b ob xs k kvs, o = .ref a ∧ i = .ref b ∧ H a = some (ObO a ob) ∧ DicO P w ob xs ∧ DicR K H kvs xs ∧ (xs.map (·.1)).Nodup ∧ xs.length ≤ sizeLine ∧ SqT K H b (k.map kV) ∧
  ∀ u o', RelV v u → DicO P w o' (storedH xs k b u) → ((storedH xs k b u).map (·.1)).Nodup → Q (upd H a (ObO a o'))
theorem set_dicX {X : Cx} (hu : X.A.units + 1 < cLine) : PSet X (rSetX X.prog X.w X.K) := by
  intro pins s σ H o i v ov iv u Q I ro ri rv h
  obtain ⟨a, b, ob, xs, k, kvs, rfl, rfl, h1, h2, h3, h4, h5, h6, q⟩ := h
  cases ro
  cases ri
  refine wpAny_setItem_heap (hsz := h5) (tupleKind_room_in1 hu) (key_ofS I h6) (dic_of I h1 h2 h3 h4) fun h' dd' hs => ?_
  obtain ⟨q', es, ep, hq, g2, g3, g4, _, g5⟩ := dd'
  exact ⟨_, d_write I (by rw [h1]; exact True.intro) hs ⟨q', hq⟩ (obo_ok hq), q u q' rv ⟨es, ep, g2, g3, g4⟩ g5⟩
def tDGetX (P : Program) (w : World) (K : PySem.W.Frag) (td ty : TE) : TE := fun σ H Q => td σ H fun x H1 => ty σ H1 fun y H2 => ∃ a b ob xs k kvs p v, x = .ref a ∧ y = .ref b ∧ H2 a = some (ObO a ob) ∧ DicO P w ob xs ∧ DicR K H2 kvs xs ∧ (xs.map (·.1)).Nodup ∧ SqT K H2 b (k.map kV) ∧ atKey xs k = some p ∧ RelV v p.2 ∧ Q v H2
theorem pe_dgetX {X : Cx} {o i : Expr} {pos : Pos} {td ty : TE} (hu : X.A.units + 1 < cLine) (ho : PE X o td) (hi : PE X i ty) (hs : NoSl i) : PE X (.Subscript o i pos) (tDGetX X.prog X.w X.K td ty) := by
  refine ⟨fun pins s σ H Q I h => ?_⟩
  refine subD_of PySem.F.slot_dict_getitem.lookup hs (thn (ho.run pins s σ H _ I h) fun u s1 ⟨x, H1, I1, rx, q1⟩ => thn (hi.run pins s1 σ H1 _ I1 q1) fun iv s2 ⟨y, H2, I2, ry, a, b, ob, xs, k, kvs, p, v, ex, ey, h1, h2, h3, h4, h5, h6, h7, q2⟩ => ?_)
  subst ex ey
  cases rx
  cases ry
  have dd := dic_of I2 h1 h2 h3 h4
  exact ⟨dd.typeIs, wpAny_getItem_heap (tupleKind_room_in1 hu) (key_ofS I2 h5) dd h6 ⟨v, H2, I2.tok _, h7, q2⟩⟩
/-- the keys of the dict at d, in their order -/
def ItX (d : Addr) (o : Obj) (xs : DX) : It :=
  ⟨fun i H => H d = some (ObO d o) ∧ i < xs.length, fun i H x H' => H' = H ∧ ∃ q, xs[i]? = some q ∧ x = .ref q.2.1, fun i H => H d = some (ObO d o) ∧ xs.length ≤ i⟩
theorem turn_X {P : Program} {w : World} {K : PySem.W.Frag} {tg : Expr} {d : Addr} {o : Obj} {xs : DX} {es : Array DictEntry} {ep : Nat} (it : Addr) (hod : o.data = .dict es ep) (he : es.toList = xs.map (entryOfKey (tupleKind (mixKind P w)))) :
    Turn P w K tg (ItX d o xs) [it] it (fun i h => h.IsKeyIter it d i xs.length ep) where
  mem := by simp
  obj := fun i h st b hb => by
    have e : b = it := by simpa using hb
    subst e
    obtain ⟨oi, e, c, dd⟩ := st
    exact ⟨oi, e, fun v z => by rw [dd] at z; cases z⟩
  keep := fun i h h' st k => st.at fun oi e => k it (by simp) oi e
  item := by
    intro X hP hw hK hc i pins s σ H E I hf st hg
    subst hP hw hK
    obtain ⟨hd, hi⟩ := hg
    obtain ⟨f0, f1, f2, f3, f4, f5⟩ := hf it (by simp)
    have hgd := obo_get I.hok hd
    have hsz : es.size = xs.length := size_of_entries he
    have hx : xs[i]? = some xs[i] := List.getElem?_eq_getElem hi
    have hen := entry_at he i
    rw [hx] at hen
    refine next_key_item st hgd hod hsz hen fun h' st' sb => ?_
    have I1 : Inv X pins σ H { s with heap := h' } := I.turned (t' := s.toks) (fun b ob hb e => (sb.2 b hb).trans e) f0 f1 f3 f4 f5
    obtain ⟨oi, e, c, dd⟩ := id st'
    exact ⟨_, rfl, go_of (s := { s with heap := h' }) e c dd (by decide) ⟨.ref xs[i].2.1, H, I1, rfl, ⟨rfl, _, hx, rfl⟩, st', fun b hb => (hf b hb).1⟩⟩
  done := by
    intro X hP hw hK hc i pins s σ H E I hf st hg
    subst hP hw hK
    obtain ⟨hd, hi⟩ := hg
    obtain ⟨f0, f1, f2, f3, f4, f5⟩ := hf it (by simp)
    have hgd := obo_get I.hok hd
    have hsz : es.size = xs.length := size_of_entries he
    exact next_key_end (I.ok.hd hc) st hgd hod hsz hi fun h' eb => ⟨rfl, I.turned (t' := s.toks) (fun b ob hb e => eb b ob hb e) f0 f1 f3 f4 f5⟩
  self := fun A i s Q E st h => wpAny_pyIter_keyiter st h
def iX (P : Program) (w : World) (td : TE) : TI := fun σ H R => td σ H fun x H1 => ∃ d o xs, x = .ref d ∧ (d == sysModules) = false ∧ H1 d = some (ObO d o) ∧ DicO P w o xs ∧ R (ItX d o xs) H1
theorem pi_X {X : Cx} {tg e : Expr} {td : TE} (he : PE X e td) : PI X tg e (iX X.prog X.w td) := by
  refine ⟨fun pins s σ H R I h => ?_⟩
  refine thn (he.run pins s σ H _ I h) fun u s1 ⟨x, H1, I1, rx, d, o, xs, ex, hs, hd, ⟨es, ep, hx, hdt, hen⟩, q⟩ => ?_
  subst ex
  cases rx
  have hsz : es.size = xs.length := size_of_entries hen
  refine iter_keys hs (obo_get I1.hok hd) hx hdt (pi_one (tk := s1.toks) I1 _ (turn_X _ hdt hen) ⟨_, Heap.get?_push_size _ rfl, rfl, ?_⟩ q)
  rw [hsz] <;> rfl
/-! ### rules by data -/
section
variable {R : Hp → Hp → Prop} [RelC R] {X : Cx} {γ : List Sl} {pos p : Pos} {P : Po}
theorem s1_dnew (i : Nat) {x : Str} {dp : Pos} (h : ∀ a, P.nx (γ.set i (.own (.b (dicB X.prog X.w []) [a])))) (hN : X.N.Nodup) (hi : X.N[i]? = some x := by rfl) (hx : Loc X.env.scope x := by first | exact Or.inl rfl | exact Or.inr rfl)
    (hs : swapsWith (.Dict [] [] dp) (some (.Name x p)) pos.line X.env = pure false := by rfl) (hf : X.fn x = true ∨ X.env.scope.names.lookup x = some .local := by first | exact .inl rfl | exact .inr rfl | assumption) : S1 R X γ (.Assign [.Name x p] (.Dict [] [] dp) pos) P := fun H0 S0 σ H E W s tk n r b c z =>
  ws_of (ps_set hN hi hx pe_dnewX hs hf) fun a hn hsm => n _ _ _ (h a) (s.putB i (Rel.more s.ref (same_new hn)) (fun l hl => by
    have e : l = a := List.mem_singleton.mp hl
    subst e
    exact ⟨hn, _, upd_same, obo_mut ⟨_, _, rfl⟩⟩) ⟨_, rfl, a, rfl, rfl, _, [], hsm, upd_same, dicO_nil _ _, .nil, List.nodup_nil⟩)
/-- d[k] = v -/
theorem s1_dset (i : Nat) {x : Str} {e ix : Expr} {a : Addr} {kvs : List (Rat × Rat)} {k y : Rat} {p2 : Pos} (he : EE R X γ e (eF y)) (hx : EE R X γ ix (eF k)) (h : P.nx (γ.set i (.own (.b (dicB X.prog X.w (putF kvs k y)) [a])))) (hu : X.A.units + 1 < cLine) (hl : kvs.length ≤ 1000) (hi : γ[i]? = some (.own (.b (dicB X.prog X.w kvs) [a])) := by rfl) (hN : X.N[i]? = some x := by rfl)
    (hv : Vis X.env.scope x := by first | exact Or.inl rfl | exact Or.inr (Or.inl rfl) | exact Or.inr (Or.inr rfl)) (hd : (x == ("__debug__" : Str)) = false := by decide) (hcd : (x == ("__classdict__" : Str)) = false := by decide)
    (ha : ∀ v, assign (.Subscript (.Name x p) ix p2) X.env v = (do
      let ov ← holding [v] (eval (.Name x p) X.env)
      let iv ← holding [v, ov] (eval ix X.env)
      standAt p2
      holding [v, ov, iv] (setItem ov iv v)
      release [v, ov, iv] []) := by intro _; rfl)
    (hs : swapsWithSole [.Subscript (.Name x p) ix p2] e pos.line X.env = pure false := by rfl) (hw : swappedStores [.Subscript (.Name x p) ix p2] e X.env = pure none := by rfl)
    (h1 : (assignEach [.Subscript (.Name x p) ix p2] X.env).map (·.2) = [assign (.Subscript (.Name x p) ix p2) X.env] := by rfl) : S1 R X γ (.Assign [.Subscript (.Name x p) ix p2] e pos) P := fun H0 S0 σ H E W s tk n r bk ct z =>
  ws_of (ps_asg pe_we (pg_sub (pe_var hN hv hd hcd) pe_we (set_dicX hu) ha) hs hw h1) (he H0 S0 σ H _ s fun v H1 r1 d1 => by
    have s1 := s.mono r1
    obtain ⟨v0, e1, _, _⟩ := s1.box i hi
    refine ⟨_, e1, hx H0 S0 σ H1 _ s1 fun u H2 r2 d2 => ?_⟩
    have s2 := s1.mono r2
    obtain ⟨v1, a1, ⟨a', rfl, ea, o, xs, g1, g2, g3, g4, g5⟩, a3⟩ := s2.box i hi
    rw [e1] at a1
    cases a1
    have ea' : a = a' := by simpa using ea
    subst ea'
    obtain ⟨b, rfl, hb⟩ := sqt_frac d2
    refine ⟨a, b, o, xs, fkey k, kvs, rfl, rfl, g2, g3, g4.keep off_in, g5, ?_, sqt_keep off_in hb, fun uu o' ru hO hnd => ?_⟩
    · rw [← g4.len]
      exact Nat.le_of_lt (small1000 hl)
    · refine n _ _ _ h (s2.mutB (l := a) hi e1 (List.mem_singleton.mpr rfl) (obo_mut (let ⟨es, ep, _, q, _⟩ := hO; ⟨es, ep, q⟩)) (fun _ => Iff.rfl) ⟨_, rfl, a, rfl, rfl, o', _, g1, upd_same, hO, ?_, hnd⟩)
      have k5 : Keep (off (Sx S0 γ σ) H2) (off (Sx S0 γ σ) (upd H2 a (ObO a o'))) := fun c w' e' _ => by
        obtain ⟨q1, q2⟩ := off_some e'
        refine off_of q1 ?_
        rw [upd_ne (fun zz => q1 (.inr ⟨i, _, _, hi, e1, by rw [zz]; exact List.mem_singleton.mpr rfl⟩))]
        exact q2
      exact (g4.put hb ru (dt_up r2 d1)).keep k5)
theorem ss_dfreeze {st : List Stmt} (i : Nat) {kvs : List (Rat × Rat)} {a : Addr} (h : SS R X (γ.set i (.fix (dicF X.prog X.w kvs))) st P) (hi : γ[i]? = some (.own (.b (dicB X.prog X.w kvs) [a])) := by rfl) : SS R X γ st P := fun H0 S0 σ H E W s tk n r b c z =>
  h H0 S0 σ H E W (s.freezeB hi fun v Hd Hd' ⟨a', e, ef, o, xs, g1, g2, g3, g4, g5⟩ hf hk => ⟨a', e, o, xs, g1, by rw [hf a' (by rw [ef]; exact List.mem_singleton.mpr rfl)]; exact g2, g3, g4.keep hk, g5⟩) tk n r b c z
theorem ee_dget (j : Nat) {x : Str} {b : Expr} {kvs : List (Rat × Rat)} {k y : Rat} (hb : EE R X γ b (eF k)) (h : lookF kvs k = some y) (hu : X.A.units + 1 < cLine) (hj : γ[j]? = some (.fix (dicF X.prog X.w kvs)) := by rfl) (hs : NoSl b := by exact fun _ _ => rfl) (hN : X.N[j]? = some x := by rfl)
    (hv : Vis X.env.scope x := by first | exact Or.inl rfl | exact Or.inr (Or.inl rfl) | exact Or.inr (Or.inr rfl)) (hd : (x == ("__debug__" : Str)) = false := by decide) (hcd : (x == ("__classdict__" : Str)) = false := by decide) :
    EE R X γ (.Subscript (.Name x p) b pos) (eF y) := fun H0 S0 σ H Q s kk => by
  obtain ⟨v, h1, _⟩ := s.fix j hj
  refine we_of (pe_dgetX hu (pe_var hN hv hd hcd) pe_we hs) ⟨_, h1, hb H0 S0 σ H _ s fun u H2 r2 d2 => ?_⟩
  obtain ⟨v', h1', a, rfl, o, xs, g1, g2, g3, g4, g5⟩ := (s.mono r2).fix j hj
  rw [h1] at h1'
  cases h1'
  obtain ⟨b', rfl, hb'⟩ := sqt_frac d2
  obtain ⟨pp, vv, l1, l2, l3⟩ := g4.look h
  exact ⟨a, b', o, xs, fkey k, kvs, pp, vv, rfl, rfl, (off_some g2).2, g3, g4.keep off_in, g5, sqt_keep off_in hb', l1, l2, kk vv H2 r2 l3⟩
theorem ei_dict (j : Nat) {x : Str} {tg : Expr} {kvs : List (Rat × Rat)} (hj : γ[j]? = some (.fix (dicF X.prog X.w kvs)) := by rfl) (hN : X.N[j]? = some x := by rfl)
    (hv : Vis X.env.scope x := by first | exact Or.inl rfl | exact Or.inr (Or.inl rfl) | exact Or.inr (Or.inr rfl)) (hd : (x == ("__debug__" : Str)) = false := by decide) (hcd : (x == ("__classdict__" : Str)) = false := by decide) :
    EI R X γ tg (.Name x p) (kvs.map fun q => eF q.1) := ⟨_, pi_X (pe_var hN hv hd hcd), fun H0 S0 σ H Rk s k => by
  obtain ⟨v, h1, a, rfl, o, xs, g1, g2, g3, g4, g5⟩ := s.fix j hj
  refine ⟨_, h1, a, o, xs, rfl, g1, (off_some g2).2, g3, k _ H s.ref ?_⟩
  have hl : (kvs.map fun q => eF q.1).length = xs.length := by rw [List.length_map]; exact g4.len
  have up : ∀ (H' : Hp) (S' : Addr → Prop), Keep (off (Sx S0 γ σ) H) (off S' H') → H' a = some (ObO a o) := fun H' S' kp => (off_some (kp a _ g2 fun _ z => nomatch z)).2
  refine ⟨fun i H' S' kp hi => ⟨up H' S' kp, by omega⟩, fun i H' S' kp hi => ⟨up H' S' kp, by omega⟩, fun i H' S' x H'' d kp hd y hx => ?_⟩
  obtain ⟨e, q, hq, rfl⟩ := y
  subst e
  refine ⟨Same.refl _, ?_⟩
  rw [List.getElem?_map] at hx
  cases hk : kvs[i]? with
  | none => rw [hk] at hx; cases hx
  | some pr =>
    rw [hk] at hx
    cases hx
    obtain ⟨q', hq', e1, e2, _⟩ := paired_get g4 hk
    rw [hq] at hq'
    cases hq'
    rw [e1] at e2
    exact dt_frac (sqt_keep kp e2)⟩
end
end An

/-! x.append(y.pop()); a, b, c = a list. -/
namespace An
open PySem PySem.Spec PyProof.Rows L2
section
variable {R : Hp → Hp → Prop} [RelC R] {X : Cx} {γ : List Sl} {P : Po} {pos : Pos}
theorem s1_appendPop (i j : Nat) {x y : Str} {ds es : List D} {d : D} {p p2 apos cpos apos2 cpos2 : Pos} (hne : es.getLast? = some d) (h : P.nx ((γ.set j (.own (.l es.dropLast))).set i (.own (.l (ds ++ [d]))))) (hl : ds.length < 1000) (hi : γ[i]? = some (.own (.l ds)) := by rfl) (hj : γ[j]? = some (.own (.l es)) := by rfl) (hij : i ≠ j := by decide) (hN : X.N[i]? = some x := by rfl) (hN2 : X.N[j]? = some y := by rfl)
    (hv : Vis X.env.scope x := by first | exact Or.inl rfl | exact Or.inr (Or.inl rfl) | exact Or.inr (Or.inr rfl)) (hd : (x == ("__debug__" : Str)) = false := by decide) (hcd : (x == ("__classdict__" : Str)) = false := by decide)
    (hv2 : Vis X.env.scope y := by first | exact Or.inl rfl | exact Or.inr (Or.inl rfl) | exact Or.inr (Or.inr rfl)) (hd2 : (y == ("__debug__" : Str)) = false := by decide) (hcd2 : (y == ("__classdict__" : Str)) = false := by decide)
    (hbase2 : attributeBase (.Name y p2) "pop" X.env (eval (.Name y p2) X.env) = eval (.Name y p2) X.env := by rfl) (hline2 : (apos2.endLine == cpos2.line) = true := by rfl)
    (hbase : attributeBase (.Name x p) "append" X.env (eval (.Name x p) X.env) = eval (.Name x p) X.env := by rfl)
    (hfew : ((backTo cpos (starEach [.Call (.Attribute (.Name y p2) "pop" apos2) [] [] cpos2] X.env)).all (fun x => !x.1) && (backToKw cpos (keywordEach [] X.env)).all (fun x => x.1.isSome) && decide (([.Call (.Attribute (.Name y p2) "pop" apos2) [] [] cpos2] : List Expr).length + ([] : List Keyword).length + (if ([] : List Keyword).isEmpty then 0 else 1) < 30)) = true := by rfl)
    (hline : (apos.endLine == cpos.line) = true := by rfl) (hst : starEach [.Call (.Attribute (.Name y p2) "pop" apos2) [] [] cpos2] X.env = (false, eval (.Call (.Attribute (.Name y p2) "pop" apos2) [] [] cpos2) X.env) :: starEach [] X.env := by rfl) (hplain : (backTo cpos (starEach [] X.env)).any (·.1) = false := by rfl)
    (hs : swapsWith (.Call (.Attribute (.Name x p) "append" apos) [.Call (.Attribute (.Name y p2) "pop" apos2) [] [] cpos2] [] cpos) none pos.line X.env = pure false := by rfl) :
    S1 R X γ (.Expr (.Call (.Attribute (.Name x p) "append" apos) [.Call (.Attribute (.Name y p2) "pop" apos2) [] [] cpos2] [] cpos) pos) P := fun H0 S0 σ H E W s tk n r bk ct z => by
  obtain ⟨l, vs, h1, _, h3, h4⟩ := s.own i ds hi
  obtain ⟨m, us, g1, _, g3, g4⟩ := s.own j es hj
  have hlen := dps_len g4
  have hpos : 0 < es.length := by
    cases es with
    | nil => cases hne
    | cons a r => exact Nat.succ_pos _
  have hlast : us[us.length - 1]? = some us[us.length - 1] := List.getElem?_eq_getElem (by omega)
  obtain ⟨d', hd', hdt⟩ := dps_getV g4 hlast
  have ed : d' = d := by
    rw [hlen, ← List.getLast?_eq_getElem?, hne] at hd'
    exact (Option.some.inj hd').symm
  subst ed
  have hdl : DtAll X.K (off (Sx S0 γ σ) H) us.dropLast es.dropLast := by
    rw [List.dropLast_eq_take, List.dropLast_eq_take, hlen]
    exact dps_take _ g4
  have s1 := s.mutO hj g1 hdl
  have hσ : σ.set j (some (.ref m)) = σ := by
    have hlt := (List.getElem?_eq_some_iff.mp g1).1
    have e := (List.getElem?_eq_some_iff.mp g1).2
    rw [← e]
    exact List.set_getElem_self hlt
  have sub : ∀ a, Sx S0 (γ.set j (.own (.l es.dropLast))) σ a → Sx S0 γ σ a := fun a q => by
    have q' : Sx S0 (γ.set j (.own (.l es.dropLast))) (σ.set j (some (.ref m))) a := by rw [hσ]; exact q
    exact sx_set (x := .own (.l es.dropLast)) (fun b f => .inr ⟨j, _, _, hj, g1, f⟩) a q'
  have k5 : Keep (off (Sx S0 γ σ) H) (off (Sx S0 (γ.set j (.own (.l es.dropLast))) σ) (upd H m (.lst us.dropLast))) := fun c w' e' _ => by
    obtain ⟨q1, q2⟩ := off_some e'
    refine off_of (fun q => q1 (sub c q)) ?_
    rw [upd_ne (fun zz => q1 (.inr ⟨j, _, _, hj, g1, by rw [zz]; rfl⟩))]
    exact q2
  have hi' : (γ.set j (.own (.l es.dropLast)))[i]? = some (.own (.l ds)) := by rw [List.getElem?_set_ne (fun q => hij q.symm)]; exact hi
  refine ws_of (ps_expr (pe_bm PySem.F.plainAttrs_list PySem.F.slot_list_append PySem.F.type_list_append mt_append (pe_var hN hv hd hcd) (pa_cons (pe_bm0 PySem.F.plainAttrs_list PySem.F.slot_list_pop PySem.F.type_list_pop mt_pop (pe_var hN2 hv2 hd2 hcd2) hbase2 hline2) pa_nil hst) hbase hfew hline hst hplain) hs)
    ⟨_, h1, .inl ⟨rfl, _, SqL.of h3⟩, _, g1, .inl ⟨rfl, _, SqL.of g3⟩, m, us, _, rfl, rfl, g3, hlast, ?_⟩
  obtain ⟨l', vs', a1, a2, a3, a4⟩ := s1.own i ds hi'
  rw [h1] at a1
  cases a1
  refine ⟨l, vs', _, rfl, rfl, a3, Nat.lt_trans (by rw [dps_len a4]; exact hl) (by decide), ?_⟩
  exact n _ _ _ h (s1.mutO hi' h1 (dps_app a4 (dps_one (dp_keep k5 _ _ hdt))))
theorem eg_l3 {i j k : Nat} {x y w : Str} {d1 d2 d3 : D} {p1 p2 p3 : Pos} {kk : Nat} (hc : X.calm = true) (hN : X.N.Nodup) (hi : X.N[i]? = some x := by rfl) (hj : X.N[j]? = some y := by rfl) (hk : X.N[k]? = some w := by rfl) (hx : Loc X.env.scope x := by first | exact Or.inl rfl | exact Or.inr rfl)
    (hy : Loc X.env.scope y := by first | exact Or.inl rfl | exact Or.inr rfl) (hw : Loc X.env.scope w := by first | exact Or.inl rfl | exact Or.inr rfl)
    (hf : X.fn x = true ∨ X.env.scope.names.lookup x = some .local := by first | exact .inl rfl | exact .inr rfl | assumption) (hg : X.fn y = true ∨ X.env.scope.names.lookup y = some .local := by first | exact .inl rfl | exact .inr rfl | assumption)
    (hh : X.fn w = true ∨ X.env.scope.names.lookup w = some .local := by first | exact .inl rfl | exact .inr rfl | assumption) :
    EG R X γ (.Tuple [.Name x p1, .Name y p2, .Name w p3] kk pos) (.list [d1, d2, d3]) (((γ.set i (.dat d1)).set j (.dat d2)).set k (.dat d3)) := fun H0 S0 σ H v Q s h kq => by
  cases h with
  | lst h1 h2 =>
    cases h2 with
    | cons e1 r1 =>
      cases r1 with
      | cons e2 r2 =>
        cases r2 with
        | cons e3 r3 =>
          cases r3
          refine wg_of (pg_lst hc (pgs_cons (pg_name hN hi hx hf) (pgs_cons (pg_name hN hj hy hg) (pgs_cons (pg_name hN hk hw hh) pgs_nil)))) ⟨_, _, rfl, .inl (rd_keep off_in h1), rfl, _, _, rfl, _, _, rfl, _, _, rfl, rfl, ?_⟩
          have s1 := s.putD i e1
          have s2 := s1.putD j (dp_keep (off_keep (Keep.refl H) sx_dat) _ _ e2)
          exact kq _ (s2.putD k (dp_keep (off_keep (Keep.refl H) sx_dat) _ _ (dp_keep (off_keep (Keep.refl H) sx_dat) _ _ e3)))
end
end An

/-! Around a place, by divisions. -/
namespace An
open PySem
theorem qx_ev_ext {a b : QX} (h : ∀ x, a.ev x = b.ev x) : a = b := by
  refine poly_uniq (xs := (List.range (a.len + b.len)).map fun i => ((i : Nat) : Rat)) ?_ (fun x _ => h x) (by rw [List.length_map, List.length_range]; omega) (by rw [List.length_map, List.length_range]; omega)
  refine List.pairwise_map.mpr (List.nodup_range.imp fun {i j} hij e => hij ?_)
  exact Rat.natCast_inj.mp e
def hrow (x : Rat) : Poly → Poly
  | [] => []
  | a :: r => hrow x r ++ [peval (a :: r) x]
def hrv (x : Rat) (r : Poly) : Poly := (hrow x r).reverse
theorem hrow_len (x : Rat) : ∀ r : Poly, (hrow x r).length = r.length
  | [] => rfl
  | a :: r => by
    show (hrow x r ++ [_]).length = _
    rw [List.length_append, hrow_len x r]
    rfl
theorem hrv_len (x : Rat) (r : Poly) : (hrv x r).length = r.length := by
  unfold hrv
  rw [List.length_reverse, hrow_len]
theorem hrv_cons (x b : Rat) (s : Poly) : hrv x (b :: s) = peval (b :: s) x :: hrv x s := by
  unfold hrv
  show (hrow x s ++ [_]).reverse = _
  rw [List.reverse_append]
  rfl
theorem hrv_ev (x y : Rat) : ∀ (a : Rat) (r : Poly), peval (a :: r) y = peval (hrv x r) y * (y - x) + peval (a :: r) x
  | a, [] => by
    show (0 : Rat) * y + a = 0 * (y - x) + (0 * x + a)
    grind
  | a, b :: s => by
    have ih := hrv_ev x y b s
    rw [hrv_cons]
    show peval (b :: s) y * y + a = (peval (hrv x s) y * y + peval (b :: s) x) * (y - x) + (peval (b :: s) x * x + a)
    rw [ih]
    grind
def arF (x : Rat) : Nat → Poly → Poly
  | 0, _ => []
  | _ + 1, [] => []
  | n + 1, a :: r => peval (a :: r) x :: arF x n (trim (hrv x r))
theorem arF_nil (x : Rat) : ∀ n, arF x n [] = []
  | 0 => rfl
  | _ + 1 => rfl
theorem arF_ev (x z : Rat) : ∀ (n : Nat) (p : Poly), p.length ≤ n → peval (arF x n p) z = peval p (z + x)
  | 0, [], _ => rfl
  | 0, _ :: _, h => by simp at h
  | _ + 1, [], _ => rfl
  | n + 1, a :: r, h => by
    have hl : (trim (hrv x r)).length ≤ n := Nat.le_trans (trim_len _) (by rw [hrv_len]; simpa using h)
    have ih := arF_ev x z n _ hl
    show peval (arF x n (trim (hrv x r))) z * z + peval (a :: r) x = _
    rw [ih, peval_trim, hrv_ev x (z + x) a r]
    grind
theorem arF_pcomp (x : Rat) (p : Poly) : trim (arF x p.length p) = pcomp p [x, 1] := by
  have : (⟨trim (arF x p.length p), own_trim _⟩ : QX) = ⟨pcomp p [x, 1], own_pcomp _ _⟩ := qx_ev_ext fun z => by
    show peval (trim _) z = peval (pcomp p [x, 1]) z
    rw [peval_trim, arF_ev x z _ p (Nat.le_refl _), peval_pcomp]
    have : peval [x, 1] z = z + x := by
      show (0 * z + 1) * z + x = z + x
      grind
    rw [this]
  exact congrArg QX.p this
theorem pcomp_back (x : Rat) {p : Poly} (h : Own p) : pcomp (pcomp p [x, 1]) [-x, 1] = p := by
  have : (⟨pcomp (pcomp p [x, 1]) [-x, 1], own_pcomp _ _⟩ : QX) = ⟨p, h⟩ := qx_ev_ext fun z => by
    show peval (pcomp _ _) z = peval p z
    rw [peval_pcomp, peval_pcomp]
    congr 1
    show (0 * ((0 * z + 1) * z + -x) + 1) * ((0 * z + 1) * z + -x) + x = z
    grind
  exact congrArg QX.p this
theorem rz_hrow {x : Rat} {n m : Nat} (hx : Rz m x) : ∀ {r : Poly} {L : Nat}, PZ n r → r.length ≤ L → PZ (1 + L * (n + m + 1)) (hrow x r)
  | [], _, _, _ => pz_nil
  | a :: r, L, h, hl => fun q hq => by
    rcases List.mem_append.mp hq with z | z
    · exact rz_hrow hx (fun b hb => h b (List.mem_cons_of_mem _ hb)) (by rw [List.length_cons] at hl; omega) q z
    · rw [List.mem_singleton.mp z]
      exact (rz_peval h hx).mono (Nat.add_le_add_left (Nat.mul_le_mul_right _ hl) _)
theorem hrow_last (x : Rat) {p : Poly} (h : p ≠ []) : (hrow x p).getLast? = some (peval p x) ∧ (hrow x p).dropLast = hrow x p.tail := by
  cases p with
  | nil => exact absurd rfl h
  | cons a r =>
    constructor
    · show (hrow x r ++ [_]).getLast? = _
      rw [List.getLast?_append]
      rfl
    · show (hrow x r ++ [_]).dropLast = _
      rw [List.dropLast_concat]
      rfl
end An

/-! A comprehension whose first element raises. -/
namespace An
open PySem PySem.Spec PyProof.Rows L2
/-- the block of a comprehension, exceptions going on in the def around -/
abbrev blkX (X : Cx) (s : Shared) (H : Hp) (scope : Scope) (ce : Env) (fp : List Addr) : Cx := { X.blk s H scope ce fp with xe := notedBy (model X.prog X.w) X.A ce (CompFails (model X.prog X.w) X.A X.xe ce) }
theorem inv_blkX {X : Cx} {s s' : Shared} {H H' : Hp} {scope : Scope} {ce : Env} {fp : List Addr} {pins : List (Addr × Obj)} {σ : L2.St} (I : Inv (X.blk s H scope ce fp) pins σ H' s') : Inv (blkX X s H scope ce fp) pins σ H' s' :=
  ⟨⟨I.ok.mod, I.ok.kind, I.ok.glob, I.ok.blt, I.ok.above, I.ok.inj, I.ok.has, I.ok.cab, I.ok.hd, I.ok.frames, I.ok.stk, I.ok.exf, I.ok.bs, I.ok.bsz, I.ok.noex, I.ok.exfs, I.ok.funs, I.ok.frf⟩, I.os, I.bare, I.base, I.loc, I.cell, I.free, I.freeC, I.pin, I.hok, I.len⟩
theorem funs_at {base h h' : Heap} : ∀ {l : List Env}, h.FunFrames base l → (∀ L ∈ frs l, ∀ o, h.get? L = some o → h'.get? L = some o) → h'.FunFrames base l
  | [], _, _ => trivial
  | env :: l, h, hn => by
    obtain ⟨hk, ⟨L, o, hf, hb, ho, hd⟩, hr⟩ := h
    exact ⟨hk, ⟨L, o, hf, hb, hn L (List.mem_filterMap.mpr ⟨env, List.mem_cons_self, hf⟩) o ho, hd⟩, funs_at hr fun b hb => by
      obtain ⟨e, he, q⟩ := List.mem_filterMap.mp hb
      exact hn b (List.mem_filterMap.mpr ⟨e, List.mem_cons_of_mem _ he, q⟩)⟩
theorem comp_fails {X : Cx} {pins pb : List (Addr × Obj)} {σ σb : L2.St} {H3 H : Hp} {s3 s s' : Shared} {scope : Scope} {ce : Env} {fp : List Addr} {W : XK} {u : Value} (hs : X.stack = X.env :: X.outer) (hf : X.env.frame = some X.env.locals) (hce : ce.frame = X.env.frame)
    (hn : ∀ e, noteFrame e ce = noteFrame e X.env) (I3 : Inv X pins σ H3 s3) (f3 : ∀ b ∈ fp, FpOk X pins H3 b) (hC : s3.heap.objs.size ≤ ce.locals) (tk : L2N.Takes X (fun c d _ H' => W c d H')) (Ib : Inv (blkX X s3 H3 scope ce fp) pb σb H s)
    (c : L2N.CX X.prog X.w X.stack H s W u s') : notedBy (model X.prog X.w) X.A ce (CompFails (model X.prog X.w) X.A X.xe ce) u s' := by
  obtain ⟨a, B, H', cls, d, rfl, fl, hok, ub, na, os, ag, hE⟩ := c
  have hfr : X.A.frames = some (X.env :: X.outer) := by rw [I3.ok.frames, hs]
  have hCfree : H ce.locals = none := Ib.free
  have hCs : H3 ce.locals = none := I3.hok.fresh hC
  have hfp : FpOk X pins H3 ce.locals := I3.fpOk hC hCs
  have frsX : frs X.stack = X.env.locals :: X.fs := by
    rw [hs]
    show (X.env :: X.outer).filterMap (·.frame) = _
    rw [List.filterMap_cons, hf]
    rfl
  have hCn : ce.locals ∉ frs X.stack := fun z => by
    rw [frsX] at z
    rcases List.mem_cons.mp z with z | z
    · exact hfp.2.1 z
    · exact hfp.2.2.1 z
  obtain ⟨m, ⟨oC, es, ep, ho, hdC, hk, hnm⟩, _⟩ := Ib.loc
  have ho : s.heap.get? ce.locals = some oC := ho
  have hBC : B.get? ce.locals = some oC := ub.keep _ _ ho hCfree hCn
  have hC' : H' ce.locals = none := ub.free _ _ ho hCfree
  show wpAny _ _ (noteFrame (.ref a) ce) _ _ s'
  rw [hn]
  have fl' := fl
  rw [hs] at fl'
  refine PXN.looks_onZ L2N.Zn.steady hfr hf fl' fun h1 hh up1 => ?_
  obtain ⟨hB, hne, hfun, oe, vs, T, oT, ts, t1, t2, t3, t4, t5, t6, t7, t8, t9⟩ := hh
  refine ⟨m, ⟨oC, es, ep, hB _ _ hBC, hdC, hk, hnm⟩, fun h2 m2 hn2 sb => ?_⟩
  have haC : a ≠ ce.locals := fun z => by rw [z, hBC] at hne; cases hne
  have hTC : T ≠ ce.locals := fun z => by rw [z, hBC] at t5; cases t5
  have sb2 : ∀ b, b ≠ ce.locals → h2.get? b = h1.get? b := fun b hb => sb.2 b hb
  have e2 : h2.get? a = some oe := (sb2 a haC).trans t1
  have T2 : h2.get? T = some oT := (sb2 T hTC).trans t7
  obtain ⟨oC2, _, _, ho2, _⟩ := hn2
  obtain ⟨B2, g1, g2⟩ := restrict h2 fun b => (B.get? b).isSome
  have dom2 : ∀ b, B.get? b = none → B2.get? b = none := fun b e => g2 b (by rw [e]; rfl)
  have in2 : ∀ b o, B.get? b = some o → B2.get? b = h2.get? b := fun b o e => g1 b (by rw [e]; rfl)
  have st2 : B2.StaysIn h2 := fun b o e => by
    cases q : B.get? b with
    | none => rw [dom2 b q] at e; cases e
    | some o' => rw [← in2 b o' q]; exact e
  have old2 : ∀ b o, b ≠ ce.locals → B.get? b = some o → B2.get? b = some o := fun b o hb e => by
    rw [in2 b o e, sb2 b hb]
    exact hB b o e
  have frn : ∀ L ∈ frs (X.env :: X.outer), L ≠ ce.locals := fun L hL z => hCn (by rw [hs]; rw [← z]; exact hL)
  have fun2 : h2.FunFrames B2 (X.env :: X.outer) := funFrames_none (funs_at hfun fun L hL o e => (sb2 L (frn L hL)).trans e) fun L hL => dom2 L (hfun.mem hL).1
  unfold PySem.passOn
  refine wpAny_bind (wpAny_field e2 t3 t4 ?_)
  have nn : ¬ ((Value.ref T == Value.none) = true) := by simp
  simp only [nn, if_false]
  refine wpAny_bind ?_
  rw [hce, hf]
  refine HandSPX.setFlight_anyZ (base := B2) (Z := L2N.Zn cls d) st2 fun2 ⟨oe, vs, T, oT, ts, e2, t2, t3, t4, dom2 T t5, t6, T2, t8, t9⟩ fun h3 st3 fun3 tr3 up3 => ?_
  refine wpAny_throw (tk _ _ ?_)
  obtain ⟨G3, q1, q2⟩ := restrict h3 fun b => (B2.get? b).isSome || decide (b ∈ frs X.stack)
  have gB : ∀ b o, B2.get? b = some o → G3.get? b = some o := fun b o e => by
    rw [q1 b (by simp [e])]
    exact st3 b o e
  have gF : ∀ b, b ∈ frs X.stack → G3.get? b = h3.get? b := fun b hb => q1 b (by simp [hb])
  have og : ∀ b o, G3.get? b = some o → h3.get? b = some o ∧ ((B2.get? b).isSome = true ∨ b ∈ frs X.stack) := fun b o e => by
    cases q : ((B2.get? b).isSome || decide (b ∈ frs X.stack)) with
    | false => rw [q2 b q] at e; cases e
    | true =>
      rw [q1 b q] at e
      exact ⟨e, by simpa [Bool.or_eq_true] using q⟩
  have UI : Un (frs X.stack) fp H3 H s3.heap s.heap := Ib.base
  have slots : ∀ b o, s3.heap.get? b = some o → H3 b = none → b ∈ frs X.stack → b ∉ fp → ∃ sl, G3.get? b = some { o with slots := sl } := fun b o e n hb hx => by
    obtain ⟨_, o', e', hnf⟩ := I3.stack.mem hb
    rw [e] at e'
    cases e'
    obtain ⟨sl, r1⟩ := UI.slot b o e n hb hx
    obtain ⟨sl2, r2⟩ := ub.slot b _ r1 hb
    obtain ⟨sl3, r3⟩ := up1 b _ r2 hnf
    have r4 : h2.get? b = _ := (sb2 b (fun z => hCn (z ▸ hb))).trans r3
    obtain ⟨sl4, r5⟩ := up3 b _ r4 hnf
    exact ⟨sl4, by rw [gF b hb]; exact r5⟩
  have frfp : ∀ b ∈ frs X.stack, b ∉ fp := fun b hb hx => by
    rw [frsX] at hb
    rcases List.mem_cons.mp hb with z | z
    · exact (f3 b hx).2.1 z
    · exact (f3 b hx).2.2.1 z
  have frnone : ∀ b ∈ frs X.stack, H3 b = none := fun b hb => I3.stkFree b hb
  have hokG : HOk X.prog X.w H' G3 := fun b o e => (hok b o e).stay (fun b' v hb' r => gB b' v (old2 b' v (fun z => by
    rcases hb' with q | q
    · rw [← q, z, hC'] at e; cases e
    · rw [z, hC'] at q; cases q) r)) (fun _ r => r) fun _ _ r => r
  have J : Inv X pins σ H' { s3 with heap := G3, gens := s'.gens, drawn := s'.drawn, toks := s'.toks } := by
    refine I3.call (ch := ce.locals :: fp) (g' := s'.gens) (t' := s'.toks) (d' := s'.drawn) ⟨fun b o e n hb hx => ?_, fun b o e n hb hx => slots b o e n hb (fun z => hx (List.mem_cons_of_mem _ z)), fun b o e n hx => ?_, fun b o e hx => ?_, fun b xs e => ub.tups b xs (UI.tups b xs e), fun b o xs e => ub.frzs b o xs (UI.frzs b o xs e), fun b ps e => ?_⟩ hokG ag (fun b hb => ?_)
    · have hb1 : b ≠ ce.locals := fun z => hx (by rw [z]; exact List.mem_cons_self)
      have r1 := UI.keep b o e n hb (fun z => hx (List.mem_cons_of_mem _ z))
      have r2 := UI.free b o e n (fun z => hx (List.mem_cons_of_mem _ z))
      exact gB b o (old2 b o hb1 (ub.keep b o r1 r2 hb))
    · have hx' : b ∉ fp := fun z => hx (List.mem_cons_of_mem _ z)
      have r2 := UI.free b o e n hx'
      obtain ⟨sl, r1⟩ := UI.any e n hx'
      exact ub.free b _ r1 r2
    · have hx' : b ∉ fp := fun z => hx (List.mem_cons_of_mem _ z)
      by_cases hb : b ∈ frs X.stack
      · obtain ⟨sl, r⟩ := slots b o e (frnone b hb) hb hx'
        exact ⟨_, r⟩
      · obtain ⟨o', r⟩ := UI.there b o e hx'
        obtain ⟨o2, r2⟩ := ub.there b o' r hb
        exact ⟨o2, gB b o2 (old2 b o2 (fun z => hx (by rw [z]; exact List.mem_cons_self)) r2)⟩
    · obtain ⟨more, r⟩ := UI.tbls b ps e
      obtain ⟨more2, r2⟩ := ub.tbls b _ r
      exact ⟨more ++ more2, by rw [r2, Array.append_assoc]⟩
    · rcases List.mem_cons.mp hb with z | z
      · rw [z]
        exact ⟨hfp.2.2.2.1, hfp.2.1, hfp.2.2.2.2.1, hfp.2.2.2.2.2⟩
      · exact ⟨(f3 b z).2.2.2.1, (f3 b z).2.1, (f3 b z).2.2.2.2.1, (f3 b z).2.2.2.2.2⟩
  refine ⟨a, B2, _, pins, σ, H', cls, d, rfl, J, fun b o e hb => ?_, Heap.UpToSlots.of_keeps fun b o e => (og b o e).1, .inr (.inr ?_), na, ?_, ag, hE⟩
  · obtain ⟨e', h⟩ := og b o e
    rcases h with h | h
    · obtain ⟨o', q⟩ := Option.isSome_iff_exists.mp h
      have z := st3 b o' q
      rw [e'] at z
      cases z
      exact q
    · exact absurd h hb
  · rw [hs]
    exact ⟨st3, dom2 a hne, fun3, tr3⟩
  · exact os.trans Ib.os
/-- where a block stands -/
structure BlkAt (X : Cx) (s : Shared) (H : Hp) (C : Addr) (fp : List Addr) : Prop where
  ex : ∃ pins σ, Inv X pins σ H s ∧ ∀ b ∈ fp, FpOk X pins H b
  new : s.heap.objs.size ≤ C
def tLcX (wi : TI) (g : TG) (te : TE) (vs : List Nat) : TE := fun σ H _ => wi σ H fun J H1 => ∀ D, H1 D = none → J.go 0 (upd H1 D (.lst [])) ∧ ∀ x H', J.yld 0 (upd H1 D (.lst [])) x H' → g x (wipe σ vs) H' fun σ2 H2 => te σ2 H2 fun _ _ => False
theorem pe_lcX {X : Cx} {elt tg iter : Expr} {scope : Scope} {own : List (Str × Nat)} {pos : Pos} {wi : TI} {g : TG} {te : TE} (hc : X.calm = true) (hN : X.N.Nodup) (hi : PI X tg iter wi) (ok : BlkOk X.N X.env.scope scope own)
    (hg : ∀ (s : Shared) (H : Hp) (C : Addr) (cl : List (Str × Addr)) (fp : List Addr), PG (blkX X s H scope (compEnvC scope cl C X.env) fp) tg g)
    (he : ∀ (s : Shared) (H : Hp) (C : Addr) (cl : List (Str × Addr)) (fp : List Addr), BlkAt X s H C fp → PE (blkX X s H scope (compEnvC scope cl C X.env) fp) elt te) (hs : ∀ x, foldedSetIterable iter X.env x = pure x := by intro _; rfl) :
    PE X (.ListComp elt [⟨tg, iter, [], 0⟩] scope pos) (tLcX wi g te (own.map (·.2))) := by
  refine ⟨fun pins s σ H Q I h => ?_⟩
  rw [eval_ListComp]
  have hfree : ∀ y ∈ scope.names, y.2 = .free → ∃ c, X.env.cells.lookup y.1 = some c := fun y hy e => by
    rcases ok.free y hy e with k | k
    · exact I.ok.has _ (.inl k)
    · exact I.ok.has _ (.inr k)
  refine comprehension_at (use := none) rfl hs (closure_ok hfree) ok.kind (fun y hy e => by rw [ok.uniq y hy, e])
    (thn (hi.run pins s σ H _ I h) fun xv s1 hx => thn hx fun itv s2 h2 => ?_)
  obtain ⟨it, fp, tn, J, H2, e, I2, T, st2, f2, q⟩ := h2
  subst e
  refine wpAny_newObj_type (newEnv_comp ?_) (by show 0 ≤ sizeLine; decide)
  generalize hD : s2.heap.objs.size = D
  have hDn : H2 D = none := I2.hok.fresh (Nat.le_of_eq hD)
  obtain ⟨go, step⟩ := q D hDn
  generalize hs3 : ({ s2 with heap := s2.heap.push { cls := .type "list", data := .seq ([] : List Value).toArray } } : Shared) = s3
  have I3 : Inv X pins σ (upd H2 D (.lst [])) s3 := by
    rw [← hs3]
    refine I2.laid (t' := s2.toks) (fun b o e => Heap.get?_push_of_some _ e) (Nat.le_of_eq hD) ⟨Nat.zero_le _, [], 0, .nil, ?_⟩
    rw [← hD]
    exact Heap.get?_push_size _ rfl
  have h3 : s3.heap = s2.heap.push { cls := .type "list", data := .seq ([] : List Value).toArray } := by rw [← hs3]
  have sz : ∀ b ∈ fp, b < s2.heap.objs.size := fun b hb => by
    obtain ⟨o, e, _⟩ := T.obj _ _ st2 b hb
    exact Heap.lt_size e
  have f3 : ∀ b ∈ fp, FpOk X pins (upd H2 D (.lst [])) b ∧ b < s3.heap.objs.size := fun b hb => by
    have hlt := sz b hb
    refine ⟨⟨?_, (f2 b hb).2⟩, by rw [h3, Heap.size_push]; exact Nat.lt_succ_of_lt hlt⟩
    rw [upd_ne (by rw [← hD]; exact Nat.ne_of_lt hlt)]
    exact (f2 b hb).1
  have st3 : tn 0 s3.heap := T.keep _ _ _ st2 fun b _ o e => by rw [h3]; exact Heap.get?_push_of_some _ e
  have I4 := inv_blkX (block_start I3 ok hN f3)
  have pg := hg s3 (upd H2 D (.lst [])) s3.heap.objs.size (cellsFrom (s3.heap.objs.size + 1) scope.names (cloFrom X.env.cells scope.names [])) fp
  have pe := he s3 (upd H2 D (.lst [])) s3.heap.objs.size (cellsFrom (s3.heap.objs.size + 1) scope.names (cloFrom X.env.cells scope.names [])) fp ⟨⟨pins, σ, I3, fun b hb => (f3 b hb).1⟩, Nat.le_refl _⟩
  show codeAny _ _ (.compStart (.ListComp elt [⟨tg, iter, [], 0⟩] scope pos) 0 (.ref it) (.ref D) (compEnvC scope (cellsFrom (s3.heap.objs.size + 1) scope.names (cloFrom X.env.cells scope.names [])) s3.heap.objs.size X.env)) (compEnds (model X.prog X.w) X.A X.xe none (EP X pins σ Q) (.ref D) (compEnvC scope (cellsFrom (s3.heap.objs.size + 1) scope.names (cloFrom X.env.cells scope.names [])) s3.heap.objs.size X.env)) { s3 with heap := pushCells (s3.heap.push { cls := .type "dict", data := .dict #[] }) scope.names }
  have nfp : ∀ b ∈ fp, (upd H2 D (.lst [])) b = none := fun b hb => (f3 b hb).1.1
  generalize hce : compEnvC scope (cellsFrom (s3.heap.objs.size + 1) scope.names (cloFrom X.env.cells scope.names [])) s3.heap.objs.size X.env = ce at I4 pg pe ⊢
  generalize hH3 : upd H2 D (.lst []) = H3 at I3 I4 pg pe go step nfp f3
  generalize hs4 : ({ s3 with heap := pushCells (s3.heap.push { cls := .type "dict", data := .dict #[] }) scope.names } : Shared) = s4 at I4 ⊢
  have st4 : tn 0 s4.heap := T.keep _ _ _ st3 fun b _ o e => by rw [← hs4]; exact pushCells_keeps _ _ _ _ (Heap.get?_push_of_some _ e)
  have stat : ∀ {σ' : L2.St} {H' : Hp} {s' : Shared}, Inv (blkX X s3 H3 scope ce fp) [] σ' H' s' → (∀ b ∈ fp, H' b = none) → ∀ b ∈ fp, FpOk (blkX X s3 H3 scope ce fp) [] H' b := fun {σ' H' s'} I' hn b hb =>
    ⟨hn b hb, (I'.ok.exf b hb).1, I'.ok.exfs b hb, .inl hb, fun x c e => (I'.ok.exf b hb).2 x c e, fun p hp => absurd (show p ∈ ([] : List (Addr × Obj)) ++ [] from hp) (by simp)⟩
  have loop : codeAny (model X.prog X.w) X.A (.compLoop (.ListComp elt [⟨tg, iter, [], 0⟩] scope pos) 0 (.ref it) (.ref D) ce) (compEnds (model X.prog X.w) X.A X.xe none (EP X pins σ Q) (.ref D) ce) s4 := by
    refine compLoop_any (fun n s' => s' = s4) ?_ 0 rfl
    rintro n s5 rfl
    have ti := T.item (blkX X s3 H3 scope ce fp) rfl rfl rfl hc 0 [] s5 _ H3 (fun _ _ => False) I4 (stat I4 nfp) st4 go
    refine thnF ti fun r s6 ⟨u, hr, h6⟩ => ?_
    subst hr
    refine thnF h6 fun _ s7 ⟨x, H7, I7, r7, y7, st7, n7⟩ => ?_
    have I7' := I7.pinned (stat I7 n7) (T.obj _ _ st7)
    refine wpAny_mono (pg.run _ s7 _ H7 x u _ I7' r7 (step x H7 y7)) (fun _ s8 ⟨σ8, H8, I8, q8⟩ => ?_) (fun e s e1 => e1)
    refine wpAny_tests_nil ?_
    simp only [if_true]
    exact wpAny_mono (pe.run _ s8 σ8 H8 _ I8 q8) (fun z s10 ⟨yv, H10, I10, r10, hF⟩ => hF.elim) (fun e s e1 => e1)
  exact codeAny_compStart_list loop (T.self X.A 0 _ _ _ st4 loop)
/-! ### rules by data -/
/-- e raises c, where what is raised goes on -/
def EXp (R : Hp → Hp → Prop) (X : Cx) (γ : List Sl) (e : Expr) (c : Value) : Prop :=
  ∀ (H0 : Hp) (S0 : Addr → Prop) (σ : L2.St) (H : Hp) (Q : VK) (W : XK), SI R X.K H0 S0 γ σ H → Passes (L2N.CX X.prog X.w) X W → (∀ H2, R H H2 → W c none H2) → we X e σ H Q
section
variable {R : Hp → Hp → Prop} [RelC R] {X : Cx} {γ : List Sl} {pos : Pos} {P : Po}
theorem exp_call {x : Str} {k n : Nat} {Val : List D → D → Prop} {Exc : List D → Value → Prop} {e : Expr} {es : List Expr} {p : Pos} {ds : List D} {c : Value} (F : Fn X.prog X.w X.K X.mg X.base x k n Val Exc) (hr : Room k X.A) (ha : EA R X γ (e :: es) ds) (hv : Exc ds c) (hn : ds.length = n := by rfl) (hg : Gl X x := by rfl)
    (hdb : (x == ("__debug__" : Str)) = false := by decide) (he : starEach (e :: es) X.env = (false, eval e X.env) :: starEach es X.env := by rfl) (hpl : (backTo pos (starEach es X.env)).any (·.1) = false := by rfl) :
    EXp R X γ (.Call (.Name x p) (e :: es) [] pos) c := fun H0 S0 σ H Q W s tk z => by
  obtain ⟨f, fd, ps, h1, h2, h3, h4⟩ := F.ok
  refine we_of (pe_call (E := W) h1 hr hg h2 h3 h4 .nil tk pa_wa hdb he hpl) (ha H0 S0 σ H _ s fun vs H1 r1 d1 => ?_)
  rw [List.append_nil]
  exact ⟨by rw [dps_len d1]; exact hn, Sx S0 γ σ, ds, sx_dom (s.mono r1), d1, .inr ⟨c, hv, fun H2 sm => z H2 (Rel.more r1 sm)⟩⟩
/-- (a, b): b raises -/
theorem exp_pair {a b : Expr} {x1} {d : D} {c : Value} (ha : EE R X γ a d) (hb : EXp R X γ b c) (hs : starEach [a, b] X.env = (false, eval a X.env) :: starEach [b] X.env := by rfl) (hs2 : starEach [b] X.env = (false, eval b X.env) :: starEach [] X.env := by rfl) : EXp R X γ (.Tuple [a, b] x1 pos) c := fun H0 S0 σ H Q W s tk z =>
  we_of (pe_tup pa_wa) (wa_of (pa_cons pe_we (pa_cons pe_we pa_nil hs2) hs) (ha H0 S0 σ H _ s fun v H1 r1 d1 => hb H0 S0 σ H1 _ W (s.mono r1) tk fun H2 r2 => z H2 (Rel.trans r1 r2)))
/-- x.extend([elt for a, b in iter]): the first element raises -/
theorem s1_extendX (i ja jb : Nat) {x a b : Str} {elt iter : Expr} {scope : Scope} {ds : List D} {d1 d2 : D} {rest : List D} {c : Value} {p apos cpos lpos p1 p2 tp : Pos} {kk : Nat} (hs : X.stack = X.env :: X.outer) (hf : X.env.frame = some X.env.locals) (hc : X.calm = true) (hN : X.N.Nodup) (hab : ja ≠ jb)
    (hit : EI R X γ (.Tuple [.Name a p1, .Name b p2] kk tp) iter (.tuple [d1, d2] :: rest)) (ok : BlkOk X.N X.env.scope scope [(a, ja), (b, jb)])
    (hg : ∀ (s : Shared) (H : Hp) (C : Addr) (cl : List (Str × Addr)) (fp : List Addr), PG (blkX X s H scope (compEnvC scope cl C X.env) fp) (.Tuple [.Name a p1, .Name b p2] kk tp) (gTup X.K 2 (gCons (gName ja) (gCons (gName jb) gNil))))
    (ho1 : ∀ es, γ[ja]? ≠ some (.own es)) (ho2 : ∀ es, γ[jb]? ≠ some (.own es))
    (ht : ∀ (s : Shared) (H : Hp) (C : Addr) (cl : List (Str × Addr)) (fp : List Addr), EXp R (blkX X s H scope (compEnvC scope cl C X.env) fp) ((γ.set ja (.dat d1)).set jb (.dat d2)) elt c) (h : P.rz c)
    (hi : γ[i]? = some (.own (.l ds)) := by rfl) (hNi : X.N[i]? = some x := by rfl)
    (hv : Vis X.env.scope x := by first | exact Or.inl rfl | exact Or.inr (Or.inl rfl) | exact Or.inr (Or.inr rfl)) (hd : (x == ("__debug__" : Str)) = false := by decide) (hcd : (x == ("__classdict__" : Str)) = false := by decide)
    (hbase : attributeBase (.Name x p) "extend" X.env (eval (.Name x p) X.env) = eval (.Name x p) X.env := by rfl)
    (hfew : ((backTo cpos (starEach [.ListComp elt [⟨.Tuple [.Name a p1, .Name b p2] kk tp, iter, [], 0⟩] scope lpos] X.env)).all (fun x => !x.1) && (backToKw cpos (keywordEach [] X.env)).all (fun x => x.1.isSome) && decide (([.ListComp elt [⟨.Tuple [.Name a p1, .Name b p2] kk tp, iter, [], 0⟩] scope lpos] : List Expr).length + ([] : List Keyword).length + (if ([] : List Keyword).isEmpty then 0 else 1) < 30)) = true := by rfl)
    (hline : (apos.endLine == cpos.line) = true := by rfl) (hst : starEach [.ListComp elt [⟨.Tuple [.Name a p1, .Name b p2] kk tp, iter, [], 0⟩] scope lpos] X.env = (false, eval (.ListComp elt [⟨.Tuple [.Name a p1, .Name b p2] kk tp, iter, [], 0⟩] scope lpos) X.env) :: starEach [] X.env := by rfl) (hplain : (backTo cpos (starEach [] X.env)).any (·.1) = false := by rfl)
    (hsw : swapsWith (.Call (.Attribute (.Name x p) "extend" apos) [.ListComp elt [⟨.Tuple [.Name a p1, .Name b p2] kk tp, iter, [], 0⟩] scope lpos] [] cpos) none pos.line X.env = pure false := by rfl) (hfs : ∀ x, foldedSetIterable iter X.env x = pure x := by intro _; rfl) :
    S1 R X γ (.Expr (.Call (.Attribute (.Name x p) "extend" apos) [.ListComp elt [⟨.Tuple [.Name a p1, .Name b p2] kk tp, iter, [], 0⟩] scope lpos] [] cpos) pos) P := fun H0 S0 σ H E W s tk n r bk ct z => by
  obtain ⟨wi, hpi, hwi⟩ := hit
  obtain ⟨l, vs, h1, _, h3, _⟩ := s.own i ds hi
  have pel : ∀ (s : Shared) (H : Hp) (C : Addr) (cl : List (Str × Addr)) (fp : List Addr), BlkAt X s H C fp → PE (blkX X s H scope (compEnvC scope cl C X.env) fp) elt (fun σ' H' Q' => ∀ (s : Shared) (H : Hp) (C : Addr) (cl : List (Str × Addr)) (fp : List Addr), BlkAt X s H C fp → we (blkX X s H scope (compEnvC scope cl C X.env) fp) elt σ' H' Q') := fun s1 H1 C cl fp hB => ⟨fun pins s2 σ2 H2 Q2 I2 h2 => pe_we.run pins s2 σ2 H2 Q2 I2 (h2 s1 H1 C cl fp hB)⟩
  refine ws_of (ps_expr (pe_bm PySem.F.plainAttrs_list PySem.F.slot_list_extend PySem.F.type_list_extend mt_extend (pe_var hNi hv hd hcd) (pa_cons (pe_lcX hc hN hpi ok hg pel hfs) pa_nil hst) hbase hfew hline hst hplain) hsw) ⟨_, h1, .inl ⟨rfl, _, SqL.of h3⟩, hwi H0 S0 σ H _ s fun J H1 r1 itd D hD => ?_⟩
  have s1 := s.mono r1
  have kp : Keep (off (Sx S0 γ σ) H1) (off (fun a => a = D ∨ Sx S0 γ σ a) (upd H1 D (.lst []))) := fun a u e nn => by
    obtain ⟨g1, g2⟩ := off_some e
    have na : a ≠ D := ne_of_none g2 hD
    refine off_of (fun zz => ?_) (by rw [upd_ne na]; exact g2)
    rcases zz with zz | zz
    · exact na zz
    · exact g1 zz
  refine ⟨itd.go 0 _ _ kp (Nat.succ_pos _), fun x' H' hy => ?_⟩
  obtain ⟨sm, dx⟩ := itd.yld 0 _ _ x' H' (.tuple [d1, d2]) kp (fun a q => by
    rcases q with q | q
    · rw [q, upd_same]; exact fun w => nomatch w
    · have := s1.there q
      have na : a ≠ D := fun w => this (by rw [w]; exact hD)
      rw [upd_ne na]
      exact this) hy rfl
  have r2 : R H1 H' := Rel.more s1.ref (Same.trans (same_new hD) sm)
  have hDl2 : H' D = some (.lst []) := sm _ _ upd_same
  have sw := s1.wipe [ja, jb]
  have sa := sw.avoid r2 hD (by rw [hDl2]; exact fun q => nomatch q)
  have subs : ∀ a, Sx (fun a => a = D ∨ S0 a) (wipeS γ [ja, jb]) (L2.wipe σ [ja, jb]) a → a = D ∨ Sx S0 γ σ a := fun a zz => by
    rcases zz with (zz | zz) | zz
    · exact .inl zz
    · exact .inr (.inl zz)
    · have zz' : Sx S0 ((γ.set jb .no).set ja .no) ((σ.set jb none).set ja none) a := .inr zz
      exact .inr (sx_no (i := jb) (v := none) a (sx_no (i := ja) (v := none) a zz'))
  have dx' := dp_keep (off_keep (Keep.refl H') subs) _ _ dx
  cases dx' with
  | tup g1 g2 =>
    cases g2 with
    | cons e1 t1 =>
      cases t1 with
      | cons e2 t2 =>
        cases t2
        rename_i aT v1 v2
        refine ⟨_, _, rfl, sqt_keep off_in g1, rfl, _, _, rfl, _, _, rfl, rfl, fun s4 H4 C cl fp hB => ?_⟩
        have s5 := sa.putDD ja jb e1 e2
        have ew : ((wipeS γ [ja, jb]).set ja (.dat d1)).set jb (.dat d2) = (γ.set ja (.dat d1)).set jb (.dat d2) := by
          show ((((γ.set jb .no).set ja .no).set ja (.dat d1)).set jb (.dat d2)) = _
          rw [List.set_set, List.set_comm _ _ hab.symm, List.set_set]
        rw [ew] at s5
        refine ht s4 H4 C cl fp _ _ _ H' _ W s5 ?_ (fun H2 rr => z c H2 h (Rel.trans (Rel.trans s.rel (Rel.trans r1 r2)) rr))
        intro pins σ' H5 s5' e s6 I5 cx
        obtain ⟨⟨pins0, σ0, I0, f0⟩, hC⟩ := hB
        exact comp_fails hs hf rfl (fun _ => rfl) I0 f0 hC tk I5 cx
end
end An

namespace An
open PySem PySem.Spec PyProof.Rows L2
abbrev PR : Program := PySem.Challenge.pw_abovenought_k30_papers_looked_at
def top (i : Nat) : Stmt := PR.main.body.getD i (.Pass ⟨0, 0, 0, 0⟩)
/-- what stands behind the top -/
structure Hd (K : PySem.W.Frag) (mg : Str → Option Value) (base : Heap) : Prop where
  ns : base.NoSeer
  d_common : FE K mg "common" (top 2)
  d_fraction : FE K mg "fraction" (top 3)
  d_plus : FE K mg "plus" (top 4)
  d_times : FE K mg "times" (top 5)
  d_is_fraction : FE K mg "is_fraction" (top 6)
  d_is_poly : FE K mg "is_poly" (top 15)
  d_need_poly : FE K mg "need_poly" (top 16)
  d_trimmed : FE K mg "trimmed" (top 17)
  d_tellable : FE K mg "tellable" (top 18)
  d_fraction_at : FE K mg "fraction_at" (top 19)
  d_added : FE K mg "added" (top 20)
  d_scaled : FE K mg "scaled" (top 21)
  d_multiplied : FE K mg "multiplied" (top 22)
  d_sum_by : FE K mg "sum_by" (top 24)
  d_is_paper : FE K mg "is_paper" (top 25)
  d_shows : FE K mg "shows" (top 26)
  d_paper_sum : FE K mg "paper_sum" (top 27)
  d_paper_product : FE K mg "paper_product" (top 28)
  d__law_cell : FE K mg "_law_cell" (top 30)
  d__law_drawn : FE K mg "_law_drawn" (top 31)
  d__law_word : FE K mg "_law_word" (top 32)
  d__law_told : FE K mg "_law_told" (top 33)
  d__law_made : FE K mg "_law_made" (top 34)
  d__law_plus : FE K mg "_law_plus" (top 35)
  d__law_times : FE K mg "_law_times" (top 36)
  d__law_less : FE K mg "_law_less" (top 37)
  d__law_trim : FE K mg "_law_trim" (top 38)
  d__law_sum : FE K mg "_law_sum" (top 39)
  d__law_product : FE K mg "_law_product" (top 40)
  d__law_worth : FE K mg "_law_worth" (top 41)
  d__law_fraction : FE K mg "_law_fraction" (top 42)
  d__law_poly : FE K mg "_law_poly" (top 43)
  d__law_paper_sum : FE K mg "_law_paper_sum" (top 44)
  d__law_is_paper : FE K mg "_law_is_paper" (top 45)
  d__law_paper : FE K mg "_law_paper" (top 46)
  d_law : FE K mg "law" (top 47)
  g_law : mg "law" = some (.ref (He.ga K "law"))
  b_ValueError : mg "ValueError" = none
  b_abs : mg "abs" = none
  b_all : mg "all" = none
  b_bool : mg "bool" = none
  b_enumerate : mg "enumerate" = none
  b_int : mg "int" = none
  b_isinstance : mg "isinstance" = none
  b_len : mg "len" = none
  b_list : mg "list" = none
  b_max : mg "max" = none
  b_min : mg "min" = none
  b_range : mg "range" = none
  b_sum : mg "sum" = none
  b_tuple : mg "tuple" = none
  b_zip : mg "zip" = none
  e_NoughtError : Err K mg "NoughtError" (He.ga K "NoughtError")
  e_BadPoly : Err K mg "BadPoly" (He.ga K "BadPoly")
  e_NoWay : Err K mg "NoWay" (He.ga K "NoWay")
  e_BadStretch : Err K mg "BadStretch" (He.ga K "BadStretch")
  e_BadForm : Err K mg "BadForm" (He.ga K "BadForm")
  c_BadPoly : ExcC K (He.ga K "BadPoly")
  x_BadPoly : PySem.W.exmOne K (.ref (He.ga K "BadPoly")) (.ref (He.ga K "NoughtError")) = some true
  v_BadPoly : PySem.W.kitOne K (.ref (He.ga K "BadPoly")) (.type "ValueError") = some true
  i_BadPoly_BadPoly : PySem.W.kitOne K (.ref (He.ga K "BadPoly")) (.ref (He.ga K "BadPoly")) = some true
  i_BadPoly_NoWay : PySem.W.kitOne K (.ref (He.ga K "BadPoly")) (.ref (He.ga K "NoWay")) = some false
  i_BadPoly_BadStretch : PySem.W.kitOne K (.ref (He.ga K "BadPoly")) (.ref (He.ga K "BadStretch")) = some false
  i_BadPoly_BadForm : PySem.W.kitOne K (.ref (He.ga K "BadPoly")) (.ref (He.ga K "BadForm")) = some false
  c_NoWay : ExcC K (He.ga K "NoWay")
  x_NoWay : PySem.W.exmOne K (.ref (He.ga K "NoWay")) (.ref (He.ga K "NoughtError")) = some true
  v_NoWay : PySem.W.kitOne K (.ref (He.ga K "NoWay")) (.type "ValueError") = some true
  i_NoWay_BadPoly : PySem.W.kitOne K (.ref (He.ga K "NoWay")) (.ref (He.ga K "BadPoly")) = some false
  i_NoWay_NoWay : PySem.W.kitOne K (.ref (He.ga K "NoWay")) (.ref (He.ga K "NoWay")) = some true
  i_NoWay_BadStretch : PySem.W.kitOne K (.ref (He.ga K "NoWay")) (.ref (He.ga K "BadStretch")) = some false
  i_NoWay_BadForm : PySem.W.kitOne K (.ref (He.ga K "NoWay")) (.ref (He.ga K "BadForm")) = some false
  c_BadStretch : ExcC K (He.ga K "BadStretch")
  x_BadStretch : PySem.W.exmOne K (.ref (He.ga K "BadStretch")) (.ref (He.ga K "NoughtError")) = some true
  v_BadStretch : PySem.W.kitOne K (.ref (He.ga K "BadStretch")) (.type "ValueError") = some true
  i_BadStretch_BadPoly : PySem.W.kitOne K (.ref (He.ga K "BadStretch")) (.ref (He.ga K "BadPoly")) = some false
  i_BadStretch_NoWay : PySem.W.kitOne K (.ref (He.ga K "BadStretch")) (.ref (He.ga K "NoWay")) = some false
  i_BadStretch_BadStretch : PySem.W.kitOne K (.ref (He.ga K "BadStretch")) (.ref (He.ga K "BadStretch")) = some true
  i_BadStretch_BadForm : PySem.W.kitOne K (.ref (He.ga K "BadStretch")) (.ref (He.ga K "BadForm")) = some false
  c_BadForm : ExcC K (He.ga K "BadForm")
  x_BadForm : PySem.W.exmOne K (.ref (He.ga K "BadForm")) (.ref (He.ga K "NoughtError")) = some true
  v_BadForm : PySem.W.kitOne K (.ref (He.ga K "BadForm")) (.type "ValueError") = some true
  i_BadForm_BadPoly : PySem.W.kitOne K (.ref (He.ga K "BadForm")) (.ref (He.ga K "BadPoly")) = some false
  i_BadForm_NoWay : PySem.W.kitOne K (.ref (He.ga K "BadForm")) (.ref (He.ga K "NoWay")) = some false
  i_BadForm_BadStretch : PySem.W.kitOne K (.ref (He.ga K "BadForm")) (.ref (He.ga K "BadStretch")) = some false
  i_BadForm_BadForm : PySem.W.kitOne K (.ref (He.ga K "BadForm")) (.ref (He.ga K "BadForm")) = some true
  k_NOUGHT : KD K mg "NOUGHT" (eF 0)
  k_MOST : KD K mg "MOST" (.int 13)

section
variable {w : World} {K : PySem.W.Frag} {mg : Str → Option Value} {base : Heap}
/-! ### fractions -/
theorem sc_common : FnScope ["one", "other"] ["one", "other"] (defScope (top 2)) := ⟨rfl, rfl, rfl, by decide +kernel, rfl, by decide +kernel, by decide +kernel⟩
theorem fn_common (h : Hd K mg base) : Fn PR w K mg base "common" 41 2 vCommon noX := by
  obtain ⟨f, fd, F, hm⟩ := h.d_common
  refine fn_mk F sc_common hm (F.bindsN fun _ _ _ _ _ _ us hl => match us, hl with | [_, _], _ => rfl) h.ns rfl (by decide) rfl (fun cdv A outer s H E X hX gx hp ds hl => ?_)
  subst hX
  have nd := sc_common.nd
  refine ⟨fun d hv => ?_, fun c hc => hc.elim⟩
  obtain ⟨a, b, rfl, rfl⟩ := hv
  refine ss_cons (s1_while (fun m γ => ∃ a' b' : Nat, γ = [.dat (.int a'), .dat (.int b')] ∧ Nat.gcd a' b' = Nat.gcd a b ∧ m = b') b ⟨a, b, rfl, rfl, rfl⟩ (fun m γ hI => ?_) hp)
  obtain ⟨a', b', rfl, hg, e⟩ := hI
  subst e
  refine ⟨_, et_cmp (ee_var 1) ee_int od_gt (nomark _), fun hk => ?_, fun hk => ?_⟩
  · have hb : 0 < m := by
      have := of_decide_eq_true hk
      omega
    refine ss_one (s1_par 0 1 (ee_var 1) (ee_op (ee_var 0) (ee_var 1) (od_mod ?_)) ?_ rfl nd)
    · omega
    · refine ⟨a' % m, Nat.mod_lt _ hb, m, a' % m, rfl, ?_, rfl⟩
      rw [← hg, Nat.gcd_comm a' m, Nat.gcd_rec m a', Nat.gcd_comm]
  · have hb : m = 0 := by
      have := of_decide_eq_false hk
      omega
    subst hb
    refine ss_one (s1_ret (ee_var 0) ?_)
    rw [← hg, Nat.gcd_zero_right]
theorem sc_fraction : FnScope ["top", "under", "part"] ["top", "under"] (defScope (top 3)) := ⟨rfl, rfl, rfl, by decide +kernel, rfl, by decide +kernel, by decide +kernel⟩
theorem fn_fraction (h : Hd K mg base) : Fn PR w K mg base "fraction" 42 2 vFraction noX := by
  obtain ⟨f, fd, F, hm⟩ := h.d_fraction
  refine fn_mk F sc_fraction hm (F.bindsN fun _ _ _ _ _ _ us hl => match us, hl with | [_, _], _ => rfl) h.ns rfl (by decide) rfl (fun cdv A outer s H E X hX gx hp ds hl => ?_)
  subst hX
  have nd := sc_fraction.nd
  refine ⟨fun d hv => ?_, fun c hc => hc.elim⟩
  obtain ⟨t, u, rfl, hu, rfl⟩ := hv
  have rest : ∀ (t' : Int) (u' : Nat), 0 < u' → mkRat t' u' = Rat.divInt t u → SS Same (cxOf (L2N.CX PR w) PR w K mg base _ "fraction" (defScope (top 3)) f cdv A outer s H E) [.dat (.int t'), .dat (.int (u' : Nat)), .no] ((defBody (top 3)).drop 1) { rt := fun e => e = eF (Rat.divInt t u), nx := fun _ => eF (Rat.divInt t u) = .none } := fun t' u' h0 he => by
    have hg : 0 < Nat.gcd t'.natAbs u' := Nat.gcd_pos_of_pos_right _ h0
    refine ss_cons (s1_set 2 (ee_call (fn_common h) (gx.room.mono (by decide)) (ea_cons (ee_abs (ee_var 0) h.b_abs) (ea_cons (ee_var 1) ea_nil)) ⟨_, _, rfl, rfl⟩) ?_ nd)
    refine ss_one (s1_ret (ee_tup (ea_cons (ee_op (ee_var 0) (ee_var 2) (od_fdiv gx ?_)) (ea_cons (ee_op (ee_var 1) (ee_var 2) (od_fdiv gx ?_)) ea_nil))) ?_)
    · omega
    · omega
    · rw [← he]
      exact made_eq h0
  refine ss_cons (s1_if (et_cmp (ee_var 1) ee_int od_lt (nomark _)) (fun hk => ?_) (fun hk => ?_))
  · have hu' : u < 0 := of_decide_eq_true hk
    refine ss_cons (s1_set 0 (ee_op ee_int (ee_var 0) od_sub) ?_ nd)
    refine ss_one (s1_set 1 (ee_op ee_int (ee_var 1) od_sub) ?_ nd)
    have e : (0 - u) = ((0 - u).toNat : Int) := by omega
    show SS Same _ [.dat (.int (0 - t)), .dat (.int (0 - u)), .no] _ _
    rw [e]
    refine rest _ _ (by omega) ?_
    rw [← Rat.divInt_ofNat, ← e, Int.zero_sub, Int.zero_sub, Rat.neg_divInt_neg]
  · have hu' : ¬ u < 0 := of_decide_eq_false hk
    refine ss_nil ?_
    have e : u = (u.toNat : Int) := by omega
    show SS Same _ [.dat (.int t), .dat (.int u), .no] _ _
    have q := rest t u.toNat (by omega) (by rw [← Rat.divInt_ofNat, ← e])
    rw [← e] at q
    exact q
/-- two fractions of together few enough bits -/
theorem sc_plus : FnScope ["one", "other"] ["one", "other"] (defScope (top 4)) := ⟨rfl, rfl, rfl, by decide +kernel, rfl, by decide +kernel, by decide +kernel⟩
theorem fn_plus (h : Hd K mg base) : Fn PR w K mg base "plus" 43 2 (Bin fun a b => a + b) noX := by
  obtain ⟨f, fd, F, hm⟩ := h.d_plus
  refine fn_mk F sc_plus hm (F.bindsN fun _ _ _ _ _ _ us hl => match us, hl with | [_, _], _ => rfl) h.ns rfl (by decide) rfl (fun cdv A outer s H E X hX gx hp ds hl => ?_)
  subst hX
  have nd := sc_plus.nd
  refine ⟨fun d hv => ?_, fun c hc => hc.elim⟩
  obtain ⟨a, b, n, m, rfl, ha, hb, hl, rfl⟩ := hv
  refine ss_one (s1_ret (ee_call (fn_fraction h) (gx.room.mono (by decide)) (ea_cons (ee_op (ee_op (ee_ix (ee_var 0) ee_int rfl) (ee_ix (ee_var 1) ee_int rfl) (od_mul (mulx ha.1 (by simpa using hb.2) hl))) (ee_op (ee_ix (ee_var 1) ee_int rfl) (ee_ix (ee_var 0) ee_int rfl) (od_mul (mulx hb.1 (by simpa using ha.2) (by omega)))) od_add)
    (ea_cons (ee_op (ee_ix (ee_var 0) ee_int rfl) (ee_ix (ee_var 1) ee_int rfl) (od_mul (mulx (by simpa using ha.2) (by simpa using hb.2) hl))) ea_nil)) ⟨_, _, rfl, ?_, rfl⟩) ?_)
  · have h1 := a.den_pos
    have h2 := b.den_pos
    rw [← Int.natCast_mul]
    exact Int.natCast_ne_zero.mpr (Nat.ne_of_gt (Nat.mul_pos h1 h2))
  · rw [← Int.natCast_mul, Rat.divInt_ofNat, ← Rat.add_def']
theorem sc_times : FnScope ["one", "other"] ["one", "other"] (defScope (top 5)) := ⟨rfl, rfl, rfl, by decide +kernel, rfl, by decide +kernel, by decide +kernel⟩
theorem fn_times (h : Hd K mg base) : Fn PR w K mg base "times" 43 2 (Bin fun a b => a * b) noX := by
  obtain ⟨f, fd, F, hm⟩ := h.d_times
  refine fn_mk F sc_times hm (F.bindsN fun _ _ _ _ _ _ us hl => match us, hl with | [_, _], _ => rfl) h.ns rfl (by decide) rfl (fun cdv A outer s H E X hX gx hp ds hl => ?_)
  subst hX
  have nd := sc_times.nd
  refine ⟨fun d hv => ?_, fun c hc => hc.elim⟩
  obtain ⟨a, b, n, m, rfl, ha, hb, hl, rfl⟩ := hv
  refine ss_one (s1_ret (ee_call (fn_fraction h) (gx.room.mono (by decide)) (ea_cons (ee_op (ee_ix (ee_var 0) ee_int rfl) (ee_ix (ee_var 1) ee_int rfl) (od_mul (mulx ha.1 hb.1 hl)))
    (ea_cons (ee_op (ee_ix (ee_var 0) ee_int rfl) (ee_ix (ee_var 1) ee_int rfl) (od_mul (mulx (by simpa using ha.2) (by simpa using hb.2) hl))) ea_nil)) ⟨_, _, rfl, ?_, rfl⟩) ?_)
  · have h1 := a.den_pos
    have h2 := b.den_pos
    rw [← Int.natCast_mul]
    exact Int.natCast_ne_zero.mpr (Nat.ne_of_gt (Nat.mul_pos h1 h2))
  · rw [← Int.natCast_mul, Rat.divInt_ofNat, ← Rat.mul_def']


theorem sc_is_fraction : FnScope ["thing", "part"] ["thing"] (defScope (top 6)) := ⟨rfl, rfl, rfl, by decide +kernel, rfl, by decide +kernel, by decide +kernel⟩
theorem fn_is_fraction (h : Hd K mg base) : Fn PR w K mg base "is_fraction" 43 1 vIsF noX := by
  obtain ⟨f, fd, F, hm⟩ := h.d_is_fraction
  refine fn_mk F sc_is_fraction hm (F.bindsN fun _ _ _ _ _ _ us hl => match us, hl with | [_], _ => rfl) h.ns rfl (by decide) rfl (fun cdv A outer s H E X hX gx hp ds hl => ?_)
  subst hX
  have nd := sc_is_fraction.nd
  refine ⟨fun d hv => ?_, fun c hc => hc.elim⟩
  obtain ⟨x, rfl, rfl⟩ := hv
  refine ss_cons (s1_if (ew_et (ew_or (et_not (et_val (ee_isi "tuple" (ee_var 0) (.inl rfl) h.b_isinstance h.b_tuple PyProof.Rows.boot_tuple))) (q := decide (((itemsD x).getD []).length ≠ 2)) (fun hk => ew_or1 ?_))) (fun hk => ?_) (fun hk => ?_))
  · obtain ⟨ys, rfl⟩ := isT_tuple (x := x) (by simpa using hk)
    refine et_is (et_cmp (ee_len (ee_var 0) rfl h.b_len) ee_int (od_neI gx) (nomark _)) ?_
    exact decide_eq_decide.mpr ⟨fun z q => z (by rw [show ys.length = 2 from q]; rfl), fun z q => z (by have : (ys.length : Int) = 2 := q; show ys.length = 2; omega)⟩
  · refine ss_one (s1_ret ee_bl ?_)
    have : isF x = false := by
      cases hf : isF x with
      | false => rfl
      | true =>
        obtain ⟨q, rfl⟩ := isF_some hf
        simp [eF, isN, tyN, itemsD] at hk
    rw [this]
  · rw [Bool.or_eq_false_iff] at hk
    obtain ⟨ys, rfl⟩ := isT_tuple (x := x) (by simpa using hk.1)
    have hl2 : ys.length = 2 := by
      have := of_decide_eq_false hk.2
      exact Decidable.not_not.mp this
    obtain ⟨a, b, rfl⟩ : ∃ a b, ys = [a, b] := by
      match ys, hl2 with
      | [a, b], _ => exact ⟨a, b, rfl⟩
    refine ss_nil (ss_cons (s1_if (et_not (et_val (ee_all (bs := [isI a, isI b]) (ee_is (ef_ee (ef_map "part" 1 (fun d => .bool (isI d)) rfl nd (ei_tup (ee_var 0)) (blkOk_by (own := [("part", 1)]) (N := ["thing", "part"]) (sc := defScope (top 6)) (by decide +kernel)) (fun _ _ _ _ _ => pg_name (i := 1) nd rfl (Or.inl rfl)) (fun es z => nomatch z) (fun d hd s1 H1 C1 cl1 fp1 => ?_) (Nat.le_of_ble_eq_true rfl))) rfl) rfl h.b_all))) (fun hk2 => ?_) (fun hk2 => ?_)))
    · rw [← isI_eq]
      exact ee_and (ee_isi "int" (ee_var 1) (.inr (.inr (.inl rfl))) h.b_isinstance h.b_int PyProof.Rows.boot_int) (fun _ => ee_one (ee_not (ee_isi "bool" (ee_var 1) (.inr (.inr (.inr (.inl rfl)))) h.b_isinstance h.b_bool PyProof.Rows.boot_bool)))
    · refine ss_one (s1_ret ee_bl ?_)
      have : isF (.tuple [a, b]) = false := by
        cases a <;> cases b <;> simp_all [isF, isI]
      rw [this]
    · obtain ⟨t, rfl⟩ : ∃ t, a = .int t := by
        cases a with
        | int t => exact ⟨t, rfl⟩
        | _ => simp [isI] at hk2
      obtain ⟨u, rfl⟩ : ∃ u, b = .int u := by
        cases b with
        | int u => exact ⟨u, rfl⟩
        | _ => simp [isI] at hk2
      refine ss_nil (ss_one (s1_ret (ee_and (ee_cmp (ee_ix (ee_var 0) ee_int rfl) ee_int od_gt (nomark _)) (q := Nat.gcd t.natAbs u.natAbs == 1) (fun hp0 => ee_one ?_)) ?_))
      · have h0 : 0 < u := of_decide_eq_true hp0
        have e : u = (u.natAbs : Nat) := by omega
        refine ee_is (ee_cmp (ee_call (fn_common h) (gx.room.mono (by decide)) (ea_cons (ee_abs (ee_ix (ee_var 0) ee_int rfl) h.b_abs) (ea_cons (ee_ix (ee_var 0) ee_int rfl) ea_nil)) ⟨t.natAbs, u.natAbs, by rw [← e], rfl⟩) ee_int (od_eqI gx) (nomark _)) ?_
        congr 1
        by_cases hz : Nat.gcd t.natAbs u.natAbs = 1
        · rw [hz]
          rfl
        · rw [decide_eq_false (by omega)]
          exact (beq_eq_false_iff_ne.mpr hz).symm
      · rfl


theorem sc_is_poly : FnScope ["thing", "one"] ["thing"] (defScope (top 15)) := ⟨rfl, rfl, rfl, by decide +kernel, rfl, by decide +kernel, by decide +kernel⟩
theorem fn_is_poly (h : Hd K mg base) : Fn PR w K mg base "is_poly" 44 1 vIsP noX := by
  obtain ⟨f, fd, F, hm⟩ := h.d_is_poly
  refine fn_mk F sc_is_poly hm (F.bindsN fun _ _ _ _ _ _ us hl => match us, hl with | [_], _ => rfl) h.ns rfl (by decide) rfl (fun cdv A outer s H E X hX gx hp ds hl => ?_)
  subst hX
  have nd := sc_is_poly.nd
  refine ⟨fun d hv => ?_, fun c hc => hc.elim⟩
  obtain ⟨x, rfl, rfl⟩ := hv
  let ys : List D := (itemsD x).getD []
  refine ss_cons (s1_if (ew_et (ew_or (et_not (et_val (ee_isi "list" (ee_var 0) (.inr (.inl rfl)) h.b_isinstance h.b_list PyProof.Rows.boot_list))) (q := decide (13 < ys.length) || !ys.all isF) (fun hk => ?_))) (fun hk => ?_) (fun hk => ?_))
  · obtain ⟨zs, rfl⟩ := isT_list (x := x) (by simpa using hk)
    refine ew_or (et_is (et_cmp (ee_len (ee_var 0) rfl h.b_len) (ee_glob h.k_MOST) od_gt (nomark _)) ?_) (fun hl => ew_or1 ?_)
    · exact decide_eq_decide.mpr ⟨fun (z : (13 : Int) < (zs.length : Int)) => show 13 < zs.length by omega, fun (z : 13 < zs.length) => show (13 : Int) < (zs.length : Int) by omega⟩
    · have hl' : zs.length ≤ 13 := by
        have := of_decide_eq_false hl
        show zs.length ≤ 13
        exact Nat.le_of_not_lt this
      refine et_not (et_is (et_val (ee_all (bs := zs.map isF) (ee_is (ef_ee (ef_map "one" 1 (fun d => .bool (isF d)) rfl nd (ei_list (ee_var 0)) (blkOk_by (own := [("one", 1)]) (N := ["thing", "one"]) (sc := defScope (top 15)) (by decide +kernel)) (fun _ _ _ _ _ => pg_name (i := 1) nd rfl (Or.inl rfl)) (fun es z => nomatch z) (fun d hd s1 H1 C1 cl1 fp1 => ?_) (by omega))) ?_) rfl h.b_all)) ?_)
      · exact ee_call (fn_is_fraction h) (gx.room.mono (by decide)) (ea_cons (ee_var 1) ea_nil) ⟨d, rfl, rfl⟩
      · rw [List.map_map]
        rfl
      · show (zs.map isF).all id = zs.all isF
        rw [List.all_map]
        rfl
  · refine ss_one (s1_ret ee_bl ?_)
    have : isPo x = false := by
      cases hf : isPo x with
      | false => rfl
      | true =>
        obtain ⟨p, rfl, h1, h2⟩ := isPo_some hf
        have h3 : (p.map eF).all isF = true := by
          rw [List.all_eq_true]
          intro d hd
          obtain ⟨q, _, rfl⟩ := List.mem_map.mp hd
          exact isF_eF q
        have h4 : ys = p.map eF := rfl
        rw [h4, h3, List.length_map] at hk
        simp [eP, isN, tyN] at hk
        omega
    rw [this]
  · rw [Bool.or_eq_false_iff, Bool.or_eq_false_iff] at hk
    obtain ⟨zs, rfl⟩ := isT_list (x := x) (by simpa using hk.1)
    have hl' : zs.length ≤ 13 := Nat.le_of_not_lt (of_decide_eq_false hk.2.1)
    have ha : zs.all isF = true := by
      have z : (!zs.all isF) = false := hk.2.2
      simpa using z
    obtain ⟨p, rfl⟩ := all_isF ha
    rw [List.length_map] at hl'
    refine ss_nil (ss_one (s1_ret (ee_or (ee_cmp (ee_var 0) (ee_is (ee_lst ea_nil) (show _ = eP [] from rfl)) (od_eqP (a := p) gx) (nomark _)) (q := decide (coef p (p.length - 1) ≠ 0)) (fun hq => ee_one ?_)) ?_))
    · have hne : p ≠ [] := of_decide_eq_false hq
      have hpos : 0 < p.length := List.length_pos_iff.mpr hne
      refine ee_cmp (ee_ix (d := eF (coef p (p.length - 1))) (ee_var 0) (ee_neg ee_int) ?_) (ee_glob h.k_NOUGHT) (od_neF gx) (nomark _)
      show atI (p.map eF) (-1) = _
      unfold atI ixN
      rw [List.length_map, if_neg (by decide), if_pos (by omega)]
      show (p.map eF)[(-1 + (p.length : Int)).toNat]? = _
      rw [show (-1 + (p.length : Int)).toNat = p.length - 1 by omega, List.getElem?_map, List.getElem?_eq_getElem (by omega), coef_in (by omega)]
      rfl
    · show PyData.bool (decide (p = []) || decide (coef p (p.length - 1) ≠ 0)) = .bool (isPo (eP p))
      rw [isPo_eP, decide_eq_true hl', Bool.true_and]
      congr 1
      rw [← Bool.decide_or]
      exact decide_eq_decide.mpr own_iff.symm


theorem sc_need_poly : FnScope ["thing"] ["thing"] (defScope (top 16)) := ⟨rfl, rfl, rfl, by decide +kernel, rfl, by decide +kernel, by decide +kernel⟩
theorem fn_need_poly (h : Hd K mg base) : Fn PR w K mg base "need_poly" 45 1 vNeedP (xNeedP K) := by
  obtain ⟨f, fd, F, hm⟩ := h.d_need_poly
  refine fn_mk F sc_need_poly hm (F.bindsN fun _ _ _ _ _ _ us hl => match us, hl with | [_], _ => rfl) h.ns rfl (by decide) rfl (fun cdv A outer s H E X hX gx hp ds hl => ?_)
  subst hX
  have nd := sc_need_poly.nd
  refine ⟨fun d hv => ?_, fun c hc => ?_⟩
  · obtain ⟨x, rfl, hx, rfl⟩ := hv
    refine ss_one (s1_if (et_is (et_not (et_val (ee_call (fn_is_poly h) (gx.room.mono (by decide)) (ea_cons (ee_var 0) ea_nil) ⟨x, rfl, rfl⟩))) (b' := false) (by rw [hx]; rfl)) (fun hk => nomatch hk) (fun hk => ss_nil rfl))
  · obtain ⟨x, rfl, hx, rfl⟩ := hc
    refine ss_one (s1_if (et_is (et_not (et_val (ee_call (fn_is_poly h) (gx.room.mono (by decide)) (ea_cons (ee_var 0) ea_nil) ⟨x, rfl, rfl⟩))) (b' := true) (by rw [hx]; rfl)) (fun hk => ss_one (s1_raise h.e_BadPoly rfl rfl)) (fun hk => nomatch hk))


theorem ix_eP {p : Poly} {i : Nat} (h : i < p.length) : ixD (eP p) (i : Int) = some (eF (coef p i)) := by
  show atI (p.map eF) (i : Int) = _
  rw [coef_in h]
  refine atI_nat ?_
  rw [List.getElem?_map, List.getElem?_eq_getElem h]
  rfl
theorem sc_trimmed : FnScope ["some", "many"] ["some"] (defScope (top 17)) := ⟨rfl, rfl, rfl, by decide +kernel, rfl, by decide +kernel, by decide +kernel⟩
theorem fnn_trimmed (h : Hd K mg base) : FnN PR w K mg base "trimmed" 43 1 vTrim noX := by
  obtain ⟨f, fd, F, hm⟩ := h.d_trimmed
  refine fnn_mk (fun _ _ ⟨_, _, _, e⟩ => ⟨_, e⟩) F sc_trimmed hm (F.bindsN fun _ _ _ _ _ _ us hl => match us, hl with | [_], _ => rfl) h.ns rfl (by decide) rfl (fun cdv A outer s H E X hX gx hp ds hl => ?_)
  subst hX
  have nd := sc_trimmed.nd
  refine ⟨fun d hv => ?_, fun c hc => hc.elim⟩
  obtain ⟨p, rfl, hl, rfl⟩ := hv
  refine ss_cons (s1_set 1 (ee_len (ee_var 0) (n := p.length) (by simp [eP, lenD]) h.b_len) ?_ nd)
  refine ss_cons (s1_while (fun m γ => γ = [.dat (eP p), .dat (.int (m : Nat))] ∧ m ≤ p.length ∧ ∀ i, m ≤ i → coef p i = 0) p.length ⟨rfl, Nat.le_refl _, fun i hi => coef_out hi⟩ (fun m γ hI => ?_) hp)
  obtain ⟨rfl, hm1, hm2⟩ := hI
  refine ⟨decide (0 < m) && decide (coef p (m - 1) = 0), ew_et (ew_and (et_is (et_cmp (ee_var 1) ee_int od_gt (nomark _)) ?_) (fun hk => ew_and1 ?_)), fun hk => ?_, fun hk => ?_⟩
  · exact decide_eq_decide.mpr ⟨fun (z : (0 : Int) < (m : Int)) => by omega, fun z => show (0 : Int) < (m : Int) by omega⟩
  · have h0 : 0 < m := of_decide_eq_true hk
    refine et_cmp (ee_ix (d := eF (coef p (m - 1))) (ee_var 0) (ee_op (ee_var 1) ee_int od_sub) ?_) (ee_glob h.k_NOUGHT) (od_eqF gx) (nomark _)
    rw [show (m : Int) - 1 = ((m - 1 : Nat) : Int) by omega]
    exact ix_eP (by omega)
  · rw [Bool.and_eq_true] at hk
    have h0 : 0 < m := of_decide_eq_true hk.1
    have h1 : coef p (m - 1) = 0 := of_decide_eq_true hk.2
    refine ss_one (s1_set 1 (ee_is (ee_op (ee_var 1) ee_int od_sub) (show _ = PyData.int ((m - 1 : Nat) : Int) by congr 1; omega)) ?_ nd)
    refine ⟨m - 1, by omega, rfl, by omega, fun i hi => ?_⟩
    by_cases hm : i = m - 1
    · rw [hm]
      exact h1
    · exact hm2 i (by omega)
  · rw [Bool.and_eq_false_iff] at hk
    refine ss_one (s1_retF (ds := (p.take m).map eF) (ef_is (ef_slice (ee_var 0) eo_none (eo_some (ee_var 1))) ?_) ?_)
    · show cutD (p.map eF) none (some (m : Int)) = _
      unfold cutD
      rw [HT.sIx_none, List.length_map, show HT.sIx p.length p.length (some (m : Int)) = min m p.length from HT.sIx_nat p.length p.length m, List.drop_zero, Nat.sub_zero, Nat.min_eq_left hm1, List.map_take]
    · show eP (p.take m) = eP (trim p)
      rw [trim_take hm2 ?_ hm1]
      rcases hk with hk | hk
      · left
        have := of_decide_eq_false hk
        omega
      · right
        exact of_decide_eq_false hk

theorem fn_trimmed (h : Hd K mg base) : Fn PR w K mg base "trimmed" 43 1 vTrim noX := (fnn_trimmed h).fn

theorem sc_tellable : FnScope ["poly"] ["poly"] (defScope (top 18)) := ⟨rfl, rfl, rfl, by decide +kernel, rfl, by decide +kernel, by decide +kernel⟩
theorem fn_tellable (h : Hd K mg base) : Fn PR w K mg base "tellable" 46 1 vTell (xNeedP K) := by
  obtain ⟨f, fd, F, hm⟩ := h.d_tellable
  refine fn_mk F sc_tellable hm (F.bindsN fun _ _ _ _ _ _ us hl => match us, hl with | [_], _ => rfl) h.ns rfl (by decide) rfl (fun cdv A outer s H E X hX gx hp ds hl => ?_)
  subst hX
  have nd := sc_tellable.nd
  refine ⟨fun d hv => ?_, fun c hc => ?_⟩
  · obtain ⟨x, rfl, hx, rfl⟩ := hv
    refine ss_cons (s1_expr (ee_call (fn_need_poly h) (gx.room.mono (by decide)) (ea_cons (ee_var 0) ea_nil) ⟨d, rfl, hx, rfl⟩) ?_)
    exact ss_one (s1_ret (ee_var 0) rfl)
  · obtain ⟨x, rfl, hx, rfl⟩ := hc
    exact ss_cons (s1_raises (fn_need_poly h) (gx.room.mono (by decide)) (ea_cons (ee_var 0) ea_nil) ⟨x, rfl, hx, rfl⟩ rfl)
theorem sc_fraction_at : FnScope ["poly", "place"] ["poly", "place"] (defScope (top 19)) := ⟨rfl, rfl, rfl, by decide +kernel, rfl, by decide +kernel, by decide +kernel⟩
theorem fn_fraction_at (h : Hd K mg base) : Fn PR w K mg base "fraction_at" 42 2 vAt noX := by
  obtain ⟨f, fd, F, hm⟩ := h.d_fraction_at
  refine fn_mk F sc_fraction_at hm (F.bindsN fun _ _ _ _ _ _ us hl => match us, hl with | [_, _], _ => rfl) h.ns rfl (by decide) rfl (fun cdv A outer s H E X hX gx hp ds hl => ?_)
  subst hX
  have nd := sc_fraction_at.nd
  refine ⟨fun d hv => ?_, fun c hc => hc.elim⟩
  obtain ⟨p, i, rfl, rfl⟩ := hv
  refine ss_one (s1_ret (ee_if (et_cmp (ee_var 1) (ee_len (ee_var 0) (n := p.length) (by simp [eP, lenD]) h.b_len) od_lt (nomark _)) (fun hk => ?_) (fun hk => ?_)) rfl)
  · have : (i : Int) < (p.length : Int) := of_decide_eq_true hk
    exact ee_ix (ee_var 0) (ee_var 1) (ix_eP (by omega))
  · have : ¬ (i : Int) < (p.length : Int) := of_decide_eq_false hk
    rw [coef_out (by omega)]
    exact ee_glob h.k_NOUGHT
/-- two polynomials of few enough bits -/
theorem rangeD_map {n : Nat} {f : Nat → D} {o : D → D} (h : ∀ i : Nat, i < n → o (.int (0 + (i : Nat))) = f i) : (rangeD 0 n).map o = (List.range n).map f := by
  unfold rangeD
  rw [List.map_map]
  refine List.map_congr_left fun i hi => ?_
  exact h i (List.mem_range.mp hi)
theorem sc_added : FnScope ["one", "other", "many", "place"] ["one", "other"] (defScope (top 20)) := ⟨rfl, rfl, rfl, by decide +kernel, rfl, by decide +kernel, by decide +kernel⟩
theorem fnn_added (h : Hd K mg base) : FnN PR w K mg base "added" 44 2 vAdd noX := by
  obtain ⟨f, fd, F, hm⟩ := h.d_added
  refine fnn_mk (fun _ _ ⟨_, _, _, _, _, _, _, _, _, _, _, _, e⟩ => ⟨_, e⟩) F sc_added hm (F.bindsN fun _ _ _ _ _ _ us hl => match us, hl with | [_, _], _ => rfl) h.ns rfl (by decide) rfl (fun cdv A outer s H E X hX gx hp ds hl => ?_)
  subst hX
  have nd := sc_added.nd
  refine ⟨fun d hv => ?_, fun c hc => hc.elim⟩
  obtain ⟨p, q, n, m, rfl, hpn, hqm, h0, h1, hlim, hl1, hl2, rfl⟩ := hv
  refine ss_cons (s1_set 2 (ee_is (d' := .int ((max p.length q.length : Nat) : Int)) (ee_max (ee_len (ee_var 0) (n := p.length) (by simp [eP, lenD]) h.b_len) (ee_len (ee_var 1) (n := q.length) (by simp [eP, lenD]) h.b_len) rfl h.b_max) (by congr 1; omega)) ?_ nd)
  have hmx : max p.length q.length ≤ 1000 := by omega
  let o : D → D := fun d => match d with | .int i => eF (coef p i.toNat + coef q i.toNat) | _ => .none
  refine ss_one (s1_retF (ef_call (rs := (trim (paddRaw p q)).map eF) (fnn_trimmed h) (gx.room.mono (by decide)) (ea_cons (ee_is (d' := eP (paddRaw p q)) (ef_ee (ef_map "place" 3 o rfl nd (ei_range1 (ee_var 2) (by omega) h.b_range) (blkOk_by (own := [("place", 3)]) (N := ["one", "other", "many", "place"]) (sc := defScope (top 20)) (by decide +kernel)) (fun _ _ _ _ _ => pg_name (i := 3) nd rfl (Or.inl rfl)) (fun es z => nomatch z) (fun d hd s1 H1 C1 cl1 fp1 => ?_) ?_)) ?_) ea_nil) ⟨paddRaw p q, rfl, by simp [paddRaw]; omega, rfl⟩) rfl)
  · obtain ⟨i, hi, rfl⟩ := List.mem_map.mp hd
    rw [show (0 : Int) + (i : Nat) = (i : Nat) by omega]
    refine ee_call (fn_plus h) (gx.room.mono (by decide)) (ea_cons (ee_call (fn_fraction_at h) (gx.room.mono (by decide)) (ea_cons (ee_var 0) (ea_cons (ee_var 3) ea_nil)) ⟨p, i, rfl, rfl⟩) (ea_cons (ee_call (fn_fraction_at h) (gx.room.mono (by decide)) (ea_cons (ee_var 1) (ea_cons (ee_var 3) ea_nil)) ⟨q, i, rfl, rfl⟩) ea_nil)) ⟨coef p i, coef q i, n, m, rfl, hpn.coef h0 i, hqm.coef h1 i, hlim, ?_⟩
    show eF (coef p (i : Int).toNat + coef q (i : Int).toNat) = _
    rw [Int.toNat_natCast]
  · simp [rangeD]
    omega
  · rw [show ((max p.length q.length : Nat) : Int).toNat = max p.length q.length by omega]
    show PyData.list _ = PyData.list ((paddRaw p q).map eF)
    congr 1
    unfold paddRaw
    rw [List.map_map]
    refine rangeD_map fun i hi => ?_
    rw [show (0 : Int) + (i : Nat) = (i : Nat) by omega]
    show eF (coef p (i : Int).toNat + coef q (i : Int).toNat) = _
    rw [Int.toNat_natCast]
    rfl

theorem fn_added (h : Hd K mg base) : Fn PR w K mg base "added" 44 2 vAdd noX := (fnn_added h).fn

theorem unF_eF (f : Rat → Rat) (q : Rat) : (match eF q with | .tuple [.int a, .int b] => eF (f (mkRat a b.toNat)) | _ => .none) = eF (f q) := by
  show eF (f (mkRat q.num ((q.den : Int)).toNat)) = _
  rw [Int.toNat_natCast, Rat.mkRat_self]
theorem sc_scaled : FnScope ["poly", "by", "one"] ["poly", "by"] (defScope (top 21)) := ⟨rfl, rfl, rfl, by decide +kernel, rfl, by decide +kernel, by decide +kernel⟩
theorem fnn_scaled (h : Hd K mg base) : FnN PR w K mg base "scaled" 44 2 vScale noX := by
  obtain ⟨f, fd, F, hm⟩ := h.d_scaled
  refine fnn_mk (fun _ _ ⟨_, _, _, _, _, _, _, _, _, e⟩ => ⟨_, e⟩) F sc_scaled hm (F.bindsN fun _ _ _ _ _ _ us hl => match us, hl with | [_, _], _ => rfl) h.ns rfl (by decide) rfl (fun cdv A outer s H E X hX gx hp ds hl => ?_)
  subst hX
  have nd := sc_scaled.nd
  refine ⟨fun d hv => ?_, fun c hc => hc.elim⟩
  obtain ⟨p, c, n, m, rfl, hpn, hcm, hlim, hl1, rfl⟩ := hv
  let o : D → D := fun d => match d with | .tuple [.int a, .int b] => eF (mkRat a b.toNat * c) | _ => .none
  have ho : ∀ q : Rat, o (eF q) = eF (q * c) := fun q => unF_eF (fun q => q * c) q
  refine ss_one (s1_retF (ef_call (rs := (pscale p c).map eF) (fnn_trimmed h) (gx.room.mono (by decide)) (ea_cons (ee_is (d' := eP (p.map fun a => a * c)) (ef_ee (ef_map "one" 2 o rfl nd (ei_list (ee_var 0)) (blkOk_by (own := [("one", 2)]) (N := ["poly", "by", "one"]) (sc := defScope (top 21)) (by decide +kernel)) (fun _ _ _ _ _ => pg_name (i := 2) nd rfl (Or.inl rfl)) (fun es z => nomatch z) (fun d hd s1 H1 C1 cl1 fp1 => ?_) (by rw [List.length_map]; exact hl1))) ?_) ea_nil) ⟨p.map fun a => a * c, rfl, by rw [List.length_map]; exact hl1, rfl⟩) rfl)
  · obtain ⟨q, hq, rfl⟩ := List.mem_map.mp hd
    rw [ho]
    exact ee_call (fn_times h) (gx.room.mono (by decide)) (ea_cons (ee_var 2) (ea_cons (ee_var 1) ea_nil)) ⟨q, c, n, m, rfl, hpn q hq, hcm, hlim, rfl⟩
  · show PyData.list _ = PyData.list _
    rw [List.map_map, List.map_map]
    congr 1
    exact List.map_congr_left fun q _ => ho q

theorem fn_scaled (h : Hd K mg base) : Fn PR w K mg base "scaled" 44 2 vScale noX := (fnn_scaled h).fn

/-- what the rows' loop has come to: i rows are done, and j places of the next one -/
structure Rows (p q : Poly) (n m L i j : Nat) (f : Poly) : Prop where
  len : f.length = L
  at_ : ∀ k, coef f k = cmul (p.take i) q k + (if i ≤ k ∧ k < i + j then coef p i * coef q (k - i) else 0)
  sz : PZ (1 + i * (n + m + 1)) f ∨ (0 < j ∧ PZ (1 + (i + 1) * (n + m + 1)) f)
theorem cmul_nil (q : Poly) (k : Nat) : cmul [] q k = 0 := rfl
theorem Rows.start {p q : Poly} {n m L : Nat} : Rows p q n m L 0 0 (List.replicate L 0) where
  len := by simp
  at_ := fun k => by
    rw [if_neg (by omega)]
    show coef _ k = 0 + 0
    rw [Rat.add_zero]
    unfold coef
    rw [List.getD_eq_getElem?_getD, List.getElem?_replicate]
    split <;> rfl
  sz := .inl fun q hq => by
    rw [(List.mem_replicate.mp hq).2]
    exact rz_zero.mono (by omega)
theorem Rows.next {p q : Poly} {n m L i : Nat} {f : Poly} (r : Rows p q n m L i q.length f) (hi : i < p.length) : Rows p q n m L (i + 1) 0 f where
  len := r.len
  at_ := fun k => by
    rw [r.at_ k, cmul_row hi, if_neg (show ¬ (i + 1 ≤ k ∧ k < i + 1 + 0) by omega), Rat.add_zero, coef_in hi]
    congr 1
    by_cases h1 : i ≤ k
    · rw [if_pos h1]
      by_cases h2 : k < i + q.length
      · rw [if_pos ⟨h1, h2⟩]
      · rw [if_neg (by omega), coef_out (p := q) (by omega), Rat.mul_zero]
    · rw [if_neg (by omega), if_neg h1]
  sz := .inl (by
    rcases r.sz with h | h
    · exact h.mono (by rw [Nat.succ_mul]; omega)
    · exact h.2)
theorem coef_set {f : Poly} {k : Nat} {v : Rat} (h : k < f.length) (l : Nat) : coef (f.set k v) l = if l = k then v else coef f l := by
  unfold coef
  rw [List.getD_eq_getElem?_getD, List.getD_eq_getElem?_getD, List.getElem?_set]
  by_cases e : k = l
  · subst e
    rw [if_pos rfl, if_pos h, if_pos rfl]
    rfl
  · rw [if_neg e, if_neg (fun z => e z.symm)]
theorem Rows.step {p q : Poly} {n m L i j : Nat} {f : Poly} (r : Rows p q n m L i j f) (hp : PZ n p) (hq : PZ m q) (h0 : 0 < m) (hi : i < p.length) (hj : j < q.length) (hL : i + j < L) : Rows p q n m L i (j + 1) (f.set (i + j) (coef f (i + j) + coef p i * coef q j)) where
  len := by rw [List.length_set]; exact r.len
  at_ := fun k => by
    have hl : i + j < f.length := by rw [r.len]; exact hL
    rw [coef_set hl]
    by_cases e : k = i + j
    · subst e
      rw [if_pos rfl, r.at_, if_neg (by omega), if_pos (by omega), Rat.add_zero, show i + j - i = j by omega]
    · rw [if_neg e, r.at_]
      congr 1
      by_cases h1 : i ≤ k ∧ k < i + j
      · rw [if_pos h1, if_pos (by omega)]
      · rw [if_neg h1, if_neg (by omega)]
  sz := .inr ⟨by omega, fun a ha => by
    have hb : PZ (1 + (i + 1) * (n + m + 1)) f := by
      rcases r.sz with h | h
      · exact h.mono (by rw [Nat.succ_mul]; omega)
      · exact h.2
    rcases List.mem_or_eq_of_mem_set ha with h | h
    · exact hb a h
    · rw [h]
      have e1 : coef f (i + j) = cmul (p.take i) q (i + j) := by
        rw [r.at_, if_neg (by omega), Rat.add_zero]
      have s1 : Rz (1 + i * (n + m + 1)) (coef f (i + j)) := by
        rw [e1]
        have h := rz_cmul (p := p.take i) (q := q) (k := i + j) (n := n) (m := m) (fun b hb => hp b (List.mem_of_mem_take hb)) hq h0
        rw [List.length_take, Nat.min_eq_left (by omega)] at h
        exact h
      have s2 : Rz (n + m) (coef p i * coef q j) := by
        rw [coef_in hi]
        exact (hp _ (List.getElem_mem hi)).mul (hq.coef h0 j)
      exact (s1.add s2).mono (by rw [Nat.succ_mul]; omega)⟩
theorem flat_one {α : Type} (a : α) : ∀ n : Nat, (List.replicate n [a]).flatten = List.replicate n a
  | 0 => rfl
  | n + 1 => by
    rw [List.replicate_succ, List.flatten_cons, flat_one a n, List.replicate_succ]
    rfl


theorem sc_multiplied : FnScope ["one", "other", "found", "place", "first", "more", "second"] ["one", "other"] (defScope (top 22)) := ⟨rfl, rfl, rfl, by decide +kernel, rfl, by decide +kernel, by decide +kernel⟩
theorem fn_multiplied (h : Hd K mg base) : Fn PR w K mg base "multiplied" 44 2 vMul noX := by
  obtain ⟨f, fd, F, hm⟩ := h.d_multiplied
  refine fn_mk F sc_multiplied hm (F.bindsN fun _ _ _ _ _ _ us hl => match us, hl with | [_, _], _ => rfl) h.ns rfl (by decide) rfl (fun cdv A outer s H E X hX gx hp ds hl => ?_)
  subst hX
  have nd := sc_multiplied.nd
  refine ⟨fun d hv => ?_, fun c hc => hc.elim⟩
  obtain ⟨p, q, n, m, rfl, hpn, hqm, h0, h1, hl1, hl2, hlim, rfl⟩ := hv
  have hlen : (max 0 ((p.length : Int) + (q.length : Int) - 1)).toNat = p.length + q.length - 1 := by omega
  refine ss_cons (s1_setO 2 (ds := (List.replicate (p.length + q.length - 1) (0 : Rat)).map eF) (ef_is (ef_rep (ef_lst (ea_cons (ee_glob h.k_NOUGHT) ea_nil)) (ee_max ee_int (ee_op (ee_op (ee_len (ee_var 0) (n := p.length) (by simp [eP, lenD]) h.b_len) (ee_len (ee_var 1) (n := q.length) (by simp [eP, lenD]) h.b_len) od_add) ee_int od_sub) rfl h.b_max) (by omega) (by rw [hlen]; show 1 * _ ≤ _; omega)) ?_) ?_ nd (fun es z => nomatch z))
  · rw [hlen, flat_one, List.map_replicate]
  refine ss_cons (s1_for (fun i γ => ∃ f a b c e, γ = [.dat (eP p), .dat (eP q), .own (f.map eF), a, b, c, e] ∧ (∀ z, a ≠ .own z) ∧ (∀ z, b ≠ .own z) ∧ (∀ z, c ≠ .own z) ∧ (∀ z, e ≠ .own z) ∧ Rows p q n m (p.length + q.length - 1) i 0 f) (ei_enum (ee_var 0) h.b_enumerate)
    ⟨_, .no, .no, .no, .no, rfl, noO, noO, noO, noO, Rows.start⟩ (fun i d γ hd hI => ?_) (fun γ hI => ?_) hp rfl)
  · obtain ⟨f, a, b, c, e, rfl, na, nb, nc, ne, r⟩ := hI
    obtain ⟨x, hx, rfl⟩ := enumD_get hd
    have hi : i < p.length := by simpa using (List.getElem?_eq_some_iff.mp hx).1
    have ex : x = eF (coef p i) := by
      rw [List.getElem?_map, List.getElem?_eq_getElem hi] at hx
      rw [coef_in hi]
      exact (Option.some.inj hx).symm
    subst ex
    refine ⟨_, eg_pair (i := 3) (j := 4) rfl nd (ho := fun es z => na es (by simpa using z)), ?_⟩
    refine ss_one (s1_for (fun j γ => ∃ f c e, γ = [.dat (eP p), .dat (eP q), .own (f.map eF), .dat (.int (i : Nat)), .dat (eF (coef p i)), c, e] ∧ (∀ z, c ≠ .own z) ∧ (∀ z, e ≠ .own z) ∧ Rows p q n m (p.length + q.length - 1) i j f) (ei_enum (ee_var 1) h.b_enumerate)
      ⟨f, c, e, rfl, nc, ne, r⟩ (fun j d γ hd hI => ?_) (fun γ hI => ?_) hp rfl)
    · obtain ⟨f, c, e, rfl, nc, ne, r⟩ := hI
      obtain ⟨x, hx, rfl⟩ := enumD_get hd
      have hj : j < q.length := by simpa using (List.getElem?_eq_some_iff.mp hx).1
      have ex : x = eF (coef q j) := by
        rw [List.getElem?_map, List.getElem?_eq_getElem hj] at hx
        rw [coef_in hj]
        exact (Option.some.inj hx).symm
      subst ex
      have hf : i + j < f.length := by rw [r.len]; omega
      have hat : atI (f.map eF) ((i : Int) + (j : Int)) = some (eF (coef f (i + j))) := by
        rw [show (i : Int) + (j : Int) = ((i + j : Nat) : Int) by omega]
        exact ix_eP hf
      have r2 := r.step hpn hqm h1 hi hj (by omega)
      have s1 : Rz (1 + i * (n + m + 1)) (coef f (i + j)) := by
        rw [r.at_, if_neg (by omega), Rat.add_zero]
        have h := rz_cmul (p := p.take i) (q := q) (k := i + j) (n := n) (m := m) (fun b hb => hpn b (List.mem_of_mem_take hb)) hqm h1
        rw [List.length_take, Nat.min_eq_left (by omega)] at h
        exact h
      have hb : (i + 2) * (n + m + 1) ≤ LIM := Nat.le_trans (Nat.mul_le_mul_right _ (by omega)) hlim
      have hb2 : (i + 2) * (n + m + 1) = i * (n + m + 1) + 2 * (n + m + 1) := Nat.add_mul ..
      refine ⟨_, eg_pair (i := 5) (j := 6) rfl nd (ho := fun es z => nc es (by simpa using z)), ?_⟩
      refine ss_one (s1_setIx 2 (j := i + j) (ee_call (fn_plus h) (gx.room.mono (by decide)) (ea_cons (ee_ixO 2 (hb := ee_op (ee_var 3) (ee_var 5) od_add) (h := hat)) (ea_cons (ee_call (fn_times h) (gx.room.mono (by decide)) (ea_cons (ee_var 4) (ea_cons (ee_var 6) ea_nil)) ⟨_, _, n, m, rfl, by rw [coef_in hi]; exact hpn _ (List.getElem_mem hi), hqm.coef h1 j, by omega, rfl⟩) ea_nil)) ⟨_, _, _, n + m, rfl, s1, by rw [coef_in hi]; exact (hpn _ (List.getElem_mem hi)).mul (hqm.coef h1 j), by omega, rfl⟩) (ee_op (ee_var 3) (ee_var 5) od_add) ?_ ?_)
      · rw [List.length_map]
        unfold ixN
        rw [if_pos (by omega), if_pos (by omega)]
        congr 1
      · refine ⟨_, .dat (.int (j : Nat)), .dat (eF (coef q j)), ?_, datO, datO, r2⟩
        rw [List.map_set]
        rfl
    · obtain ⟨f, c, e, rfl, nc, ne, r⟩ := hI
      rw [enumD_len, List.length_map] at r
      exact ⟨f, _, _, c, e, rfl, datO, datO, nc, ne, r.next hi⟩
  · obtain ⟨f, a, b, c, e, rfl, na, nb, nc, ne, r⟩ := hI
    rw [enumD_len, List.length_map] at r
    refine ss_freeze 2 ?_
    have hfl : f.length ≤ 1000 := by rw [r.len]; omega
    refine ss_one (s1_ret (ee_call (fn_trimmed h) (gx.room.mono (by decide)) (ea_cons (ee_var 2) ea_nil) ⟨f, rfl, hfl, rfl⟩) ?_)
    congr 1
    unfold pmul
    refine trim_ext fun k => ?_
    rw [r.at_, coef_map, if_neg (show ¬ (p.length ≤ k ∧ k < p.length + 0) by omega), Rat.add_zero, List.take_length]
    split
    · rfl
    · exact cmul_out (by omega)


/-! ### papers -/
abbrev Pap := List (Rat × Poly)
def eW (q : Rat × Poly) : D := .tuple [eF q.1, eP q.2]
def ePap (L : Pap) : D := .list (L.map eW)
def term (q : Rat × Poly) : Poly := pscale (pmul q.2 q.2) q.1
def psum (L : Pap) : Poly := L.foldl (fun acc q => padd acc (term q)) []
/-- of few enough bits -/
structure PapZ (L : Pap) : Prop where
  len : L.length ≤ 40
  at_ : ∀ q ∈ L, Rz 1000 q.1 ∧ PZ 1000 q.2 ∧ q.2.length ≤ 13
theorem psum_take {L : Pap} {i : Nat} (h : i < L.length) : psum (L.take (i + 1)) = padd (psum (L.take i)) (term L[i]) := by
  unfold psum
  rw [List.take_add_one, List.getElem?_eq_getElem h]
  show (L.take i ++ [L[i]]).foldl _ _ = _
  rw [List.foldl_append]
  rfl
theorem pz_term {q : Rat × Poly} (h : Rz 1000 q.1 ∧ PZ 1000 q.2 ∧ q.2.length ≤ 13) : PZ 28000 (term q) :=
  (pz_pscale (pz_pmul h.2.1 h.2.1 (by decide)) h.1).mono (by
    have := h.2.2
    have : 1 + q.2.length * (1000 + 1000 + 1) ≤ 1 + 13 * (1000 + 1000 + 1) := by omega
    omega)
theorem term_len {q : Rat × Poly} (h : q.2.length ≤ 13) : (term q).length ≤ 25 := Nat.le_trans (pscale_len _ _) (Nat.le_trans (pmul_len _ _) (by omega))
theorem pz_psum {L : Pap} (h : PapZ L) : ∀ i : Nat, i ≤ L.length → PZ (1 + i * 28001) (psum (L.take i)) ∧ (psum (L.take i)).length ≤ 25
  | 0, _ => ⟨pz_nil, Nat.zero_le 25⟩
  | i + 1, hi => by
    obtain ⟨h1, h2⟩ := pz_psum h i (by omega)
    rw [psum_take (by omega)]
    have hq := h.at_ L[i] (List.getElem_mem (by omega))
    refine ⟨(pz_padd h1 (pz_term hq) (by omega) (by decide)).mono (by rw [Nat.succ_mul]; omega), Nat.le_trans (padd_len _ _) ?_⟩
    have := term_len hq.2.2
    omega
def vSumBy (ds : List D) (d : D) : Prop := ∃ L : Pap, ds = [ePap L] ∧ PapZ L ∧ d = eP (psum L)
theorem pap_get {L : Pap} {i : Nat} {d : D} (h : (L.map eW)[i]? = some d) : ∃ hi : i < L.length, d = eW L[i] := by
  have hi : i < L.length := by simpa using (List.getElem?_eq_some_iff.mp h).1
  refine ⟨hi, ?_⟩
  rw [List.getElem?_map, List.getElem?_eq_getElem hi] at h
  exact (Option.some.inj h).symm
theorem sc_sum_by : FnScope ["paper", "found", "weight", "poly"] ["paper"] (defScope (top 24)) := ⟨rfl, rfl, rfl, by decide +kernel, rfl, by decide +kernel, by decide +kernel⟩
theorem fn_sum_by (h : Hd K mg base) : Fn PR w K mg base "sum_by" 46 1 vSumBy noX := by
  obtain ⟨f, fd, F, hm⟩ := h.d_sum_by
  refine fn_mk F sc_sum_by hm (F.bindsN fun _ _ _ _ _ _ us hl => match us, hl with | [_], _ => rfl) h.ns rfl (by decide) rfl (fun cdv A outer s H E X hX gx hp ds hl => ?_)
  subst hX
  have nd := sc_sum_by.nd
  refine ⟨fun d hv => ?_, fun c hc => hc.elim⟩
  obtain ⟨L, rfl, hz, rfl⟩ := hv
  refine ss_cons (s1_set 1 (ee_is (ee_lst ea_nil) (show _ = eP [] from rfl)) ?_ nd)
  refine ss_cons (s1_for (fun i γ => ∃ a b, γ = [.dat (ePap L), .dat (eP (psum (L.take i))), a, b] ∧ (∀ z, a ≠ .own z) ∧ (∀ z, b ≠ .own z)) (ei_list (ee_var 0)) ⟨.no, .no, rfl, noO, noO⟩ (fun i d γ hd hI => ?_) (fun γ hI => ?_) hp rfl)
  · obtain ⟨a, b, rfl, na, nb⟩ := hI
    obtain ⟨hi, rfl⟩ := pap_get hd
    have hq := hz.at_ L[i] (List.getElem_mem hi)
    obtain ⟨h1, h2⟩ := pz_psum hz i (by omega)
    have hl := hz.len
    refine ⟨_, eg_pair (i := 2) (j := 3) rfl nd (ho := fun es z => na es (by simpa using z)), ?_⟩
    refine ss_one (s1_set 1 (ee_call (fn_added h) (gx.room.mono (by decide)) (ea_cons (ee_var 1) (ea_cons (ee_call (fn_scaled h) (gx.room.mono (by decide)) (ea_cons (ee_call (fn_multiplied h) (gx.room.mono (by decide)) (ea_cons (ee_var 3) (ea_cons (ee_var 3) ea_nil)) ⟨_, _, 1000, 1000, rfl, hq.2.1, hq.2.1, by decide, by decide, by omega, by omega, Nat.le_trans (Nat.mul_le_mul_right _ (show L[i].2.length + 2 ≤ 15 by omega)) (by decide), rfl⟩) (ea_cons (ee_var 2) ea_nil)) ⟨_, _, 27000, 1000, rfl, (pz_pmul hq.2.1 hq.2.1 (by decide)).mono (by omega), hq.1, by decide, Nat.le_trans (pmul_len _ _) (by omega), rfl⟩) ea_nil)) ⟨_, _, _, 28000, rfl, h1, pz_term hq, by omega, by decide, by have e : LIM = 134217728 := rfl; omega, by omega, Nat.le_trans (term_len hq.2.2) (by decide), rfl⟩) ?_ nd)
    refine ⟨.dat (eF L[i].1), .dat (eP L[i].2), ?_, datO, datO⟩
    rw [psum_take hi]
    rfl
  · obtain ⟨a, b, rfl, na, nb⟩ := hI
    refine ss_one (s1_ret (ee_var 1) ?_)
    rw [List.length_map, List.take_length]


def posD : D → Bool
  | .tuple (.int t :: _) => decide (0 < t)
  | _ => false
def nilD : D → Bool
  | .list [] => true
  | _ => false
/-- may stand in a paper -/
def okW (q : D × D) : Bool := isF q.1 && (posD q.1 && (isPo q.2 && !nilD q.2))
def ePairs (L : List (D × D)) : D := .list (L.map fun q => .tuple [q.1, q.2])
def vIsPap (ds : List D) (d : D) : Prop := ∃ L : List (D × D), ds = [ePairs L] ∧ d = .bool (L.all okW)
theorem sc_is_paper : FnScope ["thing", "weight", "poly"] ["thing"] (defScope (top 25)) := ⟨rfl, rfl, rfl, by decide +kernel, rfl, by decide +kernel, by decide +kernel⟩
theorem fn_is_paper (h : Hd K mg base) : Fn PR w K mg base "is_paper" 45 1 vIsPap noX := by
  obtain ⟨f, fd, F, hm⟩ := h.d_is_paper
  refine fn_mk F sc_is_paper hm (F.bindsN fun _ _ _ _ _ _ us hl => match us, hl with | [_], _ => rfl) h.ns rfl (by decide) rfl (fun cdv A outer s H E X hX gx hp ds hl => ?_)
  subst hX
  have nd := sc_is_paper.nd
  refine ⟨fun d hv => ?_, fun c hc => hc.elim⟩
  obtain ⟨L, rfl, rfl⟩ := hv
  refine ss_cons (s1_for (fun i γ => ∃ a b, γ = [.dat (ePairs L), a, b] ∧ (∀ z, a ≠ .own z) ∧ (∀ z, b ≠ .own z) ∧ (L.take i).all okW = true) (ei_list (ee_var 0)) ⟨.no, .no, rfl, noO, noO, rfl⟩ (fun i d γ hd hI => ?_) (fun γ hI => ?_) hp rfl)
  · obtain ⟨a, b, rfl, na, nb, hall⟩ := hI
    have hi : i < L.length := by simpa using (List.getElem?_eq_some_iff.mp hd).1
    have ed : d = .tuple [L[i].1, L[i].2] := by
      rw [List.getElem?_map, List.getElem?_eq_getElem hi] at hd
      exact (Option.some.inj hd).symm
    subst ed
    generalize hq : L[i] = q
    obtain ⟨x, y⟩ := q
    refine ⟨_, eg_pair (i := 1) (j := 2) rfl nd (ho := fun es z => na es (by simpa using z)), ?_⟩
    refine ss_one (s1_if (et_is (ew_et (ew_or (et_not (et_val (ee_call (fn_is_fraction h) (gx.room.mono (by decide)) (ea_cons (ee_var 1) ea_nil) ⟨x, rfl, rfl⟩))) (q := !posD x || (!isPo y || nilD y)) (fun hk => ?_))) (b' := !okW (x, y)) ?_) (fun hk => ?_) (fun hk => ?_))
    · obtain ⟨u, rfl⟩ := isF_some (x := x) (by simpa using hk)
      refine ew_or (et_is (et_cmp (ee_ix (ee_var 1) ee_int rfl) ee_int od_le (nomark _)) ?_) (fun _ => ew_or (et_not (et_val (ee_call (fn_is_poly h) (gx.room.mono (by decide)) (ea_cons (ee_var 2) ea_nil) ⟨y, rfl, rfl⟩))) (fun hp2 => ew_or1 ?_))
      · show decide (u.num ≤ 0) = !decide (0 < u.num)
        by_cases z : 0 < u.num
        · rw [decide_eq_true z, decide_eq_false (by omega)]
          rfl
        · rw [decide_eq_false z, decide_eq_true (by omega)]
          rfl
      · obtain ⟨p, rfl, h1, h2⟩ := isPo_some (x := y) (by simpa using hp2)
        refine et_is (et_cmp (ee_var 2) (ee_is (ee_lst ea_nil) (show _ = eP [] from rfl)) (od_eqP (a := p) gx) (nomark _)) ?_
        cases p <;> rfl
    · unfold okW
      cases isF x <;> cases posD x <;> cases isPo y <;> cases nilD y <;> rfl
    · refine ss_one (s1_ret ee_bl ?_)
      have : L.all okW = false := by
        rw [List.all_eq_false]
        exact ⟨L[i], List.getElem_mem hi, by rw [hq]; simpa using hk⟩
      rw [this]
    · refine ss_nil ⟨_, _, rfl, datO, datO, ?_⟩
      rw [List.take_add_one, List.getElem?_eq_getElem hi, List.all_append, hall, hq]
      simpa using hk
  · obtain ⟨a, b, rfl, na, nb, hall⟩ := hI
    refine ss_one (s1_ret ee_bl ?_)
    rw [List.length_map, List.take_length] at hall
    rw [hall]
/-- a paper that may stand -/
def PapOk (L : Pap) : Prop := ∀ q ∈ L, 0 < q.1.num ∧ q.2 ≠ [] ∧ Own q.2
theorem pap_pairs (L : Pap) : ePap L = ePairs (L.map fun q => (eF q.1, eP q.2)) := by
  unfold ePap ePairs
  rw [List.map_map]
  rfl
theorem pap_all {L : Pap} (hz : PapZ L) (ho : PapOk L) : (L.map fun q => ((eF q.1, eP q.2) : D × D)).all okW = true := by
  rw [List.all_map, List.all_eq_true]
  intro q hq
  obtain ⟨h1, h2, h3⟩ := ho q hq
  show (isF (eF q.1) && (decide (0 < q.1.num) && (isPo (eP q.2) && !nilD (eP q.2)))) = true
  rw [isF_eF, decide_eq_true h1, isPo_eP, decide_eq_true (hz.at_ q hq).2.2, decide_eq_true h3]
  cases e : q.2 with
  | nil => exact absurd e h2
  | cons a r => rfl
def vShows (ds : List D) (d : D) : Prop := ∃ a : Poly, a.length ≤ 13 ∧ Own a ∧ ((∃ L : Pap, ds = [eP a, ePap L] ∧ PapZ L ∧ PapOk L ∧ d = .bool (decide (psum L = a))) ∨ (∃ L : List (D × D), ds = [eP a, ePairs L] ∧ L.all okW = false ∧ d = .bool false))
theorem sc_shows : FnScope ["poly", "paper"] ["poly", "paper"] (defScope (top 26)) := ⟨rfl, rfl, rfl, by decide +kernel, rfl, by decide +kernel, by decide +kernel⟩
theorem fn_shows (h : Hd K mg base) : Fn PR w K mg base "shows" 47 2 vShows (xFst K) := by
  obtain ⟨f, fd, F, hm⟩ := h.d_shows
  refine fn_mk F sc_shows hm (F.bindsN fun _ _ _ _ _ _ us hl => match us, hl with | [_, _], _ => rfl) h.ns rfl (by decide) rfl (fun cdv A outer s H E X hX gx hp ds hl => ?_)
  subst hX
  have nd := sc_shows.nd
  refine ⟨fun d hv => ?_, fun c hc => ?_⟩
  · obtain ⟨a, h1, h2, hv⟩ := hv
    rcases hv with ⟨L, rfl, hz, ho, rfl⟩ | ⟨L, rfl, hn, rfl⟩
    · refine ss_cons (s1_expr (ee_call (fn_need_poly h) (gx.room.mono (by decide)) (ea_cons (ee_var 0) ea_nil) ⟨_, rfl, by rw [isPo_eP, decide_eq_true h1, decide_eq_true h2]; rfl, rfl⟩) ?_)
      exact ss_one (s1_ret (ee_and (ee_call (fn_is_paper h) (gx.room.mono (by decide)) (ea_cons (ee_var 1) ea_nil) ⟨_, by rw [pap_pairs], by rw [pap_all hz ho]⟩) (fun _ => ee_one (ee_cmp (ee_call (fn_sum_by h) (gx.room.mono (by decide)) (ea_cons (ee_var 1) ea_nil) ⟨L, rfl, hz, rfl⟩) (ee_var 0) (od_eqP gx) (nomark _)))) rfl)
    · refine ss_cons (s1_expr (ee_call (fn_need_poly h) (gx.room.mono (by decide)) (ea_cons (ee_var 0) ea_nil) ⟨_, rfl, by rw [isPo_eP, decide_eq_true h1, decide_eq_true h2]; rfl, rfl⟩) ?_)
      exact ss_one (s1_ret (ee_and (p := false) (q := false) (ee_call (fn_is_paper h) (gx.room.mono (by decide)) (ea_cons (ee_var 1) ea_nil) ⟨L, rfl, by rw [hn]⟩) (fun z => nomatch z)) rfl)
  · obtain ⟨x, r, rfl, hx, rfl⟩ := hc
    obtain ⟨y, rfl⟩ : ∃ y, r = [y] := by
      match r, hl with
      | [y], _ => exact ⟨y, rfl⟩
    exact ss_cons (s1_raises (fn_need_poly h) (gx.room.mono (by decide)) (ea_cons (ee_var 0) ea_nil) ⟨x, rfl, hx, rfl⟩ rfl)


/-! ### papers of sums and products -/
theorem peval_term (q : Rat × Poly) (x : Rat) : peval (term q) x = q.1 * (peval q.2 x * peval q.2 x) := by
  unfold term
  rw [peval_pscale, peval_pmul, Rat.mul_comm]
def evS (L : Pap) (x : Rat) : Rat := L.foldr (fun q a => q.1 * (peval q.2 x * peval q.2 x) + a) 0
theorem peval_psum (L : Pap) (x : Rat) : peval (psum L) x = evS L x := by
  have : ∀ (L : Pap) (acc : Poly), peval (L.foldl (fun acc q => padd acc (term q)) acc) x = peval acc x + evS L x := fun L => by
    induction L with
    | nil => intro acc; show peval acc x = peval acc x + 0; rw [Rat.add_zero]
    | cons q L ih =>
      intro acc
      rw [List.foldl_cons, ih, peval_padd, peval_term]
      show _ = peval acc x + (q.1 * (peval q.2 x * peval q.2 x) + evS L x)
      rw [Rat.add_assoc]
  have h := this L []
  rw [show peval [] x = 0 from rfl, Rat.zero_add] at h
  exact h
theorem own_psum (L : Pap) : Own (psum L) := by
  have : ∀ (L : Pap) (acc : Poly), Own acc → Own (L.foldl (fun acc q => padd acc (term q)) acc) := fun L => by
    induction L with
    | nil => exact fun acc h => h
    | cons q L ih => exact fun acc _ => ih _ (own_padd _ _)
  exact this L [] own_nil
theorem psum_len {L : Pap} {n : Nat} (h : ∀ q ∈ L, q.2.length ≤ n) : (psum L).length ≤ 2 * n - 1 := by
  have : ∀ (L : Pap) (acc : Poly), (∀ q ∈ L, q.2.length ≤ n) → acc.length ≤ 2 * n - 1 → (L.foldl (fun acc q => padd acc (term q)) acc).length ≤ 2 * n - 1 := fun L => by
    induction L with
    | nil => exact fun acc _ h => h
    | cons q L ih =>
      refine fun acc h ha => ih _ (fun r hr => h r (List.mem_cons_of_mem _ hr)) (Nat.le_trans (padd_len _ _) ?_)
      have h1 := h q List.mem_cons_self
      have h2 : (term q).length ≤ q.2.length + q.2.length - 1 := Nat.le_trans (pscale_len _ _) (pmul_len _ _)
      omega
  exact this L [] h (Nat.zero_le _)
theorem ev_ext {p q : Poly} (hp : Own p) (hq : Own q) (h : ∀ x, peval p x = peval q x) : p = q := congrArg QX.p (qx_ev_ext (a := ⟨p, hp⟩) (b := ⟨q, hq⟩) h)
theorem evS_app (A B : Pap) (x : Rat) : evS (A ++ B) x = evS A x + evS B x := by
  induction A with
  | nil => show _ = 0 + _; rw [Rat.zero_add]; rfl
  | cons q A ih =>
    show q.1 * (peval q.2 x * peval q.2 x) + evS (A ++ B) x = (q.1 * (peval q.2 x * peval q.2 x) + evS A x) + evS B x
    rw [ih, Rat.add_assoc]
theorem psum_app (A B : Pap) : psum (A ++ B) = padd (psum A) (psum B) := ev_ext (own_psum _) (own_padd _ _) fun x => by
  rw [peval_psum, peval_padd, peval_psum, peval_psum, evS_app]
def papMul (A B : Pap) : Pap := A.flatMap fun q => B.map fun r => (q.1 * r.1, pmul q.2 r.2)
theorem evS_mul (A B : Pap) (x : Rat) : evS (papMul A B) x = evS A x * evS B x := by
  have row : ∀ (q : Rat × Poly) (B : Pap), evS (B.map fun r => (q.1 * r.1, pmul q.2 r.2)) x = q.1 * (peval q.2 x * peval q.2 x) * evS B x := fun q B => by
    induction B with
    | nil => show (0 : Rat) = _ * 0; rw [Rat.mul_zero]
    | cons r B ih =>
      show q.1 * r.1 * (peval (pmul q.2 r.2) x * peval (pmul q.2 r.2) x) + evS (B.map fun r => (q.1 * r.1, pmul q.2 r.2)) x = _ * (r.1 * (peval r.2 x * peval r.2 x) + evS B x)
      rw [ih, peval_pmul]
      grind
  induction A with
  | nil => show (0 : Rat) = 0 * _; rw [Rat.zero_mul]
  | cons q A ih =>
    show evS ((B.map fun r => (q.1 * r.1, pmul q.2 r.2)) ++ papMul A B) x = (q.1 * (peval q.2 x * peval q.2 x) + evS A x) * evS B x
    rw [evS_app, row, ih]
    grind
theorem psum_mul (A B : Pap) : psum (papMul A B) = pmul (psum A) (psum B) := ev_ext (own_psum _) (own_pmul _ _) fun x => by
  rw [peval_psum, peval_pmul, peval_psum, peval_psum, evS_mul]
theorem pap_app (A B : Pap) : A.map eW ++ B.map eW = (A ++ B).map eW := (List.map_append).symm
def vPSum (ds : List D) (d : D) : Prop := ∃ A B : Pap, ds = [ePap A, ePap B] ∧ A.length ≤ 100 ∧ B.length ≤ 100 ∧ d = ePap (A ++ B)
theorem sc_paper_sum : FnScope ["one", "other"] ["one", "other"] (defScope (top 27)) := ⟨rfl, rfl, rfl, by decide +kernel, rfl, by decide +kernel, by decide +kernel⟩
theorem fn_paper_sum (h : Hd K mg base) : Fn PR w K mg base "paper_sum" 43 2 vPSum noX := by
  obtain ⟨f, fd, F, hm⟩ := h.d_paper_sum
  refine fn_mk F sc_paper_sum hm (F.bindsN fun _ _ _ _ _ _ us hl => match us, hl with | [_, _], _ => rfl) h.ns rfl (by decide) rfl (fun cdv A outer s H E X hX gx hp ds hl => ?_)
  subst hX
  have nd := sc_paper_sum.nd
  refine ⟨fun d hv => ?_, fun c hc => hc.elim⟩
  obtain ⟨A, B, rfl, h1, h2, rfl⟩ := hv
  refine ss_one (s1_ret (ef_ee (ef_cat (ef_ee (ef_list (ee_var 0 rfl) rfl h.b_list)) (ef_ee (ef_list (ee_var 1 rfl) rfl h.b_list)) (by rw [List.length_map, List.length_map]; omega))) ?_)
  show PyData.list _ = PyData.list _
  rw [pap_app]
structure PapS (A : Pap) : Prop where
  len : A.length ≤ 6
  at_ : ∀ q ∈ A, Rz 10 q.1 ∧ PZ 10 q.2 ∧ q.2.length ≤ 5
def vPProd (ds : List D) (d : D) : Prop := ∃ A B : Pap, ds = [ePap A, ePap B] ∧ PapS A ∧ PapS B ∧ d = ePap (papMul A B)
def xPProd (K : PySem.W.Frag) (ds : List D) (c : Value) : Prop := ∃ (w v : Rat) (p q : Poly) (A B : Pap), ds = [ePap ((w, p) :: A), ePap ((v, q) :: B)] ∧ Rz 10 w ∧ Rz 10 v ∧ PZ 10 p ∧ PZ 10 q ∧ p.length ≤ 13 ∧ q.length ≤ 13 ∧ 13 < (pmul p q).length ∧ c = ec K "BadPoly"
theorem papMul_take {A B : Pap} {i : Nat} (h : i < A.length) : papMul (A.take (i + 1)) B = papMul (A.take i) B ++ B.map fun r => (A[i].1 * r.1, pmul A[i].2 r.2) := by
  unfold papMul
  rw [List.take_add_one, List.getElem?_eq_getElem h]
  show (A.take i ++ [A[i]]).flatMap _ = _
  rw [List.flatMap_append]
  show _ ++ ((B.map fun r => (A[i].1 * r.1, pmul A[i].2 r.2)) ++ []) = _
  rw [List.append_nil]
theorem papMul_len {A B : Pap} (hA : A.length ≤ 6) (hB : B.length ≤ 6) : (papMul A B).length ≤ 36 := by
  have : ∀ A : Pap, (papMul A B).length = A.length * B.length := fun A => by
    induction A with
    | nil => rw [List.length_nil, Nat.zero_mul]; rfl
    | cons q A ih =>
      show ((B.map fun r => (q.1 * r.1, pmul q.2 r.2)) ++ papMul A B).length = _
      rw [List.length_append, List.length_map, ih, List.length_cons, Nat.succ_mul, Nat.add_comm]
  rw [this]
  exact Nat.le_trans (Nat.mul_le_mul hA hB) (by decide)
theorem sc_paper_product : FnScope ["one", "other", "found", "weight", "poly", "by", "more"] ["one", "other"] (defScope (top 28)) := ⟨rfl, rfl, rfl, by decide +kernel, rfl, by decide +kernel, by decide +kernel⟩
theorem fn_paper_product (h : Hd K mg base) : Fn PR w K mg base "paper_product" 48 2 vPProd (xPProd K) := by
  obtain ⟨f, fd, F, hm⟩ := h.d_paper_product
  refine fn_mk F sc_paper_product hm (F.bindsN fun _ _ _ _ _ _ us hl => match us, hl with | [_, _], _ => rfl) h.ns rfl (by decide) rfl (fun cdv A outer s H E X hX gx hp ds hl => ?_)
  subst hX
  have nd := sc_paper_product.nd
  refine ⟨fun d hv => ?_, fun c hc => ?_⟩
  · obtain ⟨A, B, rfl, hA, hB, rfl⟩ := hv
    refine ss_cons (s1_setO 2 (ds := (papMul (A.take 0) B).map eW) (ef_lst ea_nil) ?_ nd (fun es z => nomatch z))
    refine ss_cons (s1_for (fun i γ => ∃ a b c e, γ = [.dat (ePap A), .dat (ePap B), .own ((papMul (A.take i) B).map eW), a, b, c, e] ∧ (∀ z, a ≠ .own z) ∧ (∀ z, b ≠ .own z) ∧ (∀ z, c ≠ .own z) ∧ (∀ z, e ≠ .own z)) (ei_list (ee_var 0 rfl)) ⟨.no, .no, .no, .no, rfl, noO, noO, noO, noO⟩ (fun i d γ hd hI => ?_) (fun γ hI => ?_) hp rfl)
    · obtain ⟨a, b, c, e, rfl, na, nb, nc, ne⟩ := hI
      obtain ⟨hi, rfl⟩ := pap_get hd
      have hq := hA.at_ A[i] (List.getElem_mem hi)
      have hlA := hA.len
      have hlB := hB.len
      have hstep := papMul_take (B := B) hi
      have hpl : (papMul (A.take i) B).length ≤ 36 := papMul_len (by rw [List.length_take]; omega) hlB
      generalize hqe : A[i] = q at *
      refine ⟨_, eg_pair (i := 3) (j := 4) rfl nd (ho := fun es z => na es (by simpa using z)), ?_⟩
      refine ss_one (s1_extend 2 (ds := (papMul (A.take i) B).map eW) (es := B.map fun r => eW (q.1 * r.1, pmul q.2 r.2)) (ef_map2A "by" "more" 5 6 (B) (fun r => eF r.1) (fun r => eP r.2) (fun r => eW (q.1 * r.1, pmul q.2 r.2)) (by decide) rfl nd (ei_is (ei_list (ee_var 1 rfl)) (rfl)) (blkOk_by (own := [("by", 5), ("more", 6)]) (N := ["one", "other", "found", "weight", "poly", "by", "more"]) (sc := defScope (top 28)) (by decide +kernel)) (fun _ _ _ _ _ => pg_tup rfl (pgs_cons (pg_name (i := 5) nd rfl (Or.inl rfl)) (pgs_cons (pg_name (i := 6) nd rfl (Or.inl rfl)) pgs_nil))) (fun es z => nc es (by simpa using z)) (fun es z => ne es (by simpa using z)) ?_ (by omega)) ?_ (by rw [List.length_map, List.length_map]; omega))
      · intro r hr s1 H1 C1 cl1 fp1
        obtain ⟨r1, r2, r3⟩ := hB.at_ r hr
        have hln := pmul_len q.2 r.2
        refine (ee_tup (ea_cons (ee_call (fn_times h) (gx.room.mono (by decide)) (ea_cons (ee_var 3 rfl) (ea_cons (ee_var 5 rfl) ea_nil)) (⟨_, _, _, _, rfl, hq.1, r1, by decide, rfl⟩)) (ea_cons (ee_call (fn_tellable h) (gx.room.mono (by decide)) (ea_cons (ee_call (fn_multiplied h) (gx.room.mono (by decide)) (ea_cons (ee_var 4 rfl) (ea_cons (ee_var 6 rfl) ea_nil)) (⟨_, _, 10, 10, rfl, hq.2.1, r2, by decide, by decide, by omega, by omega, Nat.le_trans (Nat.mul_le_mul_right _ (show q.2.length + 2 ≤ 7 by omega)) (by decide), rfl⟩)) ea_nil) (⟨_, rfl, by rw [isPo_eP, decide_eq_true (by omega), decide_eq_true (own_pmul _ _)]; rfl, rfl⟩)) ea_nil)))
      · refine ⟨.dat (eF q.1), .dat (eP q.2), c, e, ?_, datO, datO, nc, ne⟩
        rw [hstep, List.map_append, List.map_map]
        rfl
    · obtain ⟨a, b, c, e, rfl, na, nb, nc, ne⟩ := hI
      refine ss_freeze 2 (ds := (papMul (A.take (A.map eW).length) B).map eW) (ss_one (s1_ret (ee_var 2 rfl) ?_))
      rw [List.length_map, List.take_length]
      rfl
  · obtain ⟨w, v, p, q, A, B, rfl, hw, hv, hp', hq', hpl, hql, hlong, rfl⟩ := hc
    refine ss_cons (s1_setO 2 (ds := []) (ef_lst ea_nil) ?_ nd (fun es z => nomatch z))
    refine ss_cons (s1_for (fun i γ => i = 0 ∧ γ = [.dat (ePap ((w, p) :: A)), .dat (ePap ((v, q) :: B)), .own (.l []), .no, .no, .no, .no]) (ei_list (ee_var 0 rfl)) ⟨rfl, rfl⟩ (fun i d γ hd hI => ?_) (fun γ hI => ?_) hp rfl)
    · obtain ⟨rfl, rfl⟩ := hI
      have ed : d = .tuple [eF w, eP p] := (Option.some.inj hd).symm
      subst ed
      refine ⟨_, eg_pair (i := 3) (j := 4) rfl nd (ho := fun es z => nomatch z), ?_⟩
      refine ss_one (s1_extendX 2 5 6 (ds := []) (d1 := eF v) (d2 := eP q) (rest := B.map eW) (c := ec K "BadPoly") rfl rfl rfl nd (by decide) (ei_list (ee_var 1 rfl)) (blkOk_by (own := [("by", 5), ("more", 6)]) (N := ["one", "other", "found", "weight", "poly", "by", "more"]) (sc := defScope (top 28)) (by decide +kernel)) (fun _ _ _ _ _ => pg_tup rfl (pgs_cons (pg_name (i := 5) nd rfl (Or.inl rfl)) (pgs_cons (pg_name (i := 6) nd rfl (Or.inl rfl)) pgs_nil))) (fun es z => nomatch z) (fun es z => nomatch z) (fun s1 H1 C1 cl1 fp1 => ?_) rfl)
      refine exp_pair (ee_call (fn_times h) (gx.room.mono (by decide)) (ea_cons (ee_var 3 rfl) (ea_cons (ee_var 5 rfl) ea_nil)) (⟨_, _, _, _, rfl, hw, hv, by decide, rfl⟩)) (exp_call (fn_tellable h) (gx.room.mono (by decide)) (ea_cons (ee_call (fn_multiplied h) (gx.room.mono (by decide)) (ea_cons (ee_var 4 rfl) (ea_cons (ee_var 6 rfl) ea_nil)) (⟨_, _, 10, 10, rfl, hp', hq', by decide, by decide, by omega, by omega, Nat.le_trans (Nat.mul_le_mul_right _ (show p.length + 2 ≤ 15 by omega)) (by decide), rfl⟩)) ea_nil) ⟨_, rfl, by rw [isPo_eP, decide_eq_false (by omega)]; rfl, rfl⟩)
    · exact absurd hI.1 (by simp)


/-! ### the law's own helpers -/
def cellZ (ns : List Int) (k : Nat) : Int := if ns = [] then (k : Int) * 7919 else ns.getD (k % ns.length) 0 + ((k / ns.length : Nat) : Int) * 104729
def vCell (ds : List D) (d : D) : Prop := ∃ (ns : List Int) (k : Nat), ds = [.list (ns.map .int), .int k] ∧ k ≤ 1000 ∧ ns.length ≤ 1000 ∧ d = .int (cellZ ns k)
theorem sh_ints {ns : List Int} : Sh 1 (.list (ns.map .int)) := sh_list (n := 0) fun d hd => by
  obtain ⟨i, _, rfl⟩ := List.mem_map.mp hd
  exact sh_int
theorem eqv_ints_nil (ns : List Int) : PyData.eqv (.list (ns.map .int)) (.list []) = decide (ns = []) := by
  cases ns <;> simp [PyData.eqv, PyData.eqvAll]
theorem sc__law_cell : FnScope ["script", "k"] ["script", "k"] (defScope (top 30)) := ⟨rfl, rfl, rfl, by decide +kernel, rfl, by decide +kernel, by decide +kernel⟩
theorem fn__law_cell (h : Hd K mg base) : Fn PR w K mg base "_law_cell" 41 2 vCell noX := by
  obtain ⟨f, fd, F, hm⟩ := h.d__law_cell
  refine fn_mk F sc__law_cell hm (F.bindsN fun _ _ _ _ _ _ us hl => match us, hl with | [_, _], _ => rfl) h.ns rfl (by decide) rfl (fun cdv A outer s H E X hX gx hp ds hl => ?_)
  subst hX
  have nd := sc__law_cell.nd
  refine ⟨fun d hv => ?_, fun c hc => hc.elim⟩
  obtain ⟨ns, k, rfl, hk, hl', rfl⟩ := hv
  have k10 : k < 2 ^ 10 := by omega
  refine ss_cons (s1_if (et_is (et_cmp (ee_var 0) (ee_lst ea_nil) (od_eq gx sh_ints.ok1 (sh_ints (ns := [])).ok1) (nomark _)) (b' := decide (ns = [])) (eqv_ints_nil ns)) (fun hn => ?_) (fun hn => ?_))
  · refine ss_one (s1_ret (ee_op (ee_var 1) ee_int (od_mul (mulx (n := 10) (m := 13) (by simpa using k10) (by decide) (by decide)))) ?_)
    rw [cellZ, if_pos (of_decide_eq_true hn)]
  · have hne : ns ≠ [] := of_decide_eq_false hn
    have h0 : 0 < ns.length := List.length_pos_iff.mpr hne
    have hq : k / ns.length < 2 ^ 10 := Nat.lt_of_le_of_lt (Nat.div_le_self _ _) k10
    refine ss_nil (ss_one (s1_ret (ee_op (ee_ix (d := .int (ns.getD (k % ns.length) 0)) (ee_var 0) (ee_op (ee_var 1) (ee_len (ee_var 0) (n := ns.length) (by simp [lenD]) h.b_len) (od_mod (by omega))) ?_)
      (ee_op (ee_op (ee_var 1) (ee_len (ee_var 0) (n := ns.length) (by simp [lenD]) h.b_len) (od_fdiv gx (by omega))) ee_int (od_mul (mulx (n := 10) (m := 17) ?_ (by decide) (by decide)))) od_add) ?_))
    · rw [← Int.natCast_emod]
      refine atI_nat ?_
      have hm : k % ns.length < ns.length := Nat.mod_lt _ h0
      rw [List.getElem?_map, List.getElem?_eq_getElem hm, List.getD_eq_getElem?_getD, List.getElem?_eq_getElem hm]
      rfl
    · rw [← Int.natCast_ediv, Int.natAbs_natCast]
      exact hq
    · rw [cellZ, if_neg hne, Int.natCast_ediv]
theorem bits_lt {z : Int} {n : Nat} (h : Builtin.Int.intBits z ≤ n) : z.natAbs < 2 ^ n := by
  unfold Builtin.Int.intBits at h
  by_cases hz : z = 0
  · subst hz
    exact Nat.two_pow_pos n
  · rw [if_neg (by simpa using hz)] at h
    exact Nat.lt_of_lt_of_le (Nat.lt_log2_self (n := z.natAbs)) (Nat.pow_le_pow_right (by decide) h)
theorem cellZ_lt {ns : List Int} {k : Nat} (hb : ∀ z ∈ ns, Builtin.Int.intBits z ≤ 1048576) (hk : k ≤ 1000) : (cellZ ns k).natAbs < 2 ^ 1048600 := by
  have hs : ∀ n : Nat, n < 2 ^ 1048576 + 2 ^ 40 → n < 2 ^ 1048600 := fun n h => by
    have e : (2 : Nat) ^ 1048600 = 2 ^ 1048576 * 2 ^ 24 := by rw [← Nat.pow_add]
    have e2 : (2 : Nat) ^ 40 ≤ 2 ^ 1048576 := Nat.pow_le_pow_right (by decide) (by decide)
    generalize 2 ^ 1048576 = A at *
    omega
  unfold cellZ
  split
  · exact hs _ (Nat.lt_of_lt_of_le (show _ < 2 ^ 40 by omega) (Nat.le_add_left _ _))
  · have h1 : (ns.getD (k % ns.length) 0).natAbs < 2 ^ 1048576 := by
      rw [List.getD_eq_getElem?_getD]
      cases e : ns[k % ns.length]? with
      | none => exact Nat.two_pow_pos _
      | some z => exact bits_lt (hb z (List.mem_of_getElem? e))
    have h2 : k / ns.length ≤ 1000 := Nat.le_trans (Nat.div_le_self _ _) hk
    generalize k / ns.length = j at *
    generalize ns.getD (k % ns.length) 0 = a at *
    refine hs _ ?_
    generalize 2 ^ 1048576 = A at *
    omega
abbrev cM : Int := 340282366920938463463374607431768211507
abbrev cN : Int := 340282366920938463463374607431768211297
abbrev cP : Int := 18446744073709551557
def drawn1 (c k : Int) : Int := (c * 6364136223846793005 + (k + 1) * 1442695040888963407) % cM
def drawn2 (c k : Int) : Int := drawn1 c k * drawn1 c k % cN
def drawnZ (c k : Int) : Int := (drawn2 c k % cP + 1) * (drawn2 c k / cP + 1) * drawn2 c k % cM
theorem drawn1_in (c k : Int) : 0 ≤ drawn1 c k ∧ drawn1 c k < cM := ⟨Int.emod_nonneg _ (by decide), Int.emod_lt_of_pos _ (by decide)⟩
theorem drawn2_in (c k : Int) : 0 ≤ drawn2 c k ∧ drawn2 c k < cN := ⟨Int.emod_nonneg _ (by decide), Int.emod_lt_of_pos _ (by decide)⟩
theorem drawn_in (c k : Int) : 0 ≤ drawnZ c k ∧ drawnZ c k < cM := ⟨Int.emod_nonneg _ (by decide), Int.emod_lt_of_pos _ (by decide)⟩
theorem drawn_lt (c k : Int) : (drawnZ c k).natAbs < 2 ^ 129 := by
  have := drawn_in c k
  unfold cM at this
  omega
def vDrawn (ds : List D) (d : D) : Prop := ∃ c k : Int, ds = [.int c, .int k] ∧ c.natAbs < 2 ^ 1048600 ∧ k.natAbs < 2 ^ 1000 ∧ d = .int (drawnZ c k)
theorem sc__law_drawn : FnScope ["cell", "k", "more"] ["cell", "k"] (defScope (top 31)) := ⟨rfl, rfl, rfl, by decide +kernel, rfl, by decide +kernel, by decide +kernel⟩
theorem fn__law_drawn (h : Hd K mg base) : Fn PR w K mg base "_law_drawn" 41 2 vDrawn noX := by
  obtain ⟨f, fd, F, hm⟩ := h.d__law_drawn
  refine fn_mk F sc__law_drawn hm (F.bindsN fun _ _ _ _ _ _ us hl => match us, hl with | [_, _], _ => rfl) h.ns rfl (by decide) rfl (fun cdv A outer s H E X hX gx hp ds hl => ?_)
  subst hX
  have nd := sc__law_drawn.nd
  refine ⟨fun d hv => ?_, fun c hc => hc.elim⟩
  obtain ⟨c, k, rfl, hc, hk, rfl⟩ := hv
  have i1 := drawn1_in c k
  have i2 := drawn2_in c k
  have b1 : (drawn1 c k).natAbs < 2 ^ 129 := by
    unfold cM at i1
    omega
  have b2 : (drawn2 c k).natAbs < 2 ^ 129 := by
    unfold cN at i2
    omega
  have b3 : (drawn2 c k % cP + 1).natAbs < 2 ^ 65 := by
    have h1 := Int.emod_nonneg (drawn2 c k) (show cP ≠ 0 by decide)
    have h2 := Int.emod_lt_of_pos (drawn2 c k) (show 0 < cP by decide)
    unfold cP at *
    omega
  have b4 : (drawn2 c k / cP + 1).natAbs < 2 ^ 130 := by
    have h1 := Int.ediv_nonneg i2.1 (show 0 ≤ cP by decide)
    have h2 := Int.ediv_le_self cP i2.1
    omega
  have b5 : ((drawn2 c k % cP + 1) * (drawn2 c k / cP + 1)).natAbs < 2 ^ (65 + 130) := by
    rw [Int.natAbs_mul]
    exact nat_mul_lt b3 b4
  have k1 : (k + 1).natAbs < 2 ^ 1001 := by
    rw [Nat.pow_succ]
    generalize 2 ^ 1000 = A at *
    omega
  refine ss_cons (s1_set 2 (ee_op (ee_op (ee_op (ee_var 0) ee_int (od_mul (mulx (m := 63) hc (by decide) (by decide)))) (ee_op (ee_op (ee_var 1) ee_int od_add) ee_int (od_mul (mulx (m := 61) k1 (by decide) (by decide)))) od_add) ee_int (od_mod (by decide))) ?_ nd)
  show SS Same _ [.dat (.int c), .dat (.int k), .dat (.int (drawn1 c k))] _ _
  refine ss_cons (s1_set 2 (ee_op (ee_op (ee_var 2) (ee_var 2) (od_mul (mulx b1 b1 (by decide)))) ee_int (od_mod (by decide))) ?_ nd)
  show SS Same _ [.dat (.int c), .dat (.int k), .dat (.int (drawn2 c k))] _ _
  refine ss_cons (s1_set 2 (ee_op (ee_op (ee_op (ee_op (ee_var 2) ee_int (od_mod (by decide))) ee_int od_add) (ee_op (ee_op (ee_var 2) ee_int (od_fdiv gx (by decide))) ee_int od_add) (od_mul (mulx b3 b4 (by decide)))) (ee_var 2) (od_mul (mulx b5 b2 (by decide)))) ?_ nd)
  exact ss_one (s1_ret (ee_op (ee_var 2) ee_int (od_mod (by decide))) rfl)
def vMade (ds : List D) (d : D) : Prop := ∃ (t : Int) (u : Nat), ds = [.int t, .int u] ∧ 0 < u ∧ d = eF (mkRat t u)
theorem sc__law_made : FnScope ["top", "under", "one", "other"] ["top", "under"] (defScope (top 34)) := ⟨rfl, rfl, rfl, by decide +kernel, rfl, by decide +kernel, by decide +kernel⟩
theorem fn__law_made (h : Hd K mg base) : Fn PR w K mg base "_law_made" 41 2 vMade noX := by
  obtain ⟨f, fd, F, hm⟩ := h.d__law_made
  refine fn_mk F sc__law_made hm (F.bindsN fun _ _ _ _ _ _ us hl => match us, hl with | [_, _], _ => rfl) h.ns rfl (by decide) rfl (fun cdv A outer s H E X hX gx hp ds hl => ?_)
  subst hX
  have nd := sc__law_made.nd
  refine ⟨fun d hv => ?_, fun c hc => hc.elim⟩
  obtain ⟨t, u, rfl, hu, rfl⟩ := hv
  refine ss_cons (s1_par 2 3 (ee_abs (ee_var 0) h.b_abs) (ee_var 1) ?_ rfl nd)
  refine ss_cons (s1_while (fun m γ => ∃ a' b' : Nat, γ = [.dat (.int t), .dat (.int (u : Nat)), .dat (.int a'), .dat (.int b')] ∧ Nat.gcd a' b' = Nat.gcd t.natAbs u ∧ m = b') u ⟨t.natAbs, u, rfl, rfl, rfl⟩ (fun m γ hI => ?_) hp)
  obtain ⟨a', b', rfl, hg, e⟩ := hI
  subst e
  refine ⟨_, et_cmp (ee_var 3) ee_int od_gt (nomark _), fun hk => ?_, fun hk => ?_⟩
  · have hb : 0 < m := by
      have := of_decide_eq_true hk
      omega
    refine ss_one (s1_par 2 3 (ee_var 3) (ee_op (ee_var 2) (ee_var 3) (od_mod (by omega))) ?_ rfl nd)
    refine ⟨a' % m, Nat.mod_lt _ hb, m, a' % m, rfl, ?_, rfl⟩
    rw [← hg, Nat.gcd_comm a' m, Nat.gcd_rec m a', Nat.gcd_comm]
  · have hb : m = 0 := by
      have := of_decide_eq_false hk
      omega
    subst hb
    rw [Nat.gcd_zero_right] at hg
    have h0 : 0 < Nat.gcd t.natAbs u := Nat.gcd_pos_of_pos_right _ hu
    subst hg
    refine ss_one (s1_ret (ee_tup (ea_cons (ee_op (ee_var 0) (ee_var 2) (od_fdiv gx (by omega))) (ea_cons (ee_op (ee_var 1) (ee_var 2) (od_fdiv gx (by omega))) ea_nil))) ?_)
    exact made_eq hu
theorem sc__law_plus : FnScope ["one", "other"] ["one", "other"] (defScope (top 35)) := ⟨rfl, rfl, rfl, by decide +kernel, rfl, by decide +kernel, by decide +kernel⟩
theorem fn__law_plus (h : Hd K mg base) : Fn PR w K mg base "_law_plus" 42 2 (Bin fun a b => a + b) noX := by
  obtain ⟨f, fd, F, hm⟩ := h.d__law_plus
  refine fn_mk F sc__law_plus hm (F.bindsN fun _ _ _ _ _ _ us hl => match us, hl with | [_, _], _ => rfl) h.ns rfl (by decide) rfl (fun cdv A outer s H E X hX gx hp ds hl => ?_)
  subst hX
  have nd := sc__law_plus.nd
  refine ⟨fun d hv => ?_, fun c hc => hc.elim⟩
  obtain ⟨a, b, n, m, rfl, ha, hb, hl, rfl⟩ := hv
  refine ss_one (s1_ret (ee_call (fn__law_made h) (gx.room.mono (by decide)) (ea_cons (ee_op (ee_op (ee_ix (ee_var 0) ee_int rfl) (ee_ix (ee_var 1) ee_int rfl) (od_mul (mulx ha.1 (by simpa using hb.2) hl))) (ee_op (ee_ix (ee_var 1) ee_int rfl) (ee_ix (ee_var 0) ee_int rfl) (od_mul (mulx hb.1 (by simpa using ha.2) (by omega)))) od_add)
    (ea_cons (ee_op (ee_ix (ee_var 0) ee_int rfl) (ee_ix (ee_var 1) ee_int rfl) (od_mul (mulx (by simpa using ha.2) (by simpa using hb.2) hl))) ea_nil)) ⟨_, a.den * b.den, by rw [Int.natCast_mul], Nat.mul_pos a.den_pos b.den_pos, rfl⟩) ?_)
  rw [← Rat.add_def']
theorem sc__law_times : FnScope ["one", "other"] ["one", "other"] (defScope (top 36)) := ⟨rfl, rfl, rfl, by decide +kernel, rfl, by decide +kernel, by decide +kernel⟩
theorem fn__law_times (h : Hd K mg base) : Fn PR w K mg base "_law_times" 42 2 (Bin fun a b => a * b) noX := by
  obtain ⟨f, fd, F, hm⟩ := h.d__law_times
  refine fn_mk F sc__law_times hm (F.bindsN fun _ _ _ _ _ _ us hl => match us, hl with | [_, _], _ => rfl) h.ns rfl (by decide) rfl (fun cdv A outer s H E X hX gx hp ds hl => ?_)
  subst hX
  have nd := sc__law_times.nd
  refine ⟨fun d hv => ?_, fun c hc => hc.elim⟩
  obtain ⟨a, b, n, m, rfl, ha, hb, hl, rfl⟩ := hv
  refine ss_one (s1_ret (ee_call (fn__law_made h) (gx.room.mono (by decide)) (ea_cons (ee_op (ee_ix (ee_var 0) ee_int rfl) (ee_ix (ee_var 1) ee_int rfl) (od_mul (mulx ha.1 hb.1 hl)))
    (ea_cons (ee_op (ee_ix (ee_var 0) ee_int rfl) (ee_ix (ee_var 1) ee_int rfl) (od_mul (mulx (by simpa using ha.2) (by simpa using hb.2) hl))) ea_nil)) ⟨_, a.den * b.den, by rw [Int.natCast_mul], Nat.mul_pos a.den_pos b.den_pos, rfl⟩) ?_)
  rw [← Rat.mul_def']


theorem rangeD_get {n i : Nat} {d : D} (h : (rangeD 0 n)[i]? = some d) : i < n ∧ d = .int (i : Nat) := by
  have hi : i < n := by
    have := (List.getElem?_eq_some_iff.mp h).1
    simpa [rangeD] using this
  refine ⟨hi, ?_⟩
  unfold rangeD at h
  rw [List.getElem?_map, List.getElem?_range hi] at h
  rw [← Option.some.inj h]
  show PyData.int (0 + (i : Nat)) = _
  rw [Int.zero_add]
/-! ### the law's polynomials -/
theorem trim_drop {q : Poly} (h0 : q ≠ []) (h : coef q (q.length - 1) = 0) : trim q.dropLast = trim q := trim_ext fun i => by
  have hl : 0 < q.length := List.length_pos_iff.mpr h0
  by_cases hi : i < q.length - 1
  · rw [coef_in (by rw [List.length_dropLast]; exact hi), coef_in (by omega), List.getElem_dropLast]
  · rw [coef_out (by rw [List.length_dropLast]; omega)]
    by_cases e : i = q.length - 1
    · rw [e, h]
    · rw [coef_out (by omega)]
theorem sc__law_trim : FnScope ["some", "found"] ["some"] (defScope (top 38)) := ⟨rfl, rfl, rfl, by decide +kernel, rfl, by decide +kernel, by decide +kernel⟩
theorem fn__law_trim (h : Hd K mg base) : Fn PR w K mg base "_law_trim" 41 1 vTrim noX := by
  obtain ⟨f, fd, F, hm⟩ := h.d__law_trim
  refine fn_mk F sc__law_trim hm (F.bindsN fun _ _ _ _ _ _ us hl => match us, hl with | [_], _ => rfl) h.ns rfl (by decide) rfl (fun cdv A outer s H E X hX gx hp ds hl => ?_)
  subst hX
  have nd := sc__law_trim.nd
  refine ⟨fun d hv => ?_, fun c hc => hc.elim⟩
  obtain ⟨p, rfl, hl, rfl⟩ := hv
  refine ss_cons (s1_setO 1 (ds := p.map eF) (ef_list (ee_var 0) rfl h.b_list) ?_ nd (fun es z => nomatch z))
  refine ss_cons (s1_while (fun m γ => ∃ q : Poly, γ = [.dat (eP p), .own (q.map eF)] ∧ trim q = trim p ∧ m = q.length) p.length ⟨p, rfl, rfl, rfl⟩ (fun m γ hI => ?_) hp)
  obtain ⟨q, rfl, hq, rfl⟩ := hI
  refine ⟨decide (q ≠ []) && decide (coef q (q.length - 1) = 0), ew_et (ew_and (et_cmpO 1 (ee_is (ee_lst ea_nil) (show _ = eP [] from rfl)) (od_neP (a := q) gx) (nomark _)) (fun hk => ew_and1 ?_)), fun hk => ?_, fun hk => ?_⟩
  · have hne : q ≠ [] := of_decide_eq_true hk
    have hpos : 0 < q.length := List.length_pos_iff.mpr hne
    refine et_cmp (ee_ixO (d := eF (coef q (q.length - 1))) 1 (hb := ee_neg ee_int) (h := ?_)) (ee_is (ee_tup (ea_cons ee_int (ea_cons ee_int ea_nil))) (show _ = eF 0 from rfl)) (od_eqF gx) (nomark _)
    show atI (q.map eF) (-1) = _
    unfold atI ixN
    rw [List.length_map, if_neg (by decide), if_pos (by omega)]
    show (q.map eF)[(-1 + (q.length : Int)).toNat]? = _
    rw [show (-1 + (q.length : Int)).toNat = q.length - 1 by omega, List.getElem?_map, List.getElem?_eq_getElem (by omega), coef_in (by omega)]
    rfl
  · rw [Bool.and_eq_true] at hk
    have hne : q ≠ [] := of_decide_eq_true hk.1
    have hpos : 0 < q.length := List.length_pos_iff.mpr hne
    refine ss_one (s1_pop 1 (fun z => hne (List.map_eq_nil_iff.mp z)) ?_)
    refine ⟨q.dropLast.length, by rw [List.length_dropLast]; omega, q.dropLast, by rw [← List.map_dropLast]; rfl, ?_, rfl⟩
    rw [trim_drop hne (of_decide_eq_true hk.2), hq]
  · refine ss_freeze 1 (ss_one (s1_ret (ee_var 1) ?_))
    have ho : Own q := own_iff.mpr (by
      rw [Bool.and_eq_false_iff] at hk
      rcases hk with hk | hk
      · exact .inl (Decidable.not_not.mp (of_decide_eq_false hk))
      · exact .inr (of_decide_eq_false hk))
    show eP q = eP (trim p)
    rw [← hq, ho]
def fracU (m : Int) : Nat := ([1, 1, 1, 2, 3] : List Nat).getD (m / 16 % 5).toNat 1
def fracZ (m : Int) : Rat := mkRat (m % 13 - 6) (fracU m)
theorem fracU_in (m : Int) : 0 < fracU m ∧ fracU m ≤ 3 ∧ atI (([1, 1, 1, 2, 3] : List Int).map PyData.int) (m / 16 % 5) = some (.int (fracU m : Nat)) := by
  have h1 : 0 ≤ m / 16 % 5 := Int.emod_nonneg _ (by decide)
  have h2 : m / 16 % 5 < 5 := Int.emod_lt_of_pos _ (by decide)
  unfold fracU
  generalize m / 16 % 5 = j at *
  obtain ⟨i, rfl⟩ := Int.eq_ofNat_of_zero_le h1
  match i, h2 with
  | 0, _ => exact ⟨by decide, by decide, rfl⟩
  | 1, _ => exact ⟨by decide, by decide, rfl⟩
  | 2, _ => exact ⟨by decide, by decide, rfl⟩
  | 3, _ => exact ⟨by decide, by decide, rfl⟩
  | 4, _ => exact ⟨by decide, by decide, rfl⟩
  | n + 5, h => exact absurd h (by omega)
theorem rz_frac (m : Int) : Rz 4 (fracZ m) := by
  have h1 := Int.emod_nonneg m (show (13 : Int) ≠ 0 by decide)
  have h2 := Int.emod_lt_of_pos m (show (0 : Int) < 13 by decide)
  have h3 := fracU_in m
  exact Rz.mk (by omega) (by omega) h3.1
def vFracZ (ds : List D) (d : D) : Prop := ∃ m : Int, ds = [.int m] ∧ d = eF (fracZ m)
theorem sc__law_fraction : FnScope ["more"] ["more"] (defScope (top 42)) := ⟨rfl, rfl, rfl, by decide +kernel, rfl, by decide +kernel, by decide +kernel⟩
theorem fn__law_fraction (h : Hd K mg base) : Fn PR w K mg base "_law_fraction" 42 1 vFracZ noX := by
  obtain ⟨f, fd, F, hm⟩ := h.d__law_fraction
  refine fn_mk F sc__law_fraction hm (F.bindsN fun _ _ _ _ _ _ us hl => match us, hl with | [_], _ => rfl) h.ns rfl (by decide) rfl (fun cdv A outer s H E X hX gx hp ds hl => ?_)
  subst hX
  have nd := sc__law_fraction.nd
  refine ⟨fun d hv => ?_, fun c hc => hc.elim⟩
  obtain ⟨m, rfl, rfl⟩ := hv
  refine ss_one (s1_ret (ee_call (fn__law_made h) (gx.room.mono (by decide)) (ea_cons (ee_op (ee_op (ee_var 0) ee_int (od_mod (by decide))) ee_int od_sub)
    (ea_cons (ee_ix (ee_lst (ea_cons ee_int (ea_cons ee_int (ea_cons ee_int (ea_cons ee_int (ea_cons ee_int ea_nil)))))) (ee_op (ee_op (ee_var 0) ee_int (od_fdiv gx (by decide))) ee_int (od_mod (by decide))) (fracU_in m).2.2) ea_nil)) ⟨_, _, rfl, (fracU_in m).1, rfl⟩) rfl)
def polyAt (m : Int) (j : Nat) : Rat := if drawnZ m j % 4 = 0 then 0 else fracZ (drawnZ m j / 4)
def polyZ (m t : Int) : Poly := trim ((List.range (m % (t + 1)).toNat).map (polyAt m))
theorem polyZ_len (m : Int) {t : Int} (h : 0 ≤ t) : (polyZ m t).length ≤ t.toNat := by
  refine Nat.le_trans (trim_len _) ?_
  rw [List.length_map, List.length_range]
  have := Int.emod_lt_of_pos m (show 0 < t + 1 by omega)
  omega
theorem rz_polyAt (m : Int) (j : Nat) : Rz 4 (polyAt m j) := by
  unfold polyAt
  split
  · exact rz_zero.mono (by decide)
  · exact rz_frac _
theorem pz_polyZ (m t : Int) : PZ 4 (polyZ m t) := PZ.trim fun a ha => by
  obtain ⟨j, _, rfl⟩ := List.mem_map.mp ha
  exact rz_polyAt m j
theorem own_polyZ (m t : Int) : Own (polyZ m t) := own_trim _
def vPolyZ (ds : List D) (d : D) : Prop := ∃ m t : Int, ds = [.int m, .int t] ∧ m.natAbs < 2 ^ 1000 ∧ 0 ≤ t ∧ t ≤ 100 ∧ d = eP (polyZ m t)
theorem sc__law_poly : FnScope ["more", "most", "found", "j", "here"] ["more", "most"] (defScope (top 43)) := ⟨rfl, rfl, rfl, by decide +kernel, rfl, by decide +kernel, by decide +kernel⟩
theorem fn__law_poly (h : Hd K mg base) : Fn PR w K mg base "_law_poly" 43 2 vPolyZ noX := by
  obtain ⟨f, fd, F, hm⟩ := h.d__law_poly
  refine fn_mk F sc__law_poly hm (F.bindsN fun _ _ _ _ _ _ us hl => match us, hl with | [_, _], _ => rfl) h.ns rfl (by decide) rfl (fun cdv A outer s H E X hX gx hp ds hl => ?_)
  subst hX
  have nd := sc__law_poly.nd
  refine ⟨fun d hv => ?_, fun c hc => hc.elim⟩
  obtain ⟨m, t, rfl, hm, h0, h1, rfl⟩ := hv
  have e1 := Int.emod_nonneg m (show t + 1 ≠ 0 by omega)
  have e2 := Int.emod_lt_of_pos m (show 0 < t + 1 by omega)
  refine ss_cons (s1_setO 2 (ds := ([] : Poly).map eF) (ef_lst ea_nil) ?_ nd (fun es z => nomatch z))
  refine ss_cons (s1_for (fun i γ => ∃ a b, γ = [.dat (.int m), .dat (.int t), .own (((List.range i).map (polyAt m)).map eF), a, b] ∧ (∀ z, a ≠ .own z) ∧ (∀ z, b ≠ .own z)) (ei_range1 (ee_op (ee_var 0) (ee_op (ee_var 1) ee_int od_add) (od_mod (by omega))) (by omega) h.b_range)
    ⟨.no, .no, rfl, noO, noO⟩ (fun i d γ hd hI => ?_) (fun γ hI => ?_) hp rfl)
  · obtain ⟨a, b, rfl, na, nb⟩ := hI
    obtain ⟨hi, rfl⟩ := rangeD_get hd
    have hi2 : i < 2 ^ 1000 := Nat.lt_of_lt_of_le (show i < 2 ^ 10 by omega) (Nat.pow_le_pow_right (by decide) (by decide))
    have hm2 : m.natAbs < 2 ^ 1048600 := Nat.lt_of_lt_of_le hm (Nat.pow_le_pow_right (by decide) (by decide))
    refine ⟨_, eg_name (i := 3) nd, ?_⟩
    refine ss_cons (s1_set 4 (ee_call (fn__law_drawn h) (gx.room.mono (by decide)) (ea_cons (ee_var 0) (ea_cons (ee_var 3) ea_nil)) ⟨m, i, rfl, hm2, hi2, rfl⟩) ?_ nd)
    refine ss_one (s1_append 2 (d := eF (polyAt m i)) (ee_ix (ee_lst (ea_cons (ee_call (fn__law_fraction h) (gx.room.mono (by decide)) (ea_cons (ee_op (ee_var 4) ee_int (od_fdiv gx (by decide))) ea_nil) ⟨_, rfl, rfl⟩) (ea_cons (ee_is (ee_tup (ea_cons ee_int (ea_cons ee_int ea_nil))) (show _ = eF 0 from rfl)) ea_nil)))
      (ee_intB (ee_cmp (ee_op (ee_var 4) ee_int (od_mod (by decide))) ee_int (od_eqI gx) (nomark _)) h.b_int) ?_) ?_ ?_)
    · unfold polyAt
      by_cases z : drawnZ m i % 4 = 0
      · rw [if_pos z, decide_eq_true z]
        rfl
      · rw [if_neg z, decide_eq_false z]
        rfl
    · refine ⟨.dat (.int (i : Nat)), .dat (.int (drawnZ m i)), ?_, datO, datO⟩
      rw [List.range_succ, List.map_append, List.map_append]
      rfl
    · simp only [List.length_map, List.length_range]
      omega
  · obtain ⟨a, b, rfl, na, nb⟩ := hI
    refine ss_freeze 2 (ss_one (s1_ret (ee_call (fn__law_trim h) (gx.room.mono (by decide)) (ea_cons (ee_var 2) ea_nil) ⟨(List.range (m % (t + 1)).toNat).map (polyAt m), ?_, ?_, rfl⟩) rfl))
    · show [PyData.list _] = [PyData.list _]
      rw [show (rangeD 0 (m % (t + 1)).toNat).length = (m % (t + 1)).toNat by simp [rangeD]]
    · rw [List.length_map, List.length_range]
      omega


theorem od_pow {X : Cx} {i j : Int} (h : CPow i j) : OpD X (binaryOp .Pow) (.int i) (.int j) (.int (i ^ j.toNat)) := opd_I op_pow h fun _ => .int _
theorem isPo_snoc0 (p : Poly) : isPo (eP (p ++ [0])) = false := by
  rw [isPo_eP]
  have : decide (Own (p ++ [0])) = false := decide_eq_false fun z => by
    rcases own_iff.mp z with h | h
    · simp at h
    · refine h ?_
      rw [List.length_append, coef_in (by simp)]
      simp
  rw [this, Bool.and_false]
def ones (n : Nat) : Poly := List.replicate n 1
theorem own_ones (n : Nat) : Own (ones n) := own_iff.mpr (by
  cases n with
  | zero => exact .inl rfl
  | succ n =>
    refine .inr ?_
    unfold ones
    rw [coef_in (by simp), List.getElem_replicate]
    decide)
theorem pz_ones (n : Nat) : PZ 4 (ones n) := fun q hq => by
  rw [(List.mem_replicate.mp hq).2]
  exact rz_one.mono (by decide)
theorem ones_len (n : Nat) : (ones n).length = n := List.length_replicate
theorem cz_polyZ (m t : Int) : CZ 6 (polyZ m t) := by
  have hf : ∀ z : Int, ∃ k : Int, k.natAbs < 2 ^ 6 ∧ fracZ z * ((6 : Int) : Rat) = (k : Rat) := fun z => by
    have h1 := Int.emod_nonneg z (show (13 : Int) ≠ 0 by decide)
    have h2 := Int.emod_lt_of_pos z (show (0 : Int) < 13 by decide)
    obtain ⟨u0, u1, _⟩ := fracU_in z
    unfold fracZ
    have hy1 : -6 ≤ z % 13 - 6 ∧ z % 13 - 6 ≤ 6 := by omega
    generalize z % 13 - 6 = y at *
    generalize fracU z = u at *
    have hu : u = 1 ∨ u = 2 ∨ u = 3 := by omega
    have e : mkRat y u = (y : Rat) / (u : Rat) := by rw [← Rat.divInt_ofNat, Rat.divInt_eq_div, Rat.intCast_natCast]
    rw [e]
    rcases hu with rfl | rfl | rfl
    · exact ⟨y * 6, by omega, by rw [Rat.intCast_mul]; grind⟩
    · exact ⟨y * 3, by omega, by rw [Rat.intCast_mul]; grind⟩
    · exact ⟨y * 2, by omega, by rw [Rat.intCast_mul]; grind⟩
  refine ⟨6, by decide, by decide, fun i => ?_⟩
  unfold polyZ
  rw [coef_trim, coef_map]
  have hz : ∃ k : Int, k.natAbs < 2 ^ 6 ∧ (0 : Rat) * ((6 : Int) : Rat) = (k : Rat) := ⟨0, by decide, by rw [Rat.zero_mul]; rfl⟩
  split
  · unfold polyAt
    split
    · exact hz
    · exact hf _
  · exact hz


theorem sc__law_product : FnScope ["one", "other", "found", "j", "a", "k", "b"] ["one", "other"] (defScope (top 40)) := ⟨rfl, rfl, rfl, by decide +kernel, rfl, by decide +kernel, by decide +kernel⟩
theorem fn__law_product (h : Hd K mg base) : Fn PR w K mg base "_law_product" 43 2 vMul noX := by
  obtain ⟨f, fd, F, hm⟩ := h.d__law_product
  refine fn_mk F sc__law_product hm (F.bindsN fun _ _ _ _ _ _ us hl => match us, hl with | [_, _], _ => rfl) h.ns rfl (by decide) rfl (fun cdv A outer s H E X hX gx hp ds hl => ?_)
  subst hX
  have nd := sc__law_product.nd
  refine ⟨fun d hv => ?_, fun c hc => hc.elim⟩
  obtain ⟨p, q, n, m, rfl, hpn, hqm, h0, h1, hl1, hl2, hlim, rfl⟩ := hv
  have hlen : ((p.length : Int) + (q.length : Int)).toNat = p.length + q.length := by omega
  refine ss_cons (s1_setO 2 (ds := (List.replicate (p.length + q.length) (0 : Rat)).map eF) (ef_is (ef_rep (ef_lst (ea_cons (ee_is (ee_tup (ea_cons ee_int (ea_cons ee_int ea_nil))) (show _ = eF 0 from rfl)) ea_nil)) (ee_op (ee_len (ee_var 0) (n := p.length) (by simp [eP, lenD]) h.b_len) (ee_len (ee_var 1) (n := q.length) (by simp [eP, lenD]) h.b_len) od_add) (by omega) (by rw [hlen]; show 1 * _ ≤ _; omega)) ?_) ?_ nd (fun es z => nomatch z))
  · rw [hlen, flat_one, List.map_replicate]
  refine ss_cons (s1_for (fun i γ => ∃ f a b c e, γ = [.dat (eP p), .dat (eP q), .own (f.map eF), a, b, c, e] ∧ (∀ z, a ≠ .own z) ∧ (∀ z, b ≠ .own z) ∧ (∀ z, c ≠ .own z) ∧ (∀ z, e ≠ .own z) ∧ Rows p q n m (p.length + q.length) i 0 f) (ei_enum (ee_var 0) h.b_enumerate)
    ⟨_, .no, .no, .no, .no, rfl, noO, noO, noO, noO, Rows.start⟩ (fun i d γ hd hI => ?_) (fun γ hI => ?_) hp rfl)
  · obtain ⟨f, a, b, c, e, rfl, na, nb, nc, ne, r⟩ := hI
    obtain ⟨x, hx, rfl⟩ := enumD_get hd
    have hi : i < p.length := by simpa using (List.getElem?_eq_some_iff.mp hx).1
    have ex : x = eF (coef p i) := by
      rw [List.getElem?_map, List.getElem?_eq_getElem hi] at hx
      rw [coef_in hi]
      exact (Option.some.inj hx).symm
    subst ex
    refine ⟨_, eg_pair (i := 3) (j := 4) rfl nd (ho := fun es z => na es (by simpa using z)), ?_⟩
    refine ss_one (s1_for (fun j γ => ∃ f c e, γ = [.dat (eP p), .dat (eP q), .own (f.map eF), .dat (.int (i : Nat)), .dat (eF (coef p i)), c, e] ∧ (∀ z, c ≠ .own z) ∧ (∀ z, e ≠ .own z) ∧ Rows p q n m (p.length + q.length) i j f) (ei_enum (ee_var 1) h.b_enumerate)
      ⟨f, c, e, rfl, nc, ne, r⟩ (fun j d γ hd hI => ?_) (fun γ hI => ?_) hp rfl)
    · obtain ⟨f, c, e, rfl, nc, ne, r⟩ := hI
      obtain ⟨x, hx, rfl⟩ := enumD_get hd
      have hj : j < q.length := by simpa using (List.getElem?_eq_some_iff.mp hx).1
      have ex : x = eF (coef q j) := by
        rw [List.getElem?_map, List.getElem?_eq_getElem hj] at hx
        rw [coef_in hj]
        exact (Option.some.inj hx).symm
      subst ex
      have hf : i + j < f.length := by rw [r.len]; omega
      have hat : atI (f.map eF) ((i : Int) + (j : Int)) = some (eF (coef f (i + j))) := by
        rw [show (i : Int) + (j : Int) = ((i + j : Nat) : Int) by omega]
        exact ix_eP hf
      have r2 := r.step hpn hqm h1 hi hj (by omega)
      have s1 : Rz (1 + i * (n + m + 1)) (coef f (i + j)) := by
        rw [r.at_, if_neg (by omega), Rat.add_zero]
        have h := rz_cmul (p := p.take i) (q := q) (k := i + j) (n := n) (m := m) (fun b hb => hpn b (List.mem_of_mem_take hb)) hqm h1
        rw [List.length_take, Nat.min_eq_left (by omega)] at h
        exact h
      have hb : (i + 2) * (n + m + 1) ≤ LIM := Nat.le_trans (Nat.mul_le_mul_right _ (by omega)) hlim
      have hb2 : (i + 2) * (n + m + 1) = i * (n + m + 1) + 2 * (n + m + 1) := Nat.add_mul ..
      refine ⟨_, eg_pair (i := 5) (j := 6) rfl nd (ho := fun es z => nc es (by simpa using z)), ?_⟩
      refine ss_one (s1_setIx 2 (j := i + j) (ee_call (fn__law_plus h) (gx.room.mono (by decide)) (ea_cons (ee_ixO 2 (hb := ee_op (ee_var 3) (ee_var 5) od_add) (h := hat)) (ea_cons (ee_call (fn__law_times h) (gx.room.mono (by decide)) (ea_cons (ee_var 4) (ea_cons (ee_var 6) ea_nil)) ⟨_, _, n, m, rfl, by rw [coef_in hi]; exact hpn _ (List.getElem_mem hi), hqm.coef h1 j, by omega, rfl⟩) ea_nil)) ⟨_, _, _, n + m, rfl, s1, by rw [coef_in hi]; exact (hpn _ (List.getElem_mem hi)).mul (hqm.coef h1 j), by omega, rfl⟩) (ee_op (ee_var 3) (ee_var 5) od_add) ?_ ?_)
      · rw [List.length_map]
        unfold ixN
        rw [if_pos (by omega), if_pos (by omega)]
        congr 1
      · refine ⟨_, .dat (.int (j : Nat)), .dat (eF (coef q j)), ?_, datO, datO, r2⟩
        rw [List.map_set]
        rfl
    · obtain ⟨f, c, e, rfl, nc, ne, r⟩ := hI
      rw [enumD_len, List.length_map] at r
      exact ⟨f, _, _, c, e, rfl, datO, datO, nc, ne, r.next hi⟩
  · obtain ⟨f, a, b, c, e, rfl, na, nb, nc, ne, r⟩ := hI
    rw [enumD_len, List.length_map] at r
    refine ss_freeze 2 ?_
    have hfl : f.length ≤ 1000 := by rw [r.len]; omega
    refine ss_one (s1_ret (ee_call (fn__law_trim h) (gx.room.mono (by decide)) (ea_cons (ee_var 2) ea_nil) ⟨f, rfl, hfl, rfl⟩) ?_)
    congr 1
    unfold pmul
    refine trim_ext fun k => ?_
    rw [r.at_, coef_map, if_neg (show ¬ (p.length ≤ k ∧ k < p.length + 0) by omega), Rat.add_zero, List.take_length]
    split
    · rfl
    · exact cmul_out (by omega)


theorem zip_pairs (ds es : List D) : zipD ds es = ((List.range (min ds.length es.length)).map fun (i : Nat) => ((ds.getD i .none, es.getD i .none) : D × D)).map fun q => .tuple [q.1, q.2] := by
  unfold zipD
  rw [List.map_map]
  rfl
def padTo (p : Poly) (m : Nat) : Poly := p ++ List.replicate (m - p.length) 0
theorem padTo_len {p : Poly} {m : Nat} (h : p.length ≤ m) : (padTo p m).length = m := by
  unfold padTo
  rw [List.length_append, List.length_replicate]
  omega
theorem coef_padTo (p : Poly) (m i : Nat) : coef (padTo p m) i = coef p i := by
  unfold padTo coef
  rw [List.getD_eq_getElem?_getD, List.getD_eq_getElem?_getD, List.getElem?_append]
  split
  · rfl
  · rename_i hi
    rw [List.getElem?_replicate, List.getElem?_eq_none (l := p) (by omega)]
    split <;> rfl
/-- what two fractions come to, as data -/
def onF (f : Rat → Rat → Rat) : D → D → D
  | .tuple [.int a, .int b], .tuple [.int c, .int d] => eF (f (mkRat a b.toNat) (mkRat c d.toNat))
  | _, _ => .none
theorem onF_eF (f : Rat → Rat → Rat) (a b : Rat) : onF f (eF a) (eF b) = eF (f a b) := by
  show eF (f (mkRat a.num ((a.den : Int)).toNat) (mkRat b.num ((b.den : Int)).toNat)) = _
  rw [Int.toNat_natCast, Int.toNat_natCast, Rat.mkRat_self, Rat.mkRat_self]
theorem sc__law_sum : FnScope ["one", "other", "many", "first", "second", "a", "b"] ["one", "other"] (defScope (top 39)) := ⟨rfl, rfl, rfl, by decide +kernel, rfl, by decide +kernel, by decide +kernel⟩
theorem fn__law_sum (h : Hd K mg base) : Fn PR w K mg base "_law_sum" 43 2 vAdd noX := by
  obtain ⟨f, fd, F, hm⟩ := h.d__law_sum
  refine fn_mk F sc__law_sum hm (F.bindsN fun _ _ _ _ _ _ us hl => match us, hl with | [_, _], _ => rfl) h.ns rfl (by decide) rfl (fun cdv A outer s H E X hX gx hp ds hl => ?_)
  subst hX
  have nd := sc__law_sum.nd
  refine ⟨fun d hv => ?_, fun c hc => hc.elim⟩
  obtain ⟨p, q, n, m, rfl, hpn, hqm, h0, h1, hlim, hl1, hl2, rfl⟩ := hv
  refine ss_cons (s1_set 2 (ee_is (d' := .int ((max p.length q.length : Nat) : Int)) (ee_max (ee_len (ee_var 0) (n := p.length) (by simp [eP, lenD]) h.b_len) (ee_len (ee_var 1) (n := q.length) (by simp [eP, lenD]) h.b_len) rfl h.b_max) (by congr 1; omega)) ?_ nd)
  have hmx : max p.length q.length ≤ 1000 := by omega
  generalize hM : max p.length q.length = M at *
  have t1 : ((M : Int) - (p.length : Int)).toNat = M - p.length := by omega
  have t2 : ((M : Int) - (q.length : Int)).toNat = M - q.length := by omega
  have e0 : (List.replicate 0 [eF 0]).flatten = ([] : List D) := rfl
  refine ss_cons (s1_set 3 (ee_is (d' := eP (padTo p M)) (ef_ee (ef_cat (ee_var 0) (ef_ee (ef_rep (ef_lst (ea_cons (ee_is (ee_tup (ea_cons ee_int (ea_cons ee_int ea_nil))) (show _ = eF 0 from rfl)) ea_nil)) (ee_op (ee_var 2) (ee_len (ee_var 0) (n := p.length) (by simp [eP, lenD]) h.b_len) od_sub) (by omega) (by rw [t1]; show 1 * _ ≤ _; omega))) ?_)) ?_) ?_ nd)
  · rw [t1, flat_one, List.length_map, List.length_replicate]
    omega
  · rw [t1, flat_one]
    show PyData.list _ = PyData.list ((padTo p M).map eF)
    unfold padTo
    rw [List.map_append, List.map_replicate]
  refine ss_cons (s1_set 4 (ee_is (d' := eP (padTo q M)) (ef_ee (ef_cat (ee_var 1) (ef_ee (ef_rep (ef_lst (ea_cons (ee_is (ee_tup (ea_cons ee_int (ea_cons ee_int ea_nil))) (show _ = eF 0 from rfl)) ea_nil)) (ee_op (ee_var 2) (ee_len (ee_var 1) (n := q.length) (by simp [eP, lenD]) h.b_len) od_sub) (by omega) (by rw [t2]; show 1 * _ ≤ _; omega))) ?_)) ?_) ?_ nd)
  · rw [t2, flat_one, List.length_map, List.length_replicate]
    omega
  · rw [t2, flat_one]
    show PyData.list _ = PyData.list ((padTo q M).map eF)
    unfold padTo
    rw [List.map_append, List.map_replicate]
  have l1 : (padTo p M).length = M := padTo_len (by omega)
  have l2 : (padTo q M).length = M := padTo_len (by omega)
  have g1 : ∀ i, i < M → ((padTo p M).map eF).getD i .none = eF (coef p i) := fun i hi => by
    rw [List.getD_eq_getElem?_getD, List.getElem?_map, List.getElem?_eq_getElem (by rw [l1]; exact hi), ← coef_padTo p M, coef_in (by rw [l1]; exact hi)]
    rfl
  have g2 : ∀ i, i < M → ((padTo q M).map eF).getD i .none = eF (coef q i) := fun i hi => by
    rw [List.getD_eq_getElem?_getD, List.getElem?_map, List.getElem?_eq_getElem (by rw [l2]; exact hi), ← coef_padTo q M, coef_in (by rw [l2]; exact hi)]
    rfl
  refine ss_one (s1_ret (ee_call (fn__law_trim h) (gx.room.mono (by decide)) (ea_cons (ee_is (d' := eP (paddRaw p q)) (ef_ee (ef_lc2 "a" "b" 5 6 (fun _ _ => true) (onF fun a b => a + b) (by decide) rfl nd (ei_is (ei_zip (ee_var 3) (ee_var 4) h.b_zip) (zip_pairs _ _)) (blkOk_by (own := [("a", 5), ("b", 6)]) (N := ["one", "other", "many", "first", "second", "a", "b"]) (sc := defScope (top 39)) (by decide +kernel)) (fun _ _ _ _ _ => pg_tup rfl (pgs_cons (pg_name (i := 5) nd rfl (Or.inl rfl)) (pgs_cons (pg_name (i := 6) nd rfl (Or.inl rfl)) pgs_nil))) (fun es z => nomatch z) (fun es z => nomatch z) (fun q _ _ _ _ _ _ => .inl ⟨rfl, rfl⟩) (fun z hz _ s1 H1 C1 cl1 fp1 => ?_) ?_)) ?_) ea_nil) ⟨paddRaw p q, rfl, by unfold paddRaw; rw [List.length_map, List.length_range, hM]; omega, rfl⟩) rfl)
  · obtain ⟨i, hi, rfl⟩ := List.mem_map.mp hz
    rw [List.length_map, List.length_map, l1, l2, Nat.min_self] at hi
    have hi := List.mem_range.mp hi
    show EE Same _ _ _ (onF _ (((padTo p M).map eF).getD i .none) (((padTo q M).map eF).getD i .none))
    simp only [g1 i hi, g2 i hi, onF_eF]
    exact ee_call (fn__law_plus h) (gx.room.mono (by decide)) (ea_cons (ee_var 5) (ea_cons (ee_var 6) ea_nil)) ⟨_, _, n, m, rfl, hpn.coef h0 i, hqm.coef h1 i, hlim, rfl⟩
  · rw [List.length_map, List.length_range, List.length_map, List.length_map, l1, l2]
    omega
  · rw [List.length_map, List.length_map, l1, l2, Nat.min_self, List.filter_eq_self.mpr (fun _ _ => rfl), List.map_map]
    show PyData.list _ = PyData.list ((paddRaw p q).map eF)
    unfold paddRaw
    rw [List.map_map, hM]
    congr 1
    refine List.map_congr_left fun i hi => ?_
    have hi := List.mem_range.mp hi
    show onF _ (((padTo p M).map eF).getD i .none) (((padTo q M).map eF).getD i .none) = eF (coef p i + coef q i)
    rw [g1 i hi, g2 i hi, onF_eF]


/-! ### the law's own papers -/
theorem pmul_one (w : Rat) (q : Poly) : pmul [w] q = pscale q w := ev_ext (own_pmul _ _) (own_pscale _ _) fun x => by
  rw [peval_pmul, peval_pscale]
  show (0 * x + w) * peval q x = _
  grind
theorem sc__law_paper_sum : FnScope ["paper", "found", "weight", "poly"] ["paper"] (defScope (top 44)) := ⟨rfl, rfl, rfl, by decide +kernel, rfl, by decide +kernel, by decide +kernel⟩
theorem fn__law_paper_sum (h : Hd K mg base) : Fn PR w K mg base "_law_paper_sum" 45 1 vSumBy noX := by
  obtain ⟨f, fd, F, hm⟩ := h.d__law_paper_sum
  refine fn_mk F sc__law_paper_sum hm (F.bindsN fun _ _ _ _ _ _ us hl => match us, hl with | [_], _ => rfl) h.ns rfl (by decide) rfl (fun cdv A outer s H E X hX gx hp ds hl => ?_)
  subst hX
  have nd := sc__law_paper_sum.nd
  refine ⟨fun d hv => ?_, fun c hc => hc.elim⟩
  obtain ⟨L, rfl, hz, rfl⟩ := hv
  refine ss_cons (s1_set 1 (ee_is (ee_lst ea_nil) (show _ = eP [] from rfl)) ?_ nd)
  refine ss_cons (s1_for (fun i γ => ∃ a b, γ = [.dat (ePap L), .dat (eP (psum (L.take i))), a, b] ∧ (∀ z, a ≠ .own z) ∧ (∀ z, b ≠ .own z)) (ei_list (ee_var 0 rfl)) ⟨.no, .no, rfl, noO, noO⟩ (fun i d γ hd hI => ?_) (fun γ hI => ?_) hp rfl)
  · obtain ⟨a, b, rfl, na, nb⟩ := hI
    obtain ⟨hi, rfl⟩ := pap_get hd
    have hq := hz.at_ L[i] (List.getElem_mem hi)
    obtain ⟨h1, h2⟩ := pz_psum hz i (by omega)
    have hl := hz.len
    have hstep := psum_take hi
    have ht := pz_term hq
    have htl := term_len hq.2.2
    have e1 : pmul [L[i].1] (pmul L[i].2 L[i].2) = term L[i] := pmul_one _ _
    generalize L[i] = q at *
    haveI : PB q.2 1000 13 := ⟨hq.2.1, by decide, hq.2.2⟩
    haveI : RB q.1 1000 := ⟨hq.1⟩
    haveI : PB (psum (L.take i)) 1120041 25 := ⟨h1.mono (by omega), by decide, h2⟩
    refine ⟨_, eg_pair (i := 2) (j := 3) rfl nd (ho := fun es z => na es (by simpa using z)), ?_⟩
    refine ss_one (s1_set 1 (ee_is (ee_call (fn__law_sum h) (gx.room.mono (by decide)) (ea_cons (ee_var 1 rfl) (ea_cons (ee_call (fn__law_product h) (gx.room.mono (by decide)) (ea_cons (ee_is (ef_ee (ef_lst (ea_cons (ee_var 2 rfl) ea_nil))) (show _ = eP [q.1] from rfl)) (ea_cons (ee_call (fn__law_product h) (gx.room.mono (by decide)) (ea_cons (ee_var 3 rfl) (ea_cons (ee_var 3 rfl) ea_nil)) (mul_c (by decide))) ea_nil)) (mul_c (by decide))) ea_nil)) (add_c (by decide))) (show _ = eP (psum (L.take (i + 1))) by rw [hstep, ← e1])) ?_ nd)
    exact ⟨_, _, rfl, datO, datO⟩
  · obtain ⟨a, b, rfl, na, nb⟩ := hI
    refine ss_one (s1_ret (ee_var 1 rfl) ?_)
    rw [List.length_map, List.take_length]
def vIsPapL (ds : List D) (d : D) : Prop := ∃ L : Pap, ds = [ePap L] ∧ PapOk L ∧ L.length ≤ 1000 ∧ d = .bool true
theorem sc__law_is_paper : FnScope ["paper", "weight", "poly"] ["paper"] (defScope (top 45)) := ⟨rfl, rfl, rfl, by decide +kernel, rfl, by decide +kernel, by decide +kernel⟩
theorem fn__law_is_paper (h : Hd K mg base) : Fn PR w K mg base "_law_is_paper" 41 1 vIsPapL noX := by
  obtain ⟨f, fd, F, hm⟩ := h.d__law_is_paper
  refine fn_mk F sc__law_is_paper hm (F.bindsN fun _ _ _ _ _ _ us hl => match us, hl with | [_], _ => rfl) h.ns rfl (by decide) rfl (fun cdv A outer s H E X hX gx hp ds hl => ?_)
  subst hX
  have nd := sc__law_is_paper.nd
  refine ⟨fun d hv => ?_, fun c hc => hc.elim⟩
  obtain ⟨L, rfl, ho, hl, rfl⟩ := hv
  refine ss_cons (s1_if (et_is (et_not (et_val (ee_isi "list" (ee_var 0 rfl) (.inr (.inl rfl)) h.b_isinstance h.b_list PyProof.Rows.boot_list))) (b' := false) rfl) (fun z => nomatch z) (fun _ => ss_nil ?_))
  refine ss_one (s1_ret (ee_is (ee_all (bs := L.map fun _ => true) (ee_is (ef_ee (ef_map2A "weight" "poly" 1 2 (L) (fun q => eF q.1) (fun q => eP q.2) (fun _ => .bool true) (by decide) rfl nd (ei_is (ei_list (ee_var 0 rfl)) (rfl)) (blkOk_by (own := [("weight", 1), ("poly", 2)]) (N := ["paper", "weight", "poly"]) (sc := defScope (top 45)) (by decide +kernel)) (fun _ _ _ _ _ => pg_tup rfl (pgs_cons (pg_name (i := 1) nd rfl (Or.inl rfl)) (pgs_cons (pg_name (i := 2) nd rfl (Or.inl rfl)) pgs_nil))) (fun es z => nomatch z) (fun es z => nomatch z) ?_ (hl))) ?_) rfl h.b_all) ?_) rfl)
  · intro q hq s1 H1 C1 cl1 fp1
    obtain ⟨h1, h2, h3⟩ := ho q hq
    refine ee_is (ee_and (ee_cmp (ee_ix (ee_var 1 rfl) ee_int rfl) ee_int od_gt (nomark _)) (fun _ => ee_one (ee_cmp (ee_var 2 rfl) (ef_ee (ef_lst ea_nil)) (od_neC gx.blk) (nomark _)))) ?_
    rw [decide_eq_true h1, decide_eq_false h2]
    rfl
  · rw [List.map_map]
    rfl
  · congr 1
    rw [List.all_map, List.all_eq_true]
    exact fun _ _ => rfl
def wZ (n : Int) : Rat := mkRat (1 + n % 7) (1 + n / 8 % 4).toNat
theorem wZ_in (n : Int) : 0 < (wZ n).num ∧ Rz 10 (wZ n) ∧ 0 < (1 + n / 8 % 4).toNat := by
  have h1 := Int.emod_nonneg n (show (7 : Int) ≠ 0 by decide)
  have h2 := Int.emod_lt_of_pos n (show (0 : Int) < 7 by decide)
  have h3 := Int.emod_nonneg (n / 8) (show (4 : Int) ≠ 0 by decide)
  have h4 := Int.emod_lt_of_pos (n / 8) (show (0 : Int) < 4 by decide)
  unfold wZ
  generalize n % 7 = a at *
  generalize n / 8 % 4 = b at *
  obtain ⟨i, rfl⟩ := Int.eq_ofNat_of_zero_le h1
  obtain ⟨j, rfl⟩ := Int.eq_ofNat_of_zero_le h3
  have hi : i < 7 := by omega
  have hj : j < 4 := by omega
  have all : ∀ i : Fin 7, ∀ j : Fin 4, 0 < (mkRat (1 + ((i.1 : Nat) : Int)) (1 + ((j.1 : Nat) : Int)).toNat).num := by decide +kernel
  refine ⟨all ⟨i, hi⟩ ⟨j, hj⟩, Rz.mk ?_ ?_ (by omega), by omega⟩
  · show _ < 1024; omega
  · show _ < 1024; omega
def papTo (m : Int) : Nat → Pap
  | 0 => []
  | j + 1 => papTo m j ++ (if polyZ (drawnZ m (j : Nat) / 64) 3 ≠ [] then [(wZ (drawnZ m (j : Nat)), polyZ (drawnZ m (j : Nat) / 64) 3)] else [])
structure PapG (L : Pap) : Prop where
  len : L.length ≤ 3
  at_ : ∀ q ∈ L, (0 < q.1.num ∧ q.2 ≠ [] ∧ Own q.2) ∧ Rz 10 q.1 ∧ PZ 4 q.2 ∧ q.2.length ≤ 3
theorem papTo_ok (m : Int) : ∀ j, (papTo m j).length ≤ j ∧ ∀ q ∈ papTo m j, (0 < q.1.num ∧ q.2 ≠ [] ∧ Own q.2) ∧ Rz 10 q.1 ∧ PZ 4 q.2 ∧ q.2.length ≤ 3
  | 0 => ⟨Nat.le_refl _, fun q hq => nomatch hq⟩
  | j + 1 => by
    obtain ⟨h1, h2⟩ := papTo_ok m j
    show (papTo m j ++ _).length ≤ _ ∧ ∀ q ∈ papTo m j ++ _, _
    by_cases z : polyZ (drawnZ m (j : Nat) / 64) 3 ≠ []
    · rw [if_pos z]
      refine ⟨by rw [List.length_append]; show _ + 1 ≤ _; omega, fun q hq => ?_⟩
      rcases List.mem_append.mp hq with y | y
      · exact h2 q y
      · rw [List.mem_singleton.mp y]
        exact ⟨⟨(wZ_in _).1, z, own_polyZ _ _⟩, (wZ_in _).2.1, pz_polyZ _ _, polyZ_len _ (by decide)⟩
    · rw [if_neg z, List.append_nil]
      exact ⟨by omega, h2⟩
def vPapL (ds : List D) (d : D) : Prop := ∃ m : Int, ds = [.int m] ∧ m.natAbs < 2 ^ 1000 ∧ d = ePap (papTo m (m % 4).toNat)
theorem sc__law_paper : FnScope ["more", "found", "j", "here", "poly"] ["more"] (defScope (top 46)) := ⟨rfl, rfl, rfl, by decide +kernel, rfl, by decide +kernel, by decide +kernel⟩
theorem fn__law_paper (h : Hd K mg base) : Fn PR w K mg base "_law_paper" 44 1 vPapL noX := by
  obtain ⟨f, fd, F, hm⟩ := h.d__law_paper
  refine fn_mk F sc__law_paper hm (F.bindsN fun _ _ _ _ _ _ us hl => match us, hl with | [_], _ => rfl) h.ns rfl (by decide) rfl (fun cdv A outer s H E X hX gx hp ds hl => ?_)
  subst hX
  have nd := sc__law_paper.nd
  refine ⟨fun d hv => ?_, fun c hc => hc.elim⟩
  obtain ⟨m, rfl, hm, rfl⟩ := hv
  have e1 := Int.emod_nonneg m (show (4 : Int) ≠ 0 by decide)
  have e2 := Int.emod_lt_of_pos m (show (0 : Int) < 4 by decide)
  have hm2 : m.natAbs < 2 ^ 1048600 := Nat.lt_of_lt_of_le hm (Nat.pow_le_pow_right (by decide) (by decide))
  refine ss_cons (s1_setO 1 (ds := (papTo m 0).map eW) (ef_lst ea_nil) ?_ nd (fun es z => nomatch z))
  refine ss_cons (s1_for (fun i γ => ∃ a b c, γ = [.dat (.int m), .own ((papTo m i).map eW), a, b, c] ∧ (∀ z, a ≠ .own z) ∧ (∀ z, b ≠ .own z) ∧ (∀ z, c ≠ .own z)) (ei_range1 (ee_op (ee_var 0 rfl) ee_int (od_mod (by decide))) (by omega) h.b_range) ⟨.no, .no, .no, rfl, noO, noO, noO⟩ (fun i d γ hd hI => ?_) (fun γ hI => ?_) hp rfl)
  · obtain ⟨a, b, c, rfl, na, nb, nc⟩ := hI
    obtain ⟨hi, rfl⟩ := rangeD_get hd
    have hi4 : i < 4 := by omega
    have hi2 : i < 2 ^ 1000 := Nat.lt_of_lt_of_le (show i < 2 ^ 10 by omega) (Nat.pow_le_pow_right (by decide) (by decide))
    have hin := drawn_in m (i : Nat)
    have hlt := drawn_lt m (i : Nat)
    have hw := wZ_in (drawnZ m (i : Nat))
    have hlen := (papTo_ok m i).1
    have hb : (drawnZ m (i : Nat) / 64).natAbs < 2 ^ 1000 := Nat.lt_of_lt_of_le (show _ < 2 ^ 129 by omega) (Nat.pow_le_pow_right (by decide) (by decide))
    have hsucc : papTo m (i + 1) = papTo m i ++ (if polyZ (drawnZ m (i : Nat) / 64) 3 ≠ [] then [(wZ (drawnZ m (i : Nat)), polyZ (drawnZ m (i : Nat) / 64) 3)] else []) := rfl
    refine ⟨_, eg_name (i := 2) nd, ?_⟩
    refine ss_cons (s1_set 3 (ee_call (fn__law_drawn h) (gx.room.mono (by decide)) (ea_cons (ee_var 0 rfl) (ea_cons (ee_var 2 rfl) ea_nil)) (⟨m, i, rfl, hm2, hi2, rfl⟩)) ?_ nd)
    have hwd : wZ (drawnZ m (i : Nat)) = mkRat (1 + drawnZ m (i : Nat) % 7) (1 + drawnZ m (i : Nat) / 8 % 4).toNat := rfl
    generalize drawnZ m (i : Nat) = n at *
    refine ss_cons (s1_set 4 (ee_call (fn__law_poly h) (gx.room.mono (by decide)) (ea_cons (ee_op (ee_var 3 rfl) ee_int (od_fdiv gx (by decide))) (ea_cons ee_int ea_nil)) (⟨_, _, rfl, hb, by decide, by decide, rfl⟩)) ?_ nd)
    refine ss_one (s1_if (et_cmp (ee_var 4 rfl) (ef_ee (ef_lst ea_nil)) (od_neC gx) (nomark _)) (fun hk => ?_) (fun hk => ?_))
    · have hne : polyZ (n / 64) 3 ≠ [] := by simpa using hk
      have h3 := Int.emod_nonneg (n / 8) (show (4 : Int) ≠ 0 by decide)
      refine ss_one (s1_append 1 (ds := (papTo m i).map eW) (d := eW (wZ n, polyZ (n / 64) 3)) (ee_tup (ea_cons (ee_call (fn__law_made h) (gx.room.mono (by decide)) (ea_cons (ee_op ee_int (ee_op (ee_var 3 rfl) ee_int (od_mod (by decide))) od_add) (ea_cons (ee_op ee_int (ee_op (ee_op (ee_var 3 rfl) ee_int (od_fdiv gx (by decide))) ee_int (od_mod (by decide))) od_add) ea_nil)) (⟨1 + n % 7, (1 + n / 8 % 4).toNat, by rw [Int.toNat_of_nonneg (by omega)], hw.2.2, rfl⟩)) (ea_cons (ee_var 4 rfl) ea_nil))) ?_ (by rw [List.length_map]; omega))
      refine ⟨.dat (.int (i : Nat)), .dat (.int n), .dat (eP (polyZ (n / 64) 3)), ?_, datO, datO, datO⟩
      rw [hsucc, if_pos hne, List.map_append]
      rfl
    · have hne : ¬ polyZ (n / 64) 3 ≠ [] := by simpa using hk
      refine ss_nil ⟨.dat (.int (i : Nat)), .dat (.int n), .dat (eP (polyZ (n / 64) 3)), ?_, datO, datO, datO⟩
      rw [hsucc, if_neg hne, List.append_nil]
      rfl
  · obtain ⟨a, b, c, rfl, na, nb, nc⟩ := hI
    refine ss_freeze 1 (ds := (papTo m (rangeD 0 (m % 4).toNat).length).map eW) (ss_one (s1_ret (ee_var 1 rfl) ?_))
    rw [show (rangeD 0 (m % 4).toNat).length = (m % 4).toNat by simp [rangeD]]
    rfl


theorem sc__law_word : FnScope ["e", "flags", "flag"] ["e"] (defScope (top 32)) := ⟨rfl, rfl, rfl, by decide +kernel, rfl, by decide +kernel, by decide +kernel⟩
theorem fn_word_BadPoly (h : Hd K mg base) : FnW PR w K mg base "_law_word" 42 (He.ga K "BadPoly") "BadPoly" := by
  obtain ⟨f, fd, F, hm⟩ := h.d__law_word
  refine fnw_mk F sc__law_word hm (F.bindsN fun _ _ _ _ _ _ us hl => match us, hl with | [_], _ => rfl) rfl (fun X p cdv A outer s H hX hr hot hp hz hf _ _ => ?_)
  subst hX
  have nd := sc__law_word.nd
  refine ss_cons (s1_set 1 (ee_lst (ea_cons (ee_isP 0 (cl_own h.e_BadPoly.g) h.c_BadPoly hp hz hf h.i_BadPoly_BadPoly h.b_isinstance) (ea_cons (ee_isP 0 (cl_own h.e_NoWay.g) h.c_BadPoly hp hz hf h.i_BadPoly_NoWay h.b_isinstance) (ea_cons (ee_isP 0 (cl_own h.e_BadStretch.g) h.c_BadPoly hp hz hf h.i_BadPoly_BadStretch h.b_isinstance) ea_nil)))) ?_ nd)
  refine ss_cons (s1_set 1 (ee_is (ef_ee (ef_cat (ee_var 1) (ee_lst (ea_cons (ee_isP 0 (cl_own h.e_BadForm.g) h.c_BadPoly hp hz hf h.i_BadPoly_BadForm h.b_isinstance) ea_nil)) (Nat.le_of_ble_eq_true rfl))) (show _ = PyData.list ([true, false, false, false].map .bool) from rfl)) ?_ nd)
  refine ss_cons (s1_if (et_is (ew_et (ew_or (et_cmp (ee_sumH (ns := [1, 0, 0, 0]) (ee_is (ef_ee (ef_mapH "flag" 2 (fun d => match d with | .bool c => .int (if c then 1 else 0) | _ => .none) hot hp nd (ee_var 1) (blkOk_by (own := [("flag", 2)]) (N := ["e", "flags", "flag"]) (sc := defScope (top 32)) (by decide +kernel)) (fun _ _ _ _ _ => pg_name (i := 2) nd rfl (Or.inl rfl)) (fun es z => nomatch z) (fun d hd s1 H1 C1 cl1 fp1 => ?_) (Nat.le_of_ble_eq_true rfl))) rfl) ⟨p, hot, hp⟩ h.b_sum) ee_int (od_neH hr) (nomark _)) (fun _ => ew_or1 (et_not (et_val (ee_isP 0 (cl_ty h.b_ValueError (show bootBuiltins "ValueError" = some (.type "ValueError") by decide +kernel)) h.c_BadPoly hp hz hf h.v_BadPoly h.b_isinstance)))))) (b' := false) rfl) (fun z => nomatch z) (fun _ => ss_nil ?_))
  · obtain ⟨c, _, rfl⟩ := List.mem_map.mp hd
    exact ee_intB (ee_var 2) h.b_int
  · exact ss_one (s1_ret (ee_ix (ee_lst (ea_cons ee_str (ea_cons ee_str (ea_cons ee_str (ea_cons ee_str ea_nil))))) (ee_indexT 0 (ee_var 1) ee_bl rfl (fun m hm => by match m, hm with | m, hm => exact absurd hm (Nat.not_lt_zero m))) rfl) rfl)
theorem fn_word_NoWay (h : Hd K mg base) : FnW PR w K mg base "_law_word" 42 (He.ga K "NoWay") "NoWay" := by
  obtain ⟨f, fd, F, hm⟩ := h.d__law_word
  refine fnw_mk F sc__law_word hm (F.bindsN fun _ _ _ _ _ _ us hl => match us, hl with | [_], _ => rfl) rfl (fun X p cdv A outer s H hX hr hot hp hz hf _ _ => ?_)
  subst hX
  have nd := sc__law_word.nd
  refine ss_cons (s1_set 1 (ee_lst (ea_cons (ee_isP 0 (cl_own h.e_BadPoly.g) h.c_NoWay hp hz hf h.i_NoWay_BadPoly h.b_isinstance) (ea_cons (ee_isP 0 (cl_own h.e_NoWay.g) h.c_NoWay hp hz hf h.i_NoWay_NoWay h.b_isinstance) (ea_cons (ee_isP 0 (cl_own h.e_BadStretch.g) h.c_NoWay hp hz hf h.i_NoWay_BadStretch h.b_isinstance) ea_nil)))) ?_ nd)
  refine ss_cons (s1_set 1 (ee_is (ef_ee (ef_cat (ee_var 1) (ee_lst (ea_cons (ee_isP 0 (cl_own h.e_BadForm.g) h.c_NoWay hp hz hf h.i_NoWay_BadForm h.b_isinstance) ea_nil)) (Nat.le_of_ble_eq_true rfl))) (show _ = PyData.list ([false, true, false, false].map .bool) from rfl)) ?_ nd)
  refine ss_cons (s1_if (et_is (ew_et (ew_or (et_cmp (ee_sumH (ns := [0, 1, 0, 0]) (ee_is (ef_ee (ef_mapH "flag" 2 (fun d => match d with | .bool c => .int (if c then 1 else 0) | _ => .none) hot hp nd (ee_var 1) (blkOk_by (own := [("flag", 2)]) (N := ["e", "flags", "flag"]) (sc := defScope (top 32)) (by decide +kernel)) (fun _ _ _ _ _ => pg_name (i := 2) nd rfl (Or.inl rfl)) (fun es z => nomatch z) (fun d hd s1 H1 C1 cl1 fp1 => ?_) (Nat.le_of_ble_eq_true rfl))) rfl) ⟨p, hot, hp⟩ h.b_sum) ee_int (od_neH hr) (nomark _)) (fun _ => ew_or1 (et_not (et_val (ee_isP 0 (cl_ty h.b_ValueError (show bootBuiltins "ValueError" = some (.type "ValueError") by decide +kernel)) h.c_NoWay hp hz hf h.v_NoWay h.b_isinstance)))))) (b' := false) rfl) (fun z => nomatch z) (fun _ => ss_nil ?_))
  · obtain ⟨c, _, rfl⟩ := List.mem_map.mp hd
    exact ee_intB (ee_var 2) h.b_int
  · exact ss_one (s1_ret (ee_ix (ee_lst (ea_cons ee_str (ea_cons ee_str (ea_cons ee_str (ea_cons ee_str ea_nil))))) (ee_indexT 1 (ee_var 1) ee_bl rfl (fun m hm => by match m, hm with | 0, _ => exact rfl)) rfl) rfl)
theorem fn_word_BadStretch (h : Hd K mg base) : FnW PR w K mg base "_law_word" 42 (He.ga K "BadStretch") "BadStretch" := by
  obtain ⟨f, fd, F, hm⟩ := h.d__law_word
  refine fnw_mk F sc__law_word hm (F.bindsN fun _ _ _ _ _ _ us hl => match us, hl with | [_], _ => rfl) rfl (fun X p cdv A outer s H hX hr hot hp hz hf _ _ => ?_)
  subst hX
  have nd := sc__law_word.nd
  refine ss_cons (s1_set 1 (ee_lst (ea_cons (ee_isP 0 (cl_own h.e_BadPoly.g) h.c_BadStretch hp hz hf h.i_BadStretch_BadPoly h.b_isinstance) (ea_cons (ee_isP 0 (cl_own h.e_NoWay.g) h.c_BadStretch hp hz hf h.i_BadStretch_NoWay h.b_isinstance) (ea_cons (ee_isP 0 (cl_own h.e_BadStretch.g) h.c_BadStretch hp hz hf h.i_BadStretch_BadStretch h.b_isinstance) ea_nil)))) ?_ nd)
  refine ss_cons (s1_set 1 (ee_is (ef_ee (ef_cat (ee_var 1) (ee_lst (ea_cons (ee_isP 0 (cl_own h.e_BadForm.g) h.c_BadStretch hp hz hf h.i_BadStretch_BadForm h.b_isinstance) ea_nil)) (Nat.le_of_ble_eq_true rfl))) (show _ = PyData.list ([false, false, true, false].map .bool) from rfl)) ?_ nd)
  refine ss_cons (s1_if (et_is (ew_et (ew_or (et_cmp (ee_sumH (ns := [0, 0, 1, 0]) (ee_is (ef_ee (ef_mapH "flag" 2 (fun d => match d with | .bool c => .int (if c then 1 else 0) | _ => .none) hot hp nd (ee_var 1) (blkOk_by (own := [("flag", 2)]) (N := ["e", "flags", "flag"]) (sc := defScope (top 32)) (by decide +kernel)) (fun _ _ _ _ _ => pg_name (i := 2) nd rfl (Or.inl rfl)) (fun es z => nomatch z) (fun d hd s1 H1 C1 cl1 fp1 => ?_) (Nat.le_of_ble_eq_true rfl))) rfl) ⟨p, hot, hp⟩ h.b_sum) ee_int (od_neH hr) (nomark _)) (fun _ => ew_or1 (et_not (et_val (ee_isP 0 (cl_ty h.b_ValueError (show bootBuiltins "ValueError" = some (.type "ValueError") by decide +kernel)) h.c_BadStretch hp hz hf h.v_BadStretch h.b_isinstance)))))) (b' := false) rfl) (fun z => nomatch z) (fun _ => ss_nil ?_))
  · obtain ⟨c, _, rfl⟩ := List.mem_map.mp hd
    exact ee_intB (ee_var 2) h.b_int
  · exact ss_one (s1_ret (ee_ix (ee_lst (ea_cons ee_str (ea_cons ee_str (ea_cons ee_str (ea_cons ee_str ea_nil))))) (ee_indexT 2 (ee_var 1) ee_bl rfl (fun m hm => by match m, hm with | 0, _ => exact rfl | 1, _ => exact rfl)) rfl) rfl)
theorem fn_word_BadForm (h : Hd K mg base) : FnW PR w K mg base "_law_word" 42 (He.ga K "BadForm") "BadForm" := by
  obtain ⟨f, fd, F, hm⟩ := h.d__law_word
  refine fnw_mk F sc__law_word hm (F.bindsN fun _ _ _ _ _ _ us hl => match us, hl with | [_], _ => rfl) rfl (fun X p cdv A outer s H hX hr hot hp hz hf _ _ => ?_)
  subst hX
  have nd := sc__law_word.nd
  refine ss_cons (s1_set 1 (ee_lst (ea_cons (ee_isP 0 (cl_own h.e_BadPoly.g) h.c_BadForm hp hz hf h.i_BadForm_BadPoly h.b_isinstance) (ea_cons (ee_isP 0 (cl_own h.e_NoWay.g) h.c_BadForm hp hz hf h.i_BadForm_NoWay h.b_isinstance) (ea_cons (ee_isP 0 (cl_own h.e_BadStretch.g) h.c_BadForm hp hz hf h.i_BadForm_BadStretch h.b_isinstance) ea_nil)))) ?_ nd)
  refine ss_cons (s1_set 1 (ee_is (ef_ee (ef_cat (ee_var 1) (ee_lst (ea_cons (ee_isP 0 (cl_own h.e_BadForm.g) h.c_BadForm hp hz hf h.i_BadForm_BadForm h.b_isinstance) ea_nil)) (Nat.le_of_ble_eq_true rfl))) (show _ = PyData.list ([false, false, false, true].map .bool) from rfl)) ?_ nd)
  refine ss_cons (s1_if (et_is (ew_et (ew_or (et_cmp (ee_sumH (ns := [0, 0, 0, 1]) (ee_is (ef_ee (ef_mapH "flag" 2 (fun d => match d with | .bool c => .int (if c then 1 else 0) | _ => .none) hot hp nd (ee_var 1) (blkOk_by (own := [("flag", 2)]) (N := ["e", "flags", "flag"]) (sc := defScope (top 32)) (by decide +kernel)) (fun _ _ _ _ _ => pg_name (i := 2) nd rfl (Or.inl rfl)) (fun es z => nomatch z) (fun d hd s1 H1 C1 cl1 fp1 => ?_) (Nat.le_of_ble_eq_true rfl))) rfl) ⟨p, hot, hp⟩ h.b_sum) ee_int (od_neH hr) (nomark _)) (fun _ => ew_or1 (et_not (et_val (ee_isP 0 (cl_ty h.b_ValueError (show bootBuiltins "ValueError" = some (.type "ValueError") by decide +kernel)) h.c_BadForm hp hz hf h.v_BadForm h.b_isinstance)))))) (b' := false) rfl) (fun z => nomatch z) (fun _ => ss_nil ?_))
  · obtain ⟨c, _, rfl⟩ := List.mem_map.mp hd
    exact ee_intB (ee_var 2) h.b_int
  · exact ss_one (s1_ret (ee_ix (ee_lst (ea_cons ee_str (ea_cons ee_str (ea_cons ee_str (ea_cons ee_str ea_nil))))) (ee_indexT 3 (ee_var 1) ee_bl rfl (fun m hm => by match m, hm with | 0, _ => exact rfl | 1, _ => exact rfl | 2, _ => exact rfl)) rfl) rfl)
theorem sc_law : FnScope ["script", "k", "more", "paper", "other", "poly", "drawn", "asked", "row", "found", "both", "bad", "long"] ["script"] (defScope (top 47)) := ⟨rfl, rfl, rfl, by decide +kernel, rfl, by decide +kernel, by decide +kernel⟩
abbrev lawX (w : World) (K : PySem.W.Frag) (mg : Str → Option Value) (base : Heap) (f : Addr) (cdv : Value) (A : Around) (outer : List Env) (s : Shared) (H : Hp) (E : XK) : Cx := cxOf (L2N.CX PR w) PR w K mg base ["script", "k", "more", "paper", "other", "poly", "drawn", "asked", "row", "found", "both", "bad", "long"] "law" (defScope (top 47)) f cdv A outer s H E
def lT (K : PySem.W.Frag) : List (Addr × Str) := [((He.cT K ("law", none)).2, (envOfC "law" (defScope (top 47)) 0 0 .none).qual ++ "<lambda>")]
structure TBs (K : PySem.W.Frag) (mg : Str → Option Value) (base : Heap) : Prop where
  t_law : LamX.TabB base mg (He.cT K ("law", none)).1 (He.cT K ("law", none)).2
theorem sc__law_told : FnScope ["deed", "e"] ["deed"] (defScope (top 33)) := ⟨rfl, rfl, rfl, by decide +kernel, rfl, by decide +kernel, by decide +kernel⟩
theorem tld_law (h : Hd K mg base) (tb : TBs K mg base) {f : Addr} {cdv : Value} {A : Around} {outer : List Env} {s : Shared} {H : Hp} {E : XK} {k : Nat} (hcode : (cxOf (L2N.CX PR w) PR w K mg base ["script", "k", "more", "paper", "other", "poly", "drawn", "asked", "row", "found", "both", "bad", "long"] "law" (defScope (top 47)) f cdv A outer s H E).env.code = .ref (He.codeOf K ("law", none))) (hr : Room (k + 2) (cxOf (L2N.CX PR w) PR w K mg base ["script", "k", "more", "paper", "other", "poly", "drawn", "asked", "row", "found", "both", "bad", "long"] "law" (defScope (top 47)) f cdv A outer s H E).A) (hkw : 42 ≤ k + 1) :
    Tld (cxOf (L2N.CX PR w) PR w K mg base ["script", "k", "more", "paper", "other", "poly", "drawn", "asked", "row", "found", "both", "bad", "long"] "law" (defScope (top 47)) f cdv A outer s H E) (lT K) k 42 (He.ga K "NoughtError") := by
  obtain ⟨g, fd, F, hm⟩ := h.d__law_told
  intro params body scope p lpos pos L hdef hbind
  exact pe_told (X := (cxOf (L2N.CX PR w) PR w K mg base ["script", "k", "more", "paper", "other", "poly", "drawn", "asked", "row", "found", "both", "bad", "long"] "law" (defScope (top 47)) f cdv A outer s H E)) (kw := 42) (st := top 33) F rfl rfl hm (F.bindsN fun _ _ _ _ _ _ us hl => match us, hl with | [_], _ => rfl) sc__law_told (Or.inl rfl) rfl rfl h.e_NoughtError.g rfl tb.t_law hcode (List.Mem.head _) (fun p hp _ => by rw [List.mem_singleton.mp hp]; rfl) hr hkw L hdef hbind (by decide) (by decide) (by decide) (by decide) (by decide) (by decide) (by decide)
theorem lenL {l : List Sl} (h : l.length = 12) : ∃ a1 a2 a3 a4 a5 a6 a7 a8 a9 a10 a11 a12, l = [a1, a2, a3, a4, a5, a6, a7, a8, a9, a10, a11, a12] := by
  match l, h with
  | [a1, a2, a3, a4, a5, a6, a7, a8, a9, a10, a11, a12], _ => exact ⟨a1, a2, a3, a4, a5, a6, a7, a8, a9, a10, a11, a12, rfl⟩
theorem noL {a1 a2 a3 a4 a5 a6 a7 a8 a9 a10 a11 a12 : Sl} (h1 : ∀ z, a1 ≠ .own z) (h2 : ∀ z, a2 ≠ .own z) (h3 : ∀ z, a3 ≠ .own z) (h4 : ∀ z, a4 ≠ .own z) (h5 : ∀ z, a5 ≠ .own z) (h6 : ∀ z, a6 ≠ .own z) (h7 : ∀ z, a7 ≠ .own z) (h8 : ∀ z, a8 ≠ .own z) (h9 : ∀ z, a9 ≠ .own z) (h10 : ∀ z, a10 ≠ .own z) (h11 : ∀ z, a11 ≠ .own z) (h12 : ∀ z, a12 ≠ .own z) : ∀ x ∈ [a1, a2, a3, a4, a5, a6, a7, a8, a9, a10, a11, a12], ∀ z, x ≠ .own z := fun x hx => by
  simp only [List.mem_cons, List.not_mem_nil, or_false] at hx
  rcases hx with rfl | rfl | rfl | rfl | rfl | rfl | rfl | rfl | rfl | rfl | rfl | rfl <;> assumption
/-- the law's slots: the script, and nothing of one's own -/
def IvL (d : D) (γ : List Sl) : Prop := ∃ l : List Sl, γ = .dat d :: l ∧ l.length = 12 ∧ ∀ x ∈ l, ∀ z, x ≠ .own z
instance (a b : Bool) : EqvD (.bool a) (.bool b) (a == b) := ⟨sh_bool.ok0, sh_bool.ok0, by cases a <;> cases b <;> rfl⟩
theorem PapG.s {L : Pap} (h : PapG L) : PapS L := ⟨by have := h.len; omega, fun q hq => ⟨(h.at_ q hq).2.1, (h.at_ q hq).2.2.1.mono (by decide), by have := (h.at_ q hq).2.2.2; omega⟩⟩
/-- fit to be looked at -/
structure PapF (L : Pap) : Prop where
  ok : PapOk L
  z : PapZ L
  len : L.length ≤ 20
theorem PapG.f {L : Pap} (h : PapG L) : PapF L := ⟨fun q hq => (h.at_ q hq).1, ⟨by have := h.len; omega, fun q hq => ⟨(h.at_ q hq).2.1.mono (by decide), (h.at_ q hq).2.2.1.mono (by decide), by have := (h.at_ q hq).2.2.2; omega⟩⟩, by have := h.len; omega⟩
theorem PapF.sub {A B : Pap} (h : PapF A) (hs : ∀ q ∈ B, q ∈ A) (hl : B.length ≤ 20) : PapF B := ⟨fun q hq => h.ok q (hs q hq), ⟨by omega, fun q hq => h.z.at_ q (hs q hq)⟩, hl⟩
theorem PapF.app {A B : Pap} (hA : PapF A) (hB : PapF B) (hl : (A ++ B).length ≤ 20) : PapF (A ++ B) := ⟨fun q hq => by
    rcases List.mem_append.mp hq with z | z
    · exact hA.ok q z
    · exact hB.ok q z, ⟨by omega, fun q hq => by
    rcases List.mem_append.mp hq with z | z
    · exact hA.z.at_ q z
    · exact hB.z.at_ q z⟩, hl⟩
theorem numP {a : Rat} : 0 < a.num ↔ 0 < a := by
  have h1 := @Rat.num_nonneg a
  have h2 : a.num = 0 ↔ a = 0 := Rat.num_eq_zero
  constructor
  · intro h
    refine Rat.lt_of_le_of_ne (h1.mp (by omega)) fun z => ?_
    have := h2.mpr z.symm
    omega
  · intro h
    have a1 := h1.mpr (Rat.le_of_lt h)
    have a2 : a.num ≠ 0 := fun z => by
      rw [h2.mp z] at h
      exact Rat.lt_irrefl h
    omega
theorem PapG.mulF {A B : Pap} (hA : PapG A) (hB : PapG B) : PapF (papMul A B) := by
  have hat : ∀ q ∈ papMul A B, (0 < q.1.num ∧ q.2 ≠ [] ∧ Own q.2) ∧ Rz 1000 q.1 ∧ PZ 1000 q.2 ∧ q.2.length ≤ 13 := fun q hq => by
    obtain ⟨a, ha, hq⟩ := List.mem_flatMap.mp hq
    obtain ⟨b, hb, rfl⟩ := List.mem_map.mp hq
    obtain ⟨⟨a1, a2, a3⟩, a4, a5, a6⟩ := hA.at_ a ha
    obtain ⟨⟨b1, b2, b3⟩, b4, b5, b6⟩ := hB.at_ b hb
    refine ⟨⟨?_, ?_, own_pmul _ _⟩, (a4.mul b4).mono (by decide), (pz_pmul a5 b5 (by decide)).mono ?_, Nat.le_trans (pmul_len _ _) (by omega)⟩
    · exact numP.mpr (Rat.mul_pos (numP.mp a1) (numP.mp b1))
    · have h1 : (⟨a.2, a3⟩ : QX) ≠ 0 := ne_zero.mpr a2
      have h2 : (⟨b.2, b3⟩ : QX) ≠ 0 := ne_zero.mpr b2
      exact ne_zero.mp (mul_ne h1 h2)
    · have : a.2.length * (4 + 4 + 1) ≤ 3 * 9 := Nat.mul_le_mul_right _ a6
      omega
  have hl : (papMul A B).length ≤ 9 := by
    have : ∀ A : Pap, (papMul A B).length = A.length * B.length := fun A => by
      induction A with
      | nil => rw [List.length_nil, Nat.zero_mul]; rfl
      | cons q A ih =>
        show ((B.map fun r => (q.1 * r.1, pmul q.2 r.2)) ++ papMul A B).length = _
        rw [List.length_append, List.length_map, ih, List.length_cons, Nat.succ_mul, Nat.add_comm]
    rw [this]
    exact Nat.le_trans (Nat.mul_le_mul hA.len hB.len) (by decide)
  exact ⟨fun q hq => (hat q hq).1, ⟨by omega, fun q hq => (hat q hq).2⟩, by omega⟩
def rowsL (A B : Pap) : List Pap := [A, B, A ++ A.take 1, A.drop 1, A.reverse]
theorem rowsL_f {A B L : Pap} (hA : PapG A) (hB : PapG B) (h : L ∈ rowsL A B) : PapF L := by
  have hl := hA.len
  simp only [rowsL, List.mem_cons, List.not_mem_nil, or_false] at h
  rcases h with rfl | rfl | rfl | rfl | rfl
  · exact hA.f
  · exact hB.f
  · exact hA.f.app (hA.f.sub (fun q hq => List.mem_of_mem_take hq) (by rw [List.length_take]; omega)) (by rw [List.length_append, List.length_take]; omega)
  · exact hA.f.sub (fun q hq => List.mem_of_mem_drop hq) (by rw [List.length_drop]; omega)
  · exact hA.f.sub (fun q hq => List.mem_reverse.mp hq) (by rw [List.length_reverse]; omega)
theorem cut_one (ds : List D) : cutD ds none (some 1) = ds.take 1 := by
  unfold cutD
  rw [show HT.sIx ds.length ds.length (some 1) = min 1 ds.length from HT.sIx_nat ds.length ds.length 1, HT.sIx_none]
  cases ds with
  | nil => rfl
  | cons x r =>
    rw [show min 1 (x :: r).length = 1 by rw [List.length_cons]; omega]
    rfl
theorem cut_rest (ds : List D) : cutD ds (some 1) none = ds.drop 1 := by
  unfold cutD
  rw [show HT.sIx ds.length 0 (some 1) = min 1 ds.length from HT.sIx_nat ds.length 0 1, HT.sIx_none]
  cases ds with
  | nil => rfl
  | cons x r =>
    rw [show min 1 (x :: r).length = 1 by rw [List.length_cons]; omega]
    show (List.take ((x :: r).length - 1) r) = r
    rw [List.length_cons, Nat.add_sub_cancel]
    exact List.take_length
def asksL (p d : Poly) : List Poly := [p, padd p [mkRat 1 9], padd p d, d]
theorem asksL_f {p d a : Poly} (hp : Own p) (hpl : p.length ≤ 5) (hd : Own d) (hdl : d.length ≤ 5) (h : a ∈ asksL p d) : Own a ∧ a.length ≤ 13 := by
  simp only [asksL, List.mem_cons, List.not_mem_nil, or_false] at h
  rcases h with rfl | rfl | rfl | rfl
  · exact ⟨hp, by omega⟩
  · exact ⟨own_padd _ _, Nat.le_trans (padd_len _ _) (by show max _ 1 ≤ 13; omega)⟩
  · exact ⟨own_padd _ _, Nat.le_trans (padd_len _ _) (by omega)⟩
  · exact ⟨hd, by omega⟩
def badsW : List (D × D) := [(eF 0, eP [1]), (eF (mkRat (-1) 2), eP [1]), (eF 1, .list []), (.tuple [.int 2, .int 2], eP [1]), (.int 1, eP [1]), (eF 1, eP [0]), (eF 1, eP (ones 14)), (eF 1, .list [.int 1]), (.none, eP [1]), (eF 1, .none)]
theorem badsW_no {q : D × D} (h : q ∈ badsW) : okW q = false := by
  have : badsW.all (fun q => !okW q) = true := by decide +kernel
  have := List.all_eq_true.mp this q h
  simpa using this
theorem law_ss (h : Hd K mg base) (tb : TBs K mg base) {f : Addr} {cdv : Value} {A : Around} {outer : List Env} {s : Shared} {H : Hp} {E : XK} (gx : Gx (lawX w K mg base f cdv A outer s H E) 60) (hp : PassesOwn (model (lawX w K mg base f cdv A outer s H E).prog (lawX w K mg base f cdv A outer s H E).w) (lawX w K mg base f cdv A outer s H E).A (lawX w K mg base f cdv A outer s H E).env (lawX w K mg base f cdv A outer s H E).xe) (hcode : (lawX w K mg base f cdv A outer s H E).env.code = .ref (He.codeOf K ("law", none)))
    (ns : List Int) (hn : ns.length ≤ 63) (hb : ∀ z ∈ ns, Builtin.Int.intBits z ≤ 1048576) :
    SS (SameN (lT K)) (lawX w K mg base f cdv A outer s H E) (.dat (.list (ns.map .int)) :: List.replicate 12 .no) (defBody (top 47)) { rt := fun e => e = .bool true } := by
  have nd := sc_law.nd
  have rm : Room 60 (lawX w K mg base f cdv A outer s H E).A := gx.room
  have told := tld_law (k := 58) h tb hcode gx.room (by decide)
  refine ss_cons (s1_for (fun _ γ => IvL (.list (ns.map .int)) γ) (ei_range1 (ee_max ee_int (ee_min ee_int (ee_len (ee_var 0 rfl) (n := ns.length) (by simp [lenD]) h.b_len) rfl h.b_min) rfl h.b_max) (by omega) h.b_range) ⟨_, rfl, rfl, fun x hx z => by rw [(List.mem_replicate.mp hx).2]; exact noO z⟩ (fun i d γ hd hI => ?_) (fun γ hI => ?_) hp rfl)
  rotate_left
  · obtain ⟨l, rfl, hl, no⟩ := hI
    obtain ⟨a1, a2, a3, a4, a5, a6, a7, a8, a9, a10, a11, a12, rfl⟩ := lenL hl
    exact ss_one (s1_ret ee_bl rfl)
  obtain ⟨l, rfl, hl, no⟩ := hI
  obtain ⟨a1, a2, a3, a4, a5, a6, a7, a8, a9, a10, a11, a12, rfl⟩ := lenL hl
  obtain ⟨hi, rfl⟩ := rangeD_get hd
  have hiC : i < 4 := by omega
  have no1 : ∀ z, a1 ≠ .own z := no a1 (by simp)
  have no2 : ∀ z, a2 ≠ .own z := no a2 (by simp)
  have no3 : ∀ z, a3 ≠ .own z := no a3 (by simp)
  have no4 : ∀ z, a4 ≠ .own z := no a4 (by simp)
  have no5 : ∀ z, a5 ≠ .own z := no a5 (by simp)
  have no6 : ∀ z, a6 ≠ .own z := no a6 (by simp)
  have no7 : ∀ z, a7 ≠ .own z := no a7 (by simp)
  have no8 : ∀ z, a8 ≠ .own z := no a8 (by simp)
  have no9 : ∀ z, a9 ≠ .own z := no a9 (by simp)
  have no10 : ∀ z, a10 ≠ .own z := no a10 (by simp)
  have no11 : ∀ z, a11 ≠ .own z := no a11 (by simp)
  have no12 : ∀ z, a12 ≠ .own z := no a12 (by simp)
  refine ⟨_, eg_name (i := 1) nd, ?_⟩
  have i1000 : i < 2 ^ 1000 := Nat.lt_of_lt_of_le (show i < 2 ^ 3 by omega) (Nat.pow_le_pow_right (by decide) (by decide))
  refine ss_cons (s1_set 2 (ee_call (fn__law_drawn h) (rm.mono (by decide)) (ea_cons (ee_call (fn__law_cell h) (rm.mono (by decide)) (ea_cons (ee_var 0 rfl) (ea_cons (ee_var 1 rfl) ea_nil)) ⟨ns, i, rfl, by omega, by omega, rfl⟩) (ea_cons (ee_var 1 rfl) ea_nil)) ⟨cellZ ns i, i, rfl, cellZ_lt hb (by omega), i1000, rfl⟩) ?_ nd)
  have hM := drawn_in (cellZ ns i) i
  generalize drawnZ (cellZ ns i) i = M at hM
  have small : ∀ j : Int, 0 ≤ j → j ≤ M → j.natAbs < 2 ^ 1000 := fun j h0 h1 => Nat.lt_of_lt_of_le (show j.natAbs < 2 ^ 129 by unfold cM at hM; omega) (Nat.pow_le_pow_right (by decide) (by decide))
  have dv : ∀ k : Int, 0 < k → (M / k).natAbs < 2 ^ 1000 := fun k hk => small _ (Int.ediv_nonneg hM.1 (by omega)) (Int.ediv_le_self k hM.1)
  have g4 : ∀ m : Int, PapG (papTo m (m % 4).toNat) := fun m => by
    have h1 := Int.emod_nonneg m (show (4 : Int) ≠ 0 by decide)
    have h2 := Int.emod_lt_of_pos m (show (0 : Int) < 4 by decide)
    have := papTo_ok m (m % 4).toNat
    exact ⟨by omega, this.2⟩
  refine ss_cons (s1_set 3 (ee_call (fn__law_paper h) (rm.mono (by decide)) (ea_cons (ee_op (ee_var 2 rfl) ee_int (od_fdiv gx (by decide))) ea_nil) (⟨_, rfl, dv 4 (by decide), rfl⟩)) ?_ nd)
  refine ss_cons (s1_set 4 (ee_call (fn__law_paper h) (rm.mono (by decide)) (ea_cons (ee_op (ee_var 2 rfl) ee_int (od_fdiv gx (by decide))) ea_nil) (⟨_, rfl, dv 16 (by decide), rfl⟩)) ?_ nd)
  have hA := g4 (M / 4)
  have hB := g4 (M / 16)
  generalize papTo (M / 4) (M / 4 % 4).toNat = Ap at hA
  generalize papTo (M / 16) (M / 16 % 4).toNat = Bp at hB
  refine ss_cons (s1_set 5 (ee_call (fn__law_paper_sum h) (rm.mono (by decide)) (ea_cons (ee_var 3 rfl) ea_nil) (⟨Ap, rfl, hA.f.z, rfl⟩)) ?_ nd)
  refine ss_cons (s1_set 6 (ee_call (fn__law_poly h) (rm.mono (by decide)) (ea_cons (ee_op (ee_var 2 rfl) ee_int (od_fdiv gx (by decide))) (ea_cons ee_int ea_nil)) (⟨_, _, rfl, dv 64 (by decide), by decide, by decide, rfl⟩)) ?_ nd)
  have ld : (polyZ (M / 64) 5).length ≤ 5 := polyZ_len (M / 64) (by decide)
  have od := own_polyZ (M / 64) 5
  have zd := pz_polyZ (M / 64) 5
  generalize polyZ (M / 64) 5 = dr at ld od zd
  have lA : (psum Ap).length ≤ 5 := psum_len (n := 3) fun q hq => (hA.at_ q hq).2.2.2
  have lB : (psum Bp).length ≤ 5 := psum_len (n := 3) fun q hq => (hB.at_ q hq).2.2.2
  have oA := own_psum Ap
  have oB := own_psum Bp
  have psz : ∀ L : Pap, PapF L → PZ 1120041 (psum L) ∧ (psum L).length ≤ 25 := fun L hL => by
    have h1 := pz_psum hL.z L.length (Nat.le_refl _)
    rw [List.take_length] at h1
    exact ⟨h1.1.mono (by have := hL.len; omega), h1.2⟩
  haveI : PB (psum Ap) 1120041 5 := ⟨(psz Ap hA.f).1, by decide, lA⟩
  haveI : PB (psum Bp) 1120041 5 := ⟨(psz Bp hB.f).1, by decide, lB⟩
  haveI : PB dr 4 5 := ⟨zd, by decide, ld⟩
  haveI : RB (mkRat 1 9) 4 := ⟨by constructor <;> decide +kernel⟩
  have hAl := hA.len
  have hBl := hB.len
  -- what is shown
  refine ss_midT (fun γ => ∃ b c e, γ = [.dat (.list (ns.map .int)), .dat (.int (i : Nat)), .dat (.int M), .dat (ePap Ap), .dat (ePap Bp), .dat (eP (psum Ap)), .dat (eP dr), b, c, e, a10, a11, a12] ∧ (∀ z, b ≠ .own z) ∧ (∀ z, c ≠ .own z) ∧ ∀ z, e ≠ .own z)
    (s1_for (fun _ γ => ∃ b c e, γ = [.dat (.list (ns.map .int)), .dat (.int (i : Nat)), .dat (.int M), .dat (ePap Ap), .dat (ePap Bp), .dat (eP (psum Ap)), .dat (eP dr), b, c, e, a10, a11, a12] ∧ (∀ z, b ≠ .own z) ∧ (∀ z, c ≠ .own z) ∧ ∀ z, e ≠ .own z)
      (ei_is (ei_list (ef_ee (ef_lst (ea_cons (ee_var 5 rfl) (ea_cons (ee_call (fn__law_sum h) (rm.mono (by decide)) (ea_cons (ee_var 5 rfl) (ea_cons (ee_is (ef_ee (ef_lst (ea_cons (ee_is (ee_tup (ea_cons ee_int (ea_cons ee_int ea_nil))) (show _ = eF (mkRat 1 9) from rfl)) ea_nil))) (show _ = eP [mkRat 1 9] from rfl)) ea_nil)) (add_c (by decide))) (ea_cons (ee_call (fn__law_sum h) (rm.mono (by decide)) (ea_cons (ee_var 5 rfl) (ea_cons (ee_var 6 rfl) ea_nil)) (add_c (by decide))) (ea_cons (ee_var 6 rfl) ea_nil))))))) (show _ = (asksL (psum Ap) dr).map eP from rfl)) ⟨a7, a8, a9, rfl, no7, no8, no9⟩ (fun k d γ hd hI => ?_) (fun γ hI => hI) hp rfl) (fun γ hI => ?_)
  · obtain ⟨b, c, e, rfl, nb, nc, ne⟩ := hI
    obtain ⟨ask, hask, rfl⟩ := List.mem_map.mp (List.mem_of_getElem? hd)
    obtain ⟨oa, la⟩ := asksL_f oA lA od ld hask
    refine ⟨_, eg_name (i := 7) nd, ?_⟩
    refine ss_one (s1_for (fun _ γ => ∃ c e, γ = [.dat (.list (ns.map .int)), .dat (.int (i : Nat)), .dat (.int M), .dat (ePap Ap), .dat (ePap Bp), .dat (eP (psum Ap)), .dat (eP dr), .dat (eP ask), c, e, a10, a11, a12] ∧ (∀ z, c ≠ .own z) ∧ ∀ z, e ≠ .own z)
      (ei_is (ei_list (ee_lst (ea_cons (ee_var 3 rfl) (ea_cons (ee_var 4 rfl) (ea_cons (ef_ee (ef_cat (ee_var 3 rfl) (ee_is (ef_ee (ef_slice (ee_var 3 rfl) eo_none (eo_some ee_int))) (show _ = ePap (Ap.take 1) from (by rw [cut_one, ← List.map_take]; rfl))) (by rw [List.length_map, List.length_map, List.length_take]; omega))) (ea_cons (ee_is (ef_ee (ef_slice (ee_var 3 rfl) (eo_some ee_int) eo_none)) (show _ = ePap (Ap.drop 1) from (by rw [cut_rest, ← List.map_drop]; rfl))) (ea_cons (ee_is (ef_ee (ef_rev (ee_var 3 rfl))) (show _ = ePap Ap.reverse from (by rw [← List.map_reverse]; rfl))) ea_nil))))))) (show _ = (rowsL Ap Bp).map ePap by
        show [ePap Ap, ePap Bp, PyData.list (Ap.map eW ++ (Ap.take 1).map eW), ePap (Ap.drop 1), ePap Ap.reverse] = _
        rw [pap_app]
        rfl)) ⟨c, e, rfl, nc, ne⟩ (fun k d γ hd hI => ?_) (fun γ hI => ?_) hp rfl)
    · obtain ⟨c, e, rfl, nc, ne⟩ := hI
      obtain ⟨row, hrow, rfl⟩ := List.mem_map.mp (List.mem_of_getElem? hd)
      have hF := rowsL_f hA hB hrow
      refine ⟨_, eg_name (i := 8) nd, ?_⟩
      refine ss_cons (s1_set 9 (ee_told told (fun A' outer' s' H' f' c' E' hr => (ee_call (fn_shows h) (hr.mono (by decide)) (ea_cons (ee_var 7 rfl) (ea_cons (ef_ee (ef_list (ee_var 8 rfl) rfl h.b_list)) ea_nil)) (⟨ask, la, oa, .inl ⟨row, rfl, hF.z, hF.ok, rfl⟩⟩)))) ?_ nd)
      refine ss_one (s1_if (et_is (ew_et (ew_or (et_not (et_val (ee_isi "bool" (ee_var 9 rfl) (.inr (.inr (.inr (.inl rfl)))) h.b_isinstance h.b_bool PyProof.Rows.boot_bool))) (fun hk1 => (ew_or1 (et_cmp (ee_var 9 rfl) (ee_cmp (ee_call (fn__law_paper_sum h) (rm.mono (by decide)) (ea_cons (ee_var 8 rfl) ea_nil) (⟨row, rfl, hF.z, rfl⟩)) (ee_var 7 rfl) (od_eqC gx) (nomark _)) (od_neC gx) (nomark _)))))) (b' := false) ?_) (fun z => nomatch z) (fun _ => ss_nil ?_))
      · show (false || !(decide (psum row = ask) == decide (psum row = ask))) = false
        rw [beq_self_eq_true]
        rfl
      · exact ⟨_, _, rfl, datO, datO⟩
    · obtain ⟨c, e, rfl, nc, ne⟩ := hI
      exact ⟨_, c, e, rfl, datO, nc, ne⟩
  obtain ⟨b, c, e, rfl, nb, nc, ne⟩ := hI
  -- sums
  have fAB : PapF (Ap ++ Bp) := hA.f.app hB.f (by rw [List.length_append]; omega)
  have fAA : PapF (Ap ++ Ap) := hA.f.app hA.f (by rw [List.length_append]; omega)
  have fM : PapF (papMul Ap Bp) := hA.mulF hB
  refine ss_cons (s1_set 10 (ee_told told (fun A' outer' s' H' f' c' E' hr => (ee_call (fn_paper_sum h) (hr.mono (by decide)) (ea_cons (ee_var 3 rfl) (ea_cons (ee_var 4 rfl) ea_nil)) (⟨Ap, Bp, rfl, by omega, by omega, rfl⟩)))) ?_ nd)
  refine ss_keep (s1_if (et_is (ew_et (ew_or (et_not (et_val (ee_call (fn__law_is_paper h) (rm.mono (by decide)) (ea_cons (ee_var 10 rfl) ea_nil) (⟨_, rfl, fAB.ok, by have := fAB.len; omega, rfl⟩)))) (fun hk1 => (ew_or1 (et_cmp (ee_call (fn__law_paper_sum h) (rm.mono (by decide)) (ea_cons (ee_var 10 rfl) ea_nil) (⟨_, rfl, fAB.z, rfl⟩)) (ee_call (fn__law_sum h) (rm.mono (by decide)) (ea_cons (ee_var 5 rfl) (ea_cons (ee_call (fn__law_paper_sum h) (rm.mono (by decide)) (ea_cons (ee_var 4 rfl) ea_nil) (⟨_, rfl, hB.f.z, rfl⟩)) ea_nil)) (add_c (by decide))) (od_neC gx) (nomark _)))))) (b' := false) ?_) (fun z => nomatch z) (fun _ => ss_nil rfl)) ?_
  · rw [psum_app, decide_eq_true rfl]
    rfl
  refine ss_cons (s1_set 10 (ee_told told (fun A' outer' s' H' f' c' E' hr => (ee_call (fn_paper_sum h) (hr.mono (by decide)) (ea_cons (ee_var 3 rfl) (ea_cons (ee_var 3 rfl) ea_nil)) (⟨Ap, Ap, rfl, by omega, by omega, rfl⟩)))) ?_ nd)
  refine ss_keep (s1_if (et_is (ew_et (ew_or (et_not (et_val (ee_call (fn__law_is_paper h) (rm.mono (by decide)) (ea_cons (ee_var 10 rfl) ea_nil) (⟨_, rfl, fAA.ok, by have := fAA.len; omega, rfl⟩)))) (fun hk1 => (ew_or1 (et_cmp (ee_call (fn__law_paper_sum h) (rm.mono (by decide)) (ea_cons (ee_var 10 rfl) ea_nil) (⟨_, rfl, fAA.z, rfl⟩)) (ee_call (fn__law_sum h) (rm.mono (by decide)) (ea_cons (ee_var 5 rfl) (ea_cons (ee_var 5 rfl) ea_nil)) (add_c (by decide))) (od_neC gx) (nomark _)))))) (b' := false) ?_) (fun z => nomatch z) (fun _ => ss_nil rfl)) ?_
  · rw [psum_app, decide_eq_true rfl]
    rfl
  refine ss_cons (s1_set 10 (ee_told told (fun A' outer' s' H' f' c' E' hr => (ee_call (fn_paper_product h) (hr.mono (by decide)) (ea_cons (ee_var 3 rfl) (ea_cons (ee_var 4 rfl) ea_nil)) (⟨Ap, Bp, rfl, hA.s, hB.s, rfl⟩)))) ?_ nd)
  refine ss_keep (s1_if (et_is (ew_et (ew_or (et_not (et_val (ee_call (fn__law_is_paper h) (rm.mono (by decide)) (ea_cons (ee_var 10 rfl) ea_nil) (⟨_, rfl, fM.ok, by have := fM.len; omega, rfl⟩)))) (fun hk1 => (ew_or1 (et_cmp (ee_call (fn__law_paper_sum h) (rm.mono (by decide)) (ea_cons (ee_var 10 rfl) ea_nil) (⟨_, rfl, fM.z, rfl⟩)) (ee_call (fn__law_product h) (rm.mono (by decide)) (ea_cons (ee_var 5 rfl) (ea_cons (ee_call (fn__law_paper_sum h) (rm.mono (by decide)) (ea_cons (ee_var 4 rfl) ea_nil) (⟨_, rfl, hB.f.z, rfl⟩)) ea_nil)) (mul_c (by decide))) (od_neC gx) (nomark _)))))) (b' := false) ?_) (fun z => nomatch z) (fun _ => ss_nil rfl)) ?_
  · rw [psum_mul, decide_eq_true rfl]
    rfl
  -- what is none
  obtain ⟨bq, hbq, hat⟩ : ∃ q : D × D, okW q = false ∧ ixD (ePairs badsW) (M / 2 ^ (20 : Int).toNat % 10) = some (.tuple [q.1, q.2]) := by
    have g1 : 0 ≤ M / 2 ^ (20 : Int).toNat % 10 := Int.emod_nonneg _ (by decide)
    have g2 : M / 2 ^ (20 : Int).toNat % 10 < 10 := Int.emod_lt_of_pos _ (by decide)
    obtain ⟨j, hj⟩ := Int.eq_ofNat_of_zero_le g1
    rw [hj] at g2 ⊢
    have hj10 : j < badsW.length := by
      show j < 10
      omega
    refine ⟨badsW[j], badsW_no (List.getElem_mem hj10), atI_nat ?_⟩
    rw [List.getElem?_map, List.getElem?_eq_getElem hj10]
    rfl
  refine ss_cons (s1_set 11 (ef_ee (ef_lst (ea_cons (ee_tup (ea_cons (ee_is (ee_tup (ea_cons ee_int (ea_cons ee_int ea_nil))) (show _ = eF (0 : Rat) from rfl)) (ea_cons (ef_ee (ef_lst (ea_cons (ee_is (ee_tup (ea_cons ee_int (ea_cons ee_int ea_nil))) (show _ = eF (1 : Rat) from rfl)) ea_nil))) ea_nil))) (ea_cons (ee_tup (ea_cons (ee_is (ee_tup (ea_cons (ee_neg ee_int) (ea_cons ee_int ea_nil))) (show _ = eF (mkRat (-1) 2) from rfl)) (ea_cons (ef_ee (ef_lst (ea_cons (ee_is (ee_tup (ea_cons ee_int (ea_cons ee_int ea_nil))) (show _ = eF (1 : Rat) from rfl)) ea_nil))) ea_nil))) (ea_cons (ee_tup (ea_cons (ee_is (ee_tup (ea_cons ee_int (ea_cons ee_int ea_nil))) (show _ = eF (1 : Rat) from rfl)) (ea_cons (ef_ee (ef_lst ea_nil)) ea_nil))) (ea_cons (ee_tup (ea_cons (ee_tup (ea_cons ee_int (ea_cons ee_int ea_nil))) (ea_cons (ef_ee (ef_lst (ea_cons (ee_is (ee_tup (ea_cons ee_int (ea_cons ee_int ea_nil))) (show _ = eF (1 : Rat) from rfl)) ea_nil))) ea_nil))) ea_nil)))))) ?_ nd)
  refine ss_cons (s1_set 11 (ef_ee (ef_cat (ee_var 11 rfl) (ef_ee (ef_lst (ea_cons (ee_tup (ea_cons ee_int (ea_cons (ef_ee (ef_lst (ea_cons (ee_is (ee_tup (ea_cons ee_int (ea_cons ee_int ea_nil))) (show _ = eF (1 : Rat) from rfl)) ea_nil))) ea_nil))) (ea_cons (ee_tup (ea_cons (ee_is (ee_tup (ea_cons ee_int (ea_cons ee_int ea_nil))) (show _ = eF (1 : Rat) from rfl)) (ea_cons (ef_ee (ef_lst (ea_cons (ee_is (ee_tup (ea_cons ee_int (ea_cons ee_int ea_nil))) (show _ = eF (0 : Rat) from rfl)) ea_nil))) ea_nil))) ea_nil)))) (by decide))) ?_ nd)
  refine ss_cons (s1_set 11 (ee_is (ef_ee (ef_cat (ee_var 11 rfl) (ef_ee (ef_lst (ea_cons (ee_tup (ea_cons (ee_is (ee_tup (ea_cons ee_int (ea_cons ee_int ea_nil))) (show _ = eF (1 : Rat) from rfl)) (ea_cons (ef_ee (ef_rep (ef_lst (ea_cons (ee_is (ee_tup (ea_cons ee_int (ea_cons ee_int ea_nil))) (show _ = eF (1 : Rat) from rfl)) ea_nil)) ee_int (by decide) (by decide))) ea_nil))) (ea_cons (ee_tup (ea_cons (ee_is (ee_tup (ea_cons ee_int (ea_cons ee_int ea_nil))) (show _ = eF (1 : Rat) from rfl)) (ea_cons (ef_ee (ef_lst (ea_cons ee_int ea_nil))) ea_nil))) (ea_cons (ee_tup (ea_cons ee_non (ea_cons (ef_ee (ef_lst (ea_cons (ee_is (ee_tup (ea_cons ee_int (ea_cons ee_int ea_nil))) (show _ = eF (1 : Rat) from rfl)) ea_nil))) ea_nil))) (ea_cons (ee_tup (ea_cons (ee_is (ee_tup (ea_cons ee_int (ea_cons ee_int ea_nil))) (show _ = eF (1 : Rat) from rfl)) (ea_cons ee_non ea_nil))) ea_nil)))))) (by decide))) (show _ = ePairs badsW from rfl)) ?_ nd)
  have hshow : vShows [eP (psum Ap), ePairs ((Ap.map fun q => (eF q.1, eP q.2)) ++ [bq])] (.bool false) := ⟨psum Ap, by omega, oA, .inr ⟨_, rfl, by
    rw [List.all_append]
    show (_ && (okW bq && true)) = false
    rw [hbq, Bool.false_and, Bool.and_false], rfl⟩⟩
  refine ss_keep (s1_if (et_is (et_cmp (ee_call (fn_shows h) (rm.mono (by decide)) (ea_cons (ee_var 5 rfl) (ea_cons (ee_is (ef_ee (ef_cat (ee_var 3 rfl) (ef_ee (ef_lst (ea_cons (ee_ix (ee_var 11 rfl) (ee_op (ee_op (ee_var 2 rfl) (ee_op ee_int ee_int (od_pow ⟨by decide, by decide, by decide⟩)) (od_fdiv gx (by decide))) ee_int (od_mod (by decide))) (hat)) ea_nil))) (by rw [List.length_map]; show _ + 1 ≤ _; omega))) (show _ = ePairs ((Ap.map fun q => (eF q.1, eP q.2)) ++ [bq]) from (by unfold ePairs; rw [List.map_append, List.map_map]; rfl))) ea_nil)) (hshow)) ee_bl od_isNB (nomark _)) (b' := false) rfl) (fun z => nomatch z) (fun _ => ss_nil rfl)) ?_
  refine ss_cons (s1_set 12 (ee_is (ef_ee (ef_lst (ea_cons (ee_tup (ea_cons (ee_is (ee_tup (ea_cons ee_int (ea_cons ee_int ea_nil))) (show _ = eF (1 : Rat) from rfl)) (ea_cons (ef_ee (ef_rep (ef_lst (ea_cons (ee_is (ee_tup (ea_cons ee_int (ea_cons ee_int ea_nil))) (show _ = eF (1 : Rat) from rfl)) ea_nil)) ee_int (by decide) (by decide))) ea_nil))) ea_nil))) (show _ = ePap [(1, ones 7)] from rfl)) ?_ nd)
  have hx : xPProd K [ePap [(1, ones 7)], ePap [(1, ones 8)]] (ec K "BadPoly") := ⟨1, 1, ones 7, ones 8, [], [], rfl, rz_one.mono (by decide), rz_one.mono (by decide), (pz_ones 7).mono (by decide), (pz_ones 8).mono (by decide), by decide, by decide, by decide +kernel, rfl⟩
  refine ss_keep (s1_if (et_is (et_cmp (ee_toldX told h.x_BadPoly (fn_word_BadPoly h) (fun A' outer' s' H' f' c' E' hr => (ex_call (fn_paper_product h) (hr.mono (by decide)) (ea_cons (ee_var 12 rfl) (ea_cons (ee_is (ef_ee (ef_lst (ea_cons (ee_tup (ea_cons (ee_is (ee_tup (ea_cons ee_int (ea_cons ee_int ea_nil))) (show _ = eF (1 : Rat) from rfl)) (ea_cons (ef_ee (ef_rep (ef_lst (ea_cons (ee_is (ee_tup (ea_cons ee_int (ea_cons ee_int ea_nil))) (show _ = eF (1 : Rat) from rfl)) ea_nil)) ee_int (by decide) (by decide))) ea_nil))) ea_nil))) (show _ = ePap [(1, ones 8)] from rfl)) ea_nil)) (hx)))) ee_str (od_ne gx (by decide +kernel) (by decide +kernel)) (nomark _)) (b' := false) (by decide +kernel)) (fun z => nomatch z) (fun _ => ss_nil rfl)) ?_
  refine ss_one (s1_if (et_is (et_cmp (ee_toldX told h.x_BadPoly (fn_word_BadPoly h) (fun A' outer' s' H' f' c' E' hr => (ex_call (fn_shows h) (hr.mono (by decide)) (ea_cons (ee_is (ef_ee (ef_cat (ee_var 5 rfl) (ef_ee (ef_lst (ea_cons (ee_is (ee_tup (ea_cons ee_int (ea_cons ee_int ea_nil))) (show _ = eF (0 : Rat) from rfl)) ea_nil))) (by rw [List.length_map]; show _ + 1 ≤ _; omega))) (show _ = eP (psum Ap ++ [0]) from (by unfold eP; rw [List.map_append]; rfl))) (ea_cons (ee_var 3 rfl) ea_nil)) (⟨_, _, rfl, isPo_snoc0 _, rfl⟩)))) ee_str (od_ne gx (by decide +kernel) (by decide +kernel)) (nomark _)) (b' := false) (by decide +kernel)) (fun z => nomatch z) (fun _ => ss_nil ?_))
  exact ⟨[.dat (.int (i : Nat)), .dat (.int M), .dat (ePap Ap), .dat (ePap Bp), .dat (eP (psum Ap)), .dat (eP dr), b, c, e, .dat (ePap (papMul Ap Bp)), .dat (ePairs badsW), .dat (ePap [(1, ones 7)])], rfl, rfl, noL datO datO datO datO datO datO nb nc ne datO datO datO⟩


/-! ### the head -/
def hfn : List He.DefD := [⟨("common", none), "common", "common", defArgs (top 2), defBody (top 2), defScope (top 2), [], []⟩,
  ⟨("fraction", none), "fraction", "fraction", defArgs (top 3), defBody (top 3), defScope (top 3), [], []⟩,
  ⟨("plus", none), "plus", "plus", defArgs (top 4), defBody (top 4), defScope (top 4), [], []⟩,
  ⟨("times", none), "times", "times", defArgs (top 5), defBody (top 5), defScope (top 5), [], []⟩,
  ⟨("is_fraction", none), "is_fraction", "is_fraction", defArgs (top 6), defBody (top 6), defScope (top 6), [], []⟩,
  ⟨("is_poly", none), "is_poly", "is_poly", defArgs (top 15), defBody (top 15), defScope (top 15), [], []⟩,
  ⟨("need_poly", none), "need_poly", "need_poly", defArgs (top 16), defBody (top 16), defScope (top 16), [], []⟩,
  ⟨("trimmed", none), "trimmed", "trimmed", defArgs (top 17), defBody (top 17), defScope (top 17), [], []⟩,
  ⟨("tellable", none), "tellable", "tellable", defArgs (top 18), defBody (top 18), defScope (top 18), [], []⟩,
  ⟨("fraction_at", none), "fraction_at", "fraction_at", defArgs (top 19), defBody (top 19), defScope (top 19), [], []⟩,
  ⟨("added", none), "added", "added", defArgs (top 20), defBody (top 20), defScope (top 20), [], []⟩,
  ⟨("scaled", none), "scaled", "scaled", defArgs (top 21), defBody (top 21), defScope (top 21), [], []⟩,
  ⟨("multiplied", none), "multiplied", "multiplied", defArgs (top 22), defBody (top 22), defScope (top 22), [], []⟩,
  ⟨("sum_by", none), "sum_by", "sum_by", defArgs (top 24), defBody (top 24), defScope (top 24), [], []⟩,
  ⟨("is_paper", none), "is_paper", "is_paper", defArgs (top 25), defBody (top 25), defScope (top 25), [], []⟩,
  ⟨("shows", none), "shows", "shows", defArgs (top 26), defBody (top 26), defScope (top 26), [], []⟩,
  ⟨("paper_sum", none), "paper_sum", "paper_sum", defArgs (top 27), defBody (top 27), defScope (top 27), [], []⟩,
  ⟨("paper_product", none), "paper_product", "paper_product", defArgs (top 28), defBody (top 28), defScope (top 28), [], []⟩,
  ⟨("_law_cell", none), "_law_cell", "_law_cell", defArgs (top 30), defBody (top 30), defScope (top 30), [], []⟩,
  ⟨("_law_drawn", none), "_law_drawn", "_law_drawn", defArgs (top 31), defBody (top 31), defScope (top 31), [], []⟩,
  ⟨("_law_word", none), "_law_word", "_law_word", defArgs (top 32), defBody (top 32), defScope (top 32), [], []⟩,
  ⟨("_law_told", none), "_law_told", "_law_told", defArgs (top 33), defBody (top 33), defScope (top 33), [], []⟩,
  ⟨("_law_made", none), "_law_made", "_law_made", defArgs (top 34), defBody (top 34), defScope (top 34), [], []⟩,
  ⟨("_law_plus", none), "_law_plus", "_law_plus", defArgs (top 35), defBody (top 35), defScope (top 35), [], []⟩,
  ⟨("_law_times", none), "_law_times", "_law_times", defArgs (top 36), defBody (top 36), defScope (top 36), [], []⟩,
  ⟨("_law_less", none), "_law_less", "_law_less", defArgs (top 37), defBody (top 37), defScope (top 37), [], []⟩,
  ⟨("_law_trim", none), "_law_trim", "_law_trim", defArgs (top 38), defBody (top 38), defScope (top 38), [], []⟩,
  ⟨("_law_sum", none), "_law_sum", "_law_sum", defArgs (top 39), defBody (top 39), defScope (top 39), [], []⟩,
  ⟨("_law_product", none), "_law_product", "_law_product", defArgs (top 40), defBody (top 40), defScope (top 40), [], []⟩,
  ⟨("_law_worth", none), "_law_worth", "_law_worth", defArgs (top 41), defBody (top 41), defScope (top 41), [], []⟩,
  ⟨("_law_fraction", none), "_law_fraction", "_law_fraction", defArgs (top 42), defBody (top 42), defScope (top 42), [], []⟩,
  ⟨("_law_poly", none), "_law_poly", "_law_poly", defArgs (top 43), defBody (top 43), defScope (top 43), [], []⟩,
  ⟨("_law_paper_sum", none), "_law_paper_sum", "_law_paper_sum", defArgs (top 44), defBody (top 44), defScope (top 44), [], []⟩,
  ⟨("_law_is_paper", none), "_law_is_paper", "_law_is_paper", defArgs (top 45), defBody (top 45), defScope (top 45), [], []⟩,
  ⟨("_law_paper", none), "_law_paper", "_law_paper", defArgs (top 46), defBody (top 46), defScope (top 46), [], []⟩,
  ⟨("law", none), "law", "law", defArgs (top 47), defBody (top 47), defScope (top 47), [], []⟩]
def hfa : List He.Fa := [.glo "common", .glo "fraction", .glo "plus", .glo "times", .glo "is_fraction", .glo "is_poly", .glo "need_poly", .glo "trimmed",
  .glo "tellable", .glo "fraction_at", .glo "added", .glo "scaled", .glo "multiplied", .glo "sum_by", .glo "is_paper", .glo "shows",
  .glo "paper_sum", .glo "paper_product", .glo "_law_cell", .glo "_law_drawn", .glo "_law_word", .glo "_law_told", .glo "_law_made", .glo "_law_plus",
  .glo "_law_times", .glo "_law_less", .glo "_law_trim", .glo "_law_sum", .glo "_law_product", .glo "_law_worth", .glo "_law_fraction", .glo "_law_poly",
  .glo "_law_paper_sum", .glo "_law_is_paper", .glo "_law_paper", .glo "law", .free "ValueError", .free "abs", .free "all", .free "bool",
  .free "enumerate", .free "int", .free "isinstance", .free "len", .free "list", .free "max", .free "min", .free "range",
  .free "sum", .free "tuple", .free "zip", .glo "NoughtError", .exc "NoughtError", .glo "BadPoly", .exc "BadPoly", .glo "NoWay",
  .exc "NoWay", .glo "BadStretch", .exc "BadStretch", .glo "BadForm", .exc "BadForm", .exm "BadPoly" "NoughtError" true, .exm "NoWay" "NoughtError" true, .exm "BadStretch" "NoughtError" true,
  .exm "BadForm" "NoughtError" true, .glo "NOUGHT", .int "MOST" 13, .glo "__builtins__"]
def hex : List (PySem.W.Frag → Bool) := [seerB, noLst, excB "BadPoly", kitV "BadPoly", kitX "BadPoly" "BadPoly" true, kitX "BadPoly" "NoWay" false,
  kitX "BadPoly" "BadStretch" false, kitX "BadPoly" "BadForm" false, excB "NoWay", kitV "NoWay", kitX "NoWay" "BadPoly" false, kitX "NoWay" "NoWay" true,
  kitX "NoWay" "BadStretch" false, kitX "NoWay" "BadForm" false, excB "BadStretch", kitV "BadStretch", kitX "BadStretch" "BadPoly" false, kitX "BadStretch" "NoWay" false,
  kitX "BadStretch" "BadStretch" true, kitX "BadStretch" "BadForm" false, excB "BadForm", kitV "BadForm", kitX "BadForm" "BadPoly" false, kitX "BadForm" "NoWay" false,
  kitX "BadForm" "BadStretch" false, kitX "BadForm" "BadForm" true, kTwo "NOUGHT" 0 1]
def htf : List He.Defn := [("law", none)]
def hlo0 : List Str := ["__name__", "common", "fraction", "plus", "times", "is_fraction", "is_poly", "need_poly", "trimmed", "tellable", "fraction_at", "added", "scaled", "multiplied", "sum_by", "is_paper", "shows", "paper_sum", "paper_product", "_law_cell", "_law_drawn", "_law_word", "_law_told", "_law_made", "_law_plus", "_law_times", "_law_less", "_law_trim", "_law_sum", "_law_product"]
def hlo1 : List Str := ["_law_worth", "_law_fraction", "_law_poly", "_law_paper_sum", "_law_is_paper", "_law_paper", "NoughtError", "BadPoly", "NoWay", "BadStretch", "BadForm", "NOUGHT", "MOST"]
def hlo : List Str := hlo0 ++ hlo1
theorem hd_of {w : World} {h base : Heap} {K : PySem.W.Frag} {mg : Str → Option Value} (X : K.In base) (G : base.Ns mainGlobals mg) (ns : base.NoSeer) (c : He.SaysX hfa hfn [] htf (fun K => hex.all fun f => f K) w h K) : Hd K mg base where
  ns := ns
  d_common := says_fe X G c 0 0
  d_fraction := says_fe X G c 1 1
  d_plus := says_fe X G c 2 2
  d_times := says_fe X G c 3 3
  d_is_fraction := says_fe X G c 4 4
  d_is_poly := says_fe X G c 5 5
  d_need_poly := says_fe X G c 6 6
  d_trimmed := says_fe X G c 7 7
  d_tellable := says_fe X G c 8 8
  d_fraction_at := says_fe X G c 9 9
  d_added := says_fe X G c 10 10
  d_scaled := says_fe X G c 11 11
  d_multiplied := says_fe X G c 12 12
  d_sum_by := says_fe X G c 13 13
  d_is_paper := says_fe X G c 14 14
  d_shows := says_fe X G c 15 15
  d_paper_sum := says_fe X G c 16 16
  d_paper_product := says_fe X G c 17 17
  d__law_cell := says_fe X G c 18 18
  d__law_drawn := says_fe X G c 19 19
  d__law_word := says_fe X G c 20 20
  d__law_told := says_fe X G c 21 21
  d__law_made := says_fe X G c 22 22
  d__law_plus := says_fe X G c 23 23
  d__law_times := says_fe X G c 24 24
  d__law_less := says_fe X G c 25 25
  d__law_trim := says_fe X G c 26 26
  d__law_sum := says_fe X G c 27 27
  d__law_product := says_fe X G c 28 28
  d__law_worth := says_fe X G c 29 29
  d__law_fraction := says_fe X G c 30 30
  d__law_poly := says_fe X G c 31 31
  d__law_paper_sum := says_fe X G c 32 32
  d__law_is_paper := says_fe X G c 33 33
  d__law_paper := says_fe X G c 34 34
  d_law := says_fe X G c 35 35
  g_law := He.glo_ok X G (c.t.d.fact 35 rfl)
  b_ValueError := says_free X G c 36
  b_abs := says_free X G c 37
  b_all := says_free X G c 38
  b_bool := says_free X G c 39
  b_enumerate := says_free X G c 40
  b_int := says_free X G c 41
  b_isinstance := says_free X G c 42
  b_len := says_free X G c 43
  b_list := says_free X G c 44
  b_max := says_free X G c 45
  b_min := says_free X G c 46
  b_range := says_free X G c 47
  b_sum := says_free X G c 48
  b_tuple := says_free X G c 49
  b_zip := says_free X G c 50
  e_NoughtError := says_err X G c 51 52
  e_BadPoly := says_err X G c 53 54
  e_NoWay := says_err X G c 55 56
  e_BadStretch := says_err X G c 57 58
  e_BadForm := says_err X G c 59 60
  c_BadPoly := excB_ok (says_ex c 2)
  x_BadPoly := says_exm c 61
  v_BadPoly := eqB_ok (says_ex (f := kitV "BadPoly") c 3)
  i_BadPoly_BadPoly := eqB_ok (says_ex (f := kitX "BadPoly" "BadPoly" true) c 4)
  i_BadPoly_NoWay := eqB_ok (says_ex (f := kitX "BadPoly" "NoWay" false) c 5)
  i_BadPoly_BadStretch := eqB_ok (says_ex (f := kitX "BadPoly" "BadStretch" false) c 6)
  i_BadPoly_BadForm := eqB_ok (says_ex (f := kitX "BadPoly" "BadForm" false) c 7)
  c_NoWay := excB_ok (says_ex c 8)
  x_NoWay := says_exm c 62
  v_NoWay := eqB_ok (says_ex (f := kitV "NoWay") c 9)
  i_NoWay_BadPoly := eqB_ok (says_ex (f := kitX "NoWay" "BadPoly" false) c 10)
  i_NoWay_NoWay := eqB_ok (says_ex (f := kitX "NoWay" "NoWay" true) c 11)
  i_NoWay_BadStretch := eqB_ok (says_ex (f := kitX "NoWay" "BadStretch" false) c 12)
  i_NoWay_BadForm := eqB_ok (says_ex (f := kitX "NoWay" "BadForm" false) c 13)
  c_BadStretch := excB_ok (says_ex c 14)
  x_BadStretch := says_exm c 63
  v_BadStretch := eqB_ok (says_ex (f := kitV "BadStretch") c 15)
  i_BadStretch_BadPoly := eqB_ok (says_ex (f := kitX "BadStretch" "BadPoly" false) c 16)
  i_BadStretch_NoWay := eqB_ok (says_ex (f := kitX "BadStretch" "NoWay" false) c 17)
  i_BadStretch_BadStretch := eqB_ok (says_ex (f := kitX "BadStretch" "BadStretch" true) c 18)
  i_BadStretch_BadForm := eqB_ok (says_ex (f := kitX "BadStretch" "BadForm" false) c 19)
  c_BadForm := excB_ok (says_ex c 20)
  x_BadForm := says_exm c 64
  v_BadForm := eqB_ok (says_ex (f := kitV "BadForm") c 21)
  i_BadForm_BadPoly := eqB_ok (says_ex (f := kitX "BadForm" "BadPoly" false) c 22)
  i_BadForm_NoWay := eqB_ok (says_ex (f := kitX "BadForm" "NoWay" false) c 23)
  i_BadForm_BadStretch := eqB_ok (says_ex (f := kitX "BadForm" "BadStretch" false) c 24)
  i_BadForm_BadForm := eqB_ok (says_ex (f := kitX "BadForm" "BadForm" true) c 25)
  k_NOUGHT := says_two X G c 65 26
  k_MOST := says_int X G c 66
theorem hd_seer {w : World} {h base : Heap} {K : PySem.W.Frag} {mg : Str → Option Value} (X : K.In base) (G : base.Ns mainGlobals mg) (c : He.SaysX hfa hfn [] htf (fun K => hex.all fun f => f K) w h K)
    (hbl : ∃ mb, base.Ns builtinsNs mb ∧ ∀ x : Str, x ≠ "__name__" → mb x = bootBuiltins x) : base.NoSeer := seer_of (says_ex (f := seerB) c 0) X G (He.glo_ok X G (c.t.d.fact 67 rfl)) hbl
abbrev hR : PySem.W.OpenRow := PySem.W.OpenLaw.row PySem.Challenge.rw_abovenought_k30_papers_looked_at
abbrev hk : PySem.W.Hook := hookN 4 hfa hfn htf hex
def hob (s : PySem.W.SharedT) : He.AlX := obsN 4 hfa hfn htf hex (HandSHeadRun.getT s)
theorem hob_eq (s : PySem.W.SharedT) : hob s = hk.obs s.abs := obsN_eq (HandSHeadRun.getT_eq s)
theorem hrun (w : World) : HandSHeadRun.RunEq hR (PySem.W.view hR.prog [47]) hk hob 4000 hlo w := by
  intro os
  kernel_rfl


theorem law_at {w : World} {K : PySem.W.Frag} {h : Heap} {mg : Str → Option Value} {fa : Addr} (X : K.In h) (G : h.Ns mainGlobals mg) (hmg : mg ("law" : Str) = some (.ref fa)) (c : He.SaysX hfa hfn [] htf (fun K => hex.all fun f => f K) w h K) :
    LamX.LawAtS PySem.Challenge.rw_abovenought_k30_papers_looked_at w K (L2N.CX PR w) 61 63 "script" mg fa h := by
  obtain ⟨fd, F⟩ := c.t.d.def_ 35 (d := ⟨("law", none), "law", "law", defArgs (top 47), defBody (top 47), defScope (top 47), [], []⟩) rfl
  have eg := hmg.symm.trans (He.glo_ok X G (c.t.d.fact 35 (f := .glo "law") rfl))
  have ef : fa = He.ga K "law" := by
    injection eg with eg
    injection eg
  subst ef
  have b := FunD.bindsA (ps := ["script"]) F fun _ _ _ _ _ _ us hl => match us, hl with | [_], _ => rfl
  refine ⟨fd, [He.cT K ("law", none)], spLaw (lT K) 63, fun p hp => ?_, fun p hp => ?_, fun p hp => ?_, fun s v => b s [v] rfl, fun H a ns hl hb hT hS => ⟨a, ns, rfl, hl, hb, fun p hp => ?_, noLst_ok (says_ex (f := noLst) c 1) hS, fun _ => rfl⟩, fun base XB GB TB => ?_⟩
  · simp only [List.mem_cons, List.not_mem_nil, or_false] at hp
    rcases hp with rfl
    · exact c.empty _ (show _ ∈ htf by decide)
  · simp only [List.mem_cons, List.not_mem_nil, or_false] at hp
    rcases hp with rfl
    · exact c.out _ (show _ ∈ htf by decide)
  · simp only [List.mem_cons, List.not_mem_nil, or_false] at hp
    rcases hp with rfl
    · exact PySem.W.codeHd_of_K X (c.hd _ (show _ ∈ htf by decide))
  · simp only [lT, List.mem_cons, List.not_mem_nil, or_false] at hp
    rcases hp with rfl
    · exact hT _ (by simp)
  · refine law_mk (T := (lT K)) (st := top 47) F sc_law rfl rfl (by decide) (fun hbl => hd_seer XB GB c hbl) (fun seer cdv A outer s H E X hX gx hp hcode ns hn hb => ?_)
    subst hX
    exact law_ss (hd_of XB GB seer c) ⟨TB _ (by simp)⟩ gx hp hcode ns hn hb
end
end An
open PySem PySem.W PySem.Calls PyProof.Rows in
theorem PySem.Challenge.cw_abovenought_k30_papers_looked_at_holds : PySem.Challenge.rw_abovenought_k30_papers_looked_at.Holds := by
  w_on; o_law
  refine HandSHeadRun.head_any (r := An.hR) (q := view An.hR.prog [47]) (H := An.hk) (ob := An.hob) (M := 4000) (loose := An.hlo) (d := HandSHeadRun.topDef An.hR.prog 47) (kwd := []) An.hob_eq (by kernel_rfl) (fun s => by kernel_rfl) An.hrun (by kernel_rfl) (by kernel_rfl) (by kernel_rfl) (by rfl) (by first | assumption | decide +kernel) (by decide +kernel) ⟨rfl, rfl, rfl, rfl, rfl, by decide +kernel⟩ ?hw ?hc
  case hw => w_witness2
  case hc =>
    refine LamX.walk_ofTsE (l := PySem.Challenge.rw_abovenought_k30_papers_looked_at) (n := 63) (k := 61) (x := "script") (CX := fun w => L2N.CX An.PR w) rfl (by decide) (by kernel_rfl) ⟨rfl, by decide, by decide⟩ ?F (fun w H s e s' z => ?G)
    case G =>
      obtain ⟨_, _, _, _, _, _, _, _, _, _, _, _, q⟩ := z
      exact q
    case F =>
      intro w mg fa h Y G hmg0
      obtain ⟨K, KX, c⟩ := Y
      have e : (HandSHeadRun.topDef An.hR.prog 47).name = ("law" : PySem.Str) := by kernel_rfl
      rw [e] at hmg0
      exact ⟨K, KX, An.law_at KX G hmg0 c⟩
namespace An
section


end
end An
