import PyProof.Rows.All
import Wide.All
import OpenK.AllK
import Wide.FinOn
import KE.KLam
import HandS.ForMost
import HandS.ForExc
import HandS.Wide
import HandS.WideBits
import HandS.IsInst
import HandS.ExcIs
import HandS.Style
import HandS.Deep
import HandS.Zip
import HandS.HotCalls
import HandS.Lambda
import HandS.EndTab
import HandS.HeadWalk
import HandS.Head2
import HandS.HeadHook4
import HandS.Small
import HandS.More
import HandS.WrittenGet
import HandS.Conv
import PyProof.P3In
import PySem.Challenge.RW_abovenought_k91_sheets_refused
set_option Elab.async false
set_option linter.all false
set_option maxRecDepth 100000
set_option maxHeartbeats 4000000
set_option exponentiation.threshold 3000
/-! A logic of data over the hand layer: what stands in a slot is told as data (PyData), heaps are out of sight. -/
namespace An
open PySem PySem.Spec PyProof.Rows L2
abbrev D := PyData
/-! ### the best readings -/
section
variable {X : Cx}
@[irreducible] def we (X : Cx) (e : Expr) : TE := fun σ H Q => ∀ (pins : List (Addr × Obj)) (s : Shared), Inv X pins σ H s → wpAny (model X.prog X.w) X.A (eval e X.env) (EP X pins σ Q) X.xe s
@[irreducible] def wt (X : Cx) (e : Expr) : TT := fun σ H Q => ∀ (pins : List (Addr × Obj)) (s : Shared), Inv X pins σ H s → wpAny (model X.prog X.w) X.A (isTrue e X.env (eval e X.env)) (TP X pins σ Q) X.xe s
@[irreducible] def ww (X : Cx) (e : Expr) : TT := fun σ H Q => ∀ (whole : Sem Value) (pins : List (Addr × Obj)) (s : Shared), Inv X pins σ H s → wpAny (model X.prog X.w) X.A (isTrue e X.env whole) (TP X pins σ Q) X.xe s
@[irreducible] def wa (X : Cx) (es : List Expr) : TA := fun σ H Q => ∀ (pos : Pos) (pins : List (Addr × Obj)) (s : Shared), Inv X pins σ H s → wpAny (model X.prog X.w) X.A (spliced (backTo pos (starEach es X.env))) (AP X pins σ Q) X.xe s
@[irreducible] def wss (X : Cx) (st : List Stmt) : TS := fun D σ H => ∀ (pins : List (Addr × Obj)) (s : Shared), Inv X pins σ H s → wpAny (model X.prog X.w) X.A (execs st X.env) (SP X pins D) X.xe s
@[irreducible] def ws (X : Cx) (st : Stmt) : TS := fun D σ H => ∀ (pins : List (Addr × Obj)) (s : Shared), Inv X pins σ H s → wpAny (model X.prog X.w) X.A (exec st X.env) (SP X pins D) X.xe s
theorem pe_we {e : Expr} : PE X e (we X e) := ⟨fun pins s _ _ _ I h => by unfold we at h; exact h pins s I⟩
theorem pt_wt {e : Expr} : PT X e (wt X e) := ⟨fun pins s _ _ _ I h => by unfold wt at h; exact h pins s I⟩
theorem pw_ww {e : Expr} : PW X e (ww X e) := ⟨fun wh pins s _ _ _ I h => by unfold ww at h; exact h wh pins s I⟩
theorem pa_wa {es : List Expr} : PA X es (wa X es) := ⟨fun pos pins s _ _ _ I h => by unfold wa at h; exact h pos pins s I⟩
theorem pss_wss {st : List Stmt} : PSs X st (wss X st) := ⟨fun pins s _ _ _ I h => by unfold wss at h; exact h pins s I⟩
theorem ps_ws {st : Stmt} : PS X st (ws X st) := ⟨fun pins s _ _ _ I h => by unfold ws at h; exact h pins s I⟩
theorem we_of {e : Expr} {t : TE} {σ : L2.St} {H : Hp} {Q : VK} (h : PE X e t) (q : t σ H Q) : we X e σ H Q := by
  unfold we
  exact fun pins s I => h.run pins s σ H Q I q
theorem wt_of {e : Expr} {t : TT} {σ : L2.St} {H : Hp} {Q : Bool → Hp → Prop} (h : PT X e t) (q : t σ H Q) : wt X e σ H Q := by
  unfold wt
  exact fun pins s I => h.run pins s σ H Q I q
theorem ww_of {e : Expr} {t : TT} {σ : L2.St} {H : Hp} {Q : Bool → Hp → Prop} (h : PW X e t) (q : t σ H Q) : ww X e σ H Q := by
  unfold ww
  exact fun wh pins s I => h.run wh pins s σ H Q I q
theorem wa_of {es : List Expr} {t : TA} {σ : L2.St} {H : Hp} {Q : List V → Hp → Prop} (h : PA X es t) (q : t σ H Q) : wa X es σ H Q := by
  unfold wa
  exact fun pos pins s I => h.run pos pins s σ H Q I q
theorem wss_of {st : List Stmt} {t : TS} {σ : L2.St} {H : Hp} {E : Ends} (h : PSs X st t) (q : t E σ H) : wss X st E σ H := by
  unfold wss
  exact fun pins s I => h.run pins s σ H E I q
theorem ws_of {st : Stmt} {t : TS} {σ : L2.St} {H : Hp} {E : Ends} (h : PS X st t) (q : t E σ H) : ws X st E σ H := by
  unfold ws
  exact fun pins s I => h.run pins s σ H E I q
end
/-! ### heaps and data -/
/-- all but the tables of code objects is kept -/
def Keep (H H' : Hp) : Prop := ∀ a o, H a = some o → (∀ ps, o ≠ .tbl ps) → H' a = some o
theorem Keep.refl (H : Hp) : Keep H H := fun _ _ h _ => h
theorem Keep.trans {H H1 H2 : Hp} (a : Keep H H1) (b : Keep H1 H2) : Keep H H2 := fun c o h n => b c o (a c o h n) n
theorem Keep.of {H H' : Hp} (e : Same H H') : Keep H H' := fun b o h _ => e b o h
noncomputable def off (S : Addr → Prop) (H : Hp) : Hp := fun a => open Classical in if S a then none else H a
theorem off_some {S : Addr → Prop} {H : Hp} {a : Addr} {o : HO} (h : off S H a = some o) : ¬ S a ∧ H a = some o := by
  unfold off at h
  by_cases hs : S a
  · rw [if_pos hs] at h
    cases h
  · rw [if_neg hs] at h
    exact ⟨hs, h⟩
theorem off_of {S : Addr → Prop} {H : Hp} {a : Addr} {o : HO} (n : ¬ S a) (h : H a = some o) : off S H a = some o := by
  unfold off
  rw [if_neg n]
  exact h
theorem off_keep {S S' : Addr → Prop} {H H' : Hp} (k : Keep H H') (s : ∀ a, S' a → S a) : Keep (off S H) (off S' H') := fun a o h n => by
  obtain ⟨h1, h2⟩ := off_some h
  exact off_of (fun z => h1 (s a z)) (k a o h2 n)
theorem off_in {S : Addr → Prop} {H : Hp} : Keep (off S H) H := fun a o h _ => (off_some h).2
theorem rd_keep {H H' : Hp} {a : Addr} {xs : List V} (k : Keep H H') (h : Rd H a (.lst xs)) : Rd H' a (.lst xs) := by
  rcases h with h | ⟨o, h⟩
  · exact .inl (k _ _ h fun _ z => nomatch z)
  · exact .inr ⟨o, k _ _ h fun _ z => nomatch z⟩
theorem sql_keep {K : PySem.W.Frag} {H H' : Hp} {a : Addr} {xs : List V} (k : Keep H H') (h : SqL K H a xs) : SqL K H' a xs := by
  rcases h with (h | ⟨o, h⟩) | h
  · exact .inl (.inl (k _ _ h fun _ z => nomatch z))
  · exact .inl (.inr ⟨o, k _ _ h fun _ z => nomatch z⟩)
  · exact .inr h
theorem sqt_keep {K : PySem.W.Frag} {H H' : Hp} {a : Addr} {xs : List V} (k : Keep H H') (h : SqT K H a xs) : SqT K H' a xs := by
  rcases h with (h | ⟨o, h⟩) | h
  · exact .inl (.inl (k _ _ h fun _ z => nomatch z))
  · exact .inl (.inr ⟨o, k _ _ h fun _ z => nomatch z⟩)
  · exact .inr h
/-! data of any depth: lists that are tracked or locked, tuples that are tracked or written; dicts with whole numbers for keys; instances of own classes, by their attributes -/
/-- what is asked of an own class whose instances are told as data -/
structure ObC (K : PySem.W.Frag) (C : Addr) : Prop where
  cl : Cls K C
  ha : PySem.W.findIn K (.ref C) "__class__" = some (some (.builtin "object.__class__"))
  hn : PySem.W.specialIn K (.builtin "object.__class__") "__get__" = some (some (.builtin "getset_descriptor.__get__"))
  htk : PySem.W.takesIn K (.builtin "object.__class__") = some true
  hm : PySem.W.mroIn K C (.type "object") = some true
  kit : ∀ T ∈ ["tuple", "list", "int", "bool", "str"], PySem.W.kitOne K (.ref C) (.type T) = some false
mutual
inductive Dt (K : PySem.W.Frag) (H : Hp) : V → D → Prop
  | non : Dt K H .non .none
  | bl (b : Bool) : Dt K H (.bl b) (.bool b)
  | int (i : Int) : Dt K H (.int i) (.int i)
  | str (x : Str) : Dt K H (.str x) (.str x)
  | lst {a : Addr} {xs : List V} {ds : List D} : Rd H a (.lst xs) → DtAll K H xs ds → Dt K H (.ref a) (.list ds)
  | tup {a : Addr} {xs : List V} {ds : List D} : SqT K H a xs → DtAll K H xs ds → Dt K H (.ref a) (.tuple ds)
  | dic {a : Addr} {ks : List Int} {vs : List V} {kd ds : List D} : H a = some (.dK (ks.map Sum.inl |>.zip vs)) → ks.length = vs.length → kd = ks.map .int → DtAll K H vs ds → Dt K H (.ref a) (.dict [(.list kd, .list ds)])
  | obj {p dx : Addr} {x : Str} {ns : List Str} {vs : List V} {nd ds : List D} : ObC K (He.ga K x) → H p = some (.ins (He.ga K x) dx (ns.zip vs)) → ns.length = vs.length → nd = ns.map .str → DtAll K H vs ds → Dt K H (.ref p) (.dict [(.str x, .list nd), (.none, .list ds)])
inductive DtAll (K : PySem.W.Frag) (H : Hp) : List V → List D → Prop
  | nil : DtAll K H [] []
  | cons {v : V} {vs : List V} {d : D} {ds : List D} : Dt K H v d → DtAll K H vs ds → DtAll K H (v :: vs) (d :: ds)
end
mutual
theorem Dt.dp {K : PySem.W.Frag} {H : Hp} : ∀ {d : D} {v : V}, Dt K H v d → d.canLay0 = true → Dp K H v d
  | _, _, .non, _ => .non
  | _, _, .bl b, _ => .bl b
  | _, _, .int i, _ => .int i
  | _, _, .str x, _ => .str x
  | _, _, .lst hs ha, q => .lst (.inl hs) (DtAll.dp ha (by simpa [PyData.canLay0] using q))
  | _, _, .tup hs ha, q => .tup hs (DtAll.dp ha (by simpa [PyData.canLay0] using q))
  | _, _, .dic _ _ _ _, q => absurd q (by simp [PyData.canLay0])
  | _, _, .obj _ _ _ _ _, q => absurd q (by simp [PyData.canLay0])
theorem DtAll.dp {K : PySem.W.Frag} {H : Hp} : ∀ {ds : List D} {vs : List V}, DtAll K H vs ds → PyData.canLayAll0 ds = true → DpAll K H vs ds
  | _, _, .nil, _ => .nil
  | _, _, .cons h1 h2, q => by
    simp only [PyData.canLayAll0, Bool.and_eq_true] at q
    exact .cons (Dt.dp h1 q.1) (DtAll.dp h2 q.2)
end
mutual
theorem dp_keep {K : PySem.W.Frag} {H H' : Hp} (k : Keep H H') : ∀ (d : D) (v : V), Dt K H v d → Dt K H' v d
  | _, _, .non => .non
  | _, _, .bl b => .bl b
  | _, _, .int i => .int i
  | _, _, .str x => .str x
  | _, _, .lst hs ha => .lst (rd_keep k hs) (dps_keep k _ _ ha)
  | _, _, .tup hs ha => .tup (sqt_keep k hs) (dps_keep k _ _ ha)
  | _, _, .dic h1 h2 h3 ha => .dic (k _ _ h1 fun _ z => nomatch z) h2 h3 (dps_keep k _ _ ha)
  | _, _, .obj h0 h1 h2 h3 ha => .obj h0 (k _ _ h1 fun _ z => nomatch z) h2 h3 (dps_keep k _ _ ha)
theorem dps_keep {K : PySem.W.Frag} {H H' : Hp} (k : Keep H H') : ∀ (ds : List D) (vs : List V), DtAll K H vs ds → DtAll K H' vs ds
  | _, _, .nil => .nil
  | _, _, .cons h1 h2 => .cons (dp_keep k _ _ h1) (dps_keep k _ _ h2)
end
section
variable {K : PySem.W.Frag} {H : Hp}
theorem dps_len : ∀ {vs : List V} {ds : List D}, DtAll K H vs ds → vs.length = ds.length
  | _, _, .nil => rfl
  | _, _, .cons _ t => congrArg Nat.succ (dps_len t)
theorem dps_get : ∀ {vs : List V} {ds : List D} {i : Nat} {d : D}, DtAll K H vs ds → ds[i]? = some d → ∃ v, vs[i]? = some v ∧ Dt K H v d
  | _, _, _, _, .nil, h => by simp at h
  | _, _, 0, d, .cons h t, e => by
    simp at e
    subst e
    exact ⟨_, rfl, h⟩
  | _, _, i + 1, d, .cons h t, e => by
    simp at e
    obtain ⟨v, e1, e2⟩ := dps_get t e
    exact ⟨v, by simpa using e1, e2⟩
theorem dps_getV : ∀ {vs : List V} {ds : List D} {i : Nat} {v : V}, DtAll K H vs ds → vs[i]? = some v → ∃ d, ds[i]? = some d ∧ Dt K H v d
  | _, _, _, _, .nil, h => by simp at h
  | _, _, 0, d, .cons h t, e => by
    simp at e
    subst e
    exact ⟨_, rfl, h⟩
  | _, _, i + 1, d, .cons h t, e => by
    simp at e
    obtain ⟨v, e1, e2⟩ := dps_getV t e
    exact ⟨v, by simpa using e1, e2⟩
theorem dps_app : ∀ {vs ws : List V} {ds es : List D}, DtAll K H vs ds → DtAll K H ws es → DtAll K H (vs ++ ws) (ds ++ es)
  | _, _, _, _, .nil, s => s
  | _, _, _, _, .cons h t, s => .cons h (dps_app t s)
theorem dps_one {v : V} {d : D} (h : Dt K H v d) : DtAll K H [v] [d] := .cons h .nil
theorem dps_set : ∀ {vs : List V} {ds : List D} {v : V} {d : D} (i : Nat), DtAll K H vs ds → Dt K H v d → DtAll K H (vs.set i v) (ds.set i d)
  | _, _, _, _, _, .nil, _ => .nil
  | _, _, _, _, 0, .cons _ t, h => .cons h t
  | _, _, _, _, i + 1, .cons q t, h => .cons q (dps_set i t h)
theorem dps_take : ∀ {vs : List V} {ds : List D} (n : Nat), DtAll K H vs ds → DtAll K H (vs.take n) (ds.take n)
  | _, _, 0, _ => .nil
  | _, _, _ + 1, .nil => .nil
  | _, _, n + 1, .cons r t => .cons r (dps_take n t)
theorem dps_drop : ∀ {vs : List V} {ds : List D} (n : Nat), DtAll K H vs ds → DtAll K H (vs.drop n) (ds.drop n)
  | _, _, 0, r => r
  | _, _, _ + 1, .nil => .nil
  | _, _, n + 1, .cons _ t => dps_drop n t
theorem dps_rev {vs : List V} {ds : List D} (h : DtAll K H vs ds) : DtAll K H vs.reverse ds.reverse := by
  induction vs generalizing ds with
  | nil => cases h; exact .nil
  | cons v r ih =>
    cases h with
    | cons h1 h2 =>
      rw [List.reverse_cons, List.reverse_cons]
      exact dps_app (ih h2) (dps_one h1)
end
/-- what may be changed -/
def MutO : HO → Prop
  | .lst _ => True
  | .dK _ => True
  | .dT _ => True
  | .ins _ _ _ => True
  | .own _ => True
  | .frz _ _ => True
  | .ext φ => ∀ c q, HO.ext φ ≠ LamX.CodeO c q
  | _ => False
theorem MutO.nt {o : HO} (h : MutO o) : ∀ ps, o ≠ .tbl ps := fun ps e => by
  subst e
  exact h
/-- there is something there that may be changed -/
def NT (H : Hp) (a : Addr) : Prop := ∃ o, H a = some o ∧ MutO o
theorem NT.lst {H : Hp} {a : Addr} {xs : List V} (h : H a = some (.lst xs)) : NT H a := ⟨_, h, trivial⟩
theorem NT.there {H : Hp} {a : Addr} (h : NT H a) : H a ≠ none := by
  obtain ⟨o, e, _⟩ := h
  rw [e]
  exact fun z => nomatch z
theorem NT.keep {H H' : Hp} {a : Addr} (h : NT H a) (k : Keep H H') : H' a = H a := by
  obtain ⟨o, e, n⟩ := h
  rw [e, k a o e n.nt]
theorem NT.mono {H H' : Hp} {a : Addr} (h : NT H a) (k : Keep H H') : NT H' a := by
  obtain ⟨o, e, n⟩ := h
  exact ⟨o, k a o e n.nt, n⟩
/-- how heaps may follow one another in a body -/
class Rel (R : Hp → Hp → Prop) : Prop where
  /-- a heap that has come stands to itself so -/
  ends : ∀ {H H'}, R H H' → R H' H'
  trans : ∀ {H H1 H2}, R H H1 → R H1 H2 → R H H2
  more : ∀ {H H1 H2}, R H H1 → Same H1 H2 → R H H2
  keep : ∀ {H H'}, R H H' → Keep H H'
  dom : ∀ {H H' : Hp} {a : Addr}, R H H' → H a ≠ none → H' a ≠ none
  /-- what the first heap doesn't know may change -/
  chg : ∀ {H H' : Hp} {a : Addr} {o : HO}, R H H' → H a = none → NT H' a → MutO o → R H (upd H' a o)
  /-- the heap without some things -/
  cutr : ∀ {H H1 : Hp} {C : Addr → Prop}, R H H1 → (∀ a, C a → NT H1 a) → R (off C H1) H1
instance relSame : Rel Same where
  ends := fun {H H'} _ => Same.refl H'
  trans := Same.trans
  more := Same.trans
  keep := Keep.of
  dom := fun {H H' a} h n => by
    cases e : H a with
    | none => exact absurd e n
    | some o => rw [h a o e]; exact fun z => nomatch z
  chg := fun {H H' a o} h n _ _ b u e => by
    rw [upd_ne (ne_of_none e n)]
    exact h b u e
  cutr := fun _ _ a o e => (off_some e).2
theorem Rel.free {R : Hp → Hp → Prop} [Rel R] {H H' : Hp} {a : Addr} (h : R H H') (n : H' a = none) : H a = none := by
  cases e : H a with
  | none => rfl
  | some o => exact absurd n (Rel.dom h (by rw [e]; exact fun z => nomatch z))
theorem Rel.chgL {R : Hp → Hp → Prop} [Rel R] {H H' : Hp} {a : Addr} {xs : List V} (h : R H H') (n : H a = none) (k : ∃ ys, H' a = some (.lst ys)) : R H (upd H' a (.lst xs)) := by
  obtain ⟨ys, e⟩ := k
  exact Rel.chg h n (NT.lst e) trivial
theorem same_new {H : Hp} {p : Addr} {o : HO} (h : H p = none) : Same H (upd H p o) := fun b x e => by
  rw [upd_ne (ne_of_none e h)]
  exact e
/-! ### slots -/
/-- a thing of one's own, of any make: by its value, the addresses that are its own, the heap, and the heap of data -/
structure Bx where
  at_ : PySem.W.Frag → V → List Addr → Hp → Hp → Prop
  keep : ∀ {K : PySem.W.Frag} {v : V} {fs : List Addr} {H Hd H' Hd' : Hp}, at_ K v fs H Hd → (∀ a ∈ fs, H' a = H a) → Keep Hd Hd' → at_ K v fs H' Hd'
inductive Ow where
  | l (ds : List D)
  | b (B : Bx) (fs : List Addr)
instance : Coe (List D) Ow := ⟨Ow.l⟩
/-- a thing that stays as it is, of any make: by its value and the heap of data -/
structure Fix where
  at_ : PySem.W.Frag → V → Hp → Prop
  keep : ∀ {K : PySem.W.Frag} {v : V} {H H' : Hp}, at_ K v H → Keep H H' → at_ K v H'
/-- what is told of a slot: nothing; data; a thing of this body's own, which it may change; a value; a thing that stays -/
inductive Sl where
  | no
  | dat (d : D)
  | own (o : Ow)
  | val (v : V)
  | fix (F : Fix)
/-- what belongs to a slot -/
def Fx (x : Sl) (v : Option V) (a : Addr) : Prop := match x with
  | .own (.l _) => v = some (.ref a)
  | .own (.b _ fs) => a ∈ fs
  | _ => False
/-- what stands in a slot -/
def Okx (K : PySem.W.Frag) (x : Sl) (v : Option V) (H Hd : Hp) : Prop := match x with
  | .no => True
  | .dat d => ∃ u, v = some u ∧ Dt K Hd u d
  | .val u => v = some u
  | .fix F => ∃ u, v = some u ∧ F.at_ K u Hd
  | .own (.l ds) => ∃ l vs, v = some (.ref l) ∧ H l = some (.lst vs) ∧ DtAll K Hd vs ds
  | .own (.b B fs) => ∃ u, v = some u ∧ B.at_ K u fs H Hd
theorem Okx.keep {K : PySem.W.Frag} {x : Sl} {v : Option V} {H Hd H' Hd' : Hp} (h : Okx K x v H Hd) (f : ∀ a, Fx x v a → H' a = H a) (k : Keep Hd Hd') : Okx K x v H' Hd' := by
  match x, h, f with
  | .no, _, _ => exact trivial
  | .dat d, ⟨u, e, h⟩, _ => exact ⟨u, e, dp_keep k _ _ h⟩
  | .val u, h, _ => exact h
  | .fix F, ⟨u, e, h⟩, _ => exact ⟨u, e, F.keep h k⟩
  | .own (.l ds), ⟨l, vs, e, h1, h2⟩, f => exact ⟨l, vs, e, (f l e).trans h1, dps_keep k _ _ h2⟩
  | .own (.b B fs), ⟨u, e, h⟩, f => exact ⟨u, e, B.keep h f k⟩
def Fp (γ : List Sl) (σ : L2.St) (i : Nat) (a : Addr) : Prop := ∃ x v, γ[i]? = some x ∧ σ[i]? = some v ∧ Fx x v a
def Sx (S0 : Addr → Prop) (γ : List Sl) (σ : L2.St) (a : Addr) : Prop := S0 a ∨ ∃ i, Fp γ σ i a
structure SI (R : Hp → Hp → Prop) (K : PySem.W.Frag) (H0 : Hp) (S0 : Addr → Prop) (γ : List Sl) (σ : L2.St) (H : Hp) : Prop where
  rel : R H0 H
  dom : ∀ a, S0 a → H0 a ≠ none
  len : σ.length = γ.length
  ok : ∀ (i : Nat) (x : Sl), γ[i]? = some x → ∃ v, σ[i]? = some v ∧ Okx K x v H (off (Sx S0 γ σ) H)
  fp : ∀ (i : Nat) (a : Addr), Fp γ σ i a → H0 a = none ∧ NT H a
  inj : ∀ (i j : Nat) (a : Addr), Fp γ σ i a → Fp γ σ j a → i = j
theorem set_get {α : Type} {l : List α} {i j : Nat} {x y : α} (h : (l.set i x)[j]? = some y) : (j = i ∧ y = x ∧ i < l.length) ∨ (j ≠ i ∧ l[j]? = some y) := by
  by_cases hj : i = j
  · subst hj
    rw [List.getElem?_set_self'] at h
    cases q : l[i]? with
    | none => rw [q] at h; cases h
    | some z =>
      rw [q] at h
      cases h
      exact .inl ⟨rfl, rfl, (List.getElem?_eq_some_iff.mp q).1⟩
  · rw [List.getElem?_set_ne hj] at h
    exact .inr ⟨fun z => hj z.symm, h⟩
theorem fp_set {γ : List Sl} {σ : L2.St} {i j : Nat} {x : Sl} {v : Option V} {a : Addr} (h : Fp (γ.set i x) (σ.set i v) j a) : (j = i ∧ Fx x v a) ∨ (j ≠ i ∧ Fp γ σ j a) := by
  obtain ⟨y, w, h1, h2, h3⟩ := h
  rcases set_get h1 with ⟨rfl, rfl, _⟩ | ⟨nj, e⟩
  · rcases set_get h2 with ⟨_, rfl, _⟩ | ⟨nj, _⟩
    · exact .inl ⟨rfl, h3⟩
    · exact absurd rfl nj
  · rcases set_get h2 with ⟨e2, _, _⟩ | ⟨_, e2⟩
    · exact absurd e2 nj
    · exact .inr ⟨nj, y, w, e, e2, h3⟩
section
variable {R : Hp → Hp → Prop} [Rel R] {K : PySem.W.Frag} {H0 H H' : Hp} {S0 : Addr → Prop} {γ : List Sl} {σ : L2.St}
theorem SI.dat (s : SI R K H0 S0 γ σ H) (i : Nat) (d : D) (h : γ[i]? = some (.dat d)) : ∃ v, σ[i]? = some (some v) ∧ Dt K (off (Sx S0 γ σ) H) v d := by
  obtain ⟨v, e, u, rfl, h⟩ := s.ok i _ h
  exact ⟨u, e, h⟩
theorem SI.val (s : SI R K H0 S0 γ σ H) (i : Nat) (v : V) (h : γ[i]? = some (.val v)) : σ[i]? = some (some v) := by
  obtain ⟨u, e, h⟩ := s.ok i _ h
  rw [e, show u = some v from h]
theorem SI.own (s : SI R K H0 S0 γ σ H) (i : Nat) (ds : List D) (h : γ[i]? = some (.own (.l ds))) : ∃ l vs, σ[i]? = some (some (.ref l)) ∧ H0 l = none ∧ H l = some (.lst vs) ∧ DtAll K (off (Sx S0 γ σ) H) vs ds := by
  obtain ⟨v, e, l, vs, rfl, h1, h2⟩ := s.ok i _ h
  exact ⟨l, vs, e, (s.fp i l ⟨_, _, h, e, rfl⟩).1, h1, h2⟩
theorem SI.box (s : SI R K H0 S0 γ σ H) (i : Nat) {B : Bx} {fs : List Addr} (h : γ[i]? = some (.own (.b B fs))) : ∃ v, σ[i]? = some (some v) ∧ B.at_ K v fs H (off (Sx S0 γ σ) H) ∧ ∀ a ∈ fs, H0 a = none ∧ NT H a := by
  obtain ⟨v, e, u, rfl, h1⟩ := s.ok i _ h
  exact ⟨u, e, h1, fun a ha => s.fp i a ⟨_, _, h, e, ha⟩⟩
/-- the heap as it is -/
theorem SI.ref (s : SI R K H0 S0 γ σ H) : R H H := Rel.ends s.rel
theorem SI.mono (s : SI R K H0 S0 γ σ H) (r : R H H') : SI R K H0 S0 γ σ H' where
  rel := Rel.trans s.rel r
  dom := s.dom
  len := s.len
  ok := fun i x h => by
    obtain ⟨v, e, h1⟩ := s.ok i x h
    exact ⟨v, e, h1.keep (fun a f => (s.fp i a ⟨x, v, h, e, f⟩).2.keep (Rel.keep r)) (off_keep (Rel.keep r) fun _ z => z)⟩
  fp := fun i a h => ⟨(s.fp i a h).1, (s.fp i a h).2.mono (Rel.keep r)⟩
  inj := s.inj
theorem SI.there (s : SI R K H0 S0 γ σ H) {a : Addr} (h : Sx S0 γ σ a) : H a ≠ none := by
  rcases h with h | ⟨i, h⟩
  · exact Rel.dom s.rel (s.dom a h)
  · exact (s.fp i a h).2.there
/-- a slot is set -/
theorem SI.updS (s : SI R K H0 S0 γ σ H) (i : Nat) (v : Option V) (x : Sl) (rel : R H0 H') (f0 : ∀ a, Fx x v a → H0 a = none ∧ NT H' a ∧ ∀ j, j ≠ i → ¬ Fp γ σ j a) (oth : ∀ j a, j ≠ i → Fp γ σ j a → H' a = H a)
    (kp : Keep (off (Sx S0 γ σ) H) (off (Sx S0 (γ.set i x) (σ.set i v)) H')) (new : Okx K x v H' (off (Sx S0 (γ.set i x) (σ.set i v)) H')) : SI R K H0 S0 (γ.set i x) (σ.set i v) H' where
  rel := rel
  dom := s.dom
  len := by rw [List.length_set, List.length_set]; exact s.len
  ok := fun j y h => by
    rcases set_get h with ⟨rfl, rfl, hl⟩ | ⟨nj, e⟩
    · exact ⟨v, by rw [List.getElem?_set_self (by rw [s.len]; exact hl)], new⟩
    · obtain ⟨u, e1, h1⟩ := s.ok j y e
      refine ⟨u, by rw [List.getElem?_set_ne (fun z => nj z.symm)]; exact e1, h1.keep (fun a f => oth j a nj ⟨y, u, e, e1, f⟩) kp⟩
  fp := fun j a h => by
    rcases fp_set h with ⟨_, f⟩ | ⟨nj, f⟩
    · exact ⟨(f0 a f).1, (f0 a f).2.1⟩
    · obtain ⟨q1, o, q2, q3⟩ := s.fp j a f
      exact ⟨q1, o, by rw [oth j a nj f]; exact q2, q3⟩
  inj := fun j k a h1 h2 => by
    rcases fp_set h1 with ⟨e1, f1⟩ | ⟨n1, f1⟩
    · rcases fp_set h2 with ⟨e2, f2⟩ | ⟨n2, f2⟩
      · rw [e1, e2]
      · exact absurd f2 ((f0 a f1).2.2 k n2)
    · rcases fp_set h2 with ⟨e2, f2⟩ | ⟨n2, f2⟩
      · exact absurd f1 ((f0 a f2).2.2 j n1)
      · exact s.inj j k a f1 f2
theorem sx_set {i : Nat} {x : Sl} {v : Option V} (h : ∀ a, Fx x v a → Sx S0 γ σ a) : ∀ a, Sx S0 (γ.set i x) (σ.set i v) a → Sx S0 γ σ a := fun a z => by
  rcases z with z | ⟨j, z⟩
  · exact .inl z
  · rcases fp_set z with ⟨_, f⟩ | ⟨_, f⟩
    · exact h a f
    · exact .inr ⟨j, f⟩
theorem sx_dat {i : Nat} {d : D} {v : Option V} : ∀ a, Sx S0 (γ.set i (.dat d)) (σ.set i v) a → Sx S0 γ σ a := sx_set (x := .dat d) fun _ f => False.elim f
theorem sx_no {i : Nat} {v : Option V} : ∀ a, Sx S0 (γ.set i .no) (σ.set i v) a → Sx S0 γ σ a := sx_set (x := .no) fun _ f => False.elim f
/-- a slot is set to something that is not a thing of one's own -/
theorem SI.put (s : SI R K H0 S0 γ σ H) (i : Nat) (v : Option V) (x : Sl) (hx : ∀ a, ¬ Fx x v a) (hd : Okx K x v H (off (Sx S0 γ σ) H)) : SI R K H0 S0 (γ.set i x) (σ.set i v) H := by
  have kp : Keep (off (Sx S0 γ σ) H) (off (Sx S0 (γ.set i x) (σ.set i v)) H) := off_keep (Keep.refl H) (sx_set fun a f => absurd f (hx a))
  exact s.updS i v x s.rel (fun a f => absurd f (hx a)) (fun _ _ _ _ => rfl) kp (hd.keep (fun _ _ => rfl) kp)
theorem SI.putD (s : SI R K H0 S0 γ σ H) (i : Nat) {v : V} {d : D} (h : Dt K (off (Sx S0 γ σ) H) v d) : SI R K H0 S0 (γ.set i (.dat d)) (σ.set i (some v)) H :=
  s.put i (some v) (.dat d) (fun _ z => z) ⟨v, rfl, h⟩
theorem SI.putV (s : SI R K H0 S0 γ σ H) (i : Nat) {v : V} : SI R K H0 S0 (γ.set i (.val v)) (σ.set i (some v)) H :=
  s.put i (some v) (.val v) (fun _ z => z) rfl
theorem SI.putN (s : SI R K H0 S0 γ σ H) (i : Nat) {v : Option V} : SI R K H0 S0 (γ.set i .no) (σ.set i v) H :=
  s.put i v .no (fun _ z => z) trivial
/-- a new thing of one's own -/
theorem SI.putB (s : SI R K H0 S0 γ σ H) (i : Nat) {v : Option V} {o : Ow} (r : R H H') (hn : ∀ a, Fx (.own o) v a → H a = none ∧ NT H' a) (hd : Okx K (.own o) v H' (off (fun a => Fx (.own o) v a ∨ Sx S0 γ σ a) H')) : SI R K H0 S0 (γ.set i (.own o)) (σ.set i v) H' := by
  have s' := s.mono r
  have sub : ∀ a, Sx S0 (γ.set i (.own o)) (σ.set i v) a → Fx (.own o) v a ∨ Sx S0 γ σ a := fun a z => by
    rcases z with z | ⟨j, z⟩
    · exact .inr (.inl z)
    · rcases fp_set z with ⟨_, f⟩ | ⟨_, f⟩
      · exact .inl f
      · exact .inr (.inr ⟨j, f⟩)
  refine s.updS i v (.own o) s'.rel (fun a f => ⟨Rel.free s.rel (hn a f).1, (hn a f).2, fun j _ z => (s.fp j a z).2.there (hn a f).1⟩) (fun j a _ f => (s.fp j a f).2.keep (Rel.keep r)) (fun a u e n => ?_) (hd.keep (fun _ _ => rfl) (off_keep (Keep.refl H') sub))
  obtain ⟨h1, h2⟩ := off_some e
  refine off_of (fun z => ?_) (Rel.keep r a u h2 n)
  rcases sub a z with f | z
  · rw [(hn a f).1] at h2; cases h2
  · exact h1 z
/-- a new list of one's own -/
theorem SI.putO (s : SI R K H0 S0 γ σ H) (i : Nat) {p : Addr} {vs : List V} {ds : List D} (r : R H H') (hn : H p = none) (hp : H' p = some (.lst vs)) (hd : DtAll K (off (fun a => a = p ∨ Sx S0 γ σ a) H') vs ds) : SI R K H0 S0 (γ.set i (.own (.l ds))) (σ.set i (some (.ref p))) H' := by
  refine s.putB i r (fun a f => ?_) ⟨p, vs, rfl, hp, dps_keep (off_keep (Keep.refl H') fun a z => ?_) _ _ hd⟩
  · have e : some (V.ref p) = some (V.ref a) := f
    injection e with e
    injection e with e
    subst e
    exact ⟨hn, NT.lst hp⟩
  · rcases z with f | z
    · have e : some (V.ref p) = some (V.ref a) := f
      injection e with e
      injection e with e
      exact .inl e.symm
    · exact .inr z
/-- a thing of one's own is changed, at one address of its own -/
theorem SI.mutB (s : SI R K H0 S0 γ σ H) {i : Nat} {v : Option V} {x : Sl} {o : Ow} {l : Addr} {u : HO} (hi : γ[i]? = some x) (hv : σ[i]? = some v) (hl : Fx x v l) (hu : MutO u) (hx : ∀ a, Fx (.own o) v a ↔ Fx x v a)
    (hw : Okx K (.own o) v (upd H l u) (off (Sx S0 γ σ) (upd H l u))) : SI R K H0 S0 (γ.set i (.own o)) σ (upd H l u) := by
  have hσ : σ.set i v = σ := by
    have hlt := (List.getElem?_eq_some_iff.mp hv).1
    have e := (List.getElem?_eq_some_iff.mp hv).2
    rw [← e]
    exact List.set_getElem_self hlt
  have fl : Fp γ σ i l := ⟨x, v, hi, hv, hl⟩
  obtain ⟨q1, q2⟩ := s.fp i l fl
  have sub : ∀ a, Sx S0 (γ.set i (.own o)) (σ.set i v) a → Sx S0 γ σ a := sx_set fun a f => .inr ⟨i, x, v, hi, hv, (hx a).mp f⟩
  have t := s.updS (H' := L2.upd H l u) i v (.own o) (Rel.chg s.rel q1 q2 hu) (fun a f => ?_) (fun j a nj f => ?_) (fun a w e n => ?_) (hw.keep (fun _ _ => rfl) (off_keep (Keep.refl _) sub))
  · rw [hσ] at t
    exact t
  · have f' : Fp γ σ i a := ⟨x, v, hi, hv, (hx a).mp f⟩
    refine ⟨(s.fp i a f').1, ?_, fun j nj z => nj (s.inj j i a z f')⟩
    by_cases ha : a = l
    · subst ha
      exact ⟨u, upd_same, hu⟩
    · obtain ⟨w, w1, w2⟩ := (s.fp i a f').2
      exact ⟨w, by rw [upd_ne ha]; exact w1, w2⟩
  · have ha : a ≠ l := fun z => nj (s.inj j i a f (z ▸ fl))
    rw [upd_ne ha]
  · obtain ⟨h1, h2⟩ := off_some e
    refine off_of (fun z => h1 (sub a z)) ?_
    rw [upd_ne (fun (z : a = l) => h1 (.inr ⟨i, z ▸ fl⟩))]
    exact h2
/-- a list of one's own is changed -/
theorem SI.mutO (s : SI R K H0 S0 γ σ H) {i : Nat} {l : Addr} {ds es : List D} {ws : List V} (hi : γ[i]? = some (.own (.l ds))) (hl : σ[i]? = some (some (.ref l))) (hw : DtAll K (off (Sx S0 γ σ) H) ws es) : SI R K H0 S0 (γ.set i (.own (.l es))) σ (L2.upd H l (.lst ws)) := by
  refine s.mutB hi hl rfl trivial (fun _ => Iff.rfl) ⟨l, ws, rfl, upd_same, dps_keep (fun a o e n => ?_) _ _ hw⟩
  obtain ⟨h1, h2⟩ := off_some e
  refine off_of h1 ?_
  rw [upd_ne (fun z => h1 (.inr ⟨i, _, _, hi, hl, by rw [z]; rfl⟩))]
  exact h2
/-- a list of one's own is handed on: from now on it is data -/
theorem SI.freeze (s : SI R K H0 S0 γ σ H) {i : Nat} {ds : List D} (hi : γ[i]? = some (.own (.l ds))) : SI R K H0 S0 (γ.set i (.dat (.list ds))) σ H := by
  obtain ⟨l, vs, e1, h0, e3, e4⟩ := s.own i ds hi
  have hσ : σ.set i (some (.ref l)) = σ := by
    have hlt := (List.getElem?_eq_some_iff.mp e1).1
    have e := (List.getElem?_eq_some_iff.mp e1).2
    rw [← e]
    exact List.set_getElem_self hlt
  have sub : ∀ a, Sx S0 (γ.set i (.dat (.list ds))) (σ.set i (some (.ref l))) a → Sx S0 γ σ a := sx_set fun a f => False.elim f
  have kp : Keep (off (Sx S0 γ σ) H) (off (Sx S0 (γ.set i (.dat (.list ds))) (σ.set i (some (.ref l)))) H) := off_keep (Keep.refl H) sub
  have nl : ¬ Sx S0 (γ.set i (.dat (.list ds))) (σ.set i (some (.ref l))) l := fun z => by
    rcases z with z | ⟨j, z⟩
    · exact s.dom l z h0
    · rcases fp_set z with ⟨_, f⟩ | ⟨nj, f⟩
      · exact f
      · exact nj (s.inj j i l f ⟨_, _, hi, e1, rfl⟩)
  have t := s.updS i (some (.ref l)) (.dat (.list ds)) s.rel (fun a f => False.elim f) (fun _ _ _ _ => rfl) kp ⟨_, rfl, .lst (.inl (off_of nl e3)) (dps_keep kp _ _ e4)⟩
  rw [hσ] at t
  exact t
/-- a thing of one's own is left as it is from now on -/
theorem SI.freezeB (s : SI R K H0 S0 γ σ H) {i : Nat} {B : Bx} {fs : List Addr} {F : Fix} (hi : γ[i]? = some (.own (.b B fs))) (h : ∀ v Hd Hd', B.at_ K v fs H Hd → (∀ a ∈ fs, Hd' a = H a) → Keep Hd Hd' → F.at_ K v Hd') : SI R K H0 S0 (γ.set i (.fix F)) σ H := by
  obtain ⟨v, e1, h1, h2⟩ := s.box i hi
  have hσ : σ.set i (some v) = σ := by
    have hlt := (List.getElem?_eq_some_iff.mp e1).1
    have e := (List.getElem?_eq_some_iff.mp e1).2
    rw [← e]
    exact List.set_getElem_self hlt
  have sub : ∀ a, Sx S0 (γ.set i (.fix F)) (σ.set i (some v)) a → Sx S0 γ σ a := sx_set fun a f => False.elim f
  have kp : Keep (off (Sx S0 γ σ) H) (off (Sx S0 (γ.set i (.fix F)) (σ.set i (some v))) H) := off_keep (Keep.refl H) sub
  have nl : ∀ l ∈ fs, ¬ Sx S0 (γ.set i (.fix F)) (σ.set i (some v)) l := fun l hl z => by
    rcases z with z | ⟨j, z⟩
    · exact s.dom l z (h2 l hl).1
    · rcases fp_set z with ⟨_, f⟩ | ⟨nj, f⟩
      · exact f
      · exact nj (s.inj j i l f ⟨_, _, hi, e1, hl⟩)
  have t := s.updS i (some v) (.fix F) s.rel (fun a f => False.elim f) (fun _ _ _ _ => rfl) kp ⟨v, rfl, h v _ _ h1 (fun a ha => by
    unfold off
    rw [if_neg (nl a ha)]) kp⟩
  rw [hσ] at t
  exact t
theorem SI.fix (s : SI R K H0 S0 γ σ H) (i : Nat) {F : Fix} (h : γ[i]? = some (.fix F)) : ∃ v, σ[i]? = some (some v) ∧ F.at_ K v (off (Sx S0 γ σ) H) := by
  obtain ⟨v, e, u, rfl, h⟩ := s.ok i _ h
  exact ⟨u, e, h⟩
end
end An

/-! Expressions: what they come to. -/
namespace An
open PySem PySem.Spec PyProof.Rows L2
/-- e comes to a value that is the data d -/
def EE (R : Hp → Hp → Prop) (X : Cx) (γ : List Sl) (e : Expr) (d : D) : Prop :=
  ∀ (H0 : Hp) (S0 : Addr → Prop) (σ : L2.St) (H : Hp) (Q : VK), SI R X.K H0 S0 γ σ H → (∀ v H2, R H H2 → Dt X.K (off (Sx S0 γ σ) H2) v d → Q v H2) → we X e σ H Q
/-- e comes to a new list of ds -/
def EF (R : Hp → Hp → Prop) (X : Cx) (γ : List Sl) (e : Expr) (ds : List D) : Prop :=
  ∀ (H0 : Hp) (S0 : Addr → Prop) (σ : L2.St) (H : Hp) (Q : VK), SI R X.K H0 S0 γ σ H → (∀ p vs H2, H p = none → R H H2 → H2 p = some (.lst vs) → DtAll X.K (off (fun a => a = p ∨ Sx S0 γ σ a) H2) vs ds → Q (.ref p) H2) → we X e σ H Q
/-- e comes to the value v -/
def EV (R : Hp → Hp → Prop) (X : Cx) (γ : List Sl) (e : Expr) (v : V) : Prop :=
  ∀ (H0 : Hp) (S0 : Addr → Prop) (σ : L2.St) (H : Hp) (Q : VK), SI R X.K H0 S0 γ σ H → (∀ H2, R H H2 → Q v H2) → we X e σ H Q
def ET (R : Hp → Hp → Prop) (X : Cx) (γ : List Sl) (e : Expr) (b : Bool) : Prop :=
  ∀ (H0 : Hp) (S0 : Addr → Prop) (σ : L2.St) (H : Hp) (Q : Bool → Hp → Prop), SI R X.K H0 S0 γ σ H → (∀ H2, R H H2 → Q b H2) → wt X e σ H Q
def EW (R : Hp → Hp → Prop) (X : Cx) (γ : List Sl) (e : Expr) (b : Bool) : Prop :=
  ∀ (H0 : Hp) (S0 : Addr → Prop) (σ : L2.St) (H : Hp) (Q : Bool → Hp → Prop), SI R X.K H0 S0 γ σ H → (∀ H2, R H H2 → Q b H2) → ww X e σ H Q
def EA (R : Hp → Hp → Prop) (X : Cx) (γ : List Sl) (es : List Expr) (ds : List D) : Prop :=
  ∀ (H0 : Hp) (S0 : Addr → Prop) (σ : L2.St) (H : Hp) (Q : List V → Hp → Prop), SI R X.K H0 S0 γ σ H → (∀ vs H2, R H H2 → DtAll X.K (off (Sx S0 γ σ) H2) vs ds → Q vs H2) → wa X es σ H Q
section
variable {R : Hp → Hp → Prop} [Rel R] {X : Cx} {γ : List Sl} {pos : Pos}
theorem dt_up {K : PySem.W.Frag} {S : Addr → Prop} {H H' : Hp} {v : V} {d : D} (r : R H H') (h : Dt K (off S H) v d) : Dt K (off S H') v d := dp_keep (off_keep (Rel.keep r) fun _ z => z) _ _ h
theorem dts_up {K : PySem.W.Frag} {S : Addr → Prop} {H H' : Hp} {v : List V} {d : List D} (r : R H H') (h : DtAll K (off S H) v d) : DtAll K (off S H') v d := dps_keep (off_keep (Rel.keep r) fun _ z => z) _ _ h
theorem dt_in {K : PySem.W.Frag} {S : Addr → Prop} {H : Hp} {v : V} {d : D} (h : Dt K (off S H) v d) : Dt K H v d := dp_keep off_in _ _ h
theorem dts_in {K : PySem.W.Frag} {S : Addr → Prop} {H : Hp} {v : List V} {d : List D} (h : DtAll K (off S H) v d) : DtAll K H v d := dps_keep off_in _ _ h
theorem dt_new {K : PySem.W.Frag} {S : Addr → Prop} {H : Hp} {p : Addr} {o : HO} {v : V} {d : D} (n : H p = none) (h : Dt K (off S H) v d) : Dt K (off S (upd H p o)) v d := dp_keep (off_keep (Keep.of (same_new n)) fun _ z => z) _ _ h
theorem dts_new {K : PySem.W.Frag} {S : Addr → Prop} {H : Hp} {p : Addr} {o : HO} {v : List V} {d : List D} (n : H p = none) (h : DtAll K (off S H) v d) : DtAll K (off S (upd H p o)) v d := dps_keep (off_keep (Keep.of (same_new n)) fun _ z => z) _ _ h
/-- data that was there ahead of a new object doesn't hold it -/
theorem dts_newO {K : PySem.W.Frag} {S : Addr → Prop} {H : Hp} {p : Addr} {o : HO} {v : List V} {d : List D} (n : H p = none) (h : DtAll K (off S H) v d) : DtAll K (off (fun a => a = p ∨ S a) (upd H p o)) v d := by
  refine dps_keep (fun a u e z => ?_) _ _ h
  obtain ⟨h1, h2⟩ := off_some e
  have na : a ≠ p := ne_of_none h2 n
  refine off_of (fun q => ?_) ?_
  · rcases q with q | q
    · exact na q
    · exact h1 q
  · rw [upd_ne na]
    exact h2
theorem ee_is {e : Expr} {d d' : D} (h : EE R X γ e d) (q : d = d') : EE R X γ e d' := by
  rw [← q]
  exact h
theorem ef_ee {e : Expr} {ds : List D} (h : EF R X γ e ds) : EE R X γ e (.list ds) := fun H0 S0 σ H Q s k => h H0 S0 σ H Q s fun p vs H2 n r hp hd => by
  refine k (.ref p) H2 r (.lst (.inl (off_of (fun z => ?_) hp)) (dps_keep (off_keep (Keep.refl H2) fun a z => .inr z) _ _ hd))
  exact s.there z n
theorem ef_is {e : Expr} {ds ds' : List D} (h : EF R X γ e ds) (q : ds = ds') : EF R X γ e ds' := by
  rw [← q]
  exact h
/-! ### names, constants -/
theorem ee_var (i : Nat) {x : Str} {d : D} (h : γ[i]? = some (.dat d) := by rfl) (hN : X.N[i]? = some x := by rfl) (hv : Vis X.env.scope x := by first | exact Or.inl rfl | exact Or.inr (Or.inl rfl) | exact Or.inr (Or.inr rfl))
    (hd : (x == ("__debug__" : Str)) = false := by decide) (hcd : (x == ("__classdict__" : Str)) = false := by decide) : EE R X γ (.Name x pos) d := fun H0 S0 σ H Q s k => by
  obtain ⟨v, h1, h2⟩ := s.dat i d h
  exact we_of (pe_var hN hv hd hcd) ⟨v, h1, k v H (s.ref) h2⟩
theorem ev_var (i : Nat) {x : Str} {v : V} (h : γ[i]? = some (.val v) := by rfl) (hN : X.N[i]? = some x := by rfl) (hv : Vis X.env.scope x := by first | exact Or.inl rfl | exact Or.inr (Or.inl rfl) | exact Or.inr (Or.inr rfl))
    (hd : (x == ("__debug__" : Str)) = false := by decide) (hcd : (x == ("__classdict__" : Str)) = false := by decide) : EV R X γ (.Name x pos) v := fun H0 S0 σ H Q s k =>
  we_of (pe_var hN hv hd hcd) ⟨v, s.val i v h, k H (s.ref)⟩
theorem ee_int {i : Int} {j : Nat} : EE R X γ (.Constant (.int i) j pos) (.int i) := fun _ _ _ H Q s k => we_of pe_int (k _ H (s.ref) (.int i))
theorem ee_bl {b : Bool} {j : Nat} : EE R X γ (.Constant (.bool b) j pos) (.bool b) := fun _ _ _ H Q s k => we_of pe_bl (k _ H (s.ref) (.bl b))
theorem ee_non {j : Nat} : EE R X γ (.Constant .none j pos) .none := fun _ _ _ H Q s k => we_of pe_non (k _ H (s.ref) .non)
theorem ee_str {x : Str} {j : Nat} : EE R X γ (.Constant (.str x) j pos) (.str x) := fun _ _ _ H Q s k => we_of pe_str (k _ H (s.ref) (.str x))
/-- a module's constant: d at every heap -/
def KD (K : PySem.W.Frag) (mg : Str → Option Value) (x : Str) (d : D) : Prop := ∃ (v : V) (u : Value), mg x = some u ∧ RelV v u ∧ ∀ H : Hp, Dt K H v d
theorem ee_glob {x : Str} {d : D} (c : KD X.K X.mg x d) (hg : Gl X x := by rfl) (hd : (x == ("__debug__" : Str)) = false := by decide) : EE R X γ (.Name x pos) d := fun _ _ _ H Q s k => by
  obtain ⟨v, u, h1, h2, h3⟩ := c
  exact we_of (pe_glob hg h1 h2 hd) (k _ H (s.ref) (h3 _))
theorem ev_glob {x : Str} {v : V} {u : Value} (hm : X.mg x = some u) (r : RelV v u) (hg : Gl X x := by rfl) (hd : (x == ("__debug__" : Str)) = false := by decide) : EV R X γ (.Name x pos) v := fun _ _ _ H Q s k =>
  we_of (pe_glob hg hm r hd) (k H (s.ref))
theorem ev_bltn {x : Str} {v : V} {u : Value} (hm : X.mg x = none) (hv : bootBuiltins x = some u) (r : RelV v u) (hg : Gl X x := by rfl) (hn : x ≠ "__name__" := by decide) (hd : (x == ("__debug__" : Str)) = false := by decide) : EV R X γ (.Name x pos) v := fun _ _ _ H Q s k =>
  we_of (pe_bltn hg hm hv r hn hd) (k H (s.ref))
/-! ### argument lists, displays -/
theorem ea_nil : EA R X γ [] [] := fun _ _ _ H Q s k => wa_of pa_nil (k [] H (s.ref) .nil)
theorem ea_cons {e : Expr} {es : List Expr} {d : D} {ds : List D} (h : EE R X γ e d) (t : EA R X γ es ds) (hs : starEach (e :: es) X.env = (false, eval e X.env) :: starEach es X.env := by rfl) : EA R X γ (e :: es) (d :: ds) := fun H0 S0 σ H Q s k =>
  wa_of (pa_cons pe_we pa_wa hs) (h H0 S0 σ H _ s fun v H1 r1 d1 => t H0 S0 σ H1 _ (s.mono r1) fun vs H2 r2 d2 => k (v :: vs) H2 (Rel.trans r1 r2) (.cons (dt_up r2 d1) d2))
theorem ee_tup {es : List Expr} {x1} {ds : List D} (h : EA R X γ es ds) (hl : ds.length ≤ 1000 := by exact Nat.le_of_ble_eq_true rfl) : EE R X γ (.Tuple es x1 pos) (.tuple ds) := fun H0 S0 σ H Q s k =>
  we_of (pe_tup pa_wa) (h H0 S0 σ H _ s fun vs H1 r1 d1 => ⟨by rw [dps_len d1]; exact Nat.le_of_lt (small1000 hl), fun p n => by
    have sd := s.mono r1
    refine k (.ref p) _ (Rel.more r1 (same_new n)) (.tup (.inl (.inl (off_of (fun z => sd.there z n) upd_same))) (dts_new n d1))⟩)
theorem ef_lst {es : List Expr} {ds : List D} (h : EA R X γ es ds) (hl : ds.length ≤ 1000 := by exact Nat.le_of_ble_eq_true rfl) : EF R X γ (.List es pos) ds := fun H0 S0 σ H Q s k =>
  we_of (pe_lst pa_wa) (h H0 S0 σ H _ s fun vs H1 r1 d1 => ⟨by rw [dps_len d1]; exact Nat.le_of_lt (small1000 hl), fun p n =>
    k p vs _ (Rel.free r1 n) (Rel.more r1 (same_new n)) upd_same (dts_newO n d1)⟩)
theorem ee_lst {es : List Expr} {ds : List D} (h : EA R X γ es ds) (hl : ds.length ≤ 1000 := by exact Nat.le_of_ble_eq_true rfl) : EE R X γ (.List es pos) (.list ds) := ef_ee (ef_lst h hl)
/-! ### operators on data -/
/-- an operator, by data: what comes is no new object -/
def OpD (X : Cx) (f : Value → Value → Sem Value) (a b c : D) : Prop := ∃ r : R2, OpR X f r ∧ ∀ (H : Hp) (x y : V) (Q : VK), Dt X.K H x a → Dt X.K H y b → (∀ z, (∀ H', Dt X.K H' z c) → Q z H) → r x y H Q
theorem ee_op {a b : Expr} {op : Operator} {x y z : D} (ha : EE R X γ a x) (hb : EE R X γ b y) (ho : OpD X (binaryOp op) x y z) : EE R X γ (.BinOp a op b pos) z := fun H0 S0 σ H Q s k => by
  obtain ⟨r, h1, h2⟩ := ho
  exact we_of (pe_op h1 pe_we pe_we) (ha H0 S0 σ H _ s fun v H1 r1 d1 => hb H0 S0 σ H1 _ (s.mono r1) fun u H2 r2 d2 => h2 H2 v u Q (dt_in (dt_up r2 d1)) (dt_in d2) fun z q => k z H2 (Rel.trans r1 r2) (q _))
theorem ee_cmp {a b : Expr} {op : CmpOp} {x y z : D} (ha : EE R X γ a x) (hb : EE R X γ b y) (ho : OpD X (compareOp op) x y z) (hm : behindInMarks op b = false) : EE R X γ (.Compare a [op] [b] pos) z := fun H0 S0 σ H Q s k => by
  obtain ⟨r, h1, h2⟩ := ho
  exact we_of (pe_cmpR h1 pe_we pe_we hm) (ha H0 S0 σ H _ s fun v H1 r1 d1 => hb H0 S0 σ H1 _ (s.mono r1) fun u H2 r2 d2 => h2 H2 v u Q (dt_in (dt_up r2 d1)) (dt_in d2) fun z q => k z H2 (Rel.trans r1 r2) (q _))
theorem et_cmp {a b : Expr} {op : CmpOp} {x y : D} {c : Bool} (ha : EE R X γ a x) (hb : EE R X γ b y) (ho : OpD X (compareOp op) x y (.bool c)) (hm : behindInMarks op b = false) : ET R X γ (.Compare a [op] [b] pos) c := fun H0 S0 σ H Q s k => by
  obtain ⟨r, h1, h2⟩ := ho
  exact wt_of (pt_cmpR h1 pe_we pe_we hm) (ha H0 S0 σ H _ s fun v H1 r1 d1 => hb H0 S0 σ H1 _ (s.mono r1) fun u H2 r2 d2 => h2 H2 v u _ (dt_in (dt_up r2 d1)) (dt_in d2) fun z q => by
    have e := q H2
    cases e
    exact ⟨c, rfl, k H2 (Rel.trans r1 r2)⟩)
theorem opd_I0 {f : Value → Value → Sem Value} {g : Int → Int → V} {i j : Int} {c : D} (h : OpR X f (rI0 g)) (hc : ∀ H, Dt X.K H (g i j) c) : OpD X f (.int i) (.int j) c := ⟨_, h, fun H x y Q hx hy k => by
  cases hx
  cases hy
  exact ⟨i, j, rfl, rfl, k _ hc⟩⟩
theorem opd_I {f : Value → Value → Sem Value} {C : Int → Int → Prop} {g : Int → Int → V} {i j : Int} {c : D} (h : OpR X f (rI C g)) (hC : C i j) (hc : ∀ H, Dt X.K H (g i j) c) : OpD X f (.int i) (.int j) c := ⟨_, h, fun H x y Q hx hy k => by
  cases hx
  cases hy
  exact ⟨i, j, rfl, rfl, hC, k _ hc⟩⟩
theorem od_add {i j : Int} : OpD X (binaryOp .Add) (.int i) (.int j) (.int (i + j)) := opd_I0 op_add fun _ => .int _
theorem od_sub {i j : Int} : OpD X (binaryOp .Sub) (.int i) (.int j) (.int (i - j)) := opd_I0 op_sub fun _ => .int _
theorem od_mul {i j : Int} (h : CMulX i j) : OpD X (binaryOp .Mult) (.int i) (.int j) (.int (i * j)) := opd_I op_mulX h fun _ => .int _
theorem od_mod {i j : Int} (h : 0 < j) : OpD X (binaryOp .Mod) (.int i) (.int j) (.int (i % j)) := opd_I op_mod h fun _ => .int _
theorem od_lt {i j : Int} : OpD X (compareOp .Lt) (.int i) (.int j) (.bool (decide (i < j))) := opd_I0 op_lt fun _ => .bl _
theorem od_le {i j : Int} : OpD X (compareOp .LtE) (.int i) (.int j) (.bool (decide (i ≤ j))) := opd_I0 op_le fun _ => .bl _
theorem od_gt {i j : Int} : OpD X (compareOp .Gt) (.int i) (.int j) (.bool (decide (j < i))) := opd_I0 op_gt fun _ => .bl _
theorem od_ge {i j : Int} : OpD X (compareOp .GtE) (.int i) (.int j) (.bool (decide (j ≤ i))) := opd_I0 op_ge fun _ => .bl _
/-- what a body's context has besides: no one looks at a great division -/
structure Gx (X : Cx) (k : Nat) : Prop where
  room : Room k X.A
  big : 40 ≤ k
  ns : X.base.NoSeer
  tree : X.prog.given.tree = none
  stk : ∃ env l, X.stack = env :: l ∧ env.scope.isGenerator = false ∧ env.scope.isCoroutine = false ∧ env.builtins = builtinsNs ∧ env.globals = mainGlobals
theorem Gx.blk {k : Nat} (g : Gx X k) {s : Shared} {H : Hp} {scope : Scope} {cenv : Env} {fp : List Addr} : Gx (X.blk s H scope cenv fp) k := ⟨g.room, g.big, g.ns, g.tree, g.stk⟩
theorem Gx.pylong {k : Nat} (g : Gx X k) {pins : List (Addr × Obj)} {σ : L2.St} {H : Hp} {s : Shared} (I : Inv X pins σ H s) : PySem.PylongRoom (model X.prog X.w) X.A s := by
  obtain ⟨env, l, e, h1, h2, h3, h4⟩ := g.stk
  refine PySem.PylongRoom.of I.nolimit ?_ (PySem.SeerAt.of (env := env) (l := l) (g.ns.keeps I.bk) g.tree (by rw [I.ok.frames, e]) h1 h2 h3 h4)
  have h5 := g.room.dp
  have h6 := g.big
  show X.A.depth + 100 < recursionLimit
  omega
/-- // by a positive number of any size -/
theorem op_fdivR {k : Nat} (g : Gx X k) : OpR X (binaryOp .FloorDiv) (rI (fun _ j => 0 < j) fun i j => .int (i / j)) := by
  intro pins s σ H x y v u Q I rx ry h
  obtain ⟨i, j, rfl, rfl, hj, q⟩ := h
  have hj' : 0 < j := hj
  obtain ⟨t, rfl⟩ := rx
  obtain ⟨t', rfl⟩ := ry
  refine floordiv_int (by omega) ?_ (.inr (g.pylong I))
  rw [Int.fdiv_eq_ediv_of_nonneg i (by omega)]
  exact ⟨.int (i / j), H, I.tok _, ⟨_, rfl⟩, q⟩
theorem od_fdiv {i j : Int} {k : Nat} (g : Gx X k) (h : 0 < j) : OpD X (binaryOp .FloorDiv) (.int i) (.int j) (.int (i / j)) := opd_I (op_fdivR g) h fun _ => .int _
theorem od_eq {a b : D} {k : Nat} (g : Gx X k) (ha : SeqAt.shaped a = true) (hb : SeqAt.shaped b = true) : OpD X (compareOp .Eq) a b (.bool (PyData.eqv a b)) := ⟨_, op_eqD g.room.units, fun H x y Q hx hy k => ⟨a, b, hx.dp (SeqAt.canLay_of_shaped ha), hy.dp (SeqAt.canLay_of_shaped hb), ha, hb, k _ fun _ => .bl _⟩⟩
theorem od_ne {a b : D} {k : Nat} (g : Gx X k) (ha : SeqAt.shaped a = true) (hb : SeqAt.shaped b = true) : OpD X (compareOp .NotEq) a b (.bool (!PyData.eqv a b)) := ⟨_, op_neD g.room.units, fun H x y Q hx hy k => ⟨a, b, hx.dp (SeqAt.canLay_of_shaped ha), hy.dp (SeqAt.canLay_of_shaped hb), ha, hb, k _ fun _ => .bl _⟩⟩
theorem od_isN {a : D} : OpD X (compareOp .Is) a .none (.bool (match a with | .none => true | _ => false)) := ⟨_, op_isN, fun H x y Q hx hy k => by
  cases hy
  refine ⟨rfl, ?_⟩
  cases hx with
  | non => exact k _ fun _ => .bl true
  | bl b => exact k _ fun _ => .bl false
  | int i => exact k _ fun _ => .bl false
  | str z => exact k _ fun _ => .bl false
  | lst h1 h2 => exact k _ fun _ => .bl false
  | tup h1 h2 => exact k _ fun _ => .bl false
  | dic h1 h2 h3 h4 => exact k _ fun _ => .bl false
  | obj h0 h1 h2 h3 h4 => exact k _ fun _ => .bl false⟩
theorem od_notN {a : D} : OpD X (compareOp .IsNot) a .none (.bool (match a with | .none => false | _ => true)) := ⟨_, op_notN, fun H x y Q hx hy k => by
  cases hy
  refine ⟨rfl, ?_⟩
  cases hx with
  | non => exact k _ fun _ => .bl false
  | bl b => exact k _ fun _ => .bl true
  | int i => exact k _ fun _ => .bl true
  | str z => exact k _ fun _ => .bl true
  | lst h1 h2 => exact k _ fun _ => .bl true
  | tup h1 h2 => exact k _ fun _ => .bl true
  | dic h1 h2 h3 h4 => exact k _ fun _ => .bl true
  | obj h0 h1 h2 h3 h4 => exact k _ fun _ => .bl true⟩
/-- -n, n written -/
theorem ee_neg {a : Expr} {i : Int} (ha : EE R X γ a (.int i)) : EE R X γ (.UnaryOp .USub a pos) (.int (-i)) := fun H0 S0 σ H Q s k =>
  we_of (pe_un un_neg pe_we) (ha H0 S0 σ H _ s fun v H1 r1 d1 => by
    cases d1
    exact ⟨i, rfl, k _ H1 r1 (.int _)⟩)
/-- a chain of two comparisons -/
theorem ee_chain {a b c : Expr} {op op' : CmpOp} {x y z : D} {p : Bool} {w : Bool} (ha : EE R X γ a x) (hb : EE R X γ b y) (hc : EE R X γ c z) (ho : OpD X (compareOp op) x y (.bool p)) (ho' : OpD X (compareOp op') y z (.bool w)) (hm : lastMarks [op, op'] [b, c] = false := by with_unfolding_all rfl) :
    EE R X γ (.Compare a [op, op'] [b, c] pos) (.bool (p && w)) := fun H0 S0 σ H Q s k => by
  obtain ⟨r, h1, h2⟩ := ho
  obtain ⟨r', h1', h2'⟩ := ho'
  refine we_of (pe_chain h1 h1' pe_we pe_we pe_we hm) (ha H0 S0 σ H _ s fun v H1 r1 d1 => hb H0 S0 σ H1 _ (s.mono r1) fun u H2 r2 d2 => h2 H2 v u _ (dt_in (dt_up r2 d1)) (dt_in d2) fun t q => ?_)
  have e := q H2
  cases e
  refine ⟨p, rfl, ?_⟩
  cases p with
  | true =>
    rw [if_pos rfl]
    refine hc H0 S0 σ H2 _ (s.mono (Rel.trans r1 r2)) fun v3 H3 r3 d3 => h2' H3 u v3 Q (dt_in (dt_up r3 d2)) (dt_in d3) fun t q => ?_
    have e := q H3
    cases e
    exact k _ H3 (Rel.trans (Rel.trans r1 r2) r3) (q _)
  | false =>
    rw [if_neg Bool.false_ne_true]
    exact k _ H2 (Rel.trans r1 r2) (.bl false)
/-- .. as a test -/
theorem et_chain {a b c : Expr} {op op' : CmpOp} {x y z : D} {p : Bool} {w : Bool} (ha : EE R X γ a x) (hb : EE R X γ b y) (hc : EE R X γ c z) (ho : OpD X (compareOp op) x y (.bool p)) (ho' : OpD X (compareOp op') y z (.bool w)) (hm : lastMarks [op, op'] [b, c] = false := by with_unfolding_all rfl) :
    ET R X γ (.Compare a [op, op'] [b, c] pos) (p && w) := fun H0 S0 σ H Q s k => by
  obtain ⟨r, h1, h2⟩ := ho
  obtain ⟨r', h1', h2'⟩ := ho'
  refine wt_of (pt_chain h1 h1' pe_we pe_we pe_we hm) (ha H0 S0 σ H _ s fun v H1 r1 d1 => hb H0 S0 σ H1 _ (s.mono r1) fun u H2 r2 d2 => h2 H2 v u _ (dt_in (dt_up r2 d1)) (dt_in d2) fun t q => ?_)
  have e := q H2
  cases e
  refine ⟨p, rfl, ?_⟩
  cases p with
  | true =>
    rw [if_pos rfl]
    refine hc H0 S0 σ H2 _ (s.mono (Rel.trans r1 r2)) fun v3 H3 r3 d3 => h2' H3 u v3 _ (dt_in (dt_up r3 d2)) (dt_in d3) fun t q => ?_
    have e := q H3
    cases e
    exact ⟨_, rfl, k H3 (Rel.trans (Rel.trans r1 r2) r3)⟩
  | false =>
    rw [if_neg Bool.false_ne_true]
    exact ⟨_, rfl, k H2 (Rel.trans r1 r2)⟩
/-! ### truth -/
theorem et_val {e : Expr} {b : Bool} (h : EE R X γ e (.bool b)) (he : ∀ whole, isTrue e X.env whole = (do let v ← whole; standAt e.pos; holding [v] (truthy v)) := by intro _; rfl) : ET R X γ e b := fun H0 S0 σ H Q s k =>
  wt_of (pt_val pe_we he) (h H0 S0 σ H _ s fun v H1 r1 d1 => by
    cases d1
    exact ⟨b, rfl, k H1 r1⟩)
theorem et_is {e : Expr} {b b' : Bool} (h : ET R X γ e b) (q : b = b') : ET R X γ e b' := by
  rw [← q]
  exact h
theorem ew_and1 {a : Expr} {b : Bool} (h : ET R X γ a b) : EW R X γ (.BoolOp .And [a] pos) b := fun H0 S0 σ H Q s k => ww_of (pw_and1 pt_wt) (h H0 S0 σ H _ s k)
theorem ew_or1 {a : Expr} {b : Bool} (h : ET R X γ a b) : EW R X γ (.BoolOp .Or [a] pos) b := fun H0 S0 σ H Q s k => ww_of (pw_or1 pt_wt) (h H0 S0 σ H _ s k)
theorem ew_and {a c : Expr} {rest : List Expr} {p q : Bool} (h : ET R X γ a p) (t : p = true → EW R X γ (.BoolOp .And (c :: rest) pos) q) : EW R X γ (.BoolOp .And (a :: c :: rest) pos) (p && q) := fun H0 S0 σ H Q s k =>
  ww_of (pw_and pt_wt pw_ww) (h H0 S0 σ H _ s fun H1 r1 => by
    cases p with
    | true =>
      rw [if_pos rfl]
      exact t rfl H0 S0 σ H1 _ (s.mono r1) fun H2 r2 => k H2 (Rel.trans r1 r2)
    | false =>
      rw [if_neg Bool.false_ne_true]
      exact k H1 r1)
theorem ew_or {a c : Expr} {rest : List Expr} {p q : Bool} (h : ET R X γ a p) (t : p = false → EW R X γ (.BoolOp .Or (c :: rest) pos) q) : EW R X γ (.BoolOp .Or (a :: c :: rest) pos) (p || q) := fun H0 S0 σ H Q s k =>
  ww_of (pw_or pt_wt pw_ww) (h H0 S0 σ H _ s fun H1 r1 => by
    cases p with
    | true =>
      rw [if_pos rfl]
      exact k H1 r1
    | false =>
      rw [if_neg Bool.false_ne_true]
      exact t rfl H0 S0 σ H1 _ (s.mono r1) fun H2 r2 => k H2 (Rel.trans r1 r2))
/-- the first of several is so: the others aren't looked at -/
theorem et_ew_or {a c : Expr} {rest : List Expr} (h : ET R X γ a true) : EW R X γ (.BoolOp .Or (a :: c :: rest) pos) true := ew_or (q := true) h (fun z => nomatch z)
theorem ew_et {e : Expr} {b : Bool} (h : EW R X γ e b) : ET R X γ e b := fun H0 S0 σ H Q s k => wt_of pw_ww.pt (h H0 S0 σ H Q s k)
theorem et_not {a : Expr} {b : Bool} (h : ET R X γ a b) : ET R X γ (.UnaryOp .Not a pos) (!b) := fun H0 S0 σ H Q s k => wt_of (pt_not pt_wt) (h H0 S0 σ H _ s k)
/-! .. as values -/
theorem ee_one {op} {a : Expr} {d : D} (h : EE R X γ a d) : EE R X γ (.BoolOp op [a] pos) d := fun H0 S0 σ H Q s k => we_of (pe_one pe_we) (h H0 S0 σ H Q s k)
theorem ee_and {a c : Expr} {rest : List Expr} {p q : Bool} (h : EE R X γ a (.bool p)) (t : p = true → EE R X γ (.BoolOp .And (c :: rest) pos) (.bool q)) : EE R X γ (.BoolOp .And (a :: c :: rest) pos) (.bool (p && q)) := fun H0 S0 σ H Q s k =>
  we_of (pe_and pe_we pe_we) (h H0 S0 σ H _ s fun v H1 r1 d1 => by
    cases d1
    refine ⟨p, rfl, ?_⟩
    cases p with
    | true =>
      rw [if_pos rfl]
      exact t rfl H0 S0 σ H1 _ (s.mono r1) fun v H2 r2 => k v H2 (Rel.trans r1 r2)
    | false =>
      rw [if_neg Bool.false_ne_true]
      exact k _ H1 r1 (.bl false))
theorem ee_or {a c : Expr} {rest : List Expr} {p q : Bool} (h : EE R X γ a (.bool p)) (t : p = false → EE R X γ (.BoolOp .Or (c :: rest) pos) (.bool q)) : EE R X γ (.BoolOp .Or (a :: c :: rest) pos) (.bool (p || q)) := fun H0 S0 σ H Q s k =>
  we_of (pe_or pe_we pe_we) (h H0 S0 σ H _ s fun v H1 r1 d1 => by
    cases d1
    refine ⟨p, rfl, ?_⟩
    cases p with
    | true =>
      rw [if_pos rfl]
      exact k _ H1 r1 (.bl true)
    | false =>
      rw [if_neg Bool.false_ne_true]
      exact t rfl H0 S0 σ H1 _ (s.mono r1) fun v H2 r2 => k v H2 (Rel.trans r1 r2))
theorem ee_not {a : Expr} {b : Bool} (h : EE R X γ a (.bool b)) : EE R X γ (.UnaryOp .Not a pos) (.bool (!b)) := fun H0 S0 σ H Q s k =>
  we_of (pe_not pe_we) (h H0 S0 σ H _ s fun v H1 r1 d1 => by
    cases d1
    exact ⟨b, rfl, k _ H1 r1 (.bl _)⟩)
theorem ee_if {c a b : Expr} {p : Bool} {d : D} (h : ET R X γ c p) (h1 : p = true → EE R X γ a d) (h2 : p = false → EE R X γ b d) : EE R X γ (.IfExp c a b pos) d := fun H0 S0 σ H Q s k =>
  we_of (pe_ifExp pt_wt pe_we pe_we) (h H0 S0 σ H _ s fun H1 r1 => by
    cases p with
    | true =>
      rw [if_pos rfl]
      exact h1 rfl H0 S0 σ H1 _ (s.mono r1) fun v H2 r2 => k v H2 (Rel.trans r1 r2)
    | false =>
      rw [if_neg Bool.false_ne_true]
      exact h2 rfl H0 S0 σ H1 _ (s.mono r1) fun v H2 r2 => k v H2 (Rel.trans r1 r2))
/-! ### items, slices -/
def ixD : D → Int → Option D
  | .list ds, i => atI ds i
  | .tuple ds, i => atI ds i
  | _, _ => none
theorem atI_dts {K : PySem.W.Frag} {H : Hp} {vs : List V} {ds : List D} {i : Int} {d : D} (h : DtAll K H vs ds) (e : atI ds i = some d) : ∃ v, atI vs i = some v ∧ Dt K H v d := by
  unfold atI at e ⊢
  rw [dps_len h]
  cases q : ixN ds.length i with
  | none => rw [q] at e; cases e
  | some j =>
    rw [q] at e
    exact dps_get h e
theorem ee_ix {a b : Expr} {x d : D} {i : Int} (ha : EE R X γ a x) (hb : EE R X γ b (.int i)) (h : ixD x i = some d) (hs : PlainIx b := by exact fun _ _ => rfl) : EE R X γ (.Subscript a b pos) d := fun H0 S0 σ H Q s k => by
  cases x with
  | list ds =>
    exact we_of (pe_ix ix_list pe_we pe_we hs) (ha H0 S0 σ H _ s fun v H1 r1 d1 => hb H0 S0 σ H1 _ (s.mono r1) fun u H2 r2 d2 => by
      cases d2
      have d1' := dt_up r2 d1
      cases d1' with
      | lst h1 h2 =>
        obtain ⟨w, e1, e2⟩ := atI_dts h2 h
        exact ⟨_, _, i, w, rfl, rfl, (.inl (rd_keep off_in h1)), e1, k w H2 (Rel.trans r1 r2) e2⟩)
  | tuple ds =>
    exact we_of (pe_ix ix_tup pe_we pe_we hs) (ha H0 S0 σ H _ s fun v H1 r1 d1 => hb H0 S0 σ H1 _ (s.mono r1) fun u H2 r2 d2 => by
      cases d2
      have d1' := dt_up r2 d1
      cases d1' with
      | tup h1 h2 =>
        obtain ⟨w, e1, e2⟩ := atI_dts h2 h
        exact ⟨_, _, i, w, rfl, rfl, sqt_keep off_in h1, e1, k w H2 (Rel.trans r1 r2) e2⟩)
  | _ => cases h
/-- an item of a list of one's own -/
theorem ee_ixO (j : Nat) {x : Str} {b : Expr} {ds : List D} {d : D} {i : Int} {p : Pos} (hj : γ[j]? = some (.own ds) := by rfl) (hb : EE R X γ b (.int i)) (h : atI ds i = some d) (hs : PlainIx b := by exact fun _ _ => rfl) (hN : X.N[j]? = some x := by rfl)
    (hv : Vis X.env.scope x := by first | exact Or.inl rfl | exact Or.inr (Or.inl rfl) | exact Or.inr (Or.inr rfl)) (hd : (x == ("__debug__" : Str)) = false := by decide) (hcd : (x == ("__classdict__" : Str)) = false := by decide) :
    EE R X γ (.Subscript (.Name x p) b pos) d := fun H0 S0 σ H Q s k => by
  obtain ⟨l, vs, h1, _, _, _⟩ := s.own j ds hj
  refine we_of (pe_ix ix_list (pe_var hN hv hd hcd) pe_we hs) ⟨_, h1, hb H0 S0 σ H _ s fun u H2 r2 d2 => ?_⟩
  cases d2
  obtain ⟨l', vs', a1, _, a3, a4⟩ := (s.mono r2).own j ds hj
  rw [h1] at a1
  cases a1
  obtain ⟨w, e1, e2⟩ := atI_dts a4 h
  exact ⟨_, _, i, w, rfl, rfl, SqL.of a3, e1, k w H2 r2 e2⟩
/-- the bounds of a slice -/
def EO (R : Hp → Hp → Prop) (X : Cx) (γ : List Sl) (e : Option Expr) (i : Option Int) : Prop :=
  ∃ t : TO, PO X e t ∧ ∀ (H0 : Hp) (S0 : Addr → Prop) (σ : L2.St) (H : Hp) (Q : Option Int → Hp → Prop), SI R X.K H0 S0 γ σ H → (∀ H2, R H H2 → Q i H2) → t σ H Q
theorem eo_none : EO R X γ none none := ⟨_, po_none, fun _ _ _ H _ s k => k H (s.ref)⟩
theorem eo_some {e : Expr} {i : Int} (h : EE R X γ e (.int i)) : EO R X γ (some e) (some i) := ⟨_, po_some pe_we, fun H0 S0 σ H Q s k => h H0 S0 σ H _ s fun v H1 r1 d1 => by
  cases d1
  exact ⟨i, rfl, k H1 r1⟩⟩
def cutD (ds : List D) (lo hi : Option Int) : List D := (ds.drop (HT.sIx ds.length 0 lo)).take (HT.sIx ds.length ds.length hi - HT.sIx ds.length 0 lo)
theorem cut_dts {K : PySem.W.Frag} {H : Hp} {vs : List V} {ds : List D} {lo hi : Option Int} (h : DtAll K H vs ds) : DtAll K H (cutV vs lo hi) (cutD ds lo hi) := by
  unfold cutV cutD
  rw [dps_len h]
  exact dps_take _ (dps_drop _ h)
theorem ef_slice {e : Expr} {lo hi : Option Expr} {ds : List D} {l u : Option Int} {p2 : Pos} (he : EE R X γ e (.list ds)) (hl : EO R X γ lo l) (hu : EO R X γ hi u) : EF R X γ (.Subscript e (.Slice lo hi none p2) pos) (cutD ds l u) := fun H0 S0 σ H Q s k => by
  obtain ⟨tl, p1, q1⟩ := hl
  obtain ⟨th, p3, q3⟩ := hu
  refine we_of (pe_slice sl_list pe_we p1 p3) (he H0 S0 σ H _ s fun v H1 r1 d1 => q1 H0 S0 σ H1 _ (s.mono r1) fun H2 r2 => q3 H0 S0 σ H2 _ (s.mono (Rel.trans r1 r2)) fun H3 r3 => ?_)
  have d3 := dt_up r3 (dt_up r2 d1)
  cases d3 with
  | lst h1 h2 =>
    refine ⟨_, _, rfl, (.inl (rd_keep off_in h1)), fun p n => ?_⟩
    have rr := Rel.trans (Rel.trans r1 r2) r3
    exact k p _ _ (Rel.free rr n) (Rel.more rr (same_new n)) upd_same (dts_newO n (cut_dts h2))
theorem rd_obj {pins : List (Addr × Obj)} {σ : L2.St} {H : Hp} {s : Shared} {a : Addr} {xs : List V} (I : Inv X pins σ H s) (h : Rd H a (.lst xs)) : xs.length ≤ sizeLine ∧ ∃ (its : List Value) (n : Nat), Vals xs its ∧ s.heap.get? a = some { cls := .type "list", data := .seq its.toArray n } := by
  obtain ⟨z, its, n, r, e⟩ := h.ok I.hok
  exact ⟨z, its, n, r, e⟩
/-- xs + ys, locked ones too -/
theorem op_catR : OpR X (binaryOp .Add) (fun x y H Q => ∃ a b us ws, x = .ref a ∧ y = .ref b ∧ Rd H a (.lst us) ∧ Rd H b (.lst ws) ∧ us.length + ws.length ≤ sizeLine ∧ ∀ p, H p = none → Q (.ref p) (upd H p (.lst (us ++ ws)))) := by
  intro pins s σ H x y v u Q I rx ry h
  obtain ⟨a, b, us, ws, rfl, rfl, h1, h2, hz, q⟩ := h
  cases rx
  cases ry
  obtain ⟨_, its, n, r, e⟩ := rd_obj I h1
  obtain ⟨_, jts, m, t, f⟩ := rd_obj I h2
  have l1 := r.length
  have l2 := t.length
  refine PySem.P.add_list e f ?_ (by simp only [List.size_toArray]; omega)
  rw [show its.toArray ++ jts.toArray = (its ++ jts).toArray by simp]
  exact ⟨.ref _, _, I.lnew (t' := s.toks) (r.append t) (by simp only [List.length_append]; exact hz), rfl, q _ (I.hok.fresh (Nat.le_refl _))⟩
/-- xs + ys -/
theorem ef_cat {a b : Expr} {ds es : List D} (ha : EE R X γ a (.list ds)) (hb : EE R X γ b (.list es)) (hl : ds.length + es.length ≤ 1000) : EF R X γ (.BinOp a .Add b pos) (ds ++ es) := fun H0 S0 σ H Q s k =>
  we_of (pe_op op_catR pe_we pe_we) (ha H0 S0 σ H _ s fun v H1 r1 d1 => hb H0 S0 σ H1 _ (s.mono r1) fun u H2 r2 d2 => by
    have d1' := dt_up r2 d1
    cases d1' with
    | lst h1 h2 =>
      cases d2 with
      | lst h3 h4 =>
        refine ⟨_, _, _, _, rfl, rfl, rd_keep off_in h1, rd_keep off_in h3, ?_, fun p n => ?_⟩
        · rw [dps_len h2, dps_len h4]
          exact Nat.le_of_lt (small1000 hl)
        · have rr := Rel.trans r1 r2
          exact k p _ _ (Rel.free rr n) (Rel.more rr (same_new n)) upd_same (dts_newO n (dps_app h2 h4)))
theorem dps_rep {K : PySem.W.Frag} {H : Hp} {vs : List V} {ds : List D} (h : DtAll K H vs ds) : ∀ n : Nat, DtAll K H (List.replicate n vs).flatten (List.replicate n ds).flatten
  | 0 => .nil
  | n + 1 => by
    rw [List.replicate_succ, List.replicate_succ, List.flatten_cons, List.flatten_cons]
    exact dps_app h (dps_rep h n)
/-- xs * n, xs a new list -/
theorem ef_rep {a b : Expr} {ds : List D} {n : Int} (ha : EF R X γ a ds) (hb : EE R X γ b (.int n)) (hn : -1000 ≤ n ∧ n ≤ 1000) (hl : ds.length * n.toNat ≤ 1000) : EF R X γ (.BinOp a .Mult b pos) (List.replicate n.toNat ds).flatten := fun H0 S0 σ H Q s k =>
  we_of (pe_op op_rep pe_we pe_we) (ha H0 S0 σ H _ s fun l vs H1 n1 r1 h1 d1 => hb H0 S0 σ H1 _ (s.mono r1) fun u H2 r2 d2 => by
    cases d2
    have h2 := Rel.keep r2 _ _ h1 fun _ z => nomatch z
    have d3 : DtAll X.K (off (Sx S0 γ σ) H2) vs ds := dps_keep (off_keep (Keep.refl H2) fun a z => .inr z) _ _ (dts_up r2 d1)
    refine ⟨_, n, _, rfl, rfl, h2, by omega, by omega, ?_, fun p z => ?_⟩
    · rw [dps_len d1]
      exact Nat.le_of_lt (small1000 hl)
    · have rr := Rel.trans r1 r2
      exact k p _ _ (Rel.free rr z) (Rel.more rr (same_new z)) upd_same (dts_newO z (dps_rep d3 _)))
/-! ### built-ins called by name -/
/-- a built-in by data: what comes is no new object -/
def CallD (X : Cx) (f : Value) (xs : List D) (c : D) : Prop := ∃ r : List V → Hp → VK → Prop, CallR X f r ∧ ∀ (H : Hp) (vs : List V) (Q : VK), DtAll X.K H vs xs → (∀ z, (∀ H', Dt X.K H' z c) → Q z H) → r vs H Q
theorem ee_callB {x : Str} {id : String} {e : Expr} {es : List Expr} {p : Pos} {xs : List D} {c : D} (ha : EA R X γ (e :: es) xs) (hc : CallD X (.builtin id) xs c) (hm : X.mg x = none) (hv : bootBuiltins x = some (.builtin id)) (hg : Gl X x := by rfl)
    (hn : x ≠ "__name__" := by decide) (hdb : (x == ("__debug__" : Str)) = false := by decide) (he : starEach (e :: es) X.env = (false, eval e X.env) :: starEach es X.env := by rfl) (hpl : (backTo pos (starEach es X.env)).any (·.1) = false := by rfl) :
    EE R X γ (.Call (.Name x p) (e :: es) [] pos) c := fun H0 S0 σ H Q s k => by
  obtain ⟨r, h1, h2⟩ := hc
  exact we_of (pe_callB h1 hg hm hv pa_wa hn hdb he hpl) (ha H0 S0 σ H _ s fun vs H1 r1 d1 => h2 H1 vs Q (dts_in d1) fun z q => k z H1 r1 (q _))
theorem ee_callTy {x : Str} {T : String} {e : Expr} {es : List Expr} {p : Pos} {xs : List D} {c : D} (ha : EA R X γ (e :: es) xs) (hc : CallD X (.type T) xs c) (hm : X.mg x = none) (hv : bootBuiltins x = some (.type T)) (hg : Gl X x := by rfl)
    (hn : x ≠ "__name__" := by decide) (hdb : (x == ("__debug__" : Str)) = false := by decide) (he : starEach (e :: es) X.env = (false, eval e X.env) :: starEach es X.env := by rfl) (hpl : (backTo pos (starEach es X.env)).any (·.1) = false := by rfl) :
    EE R X γ (.Call (.Name x p) (e :: es) [] pos) c := fun H0 S0 σ H Q s k => by
  obtain ⟨r, h1, h2⟩ := hc
  exact we_of (pe_callTy h1 hg hm hv pa_wa hn hdb he hpl) (ha H0 S0 σ H _ s fun vs H1 r1 d1 => h2 H1 vs Q (dts_in d1) fun z q => k z H1 r1 (q _))
end
end An

/-! What is walked, comprehensions, statements. -/
namespace An
open PySem PySem.Spec PyProof.Rows L2
/-! ### targets -/
@[irreducible] def wg (X : Cx) (tg : Expr) : TG := fun v σ H Q => ∀ (pins : List (Addr × Obj)) (s : Shared) (u : Value), Inv X pins σ H s → RelV v u → wpAny (model X.prog X.w) X.A (assign tg X.env u) (fun _ s' => ∃ σ' H', Inv X pins σ' H' s' ∧ Q σ' H') X.xe s
theorem pg_wg {X : Cx} {tg : Expr} : PG X tg (wg X tg) := ⟨fun pins s _ _ _ u _ I r h => by unfold wg at h; exact h pins s u I r⟩
theorem wg_of {X : Cx} {tg : Expr} {t : TG} {v : V} {σ : L2.St} {H : Hp} {Q : L2.St → Hp → Prop} (h : PG X tg t) (q : t v σ H Q) : wg X tg v σ H Q := by
  unfold wg
  exact fun pins s u I r => h.run pins s σ H v u Q I r q
/-- the target takes the data d: the slots js are set -/
def EG (R : Hp → Hp → Prop) (X : Cx) (γ : List Sl) (tg : Expr) (d : D) (γ' : List Sl) : Prop :=
  ∀ (H0 : Hp) (S0 : Addr → Prop) (σ : L2.St) (H : Hp) (v : V) (Q : L2.St → Hp → Prop), SI R X.K H0 S0 γ σ H → Dt X.K (off (Sx S0 γ σ) H) v d → (∀ σ', SI R X.K H0 S0 γ' σ' H → Q σ' H) → wg X tg v σ H Q
section
variable {R : Hp → Hp → Prop} [Rel R] {X : Cx} {γ : List Sl} {pos : Pos}
theorem eg_name {i : Nat} {x : Str} {d : D} (hN : X.N.Nodup) (hi : X.N[i]? = some x := by rfl) (hx : Loc X.env.scope x := by first | exact Or.inl rfl | exact Or.inr rfl)
    (hf : X.fn x = true ∨ X.env.scope.names.lookup x = some .local := by first | exact .inl rfl | exact .inr rfl | assumption) : EG R X γ (.Name x pos) d (γ.set i (.dat d)) := fun H0 S0 σ H v Q s h k =>
  wg_of (pg_name hN hi hx hf) (k _ (s.putD i h))
theorem eg_pair {i j : Nat} {x y : Str} {d1 d2 : D} {p1 p2 : Pos} {kk : Nat} (hc : X.calm = true) (hN : X.N.Nodup) (hi : X.N[i]? = some x := by rfl) (hj : X.N[j]? = some y := by rfl) (hx : Loc X.env.scope x := by first | exact Or.inl rfl | exact Or.inr rfl)
    (hy : Loc X.env.scope y := by first | exact Or.inl rfl | exact Or.inr rfl)
    (hf : X.fn x = true ∨ X.env.scope.names.lookup x = some .local := by first | exact .inl rfl | exact .inr rfl | assumption) (hg : X.fn y = true ∨ X.env.scope.names.lookup y = some .local := by first | exact .inl rfl | exact .inr rfl | assumption)
    (ho : ∀ es, γ[i]? ≠ some (.own es)) :
    EG R X γ (.Tuple [.Name x p1, .Name y p2] kk pos) (.tuple [d1, d2]) ((γ.set i (.dat d1)).set j (.dat d2)) := fun H0 S0 σ H v Q s h k => by
  cases h with
  | tup h1 h2 =>
    cases h2 with
    | cons e1 r1 =>
      cases r1 with
      | cons e2 r2 =>
        cases r2
        refine wg_of (pg_tup hc (pgs_cons (pg_name hN hi hx hf) (pgs_cons (pg_name hN hj hy hg) pgs_nil))) ⟨_, _, rfl, sqt_keep off_in h1, rfl, _, _, rfl, _, _, rfl, rfl, ?_⟩
        have s1 := s.putD i e1
        exact k _ (s1.putD j (dp_keep (off_keep (Keep.refl H) sx_dat) _ _ e2))
/-! ### what is walked -/
/-- J walks ds, as long as the heap H1 is kept but for S -/
structure ItD (K : PySem.W.Frag) (S : Addr → Prop) (J : It) (ds : List D) (H1 : Hp) : Prop where
  go : ∀ (i : Nat) (H' : Hp) (S' : Addr → Prop), Keep (off S H1) (off S' H') → i < ds.length → J.go i H'
  stop : ∀ (i : Nat) (H' : Hp) (S' : Addr → Prop), Keep (off S H1) (off S' H') → ds.length ≤ i → J.stop i H'
  yld : ∀ (i : Nat) (H' : Hp) (S' : Addr → Prop) (x : V) (H'' : Hp) (d : D), Keep (off S H1) (off S' H') → (∀ a, S' a → H' a ≠ none) → J.yld i H' x H'' → ds[i]? = some d → Same H' H'' ∧ Dt K (off S' H'') x d
def EI (R : Hp → Hp → Prop) (X : Cx) (γ : List Sl) (tg iter : Expr) (ds : List D) : Prop :=
  ∃ wi : TI, PI X tg iter wi ∧ ∀ (H0 : Hp) (S0 : Addr → Prop) (σ : L2.St) (H : Hp) (Rk : It → Hp → Prop), SI R X.K H0 S0 γ σ H → (∀ J H1, R H H1 → ItD X.K (Sx S0 γ σ) J ds H1 → Rk J H1) → wi σ H Rk
theorem itd_list {K : PySem.W.Frag} {S : Addr → Prop} {H1 : Hp} {a : Addr} {ds : List D} (h : Dt K (off S H1) (.ref a) (.list ds)) : ItD K S (Itl K a) ds H1 := by
  have up : ∀ (H' : Hp) (S' : Addr → Prop), Keep (off S H1) (off S' H') → ∃ xs, SqL K H' a xs ∧ DtAll K (off S' H') xs ds := fun H' S' k => by
    have h' := dp_keep k _ _ h
    cases h' with
    | lst h1 h2 => exact ⟨_, (.inl (rd_keep off_in h1)), h2⟩
  refine ⟨fun i H' S' k hi => ?_, fun i H' S' k hi => ?_, fun i H' S' x H'' d k hd y hx => ?_⟩
  · obtain ⟨xs, h1, h2⟩ := up H' S' k
    obtain ⟨v, e, _⟩ := dps_get h2 (List.getElem?_eq_getElem hi)
    exact ⟨xs, v, h1, e⟩
  · obtain ⟨xs, h1, h2⟩ := up H' S' k
    exact ⟨xs, h1, by rw [dps_len h2]; exact hi⟩
  · obtain ⟨e, y⟩ := y
    subst e
    obtain ⟨xs, h1, h2⟩ := up _ S' k
    obtain ⟨v, e, q⟩ := dps_get h2 hx
    have e2 := y xs h1
    rw [e] at e2
    cases e2
    exact ⟨Same.refl _, q⟩
theorem itd_tup {K : PySem.W.Frag} {S : Addr → Prop} {H1 : Hp} {a : Addr} {ds : List D} (h : Dt K (off S H1) (.ref a) (.tuple ds)) : ItD K S (Itt K a) ds H1 := by
  have up : ∀ (H' : Hp) (S' : Addr → Prop), Keep (off S H1) (off S' H') → ∃ xs, SqT K H' a xs ∧ DtAll K (off S' H') xs ds := fun H' S' k => by
    have h' := dp_keep k _ _ h
    cases h' with
    | tup h1 h2 => exact ⟨_, sqt_keep off_in h1, h2⟩
  refine ⟨fun i H' S' k hi => ?_, fun i H' S' k hi => ?_, fun i H' S' x H'' d k hd y hx => ?_⟩
  · obtain ⟨xs, h1, h2⟩ := up H' S' k
    obtain ⟨v, e, _⟩ := dps_get h2 (List.getElem?_eq_getElem hi)
    exact ⟨xs, v, h1, e⟩
  · obtain ⟨xs, h1, h2⟩ := up H' S' k
    exact ⟨xs, h1, by rw [dps_len h2]; exact hi⟩
  · obtain ⟨e, y⟩ := y
    subst e
    obtain ⟨xs, h1, h2⟩ := up _ S' k
    obtain ⟨v, e, q⟩ := dps_get h2 hx
    have e2 := y xs h1
    rw [e] at e2
    cases e2
    exact ⟨Same.refl _, q⟩
theorem ei_list {tg l : Expr} {ds : List D} (h : EE R X γ l (.list ds)) : EI R X γ tg l ds := ⟨_, pi_list pe_we, fun H0 S0 σ H Rk s k => h H0 S0 σ H _ s fun v H1 r1 d1 => by
  cases d1 with
  | lst h1 h2 => exact ⟨_, rfl, ⟨_, (.inl (rd_keep off_in h1))⟩, k _ H1 r1 (itd_list (.lst h1 h2))⟩⟩
theorem ei_tup {tg l : Expr} {ds : List D} (h : EE R X γ l (.tuple ds)) : EI R X γ tg l ds := ⟨_, pi_tup pe_we, fun H0 S0 σ H Rk s k => h H0 S0 σ H _ s fun v H1 r1 d1 => by
  cases d1 with
  | tup h1 h2 => exact ⟨_, rfl, ⟨_, sqt_keep off_in h1⟩, k _ H1 r1 (itd_tup (.tup h1 h2))⟩⟩
def rangeD (lo : Int) (n : Nat) : List D := (List.range n).map fun i => .int (lo + (i : Nat))
theorem itd_range {K : PySem.W.Frag} {S : Addr → Prop} {H1 : Hp} {lo : Int} {n : Nat} : ItD K S (Itr lo n) (rangeD lo n) H1 := by
  have hl : (rangeD lo n).length = n := by simp [rangeD]
  refine ⟨fun i H' S' k hi => ?_, fun i H' S' k hi => ?_, fun i H' S' x H'' d k hd y hx => ?_⟩
  · rw [hl] at hi
    exact hi
  · rw [hl] at hi
    exact hi
  · obtain ⟨e, e2⟩ := y
    subst e e2
    have hi : i < n := by
      have := (List.getElem?_eq_some_iff.mp hx).1
      rw [hl] at this
      exact this
    have : d = .int (lo + (i : Nat)) := by
      unfold rangeD at hx
      rw [List.getElem?_map, List.getElem?_range hi] at hx
      exact (Option.some.inj hx).symm
    subst this
    exact ⟨Same.refl _, .int _⟩
theorem ei_range1 {tg a : Expr} {p : Pos} {n : Int} (h : EE R X γ a (.int n)) (hn : -1000000 ≤ n ∧ n ≤ 1000000) (hm : X.mg "range" = none) (hg : Gl X "range" := by rfl) (hs : starEach [a] X.env = [(false, eval a X.env)] := by rfl) : EI R X γ tg (.Call (.Name "range" p) [a] [] pos) (rangeD 0 n.toNat) :=
  ⟨_, pi_range1 hg hm pa_wa hs, fun H0 S0 σ H Rk s k => (ea_cons h ea_nil hs) H0 S0 σ H _ s fun vs H1 r1 d1 => by
    cases d1 with
    | cons d1 t =>
      cases t
      cases d1
      exact ⟨n, rfl, by omega, by omega, k _ H1 r1 itd_range⟩⟩
def enumD (ds : List D) : List D := (List.range ds.length).map fun (i : Nat) => .tuple [.int (i : Nat), ds.getD i .none]
theorem enumD_len (ds : List D) : (enumD ds).length = ds.length := by simp [enumD]
theorem enumD_get {ds : List D} {i : Nat} {d : D} (h : (enumD ds)[i]? = some d) : ∃ e, ds[i]? = some e ∧ d = .tuple [.int (i : Nat), e] := by
  have hi : i < ds.length := by
    have := (List.getElem?_eq_some_iff.mp h).1
    rw [enumD_len] at this
    exact this
  unfold enumD at h
  rw [List.getElem?_map, List.getElem?_range hi] at h
  refine ⟨ds[i], List.getElem?_eq_getElem hi, ?_⟩
  have e := (Option.some.inj h).symm
  rw [e]
  simp [List.getD, List.getElem?_eq_getElem hi]
theorem ei_enum {elts : List Expr} {kk : Nat} {tpos p : Pos} {a : Expr} {ds : List D} (h : EE R X γ a (.list ds)) (hm : X.mg "enumerate" = none) (hg : Gl X "enumerate" := by rfl) (hs : starEach [a] X.env = [(false, eval a X.env)] := by rfl) :
    EI R X γ (.Tuple elts kk tpos) (.Call (.Name "enumerate" p) [a] [] pos) (enumD ds) := ⟨_, pi_enum hg hm pa_wa hs, fun H0 S0 σ H Rk s k => (ea_cons h ea_nil hs) H0 S0 σ H _ s fun vs H1 r1 d1 => by
  cases d1 with
  | cons d1 t =>
    cases t
    cases d1 with
    | lst h1 h2 =>
      rename_i a xs
      refine ⟨a, xs, rfl, (.inl (rd_keep off_in h1)), k _ H1 r1 ?_⟩
      have base := itd_list (K := X.K) (S := Sx S0 γ σ) (H1 := H1) (.lst h1 h2)
      refine ⟨fun i H' S' kp hi => ?_, fun i H' S' kp hi => ?_, fun i H' S' x H'' d kp hd y hx => ?_⟩
      · rw [enumD_len] at hi
        exact base.go i H' S' kp hi
      · rw [enumD_len] at hi
        exact base.stop i H' S' kp hi
      · obtain ⟨e, he, rfl⟩ := enumD_get hx
        obtain ⟨T, z, rfl, nT, rfl, hz⟩ := y
        obtain ⟨_, q⟩ := base.yld i H' S' z H' e kp hd ⟨rfl, hz⟩ he
        refine ⟨same_new nT, .tup (.inl (.inl (off_of (fun w => hd T w nT) upd_same))) (.cons (.int _) (.cons (dt_new nT q) .nil))⟩⟩
def zipD (ds es : List D) : List D := (List.range (min ds.length es.length)).map fun (i : Nat) => .tuple [ds.getD i .none, es.getD i .none]
theorem zipD_len (ds es : List D) : (zipD ds es).length = min ds.length es.length := by simp [zipD]
theorem zipD_get {ds es : List D} {i : Nat} {d : D} (h : (zipD ds es)[i]? = some d) : ∃ a b, ds[i]? = some a ∧ es[i]? = some b ∧ d = .tuple [a, b] := by
  have hi : i < min ds.length es.length := by
    have := (List.getElem?_eq_some_iff.mp h).1
    rw [zipD_len] at this
    exact this
  unfold zipD at h
  rw [List.getElem?_map, List.getElem?_range hi] at h
  have h1 : i < ds.length := by omega
  have h2 : i < es.length := by omega
  refine ⟨ds[i], es[i], List.getElem?_eq_getElem h1, List.getElem?_eq_getElem h2, ?_⟩
  have e := (Option.some.inj h).symm
  rw [e]
  simp [List.getD, List.getElem?_eq_getElem h1, List.getElem?_eq_getElem h2]
theorem ei_zip {elts : List Expr} {kk : Nat} {tpos p : Pos} {a b : Expr} {ds es : List D} (h : EE R X γ a (.list ds)) (h' : EE R X γ b (.list es)) (hm : X.mg "zip" = none) (hg : Gl X "zip" := by rfl)
    (hs : starEach [a, b] X.env = (false, eval a X.env) :: starEach [b] X.env := by rfl) (hs2 : starEach [b] X.env = [(false, eval b X.env)] := by rfl) (hpl : (backTo pos (starEach [b] X.env)).any (·.1) = false := by rfl) :
    EI R X γ (.Tuple elts kk tpos) (.Call (.Name "zip" p) [a, b] [] pos) (zipD ds es) := ⟨_, pi_zip hg hm pa_wa hs hpl, fun H0 S0 σ H Rk s k => (ea_cons h (ea_cons h' ea_nil hs2) hs) H0 S0 σ H _ s fun vs H1 r1 d1 => by
  cases d1 with
  | cons d1 t =>
    cases t with
    | cons d2 t =>
      cases t
      cases d1 with
      | lst h1 h2 =>
        cases d2 with
        | lst h3 h4 =>
          rename_i a xs b ys
          refine ⟨a, b, xs, ys, rfl, (.inl (rd_keep off_in h1)), (.inl (rd_keep off_in h3)), k _ H1 r1 ?_⟩
          have ba := itd_list (K := X.K) (S := Sx S0 γ σ) (H1 := H1) (.lst h1 h2)
          have bb := itd_list (K := X.K) (S := Sx S0 γ σ) (H1 := H1) (.lst h3 h4)
          refine ⟨fun i H' S' kp hi => ?_, fun i H' S' kp hi => ?_, fun i H' S' x H'' d kp hd y hx => ?_⟩
          · rw [zipD_len] at hi
            obtain ⟨us, u, e1, e2⟩ := ba.go i H' S' kp (by omega)
            obtain ⟨ws, w, e3, e4⟩ := bb.go i H' S' kp (by omega)
            exact ⟨us, ws, u, w, e1, e3, e2, e4⟩
          · rw [zipD_len] at hi
            have up : ∀ {c : Addr} {zs : List V} {fs : List D}, Rd (off (Sx S0 γ σ) H1) c (.lst zs) → SqL X.K H' c zs := fun {c zs fs} e => .inl (rd_keep off_in (rd_keep kp e))
            refine ⟨xs, ys, up (fs := ds) h1, up (fs := es) h3, ?_⟩
            rw [dps_len h2, dps_len h4]
            omega
          · obtain ⟨p, q, hp, hq, rfl⟩ := zipD_get hx
            obtain ⟨T, u, w, rfl, nT, rfl, hu, hw⟩ := y
            obtain ⟨_, q1⟩ := ba.yld i H' S' u H' p kp hd ⟨rfl, hu⟩ hp
            obtain ⟨_, q2⟩ := bb.yld i H' S' w H' q kp hd ⟨rfl, hw⟩ hq
            exact ⟨same_new nT, .tup (.inl (.inl (off_of (fun w => hd T w nT) upd_same))) (.cons (dt_new nT q1) (.cons (dt_new nT q2) .nil))⟩⟩
/-! ### the base of a part of a body: the heap but the things of one's own -/
def isOwn (γ : List Sl) (σ : L2.St) (a : Addr) : Prop := ∃ i, Fp γ σ i a
noncomputable abbrev cutO (γ : List Sl) (σ : L2.St) (H : Hp) : Hp := off (isOwn γ σ) H
theorem cutO_none {γ : List Sl} {σ : L2.St} {H : Hp} {a : Addr} (h : isOwn γ σ a) : cutO γ σ H a = none := by
  unfold cutO off
  rw [if_pos h]
theorem SI.rebase {K : PySem.W.Frag} {H0 H : Hp} {S0 : Addr → Prop} {σ : L2.St} (s : SI R K H0 S0 γ σ H) : SI R K (cutO γ σ H) S0 γ σ H where
  rel := Rel.cutr s.rel fun a ⟨i, f⟩ => (s.fp i a f).2
  dom := fun a ha z => by
    have h1 := s.dom a ha
    have h2 := Rel.dom s.rel h1
    unfold cutO off at z
    by_cases hs : isOwn γ σ a
    · obtain ⟨i, f⟩ := hs
      exact h1 (s.fp i a f).1
    · rw [if_neg hs] at z
      exact h2 z
  len := s.len
  ok := s.ok
  fp := fun i a f => ⟨cutO_none ⟨i, f⟩, (s.fp i a f).2⟩
  inj := s.inj
/-- back to the first base -/
theorem SI.back {K : PySem.W.Frag} {H0 H H' : Hp} {S0 : Addr → Prop} {γ' : List Sl} {σ σ' : L2.St} (s : SI R K H0 S0 γ σ H) (t : SI R K (cutO γ σ H) S0 γ' σ' H') (hc : R H0 (cutO γ σ H)) : SI R K H0 S0 γ' σ' H' where
  rel := Rel.trans hc t.rel
  dom := s.dom
  len := t.len
  ok := t.ok
  fp := fun i a f => ⟨Rel.free hc (t.fp i a f).1, (t.fp i a f).2⟩
  inj := t.inj
end
/-- a relation that holds of the heap without things that the first heap doesn't know -/
class RelC (R : Hp → Hp → Prop) : Prop extends Rel R where
  cut : ∀ {H H1 : Hp} {C : Addr → Prop}, R H H1 → (∀ a, C a → H a = none ∧ NT H1 a) → R H (off C H1)
instance : RelC Same where
  cut := fun {H H1 C} h c a o e => by
    refine off_of (fun z => ?_) (h a o e)
    rw [(c a z).1] at e
    cases e
section
variable {R : Hp → Hp → Prop} [RelC R] {X : Cx} {γ : List Sl} {pos : Pos}
theorem SI.cutR {K : PySem.W.Frag} {H0 H : Hp} {S0 : Addr → Prop} {σ : L2.St} (s : SI R K H0 S0 γ σ H) : R H0 (cutO γ σ H) := RelC.cut s.rel fun a ⟨i, f⟩ => s.fp i a f
/-- what stood ahead of a part of a body, outside of one's own things, stands -/
theorem SI.kept {K : PySem.W.Frag} {H0 H H' : Hp} {S0 : Addr → Prop} {γ' : List Sl} {σ σ' : L2.St} (s : SI R K H0 S0 γ σ H) (t : SI R K (cutO γ σ H) S0 γ' σ' H') : Keep (off (Sx S0 γ σ) H) (off (Sx S0 γ' σ') H') := fun a o e n => by
  obtain ⟨h1, h2⟩ := off_some e
  have h3 : cutO γ σ H a = some o := off_of (fun z => h1 (.inr z)) h2
  refine off_of (fun z => ?_) (Rel.keep t.rel a o h3 n)
  rcases z with z | ⟨i, f⟩
  · exact h1 (.inl z)
  · have := (t.fp i a f).1
    rw [h3] at this
    cases this
/-- one address more is left alone -/
theorem SI.avoid {K : PySem.W.Frag} {H0 H H' : Hp} {S0 : Addr → Prop} {σ : L2.St} {p : Addr} (s : SI R K H0 S0 γ σ H) (r : R H H') (n : H p = none) (hp : H' p ≠ none) : SI R K (cutO γ σ H') (fun a => a = p ∨ S0 a) γ σ H' := by
  have sm := s.mono r
  have s' := sm.rebase
  have up : Keep (off (Sx S0 γ σ) H) (off (Sx (fun a => a = p ∨ S0 a) γ σ) H') := fun a o e nn => by
    obtain ⟨h1, h2⟩ := off_some e
    refine off_of (fun z => ?_) (Rel.keep r a o h2 nn)
    rcases z with (z | z) | z
    · rw [z, n] at h2
      cases h2
    · exact h1 (.inl z)
    · exact h1 (.inr z)
  refine ⟨s'.rel, fun a ha => ?_, s.len, fun i x h => ?_, s'.fp, s.inj⟩
  · rcases ha with rfl | ha
    · intro z
      unfold cutO off at z
      by_cases hs : isOwn γ σ a
      · obtain ⟨i, f⟩ := hs
        exact (s.fp i a f).2.there n
      · rw [if_neg hs] at z
        exact hp z
    · exact s'.dom a ha
  · obtain ⟨v, h1, h2⟩ := s.ok i x h
    exact ⟨v, h1, h2.keep (fun a f => (s.fp i a ⟨x, v, h, h1, f⟩).2.keep (Rel.keep r)) up⟩
/-! ### comprehensions -/
def wipeS (γ : List Sl) : List Nat → List Sl
  | [] => γ
  | v :: vs => (wipeS γ vs).set v .no
theorem SI.wipe {K : PySem.W.Frag} {H0 H : Hp} {S0 : Addr → Prop} {σ : L2.St} (s : SI R K H0 S0 γ σ H) : ∀ vs : List Nat, SI R K H0 S0 (wipeS γ vs) (L2.wipe σ vs) H
  | [] => s
  | v :: vs => (s.wipe vs).putN v
theorem wipeS_get {γ : List Sl} {j : Nat} : ∀ {vs : List Nat}, j ∉ vs → (wipeS γ vs)[j]? = γ[j]?
  | [], _ => rfl
  | v :: vs, h => by
    unfold wipeS
    rw [List.getElem?_set_ne (fun z => h (by rw [z]; exact List.mem_cons_self)), wipeS_get (fun z => h (List.mem_cons_of_mem _ z))]
theorem wipe_get {σ : L2.St} {j : Nat} : ∀ {vs : List Nat}, j ∉ vs → (L2.wipe σ vs)[j]? = σ[j]?
  | [], _ => rfl
  | v :: vs, h => by
    unfold L2.wipe
    rw [List.getElem?_set_ne (fun z => h (by rw [z]; exact List.mem_cons_self)), wipe_get (fun z => h (List.mem_cons_of_mem _ z))]
/-- a block with pins -/
abbrev blkP (X : Cx) (pn : List (Addr × Obj)) (s : Shared) (H : Hp) (scope : Scope) (ce : Env) (fp : List Addr) : Cx := { X.blk s H scope ce fp with pn := pn }
/-- a reading by which a new list of ds comes -/
def ELc (R : Hp → Hp → Prop) (X : Cx) (γ : List Sl) (mk : TE → Prop) (ds : List D) : Prop := ∃ t : TE, mk t ∧ ∀ (H0 : Hp) (S0 : Addr → Prop) (σ : L2.St) (H : Hp) (Q : VK), SI R X.K H0 S0 γ σ H →
  (∀ p vs H2, H p = none → R H H2 → H2 p = some (.lst vs) → DtAll X.K (off (fun a => a = p ∨ Sx S0 γ σ a) H2) vs ds → Q (.ref p) H2) → t σ H Q
/-- a comprehension's: as a value, and stored at once to a local name -/
def EL (R : Hp → Hp → Prop) (X : Cx) (γ : List Sl) (e : Expr) (ds : List D) : Prop := ELc R X γ (fun t => PE X e t ∧ ∀ (i : Nat) (y : Str) (py spos : Pos), X.N[i]? = some y → X.env.scope.names.lookup y = some .local → swapsWith e (some (.Name y py)) spos.line X.env = pure true → PS X (.Assign [.Name y py] e spos) (tAsg t (gName i))) ds
theorem ELc.ef {e : Expr} {ds : List D} (h : ELc R X γ (fun t => PE X e t) ds) : EF R X γ e ds := fun H0 S0 σ H Q s k => by
  obtain ⟨t, h1, h2⟩ := h
  exact we_of h1 (h2 H0 S0 σ H Q s k)
theorem EL.ef {e : Expr} {ds : List D} (h : EL R X γ e ds) : EF R X γ e ds := fun H0 S0 σ H Q s k => by
  obtain ⟨t, h1, h2⟩ := h
  exact we_of h1.1 (h2 H0 S0 σ H Q s k)
/-- [elt for tg in iter if ..]: to each item's data what comes of it, or nothing -/
theorem lc_gen {mk : TE → Prop} (pn : List (Addr × Obj)) {wi : TI} {elt tg iter : Expr} {ifs : List Expr} {scope : Scope} {own : List (Str × Nat)} {g : TG} {L : List (D × Option D)} (hwi : ∀ (H0 : Hp) (S0 : Addr → Prop) (σ : L2.St) (H : Hp) (Rk : It → Hp → Prop), SI R X.K H0 S0 γ σ H → (∀ J H1, R H H1 → ItD X.K (Sx S0 γ σ) J (L.map (·.1)) H1 → Rk J H1) → wi σ H Rk)
    (hpe : ∀ (tt : TT) (te : TE), (∀ (s : Shared) (H : Hp) (C : Addr) (cl : List (Str × Addr)) (fp : List Addr), PTs (blkP X pn s H scope (compEnvC scope cl C X.env) fp) ifs tt) → (∀ (s : Shared) (H : Hp) (C : Addr) (cl : List (Str × Addr)) (fp : List Addr), PE (blkP X pn s H scope (compEnvC scope cl C X.env) fp) elt te) →
      mk (tLc wi g tt te (own.map (·.2))))
    (hown : ∀ j ∈ own.map (·.2), ∀ es, γ[j]? ≠ some (.own es))
    (ht : ∀ e ∈ L, ∃ γ' : List Sl, wipeS γ' (own.map (·.2)) = wipeS γ (own.map (·.2)) ∧ (∀ (H0 : Hp) (S0 : Addr → Prop) (σ : L2.St) (H : Hp) (v : V) (Q : L2.St → Hp → Prop), SI R X.K H0 S0 (wipeS γ (own.map (·.2))) (L2.wipe σ (own.map (·.2))) H → Dt X.K (off (Sx S0 (wipeS γ (own.map (·.2))) (L2.wipe σ (own.map (·.2)))) H) v e.1 →
        (∀ σ', L2.wipe σ' (own.map (·.2)) = L2.wipe σ (own.map (·.2)) → SI R X.K H0 S0 γ' σ' H → Q σ' H) → g v (L2.wipe σ (own.map (·.2))) H Q) ∧
      (∀ (s : Shared) (H : Hp) (C : Addr) (cl : List (Str × Addr)) (fp : List Addr), (ifs = [] ∧ e.2.isSome = true) ∨ (∃ c, ifs = [c] ∧ ET R (blkP X pn s H scope (compEnvC scope cl C X.env) fp) γ' c e.2.isSome)) ∧
      (∀ r, e.2 = some r → ∀ (s : Shared) (H : Hp) (C : Addr) (cl : List (Str × Addr)) (fp : List Addr), EE R (blkP X pn s H scope (compEnvC scope cl C X.env) fp) γ' elt r))
    (hl : L.length ≤ 1000) :
    ELc R X γ mk (L.filterMap (·.2)) := by
  -- the reading of the tests and of the element: whatever context
  have pts : ∀ (s : Shared) (H : Hp) (C : Addr) (cl : List (Str × Addr)) (fp : List Addr), PTs (blkP X pn s H scope (compEnvC scope cl C X.env) fp) ifs (fun σ' H' Q' => ∀ (s : Shared) (H : Hp) (C : Addr) (cl : List (Str × Addr)) (fp : List Addr), (ifs = [] ∧ Q' true H') ∨ ∃ c, ifs = [c] ∧ wt (blkP X pn s H scope (compEnvC scope cl C X.env) fp) c σ' H' Q') := fun s1 H1 C cl fp => ⟨fun pins s2 σ2 H2 Q2 I2 h2 => by
      rcases h2 s1 H1 C cl fp with ⟨e, q⟩ | ⟨c, e, q⟩
      · subst e
        exact (pts_nil (X := blkP X pn s1 H1 scope (compEnvC scope cl C X.env) fp)).run pins s2 σ2 H2 Q2 I2 q
      · subst e
        exact (pts_one (pt_wt (X := blkP X pn s1 H1 scope (compEnvC scope cl C X.env) fp) (e := c))).run pins s2 σ2 H2 Q2 I2 q⟩
  have pel : ∀ (s : Shared) (H : Hp) (C : Addr) (cl : List (Str × Addr)) (fp : List Addr), PE (blkP X pn s H scope (compEnvC scope cl C X.env) fp) elt (fun σ' H' Q' => ∀ (s : Shared) (H : Hp) (C : Addr) (cl : List (Str × Addr)) (fp : List Addr), we (blkP X pn s H scope (compEnvC scope cl C X.env) fp) elt σ' H' Q') := fun s1 H1 C cl fp => ⟨fun pins s2 σ2 H2 Q2 I2 h2 => pe_we.run pins s2 σ2 H2 Q2 I2 (h2 s1 H1 C cl fp)⟩
  refine ⟨_, hpe _ _ pts pel, fun H0 S0 σ H Q s k => hwi H0 S0 σ H _ s fun J H1 r1 itd Dl hD => ?_⟩
  have s1 := s.mono r1
  have sw := s1.wipe (own.map (·.2))
  -- what has been made after i turns
  let made : Nat → List D := fun i => (L.take i).filterMap (·.2)
  have hln : (L.map (·.1)).length = L.length := by rw [List.length_map]
  refine ⟨fun i m H' => m = L.length - i ∧ i ≤ L.length ∧ R H1 H' ∧ ∃ vs, H' Dl = some (.lst vs) ∧ DtAll X.K (off (fun a => a = Dl ∨ Sx S0 γ σ a) H') vs (made i), ⟨L.length, by simp, Nat.zero_le _, Rel.more s1.ref (same_new hD), [], upd_same, .nil⟩, ?_⟩
  rintro i m H' ⟨rfl, hle, r', vs, hDl, hvs⟩
  have kp : Keep (off (Sx S0 γ σ) H1) (off (fun a => a = Dl ∨ Sx S0 γ σ a) H') := fun a u e n => by
    obtain ⟨h1, h2⟩ := off_some e
    refine off_of (fun z => ?_) (Rel.keep r' a u h2 n)
    rcases z with z | z
    · rw [z, hD] at h2
      cases h2
    · exact h1 z
  by_cases hlt : i < L.length
  · have hLi : L[i]? = some L[i] := List.getElem?_eq_getElem hlt
    have hdi : (L.map (·.1))[i]? = some L[i].1 := by rw [List.getElem?_map, hLi]; rfl
    obtain ⟨γ', hwg, hgt, htt, hel⟩ := ht L[i] (List.getElem_mem hlt)
    refine .inr ⟨itd.go i H' _ kp (by rw [hln]; exact hlt), fun H2 => R H1 H2 ∧ ∃ vs, H2 Dl = some (.lst vs) ∧ DtAll X.K (off (fun a => a = Dl ∨ Sx S0 γ σ a) H2) vs (made (i + 1)), fun H2 h2 => ⟨L.length - (i + 1), by omega, rfl, hlt, h2.1, h2.2⟩, fun x H2 hy => ?_⟩
    obtain ⟨sm, dx⟩ := itd.yld i H' _ x H2 L[i].1 kp (fun a z => by
      rcases z with z | z
      · rw [z, hDl]
        exact fun q => nomatch q
      · exact (s1.mono r').there z) hy hdi
    have r2 : R H1 H2 := Rel.more r' sm
    have hDl2 : H2 Dl = some (.lst vs) := sm _ _ hDl
    -- the slots without the comprehension's own
    have sa := sw.avoid r2 hD (by rw [hDl2]; exact fun q => nomatch q)
    have subw : ∀ (vv : List Nat) (a : Addr), Sx S0 (wipeS γ vv) (L2.wipe σ vv) a → Sx S0 γ σ a := fun vv => by
      induction vv with
      | nil => exact fun a z => z
      | cons v vv ih => exact fun a z => ih a (sx_no a z)
    have subs : ∀ a, Sx (fun a => a = Dl ∨ S0 a) (wipeS γ (own.map (·.2))) (L2.wipe σ (own.map (·.2))) a → a = Dl ∨ Sx S0 γ σ a := fun a z => by
      rcases z with (z | z) | z
      · exact .inl z
      · exact .inr (.inl z)
      · exact .inr (subw _ a (.inr z))
    refine hgt _ _ σ H2 x _ sa (dp_keep (off_keep (Keep.refl H2) subs) _ _ dx) fun σ' hw sg => ⟨hw, ?_⟩
    have step : made (i + 1) = made i ++ L[i].2.toList := by
      show (L.take (i + 1)).filterMap (·.2) = (L.take i).filterMap (·.2) ++ _
      rw [List.take_add_one, hLi]
      show (L.take i ++ [L[i]]).filterMap (·.2) = _
      rw [List.filterMap_append]
      congr 1
    have hml : (made i).length ≤ 1000 := by
      show ((L.take i).filterMap (·.2)).length ≤ 1000
      exact Nat.le_trans (List.length_filterMap_le _ _) (by rw [List.length_take]; omega)
    -- behind the element
    have fin : ∀ (H3 : Hp) (rr : D), R H2 H3 → L[i].2 = some rr → (∀ (s : Shared) (H : Hp) (C : Addr) (cl : List (Str × Addr)) (fp : List Addr), we (blkP X pn s H scope (compEnvC scope cl C X.env) fp) elt σ' H3 fun y H4 => ∃ acc, H4 Dl = some (.lst acc) ∧ acc.length < sizeLine ∧ R H1 (upd H4 Dl (.lst (acc ++ [y]))) ∧ ∃ vs, (upd H4 Dl (.lst (acc ++ [y]))) Dl = some (.lst vs) ∧ DtAll X.K (off (fun a => a = Dl ∨ Sx S0 γ σ a) (upd H4 Dl (.lst (acc ++ [y])))) vs (made (i + 1))) := fun H3 rr r3 hp s4 H4 C cl fp => by
      refine hel rr hp s4 H4 C cl fp _ _ σ' H3 _ (sg.mono r3) fun y H5 r5 dy => ?_
      have r35 := Rel.trans r3 r5
      have hD5 : H5 Dl = some (.lst vs) := Rel.keep r35 _ _ hDl2 (fun _ z => nomatch z)
      refine ⟨vs, hD5, Nat.lt_of_le_of_lt (by rw [dps_len hvs]; exact hml) (by decide), Rel.chgL (Rel.trans r2 r35) hD ⟨_, hD5⟩, vs ++ [y], upd_same, ?_⟩
      rw [step, hp]
      have k5 : Keep (off (fun a => a = Dl ∨ Sx S0 γ σ a) H5) (off (fun a => a = Dl ∨ Sx S0 γ σ a) (upd H5 Dl (.lst (vs ++ [y])))) := fun a u e n => by
        obtain ⟨h1, h2⟩ := off_some e
        refine off_of h1 ?_
        rw [upd_ne (fun z => h1 (.inl z))]
        exact h2
      refine dps_app (dps_keep (k5) _ _ (dts_up r35 (dps_keep (off_keep (Keep.of sm) fun _ z => z) _ _ hvs))) (dps_one (dp_keep k5 _ _ ?_))
      -- what comes does not hold a list of one's own: those stand in the slots that are left
      refine dp_keep (off_keep (Keep.refl H5) fun a z => ?_) _ _ dy
      rcases z with z | z
      · exact .inl (.inl z)
      · rcases z with z | ⟨j, y, v, z1, z2, z3⟩
        · exact .inl (.inr z)
        · have nj : j ∉ own.map (·.2) := fun q => by
            match y, z1, z3 with
            | .own o, z1, _ => exact hown j q o z1
          refine .inr ⟨j, y, v, ?_, ?_, z3⟩
          · rw [← wipeS_get nj, hwg, wipeS_get nj]
            exact z1
          · rw [← wipe_get nj, hw, wipe_get nj]
            exact z2
    show ∀ (s : Shared) (H : Hp) (C : Addr) (cl : List (Str × Addr)) (fp : List Addr), _ ∨ _
    intro s2 H3 C cl fp
    rcases htt s2 H3 C cl fp with ⟨e, hp⟩ | ⟨c, e, hct⟩
    · obtain ⟨rr, hr⟩ := Option.isSome_iff_exists.mp hp
      exact .inl ⟨e, iteT fun s H C cl fp => fin H2 rr (Rel.ends r2) hr s H C cl fp⟩
    · refine .inr ⟨c, e, hct _ _ σ' H2 _ sg fun H4 r4 => ?_⟩
      cases hp : L[i].2 with
      | some rr =>
        exact iteT fun s H C cl fp => fin H4 rr r4 hp s H C cl fp
      | none =>
        refine iteF ⟨Rel.trans r2 r4, vs, Rel.keep r4 _ _ hDl2 (fun _ z => nomatch z), ?_⟩
        rw [step, hp, Option.toList, List.append_nil]
        exact dts_up r4 (dps_keep (off_keep (Keep.of sm) fun _ z => z) _ _ hvs)
  · have e : i = L.length := by omega
    subst e
    refine .inl ⟨itd.stop _ H' _ kp (by rw [hln]; exact Nat.le_refl _), k Dl vs H' (Rel.free r1 hD) (Rel.trans r1 r') hDl ?_⟩
    have : made L.length = L.filterMap (·.2) := by
      show (L.take L.length).filterMap (·.2) = _
      rw [List.take_length]
    rw [this] at hvs
    exact hvs
theorem el_lc {elt tg iter : Expr} {ifs : List Expr} {scope : Scope} {own : List (Str × Nat)} {g : TG} {L : List (D × Option D)} (hc : X.calm = true) (hN : X.N.Nodup) (hi : EI R X γ tg iter (L.map (·.1))) (ok : BlkOk X.N X.env.scope scope own)
    (hg : ∀ (s : Shared) (H : Hp) (C : Addr) (cl : List (Str × Addr)) (fp : List Addr), PG (X.blk s H scope (compEnvC scope cl C X.env) fp) tg g)
    (hown : ∀ j ∈ own.map (·.2), ∀ es, γ[j]? ≠ some (.own es))
    (ht : ∀ e ∈ L, ∃ γ' : List Sl, wipeS γ' (own.map (·.2)) = wipeS γ (own.map (·.2)) ∧ (∀ (H0 : Hp) (S0 : Addr → Prop) (σ : L2.St) (H : Hp) (v : V) (Q : L2.St → Hp → Prop), SI R X.K H0 S0 (wipeS γ (own.map (·.2))) (L2.wipe σ (own.map (·.2))) H → Dt X.K (off (Sx S0 (wipeS γ (own.map (·.2))) (L2.wipe σ (own.map (·.2)))) H) v e.1 →
        (∀ σ', L2.wipe σ' (own.map (·.2)) = L2.wipe σ (own.map (·.2)) → SI R X.K H0 S0 γ' σ' H → Q σ' H) → g v (L2.wipe σ (own.map (·.2))) H Q) ∧
      (∀ (s : Shared) (H : Hp) (C : Addr) (cl : List (Str × Addr)) (fp : List Addr), (ifs = [] ∧ e.2.isSome = true) ∨ (∃ c, ifs = [c] ∧ ET R (X.blk s H scope (compEnvC scope cl C X.env) fp) γ' c e.2.isSome)) ∧
      (∀ r, e.2 = some r → ∀ (s : Shared) (H : Hp) (C : Addr) (cl : List (Str × Addr)) (fp : List Addr), EE R (X.blk s H scope (compEnvC scope cl C X.env) fp) γ' elt r))
    (hl : L.length ≤ 1000) (hs : ∀ x, foldedSetIterable iter X.env x = pure x := by intro _; rfl) :
    EL R X γ (.ListComp elt [⟨tg, iter, ifs, 0⟩] scope pos) (L.filterMap (·.2)) := by
  obtain ⟨wi, hpi, hwi⟩ := hi
  exact lc_gen (iter := iter) (tg := tg) [] hwi (fun tt te h1 h2 => ⟨pe_lc hc hN hpi ok hg h1 h2 hs, fun i y py spos hy hyl hsw => ps_setLc hc hN hy hyl hsw hpi ok hg h1 h2 hs⟩) hown ht hl
end
end An

/-! Comprehensions by their targets; statements; calls. -/
namespace An
open PySem PySem.Spec PyProof.Rows L2
section
variable {R : Hp → Hp → Prop} [RelC R] {X : Cx} {γ : List Sl} {pos : Pos}
/-- [elt for x in iter], [.. if c]: items are f of L, o tells what comes -/
theorem el_lc1 {α : Type} {elt iter : Expr} {ifs : List Expr} {scope : Scope} (x : Str) (j : Nat) (L : List α) (f : α → D) (o : α → Option D) {tp : Pos} (hc : X.calm = true) (hN : X.N.Nodup) (hi : EI R X γ (.Name x tp) iter (L.map f)) (ok : BlkOk X.N X.env.scope scope [(x, j)])
    (hg : ∀ (s : Shared) (H : Hp) (C : Addr) (cl : List (Str × Addr)) (fp : List Addr), PG (X.blk s H scope (compEnvC scope cl C X.env) fp) (.Name x tp) (gName j)) (hown : ∀ es, γ[j]? ≠ some (.own es))
    (hp : ∀ a ∈ L, ∀ (s : Shared) (H : Hp) (C : Addr) (cl : List (Str × Addr)) (fp : List Addr), (ifs = [] ∧ (o a).isSome = true) ∨ (∃ c, ifs = [c] ∧ ET R (X.blk s H scope (compEnvC scope cl C X.env) fp) (γ.set j (.dat (f a))) c (o a).isSome))
    (ht : ∀ a ∈ L, ∀ r, o a = some r → ∀ (s : Shared) (H : Hp) (C : Addr) (cl : List (Str × Addr)) (fp : List Addr), EE R (X.blk s H scope (compEnvC scope cl C X.env) fp) (γ.set j (.dat (f a))) elt r)
    (hl : L.length ≤ 1000) (hs : ∀ x, foldedSetIterable iter X.env x = pure x := by intro _; rfl) : EL R X γ (.ListComp elt [⟨.Name x tp, iter, ifs, 0⟩] scope pos) (L.filterMap o) := by
  have h := el_lc (pos := pos) (L := L.map fun a => (f a, o a)) (elt := elt) (ifs := ifs) (own := [(x, j)]) hc hN (by rw [List.map_map]; exact hi) ok hg (fun i hi es => by
    have e : i = j := by simpa using hi
    rw [e]
    exact hown es) (fun q hq => by
      obtain ⟨a, ha, rfl⟩ := List.mem_map.mp hq
      refine ⟨γ.set j (.dat (f a)), ?_, fun H0 S0 σ H v Q s h k => ?_, fun s H C cl fp => hp a ha s H C cl fp, fun r e => ht a ha r e⟩
      · show (γ.set j (.dat (f a))).set j .no = γ.set j .no
        rw [List.set_set]
      · show Q ((σ.set j none).set j (some v)) H
        refine k _ ?_ ?_
        · show ((σ.set j none).set j (some v)).set j none = σ.set j none
          rw [List.set_set, List.set_set]
        · have s2 := s.putD j h
          have e : (γ.set j .no).set j (.dat (f a)) = γ.set j (.dat (f a)) := List.set_set ..
          have s3 : SI R X.K H0 S0 ((γ.set j .no).set j (.dat (f a))) ((σ.set j none).set j (some v)) H := s2
          rw [e] at s3
          exact s3) (by rw [List.length_map]; exact hl) hs
  rw [List.filterMap_map] at h
  exact h
theorem ef_lc1 {α : Type} {elt iter : Expr} {ifs : List Expr} {scope : Scope} (x : Str) (j : Nat) (L : List α) (f : α → D) (o : α → Option D) {tp : Pos} (hc : X.calm = true) (hN : X.N.Nodup) (hi : EI R X γ (.Name x tp) iter (L.map f)) (ok : BlkOk X.N X.env.scope scope [(x, j)])
    (hg : ∀ (s : Shared) (H : Hp) (C : Addr) (cl : List (Str × Addr)) (fp : List Addr), PG (X.blk s H scope (compEnvC scope cl C X.env) fp) (.Name x tp) (gName j)) (hown : ∀ es, γ[j]? ≠ some (.own es))
    (hp : ∀ a ∈ L, ∀ (s : Shared) (H : Hp) (C : Addr) (cl : List (Str × Addr)) (fp : List Addr), (ifs = [] ∧ (o a).isSome = true) ∨ (∃ c, ifs = [c] ∧ ET R (X.blk s H scope (compEnvC scope cl C X.env) fp) (γ.set j (.dat (f a))) c (o a).isSome))
    (ht : ∀ a ∈ L, ∀ r, o a = some r → ∀ (s : Shared) (H : Hp) (C : Addr) (cl : List (Str × Addr)) (fp : List Addr), EE R (X.blk s H scope (compEnvC scope cl C X.env) fp) (γ.set j (.dat (f a))) elt r)
    (hl : L.length ≤ 1000) (hs : ∀ x, foldedSetIterable iter X.env x = pure x := by intro _; rfl) : EF R X γ (.ListComp elt [⟨.Name x tp, iter, ifs, 0⟩] scope pos) (L.filterMap o) :=
  (el_lc1 (pos := pos) x j L f o hc hN hi ok hg hown hp ht hl hs).ef
/-- [elt for x in iter] -/
theorem el_mapA {α : Type} {elt iter : Expr} {scope : Scope} (x : Str) (j : Nat) (L : List α) (f g : α → D) {tp : Pos} (hc : X.calm = true) (hN : X.N.Nodup) (hi : EI R X γ (.Name x tp) iter (L.map f)) (ok : BlkOk X.N X.env.scope scope [(x, j)])
    (hg : ∀ (s : Shared) (H : Hp) (C : Addr) (cl : List (Str × Addr)) (fp : List Addr), PG (X.blk s H scope (compEnvC scope cl C X.env) fp) (.Name x tp) (gName j)) (hown : ∀ es, γ[j]? ≠ some (.own es))
    (ht : ∀ a ∈ L, ∀ (s : Shared) (H : Hp) (C : Addr) (cl : List (Str × Addr)) (fp : List Addr), EE R (X.blk s H scope (compEnvC scope cl C X.env) fp) (γ.set j (.dat (f a))) elt (g a))
    (hl : L.length ≤ 1000) (hs : ∀ x, foldedSetIterable iter X.env x = pure x := by intro _; rfl) : EL R X γ (.ListComp elt [⟨.Name x tp, iter, [], 0⟩] scope pos) (L.map g) := by
  have h := el_lc1 (pos := pos) x j L f (fun a => some (g a)) (elt := elt) (ifs := []) hc hN hi ok hg hown (fun a ha s H C cl fp => .inl ⟨rfl, rfl⟩) (fun a ha r e => by cases e; exact ht a ha) hl hs
  rw [show (fun a => some (g a)) = (some ∘ g) from rfl, List.filterMap_eq_map] at h
  exact h
theorem ef_mapA {α : Type} {elt iter : Expr} {scope : Scope} (x : Str) (j : Nat) (L : List α) (f g : α → D) {tp : Pos} (hc : X.calm = true) (hN : X.N.Nodup) (hi : EI R X γ (.Name x tp) iter (L.map f)) (ok : BlkOk X.N X.env.scope scope [(x, j)])
    (hg : ∀ (s : Shared) (H : Hp) (C : Addr) (cl : List (Str × Addr)) (fp : List Addr), PG (X.blk s H scope (compEnvC scope cl C X.env) fp) (.Name x tp) (gName j)) (hown : ∀ es, γ[j]? ≠ some (.own es))
    (ht : ∀ a ∈ L, ∀ (s : Shared) (H : Hp) (C : Addr) (cl : List (Str × Addr)) (fp : List Addr), EE R (X.blk s H scope (compEnvC scope cl C X.env) fp) (γ.set j (.dat (f a))) elt (g a))
    (hl : L.length ≤ 1000) (hs : ∀ x, foldedSetIterable iter X.env x = pure x := by intro _; rfl) : EF R X γ (.ListComp elt [⟨.Name x tp, iter, [], 0⟩] scope pos) (L.map g) :=
  (el_mapA (pos := pos) x j L f g hc hN hi ok hg hown ht hl hs).ef
theorem filterMap_if {α β : Type} (p : α → Bool) (g : α → β) : ∀ L : List α, L.filterMap (fun a => if p a = true then some (g a) else none) = (L.filter p).map g
  | [] => rfl
  | a :: L => by
    rw [List.filterMap_cons, List.filter_cons, filterMap_if p g L]
    by_cases h : p a = true
    · rw [if_pos h, if_pos h]
      rfl
    · rw [if_neg h, if_neg h]
/-- [elt for x in iter if c] -/
theorem el_selA {α : Type} {elt iter c : Expr} {scope : Scope} (x : Str) (j : Nat) (L : List α) (f : α → D) (p : α → Bool) (g : α → D) {tp : Pos} (hc : X.calm = true) (hN : X.N.Nodup) (hi : EI R X γ (.Name x tp) iter (L.map f)) (ok : BlkOk X.N X.env.scope scope [(x, j)])
    (hg : ∀ (s : Shared) (H : Hp) (C : Addr) (cl : List (Str × Addr)) (fp : List Addr), PG (X.blk s H scope (compEnvC scope cl C X.env) fp) (.Name x tp) (gName j)) (hown : ∀ es, γ[j]? ≠ some (.own es))
    (hp : ∀ a ∈ L, ∀ (s : Shared) (H : Hp) (C : Addr) (cl : List (Str × Addr)) (fp : List Addr), ET R (X.blk s H scope (compEnvC scope cl C X.env) fp) (γ.set j (.dat (f a))) c (p a))
    (ht : ∀ a ∈ L, p a = true → ∀ (s : Shared) (H : Hp) (C : Addr) (cl : List (Str × Addr)) (fp : List Addr), EE R (X.blk s H scope (compEnvC scope cl C X.env) fp) (γ.set j (.dat (f a))) elt (g a))
    (hl : L.length ≤ 1000) (hs : ∀ x, foldedSetIterable iter X.env x = pure x := by intro _; rfl) : EL R X γ (.ListComp elt [⟨.Name x tp, iter, [c], 0⟩] scope pos) ((L.filter p).map g) := by
  have h := el_lc1 (pos := pos) x j L f (fun a => if p a = true then some (g a) else none) (elt := elt) (ifs := [c]) hc hN hi ok hg hown (fun a ha s H C cl fp => .inr ⟨c, rfl, by
    have := hp a ha s H C cl fp
    cases e : p a with
    | true => rw [e] at this; simpa using this
    | false => rw [e] at this; simpa using this⟩) (fun a ha r e => by
    by_cases q : p a = true
    · rw [if_pos q] at e
      cases e
      exact ht a ha q
    · rw [if_neg q] at e
      cases e) hl hs
  rw [filterMap_if] at h
  exact h
theorem ef_selA {α : Type} {elt iter c : Expr} {scope : Scope} (x : Str) (j : Nat) (L : List α) (f : α → D) (p : α → Bool) (g : α → D) {tp : Pos} (hc : X.calm = true) (hN : X.N.Nodup) (hi : EI R X γ (.Name x tp) iter (L.map f)) (ok : BlkOk X.N X.env.scope scope [(x, j)])
    (hg : ∀ (s : Shared) (H : Hp) (C : Addr) (cl : List (Str × Addr)) (fp : List Addr), PG (X.blk s H scope (compEnvC scope cl C X.env) fp) (.Name x tp) (gName j)) (hown : ∀ es, γ[j]? ≠ some (.own es))
    (hp : ∀ a ∈ L, ∀ (s : Shared) (H : Hp) (C : Addr) (cl : List (Str × Addr)) (fp : List Addr), ET R (X.blk s H scope (compEnvC scope cl C X.env) fp) (γ.set j (.dat (f a))) c (p a))
    (ht : ∀ a ∈ L, p a = true → ∀ (s : Shared) (H : Hp) (C : Addr) (cl : List (Str × Addr)) (fp : List Addr), EE R (X.blk s H scope (compEnvC scope cl C X.env) fp) (γ.set j (.dat (f a))) elt (g a))
    (hl : L.length ≤ 1000) (hs : ∀ x, foldedSetIterable iter X.env x = pure x := by intro _; rfl) : EF R X γ (.ListComp elt [⟨.Name x tp, iter, [c], 0⟩] scope pos) ((L.filter p).map g) :=
  (el_selA (pos := pos) x j L f p g hc hN hi ok hg hown hp ht hl hs).ef
theorem ef_map {elt iter : Expr} {scope : Scope} (x : Str) (j : Nat) {ds : List D} {tp : Pos} (o : D → D) (hc : X.calm = true) (hN : X.N.Nodup) (hi : EI R X γ (.Name x tp) iter ds) (ok : BlkOk X.N X.env.scope scope [(x, j)])
    (hg : ∀ (s : Shared) (H : Hp) (C : Addr) (cl : List (Str × Addr)) (fp : List Addr), PG (X.blk s H scope (compEnvC scope cl C X.env) fp) (.Name x tp) (gName j)) (hown : ∀ es, γ[j]? ≠ some (.own es))
    (ht : ∀ d ∈ ds, ∀ (s : Shared) (H : Hp) (C : Addr) (cl : List (Str × Addr)) (fp : List Addr), EE R (X.blk s H scope (compEnvC scope cl C X.env) fp) (γ.set j (.dat d)) elt (o d))
    (hl : ds.length ≤ 1000) (hs : ∀ x, foldedSetIterable iter X.env x = pure x := by intro _; rfl) : EF R X γ (.ListComp elt [⟨.Name x tp, iter, [], 0⟩] scope pos) (ds.map o) :=
  ef_mapA x j ds id o hc hN (by rw [List.map_id]; exact hi) ok hg hown ht hl hs
/-- the slots of a pair's names -/
theorem SI.putDD {K : PySem.W.Frag} {H0 H : Hp} {S0 : Addr → Prop} {σ : L2.St} (s : SI R K H0 S0 γ σ H) (i j : Nat) {v w : V} {d e : D} (h : Dt K (off (Sx S0 γ σ) H) v d) (h' : Dt K (off (Sx S0 γ σ) H) w e) : SI R K H0 S0 ((γ.set i (.dat d)).set j (.dat e)) ((σ.set i (some v)).set j (some w)) H := by
  have s1 := s.putD i h
  exact s1.putD j (dp_keep (off_keep (Keep.refl H) sx_dat) _ _ h')
/-- [elt for a, b in iter], [.. if c]: each item a pair -/
theorem el_lc2A {α : Type} {elt iter : Expr} {ifs : List Expr} {scope : Scope} (x y : Str) (i j : Nat) (L : List α) (f1 f2 : α → D) (o : α → Option D) {p1 p2 tp : Pos} {kk : Nat} (hij : i ≠ j) (hc : X.calm = true) (hN : X.N.Nodup)
    (hi : EI R X γ (.Tuple [.Name x p1, .Name y p2] kk tp) iter (L.map fun a => .tuple [f1 a, f2 a])) (ok : BlkOk X.N X.env.scope scope [(x, i), (y, j)])
    (hg : ∀ (s : Shared) (H : Hp) (C : Addr) (cl : List (Str × Addr)) (fp : List Addr), PG (X.blk s H scope (compEnvC scope cl C X.env) fp) (.Tuple [.Name x p1, .Name y p2] kk tp) (gTup X.K 2 (gCons (gName i) (gCons (gName j) gNil)))) (ho1 : ∀ es, γ[i]? ≠ some (.own es)) (ho2 : ∀ es, γ[j]? ≠ some (.own es))
    (hp : ∀ a ∈ L, ∀ (s : Shared) (H : Hp) (C : Addr) (cl : List (Str × Addr)) (fp : List Addr), (ifs = [] ∧ (o a).isSome = true) ∨ (∃ c, ifs = [c] ∧ ET R (X.blk s H scope (compEnvC scope cl C X.env) fp) ((γ.set i (.dat (f1 a))).set j (.dat (f2 a))) c (o a).isSome))
    (ht : ∀ a ∈ L, ∀ r, o a = some r → ∀ (s : Shared) (H : Hp) (C : Addr) (cl : List (Str × Addr)) (fp : List Addr), EE R (X.blk s H scope (compEnvC scope cl C X.env) fp) ((γ.set i (.dat (f1 a))).set j (.dat (f2 a))) elt r)
    (hl : L.length ≤ 1000) (hs : ∀ x, foldedSetIterable iter X.env x = pure x := by intro _; rfl) : EL R X γ (.ListComp elt [⟨.Tuple [.Name x p1, .Name y p2] kk tp, iter, ifs, 0⟩] scope pos) (L.filterMap o) := by
  have h := el_lc (pos := pos) (L := L.map fun a => (.tuple [f1 a, f2 a], o a)) (elt := elt) (ifs := ifs) (own := [(x, i), (y, j)]) hc hN (by rw [List.map_map]; exact hi) ok hg (fun k hk es => by
    have e : k = i ∨ k = j := by simpa using hk
    rcases e with e | e
    · rw [e]
      exact ho1 es
    · rw [e]
      exact ho2 es) (fun d hd => by
    obtain ⟨q, hq, rfl⟩ := List.mem_map.mp hd
    refine ⟨(γ.set i (.dat (f1 q))).set j (.dat (f2 q)), ?_, fun H0 S0 σ H v Q s h k => ?_, fun s H C cl fp => hp q hq s H C cl fp, fun r e => ht q hq r e⟩
    · show (((γ.set i (.dat (f1 q))).set j (.dat (f2 q))).set j .no).set i .no = (γ.set j .no).set i .no
      rw [List.set_set, List.set_comm _ _ hij, List.set_set]
    · cases h with
      | tup h1 h2 =>
        cases h2 with
        | cons e1 r1 =>
          cases r1 with
          | cons e2 r2 =>
            cases r2
            rename_i a v1 v2
            refine ⟨_, _, rfl, sqt_keep off_in h1, rfl, _, _, rfl, _, _, rfl, rfl, ?_⟩
            refine k ((((σ.set j none).set i none).set i (some v1)).set j (some v2)) ?_ ?_
            · show (((((σ.set j none).set i none).set i (some v1)).set j (some v2)).set j none).set i none = (σ.set j none).set i none
              rw [List.set_set, List.set_comm _ _ hij.symm, List.set_set, List.set_set, List.set_comm _ _ hij, List.set_set]
            · have s2 := s.putDD i j e1 e2
              have e : ((((γ.set j .no).set i .no).set i (.dat (f1 q))).set j (.dat (f2 q))) = (γ.set i (.dat (f1 q))).set j (.dat (f2 q)) := by
                rw [List.set_set, List.set_comm _ _ hij.symm, List.set_set]
              have s3 : SI R X.K H0 S0 ((((γ.set j .no).set i .no).set i (.dat (f1 q))).set j (.dat (f2 q))) ((((σ.set j none).set i none).set i (some v1)).set j (some v2)) H := s2
              rw [e] at s3
              exact s3) (by rw [List.length_map]; exact hl) hs
  rw [List.filterMap_map] at h
  exact h
theorem ef_lc2A {α : Type} {elt iter : Expr} {ifs : List Expr} {scope : Scope} (x y : Str) (i j : Nat) (L : List α) (f1 f2 : α → D) (o : α → Option D) {p1 p2 tp : Pos} {kk : Nat} (hij : i ≠ j) (hc : X.calm = true) (hN : X.N.Nodup)
    (hi : EI R X γ (.Tuple [.Name x p1, .Name y p2] kk tp) iter (L.map fun a => .tuple [f1 a, f2 a])) (ok : BlkOk X.N X.env.scope scope [(x, i), (y, j)])
    (hg : ∀ (s : Shared) (H : Hp) (C : Addr) (cl : List (Str × Addr)) (fp : List Addr), PG (X.blk s H scope (compEnvC scope cl C X.env) fp) (.Tuple [.Name x p1, .Name y p2] kk tp) (gTup X.K 2 (gCons (gName i) (gCons (gName j) gNil)))) (ho1 : ∀ es, γ[i]? ≠ some (.own es)) (ho2 : ∀ es, γ[j]? ≠ some (.own es))
    (hp : ∀ a ∈ L, ∀ (s : Shared) (H : Hp) (C : Addr) (cl : List (Str × Addr)) (fp : List Addr), (ifs = [] ∧ (o a).isSome = true) ∨ (∃ c, ifs = [c] ∧ ET R (X.blk s H scope (compEnvC scope cl C X.env) fp) ((γ.set i (.dat (f1 a))).set j (.dat (f2 a))) c (o a).isSome))
    (ht : ∀ a ∈ L, ∀ r, o a = some r → ∀ (s : Shared) (H : Hp) (C : Addr) (cl : List (Str × Addr)) (fp : List Addr), EE R (X.blk s H scope (compEnvC scope cl C X.env) fp) ((γ.set i (.dat (f1 a))).set j (.dat (f2 a))) elt r)
    (hl : L.length ≤ 1000) (hs : ∀ x, foldedSetIterable iter X.env x = pure x := by intro _; rfl) : EF R X γ (.ListComp elt [⟨.Tuple [.Name x p1, .Name y p2] kk tp, iter, ifs, 0⟩] scope pos) (L.filterMap o) :=
  (el_lc2A (pos := pos) x y i j L f1 f2 o hij hc hN hi ok hg ho1 ho2 hp ht hl hs).ef
theorem el_map2A {α : Type} {elt iter : Expr} {scope : Scope} (x y : Str) (i j : Nat) (L : List α) (f1 f2 g : α → D) {p1 p2 tp : Pos} {kk : Nat} (hij : i ≠ j) (hc : X.calm = true) (hN : X.N.Nodup)
    (hi : EI R X γ (.Tuple [.Name x p1, .Name y p2] kk tp) iter (L.map fun a => .tuple [f1 a, f2 a])) (ok : BlkOk X.N X.env.scope scope [(x, i), (y, j)])
    (hg : ∀ (s : Shared) (H : Hp) (C : Addr) (cl : List (Str × Addr)) (fp : List Addr), PG (X.blk s H scope (compEnvC scope cl C X.env) fp) (.Tuple [.Name x p1, .Name y p2] kk tp) (gTup X.K 2 (gCons (gName i) (gCons (gName j) gNil)))) (ho1 : ∀ es, γ[i]? ≠ some (.own es)) (ho2 : ∀ es, γ[j]? ≠ some (.own es))
    (ht : ∀ a ∈ L, ∀ (s : Shared) (H : Hp) (C : Addr) (cl : List (Str × Addr)) (fp : List Addr), EE R (X.blk s H scope (compEnvC scope cl C X.env) fp) ((γ.set i (.dat (f1 a))).set j (.dat (f2 a))) elt (g a))
    (hl : L.length ≤ 1000) (hs : ∀ x, foldedSetIterable iter X.env x = pure x := by intro _; rfl) : EL R X γ (.ListComp elt [⟨.Tuple [.Name x p1, .Name y p2] kk tp, iter, [], 0⟩] scope pos) (L.map g) := by
  have h := el_lc2A (pos := pos) x y i j L f1 f2 (fun a => some (g a)) (elt := elt) (ifs := []) hij hc hN hi ok hg ho1 ho2 (fun a ha s H C cl fp => .inl ⟨rfl, rfl⟩) (fun a ha r e => by cases e; exact ht a ha) hl hs
  rw [show (fun a => some (g a)) = (some ∘ g) from rfl, List.filterMap_eq_map] at h
  exact h
theorem ef_map2A {α : Type} {elt iter : Expr} {scope : Scope} (x y : Str) (i j : Nat) (L : List α) (f1 f2 g : α → D) {p1 p2 tp : Pos} {kk : Nat} (hij : i ≠ j) (hc : X.calm = true) (hN : X.N.Nodup)
    (hi : EI R X γ (.Tuple [.Name x p1, .Name y p2] kk tp) iter (L.map fun a => .tuple [f1 a, f2 a])) (ok : BlkOk X.N X.env.scope scope [(x, i), (y, j)])
    (hg : ∀ (s : Shared) (H : Hp) (C : Addr) (cl : List (Str × Addr)) (fp : List Addr), PG (X.blk s H scope (compEnvC scope cl C X.env) fp) (.Tuple [.Name x p1, .Name y p2] kk tp) (gTup X.K 2 (gCons (gName i) (gCons (gName j) gNil)))) (ho1 : ∀ es, γ[i]? ≠ some (.own es)) (ho2 : ∀ es, γ[j]? ≠ some (.own es))
    (ht : ∀ a ∈ L, ∀ (s : Shared) (H : Hp) (C : Addr) (cl : List (Str × Addr)) (fp : List Addr), EE R (X.blk s H scope (compEnvC scope cl C X.env) fp) ((γ.set i (.dat (f1 a))).set j (.dat (f2 a))) elt (g a))
    (hl : L.length ≤ 1000) (hs : ∀ x, foldedSetIterable iter X.env x = pure x := by intro _; rfl) : EF R X γ (.ListComp elt [⟨.Tuple [.Name x p1, .Name y p2] kk tp, iter, [], 0⟩] scope pos) (L.map g) :=
  (el_map2A (pos := pos) x y i j L f1 f2 g hij hc hN hi ok hg ho1 ho2 ht hl hs).ef
theorem el_sel2A {α : Type} {elt iter c : Expr} {scope : Scope} (x y : Str) (i j : Nat) (L : List α) (f1 f2 : α → D) (p : α → Bool) (g : α → D) {p1 p2 tp : Pos} {kk : Nat} (hij : i ≠ j) (hc : X.calm = true) (hN : X.N.Nodup)
    (hi : EI R X γ (.Tuple [.Name x p1, .Name y p2] kk tp) iter (L.map fun a => .tuple [f1 a, f2 a])) (ok : BlkOk X.N X.env.scope scope [(x, i), (y, j)])
    (hg : ∀ (s : Shared) (H : Hp) (C : Addr) (cl : List (Str × Addr)) (fp : List Addr), PG (X.blk s H scope (compEnvC scope cl C X.env) fp) (.Tuple [.Name x p1, .Name y p2] kk tp) (gTup X.K 2 (gCons (gName i) (gCons (gName j) gNil)))) (ho1 : ∀ es, γ[i]? ≠ some (.own es)) (ho2 : ∀ es, γ[j]? ≠ some (.own es))
    (hp : ∀ a ∈ L, ∀ (s : Shared) (H : Hp) (C : Addr) (cl : List (Str × Addr)) (fp : List Addr), ET R (X.blk s H scope (compEnvC scope cl C X.env) fp) ((γ.set i (.dat (f1 a))).set j (.dat (f2 a))) c (p a))
    (ht : ∀ a ∈ L, p a = true → ∀ (s : Shared) (H : Hp) (C : Addr) (cl : List (Str × Addr)) (fp : List Addr), EE R (X.blk s H scope (compEnvC scope cl C X.env) fp) ((γ.set i (.dat (f1 a))).set j (.dat (f2 a))) elt (g a))
    (hl : L.length ≤ 1000) (hs : ∀ x, foldedSetIterable iter X.env x = pure x := by intro _; rfl) : EL R X γ (.ListComp elt [⟨.Tuple [.Name x p1, .Name y p2] kk tp, iter, [c], 0⟩] scope pos) ((L.filter p).map g) := by
  have h := el_lc2A (pos := pos) x y i j L f1 f2 (fun a => if p a = true then some (g a) else none) (elt := elt) (ifs := [c]) hij hc hN hi ok hg ho1 ho2 (fun a ha s H C cl fp => .inr ⟨c, rfl, by
    have := hp a ha s H C cl fp
    cases e : p a with
    | true => rw [e] at this; simpa using this
    | false => rw [e] at this; simpa using this⟩) (fun a ha r e => by
    by_cases q : p a = true
    · rw [if_pos q] at e
      cases e
      exact ht a ha q
    · rw [if_neg q] at e
      cases e) hl hs
  rw [filterMap_if] at h
  exact h
theorem ef_sel2A {α : Type} {elt iter c : Expr} {scope : Scope} (x y : Str) (i j : Nat) (L : List α) (f1 f2 : α → D) (p : α → Bool) (g : α → D) {p1 p2 tp : Pos} {kk : Nat} (hij : i ≠ j) (hc : X.calm = true) (hN : X.N.Nodup)
    (hi : EI R X γ (.Tuple [.Name x p1, .Name y p2] kk tp) iter (L.map fun a => .tuple [f1 a, f2 a])) (ok : BlkOk X.N X.env.scope scope [(x, i), (y, j)])
    (hg : ∀ (s : Shared) (H : Hp) (C : Addr) (cl : List (Str × Addr)) (fp : List Addr), PG (X.blk s H scope (compEnvC scope cl C X.env) fp) (.Tuple [.Name x p1, .Name y p2] kk tp) (gTup X.K 2 (gCons (gName i) (gCons (gName j) gNil)))) (ho1 : ∀ es, γ[i]? ≠ some (.own es)) (ho2 : ∀ es, γ[j]? ≠ some (.own es))
    (hp : ∀ a ∈ L, ∀ (s : Shared) (H : Hp) (C : Addr) (cl : List (Str × Addr)) (fp : List Addr), ET R (X.blk s H scope (compEnvC scope cl C X.env) fp) ((γ.set i (.dat (f1 a))).set j (.dat (f2 a))) c (p a))
    (ht : ∀ a ∈ L, p a = true → ∀ (s : Shared) (H : Hp) (C : Addr) (cl : List (Str × Addr)) (fp : List Addr), EE R (X.blk s H scope (compEnvC scope cl C X.env) fp) ((γ.set i (.dat (f1 a))).set j (.dat (f2 a))) elt (g a))
    (hl : L.length ≤ 1000) (hs : ∀ x, foldedSetIterable iter X.env x = pure x := by intro _; rfl) : EF R X γ (.ListComp elt [⟨.Tuple [.Name x p1, .Name y p2] kk tp, iter, [c], 0⟩] scope pos) ((L.filter p).map g) :=
  (el_sel2A (pos := pos) x y i j L f1 f2 p g hij hc hN hi ok hg ho1 ho2 hp ht hl hs).ef
theorem ef_lc2 {elt iter : Expr} {ifs : List Expr} {scope : Scope} (x y : Str) (i j : Nat) {ds : List (D × D)} {p1 p2 tp : Pos} {kk : Nat} (p : D → D → Bool) (o : D → D → D) (hij : i ≠ j) (hc : X.calm = true) (hN : X.N.Nodup)
    (hi : EI R X γ (.Tuple [.Name x p1, .Name y p2] kk tp) iter (ds.map fun q => .tuple [q.1, q.2])) (ok : BlkOk X.N X.env.scope scope [(x, i), (y, j)])
    (hg : ∀ (s : Shared) (H : Hp) (C : Addr) (cl : List (Str × Addr)) (fp : List Addr), PG (X.blk s H scope (compEnvC scope cl C X.env) fp) (.Tuple [.Name x p1, .Name y p2] kk tp) (gTup X.K 2 (gCons (gName i) (gCons (gName j) gNil)))) (ho1 : ∀ es, γ[i]? ≠ some (.own es)) (ho2 : ∀ es, γ[j]? ≠ some (.own es))
    (hp : ∀ q ∈ ds, ∀ (s : Shared) (H : Hp) (C : Addr) (cl : List (Str × Addr)) (fp : List Addr), (ifs = [] ∧ p q.1 q.2 = true) ∨ (∃ c, ifs = [c] ∧ ET R (X.blk s H scope (compEnvC scope cl C X.env) fp) ((γ.set i (.dat q.1)).set j (.dat q.2)) c (p q.1 q.2)))
    (ht : ∀ q ∈ ds, p q.1 q.2 = true → ∀ (s : Shared) (H : Hp) (C : Addr) (cl : List (Str × Addr)) (fp : List Addr), EE R (X.blk s H scope (compEnvC scope cl C X.env) fp) ((γ.set i (.dat q.1)).set j (.dat q.2)) elt (o q.1 q.2))
    (hl : ds.length ≤ 1000) (hs : ∀ x, foldedSetIterable iter X.env x = pure x := by intro _; rfl) : EF R X γ (.ListComp elt [⟨.Tuple [.Name x p1, .Name y p2] kk tp, iter, ifs, 0⟩] scope pos) ((ds.filter fun q => p q.1 q.2).map fun q => o q.1 q.2) := by
  have h := el_lc2A (pos := pos) x y i j ds (·.1) (·.2) (fun q => if p q.1 q.2 = true then some (o q.1 q.2) else none) (elt := elt) (ifs := ifs) hij hc hN hi ok hg ho1 ho2 (fun q hq s H C cl fp => by
    have e : (if p q.1 q.2 = true then some (o q.1 q.2) else none).isSome = p q.1 q.2 := by
      cases p q.1 q.2 <;> rfl
    rw [e]
    exact hp q hq s H C cl fp) (fun q hq r e => by
    by_cases z : p q.1 q.2 = true
    · rw [if_pos z] at e
      cases e
      exact ht q hq z
    · rw [if_neg z] at e
      cases e) hl hs
  rw [filterMap_if (fun q : D × D => p q.1 q.2) (fun q => o q.1 q.2)] at h
  exact h.ef
end
/-! ### statements -/
/-- what is wanted behind statements -/
structure Po where
  nx : List Sl → Prop := fun _ => False
  rt : D → Prop := fun _ => False
  /-- a new list comes back -/
  rn : List D → Prop := fun _ => False
  bk : List Sl → Prop := fun _ => False
  ct : List Sl → Prop := fun _ => False
  rz : Value → Prop := fun _ => False
def SS (R : Hp → Hp → Prop) (X : Cx) (γ : List Sl) (st : List Stmt) (P : Po) : Prop :=
  ∀ (H0 : Hp) (S0 : Addr → Prop) (σ : L2.St) (H : Hp) (E : Ends) (W : XK), SI R X.K H0 S0 γ σ H → L2N.Takes X (fun c d _ H' => W c d H') →
    (∀ γ' σ' H', P.nx γ' → SI R X.K H0 S0 γ' σ' H' → E.nx σ' H') → ((∀ d v H', P.rt d → R H0 H' → Dt X.K (off S0 H') v d → E.rt v H') ∧ ∀ ds p vs H', P.rn ds → R H0 H' → H0 p = none → H' p = some (.lst vs) → DtAll X.K (off (fun a => a = p ∨ S0 a) H') vs ds → E.rt (.ref p) H') →
    (∀ γ' σ' H', P.bk γ' → SI R X.K H0 S0 γ' σ' H' → E.bk σ' H') → (∀ γ' σ' H', P.ct γ' → SI R X.K H0 S0 γ' σ' H' → E.ct σ' H') → (∀ c H', P.rz c → R H0 H' → W c none H') → wss X st E σ H
def S1 (R : Hp → Hp → Prop) (X : Cx) (γ : List Sl) (st : Stmt) (P : Po) : Prop :=
  ∀ (H0 : Hp) (S0 : Addr → Prop) (σ : L2.St) (H : Hp) (E : Ends) (W : XK), SI R X.K H0 S0 γ σ H → L2N.Takes X (fun c d _ H' => W c d H') →
    (∀ γ' σ' H', P.nx γ' → SI R X.K H0 S0 γ' σ' H' → E.nx σ' H') → ((∀ d v H', P.rt d → R H0 H' → Dt X.K (off S0 H') v d → E.rt v H') ∧ ∀ ds p vs H', P.rn ds → R H0 H' → H0 p = none → H' p = some (.lst vs) → DtAll X.K (off (fun a => a = p ∨ S0 a) H') vs ds → E.rt (.ref p) H') →
    (∀ γ' σ' H', P.bk γ' → SI R X.K H0 S0 γ' σ' H' → E.bk σ' H') → (∀ γ' σ' H', P.ct γ' → SI R X.K H0 S0 γ' σ' H' → E.ct σ' H') → (∀ c H', P.rz c → R H0 H' → W c none H') → ws X st E σ H
theorem passN {X : Cx} : Passes (L2N.CX X.prog X.w) X E0 := fun _ _ _ _ _ _ _ h => by
  obtain ⟨_, _, _, _, _, _, _, _, _, _, _, _, z⟩ := h
  exact z.elim
section
variable {R : Hp → Hp → Prop} [RelC R] {X : Cx} {γ : List Sl} {P : Po} {pos : Pos} {rest : List Stmt}
theorem dt_S0 {K : PySem.W.Frag} {S0 : Addr → Prop} {σ : L2.St} {H : Hp} {v : V} {d : D} (h : Dt K (off (Sx S0 γ σ) H) v d) : Dt K (off S0 H) v d := dp_keep (off_keep (Keep.refl H) fun _ z => .inl z) _ _ h
theorem ss_nil (h : P.nx γ) : SS R X γ [] P := fun H0 S0 σ H E W s tk n r b c z => wss_of pss_nil (n γ σ H h s)
/-- one statement, then the rest -/
theorem ss_cons {st : Stmt} (h : S1 R X γ st { P with nx := fun γ' => SS R X γ' rest P }) : SS R X γ (st :: rest) P := fun H0 S0 σ H E W s tk n r b c z =>
  wss_of (pss_cons ps_ws pss_wss) (h H0 S0 σ H { E with nx := fun σ' H' => wss X rest E σ' H' } W s tk (fun γ' σ' H' q s' => q H0 S0 σ' H' E W s' tk n r b c z) r b c z)
theorem ss_one {st : Stmt} (h : S1 R X γ st P) : SS R X γ [st] P := fun H0 S0 σ H E W s tk n r b c z => wss_of (pss_one ps_ws) (h H0 S0 σ H E W s tk n r b c z)
theorem ss_imp {st : List Stmt} {P' : Po} (h : SS R X γ st P') (h1 : ∀ g, P'.nx g → P.nx g) (h2 : ∀ d, P'.rt d → P.rt d) (h3 : ∀ g, P'.bk g → P.bk g) (h4 : ∀ g, P'.ct g → P.ct g) (h5 : ∀ c, P'.rz c → P.rz c) (h6 : ∀ ds, P'.rn ds → P.rn ds := by exact fun _ z => z) : SS R X γ st P := fun H0 S0 σ H E W s tk n r b c z =>
  h H0 S0 σ H E W s tk (fun g x y q => n g x y (h1 g q)) ⟨fun d v y q => r.1 d v y (h2 d q), fun ds p vs y q => r.2 ds p vs y (h6 ds q)⟩ (fun g x y q => b g x y (h3 g q)) (fun g x y q => c g x y (h4 g q)) fun d y q => z d y (h5 d q)
theorem s1_imp {st : Stmt} {P' : Po} (h : S1 R X γ st P') (h1 : ∀ g, P'.nx g → P.nx g) (h2 : ∀ d, P'.rt d → P.rt d := by exact fun _ z => z) (h3 : ∀ g, P'.bk g → P.bk g := by exact fun _ z => z) (h4 : ∀ g, P'.ct g → P.ct g := by exact fun _ z => z) (h5 : ∀ c, P'.rz c → P.rz c := by exact fun _ z => z) (h6 : ∀ ds, P'.rn ds → P.rn ds := by exact fun _ z => z) : S1 R X γ st P := fun H0 S0 σ H E W s tk n r b c z =>
  h H0 S0 σ H E W s tk (fun g x y q => n g x y (h1 g q)) ⟨fun d v y q => r.1 d v y (h2 d q), fun ds p vs y q => r.2 ds p vs y (h6 ds q)⟩ (fun g x y q => b g x y (h3 g q)) (fun g x y q => c g x y (h4 g q)) fun d y q => z d y (h5 d q)
/-- a statement, by itself, that leads to the slots γ' -/
theorem ss_mid {st : Stmt} (γ' : List Sl) (h : S1 R X γ st { P with nx := fun g => g = γ' }) (k : SS R X γ' rest P) : SS R X γ (st :: rest) P := ss_cons (s1_imp h fun g e => by
  have e : g = γ' := e
  rw [e]
  exact k)
/-- a statement, by itself, that leads to slots of which T holds -/
theorem ss_midT {st : Stmt} (T : List Sl → Prop) (h : S1 R X γ st { P with nx := T }) (k : ∀ g, T g → SS R X g rest P) : SS R X γ (st :: rest) P := ss_cons (s1_imp h fun g e => k g e)
/-- a statement that leaves the slots -/
theorem ss_keep {st : Stmt} (h : S1 R X γ st { P with nx := fun g => g = γ }) (k : SS R X γ rest P) : SS R X γ (st :: rest) P := ss_mid γ h k
/-- other slots that say the same -/
theorem ss_eq {st : List Stmt} {γ' : List Sl} (e : γ = γ') (h : SS R X γ' st P) : SS R X γ st P := by
  rw [e]
  exact h
/-- a list of one's own is data from here on -/
theorem ss_freeze {st : List Stmt} (i : Nat) {ds : List D} (h : SS R X (γ.set i (.dat (.list ds))) st P) (hi : γ[i]? = some (.own ds) := by rfl) : SS R X γ st P := fun H0 S0 σ H E W s tk n r b c z => h H0 S0 σ H E W (s.freeze hi) tk n r b c z
theorem s1_pass (h : P.nx γ) : S1 R X γ (.Pass pos) P := fun H0 S0 σ H E W s tk n r b c z => ws_of ps_pass (n γ σ H h s)
theorem s1_ret {e : Expr} {d : D} (he : EE R X γ e d) (h : P.rt d) : S1 R X γ (.Return (some e) pos) P := fun H0 S0 σ H E W s tk n r b c z =>
  ws_of (ps_ret pe_we) (he H0 S0 σ H _ s fun v H1 r1 d1 => r.1 d v H1 h (Rel.trans s.rel r1) (dt_S0 d1))
/-- a new list goes back -/
theorem s1_retF {e : Expr} {ds : List D} (he : EF R X γ e ds) (h : P.rn ds) : S1 R X γ (.Return (some e) pos) P := fun H0 S0 σ H E W s tk n r b c z =>
  ws_of (ps_ret pe_we) (he H0 S0 σ H _ s fun p vs H1 n1 r1 e1 d1 => r.2 ds p vs H1 h (Rel.trans s.rel r1) (Rel.free s.rel n1) e1 (dps_keep (off_keep (Keep.refl H1) fun a z => z.imp id .inl) _ _ d1))
/-- a list of one's own goes back -/
theorem s1_retO (i : Nat) {x : Str} {ds : List D} {p : Pos} (h : P.rn ds) (hi : γ[i]? = some (.own ds) := by rfl) (hN : X.N[i]? = some x := by rfl)
    (hv : Vis X.env.scope x := by first | exact Or.inl rfl | exact Or.inr (Or.inl rfl) | exact Or.inr (Or.inr rfl)) (hd : (x == ("__debug__" : Str)) = false := by decide) (hcd : (x == ("__classdict__" : Str)) = false := by decide) :
    S1 R X γ (.Return (some (.Name x p)) pos) P := fun H0 S0 σ H E W s tk n r b c z => by
  obtain ⟨l, vs, h1, h2, h3, h4⟩ := s.own i ds hi
  refine ws_of (ps_ret (pe_var hN hv hd hcd)) ⟨_, h1, r.2 ds l vs H h s.rel h2 h3 (dps_keep (off_keep (Keep.refl H) fun a z => ?_) _ _ h4)⟩
  rcases z with z | z
  · rw [z]
    exact .inr ⟨i, _, _, hi, h1, rfl⟩
  · exact .inl z
theorem s1_retN (h : P.rt .none) : S1 R X γ (.Return none pos) P := fun H0 S0 σ H E W s tk n r b c z =>
  ws_of ps_retN (r.1 .none .non H h s.rel .non)
theorem s1_expr {e : Expr} {d : D} (he : EE R X γ e d) (h : P.nx γ) (hs : swapsWith e none pos.line X.env = pure false := by rfl) : S1 R X γ (.Expr e pos) P := fun H0 S0 σ H E W s tk n r b c z =>
  ws_of (ps_expr pe_we hs) (he H0 S0 σ H _ s fun v H1 r1 d1 => n γ σ H1 h (s.mono r1))
theorem s1_set (i : Nat) {x : Str} {e : Expr} {d : D} {p : Pos} (he : EE R X γ e d) (h : P.nx (γ.set i (.dat d))) (hN : X.N.Nodup) (hi : X.N[i]? = some x := by rfl) (hx : Loc X.env.scope x := by first | exact Or.inl rfl | exact Or.inr rfl)
    (hs : swapsWith e (some (.Name x p)) pos.line X.env = pure false := by rfl) (hf : X.fn x = true ∨ X.env.scope.names.lookup x = some .local := by first | exact .inl rfl | exact .inr rfl | assumption) : S1 R X γ (.Assign [.Name x p] e pos) P := fun H0 S0 σ H E W s tk n r b c z =>
  ws_of (ps_set hN hi hx pe_we hs hf) (he H0 S0 σ H _ s fun v H1 r1 d1 => n _ _ H1 h ((s.mono r1).putD i d1))
/-- a value that isn't told as data -/
theorem s1_setV (i : Nat) {x : Str} {e : Expr} {v : V} {p : Pos} (he : EV R X γ e v) (h : P.nx (γ.set i (.val v))) (hN : X.N.Nodup) (hi : X.N[i]? = some x := by rfl) (hx : Loc X.env.scope x := by first | exact Or.inl rfl | exact Or.inr rfl)
    (hs : swapsWith e (some (.Name x p)) pos.line X.env = pure false := by rfl) (hf : X.fn x = true ∨ X.env.scope.names.lookup x = some .local := by first | exact .inl rfl | exact .inr rfl | assumption) : S1 R X γ (.Assign [.Name x p] e pos) P := fun H0 S0 σ H E W s tk n r b c z =>
  ws_of (ps_set hN hi hx pe_we hs hf) (he H0 S0 σ H _ s fun H1 r1 => n _ _ H1 h ((s.mono r1).putV i))
/-- x = a new list, which this body may change -/
theorem s1_setO (i : Nat) {x : Str} {e : Expr} {ds : List D} {p : Pos} (he : EF R X γ e ds) (h : P.nx (γ.set i (.own ds))) (hN : X.N.Nodup) (ho : ∀ es, γ[i]? ≠ some (.own es)) (hi : X.N[i]? = some x := by rfl) (hx : Loc X.env.scope x := by first | exact Or.inl rfl | exact Or.inr rfl)
    (hs : swapsWith e (some (.Name x p)) pos.line X.env = pure false := by rfl) (hf : X.fn x = true ∨ X.env.scope.names.lookup x = some .local := by first | exact .inl rfl | exact .inr rfl | assumption) : S1 R X γ (.Assign [.Name x p] e pos) P := fun H0 S0 σ H E W s tk n r b c z =>
  ws_of (ps_set hN hi hx pe_we hs hf) (he H0 S0 σ H _ s fun l vs H1 n1 r1 h1 d1 => n _ _ H1 h (s.putO i r1 n1 h1 d1))
theorem el_is {e : Expr} {ds ds' : List D} (h : EL R X γ e ds) (q : ds = ds') : EL R X γ e ds' := by
  rw [← q]
  exact h
/-- x = [.. for ..], where the swap is decided -/
theorem s1_setLc (i : Nat) {x : Str} {e : Expr} {ds : List D} {p : Pos} (he : EL R X γ e ds) (h : P.nx (γ.set i (.dat (.list ds)))) (hi : X.N[i]? = some x := by rfl) (hx : X.env.scope.names.lookup x = some .local := by rfl)
    (hs : swapsWith e (some (.Name x p)) pos.line X.env = pure true := by rfl) : S1 R X γ (.Assign [.Name x p] e pos) P := fun H0 S0 σ H E W s tk n r b c z => by
  obtain ⟨t, ⟨_, h1⟩, h2⟩ := he
  refine ws_of (h1 i x p pos hi hx hs) (h2 H0 S0 σ H _ s fun l vs H1 n1 r1 h3 d1 => n _ _ H1 h ((s.mono r1).putD i (.lst (.inl (off_of (fun z => ?_) h3)) (dps_keep (off_keep (Keep.refl H1) fun a z => .inr z) _ _ d1))))
  exact s.there z n1
theorem s1_setLcO (i : Nat) {x : Str} {e : Expr} {ds : List D} {p : Pos} (he : EL R X γ e ds) (h : P.nx (γ.set i (.own ds))) (ho : ∀ es, γ[i]? ≠ some (.own es)) (hi : X.N[i]? = some x := by rfl) (hx : X.env.scope.names.lookup x = some .local := by rfl)
    (hs : swapsWith e (some (.Name x p)) pos.line X.env = pure true := by rfl) : S1 R X γ (.Assign [.Name x p] e pos) P := fun H0 S0 σ H E W s tk n r b c z => by
  obtain ⟨t, ⟨_, h1⟩, h2⟩ := he
  exact ws_of (h1 i x p pos hi hx hs) (h2 H0 S0 σ H _ s fun l vs H1 n1 r1 h3 d1 => n _ _ H1 h (s.putO i r1 n1 h3 d1))
/-- a, b = x, y: two local names -/
theorem s1_par (i j : Nat) {x y : Str} {a b : Expr} {d1 d2 : D} {px py pt pt2 : Pos} {kt k2 : Nat} (ha : EE R X γ a d1) (hb : EE R X γ b d2) (h : P.nx ((γ.set i (.dat d1)).set j (.dat d2))) (hc : X.calm = true) (hN : X.N.Nodup) (hij : i ≠ j := by decide) (hi : X.N[i]? = some x := by rfl) (hj : X.N[j]? = some y := by rfl)
    (hx : X.env.scope.names.lookup x = some .local := by rfl) (hy : X.env.scope.names.lookup y = some .local := by rfl)
    (hw : swappedStores [.Tuple [.Name x px, .Name y py] kt pt] (.Tuple [a, b] k2 pt2) X.env = pure (some [x, y]) := by rfl)
    (hs : swapsWithSole [.Tuple [.Name x px, .Name y py] kt pt] (.Tuple [a, b] k2 pt2) pos.line X.env = pure false := by rfl)
    (hst : starEach [a, b] X.env = (false, eval a X.env) :: starEach [b] X.env := by rfl) (hst2 : starEach [b] X.env = [(false, eval b X.env)] := by rfl) :
    S1 R X γ (.Assign [.Tuple [.Name x px, .Name y py] kt pt] (.Tuple [a, b] k2 pt2) pos) P := fun H0 S0 σ H E W s tk n r bk c z =>
  ws_of (ps_par hc hN hi hj hij hx hy pa_wa hw hs) ((ea_cons ha (ea_cons hb ea_nil hst2) hst) H0 S0 σ H _ s fun vs H1 r1 dd => by
    cases dd with
    | cons e1 t =>
      cases t with
      | cons e2 t =>
        cases t
        exact ⟨_, _, rfl, n _ _ H1 h ((s.mono r1).putDD i j e1 e2)⟩)
/-- a, b = x, y: the first a new list, which this body may change -/
theorem s1_parO (i j : Nat) {x y : Str} {a b : Expr} {ds : List D} {d2 : D} {px py pt pt2 : Pos} {kt k2 : Nat} (ha : EF R X γ a ds) (hb : EE R X γ b d2) (h : P.nx ((γ.set i (.own (.l ds))).set j (.dat d2))) (hc : X.calm = true) (hN : X.N.Nodup) (hij : i ≠ j := by decide) (hi : X.N[i]? = some x := by rfl) (hj : X.N[j]? = some y := by rfl)
    (hx : X.env.scope.names.lookup x = some .local := by rfl) (hy : X.env.scope.names.lookup y = some .local := by rfl)
    (hw : swappedStores [.Tuple [.Name x px, .Name y py] kt pt] (.Tuple [a, b] k2 pt2) X.env = pure (some [x, y]) := by rfl)
    (hs : swapsWithSole [.Tuple [.Name x px, .Name y py] kt pt] (.Tuple [a, b] k2 pt2) pos.line X.env = pure false := by rfl)
    (hst : starEach [a, b] X.env = (false, eval a X.env) :: starEach [b] X.env := by rfl) (hst2 : starEach [b] X.env = [(false, eval b X.env)] := by rfl) :
    S1 R X γ (.Assign [.Tuple [.Name x px, .Name y py] kt pt] (.Tuple [a, b] k2 pt2) pos) P := fun H0 S0 σ H E W s tk n r bk c z => by
  refine ws_of (ps_par hc hN hi hj hij hx hy pa_wa hw hs) (wa_of (pa_cons pe_we pa_wa hst) (ha H0 S0 σ H _ s fun p vs H1 n1 r1 h1 d1 => ?_))
  have sa := s.putO i r1 n1 h1 d1
  refine (ea_cons hb ea_nil hst2) _ _ σ H1 _ (s.avoid r1 n1 (by rw [h1]; exact fun q => nomatch q)) fun us H2 r2 d2' => ?_
  cases d2' with
  | cons e2 t =>
    cases t
    refine ⟨_, _, rfl, n _ _ H2 h ((sa.mono r2).putD j (dp_keep (off_keep (Keep.refl H2) fun a zz => ?_) _ _ e2))⟩
    rcases zz with zz | ⟨k, zz⟩
    · exact .inl (.inr zz)
    · rcases fp_set zz with ⟨_, f⟩ | ⟨_, f⟩
      · have e : some (V.ref p) = some (V.ref a) := f
        injection e with e
        injection e with e
        exact .inl (.inl e.symm)
      · exact .inr ⟨k, f⟩
/-- target = e, any target -/
theorem s1_asgG {tg e : Expr} {d : D} {γ' : List Sl} (he : EE R X γ e d) (hg : EG R X γ tg d γ') (h : P.nx γ') (hs : swapsWithSole [tg] e pos.line X.env = pure false := by rfl) (hw : swappedStores [tg] e X.env = pure none := by rfl)
    (h1 : (assignEach [tg] X.env).map (·.2) = [assign tg X.env] := by rfl) : S1 R X γ (.Assign [tg] e pos) P := fun H0 S0 σ H E W s tk n r bk ct z =>
  ws_of (ps_asg pe_we pg_wg hs hw h1) (he H0 S0 σ H _ s fun v H1 r1 d1 => hg H0 S0 σ H1 v _ (s.mono r1) d1 fun σ' s' => n γ' σ' H1 h s')
theorem s1_if {c : Expr} {a b : List Stmt} {k : Bool} (hc : ET R X γ c k) (h1 : k = true → SS R X γ a P) (h2 : k = false → SS R X γ b P) : S1 R X γ (.If c a b pos) P := fun H0 S0 σ H E W s tk n r bk ct z =>
  ws_of (ps_if pt_wt pss_wss pss_wss) (hc H0 S0 σ H _ s fun H1 r1 => by
    cases k with
    | true => exact iteT (h1 rfl H0 S0 σ H1 E W (s.mono r1) tk n r bk ct z)
    | false => exact iteF (h2 rfl H0 S0 σ H1 E W (s.mono r1) tk n r bk ct z))
theorem s1_while {c : Expr} {body : List Stmt} (Iv : Nat → List Sl → Prop) (m0 : Nat) (h0 : Iv m0 γ)
    (hs : ∀ m γ', Iv m γ' → ∃ k, ET R X γ' c k ∧ (k = true → SS R X γ' body { P with nx := fun g => ∃ m', m' < m ∧ Iv m' g, ct := fun g => ∃ m', m' < m ∧ Iv m' g, bk := P.nx }) ∧ (k = false → P.nx γ'))
    (hp : PassesOwn (model X.prog X.w) X.A X.env X.xe) : S1 R X γ (.While c body [] pos) P := fun H0 S0 σ H E W s tk n r bk ct z =>
  ws_of (ps_while hp pt_wt pss_wss) ⟨fun m σ' H' => ∃ γ', Iv m γ' ∧ SI R X.K H0 S0 γ' σ' H', ⟨m0, γ, h0, s⟩, fun m σ' H' ⟨γ', hv, s'⟩ => by
    obtain ⟨k, e1, e2, e3⟩ := hs m γ' hv
    refine e1 H0 S0 σ' H' _ s' fun H1 r1 => ?_
    cases k with
    | true =>
      refine iteT ⟨fun σ2 H2 => ∃ γ2 m', m' < m ∧ Iv m' γ2 ∧ SI R X.K H0 S0 γ2 σ2 H2, fun σ2 H2 ⟨γ2, m', hm, h2, s2⟩ => ⟨m', hm, γ2, h2, s2⟩, ?_⟩
      exact e2 rfl H0 S0 σ' H1 _ W (s'.mono r1) tk (fun γ2 σ2 H2 ⟨m', hm, q⟩ s2 => ⟨γ2, m', hm, q, s2⟩) r (fun γ2 σ2 H2 q s2 => n γ2 σ2 H2 q s2) (fun γ2 σ2 H2 ⟨m', hm, q⟩ s2 => ⟨γ2, m', hm, q, s2⟩) z
    | false => exact iteF (n γ' σ' H1 (e3 rfl) (s'.mono r1))⟩
/-- for tg in iter: Iv by the turn -/
theorem s1_for {tg iter : Expr} {body : List Stmt} {ds : List D} (Iv : Nat → List Sl → Prop) (hi : EI R X γ tg iter ds) (h0 : Iv 0 γ)
    (hs : ∀ i d γ', ds[i]? = some d → Iv i γ' → ∃ γ'', EG R X γ' tg d γ'' ∧ SS R X γ'' body { P with nx := Iv (i + 1), ct := Iv (i + 1), bk := P.nx }) (hd : ∀ γ', Iv ds.length γ' → P.nx γ')
    (hp : PassesOwn (model X.prog X.w) X.A X.env X.xe) (hc : X.calm = true) (hf : ∀ x, foldedSetIterable iter X.env x = pure x := by intro _; rfl) : S1 R X γ (.For tg iter body [] pos) P := fun H0 S0 σ H E W s tk n r bk ct z => by
  obtain ⟨wi, hpi, hwi⟩ := hi
  refine ws_of (ps_for hp hc hpi pg_wg pss_wss hf) (hwi H0 S0 σ H _ s fun J H1 r1 itd => ?_)
  have s1 := s.mono r1
  have sb := s1.rebase
  have hcut := s1.cutR
  refine ⟨fun i m σ' H' => m = ds.length - i ∧ i ≤ ds.length ∧ ∃ γ', Iv i γ' ∧ SI R X.K (cutO γ σ H1) S0 γ' σ' H', ⟨ds.length, by simp, Nat.zero_le _, γ, h0, sb⟩, ?_⟩
  rintro i m σ' H' ⟨rfl, hle, γ', hv, s'⟩
  have kp := s1.kept s'
  by_cases hlt : i < ds.length
  · have hdi : ds[i]? = some ds[i] := List.getElem?_eq_getElem hlt
    obtain ⟨γ'', hg, hb⟩ := hs i ds[i] γ' hdi hv
    refine .inr ⟨itd.go i H' _ kp hlt, fun σ2 H2 => ∃ γ2, Iv (i + 1) γ2 ∧ SI R X.K (cutO γ σ H1) S0 γ2 σ2 H2, fun σ2 H2 ⟨γ2, h2, s2⟩ => ⟨ds.length - (i + 1), by omega, rfl, hlt, γ2, h2, s2⟩, fun x H2 hy => ?_⟩
    obtain ⟨sm, dx⟩ := itd.yld i H' _ x H2 ds[i] kp (fun a q => s'.there q) hy hdi
    refine hg _ S0 σ' H2 x _ (s'.mono (Rel.more s'.ref sm)) dx fun σ2 s2 => ?_
    exact hb _ S0 σ2 H2 _ W s2 tk (fun γ2 σ3 H3 q s3 => ⟨γ2, q, s3⟩) ⟨fun d v H3 q r3 d3 => r.1 d v H3 q (Rel.trans hcut r3) d3, fun ds p vs H3 q r3 n3 e3 d3 => r.2 ds p vs H3 q (Rel.trans hcut r3) (Rel.free hcut n3) e3 d3⟩ (fun γ2 σ3 H3 q s3 => n γ2 σ3 H3 q (s1.back s3 hcut)) (fun γ2 σ3 H3 q s3 => ⟨γ2, q, s3⟩) fun c H3 q r3 => z c H3 q (Rel.trans hcut r3)
  · have e : i = ds.length := by omega
    subst e
    exact .inl ⟨itd.stop _ H' _ kp (Nat.le_refl _), n γ' σ' H' (hd γ' hv) (s1.back s' hcut)⟩
/-! ### lists of one's own, changed -/
theorem s1_append (i : Nat) {x : Str} {e : Expr} {ds : List D} {d : D} {p apos cpos : Pos} (he : EE R X γ e d) (h : P.nx (γ.set i (.own (ds ++ [d])))) (hl : ds.length < 1000) (hi : γ[i]? = some (.own ds) := by rfl) (hN : X.N[i]? = some x := by rfl)
    (hv : Vis X.env.scope x := by first | exact Or.inl rfl | exact Or.inr (Or.inl rfl) | exact Or.inr (Or.inr rfl)) (hd : (x == ("__debug__" : Str)) = false := by decide) (hcd : (x == ("__classdict__" : Str)) = false := by decide)
    (hbase : attributeBase (.Name x p) "append" X.env (eval (.Name x p) X.env) = eval (.Name x p) X.env := by rfl)
    (hfew : ((backTo cpos (starEach [e] X.env)).all (fun x => !x.1) && (backToKw cpos (keywordEach [] X.env)).all (fun x => x.1.isSome) && decide (([e] : List Expr).length + ([] : List Keyword).length + (if ([] : List Keyword).isEmpty then 0 else 1) < 30)) = true := by rfl)
    (hline : (apos.endLine == cpos.line) = true := by rfl) (hst : starEach [e] X.env = (false, eval e X.env) :: starEach [] X.env := by rfl) (hplain : (backTo cpos (starEach [] X.env)).any (·.1) = false := by rfl)
    (hs : swapsWith (.Call (.Attribute (.Name x p) "append" apos) [e] [] cpos) none pos.line X.env = pure false := by rfl) : S1 R X γ (.Expr (.Call (.Attribute (.Name x p) "append" apos) [e] [] cpos) pos) P := fun H0 S0 σ H E W s tk n r bk ct z => by
  obtain ⟨l, vs, h1, _, h3, _⟩ := s.own i ds hi
  refine ws_of (ps_expr (pe_bm PySem.F.plainAttrs_list PySem.F.slot_list_append PySem.F.type_list_append mt_append (pe_var hN hv hd hcd) pa_wa hbase hfew hline hst hplain) hs) ⟨_, h1, .inl ⟨rfl, _, SqL.of h3⟩, (ea_cons he ea_nil hst) H0 S0 σ H _ s fun ws H1 r1 d1 => ?_⟩
  cases d1 with
  | cons d1 t =>
    cases t
    have s1 := s.mono r1
    obtain ⟨l', vs', a1, a2, a3, a4⟩ := s1.own i ds hi
    rw [h1] at a1
    cases a1
    refine ⟨l, vs', _, rfl, rfl, a3, Nat.lt_trans (by rw [dps_len a4]; exact hl) (by decide), ?_⟩
    exact n _ _ _ h (s1.mutO hi h1 (dps_app a4 (dps_one d1)))
theorem s1_extend (i : Nat) {x : Str} {e : Expr} {ds es : List D} {p apos cpos : Pos} (he : EF R X γ e es) (h : P.nx (γ.set i (.own (ds ++ es)))) (hl : ds.length + es.length ≤ 1000) (hi : γ[i]? = some (.own ds) := by rfl) (hN : X.N[i]? = some x := by rfl)
    (hv : Vis X.env.scope x := by first | exact Or.inl rfl | exact Or.inr (Or.inl rfl) | exact Or.inr (Or.inr rfl)) (hd : (x == ("__debug__" : Str)) = false := by decide) (hcd : (x == ("__classdict__" : Str)) = false := by decide)
    (hbase : attributeBase (.Name x p) "extend" X.env (eval (.Name x p) X.env) = eval (.Name x p) X.env := by rfl)
    (hfew : ((backTo cpos (starEach [e] X.env)).all (fun x => !x.1) && (backToKw cpos (keywordEach [] X.env)).all (fun x => x.1.isSome) && decide (([e] : List Expr).length + ([] : List Keyword).length + (if ([] : List Keyword).isEmpty then 0 else 1) < 30)) = true := by rfl)
    (hline : (apos.endLine == cpos.line) = true := by rfl) (hst : starEach [e] X.env = (false, eval e X.env) :: starEach [] X.env := by rfl) (hplain : (backTo cpos (starEach [] X.env)).any (·.1) = false := by rfl)
    (hs : swapsWith (.Call (.Attribute (.Name x p) "extend" apos) [e] [] cpos) none pos.line X.env = pure false := by rfl) : S1 R X γ (.Expr (.Call (.Attribute (.Name x p) "extend" apos) [e] [] cpos) pos) P := fun H0 S0 σ H E W s tk n r bk ct z => by
  obtain ⟨l, vs, h1, _, h3, _⟩ := s.own i ds hi
  refine ws_of (ps_expr (pe_bm PySem.F.plainAttrs_list PySem.F.slot_list_extend PySem.F.type_list_extend mt_extend (pe_var hN hv hd hcd) pa_wa hbase hfew hline hst hplain) hs) ⟨_, h1, .inl ⟨rfl, _, SqL.of h3⟩, wa_of (pa_cons pe_we pa_wa hst) (he H0 S0 σ H _ s fun p2 ws H1 n1 r1 g1 d1 => wa_of pa_nil ?_)⟩
  have d2 : DtAll X.K (off (Sx S0 γ σ) H1) ws es := dps_keep (off_keep (Keep.refl H1) fun a z => .inr z) _ _ d1
  have s1 := s.mono r1
  obtain ⟨l', vs', a1, a2, a3, a4⟩ := s1.own i ds hi
  rw [h1] at a1
  cases a1
  refine ⟨l, _, vs', _, rfl, rfl, a3, g1, Nat.le_of_lt (small1000 (by rw [dps_len a4, dps_len d2]; exact hl)), ?_⟩
  exact n _ _ _ h (s1.mutO hi h1 (dps_app a4 d2))
theorem s1_pop (i : Nat) {x : Str} {ds : List D} {p apos cpos : Pos} (hne : ds ≠ []) (h : P.nx (γ.set i (.own ds.dropLast))) (hi : γ[i]? = some (.own ds) := by rfl) (hN : X.N[i]? = some x := by rfl)
    (hv : Vis X.env.scope x := by first | exact Or.inl rfl | exact Or.inr (Or.inl rfl) | exact Or.inr (Or.inr rfl)) (hd : (x == ("__debug__" : Str)) = false := by decide) (hcd : (x == ("__classdict__" : Str)) = false := by decide)
    (hbase : attributeBase (.Name x p) "pop" X.env (eval (.Name x p) X.env) = eval (.Name x p) X.env := by rfl) (hline : (apos.endLine == cpos.line) = true := by rfl)
    (hs : swapsWith (.Call (.Attribute (.Name x p) "pop" apos) [] [] cpos) none pos.line X.env = pure false := by rfl) : S1 R X γ (.Expr (.Call (.Attribute (.Name x p) "pop" apos) [] [] cpos) pos) P := fun H0 S0 σ H E W s tk n r bk ct z => by
  obtain ⟨l, vs, h1, _, h3, h4⟩ := s.own i ds hi
  have hlen := dps_len h4
  have hpos : 0 < vs.length := by
    rw [hlen]
    exact List.length_pos_iff.mpr hne
  have hlast : vs[vs.length - 1]? = some vs[vs.length - 1] := List.getElem?_eq_getElem (by omega)
  have hdl : DtAll X.K (off (Sx S0 γ σ) H) vs.dropLast ds.dropLast := by
    rw [List.dropLast_eq_take, List.dropLast_eq_take, hlen]
    exact dps_take _ h4
  exact ws_of (ps_expr (pe_bm0 PySem.F.plainAttrs_list PySem.F.slot_list_pop PySem.F.type_list_pop mt_pop (pe_var hN hv hd hcd) hbase hline) hs) ⟨_, h1, .inl ⟨rfl, _, SqL.of h3⟩, l, vs, _, rfl, rfl, h3, hlast, n _ _ _ h (s.mutO hi h1 hdl)⟩
/-- x[j] = e -/
theorem s1_setIx (i : Nat) {x : Str} {e ix : Expr} {ds : List D} {d : D} {k : Int} {j : Nat} {p p2 : Pos} (he : EE R X γ e d) (hx : EE R X γ ix (.int k)) (hj : ixN ds.length k = some j) (h : P.nx (γ.set i (.own (ds.set j d)))) (hi : γ[i]? = some (.own ds) := by rfl) (hN : X.N[i]? = some x := by rfl)
    (hv : Vis X.env.scope x := by first | exact Or.inl rfl | exact Or.inr (Or.inl rfl) | exact Or.inr (Or.inr rfl)) (hd : (x == ("__debug__" : Str)) = false := by decide) (hcd : (x == ("__classdict__" : Str)) = false := by decide)
    (ha : ∀ v, assign (.Subscript (.Name x p) ix p2) X.env v = (do
      let ov ← holding [v] (eval (.Name x p) X.env)
      let iv ← holding [v, ov] (eval ix X.env)
      standAt p2
      holding [v, ov, iv] (setItem ov iv v)
      release [v, ov, iv] []) := by intro _; rfl)
    (hs : swapsWithSole [.Subscript (.Name x p) ix p2] e pos.line X.env = pure false := by rfl) (hw : swappedStores [.Subscript (.Name x p) ix p2] e X.env = pure none := by rfl)
    (h1 : (assignEach [.Subscript (.Name x p) ix p2] X.env).map (·.2) = [assign (.Subscript (.Name x p) ix p2) X.env] := by rfl) : S1 R X γ (.Assign [.Subscript (.Name x p) ix p2] e pos) P := fun H0 S0 σ H E W s tk n r bk ct z =>
  ws_of (ps_asg pe_we (pg_sub (pe_var hN hv hd hcd) pe_we set_list ha) hs hw h1) (he H0 S0 σ H _ s fun v H1 r1 d1 => by
    have s1 := s.mono r1
    obtain ⟨l, vs, e1, _, _, _⟩ := s1.own i ds hi
    refine ⟨_, e1, hx H0 S0 σ H1 _ s1 fun u H2 r2 d2 => ?_⟩
    cases d2
    have s2 := s1.mono r2
    obtain ⟨l', vs', a1, _, a3, a4⟩ := s2.own i ds hi
    rw [e1] at a1
    cases a1
    exact ⟨l, vs', k, j, rfl, rfl, a3, by rw [dps_len a4]; exact hj, n _ _ _ h (s2.mutO hi e1 (dps_set j a4 (dt_up r2 d1)))⟩)
/-! ### defs -/
/-- a def by data: what comes (Val), or the class that is raised (Exc) -/
def spD (K : PySem.W.Frag) (n : Nat) (Val : List D → D → Prop) (Exc : List D → Value → Prop) : Sp := fun vs H Q E => vs.length = n ∧ ∃ (S : Addr → Prop) (ds : List D), (∀ a, S a → H a ≠ none) ∧ DtAll K (off S H) vs ds ∧
  ((∃ d, Val ds d ∧ ∀ v H2, Same H H2 → Dt K (off S H2) v d → Q v H2) ∨ (∃ c, Exc ds c ∧ ∀ H2, Same H H2 → E c none H2))
/-- a def of the text that keeps such a promise -/
structure Fn (P : Program) (w : World) (K : PySem.W.Frag) (mg : Str → Option Value) (base : Heap) (x : Str) (k n : Nat) (Val : List D → D → Prop) (Exc : List D → Value → Prop) : Prop where
  ok : ∃ (f : Addr) (fd : FuncData) (ps : List Str), FnOk P w K mg base (L2N.CX P w) k f fd ps (spD K n Val Exc) ∧ mg x = some (.ref f) ∧ PySem.W.keepIn K (.ref f) = true ∧ Binds K fd ps []
theorem Fn.mono {Pr : Program} {w : World} {K : PySem.W.Frag} {mg : Str → Option Value} {base : Heap} {x : Str} {k k' n : Nat} {Val : List D → D → Prop} {Exc : List D → Value → Prop} (F : Fn Pr w K mg base x k n Val Exc) (h : k ≤ k') : Fn Pr w K mg base x k' n Val Exc := by
  obtain ⟨f, fd, ps, h1, h2, h3, h4⟩ := F.ok
  exact ⟨f, fd, ps, h1.mono h, h2, h3, h4⟩
theorem sx_dom {K : PySem.W.Frag} {H0 H : Hp} {S0 : Addr → Prop} {σ : L2.St} (s : SI R K H0 S0 γ σ H) : ∀ a, Sx S0 γ σ a → H a ≠ none := fun a h => s.there h
/-- f(..), nothing raised -/
theorem ee_call {x : Str} {k n : Nat} {Val : List D → D → Prop} {Exc : List D → Value → Prop} {e : Expr} {es : List Expr} {p : Pos} {ds : List D} {d : D} (F : Fn X.prog X.w X.K X.mg X.base x k n Val Exc) (hr : Room k X.A) (ha : EA R X γ (e :: es) ds) (hv : Val ds d) (hn : ds.length = n := by rfl) (hg : Gl X x := by rfl)
    (hdb : (x == ("__debug__" : Str)) = false := by decide) (he : starEach (e :: es) X.env = (false, eval e X.env) :: starEach es X.env := by rfl) (hpl : (backTo pos (starEach es X.env)).any (·.1) = false := by rfl) :
    EE R X γ (.Call (.Name x p) (e :: es) [] pos) d := fun H0 S0 σ H Q s kk => by
  obtain ⟨f, fd, ps, h1, h2, h3, h4⟩ := F.ok
  refine we_of (pe_call h1 hr hg h2 h3 h4 .nil passN pa_wa hdb he hpl) (ha H0 S0 σ H _ s fun vs H1 r1 d1 => ?_)
  rw [List.append_nil]
  refine ⟨by rw [dps_len d1]; exact hn, Sx S0 γ σ, ds, sx_dom (s.mono r1), d1, .inl ⟨d, hv, fun v H2 sm dv => kk v H2 (Rel.more r1 sm) dv⟩⟩
/-- f(), nothing raised -/
theorem ee_call0 {x : Str} {k : Nat} {Val : List D → D → Prop} {Exc : List D → Value → Prop} {p : Pos} {d : D} (F : Fn X.prog X.w X.K X.mg X.base x k 0 Val Exc) (hr : Room k X.A) (hv : Val [] d) (hg : Gl X x := by rfl) (hdb : (x == ("__debug__" : Str)) = false := by decide) :
    EE R X γ (.Call (.Name x p) [] [] pos) d := fun H0 S0 σ H Q s kk => by
  obtain ⟨f, fd, ps, h1, h2, h3, h4⟩ := F.ok
  refine we_of (pe_call0 h1 hr hg h2 h3 h4 .nil passN hdb) ?_
  exact ⟨rfl, Sx S0 γ σ, [], sx_dom s, .nil, .inl ⟨d, hv, fun v H2 sm dv => kk v H2 (Rel.more s.ref sm) dv⟩⟩
/-- f(..) as a statement: the class that is raised -/
theorem s1_raises {x : Str} {k n : Nat} {Val : List D → D → Prop} {Exc : List D → Value → Prop} {e : Expr} {es : List Expr} {p cp : Pos} {ds : List D} {c : Value} (F : Fn X.prog X.w X.K X.mg X.base x k n Val Exc) (hr : Room k X.A) (ha : EA R X γ (e :: es) ds) (hv : Exc ds c) (h : P.rz c) (hn : ds.length = n := by rfl) (hg : Gl X x := by rfl)
    (hdb : (x == ("__debug__" : Str)) = false := by decide) (he : starEach (e :: es) X.env = (false, eval e X.env) :: starEach es X.env := by rfl) (hpl : (backTo cp (starEach es X.env)).any (·.1) = false := by rfl) (hs : swapsWith (.Call (.Name x p) (e :: es) [] cp) none pos.line X.env = pure false := by rfl) :
    S1 R X γ (.Expr (.Call (.Name x p) (e :: es) [] cp) pos) P := fun H0 S0 σ H E W s tk nn r bk ct z => by
  obtain ⟨f, fd, ps, h1, h2, h3, h4⟩ := F.ok
  refine ws_of (ps_expr (pe_call (E := W) h1 hr hg h2 h3 h4 .nil (L2N.passes_call tk fun _ _ _ _ h => h) pa_wa hdb he hpl) hs) (ha H0 S0 σ H _ s fun vs H1 r1 d1 => ?_)
  rw [List.append_nil]
  exact ⟨by rw [dps_len d1]; exact hn, Sx S0 γ σ, ds, sx_dom (s.mono r1), d1, .inr ⟨c, hv, fun H2 sm => z c H2 h (Rel.trans s.rel (Rel.more r1 sm))⟩⟩
/-- return f(..): the class that is raised -/
theorem s1_retRaises {x : Str} {k n : Nat} {Val : List D → D → Prop} {Exc : List D → Value → Prop} {e : Expr} {es : List Expr} {p cp : Pos} {ds : List D} {c : Value} (F : Fn X.prog X.w X.K X.mg X.base x k n Val Exc) (hr : Room k X.A) (ha : EA R X γ (e :: es) ds) (hv : Exc ds c) (h : P.rz c) (hn : ds.length = n := by rfl) (hg : Gl X x := by rfl)
    (hdb : (x == ("__debug__" : Str)) = false := by decide) (he : starEach (e :: es) X.env = (false, eval e X.env) :: starEach es X.env := by rfl) (hpl : (backTo cp (starEach es X.env)).any (·.1) = false := by rfl) :
    S1 R X γ (.Return (some (.Call (.Name x p) (e :: es) [] cp)) pos) P := fun H0 S0 σ H E W s tk nn r bk ct z => by
  obtain ⟨f, fd, ps, h1, h2, h3, h4⟩ := F.ok
  refine ws_of (ps_ret (pe_call (E := W) h1 hr hg h2 h3 h4 .nil (L2N.passes_call tk fun _ _ _ _ h => h) pa_wa hdb he hpl)) (ha H0 S0 σ H _ s fun vs H1 r1 d1 => ?_)
  rw [List.append_nil]
  exact ⟨by rw [dps_len d1]; exact hn, Sx S0 γ σ, ds, sx_dom (s.mono r1), d1, .inr ⟨c, hv, fun H2 sm => z c H2 h (Rel.trans s.rel (Rel.more r1 sm))⟩⟩
/-- what is written of an own class of errors -/
structure Err (K : PySem.W.Frag) (mg : Str → Option Value) (x : Str) (C : Addr) : Prop where
  g : mg x = some (.ref C)
  x : PySem.W.excIn K C He.veBase "ValueError.__new__" = true
  k : PySem.W.keepIn K (.ref C) = true
  b : PySem.W.subIn K (.ref C) (.type "BaseException") = some true
  t : PySem.W.typeIn K (.ref C) = some (.type "type")
theorem s1_raise {x m : Str} {C : Addr} {j : Nat} {p p2 cp : Pos} (T : Err X.K X.mg x C) (h : P.rz (.ref C)) (hc : X.calm = true) (hg : Gl X x := by rfl) (hdb : (x == ("__debug__" : Str)) = false := by decide) :
    S1 R X γ (.Raise (some (.Call (.Name x p) [.Constant (.str m) j p2] [] cp)) none pos) P := fun H0 S0 σ H E W s tk nn r bk ct z =>
  ws_of (L2N.ps_raise hc tk (L2N.pmk_own PySem.F.excBase_ValueError T.x T.g T.k (raises_own T.b T.t) hg hdb)) (z _ H h s.rel)
end
/-- the slots at a def's entry -/
theorem si_startR {R : Hp → Hp → Prop} [Rel R] {K : PySem.W.Frag} {H : Hp} {Sv : Addr → Prop} {N : List Str} {vs : List V} {ds : List D} {n : Nat} (hR : R H H) (hS : ∀ a, Sv a → H a ≠ none) (hd : DtAll K (off Sv H) vs ds) (hl : vs.length = n) (hdl : ds.length = n) : SI R K H Sv (ds.map .dat ++ List.replicate (N.length - n) .no) (L2.start N vs) H := by
  have flat : ∀ {i : Nat} {x : Sl}, (ds.map Sl.dat ++ List.replicate (N.length - n) .no)[i]? = some x → (∃ d, ds[i]? = some d ∧ x = .dat d) ∨ (ds.length ≤ i ∧ i < N.length - n + ds.length ∧ x = .no) := fun {i x} h => by
    rw [List.getElem?_append] at h
    split at h
    · rw [List.getElem?_map] at h
      cases q : ds[i]? with
      | none => rw [q] at h; cases h
      | some d =>
        rw [q] at h
        cases h
        exact .inl ⟨d, rfl, rfl⟩
    · rename_i hge
      rw [List.length_map] at hge
      rw [List.getElem?_replicate] at h
      split at h
      · rename_i hlt
        rw [List.length_map] at hlt
        cases h
        exact .inr ⟨by omega, by omega, rfl⟩
      · cases h
  have nofp : ∀ i a, ¬ Fp (ds.map Sl.dat ++ List.replicate (N.length - n) .no) (L2.start N vs) i a := fun i a ⟨x, v, h1, _, h3⟩ => by
    rcases flat h1 with ⟨d, _, rfl⟩ | ⟨_, _, rfl⟩
    · exact h3
    · exact h3
  have sno : ∀ a, Sx Sv (ds.map .dat ++ List.replicate (N.length - n) .no) (L2.start N vs) a → Sv a := fun a z => by
    rcases z with z | ⟨i, f⟩
    · exact z
    · exact absurd f (nofp i a)
  refine ⟨hR, hS, ?_, fun i x h => ?_, fun i a f => absurd f (nofp i a), fun i j a f _ => absurd f (nofp i a)⟩
  · unfold L2.start
    simp only [List.length_append, List.length_map, List.length_replicate, hl, hdl]
  · rcases flat h with ⟨d, q, rfl⟩ | ⟨h1, h2, rfl⟩
    · obtain ⟨v, e1, e2⟩ := dps_get hd q
      refine ⟨some v, ?_, v, rfl, dp_keep (off_keep (Keep.refl H) sno) _ _ e2⟩
      unfold L2.start
      rw [List.getElem?_append_left (by rw [List.length_map]; exact (List.getElem?_eq_some_iff.mp e1).1), List.getElem?_map, e1]
      rfl
    · refine ⟨none, ?_, trivial⟩
      unfold L2.start
      rw [List.getElem?_append_right (by rw [List.length_map]; omega), List.getElem?_replicate, if_pos (by rw [List.length_map]; omega)]
theorem si_start {K : PySem.W.Frag} {H : Hp} {Sv : Addr → Prop} {N : List Str} {vs : List V} {ds : List D} {n : Nat} (hS : ∀ a, Sv a → H a ≠ none) (hd : DtAll K (off Sv H) vs ds) (hl : vs.length = n) (hdl : ds.length = n) : SI Same K H Sv (ds.map .dat ++ List.replicate (N.length - n) .no) (L2.start N vs) H := si_startR (Same.refl H) hS hd hl hdl
/-- a def's body by data -/
theorem fn_mk {Pr : Program} {w : World} {K : PySem.W.Frag} {mg : Str → Option Value} {base : Heap} {x : Str} {st : Stmt} {f : Addr} {fd : FuncData} {N ps : List Str} {k n : Nat} {Val : List D → D → Prop} {Exc : List D → Value → Prop}
    (F : FunD K x x (defArgs st) (defBody st) (defScope st) [] [] f fd) (S : FnScope N ps (defScope st)) (hm : mg x = some (.ref f)) (hb : Binds K fd ps []) (hns : base.NoSeer) (htr : Pr.given.tree = none) (hk : 40 ≤ k) (hn : ps.length = n)
    (body : ∀ (cdv : Value) (A : Around) (outer : List Env) (s : Shared) (H : Hp) (E : XK) (X : Cx), X = cxOf (L2N.CX Pr w) Pr w K mg base N x (defScope st) f cdv A outer s H E → Gx X k → PassesOwn (model X.prog X.w) X.A X.env X.xe → ∀ ds : List D, ds.length = n →
      (∀ d, Val ds d → SS Same X (ds.map .dat ++ List.replicate (N.length - n) .no) (defBody st) { rt := fun e => e = d, nx := fun _ => d = .none }) ∧
      (∀ c, Exc ds c → SS Same X (ds.map .dat ++ List.replicate (N.length - n) .no) (defBody st) { rz := fun e => e = c })) : Fn Pr w K mg base x (k + 1) n Val Exc := by
  refine ⟨f, fd, ps, F.ok (CX := L2N.CX Pr w) S (fun vs H Q E h => by rw [h.1, hn]) (fun cdv A outer s H vs Q E hr h => ?_), hm, F.kp, hb⟩
  obtain ⟨hl, Sv, ds, hS, hd, hq⟩ := h
  let X : Cx := cxOf (L2N.CX Pr w) Pr w K mg base N x (defScope st) f cdv A outer s H E
  have hdl : ds.length = n := by rw [← dps_len hd, hl]
  have gx : Gx X k := ⟨hr, hk, hns, htr, ⟨_, _, rfl, S.gen, S.co, rfl, rfl⟩⟩
  have tk : L2N.Takes X (fun c d _ H' => E c d H') := L2N.takes_of rfl rfl rfl rfl
  have pss : PassesOwn (model X.prog X.w) X.A X.env X.xe := passes_of rfl
  obtain ⟨b1, b2⟩ := body cdv A outer s H E X rfl gx pss ds hdl
  have si : SI Same K H Sv (ds.map .dat ++ List.replicate (N.length - n) .no) (L2.start N vs) H := si_start hS hd hl hdl
  refine ⟨wss X (defBody st), pss_wss, ?_⟩
  rcases hq with ⟨d, hv, hk⟩ | ⟨c, hv, hk⟩
  · exact b1 d hv H Sv _ H _ E si tk (fun γ' σ' H' e s' => hk .non H' s'.rel (by rw [show d = .none from e]; exact .non)) ⟨fun e v H' he r' dv => hk v H' r' (by rw [← show e = d from he]; exact dv), fun _ _ _ _ h => h.elim⟩ (fun _ _ _ h _ => h.elim) (fun _ _ _ h _ => h.elim) fun c H' h _ => h.elim
  · exact b2 c hv H Sv _ H _ E si tk (fun γ' σ' H' e s' => e.elim) ⟨fun e v H' he r' dv => he.elim, fun _ _ _ _ h => h.elim⟩ (fun _ _ _ h _ => h.elim) (fun _ _ _ h _ => h.elim) fun e H' h r' => by
      rw [show e = c from h]
      exact hk H' r'
/-! ### defs that bring a new list -/
def spN (K : PySem.W.Frag) (n : Nat) (Val : List D → D → Prop) (Exc : List D → Value → Prop) : Sp := fun vs H Q E => vs.length = n ∧ ∃ (S : Addr → Prop) (ds : List D), (∀ a, S a → H a ≠ none) ∧ DtAll K (off S H) vs ds ∧
  ((∃ es, Val ds (.list es) ∧ ∀ p ws H2, Same H H2 → H p = none → H2 p = some (.lst ws) → DtAll K (off (fun a => a = p ∨ S a) H2) ws es → Q (.ref p) H2) ∨ (∃ c, Exc ds c ∧ ∀ H2, Same H H2 → E c none H2))
structure FnN (P : Program) (w : World) (K : PySem.W.Frag) (mg : Str → Option Value) (base : Heap) (x : Str) (k n : Nat) (Val : List D → D → Prop) (Exc : List D → Value → Prop) : Prop where
  ok : ∃ (f : Addr) (fd : FuncData) (ps : List Str), FnOk P w K mg base (L2N.CX P w) k f fd ps (spN K n Val Exc) ∧ mg x = some (.ref f) ∧ PySem.W.keepIn K (.ref f) = true ∧ Binds K fd ps []
  lst : ∀ ds d, Val ds d → ∃ es, d = .list es
theorem FnN.fn {Pr : Program} {w : World} {K : PySem.W.Frag} {mg : Str → Option Value} {base : Heap} {x : Str} {k n : Nat} {Val : List D → D → Prop} {Exc : List D → Value → Prop} (F : FnN Pr w K mg base x k n Val Exc) : Fn Pr w K mg base x k n Val Exc := by
  obtain ⟨f, fd, ps, h1, h2, h3, h4⟩ := F.ok
  refine ⟨f, fd, ps, h1.imp fun vs H Q E h => ?_, h2, h3, h4⟩
  obtain ⟨hl, S, ds, hS, hd, h⟩ := h
  refine ⟨hl, S, ds, hS, hd, ?_⟩
  rcases h with ⟨d, hv, hq⟩ | h
  · obtain ⟨es, rfl⟩ := F.lst ds d hv
    refine .inl ⟨es, hv, fun p ws H2 sm n e dt => hq _ H2 sm (.lst (.inl (off_of (fun z => hS p z n) e)) (dps_keep (off_keep (Keep.refl H2) fun a z => .inr z) _ _ dt))⟩
  · exact .inr h
section
variable {R : Hp → Hp → Prop} [RelC R] {X : Cx} {γ : List Sl} {pos : Pos}
theorem ef_call {x : Str} {k n : Nat} {Val : List D → D → Prop} {Exc : List D → Value → Prop} {e : Expr} {es : List Expr} {p : Pos} {ds rs : List D} (F : FnN X.prog X.w X.K X.mg X.base x k n Val Exc) (hr : Room k X.A) (ha : EA R X γ (e :: es) ds) (hv : Val ds (.list rs)) (hn : ds.length = n := by rfl) (hg : Gl X x := by rfl)
    (hdb : (x == ("__debug__" : Str)) = false := by decide) (he : starEach (e :: es) X.env = (false, eval e X.env) :: starEach es X.env := by rfl) (hpl : (backTo pos (starEach es X.env)).any (·.1) = false := by rfl) : EF R X γ (.Call (.Name x p) (e :: es) [] pos) rs := fun H0 S0 σ H Q s kk => by
  obtain ⟨f, fd, ps, h1, h2, h3, h4⟩ := F.ok
  refine we_of (pe_call (E := E0) h1 hr hg h2 h3 h4 .nil passN pa_wa hdb he hpl) (ha H0 S0 σ H _ s fun vs H1 r1 d1 => ?_)
  rw [List.append_nil]
  exact ⟨by rw [dps_len d1]; exact hn, Sx S0 γ σ, ds, sx_dom (s.mono r1), d1, .inl ⟨rs, hv, fun q ws H2 sm n2 e2 d2 => kk q ws H2 (Rel.free r1 n2) (Rel.more r1 sm) e2 d2⟩⟩
/-- a list just come, one item appended, let go -/
theorem s1_appendTmp {o e : Expr} {ds : List D} {d : D} {apos cpos : Pos} {P : Po} (ho : EF R X γ o ds) (he : EE R X γ e d) (h : P.nx γ) (hl : ds.length < 1000)
    (hbase : attributeBase o "append" X.env (eval o X.env) = eval o X.env := by rfl)
    (hfew : ((backTo cpos (starEach [e] X.env)).all (fun x => !x.1) && (backToKw cpos (keywordEach [] X.env)).all (fun x => x.1.isSome) && decide (([e] : List Expr).length + ([] : List Keyword).length + (if ([] : List Keyword).isEmpty then 0 else 1) < 30)) = true := by rfl)
    (hline : (apos.endLine == cpos.line) = true := by rfl) (hst : starEach [e] X.env = (false, eval e X.env) :: starEach [] X.env := by rfl) (hplain : (backTo cpos (starEach [] X.env)).any (·.1) = false := by rfl)
    (hs : swapsWith (.Call (.Attribute o "append" apos) [e] [] cpos) none pos.line X.env = pure false := by rfl) : S1 R X γ (.Expr (.Call (.Attribute o "append" apos) [e] [] cpos) pos) P := fun H0 S0 σ H E W s tk n r bk ct z => by
  refine ws_of (ps_expr (pe_bm PySem.F.plainAttrs_list PySem.F.slot_list_append PySem.F.type_list_append mt_append pe_we pa_wa hbase hfew hline hst hplain) hs) (ho H0 S0 σ H _ s fun l vs H1 n1 r1 e1 d1 => ⟨.inl ⟨rfl, _, SqL.of e1⟩, (ea_cons he ea_nil hst) H0 S0 σ H1 _ (s.mono r1) fun ws H2 r2 d2 => ?_⟩)
  cases d2 with
  | cons d2 t =>
    cases t
    have e2 : H2 l = some (.lst vs) := Rel.keep r2 _ _ e1 fun _ z => nomatch z
    refine ⟨l, vs, _, rfl, rfl, e2, Nat.lt_trans (by rw [dps_len d1]; exact hl) (by decide), ?_⟩
    exact n γ σ _ h (s.mono (Rel.chgL (Rel.trans r1 r2) n1 ⟨_, e2⟩))
end
theorem fnn_mk {Pr : Program} {w : World} {K : PySem.W.Frag} {mg : Str → Option Value} {base : Heap} {x : Str} {st : Stmt} {f : Addr} {fd : FuncData} {N ps : List Str} {k n : Nat} {Val : List D → D → Prop} {Exc : List D → Value → Prop} (hlst : ∀ ds d, Val ds d → ∃ es, d = .list es)
    (F : FunD K x x (defArgs st) (defBody st) (defScope st) [] [] f fd) (S : FnScope N ps (defScope st)) (hm : mg x = some (.ref f)) (hb : Binds K fd ps []) (hns : base.NoSeer) (htr : Pr.given.tree = none) (hk : 40 ≤ k) (hn : ps.length = n)
    (body : ∀ (cdv : Value) (A : Around) (outer : List Env) (s : Shared) (H : Hp) (E : XK) (X : Cx), X = cxOf (L2N.CX Pr w) Pr w K mg base N x (defScope st) f cdv A outer s H E → Gx X k → PassesOwn (model X.prog X.w) X.A X.env X.xe → ∀ ds : List D, ds.length = n →
      (∀ d, Val ds d → SS Same X (ds.map .dat ++ List.replicate (N.length - n) .no) (defBody st) { rn := fun es => .list es = d }) ∧
      (∀ c, Exc ds c → SS Same X (ds.map .dat ++ List.replicate (N.length - n) .no) (defBody st) { rz := fun e => e = c })) : FnN Pr w K mg base x (k + 1) n Val Exc := by
  refine ⟨⟨f, fd, ps, F.ok (CX := L2N.CX Pr w) S (fun vs H Q E h => by rw [h.1, hn]) (fun cdv A outer s H vs Q E hr h => ?_), hm, F.kp, hb⟩, hlst⟩
  obtain ⟨hl, Sv, ds, hS, hd, hq⟩ := h
  let X : Cx := cxOf (L2N.CX Pr w) Pr w K mg base N x (defScope st) f cdv A outer s H E
  have hdl : ds.length = n := by rw [← dps_len hd, hl]
  have gx : Gx X k := ⟨hr, hk, hns, htr, ⟨_, _, rfl, S.gen, S.co, rfl, rfl⟩⟩
  have tk : L2N.Takes X (fun c d _ H' => E c d H') := L2N.takes_of rfl rfl rfl rfl
  obtain ⟨b1, b2⟩ := body cdv A outer s H E X rfl gx (passes_of rfl) ds hdl
  refine ⟨wss X (defBody st), pss_wss, ?_⟩
  rcases hq with ⟨es, hv, hk⟩ | ⟨c, hv, hk⟩
  · exact b1 _ hv H Sv _ H _ E (si_start hS hd hl hdl) tk (fun _ _ _ h _ => h.elim) ⟨fun _ _ _ h => h.elim, fun es' p vs' H' he r' n' e' d' => hk p vs' H' r' n' e' (by
      have e : PyData.list es' = PyData.list es := he
      injection e with e
      rw [← e]
      exact d')⟩ (fun _ _ _ h _ => h.elim) (fun _ _ _ h _ => h.elim) fun c H' h _ => h.elim
  · exact b2 c hv H Sv _ H _ E (si_start hS hd hl hdl) tk (fun γ' σ' H' e s' => e.elim) ⟨fun e v H' he r' dv => he.elim, fun _ _ _ _ h => h.elim⟩ (fun _ _ _ h _ => h.elim) (fun _ _ _ h _ => h.elim) fun e H' h r' => by
      rw [show e = c from h]
      exact hk H' r'
end An

/-! Built-ins by data. -/
namespace An
open PySem PySem.Spec PyProof.Rows L2
section
variable {R : Hp → Hp → Prop} [RelC R] {X : Cx} {γ : List Sl} {pos p : Pos} {a b : Expr}
def lenD : D → Option Nat
  | .list ds => some ds.length
  | .tuple ds => some ds.length
  | _ => none
theorem cd_len {x : D} {n : Nat} (h : lenD x = some n) : CallD X (.builtin "len") [x] (.int n) := ⟨_, call_len_seq, fun H vs Q hd k => by
  cases hd with
  | cons d t =>
    cases t
    cases d with
    | lst h1 h2 =>
      cases h
      refine ⟨_, _, rfl, .inl (.inl h1), ?_⟩
      rw [dps_len h2]
      exact k _ fun _ => .int _
    | tup h1 h2 =>
      cases h
      refine ⟨_, _, rfl, .inr h1, ?_⟩
      rw [dps_len h2]
      exact k _ fun _ => .int _
    | _ => cases h⟩
theorem ee_len {x : D} {n : Nat} (ha : EE R X γ a x) (h : lenD x = some n) (hm : X.mg "len" = none) (hg : Gl X "len" := by rfl) (he : starEach [a] X.env = (false, eval a X.env) :: starEach [] X.env := by rfl) (hpl : (backTo pos (starEach [] X.env)).any (·.1) = false := by rfl) :
    EE R X γ (.Call (.Name "len" p) [a] [] pos) (.int n) := ee_callB (ea_cons ha ea_nil he) (cd_len h) hm PySem.boot_len hg (by decide) (by decide) he hpl
/-- len of a list of one's own -/
theorem ee_lenO (i : Nat) {x : Str} {ds : List D} {p2 : Pos} (hm : X.mg "len" = none) (hi : γ[i]? = some (.own ds) := by rfl) (hg : Gl X "len" := by rfl) (hN : X.N[i]? = some x := by rfl) (hv : Vis X.env.scope x := by first | exact Or.inl rfl | exact Or.inr (Or.inl rfl) | exact Or.inr (Or.inr rfl))
    (hd : (x == ("__debug__" : Str)) = false := by decide) (hcd : (x == ("__classdict__" : Str)) = false := by decide) (he : starEach [.Name x p2] X.env = (false, eval (.Name x p2) X.env) :: starEach [] X.env := by rfl) (hpl : (backTo pos (starEach [] X.env)).any (·.1) = false := by rfl) :
    EE R X γ (.Call (.Name "len" p) [.Name x p2] [] pos) (.int ds.length) := fun H0 S0 σ H Q s k => by
  obtain ⟨l, vs, h1, _, h3, h4⟩ := s.own i ds hi
  refine we_of (pe_callB call_len_seq hg hm PySem.boot_len (pa_cons (pe_var hN hv hd hcd) pa_nil he) (by decide) (by decide) he hpl) ⟨_, h1, _, _, rfl, .inl (SqL.of h3), ?_⟩
  rw [dps_len h4]
  exact k _ H (s.ref) (.int _)
theorem ee_abs {i : Int} (ha : EE R X γ a (.int i)) (hm : X.mg "abs" = none) (hg : Gl X "abs" := by rfl) (he : starEach [a] X.env = (false, eval a X.env) :: starEach [] X.env := by rfl) (hpl : (backTo pos (starEach [] X.env)).any (·.1) = false := by rfl) :
    EE R X γ (.Call (.Name "abs" p) [a] [] pos) (.int (i.natAbs : Nat)) := ee_callB (ea_cons ha ea_nil he) ⟨_, call_abs, fun H vs Q hd k => by
  cases hd with
  | cons d t =>
    cases t
    cases d
    refine ⟨i, rfl, ?_⟩
    have e : (if i < 0 then -i else i) = (i.natAbs : Nat) := by
      split <;> omega
    rw [e]
    exact k _ fun _ => .int _⟩ hm PyProof.Rows.boot_abs hg (by decide) (by decide) he hpl
theorem ee_max {i j : Int} (ha : EE R X γ a (.int i)) (hb : EE R X γ b (.int j)) (hc : X.calm = true) (hm : X.mg "max" = none) (hg : Gl X "max" := by rfl) (he : starEach [a, b] X.env = (false, eval a X.env) :: starEach [b] X.env := by rfl) (he2 : starEach [b] X.env = (false, eval b X.env) :: starEach [] X.env := by rfl) (hpl : (backTo pos (starEach [b] X.env)).any (·.1) = false := by rfl) :
    EE R X γ (.Call (.Name "max" p) [a, b] [] pos) (.int (max i j)) := ee_callB (ea_cons ha (ea_cons hb ea_nil he2) he) ⟨_, call_max2 hc, fun H vs Q hd k => by
  cases hd with
  | cons d t =>
    cases t with
    | cons d2 t =>
      cases t
      cases d
      cases d2
      refine ⟨i, j, rfl, ?_⟩
      have e : (if j > i then j else i) = max i j := by
        split <;> omega
      rw [e]
      exact k _ fun _ => .int _⟩ hm PyProof.Rows.boot_max hg (by decide) (by decide) he hpl
theorem ee_min {i j : Int} (ha : EE R X γ a (.int i)) (hb : EE R X γ b (.int j)) (hc : X.calm = true) (hm : X.mg "min" = none) (hg : Gl X "min" := by rfl) (he : starEach [a, b] X.env = (false, eval a X.env) :: starEach [b] X.env := by rfl) (he2 : starEach [b] X.env = (false, eval b X.env) :: starEach [] X.env := by rfl) (hpl : (backTo pos (starEach [b] X.env)).any (·.1) = false := by rfl) :
    EE R X γ (.Call (.Name "min" p) [a, b] [] pos) (.int (min i j)) := ee_callB (ea_cons ha (ea_cons hb ea_nil he2) he) ⟨_, call_min2 hc, fun H vs Q hd k => by
  cases hd with
  | cons d t =>
    cases t with
    | cons d2 t =>
      cases t
      cases d
      cases d2
      refine ⟨i, j, rfl, ?_⟩
      have e : (if j < i then j else i) = min i j := by
        split <;> omega
      rw [e]
      exact k _ fun _ => .int _⟩ hm PyProof.Rows.boot_min hg (by decide) (by decide) he hpl
theorem ee_intB {c : Bool} (ha : EE R X γ a (.bool c)) (hm : X.mg "int" = none) (hg : Gl X "int" := by rfl) (he : starEach [a] X.env = (false, eval a X.env) :: starEach [] X.env := by rfl) (hpl : (backTo pos (starEach [] X.env)).any (·.1) = false := by rfl) :
    EE R X γ (.Call (.Name "int" p) [a] [] pos) (.int (if c then 1 else 0)) := ee_callTy (ea_cons ha ea_nil he) ⟨_, call_int1, fun H vs Q hd k => by
  cases hd with
  | cons d t =>
    cases t
    cases d
    exact .inr ⟨c, rfl, k _ fun _ => .int _⟩⟩ hm PyProof.Rows.boot_int hg (by decide) (by decide) he hpl
theorem vs_bools {K : PySem.W.Frag} {H : Hp} : ∀ {vs : List V} {bs : List Bool}, DtAll K H vs (bs.map .bool) → vs = bs.map V.bl
  | [], [], _ => rfl
  | [], _ :: _, h => by cases h
  | _ :: _, [], h => by cases h
  | v :: vs, b :: bs, h => by
    cases h with
    | cons h1 h2 =>
      cases h1
      rw [vs_bools h2] <;> rfl
theorem vs_ints {K : PySem.W.Frag} {H : Hp} : ∀ {vs : List V} {ns : List Int}, DtAll K H vs (ns.map .int) → vs = ns.map V.int
  | [], [], _ => rfl
  | [], _ :: _, h => by cases h
  | _ :: _, [], h => by cases h
  | v :: vs, b :: bs, h => by
    cases h with
    | cons h1 h2 =>
      cases h1
      rw [vs_ints h2] <;> rfl
theorem ee_all {bs : List Bool} (ha : EE R X γ a (.list (bs.map .bool))) (hc : X.calm = true) (hm : X.mg "all" = none) (hg : Gl X "all" := by rfl) (he : starEach [a] X.env = (false, eval a X.env) :: starEach [] X.env := by rfl) (hpl : (backTo pos (starEach [] X.env)).any (·.1) = false := by rfl) :
    EE R X γ (.Call (.Name "all" p) [a] [] pos) (.bool (bs.all id)) := ee_callB (ea_cons ha ea_nil he) ⟨_, cr_all hc, fun H vs Q hd k => by
  cases hd with
  | cons d t =>
    cases t
    cases d with
    | lst h1 h2 =>
      rw [vs_bools h2] at h1
      exact ⟨_, bs, rfl, (.inl h1), k _ fun _ => .bl _⟩⟩ hm PyProof.Rows.boot_all hg (by decide) (by decide) he hpl
theorem ee_sum {ns : List Int} (ha : EE R X γ a (.list (ns.map .int))) (hc : X.calm = true) (hm : X.mg "sum" = none) (hg : Gl X "sum" := by rfl) (he : starEach [a] X.env = (false, eval a X.env) :: starEach [] X.env := by rfl) (hpl : (backTo pos (starEach [] X.env)).any (·.1) = false := by rfl) :
    EE R X γ (.Call (.Name "sum" p) [a] [] pos) (.int ns.sum) := ee_callB (ea_cons ha ea_nil he) ⟨_, cr_sum hc, fun H vs Q hd k => by
  cases hd with
  | cons d t =>
    cases t
    cases d with
    | lst h1 h2 =>
      rw [vs_ints h2] at h1
      exact ⟨_, ns, rfl, (.inl h1), k _ fun _ => .int _⟩⟩ hm PyProof.Rows.boot_sum hg (by decide) (by decide) he hpl
/-- list(x): a new one -/
def itemsD : D → Option (List D)
  | .list ds => some ds
  | .tuple ds => some ds
  | _ => none
theorem ef_list {x : D} {ds : List D} (ha : EE R X γ a x) (h : itemsD x = some ds) (hm : X.mg "list" = none) (hg : Gl X "list" := by rfl) (he : starEach [a] X.env = (false, eval a X.env) :: starEach [] X.env := by rfl) (hpl : (backTo pos (starEach [] X.env)).any (·.1) = false := by rfl) :
    EF R X γ (.Call (.Name "list" p) [a] [] pos) ds := fun H0 S0 σ H Q s k =>
  we_of (pe_callTy call_list_of hg hm PyProof.Rows.boot_list pa_wa (by decide) (by decide) he hpl) ((ea_cons ha ea_nil he) H0 S0 σ H _ s fun vs H1 r1 d1 => by
    cases d1 with
    | cons d t =>
      cases t
      cases d with
      | lst h1 h2 =>
        cases h
        exact ⟨_, _, rfl, .inl ((.inl (rd_keep off_in h1))), fun l n => k l _ _ (Rel.free r1 n) (Rel.more r1 (same_new n)) upd_same (dts_newO n h2)⟩
      | tup h1 h2 =>
        cases h
        exact ⟨_, _, rfl, .inr (sqt_keep off_in h1), fun l n => k l _ _ (Rel.free r1 n) (Rel.more r1 (same_new n)) upd_same (dts_newO n h2)⟩
      | _ => cases h)
/-- xs[::-1] -/
theorem ef_rev {ds : List D} {kk : Nat} {p1 p2 p3 : Pos} (ha : EE R X γ a (.list ds)) : EF R X γ (.Subscript a (.Slice none none (some (.UnaryOp .USub (.Constant (.int 1) kk p1) p2)) p3) pos) ds.reverse := fun H0 S0 σ H Q s k =>
  we_of (pe_revL pe_we) (ha H0 S0 σ H _ s fun v H1 r1 d1 => by
    cases d1 with
    | lst h1 h2 => exact ⟨_, _, rfl, (.inl (rd_keep off_in h1)), fun l n => k l _ _ (Rel.free r1 n) (Rel.more r1 (same_new n)) upd_same (dts_newO n (dps_rev h2))⟩)
/-! isinstance -/
def tyN : D → String
  | .none => "NoneType"
  | .bool _ => "bool"
  | .int _ => "int"
  | .str _ => "str"
  | .list _ => "list"
  | .tuple _ => "tuple"
  | .dict _ => "dict"
def isN (a T : String) : Bool := a == T || (a == "bool" && T == "int")
abbrev isT (x : D) (T : String) : Bool := isN (tyN x) T
theorem tyN_mem (x : D) : tyN x ∈ ["NoneType", "bool", "int", "str", "list", "tuple", "dict"] := by
  cases x <;> simp [tyN]
theorem kit_all : ∀ T ∈ ["tuple", "list", "int", "bool", "str"], ∀ a ∈ ["NoneType", "bool", "int", "str", "list", "tuple", "dict"], kitB a T = some (isN a T) := by decide +kernel
theorem kit_isT (x : D) {T : String} (hT : T = "tuple" ∨ T = "list" ∨ T = "int" ∨ T = "bool" ∨ T = "str") : kitB (tyN x) T = some (isT x T) := kit_all T (by simpa using hT) (tyN x) (tyN_mem x)
theorem tyX_of {K : PySem.W.Frag} {H : Hp} {v : V} {d : D} {T : String} (h : Dt K H v d) (hT : T = "tuple" ∨ T = "list" ∨ T = "int" ∨ T = "bool" ∨ T = "str") : ∃ t, TyX K H v t ∧ PySem.W.kitOne K t (.type T) = some (isT d T) := by
  cases h with
  | non => exact ⟨_, .base .non, kit_ty (kit_isT .none hT)⟩
  | bl b => exact ⟨_, .base (.bl b), kit_ty (kit_isT (.bool b) hT)⟩
  | int i => exact ⟨_, .base (.int i), kit_ty (kit_isT (.int i) hT)⟩
  | str x => exact ⟨_, .base (.str x), kit_ty (kit_isT (.str x) hT)⟩
  | lst h1 h2 =>
    rcases h1 with h | ⟨o, h⟩
    · exact ⟨_, .base (.lst h), kit_ty (kit_isT (.list _) hT)⟩
    · exact ⟨_, .base (.frz h), kit_ty (kit_isT (.list _) hT)⟩
  | tup h1 h2 =>
    rcases h1 with (h | ⟨o, h⟩) | ⟨o, its, n, h, hc, _⟩
    · exact ⟨_, .base (.tup h), kit_ty (kit_isT (.tuple _) hT)⟩
    · exact ⟨_, .fTuple h, kit_ty (kit_isT (.tuple _) hT)⟩
    · exact ⟨_, .kTuple h hc, kit_ty (kit_isT (.tuple _) hT)⟩
  | dic h1 _ _ _ => exact ⟨_, .base (.dK h1), kit_ty (kit_isT (.dict _) hT)⟩
  | obj h0 h1 _ _ _ =>
    refine ⟨_, .base (.ins h1 h0.cl h0.ha h0.hn h0.htk h0.hm), ?_⟩
    rw [h0.kit T (by simpa using hT)]
    rcases hT with rfl | rfl | rfl | rfl | rfl <;> rfl
theorem ee_isi {x : D} (T : String) {nm : Str} {pT : Pos} (ha : EE R X γ a x) (hT : T = "tuple" ∨ T = "list" ∨ T = "int" ∨ T = "bool" ∨ T = "str") (hm : X.mg "isinstance" = none) (hmT : X.mg nm = none) (hv : bootBuiltins nm = some (.type T)) (hg : Gl X "isinstance" := by rfl) (hgT : Gl X nm := by rfl) (hn : nm ≠ "__name__" := by decide) (hdb : (nm == ("__debug__" : Str)) = false := by decide)
    (he : starEach [a, .Name nm pT] X.env = (false, eval a X.env) :: starEach [.Name nm pT] X.env := by rfl) (he2 : starEach [.Name nm pT] X.env = (false, eval (.Name nm pT) X.env) :: starEach [] X.env := by rfl) (hpl : (backTo pos (starEach [.Name nm pT] X.env)).any (·.1) = false := by rfl) :
    EE R X γ (.Call (.Name "isinstance" p) [a, .Name nm pT] [] pos) (.bool (isT x T)) := fun H0 S0 σ H Q s k =>
  we_of (pe_callB call_isi hg hm PyProof.Rows.boot_isinstance (pa_cons pe_we (pa_cons (pe_bltn (v := .ty T) hgT hmT hv rfl hn hdb) pa_nil he2) he) (by decide) (by decide) he hpl) (ha H0 S0 σ H _ s fun v H1 r1 d1 => by
    obtain ⟨t, h1, h2⟩ := tyX_of (dt_in d1) hT
    exact ⟨v, .ty T, t, .type T, isT x T, rfl, .ty T, h1, h2, k _ H1 r1 (.bl _)⟩)
/-! == of a list of one's own, as a test -/
theorem et_cmpO {c : Bool} (i : Nat) {x : Str} {ds : List D} {op : CmpOp} {y : D} {p2 : Pos} (hb : EE R X γ b y) (ho : OpD X (compareOp op) (.list ds) y (.bool c)) (hmk : behindInMarks op b = false) (hi : γ[i]? = some (.own ds) := by rfl) (hN : X.N[i]? = some x := by rfl)
    (hv : Vis X.env.scope x := by first | exact Or.inl rfl | exact Or.inr (Or.inl rfl) | exact Or.inr (Or.inr rfl)) (hd : (x == ("__debug__" : Str)) = false := by decide) (hcd : (x == ("__classdict__" : Str)) = false := by decide) :
    ET R X γ (.Compare (.Name x p2) [op] [b] pos) c := fun H0 S0 σ H Q s k => by
  obtain ⟨r, h1, h2⟩ := ho
  obtain ⟨l, vs, e1, _, _, _⟩ := s.own i ds hi
  refine wt_of (pt_cmpR h1 (pe_var hN hv hd hcd) pe_we hmk) ⟨_, e1, hb H0 S0 σ H _ s fun u H2 r2 d2 => ?_⟩
  obtain ⟨l', vs', a1, _, a3, a4⟩ := (s.mono r2).own i ds hi
  rw [e1] at a1
  cases a1
  refine h2 H2 _ u _ (.lst (.inl a3) (dts_in a4)) (dt_in d2) fun z q => ?_
  have e := q H2
  cases e
  exact ⟨c, rfl, k H2 r2⟩
/-! is, is not, of truths -/
theorem op_isB : OpR X (compareOp .Is) (fun x y H Q => ∃ a b, x = .bl a ∧ y = .bl b ∧ Q (.bl (a == b)) H) := by
  intro pins s σ H x y v u Q I rx ry h
  obtain ⟨a, b, rfl, rfl, q⟩ := h
  cases rx
  cases ry
  show wpAny _ _ (isSame (Value.bool a) (Value.bool b) >>= fun z => pure (Value.bool z)) _ _ s
  exact wpAny_bind (wpAny_isSame_plain rfl (wpAny_pure (fin_bl I q (by cases a <;> cases b <;> rfl))))
theorem op_isNB : OpR X (compareOp .IsNot) (fun x y H Q => ∃ a b, x = .bl a ∧ y = .bl b ∧ Q (.bl (!(a == b))) H) := by
  intro pins s σ H x y v u Q I rx ry h
  obtain ⟨a, b, rfl, rfl, q⟩ := h
  cases rx
  cases ry
  show wpAny _ _ (isSame (Value.bool a) (Value.bool b) >>= fun z => pure (Value.bool (!z))) _ _ s
  exact wpAny_bind (wpAny_isSame_plain rfl (wpAny_pure (fin_bl I q (by cases a <;> cases b <;> rfl))))
theorem od_isB {a b : Bool} : OpD X (compareOp .Is) (.bool a) (.bool b) (.bool (a == b)) := ⟨_, op_isB, fun H x y Q hx hy k => by
  cases hx
  cases hy
  exact ⟨a, b, rfl, rfl, k _ fun _ => .bl _⟩⟩
theorem od_isNB {a b : Bool} : OpD X (compareOp .IsNot) (.bool a) (.bool b) (.bool (!(a == b))) := ⟨_, op_isNB, fun H x y Q hx hy k => by
  cases hx
  cases hy
  exact ⟨a, b, rfl, rfl, k _ fun _ => .bl _⟩⟩
end
end An

/-! Fractions as data; their sizes. -/
namespace An
open PySem
/-- the most bits of two factors together -/
def LIM : Nat := 134217728
def eF (q : Rat) : D := .tuple [.int q.num, .int (q.den : Nat)]
def eP (p : List Rat) : D := .list (p.map eF)
/-- a fraction of less than n bits -/
def Rz (n : Nat) (q : Rat) : Prop := q.num.natAbs < 2 ^ n ∧ q.den < 2 ^ n
theorem Rz.mono {n m : Nat} {q : Rat} (h : Rz n q) (k : n ≤ m) : Rz m q :=
  ⟨Nat.lt_of_lt_of_le h.1 (Nat.pow_le_pow_right (by decide) k), Nat.lt_of_lt_of_le h.2 (Nat.pow_le_pow_right (by decide) k)⟩
theorem Rz.pos {n : Nat} {q : Rat} (h : Rz n q) : 0 < n := by
  cases n with
  | zero =>
    have h1 := h.2
    have h2 := q.den_pos
    simp at h1
    omega
  | succ n => omega
theorem eF_inj {a b : Rat} (h : eF a = eF b) : a = b := by
  unfold eF at h
  injection h with h
  injection h with h1 h2
  injection h2 with h2 _
  injection h1 with h1
  injection h2 with h2
  exact Rat.ext h1 (by omega)
theorem Rz.mk {n : Nat} {t : Int} {u : Nat} (ht : t.natAbs < 2 ^ n) (hu : u < 2 ^ n) (h0 : 0 < u) : Rz n (mkRat t u) := by
  have hz : u ≠ 0 := by omega
  constructor
  · rw [Rat.num_mkRat, if_neg hz]
    refine Nat.lt_of_le_of_lt ?_ ht
    rw [Int.natAbs_ediv_of_dvd (Int.ofNat_dvd_left.mpr (Nat.gcd_dvd_right _ _))]
    exact Nat.div_le_self _ _
  · rw [Rat.den_mkRat, if_neg hz]
    exact Nat.lt_of_le_of_lt (Nat.div_le_self _ _) hu
theorem nat_mul_lt {a b n m : Nat} (ha : a < 2 ^ n) (hb : b < 2 ^ m) : a * b < 2 ^ (n + m) := by
  rw [Nat.pow_add]
  exact Nat.mul_lt_mul'' ha hb
theorem Rz.mul {n m : Nat} {a b : Rat} (ha : Rz n a) (hb : Rz m b) : Rz (n + m) (a * b) := by
  rw [Rat.mul_def']
  refine Rz.mk ?_ ?_ (Nat.mul_pos a.den_pos b.den_pos)
  · rw [Int.natAbs_mul]
    exact nat_mul_lt ha.1 hb.1
  · exact nat_mul_lt ha.2 hb.2
theorem Rz.add {n m : Nat} {a b : Rat} (ha : Rz n a) (hb : Rz m b) : Rz (n + m + 1) (a + b) := by
  rw [Rat.add_def']
  have h1 := nat_mul_lt ha.1 hb.2
  have h2 := nat_mul_lt ha.2 hb.1
  have h3 := nat_mul_lt ha.2 hb.2
  have e : (2 : Nat) ^ (n + m + 1) = 2 ^ (n + m) + 2 ^ (n + m) := by rw [Nat.pow_succ]; omega
  refine Rz.mk ?_ ?_ (Nat.mul_pos a.den_pos b.den_pos)
  · refine Nat.lt_of_le_of_lt (Int.natAbs_add_le _ _) ?_
    rw [Int.natAbs_mul, Int.natAbs_mul, Int.natAbs_natCast, Int.natAbs_natCast, Nat.mul_comm b.num.natAbs, e]
    omega
  · rw [e]
    omega
theorem Rz.neg {n : Nat} {a : Rat} (ha : Rz n a) : Rz n (-a) := ⟨by rw [Rat.neg_num, Int.natAbs_neg]; exact ha.1, ha.2⟩
theorem Rz.sub {n m : Nat} {a b : Rat} (ha : Rz n a) (hb : Rz m b) : Rz (n + m + 1) (a - b) := by
  rw [Rat.sub_eq_add_neg]
  exact ha.add hb.neg
theorem Rz.inv {n : Nat} {a : Rat} (ha : Rz n a) : Rz n a⁻¹ := by
  constructor
  · rw [Rat.num_inv, Int.natAbs_mul, Int.natAbs_natCast]
    have : a.num.sign.natAbs ≤ 1 := by
      rcases Int.lt_trichotomy a.num 0 with h | h | h
      · rw [Int.sign_eq_neg_one_of_neg h]; decide
      · rw [h]; decide
      · rw [Int.sign_eq_one_of_pos h]; decide
    refine Nat.lt_of_le_of_lt (Nat.mul_le_mul_right _ this) ?_
    rw [Nat.one_mul]
    exact ha.2
  · rw [Rat.den_inv]
    split
    · exact Nat.lt_of_le_of_lt a.den_pos ha.2
    · exact ha.1
theorem Rz.div {n m : Nat} {a b : Rat} (ha : Rz n a) (hb : Rz m b) : Rz (n + m) (a / b) := by
  rw [Rat.div_def]
  exact ha.mul hb.inv
/-- what two sizes let be multiplied -/
theorem mulx {n m : Nat} {i j : Int} (hi : i.natAbs < 2 ^ n) (hj : j.natAbs < 2 ^ m) (h : n + m ≤ LIM) : L2.CMulX i j := L2.mulx_ok hi hj h
/-! the fraction of a top and an under above nought, as the program makes it -/
theorem made_eq {t : Int} {u : Nat} (h : 0 < u) : (PyData.tuple [.int (t / (Nat.gcd t.natAbs u : Nat)), .int ((u : Int) / (Nat.gcd t.natAbs u : Nat))] : D) = eF (mkRat t u) := by
  have hz : u ≠ 0 := by omega
  unfold eF
  rw [Rat.num_mkRat, Rat.den_mkRat, if_neg hz, if_neg hz, Nat.gcd_comm u]
  rfl
theorem divInt_pos {t : Int} {u : Nat} : Rat.divInt t (u : Int) = mkRat t u := Rat.divInt_ofNat t u
/-- is it a fraction -/
def isF : D → Bool
  | .tuple [.int t, .int u] => decide (0 < u) && Nat.gcd t.natAbs u.natAbs == 1
  | _ => false
theorem isF_eF (q : Rat) : isF (eF q) = true := by
  unfold eF isF
  have h := q.reduced
  have h2 := q.den_pos
  simp only [Bool.and_eq_true, decide_eq_true_eq, beq_iff_eq, Int.natAbs_natCast]
  exact ⟨by omega, h⟩
theorem isF_some {x : D} (h : isF x = true) : ∃ q, x = eF q := by
  unfold isF at h
  split at h
  · rename_i t u
    rw [Bool.and_eq_true, decide_eq_true_eq, beq_iff_eq] at h
    refine ⟨⟨t, u.natAbs, by omega, h.2⟩, ?_⟩
    unfold eF
    have : (u.natAbs : Int) = u := by omega
    rw [this]
  · cases h
end An
namespace An
open PySem PySem.Spec PyProof.Rows L2
abbrev noX : List D → Value → Prop := fun _ _ => False
/-- a def of the text stands behind the top -/
def FE (K : PySem.W.Frag) (mg : Str → Option Value) (x : Str) (st : Stmt) : Prop := ∃ (f : Addr) (fd : FuncData), FunD K x x (defArgs st) (defBody st) (defScope st) [] [] f fd ∧ mg x = some (.ref f)
def ec (K : PySem.W.Frag) (x : Str) : Value := .ref (He.ga K x)
end An

/-! Polynomials as lists of fractions. -/
namespace An
open PySem
/-! ### data that can be compared -/
def Sh (n : Nat) (d : D) : Prop := d.canLay0 = true ∧ d.depth ≤ n
theorem Sh.ok {n : Nat} {d : D} (h : Sh n d) (k : n ≤ 64) : SeqAt.shaped d = true := by
  unfold SeqAt.shaped
  rw [h.1, Bool.true_and]
  exact decide_eq_true (Nat.le_trans h.2 k)
theorem Sh.ok0 {d : D} (h : Sh 0 d) : SeqAt.shaped d = true := h.ok (by decide)
theorem Sh.ok1 {d : D} (h : Sh 1 d) : SeqAt.shaped d = true := h.ok (by decide)
theorem Sh.ok2 {d : D} (h : Sh 2 d) : SeqAt.shaped d = true := h.ok (by decide)
theorem Sh.ok3 {d : D} (h : Sh 3 d) : SeqAt.shaped d = true := h.ok (by decide)
theorem Sh.ok4 {d : D} (h : Sh 4 d) : SeqAt.shaped d = true := h.ok (by decide)
theorem sh_int {n : Nat} {i : Int} : Sh n (.int i) := ⟨by simp [PyData.canLay0], by simp [PyData.depth]⟩
theorem sh_bool {n : Nat} {i : Bool} : Sh n (.bool i) := ⟨by simp [PyData.canLay0], by simp [PyData.depth]⟩
theorem sh_none {n : Nat} : Sh n .none := ⟨by simp [PyData.canLay0], by simp [PyData.depth]⟩
theorem sh_str {n : Nat} {x : Str} (h : PyData.strOk x = true) : Sh n (.str x) := ⟨by simp [PyData.canLay0, h], by simp [PyData.depth]⟩
theorem depthAll_le {n : Nat} : ∀ {ds : List D}, (∀ d ∈ ds, d.depth ≤ n) → PyData.depthAll ds ≤ n
  | [], _ => by simp [PyData.depthAll]
  | d :: ds, h => by
    have h1 := h d List.mem_cons_self
    have h2 := depthAll_le (ds := ds) fun e he => h e (List.mem_cons_of_mem _ he)
    simp only [PyData.depthAll]
    omega
theorem layAll {ds : List D} (h : ∀ d ∈ ds, d.canLay0 = true) : PyData.canLayAll0 ds = true := by
  induction ds with
  | nil => simp [PyData.canLayAll0]
  | cons d ds ih =>
    simp only [PyData.canLayAll0, Bool.and_eq_true]
    exact ⟨h d List.mem_cons_self, ih fun e he => h e (List.mem_cons_of_mem _ he)⟩
theorem sh_list {n : Nat} {ds : List D} (h : ∀ d ∈ ds, Sh n d) : Sh (n + 1) (.list ds) :=
  ⟨by simp only [PyData.canLay0]; exact layAll fun d hd => (h d hd).1, by simp only [PyData.depth]; have := depthAll_le fun d hd => (h d hd).2; omega⟩
theorem sh_tup {n : Nat} {ds : List D} (h : ∀ d ∈ ds, Sh n d) : Sh (n + 1) (.tuple ds) :=
  ⟨by simp only [PyData.canLay0]; exact layAll fun d hd => (h d hd).1, by simp only [PyData.depth]; have := depthAll_le fun d hd => (h d hd).2; omega⟩
theorem Sh.mono {n m : Nat} {d : D} (h : Sh n d) (k : n ≤ m) : Sh m d := ⟨h.1, Nat.le_trans h.2 k⟩
theorem sh_eF (q : Rat) : Sh 1 (eF q) := sh_tup fun d hd => by
  have : d = .int q.num ∨ d = .int (q.den : Nat) := by simpa using hd
  rcases this with rfl | rfl
  · exact sh_int
  · exact sh_int
theorem sh_eP (p : List Rat) : Sh 2 (eP p) := sh_list fun d hd => by
  obtain ⟨q, _, rfl⟩ := List.mem_map.mp hd
  exact sh_eF q
theorem eqv_eF (a b : Rat) : PyData.eqv (eF a) (eF b) = decide (a = b) := by
  unfold eF
  simp only [PyData.eqv, PyData.eqvAll, Bool.and_true]
  by_cases h : a = b
  · subst h
    simp
  · rw [decide_eq_false h]
    by_cases h1 : a.num = b.num
    · have h2 : a.den ≠ b.den := fun e => h (Rat.ext h1 e)
      have : ((a.den : Int) == (b.den : Int)) = false := beq_eq_false_iff_ne.mpr fun e => h2 (by omega)
      rw [this, Bool.and_false]
    · have : (a.num == b.num) = false := by simpa using h1
      rw [this, Bool.false_and]
theorem eqvAll_map {α : Type} [DecidableEq α] {f : α → D} (hf : ∀ a b, PyData.eqv (f a) (f b) = decide (a = b)) : ∀ xs ys : List α, PyData.eqvAll (xs.map f) (ys.map f) = decide (xs = ys)
  | [], [] => by simp [PyData.eqvAll]
  | [], _ :: _ => by simp [PyData.eqvAll]
  | _ :: _, [] => by simp [PyData.eqvAll]
  | x :: xs, y :: ys => by
    simp only [List.map_cons, PyData.eqvAll, hf, eqvAll_map hf xs ys]
    by_cases h1 : x = y
    · subst h1
      simp
    · simp [h1]
theorem eqv_eP (p q : List Rat) : PyData.eqv (eP p) (eP q) = decide (p = q) := by
  unfold eP
  simp only [PyData.eqv]
  exact eqvAll_map eqv_eF p q
/-! ### polynomials -/
abbrev Poly := List Rat
def coef (p : Poly) (i : Nat) : Rat := p.getD i 0
/-- without noughts behind -/
def trim : Poly → Poly
  | [] => []
  | a :: r => if trim r = [] ∧ a = 0 then [] else a :: trim r
/-- a polynomial's own form -/
def Own (p : Poly) : Prop := trim p = p
instance (p : Poly) : Decidable (Own p) := inferInstanceAs (Decidable (trim p = p))
theorem coef_nil (i : Nat) : coef [] i = 0 := by simp [coef]
theorem coef_zero (a : Rat) (r : Poly) : coef (a :: r) 0 = a := rfl
theorem coef_succ (a : Rat) (r : Poly) (i : Nat) : coef (a :: r) (i + 1) = coef r i := by simp [coef]
theorem coef_out {p : Poly} {i : Nat} (h : p.length ≤ i) : coef p i = 0 := by
  unfold coef
  rw [List.getD_eq_getElem?_getD, List.getElem?_eq_none h]
  rfl
theorem coef_in {p : Poly} {i : Nat} (h : i < p.length) : coef p i = p[i] := by
  unfold coef
  rw [List.getD_eq_getElem?_getD, List.getElem?_eq_getElem h]
  rfl
theorem coef_trim : ∀ (p : Poly) (i : Nat), coef (trim p) i = coef p i
  | [], i => rfl
  | a :: r, i => by
    unfold trim
    by_cases h : trim r = [] ∧ a = 0
    · rw [if_pos h, coef_nil]
      cases i with
      | zero => rw [coef_zero, h.2]
      | succ i => rw [coef_succ, ← coef_trim r i, h.1, coef_nil]
    · rw [if_neg h]
      cases i with
      | zero => rw [coef_zero, coef_zero]
      | succ i => rw [coef_succ, coef_succ, coef_trim r i]
theorem trim_idem : ∀ p : Poly, trim (trim p) = trim p
  | [] => rfl
  | a :: r => by
    show trim (if trim r = [] ∧ a = 0 then [] else a :: trim r) = if trim r = [] ∧ a = 0 then [] else a :: trim r
    by_cases h : trim r = [] ∧ a = 0
    · rw [if_pos h]
      rfl
    · rw [if_neg h]
      show (if trim (trim r) = [] ∧ a = 0 then [] else a :: trim (trim r)) = _
      rw [trim_idem r, if_neg h]
theorem own_trim (p : Poly) : Own (trim p) := trim_idem p
/-- the same fractions, the same own form -/
theorem trim_ext : ∀ {p q : Poly}, (∀ i, coef p i = coef q i) → trim p = trim q
  | [], [], _ => rfl
  | [], b :: s, h => by
    have h1 : b = 0 := by
      have := h 0
      rw [coef_nil, coef_zero] at this
      exact this.symm
    have h2 : trim [] = trim s := trim_ext fun i => by
      have := h (i + 1)
      rw [coef_nil, coef_succ] at this
      rw [coef_nil, this]
    show [] = if trim s = [] ∧ b = 0 then [] else b :: trim s
    rw [if_pos ⟨h2.symm, h1⟩]
  | a :: r, [], h => by
    have h1 : a = 0 := by
      have := h 0
      rw [coef_nil, coef_zero] at this
      exact this
    have h2 : trim r = trim [] := trim_ext fun i => by
      have := h (i + 1)
      rw [coef_nil, coef_succ] at this
      rw [coef_nil, this]
    show (if trim r = [] ∧ a = 0 then [] else a :: trim r) = []
    rw [if_pos ⟨h2, h1⟩]
  | a :: r, b :: s, h => by
    have h1 : a = b := by
      have := h 0
      rw [coef_zero, coef_zero] at this
      exact this
    have h2 : trim r = trim s := trim_ext fun i => by
      have := h (i + 1)
      rw [coef_succ, coef_succ] at this
      exact this
    subst h1
    show (if trim r = [] ∧ a = 0 then [] else a :: trim r) = (if trim s = [] ∧ a = 0 then [] else a :: trim s)
    rw [h2]
theorem own_ext {p q : Poly} (hp : Own p) (hq : Own q) (h : ∀ i, coef p i = coef q i) : p = q := by
  rw [← hp, ← hq]
  exact trim_ext h
theorem trim_len : ∀ p : Poly, (trim p).length ≤ p.length
  | [] => Nat.le_refl _
  | a :: r => by
    unfold trim
    split
    · exact Nat.zero_le _
    · exact Nat.succ_le_succ (trim_len r)
theorem trim_mem : ∀ {p : Poly} {q : Rat}, q ∈ trim p → q ∈ p
  | [], q, h => h
  | a :: r, q, h => by
    unfold trim at h
    split at h
    · cases h
    · rcases List.mem_cons.mp h with h | h
      · exact h ▸ List.mem_cons_self
      · exact List.mem_cons_of_mem _ (trim_mem h)
theorem own_nil : Own [] := rfl
theorem own_cons {a : Rat} {r : Poly} (h : Own (a :: r)) : Own r := by
  unfold Own trim at h
  split at h
  · cases h
  · injection h with _ h
theorem own_iff {p : Poly} : Own p ↔ p = [] ∨ coef p (p.length - 1) ≠ 0 := by
  induction p with
  | nil => exact ⟨fun _ => .inl rfl, fun _ => rfl⟩
  | cons a r ih =>
    constructor
    · intro h
      refine .inr ?_
      have hr := own_cons h
      rcases ih.mp hr with e | e
      · subst e
        intro z
        have z' : a = 0 := z
        unfold Own trim at h
        rw [if_pos ⟨rfl, z'⟩] at h
        cases h
      · cases r with
        | nil => exact absurd (coef_nil _) e
        | cons b s =>
          show coef (a :: b :: s) (s.length + 1) ≠ 0
          rw [coef_succ]
          exact e
    · intro h
      rcases h with h | h
      · cases h
      · unfold Own trim
        cases r with
        | nil =>
          have h' : a ≠ 0 := h
          rw [if_neg (fun z => h' z.2)]
          rfl
        | cons b s =>
          have hr : Own (b :: s) := ih.mpr (.inr (by
            have h' : coef (a :: b :: s) (s.length + 1) ≠ 0 := h
            rw [coef_succ] at h'
            exact h'))
          have hr' : trim (b :: s) = b :: s := hr
          rw [hr', if_neg (fun z => nomatch z.1)]
/-- where the noughts begin -/
theorem trim_take {p : Poly} {m : Nat} (h1 : ∀ i, m ≤ i → coef p i = 0) (h2 : m = 0 ∨ coef p (m - 1) ≠ 0) (hm : m ≤ p.length) : p.take m = trim p := by
  have hl : (p.take m).length = m := by rw [List.length_take]; omega
  have ho : Own (p.take m) := own_iff.mpr (by
    rcases h2 with h | h
    · left
      rw [h]
      rfl
    · right
      rw [hl]
      unfold coef at h ⊢
      rw [List.getD_eq_getElem?_getD] at h ⊢
      by_cases h0 : m = 0
      · subst h0
        cases p with
        | nil => exact h
        | cons a r => exact absurd (h1 0 (Nat.le_refl _)) h
      · rw [List.getElem?_take_of_lt (by omega)]
        exact h)
  rw [← ho]
  refine trim_ext fun i => ?_
  by_cases hi : i < m
  · unfold coef
    rw [List.getD_eq_getElem?_getD, List.getD_eq_getElem?_getD, List.getElem?_take_of_lt hi]
  · rw [coef_out (by omega), h1 i (by omega)]
/-! ### is it a polynomial -/
def isPo : D → Bool
  | .list ds => decide (ds.length ≤ 13) && ds.all isF && (ds.isEmpty || !PyData.eqv (ds.getD (ds.length - 1) .none) (eF 0))
  | _ => false
theorem all_isF {ds : List D} (h : ds.all isF = true) : ∃ p : Poly, ds = p.map eF := by
  induction ds with
  | nil => exact ⟨[], rfl⟩
  | cons d ds ih =>
    rw [List.all_cons, Bool.and_eq_true] at h
    obtain ⟨q, rfl⟩ := isF_some h.1
    obtain ⟨p, rfl⟩ := ih h.2
    exact ⟨q :: p, rfl⟩
theorem isPo_eP (p : Poly) : isPo (eP p) = (decide (p.length ≤ 13) && decide (Own p)) := by
  unfold isPo eP
  have h1 : (p.map eF).all isF = true := by
    rw [List.all_eq_true]
    intro d hd
    obtain ⟨q, _, rfl⟩ := List.mem_map.mp hd
    exact isF_eF q
  have h2 : ((p.map eF).isEmpty || !PyData.eqv ((p.map eF).getD ((p.map eF).length - 1) .none) (eF 0)) = decide (Own p) := by
    cases p with
    | nil => simp [own_nil]
    | cons a r =>
      have e : ((a :: r).map eF).getD (((a :: r).map eF).length - 1) .none = eF (coef (a :: r) ((a :: r).length - 1)) := by
        rw [List.length_map, List.getD_eq_getElem?_getD, List.getElem?_map, coef_in (by rw [List.length_cons]; omega), List.getElem?_eq_getElem (by rw [List.length_cons]; omega)]
        rfl
      rw [e, eqv_eF]
      have hq : decide (Own (a :: r)) = !decide (coef (a :: r) ((a :: r).length - 1) = 0) := by
        rw [← decide_not]
        refine decide_eq_decide.mpr ⟨fun h => ?_, fun h => own_iff.mpr (.inr h)⟩
        rcases own_iff.mp h with h | h
        · cases h
        · exact h
      rw [hq]
      rfl
  show (decide ((p.map eF).length ≤ 13) && (p.map eF).all isF && ((p.map eF).isEmpty || !PyData.eqv ((p.map eF).getD ((p.map eF).length - 1) .none) (eF 0))) = _
  rw [h1, h2, List.length_map, Bool.and_true]
theorem isPo_some {x : D} (h : isPo x = true) : ∃ p : Poly, x = eP p ∧ p.length ≤ 13 ∧ Own p := by
  unfold isPo at h
  split at h
  · rename_i ds
    have h0 := h
    rw [Bool.and_eq_true, Bool.and_eq_true] at h
    obtain ⟨p, rfl⟩ := all_isF h.1.2
    have h3 : isPo (eP p) = true := h0
    rw [isPo_eP, Bool.and_eq_true] at h3
    exact ⟨p, rfl, of_decide_eq_true h3.1, of_decide_eq_true h3.2⟩
  · cases h
/-! ### sizes -/
def PZ (n : Nat) (p : Poly) : Prop := ∀ q ∈ p, Rz n q
theorem rz_zero : Rz 1 0 := by constructor <;> decide
theorem rz_one : Rz 1 1 := by constructor <;> decide
theorem PZ.mono {n m : Nat} {p : Poly} (h : PZ n p) (k : n ≤ m) : PZ m p := fun q hq => (h q hq).mono k
theorem PZ.coef {n : Nat} {p : Poly} (h : PZ n p) (hn : 0 < n) (i : Nat) : Rz n (coef p i) := by
  by_cases hi : i < p.length
  · rw [coef_in hi]
    exact h _ (List.getElem_mem hi)
  · rw [coef_out (by omega)]
    exact rz_zero.mono hn
theorem PZ.trim {n : Nat} {p : Poly} (h : PZ n p) : PZ n (trim p) := fun q hq => h q (trim_mem hq)
theorem pz_nil {n : Nat} : PZ n [] := fun q hq => by cases hq
/-! ### sums -/
def paddRaw (p q : Poly) : Poly := (List.range (max p.length q.length)).map fun i => coef p i + coef q i
def padd (p q : Poly) : Poly := trim (paddRaw p q)
theorem coef_map {n : Nat} {f : Nat → Rat} {i : Nat} : coef ((List.range n).map f) i = if i < n then f i else 0 := by
  by_cases h : i < n
  · rw [if_pos h]
    unfold coef
    rw [List.getD_eq_getElem?_getD, List.getElem?_map, List.getElem?_range h]
    rfl
  · rw [if_neg h, coef_out (by simpa using h)]
theorem coef_padd (p q : Poly) (i : Nat) : coef (padd p q) i = coef p i + coef q i := by
  unfold padd paddRaw
  rw [coef_trim, coef_map]
  split
  · rfl
  · rw [coef_out (by omega), coef_out (by omega), Rat.add_zero]
theorem own_padd (p q : Poly) : Own (padd p q) := own_trim _
theorem padd_len (p q : Poly) : (padd p q).length ≤ max p.length q.length := Nat.le_trans (trim_len _) (by unfold paddRaw; simp)
theorem pz_padd {n m : Nat} {p q : Poly} (hp : PZ n p) (hq : PZ m q) (h0 : 0 < n) (h1 : 0 < m) : PZ (n + m + 1) (padd p q) := PZ.trim fun a ha => by
  obtain ⟨i, _, rfl⟩ := List.mem_map.mp ha
  exact (hp.coef h0 i).add (hq.coef h1 i)
/-! ### products -/
def cmul : Poly → Poly → Nat → Rat
  | [], _, _ => 0
  | a :: p, q, k => a * coef q k + (match k with | 0 => 0 | k + 1 => cmul p q k)
def pmul (p q : Poly) : Poly := trim ((List.range (p.length + q.length - 1)).map (cmul p q))
theorem cmul_out : ∀ {p q : Poly} {k : Nat}, p.length + q.length ≤ k + 1 → cmul p q k = 0
  | [], _, _, _ => rfl
  | a :: p, q, 0, h => by
    have : q.length = 0 := by rw [List.length_cons] at h; omega
    show a * coef q 0 + 0 = 0
    rw [coef_out (by omega), Rat.mul_zero, Rat.zero_add]
  | a :: p, q, k + 1, h => by
    rw [List.length_cons] at h
    show a * coef q (k + 1) + cmul p q k = 0
    rw [cmul_out (by omega)]
    by_cases hq : q.length ≤ k + 1
    · rw [coef_out hq, Rat.mul_zero, Rat.zero_add]
    · omega
theorem coef_pmul (p q : Poly) (k : Nat) : coef (pmul p q) k = cmul p q k := by
  unfold pmul
  rw [coef_trim, coef_map]
  split
  · rfl
  · rw [cmul_out (by omega)]
theorem own_pmul (p q : Poly) : Own (pmul p q) := own_trim _
theorem pmul_len (p q : Poly) : (pmul p q).length ≤ p.length + q.length - 1 := Nat.le_trans (trim_len _) (by simp)
/-- one row more -/
theorem cmul_row : ∀ {p q : Poly} {i k : Nat} (h : i < p.length), cmul (p.take (i + 1)) q k = cmul (p.take i) q k + (if i ≤ k then p[i] * coef q (k - i) else 0)
  | a :: p, q, 0, k, h => by
    show a * coef q k + (match k with | 0 => 0 | k + 1 => cmul [] q k) = 0 + _
    rw [if_pos (Nat.zero_le _), Rat.zero_add]
    cases k with
    | zero => exact Rat.add_zero _
    | succ k => exact Rat.add_zero _
  | a :: p, q, i + 1, 0, h => by
    show a * coef q 0 + 0 = a * coef q 0 + 0 + _
    rw [if_neg (by omega), Rat.add_zero, Rat.add_zero]
  | a :: p, q, i + 1, k + 1, h => by
    have h' : i < p.length := by simpa using h
    show a * coef q (k + 1) + cmul (p.take (i + 1)) q k = a * coef q (k + 1) + cmul (p.take i) q k + _
    rw [cmul_row h', Rat.add_assoc]
    congr 2
    by_cases hk : i ≤ k
    · rw [if_pos hk, if_pos (by omega)]
      simp
    · rw [if_neg hk, if_neg (by omega)]
theorem rz_cmul {n m : Nat} : ∀ {p q : Poly} {k : Nat}, PZ n p → PZ m q → 0 < m → Rz (1 + p.length * (n + m + 1)) (cmul p q k)
  | [], q, k, _, _, _ => rz_zero.mono (by simp)
  | a :: p, q, k, hp, hq, h0 => by
    have h1 := (hp a List.mem_cons_self).mul (hq.coef h0 k)
    have hp' : PZ n p := fun b hb => hp b (List.mem_cons_of_mem _ hb)
    have e : 1 + (a :: p).length * (n + m + 1) = (n + m) + (1 + p.length * (n + m + 1)) + 1 := by
      rw [List.length_cons, Nat.succ_mul]
      omega
    rw [e]
    cases k with
    | zero => exact h1.add (rz_zero.mono (by omega))
    | succ k => exact h1.add (rz_cmul hp' hq h0)
theorem pz_pmul {n m : Nat} {p q : Poly} (hp : PZ n p) (hq : PZ m q) (h0 : 0 < m) : PZ (1 + p.length * (n + m + 1)) (pmul p q) := PZ.trim fun a ha => by
  obtain ⟨i, _, rfl⟩ := List.mem_map.mp ha
  exact rz_cmul hp hq h0
/-! ### worths, slopes -/
def peval (p : Poly) (x : Rat) : Rat := p.foldr (fun a t => t * x + a) 0
theorem rz_peval {n m : Nat} : ∀ {p : Poly} {x : Rat}, PZ n p → Rz m x → Rz (1 + p.length * (n + m + 1)) (peval p x)
  | [], x, _, _ => rz_zero.mono (by simp)
  | a :: p, x, hp, hx => by
    have h1 := rz_peval (p := p) (x := x) (fun b hb => hp b (List.mem_cons_of_mem _ hb)) hx
    have h2 := (h1.mul hx).add (hp a List.mem_cons_self)
    exact h2.mono (by rw [List.length_cons, Nat.succ_mul]; omega)
def pder (p : Poly) : Poly := (List.range (p.length - 1)).map fun i => coef p (i + 1) * ((i + 1 : Nat) : Rat)
/-! ### a number of times -/
def pscale (p : Poly) (c : Rat) : Poly := trim (p.map fun a => a * c)
theorem coef_mapP {p : Poly} {f : Rat → Rat} (h0 : f 0 = 0) (i : Nat) : coef (p.map f) i = f (coef p i) := by
  unfold coef
  rw [List.getD_eq_getElem?_getD, List.getD_eq_getElem?_getD, List.getElem?_map]
  cases p[i]? with
  | none => exact h0.symm
  | some a => rfl
theorem coef_pscale (p : Poly) (c : Rat) (i : Nat) : coef (pscale p c) i = coef p i * c := by
  unfold pscale
  rw [coef_trim, coef_mapP (Rat.zero_mul c)]
theorem own_pscale (p : Poly) (c : Rat) : Own (pscale p c) := own_trim _
theorem pscale_len (p : Poly) (c : Rat) : (pscale p c).length ≤ p.length := Nat.le_trans (trim_len _) (by simp)
theorem pz_pscale {n m : Nat} {p : Poly} {c : Rat} (hp : PZ n p) (hc : Rz m c) : PZ (n + m) (pscale p c) := PZ.trim fun a ha => by
  obtain ⟨b, hb, rfl⟩ := List.mem_map.mp ha
  exact (hp b hb).mul hc
end An
namespace An
open PySem PySem.Spec PyProof.Rows L2
section
variable {X : Cx} {k : Nat}
theorem od_eqI {i j : Int} (g : Gx X k) : OpD X (compareOp .Eq) (.int i) (.int j) (.bool (decide (i = j))) := by
  have h := od_eq (X := X) g (sh_int (n := 0) (i := i)).ok0 (sh_int (n := 0) (i := j)).ok0
  have e : PyData.eqv (.int i) (.int j) = decide (i = j) := by
    simp only [PyData.eqv]
    by_cases z : i = j <;> simp [z]
  rw [e] at h
  exact h
theorem od_neI {i j : Int} (g : Gx X k) : OpD X (compareOp .NotEq) (.int i) (.int j) (.bool (decide (i ≠ j))) := by
  have h := od_ne (X := X) g (sh_int (n := 0) (i := i)).ok0 (sh_int (n := 0) (i := j)).ok0
  have e : (!PyData.eqv (.int i) (.int j)) = decide (i ≠ j) := by
    simp only [PyData.eqv]
    by_cases z : i = j <;> simp [z]
  rw [e] at h
  exact h
theorem od_eqF {a b : Rat} (g : Gx X k) : OpD X (compareOp .Eq) (eF a) (eF b) (.bool (decide (a = b))) := by
  have h := od_eq (X := X) g (sh_eF a).ok1 (sh_eF b).ok1
  rw [eqv_eF] at h
  exact h
theorem od_neF {a b : Rat} (g : Gx X k) : OpD X (compareOp .NotEq) (eF a) (eF b) (.bool (decide (a ≠ b))) := by
  have h := od_ne (X := X) g (sh_eF a).ok1 (sh_eF b).ok1
  rw [eqv_eF, ← decide_not] at h
  exact h
theorem od_eqP {a b : Poly} (g : Gx X k) : OpD X (compareOp .Eq) (eP a) (eP b) (.bool (decide (a = b))) := by
  have h := od_eq (X := X) g (sh_eP a).ok2 (sh_eP b).ok2
  rw [eqv_eP] at h
  exact h
theorem od_neP {a b : Poly} (g : Gx X k) : OpD X (compareOp .NotEq) (eP a) (eP b) (.bool (decide (a ≠ b))) := by
  have h := od_ne (X := X) g (sh_eP a).ok2 (sh_eP b).ok2
  rw [eqv_eP, ← decide_not] at h
  exact h
end
/-! kinds -/
theorem isT_tuple {x : D} (h : isT x "tuple" = true) : ∃ ys, x = .tuple ys := by
  cases x with
  | tuple ys => exact ⟨ys, rfl⟩
  | _ => simp [isN, tyN] at h
theorem isT_list {x : D} (h : isT x "list" = true) : ∃ ys, x = .list ys := by
  cases x with
  | list ys => exact ⟨ys, rfl⟩
  | _ => simp [isN, tyN] at h
def isI : D → Bool
  | .int _ => true
  | _ => false
theorem isI_eq (x : D) : (isT x "int" && !isT x "bool") = isI x := by
  cases x <;> simp [isN, tyN, isI]
end An
namespace An
theorem noO (z : Ow) : Sl.no ≠ .own z := fun e => nomatch e
theorem datO {d : D} (z : Ow) : Sl.dat d ≠ .own z := fun e => nomatch e
theorem valO {d : L2.V} (z : Ow) : Sl.val d ≠ .own z := fun e => nomatch e
theorem fixO {F : Fix} (z : Ow) : Sl.fix F ≠ .own z := fun e => nomatch e
end An
namespace An
open PySem PySem.Spec PyProof.Rows L2
theorem ei_is {R : Hp → Hp → Prop} {X : Cx} {γ : List Sl} {tg it : Expr} {ds ds' : List D} (h : EI R X γ tg it ds) (e : ds = ds') : EI R X γ tg it ds' := by
  rw [← e]
  exact h
end An

/-! While an exception is handled: a list walked to its end, a list comprehension, sum. -/
namespace An
open PySem PySem.Spec PyProof.Rows L2 HotX L2H
section
variable {prog : Program} {w : World} {A : Around} {E : Value → Shared → Prop} {s : Shared}
theorem ext_new {h1 h2 : Heap} {it : Addr} {o1 o2 : Obj} {f : Obj → Obj} (e : Heap.ExtBut it h1 h2) : Heap.ExtBut it h1 (((h2.push o1).push o2).update (h2.push o1).objs.size f) := fun b o hb g => by
  have g1 := Heap.get?_push_of_some o2 (Heap.get?_push_of_some o1 (e b o hb g))
  rw [Heap.get?_update_other _ _ (Nat.ne_of_gt (Heap.lt_size (Heap.get?_push_of_some o1 (e b o hb g))))]
  exact g1
theorem next_list_end_hot {it l x1 : Addr} {i : Nat} {items : Array Value} {Q : Option Value → Shared → Prop} (hot : HotAt A x1 s.heap) (ne : x1 ≠ it) (hi : s.heap.IsListIter it l i) (hl : s.heap.IsList l items) (hx : items[i]? = none)
    (hQ : ∀ h', Heap.ExtBut it s.heap h' → Q none { s with heap := h' }) : wpAny (model prog w) A (pyNext (.ref it)) Q E s := by
  obtain ⟨o, ho, hc, hd⟩ := id hi
  obtain ⟨ol, hol, _, nl, hdl⟩ := hl
  obtain ⟨hh, o1, vs1, h1, d1, c1⟩ := hot
  unfold pyNext
  refine wpAny_bind (wpAny_attempt (wpAny_callSpecial?_slot (name := Str.ofString "__next__") hi.typeIs slot_listiter_next (wpAny_call_entry slot_listiter_next hi.typeIs entry_listiter_next ?_ (args_listiter_next _))))
  show wpAny _ _ (field (.ref it) 0 >>= _) _ _ _
  refine wpAny_bind (wpAny_field ho hd (x := .ref l) rfl ?_)
  show wpAny _ _ (if (Value.ref l == Value.none) = true then _ else _) _ _ _
  rw [if_neg (show ¬ (Value.ref l == Value.none) = true from Bool.false_ne_true)]
  show wpAny _ _ (field (.ref it) 1 >>= _) _ _ _
  refine wpAny_bind (wpAny_field ho hd (x := .int i 0) rfl ?_)
  show wpAny _ _ (seqItems? (.ref l) >>= _) _ _ _
  refine wpAny_bind (wpAny_seqItems hol hdl ?_)
  simp only [Int.toNat_natCast, hx]
  refine wpAny_bind (wpAny_rule (wpAny_bind (wpAny_setField ho hd (by simp) ?_)))
  show wpAny _ _ (newExc (.type "StopIteration") [] >>= _) _ _ _; refine wpAny_bind ?_; simp only [newExc, newTuple]
  refine wpAny_bind (wpAny_newObj_type ?_ (by size_fits))
  refine wpAny_bind (m := firstArgMember _ _) (wpAny_of_eq (a := Value.none) (by first | rfl | (simp only [firstArgMember]; rfl)) ?_); refine wpAny_newObj_type ?_ (by size_fits)
  have k1 := (Heap.get?_update_other s.heap (Obj.mapFields (·.setIfInBounds 0 Value.none)) (Ne.symm ne)).trans h1
  refine raiseNew_hot (x1 := x1) ⟨hh, o1, vs1, Heap.get?_push_of_some _ (Heap.get?_push_of_some _ k1), d1, c1⟩ (Nat.ne_of_lt (Heap.lt_size (Heap.get?_push_of_some _ k1))) (Heap.get?_push_size _ rfl) rfl (by first | (simp; done) | (simp; omega)) ?_
  refine wpAny_bind (wpAny_isInstance (T := "StopIteration") (b := true) ⟨_, Heap.get?_update_self _ (Heap.get?_push_size _ rfl) rfl, rfl⟩ isSubtype_stop ?_)
  exact wpAny_pure (hQ _ (ext_new (Heap.SameBut.update ..).extBut))
/-- a list walked while x1 is handled -/
theorem walksH (I ax x1 : Addr) (hne : ax ≠ I) (n1 : x1 ≠ I) (items : Array Value) : Walks prog w A I [I, ax, x1] [I] items.size (fun i v => items[i]? = some v) (fun i h => h.IsListIter I ax i ∧ h.IsList ax items ∧ HotAt A x1 h) where
  sub := fun b hb => by
    rw [List.mem_singleton.mp hb]
    exact List.mem_cons_self
  frame := fun i h h' ⟨a, b, c, o, vs, d, e⟩ k => ⟨a.at fun o z => k I (by simp) o z, b.at fun o z => k ax (by simp) o z, c, o, vs, k x1 (by simp) o d, e⟩
  item := fun i s Q E hi ⟨a, b, c, o, vs, d, e⟩ hQ => wpAny_pyNext_list_item a b (x := items[i]) (by simp [hi]) fun h' hit hs =>
    hQ _ h' s.toks (by simp [hi]) ⟨hit, b.extBut hs.extBut hne, c, o, vs, hs.extBut x1 o n1 d, e⟩ fun b o hb z => hs.extBut b o (fun y => hb (by simp [y])) z
  done := fun s Q E ⟨a, b, c⟩ hQ => next_list_end_hot c n1 a b (by simp) fun h' e => hQ h' s.toks fun b o hb z => e b o (fun y => hb (by simp [y])) z
  self := fun _ _ _ _ st hQ => wpAny_pyIter_listiter st.1 hQ
theorem sum_hot {l x1 : Addr} {xs : Array (Int × Tok)} {Q : Value → Shared → Prop} (hot : HotAt A x1 s.heap) (hl : s.heap.IsList l (intItems xs))
    (h : ∀ h' tk t', (∀ b o, s.heap.get? b = some o → h'.get? b = some o) → Q (.int (preSum (numAt xs) xs.size) t') { s with heap := h', toks := tk }) : wpAny (model prog w) A (call (.builtin "sum") [.ref l]) Q E s := by
  refine call_sum_walkG (iter_intList hl fun s2 e st hfp hlI => ?_)
  subst e
  obtain ⟨hh, o1, vs1, h1, d1⟩ := hot
  have lt1 := Heap.lt_size h1
  refine ⟨_, _, _, _, _, _, numAt xs, rfl, walksH (A := A.in1) _ l x1 hlI (Nat.ne_of_lt lt1) (intItems xs), ⟨st.1, st.2, hh, o1, vs1, Heap.get?_push_of_some _ h1, d1⟩, fun b hb => ?_, (fun _ _ => intItems_at), fun h' tk t' hk => ?_⟩
  · rcases List.mem_cons.mp hb with z | hb
    · exact hfp b (by rw [z]; exact List.mem_cons_self)
    · rcases List.mem_cons.mp hb with z | hb
      · exact hfp b (by rw [z]; exact List.mem_cons_of_mem _ List.mem_cons_self)
      · rw [List.mem_singleton.mp hb]
        exact Nat.lt_of_lt_of_le lt1 (by show _ ≤ (s.heap.push _).objs.size; rw [Heap.size_push]; exact Nat.le_succ _)
  · have q := h h' tk t' (old_kept hk)
    simpa [intItems] using q
end
section
variable {X : Cx}
theorem cr_sumH (hc : HotC X) : CallR X (.builtin "sum") (rSum X.K) := by
  intro pins s σ H vs us Q I r h
  obtain ⟨a, ns, rfl, hs, q⟩ := h
  obtain ⟨its, rv, hl, _⟩ := I.list hs
  rw [Vals.ref1 r]
  obtain ⟨x1, hot⟩ := hc.at I
  have hi := rv.ints
  obtain ⟨xs, e⟩ := hi.allInts.items
  have hn : numsOf (intItems xs).toList = ns := by
    rw [← e]
    exact hi.numsOf
  rw [nums_intItems] at hn
  subst hn
  have hl' := hl.isList
  rw [e] at hl'
  refine sum_hot hot hl' fun h' tk t' hk => ⟨.int _, H, I.kept hk, ⟨t', ?_⟩, q⟩
  rw [preSum_eq, List.take_of_length_le (by simp)]
/-- a block that starts while p is handled -/
abbrev hblk (X : Cx) (p : Addr × Obj) (s : Shared) (H : Hp) (scope : Scope) (ce : Env) (fp : List Addr) : Cx := blkP X [p] s H scope ce fp
theorem inv_hblk {p : Addr × Obj} {pins : List (Addr × Obj)} {σ σ' : L2.St} {H : Hp} {s s4 : Shared} {scope : Scope} {ce : Env} {fp : List Addr} (I : Inv X pins σ H s) (hp : p ∈ X.pn) (J : Inv (X.blk s H scope ce fp) [] σ' H s4)
    (hk : ∀ b o, s.heap.get? b = some o → s4.heap.get? b = some o) (hL : ce.locals = s.heap.objs.size) : Inv (hblk X p s H scope ce fp) [] σ' H s4 := by
  obtain ⟨⟨o1, o2, o3, o4, o5, o6, o7, o8, o9, o10, o11, o12, o13, o14, o15, o16, o17, o18⟩, j1, j2, j3, j4, j5, j6, j7, _, j8, j9⟩ := J
  refine ⟨⟨o1, o2, o3, o4, o5, o6, o7, o8, o9, o10, o11, o12, o13, o14, o15, o16, o17, o18⟩, j1, j2, j3, j4, j5, j6, j7, fun q hq => ?_, j8, j9⟩
  have e : q = p := by simpa using (show q ∈ [p] ++ ([] : List (Addr × Obj)) from hq)
  rw [e]
  obtain ⟨a1, a2, a3, a4, a5⟩ := I.pin p (List.mem_append_left _ hp)
  refine ⟨hk _ _ a1, a2, ?_, fun z => ?_, a5⟩
  · show p.1 ≠ ce.locals
    rw [hL]
    exact Nat.ne_of_lt (Heap.lt_size a1)
  · exact (List.mem_cons.mp (I.stkSub p.1 z)).elim a3 a4
theorem turnH_list {P : Program} {w : World} {K : PySem.W.Frag} {tg : Expr} (a it : Addr) : TurnH P w K tg (Itl K a) [it] it (fun i h => h.IsListIter it a i) where
  mem := List.mem_singleton.mpr rfl
  obj := fun i h ⟨o, e, c, d⟩ b hb => by
    rw [List.mem_singleton.mp hb]
    exact ⟨o, e, fun v z => by rw [d] at z; cases z⟩
  keep := fun i h h' st k => st.at fun o e => k it (List.mem_singleton.mpr rfl) o e
  item := by
    rintro X rfl rfl rfl hc i pins s σ H E I hf st ⟨xs, x, hq, hx⟩
    obtain ⟨its, rv, p, hz⟩ := I.list hq
    obtain ⟨u, hu, ru⟩ := rv.get hx
    obtain ⟨f0, f1, f2, f3, f4, f5⟩ := hf it (List.mem_singleton.mpr rfl)
    refine wpAny_pyNext_list_item st p.isList (x := u) (by simpa using hu) fun h' st' sb => ?_
    obtain ⟨o, e, c, d⟩ := id st'
    have I1 : Inv X pins σ H { s with heap := h' } := I.turned (t' := s.toks) (fun b o hb e => (sb.2 b hb).trans e) f0 f1 f3 f4 f5
    refine ⟨u, rfl, go_of (s := { s with heap := h' }) e c d (by decide) ⟨x, H, I1, ru, ⟨rfl, fun ys hy => ?_⟩, st', fun b hb => (hf b hb).1⟩⟩
    rw [I.list_inj hy hq]
    exact hx
  done := by
    rintro X rfl rfl rfl hc i pins s σ H E I hf st ⟨xs, hq, hx⟩
    obtain ⟨its, rv, p, hz⟩ := I.list hq
    obtain ⟨f0, f1, f2, f3, f4, f5⟩ := hf it (List.mem_singleton.mpr rfl)
    have hl := rv.length
    obtain ⟨p1, ⟨hh, v1, e1, c1⟩, hp⟩ := hc
    have P1 := I.pin p1 (List.mem_append_left _ hp)
    refine next_list_end_hot (x1 := p1.1) ⟨hh, p1.2, v1, P1.1, e1, c1⟩ (f5 p1 (List.mem_append_left _ hp)) st p.isList (by simp; omega) fun h' eb => ⟨rfl, I.turned (t' := s.toks) (fun b o hb e => eb b o hb e) f0 f1 f3 f4 f5⟩
  self := fun _ _ _ _ _ st h => wpAny_pyIter_listiter st h
theorem piH_list {tg l : Expr} {tl : TE} (hl : PE X l tl) : PIH X tg l (iList X.K tl) := ⟨fun pins s σ H R I h => thn (hl.run pins s σ H _ I h) fun v s1 ⟨x, H1, I1, r1, q1⟩ => by
  obtain ⟨a, e, ⟨xs, hq⟩, q⟩ := q1
  subst e
  cases r1
  obtain ⟨its, rv, p, hz⟩ := I1.list hq
  refine wpAny_pyIter_list p.isList ⟨s1.heap.objs.size, [s1.heap.objs.size], _, _, H1, rfl, I1.kept (t' := s1.toks) fun b o e => Heap.get?_push_of_some _ e, turnH_list a _, ⟨_, Heap.get?_push_size _ rfl, rfl, rfl⟩, fun b hb => ?_, q⟩
  rw [List.mem_singleton.mp hb]
  exact I1.fpOk (Nat.le_refl _) (I1.hok.fresh (Nat.le_refl _))⟩
/-- [elt for target in iter] while p is handled -/
theorem pe_lcH {p : Addr × Obj} {elt tg iter : Expr} {ifs : List Expr} {scope : Scope} {own : List (Str × Nat)} {pos : Pos} {wi : TI} {g : TG} {tt : TT} {te : TE} (ho : Hot1 X.A p) (hp : p ∈ X.pn) (hN : X.N.Nodup) (hi : PIH X tg iter wi) (ok : BlkOk X.N X.env.scope scope own)
    (hg : ∀ (s : Shared) (H : Hp) (C : Addr) (cl : List (Str × Addr)) (fp : List Addr), PG (hblk X p s H scope (compEnvC scope cl C X.env) fp) tg g)
    (ht : ∀ (s : Shared) (H : Hp) (C : Addr) (cl : List (Str × Addr)) (fp : List Addr), PTs (hblk X p s H scope (compEnvC scope cl C X.env) fp) ifs tt)
    (he : ∀ (s : Shared) (H : Hp) (C : Addr) (cl : List (Str × Addr)) (fp : List Addr), PE (hblk X p s H scope (compEnvC scope cl C X.env) fp) elt te) (hs : ∀ x, foldedSetIterable iter X.env x = pure x := by intro _; rfl) :
    PE X (.ListComp elt [⟨tg, iter, ifs, 0⟩] scope pos) (tLc wi g tt te (own.map (·.2))) := by
  refine ⟨fun pins s σ H Q I h => ?_⟩
  rw [eval_ListComp]
  have hfree : ∀ y ∈ scope.names, y.2 = .free → ∃ c, X.env.cells.lookup y.1 = some c := fun y hy e => (ok.free y hy e).elim (fun k => I.ok.has _ (.inl k)) fun k => I.ok.has _ (.inr k)
  refine wpAny_comprehension_free (use := none) rfl hs (closure_ok hfree) ok.kind (fun y hy e => by rw [ok.uniq y hy, e]) (thn (hi.run pins s σ H _ I h) fun xv s1 hx => thn hx fun itv s2 ⟨it, fp, tn, J, H2, e, I2, T, st2, f2, q⟩ => ?_)
  subst e
  refine wpAny_newObj_type (newEnv_comp ?_) (by show 0 ≤ sizeLine; decide)
  generalize hD : s2.heap.objs.size = D
  obtain ⟨W, ⟨m0, w0⟩, turn⟩ := q D (I2.hok.fresh (Nat.le_of_eq hD))
  generalize hs3 : ({ s2 with heap := s2.heap.push { cls := .type "list", data := .seq ([] : List Value).toArray } } : Shared) = s3
  have h3 : s3.heap = s2.heap.push { cls := .type "list", data := .seq ([] : List Value).toArray } := by rw [← hs3]
  have I3 : Inv X pins σ (upd H2 D (.lst [])) s3 := by
    rw [← hs3]
    refine I2.laid (t' := s2.toks) (fun b o e => Heap.get?_push_of_some _ e) (Nat.le_of_eq hD) ⟨Nat.zero_le _, [], 0, .nil, ?_⟩
    rw [← hD]; exact Heap.get?_push_size _ rfl
  have f3 : ∀ b ∈ fp, FpOk X pins (upd H2 D (.lst [])) b ∧ b < s3.heap.objs.size := fun b hb => by
    obtain ⟨o, e, _⟩ := T.obj _ _ st2 b hb
    have hlt := Heap.lt_size e
    have f := f2 b hb
    refine ⟨⟨?_, f.2⟩, ?_⟩
    · rw [upd_ne (by rw [← hD]; exact Nat.ne_of_lt hlt)]
      exact f.1
    · rw [h3, Heap.size_push]
      exact Nat.lt_succ_of_lt hlt
  have st3 : tn 0 s3.heap := T.keep _ _ _ st2 fun b _ o e => by
    rw [h3]
    exact Heap.get?_push_of_some _ e
  generalize hcl : cellsFrom (s3.heap.objs.size + 1) scope.names (cloFrom X.env.cells scope.names []) = cl
  have I4 := block_start I3 ok hN f3
  rw [hcl] at I4
  have kk : ∀ b o, s3.heap.get? b = some o → (pushCells (s3.heap.push { cls := .type "dict", data := .dict #[] }) scope.names).get? b = some o := fun b o e => pushCells_keeps _ _ _ _ (Heap.get?_push_of_some _ e)
  have I4 := inv_hblk I3 hp I4 kk rfl
  have pg := hg s3 (upd H2 D (.lst [])) s3.heap.objs.size cl fp
  have pt := ht s3 (upd H2 D (.lst [])) s3.heap.objs.size cl fp
  have pe := he s3 (upd H2 D (.lst [])) s3.heap.objs.size cl fp
  show codeAny _ _ (.compStart (.ListComp elt [⟨tg, iter, ifs, 0⟩] scope pos) 0 (.ref it) (.ref D) (compEnvC scope cl s3.heap.objs.size X.env)) (compPost (model X.prog X.w) X.A X.xe none (EP X pins σ Q) (.ref D) s3.heap.objs.size) { s3 with heap := pushCells (s3.heap.push { cls := .type "dict", data := .dict #[] }) scope.names }
  have nfp : ∀ b ∈ fp, upd H2 D (.lst []) b = none := fun b hb => (f3 b hb).1.1
  generalize hce : compEnvC scope cl s3.heap.objs.size X.env = ce at I4 pg pt pe ⊢
  have cL : ce.locals = s3.heap.objs.size := by
    subst hce
    rfl
  generalize hH3 : upd H2 D (.lst []) = H3 at I3 I4 pg pt pe w0 nfp f3
  generalize hs4 : ({ s3 with heap := pushCells (s3.heap.push { cls := .type "dict", data := .dict #[] }) scope.names } : Shared) = s4 at I4 ⊢
  have st4 : tn 0 s4.heap := T.keep _ _ _ st3 fun b _ o e => by
    rw [← hs4]
    exact kk b o e
  have hcB : HotC (hblk X p s3 H3 scope ce fp) := ⟨p, ho, List.mem_singleton.mpr rfl⟩
  have stat : ∀ {σ' : L2.St} {H' : Hp} {s' : Shared}, Inv (hblk X p s3 H3 scope ce fp) [] σ' H' s' → (∀ b ∈ fp, H' b = none) → ∀ b ∈ fp, FpOk (hblk X p s3 H3 scope ce fp) [] H' b := fun {σ' H' s'} I' hn b hb => by
    refine ⟨hn b hb, (I'.ok.exf b hb).1, I'.ok.exfs b hb, .inl hb, fun x c e => (I'.ok.exf b hb).2 x c e, fun r hr => ?_⟩
    have e : r = p := by simpa using (show r ∈ [p] ++ ([] : List (Addr × Obj)) from hr)
    rw [e]
    exact (f3 b hb).1.2.2.2.2.2 p (List.mem_append_left _ hp)
  have loop : codeAny (model X.prog X.w) X.A (.compLoop (.ListComp elt [⟨tg, iter, ifs, 0⟩] scope pos) 0 (.ref it) (.ref D) ce) (compPost (model X.prog X.w) X.A X.xe none (EP X pins σ Q) (.ref D) s3.heap.objs.size) s4 := by
    refine compLoop_any (fun n s' => ∃ i H', Inv (hblk X p s3 H3 scope ce fp) [] (wipe σ (own.map (·.2))) H' s' ∧ tn i s'.heap ∧ (∀ b ∈ fp, H' b = none) ∧ W i n H') ?_ m0 ⟨0, H3, I4, st4, nfp, w0⟩
    rintro n s5 ⟨i, H5, I5, st5, n5, w5⟩
    rcases turn i n H5 w5 with ⟨stop, qq⟩ | ⟨go, Nx, hNx, step⟩
    · refine thnF (T.done (hblk X p s3 H3 scope ce fp) rfl rfl rfl hcB i [] s5 _ H5 (fun _ _ => False) I5 (stat I5 n5) st5 stop) fun r s6 ⟨hr, I6⟩ => ?_
      subst hr
      have I7 : Inv X pins σ H5 s6 := I3.call' (ch := fp) I6.os I6.base I6.hok I6.bare fun b hb => let f := (f3 b hb).1; ⟨f.2.2.2.1, f.2.1, f.2.2.2.2.1, f.2.2.2.2.2⟩
      have nC : H5 s3.heap.objs.size = none := by
        rw [← cL]
        exact I6.free
      obtain ⟨m, hn, _⟩ := I6.loc
      have hn : s6.heap.Ns ce.locals m := hn
      rw [cL] at hn
      obtain ⟨f0, f1, f2, f3, f4, f5⟩ := I3.fpOk (Nat.le_refl _) nC
      exact ⟨m, hn, fun h2 sb => ⟨.ref D, H5, I7.turned (t' := s6.toks) (fun b o hb e => (sb.2 b hb).trans e) f0 f1 f3 f4 f5, rfl, qq⟩⟩
    · refine thnF (T.item (hblk X p s3 H3 scope ce fp) rfl rfl rfl hcB i [] s5 _ H5 (fun _ _ => False) I5 (stat I5 n5) st5 go) fun r s6 ⟨u, hr, h6⟩ => ?_
      subst hr
      refine thnF h6 fun _ s7 ⟨x, H7, I7, r7, y7, st7, n7⟩ => ?_
      refine thnF (pg.run _ s7 _ H7 x u _ (I7.pinned (stat I7 n7) (T.obj _ _ st7)) r7 (step x H7 y7)) fun _ s8 ⟨σ8, H8, I8, hw8, q8⟩ => ?_
      refine thnF (pt.run _ s8 σ8 H8 _ I8 q8) fun b s9 ⟨H9, I9, q9⟩ => ?_
      have fin : ∀ {s' : Shared} {H' : Hp}, Inv (hblk X p s3 H3 scope ce fp) ([] ++ pinsAt fp s7.heap) σ8 H' s' → Nx H' → ∃ m, m < n ∧ ∃ i H', Inv (hblk X p s3 H3 scope ce fp) [] (wipe σ (own.map (·.2))) H' s' ∧ tn i s'.heap ∧ (∀ b ∈ fp, H' b = none) ∧ W i m H' := fun {s' H'} I' nx => by
        obtain ⟨m', hm, w'⟩ := hNx H' nx
        have pin' : ∀ b ∈ fp, ∀ o, s7.heap.get? b = some o → s'.heap.get? b = some o ∧ H' b = none := fun b hb o e => (I'.pin (b, o) (List.mem_append_right _ (List.mem_append_right _ (mem_pinsAt hb e)))).imp id And.left
        refine ⟨m', hm, i + 1, H', (I'.unpinned (pins := [])).weak (by rw [← hw8, wipe_length]) (fun j v e => ?_), T.keep _ _ _ st7 fun b hb o e => (pin' b hb o e).1, fun b hb => ?_, w'⟩
        · rw [← hw8] at e
          exact (wipe_some e).1
        · obtain ⟨o, e, _⟩ := T.obj _ _ st7 b hb
          exact (pin' b hb o e).2
      cases b with
      | false =>
        simp only [Bool.false_eq_true, if_false] at q9 ⊢
        exact fin I9 q9
      | true =>
        simp only [if_true] at q9 ⊢
        exact thnF (pe.run _ s9 σ8 H9 _ I9 q9) fun z s10 ⟨yv, H10, I10, r10, acc, hD10, hz10, nx⟩ => app_ok (X := hblk X p s3 H3 scope ce fp) I10 hD10 hz10 r10 fun s11 I11 => fin I11 nx
  exact codeAny_compStart_list loop (T.self X.A 0 _ _ _ st4 loop)
/-- isinstance(e, c), e the exception that is handled -/
theorem call_isP {D : Addr} {p : Addr × Obj} (C : ExcC X.K D) (hp : p ∈ X.pn) (hz : Zc (.ref D) none p.2) (hf : ∃ vs, p.2.data = .fields vs) : CallR X (.builtin "isinstance") (rIsE X.K D p.1) := by
  intro pins s σ H xs us Q I r h
  obtain ⟨c, cv, b, rfl, hcv, e, q⟩ := h
  obtain ⟨a, oe⟩ := p
  obtain ⟨hget, _⟩ := I.pin (a, oe) (List.mem_append_left _ hp)
  cases r with
  | cons rx rr => cases rr with
    | cons rt rr =>
      cases rr
      cases rx
      have ec := hcv _ rt
      subst ec
      obtain ⟨vs, hv⟩ := hf
      obtain ⟨oc, od, oda, osl⟩ := oe
      obtain ⟨h1, h2⟩ := hz
      dsimp only at h1 h2 hv hget
      subst h1 h2 hv
      exact PySem.W.kia_one (PySem.W.handS_kitx_exc C.hg C.hk C.hs C.hd C.ha C.hn C.ht C.hm) I.kIn (PySem.W.InstAt.mk hget rfl rfl trivial) e (fun z => nomatch z) fun tk => ⟨.bl b, H, I.kept (t' := tk) fun _ _ z => z, rfl, q⟩
end
section
variable {R : Hp → Hp → Prop} [RelC R] {X : Cx} {γ : List Sl} {pos : Pos}
/-- a class by its name -/
def ClN (X : Cx) (nm : Str) (c : V) (u : Value) : Prop := Gl X nm ∧ (nm == ("__debug__" : Str)) = false ∧ RelV c u ∧ (∀ u', RelV c u' → u' = u) ∧ (X.mg nm = some u ∨ (X.mg nm = none ∧ bootBuiltins nm = some u ∧ nm ≠ "__name__"))
theorem pe_cl {nm : Str} {c : V} {u : Value} {q : Pos} (h : ClN X nm c u) : PE X (.Name nm q) (tC c) := by
  obtain ⟨h1, h2, h3, _, h4 | ⟨h4, h5, h6⟩⟩ := h
  · exact pe_glob h1 h4 h3 h2
  · exact pe_bltn h1 h4 h5 h3 h6 h2
theorem ee_isP {D : Addr} {pr : Addr × Obj} {x nm : Str} {c : V} {u : Value} {b : Bool} {p0 p1 p2 : Pos} (i : Nat) (hc : ClN X nm c u) (C : ExcC X.K D) (hp : pr ∈ X.pn) (hz : Zc (.ref D) none pr.2) (hf : ∃ vs, pr.2.data = .fields vs) (hk : PySem.W.kitOne X.K (.ref D) u = some b)
    (hm : X.mg "isinstance" = none) (hi : γ[i]? = some (.val (.ref pr.1)) := by rfl) (hN : X.N[i]? = some x := by rfl)
    (hv : Vis X.env.scope x := by first | exact Or.inl rfl | exact Or.inr (Or.inl rfl) | exact Or.inr (Or.inr rfl)) (hd : (x == ("__debug__" : Str)) = false := by decide) (hcd : (x == ("__classdict__" : Str)) = false := by decide)
    (hg : Gl X "isinstance" := by rfl) (he : starEach [.Name x p1, .Name nm p2] X.env = (false, eval (.Name x p1) X.env) :: starEach [.Name nm p2] X.env := by rfl) (he2 : starEach [.Name nm p2] X.env = (false, eval (.Name nm p2) X.env) :: starEach [] X.env := by rfl) (hpl : (backTo pos (starEach [.Name nm p2] X.env)).any (·.1) = false := by rfl) :
    EE R X γ (.Call (.Name "isinstance" p0) [.Name x p1, .Name nm p2] [] pos) (.bool b) := fun H0 S0 σ H Q s k =>
  we_of (pe_callB (call_isP C hp hz hf) hg hm PyProof.Rows.boot_isinstance (pa_cons (pe_var hN hv hd hcd) (pa_cons (pe_cl hc) pa_nil he2) he) (by decide) (by decide) he hpl) ⟨_, s.val i _ hi, c, u, b, rfl, hc.2.2.2.1, hk, k _ H (s.ref) (.bl _)⟩
/-- [int(x) for x in xs] while p is handled -/
theorem ef_mapH {pr : Addr × Obj} {elt l : Expr} {scope : Scope} (x : Str) (j : Nat) {ds : List D} {tp : Pos} (o : D → D) (ho : Hot1 X.A pr) (hp : pr ∈ X.pn) (hN : X.N.Nodup) (hi : EE R X γ l (.list ds)) (ok : BlkOk X.N X.env.scope scope [(x, j)])
    (hg : ∀ (s : Shared) (H : Hp) (C : Addr) (cl : List (Str × Addr)) (fp : List Addr), PG (hblk X pr s H scope (compEnvC scope cl C X.env) fp) (.Name x tp) (gName j)) (hown : ∀ es, γ[j]? ≠ some (.own es))
    (ht : ∀ d ∈ ds, ∀ (s : Shared) (H : Hp) (C : Addr) (cl : List (Str × Addr)) (fp : List Addr), EE R (hblk X pr s H scope (compEnvC scope cl C X.env) fp) (γ.set j (.dat d)) elt (o d))
    (hl : ds.length ≤ 1000) (hs : ∀ x, foldedSetIterable l X.env x = pure x := by intro _; rfl) : EF R X γ (.ListComp elt [⟨.Name x tp, l, [], 0⟩] scope pos) (ds.map o) := by
  have h := lc_gen (mk := fun t => PE X (.ListComp elt [⟨.Name x tp, l, [], 0⟩] scope pos) t) (R := R) (γ := γ) (X := X) (scope := scope) (elt := elt) (tg := .Name x tp) (iter := l) (ifs := []) (own := [(x, j)]) (g := gName j) (L := ds.map fun d => (d, some (o d))) (wi := iList X.K (we X l)) [pr]
    (fun H0 S0 σ H Rk s k => hi H0 S0 σ H _ s fun v H1 r1 d1 => by
      cases d1 with
      | lst h1 h2 => exact ⟨_, rfl, ⟨_, (.inl (rd_keep off_in h1))⟩, k _ H1 r1 (by rw [List.map_map, show ((fun q : D × Option D => q.1) ∘ fun d => (d, some (o d))) = id from rfl, List.map_id]; exact itd_list (.lst h1 h2))⟩)
    (fun tt te h1 h2 => pe_lcH ho hp hN (piH_list pe_we) ok hg h1 h2 hs) (fun i hi es => by
      have e : i = j := by simpa using hi
      rw [e]
      exact hown es) (fun q hq => by
      obtain ⟨d, hd, rfl⟩ := List.mem_map.mp hq
      refine ⟨γ.set j (.dat d), ?_, fun H0 S0 σ H v Q s h k => ?_, fun _ _ _ _ _ => .inl ⟨rfl, rfl⟩, fun r e => by cases e; exact ht d hd⟩
      · show (γ.set j (.dat d)).set j .no = γ.set j .no
        rw [List.set_set]
      · show Q ((σ.set j none).set j (some v)) H
        refine k _ ?_ ?_
        · show ((σ.set j none).set j (some v)).set j none = σ.set j none
          rw [List.set_set, List.set_set]
        · have s3 : SI R X.K H0 S0 ((γ.set j .no).set j (.dat d)) ((σ.set j none).set j (some v)) H := s.putD j h
          rw [show (γ.set j .no).set j (.dat d) = γ.set j (.dat d) from List.set_set ..] at s3
          exact s3) (by rw [List.length_map]; exact hl)
  rw [List.filterMap_map, show ((fun q : D × Option D => q.2) ∘ fun d => (d, some (o d))) = (some ∘ o) from rfl, List.filterMap_eq_map] at h
  exact h.ef
theorem ee_sumH {a : Expr} {ns : List Int} {p : Pos} (ha : EE R X γ a (.list (ns.map .int))) (hc : HotC X) (hm : X.mg "sum" = none) (hg : Gl X "sum" := by rfl) (he : starEach [a] X.env = (false, eval a X.env) :: starEach [] X.env := by rfl) (hpl : (backTo pos (starEach [] X.env)).any (·.1) = false := by rfl) :
    EE R X γ (.Call (.Name "sum" p) [a] [] pos) (.int ns.sum) := ee_callB (ea_cons ha ea_nil he) ⟨_, cr_sumH hc, fun H vs Q hd k => by
  cases hd with
  | cons d t =>
    cases t
    cases d with
    | lst h1 h2 =>
      rw [vs_ints h2] at h1
      exact ⟨_, ns, rfl, .inl h1, k _ fun _ => .int _⟩⟩ hm PyProof.Rows.boot_sum hg (by decide) (by decide) he hpl
/-- xs.index(True) -/
theorem ee_indexT {l b : Expr} {bs : List Bool} (j : Nat) {apos : Pos} (hl : EE R X γ l (.list (bs.map .bool))) (hb : EE R X γ b (.bool true)) (h1 : bs[j]? = some true) (h2 : ∀ m, m < j → bs[m]? = some false)
    (hbase : attributeBase l "index" X.env (eval l X.env) = eval l X.env := by rfl)
    (hfew : ((backTo pos (starEach [b] X.env)).all (fun x => !x.1) && (backToKw pos (keywordEach [] X.env)).all (fun x => x.1.isSome) && decide (([b] : List Expr).length + ([] : List Keyword).length + (if ([] : List Keyword).isEmpty then 0 else 1) < 30)) = true := by rfl)
    (hline : (apos.endLine == pos.line) = true := by rfl) (hst : starEach [b] X.env = (false, eval b X.env) :: starEach [] X.env := by rfl) (hplain : (backTo pos (starEach [] X.env)).any (·.1) = false := by rfl) :
    EE R X γ (.Call (.Attribute l "index" apos) [b] [] pos) (.int j) := fun H0 S0 σ H Q s k =>
  we_of (pe_bm PySem.F.plainAttrs_list PySem.F.slot_list_index PySem.F.type_list_index mt_index pe_we pa_wa hbase hfew hline hst hplain) (hl H0 S0 σ H _ s fun v H1 r1 d1 => by
    have d1' := d1
    cases d1 with
    | lst g1 g2 =>
      refine ⟨.inl ⟨rfl, _, (.inl (rd_keep off_in g1))⟩, (ea_cons hb ea_nil hst) H0 S0 σ H1 _ (s.mono r1) fun ws H2 r2 d2 => ?_⟩
      cases d2 with
      | cons d2 t =>
        cases t
        cases d2
        have d3 := dt_up r2 d1'
        cases d3 with
        | lst g3 g4 =>
          rw [vs_bools g4] at g3
          have at_ : ∀ m : Nat, (bs.map V.bl)[m]? = bs[m]?.map V.bl := fun m => List.getElem?_map
          refine ⟨_, _, .bl true, j, .bl true, rfl, rfl, .inl (rd_keep off_in g3), rfl, ?_, ?_, rfl, fun m z hm hz => ?_, k _ H2 (Rel.trans r1 r2) (.int _)⟩
          · rw [List.all_map]
            exact List.all_eq_true.mpr fun _ _ => rfl
          · rw [at_, h1]
            rfl
          · rw [at_, h2 m hm] at hz
            cases hz
            rfl)
end
/-- a def that tells a word of the exception that is handled, a class D's -/
structure FnW (P : Program) (w : World) (K : PySem.W.Frag) (mg : Str → Option Value) (base : Heap) (x : Str) (k : Nat) (D : Addr) (wd : Str) : Prop where
  ok : ∃ (f : Addr) (fd : FuncData) (ps : List Str), mg x = some (.ref f) ∧ PySem.W.keepIn K (.ref f) = true ∧ Binds K fd ps [] ∧ ps.length = 1 ∧
    ∀ (A : Around) (outer : List Env) (s : Shared) (H : Hp) (args : Args) (p : Addr × Obj) (Q : VK), RoomH k A → Hot1 A p → PinOk outer H s p → Zc (.ref D) none p.2 → (∃ vs, p.2.data = .fields vs) → Env0 P w K mg base A outer s H → BindsTo s fd args (ps.zip [.ref p.1]) →
      (∀ H', Same H H' → Q (.str wd) H') → codeAny (model P w) A (.call (.ref f) args) (CR (L2N.CX P w) outer P w H s Q (fun _ _ _ => False)) s
theorem fnw_mk {Pr : Program} {w : World} {K : PySem.W.Frag} {mg : Str → Option Value} {base : Heap} {x : Str} {st : Stmt} {f : Addr} {fd : FuncData} {N ps : List Str} {k : Nat} {D : Addr} {wd : Str}
    (F : FunD K x x (defArgs st) (defBody st) (defScope st) [] [] f fd) (S : FnScope N ps (defScope st)) (hm : mg x = some (.ref f)) (hb : Binds K fd ps []) (hn : ps.length = 1)
    (body : ∀ (X : Cx) (p : Addr × Obj) (cdv : Value) (A : Around) (outer : List Env) (s : Shared) (H : Hp), X = cxH (L2N.CX Pr w) Pr w K mg base N x (defScope st) f cdv A outer s H (fun _ _ _ => False) p → RoomH k X.A → Hot1 X.A p → p ∈ X.pn → Zc (.ref D) none p.2 → (∃ vs, p.2.data = .fields vs) → X.K = K → X.mg = mg →
      SS Same X (.val (.ref p.1) :: List.replicate (N.length - 1) .no) (defBody st) { rt := fun e => e = .str wd }) : FnW Pr w K mg base x (k + 1) D wd := by
  obtain ⟨oc, od, dV, kV, doc, pm, an, cdv, ct, osl, rfl, lk, hcd, _, _⟩ := F.ex
  refine ⟨f, _, ps, hm, F.kp, hb, hn, fun A outer s H args p Q hr hot hpin hz hf e0 bt hq => ?_⟩
  have KX : K.In s.heap := e0.mod.kin.keeps fun b o e => (e0.bs b o e).1
  have lim : s.heap.NoLimit := e0.mod.nolimit.keeps fun b o e => (e0.bs b o e).1
  have hkind : ∀ y ∈ ps.zip [Value.ref p.1], (defScope st).names.lookup y.1 = some .local ∨ ((defScope st).names.lookup y.1 = some .cell ∧ ((cellsFrom (s.heap.objs.size + 1) (defScope st).names []).lookup y.1).isSome = true) := fun ⟨n, v⟩ hy =>
    (S.par n (List.of_mem_zip hy).1).elim .inl fun q => .inr ⟨q, PySem.W.cellsFrom_some _ _ _ (.inl q)⟩
  refine codeAny_call_function hr.depth (KX _ _ lk) rfl S.co S.gen rfl (PySem.W.codeRec_of KX hcd) (bt _ _ _ _ (wpAny_newFunctionEnv_cells S.kind hkind fun env he s1 x1 => ?_))
  subst he
  refine ⟨lim.keeps x1.toInCall.keep, codeAny_func ?_⟩
  let X : Cx := cxH (L2N.CX Pr w) Pr w K mg base N x (defScope st) f cdv A outer s H (fun _ _ _ => False) p
  have I : Inv X [] (L2.start N [.ref p.1]) H s1 := inv_startH S hpin e0 (by rw [hn]; rfl) (.cons rfl .nil) x1
  have hN : 1 ≤ N.length := by
    have := congrArg List.length S.pre
    rw [List.length_take, hn] at this
    omega
  have si : SI Same K H (fun _ => False) (.val (.ref p.1) :: List.replicate (N.length - 1) .no) (L2.start N [.ref p.1]) H := by
    have rp : ∀ {i : Nat} {y : Sl}, (List.replicate (N.length - 1) Sl.no)[i]? = some y → y = .no := fun {i y} h => by
      rw [List.getElem?_replicate] at h
      split at h
      · cases h
        rfl
      · cases h
    have nofp : ∀ i a, ¬ Fp (.val (.ref p.1) :: List.replicate (N.length - 1) .no) (L2.start N [.ref p.1]) i a := fun i a ⟨x, v, h1, _, h3⟩ => by
      cases i with
      | zero =>
        cases h1
        exact h3
      | succ i =>
        have e := rp (by simpa using h1)
        subst e
        exact h3
    refine ⟨Same.refl H, fun _ z => z.elim, ?_, fun i x h => ?_, fun i a f => absurd f (nofp i a), fun i j a f _ => absurd f (nofp i a)⟩
    · unfold L2.start
      simp
    · cases i with
      | zero =>
        cases h
        exact ⟨_, rfl, rfl⟩
      | succ i =>
        have h' : (List.replicate (N.length - 1) Sl.no)[i]? = some x := by simpa using h
        have e := rp h'
        subst e
        have hi := (List.getElem?_eq_some_iff.mp h').1
        rw [List.length_replicate] at hi
        refine ⟨none, ?_, trivial⟩
        unfold L2.start
        rw [List.getElem?_append_right (by simp), List.getElem?_replicate, if_pos (by simp; omega)]
  have tk : L2N.Takes X (fun c d _ H' => (fun _ _ _ => False : XK) c d H') := L2N.takes_of rfl rfl rfl rfl
  have run := body X p cdv A outer s H rfl (hr.deeper _) hot (List.mem_singleton.mpr rfl) hz hf rfl rfl H (fun _ => False) _ H { nx := fun _ H' => Q .non H', rt := Q } _ si tk (fun _ _ _ h _ => h.elim) ⟨fun e v H' he r' dv => by
    rw [show e = .str wd from he] at dv
    cases dv
    exact hq H' r', fun _ _ _ _ h => h.elim⟩ (fun _ _ _ h _ => h.elim) (fun _ _ _ h _ => h.elim) (fun _ _ h _ => h.elim)
  refine wpAny_mono ((pss_wss (X := X)).run [] s1 (L2.start N [.ref p.1]) H _ I run) (fun fl s' hs => ?_) fun e s' hs => hs
  cases fl with
  | ret u =>
    obtain ⟨v, σ', H', J, rv, q⟩ := hs
    exact ⟨v, H', J.os, J.bare, J.base, J.hok, rv, q⟩
  | next =>
    obtain ⟨σ', H', J, q⟩ := hs
    exact ⟨.non, H', J.os, J.bare, J.base, J.hok, rfl, q⟩
  | brk =>
    obtain ⟨_, _, _, q⟩ := hs
    exact q.elim
  | cont =>
    obtain ⟨_, _, _, q⟩ := hs
    exact q.elim
section
variable {R : Hp → Hp → Prop} [RelC R] {X : Cx} {γ : List Sl} {pos : Pos}
/-- word(e) -/
theorem pe_word {x e : Str} {D : Addr} {wd : Str} {k : Nat} {pr : Addr × Obj} {q p1 : Pos} (i : Nat) (F : FnW X.prog X.w X.K X.mg X.base x k D wd) (hr : RoomH k X.A) (hot : Hot1 X.A pr) (hp : pr ∈ X.pn) (hz : Zc (.ref D) none pr.2) (hf : ∃ vs, pr.2.data = .fields vs)
    (hN : X.N[i]? = some e) (hv : Vis X.env.scope e) (hd : (e == ("__debug__" : Str)) = false) (hcd : (e == ("__classdict__" : Str)) = false) (hg : Gl X x) (hdb : (x == ("__debug__" : Str)) = false)
    (he : starEach [.Name e p1] X.env = (false, eval (.Name e p1) X.env) :: starEach [] X.env) (hpl : (backTo pos (starEach [] X.env)).any (·.1) = false) :
    PE X (.Call (.Name x q) [.Name e p1] [] pos) (fun σ H Q => σ[i]? = some (some (.ref pr.1)) ∧ ∀ H', Same H H' → Q (.str wd) H') := by
  obtain ⟨f, fd, ps, h1, h2, h3, h4, h5⟩ := F.ok
  refine ⟨fun pins s σ H Q I h => ?_⟩
  refine wpAny_Call_Name_kw (ld_glob I hg h1 ?_ hdb)
  have ha : PA X [.Name e p1] _ := pa_cons (pe_var hN hv hd hcd) pa_nil he
  refine PySem.W.callWith_K (h₀ := X.base) I.ok.mod.kin h2 (thn (ha.run pos pins s σ H (fun vs H1 => vs = [.ref pr.1] ∧ H = H1) I ⟨_, h.1, rfl, rfl⟩) fun us s1 ⟨vs, H1, I1, r, ev, eH⟩ => ⟨I1.kIn, ?_⟩) he hpl
  subst ev eH
  rw [Vals.ref1 r]
  have P1 := I1.pin pr (List.mem_append_left _ hp)
  have hpin : PinOk X.stack H s1 pr := ⟨P1.1, P1.2.1, fun hm => (List.mem_cons.mp (I1.stkSub pr.1 hm)).elim P1.2.2.1 P1.2.2.2.1, P1.2.2.2.2⟩
  have b := h3 s1 [.ref pr.1] I1.kIn (by rw [List.append_nil, h4]; rfl)
  rw [List.append_nil] at b
  refine wpAny_call (codeAny_mono (h5 X.A X.stack s1 H ⟨[.ref pr.1], []⟩ pr Q hr hot hpin hz hf I1.env0 b h.2) fun r s' hq => ?_)
  cases r with
  | error e =>
    obtain ⟨_, _, _, _, _, _, _, _, _, _, _, _, z⟩ := hq
    exact z.elim
  | ok fl =>
    cases fl with
    | ret u => exact I1.after hq
    | next => exact hq.elim
    | brk => exact hq.elim
    | cont => exact hq.elim
theorem od_neH {i j : Int} {k : Nat} (hr : RoomH k X.A) : OpD X (compareOp .NotEq) (.int i) (.int j) (.bool (!(i == j))) := ⟨_, op_neD (by have := hr.un; omega), fun H x y Q hx hy k => ⟨.int i, .int j, hx.dp rfl, hy.dp rfl, rfl, rfl, k _ fun _ => .bl _⟩⟩
theorem cl_own {nm : Str} {C : Addr} (h : X.mg nm = some (.ref C)) (hg : Gl X nm := by rfl) (hd : (nm == ("__debug__" : Str)) = false := by decide) : ClN X nm (.ref C) (.ref C) := ⟨hg, hd, rfl, fun _ z => z, .inl h⟩
theorem cl_ty {nm : Str} {T : String} (h : X.mg nm = none) (hb : bootBuiltins nm = some (.type T)) (hg : Gl X nm := by rfl) (hd : (nm == ("__debug__" : Str)) = false := by decide) (hn : nm ≠ "__name__" := by decide) : ClN X nm (.ty T) (.type T) := ⟨hg, hd, rfl, fun _ z => z, .inr ⟨h, hb, hn⟩⟩
end
end An

/-! A lambda without parameters handed to a def that calls it and tells a word of what is raised. -/
namespace An
open PySem PySem.Spec PyProof.Rows L2 HotX L2H LamX
/-- as Same, but tables of code objects may grow -/
def SameN (T : List (Addr × Str)) (H H' : Hp) : Prop := Keep H H' ∧ (∀ a, H a ≠ none → H' a ≠ none) ∧ Tabs T H ∧ Tabs T H'
theorem tabs_keep {T : List (Addr × Str)} {H H' : Hp} (t : Tabs T H) (h : ∀ b o, H b = some o → ¬ MutO o → H' b = some o) : Tabs T H' := fun p hp => by
  obtain ⟨ps, h1, h2, h3⟩ := t p hp
  refine ⟨ps, h _ _ h1 (fun z => z), h2, fun pos cv hc => ?_⟩
  obtain ⟨c, e1, e2⟩ := h3 pos cv hc
  exact ⟨c, e1, h _ _ e2 fun z => z c p.2 rfl⟩
instance relN (T : List (Addr × Str)) : RelC (SameN T) where
  ends := fun {H H'} h => ⟨Keep.refl _, fun _ z => z, h.2.2.2, h.2.2.2⟩
  trans := fun h h' => ⟨h.1.trans h'.1, fun a z => h'.2.1 a (h.2.1 a z), h.2.2.1, h'.2.2.2⟩
  more := fun {H H1 H2} h sm => by
    refine ⟨h.1.trans (Keep.of sm), fun a z => ?_, h.2.2.1, h.2.2.2.ext sm⟩
    have z1 := h.2.1 a z
    cases e : H1 a with
    | none => exact absurd e z1
    | some o => rw [sm a o e]; exact fun q => nomatch q
  keep := fun h => h.1
  dom := fun {H H' a} h => h.2.1 a
  chg := fun {H H' a u} h n ⟨ys, hy, hm⟩ hu => by
    refine ⟨fun b o e q => ?_, fun b q => ?_, h.2.2.1, tabs_keep h.2.2.2 fun b o e q => ?_⟩
    · rw [upd_ne (ne_of_none e n)]
      exact h.1 b o e q
    · rw [upd_ne (fun z => q (by rw [z]; exact n))]
      exact h.2.1 b q
    · rw [upd_ne fun z => q (by rw [z, hy] at e; rw [← Option.some.inj e]; exact hm)]
      exact e
  cutr := fun {H H1 C} h c => by
    refine ⟨off_in, fun a z => ?_, tabs_keep h.2.2.2 fun b o e q => off_of (fun z => ?_) e, h.2.2.2⟩
    · cases e : off C H1 a with
      | none => exact absurd e z
      | some o => rw [(off_some e).2]; exact fun q => nomatch q
    · obtain ⟨u, e2, hm⟩ := c b z
      rw [e] at e2
      rw [← Option.some.inj e2] at hm
      exact q hm
  cut := fun {H H1 C} h c => by
    refine ⟨fun b o e q => off_of (fun z => ?_) (h.1 b o e q), fun b q => ?_, h.2.2.1, tabs_keep h.2.2.2 fun b o e q => off_of (fun z => ?_) e⟩
    · rw [(c b z).1] at e
      cases e
    · have q1 := h.2.1 b q
      cases e : H1 b with
      | none => exact absurd e q1
      | some o => rw [off_of (fun z => q (c b z).1) e]; exact fun q => nomatch q
    · obtain ⟨u, e2, hm⟩ := (c b z).2
      rw [e] at e2
      rw [← Option.some.inj e2] at hm
      exact q hm
section
variable {X : Cx} {pins : List (Addr × Obj)} {σ : L2.St} {H : Hp} {s : Shared}
theorem inv_xe {xe : Value → Shared → Prop} (I : Inv X pins σ H s) : Inv { X with xe := xe } pins σ H s := by
  obtain ⟨⟨o1, o2, o3, o4, o5, o6, o7, o8, o9, o10, o11, o12, o13, o14, o15, o16, o17, o18⟩, j1, j2, j3, j4, j5, j6, j7, j0, j8, j9⟩ := I
  exact ⟨⟨o1, o2, o3, o4, o5, o6, o7, o8, o9, o10, o11, o12, o13, o14, o15, o16, o17, o18⟩, j1, j2, j3, j4, j5, j6, j7, j0, j8, j9⟩
/-- the lambda's object -/
abbrev lamO (X : Cx) (params : Arguments) (body : Expr) (scope : Scope) (pm : Value) (c' : Addr) (ctv : Value) : Obj := PySem.W.kla_obj "<lambda>" (X.env.qual ++ "<lambda>") params body scope (cloFrom X.env.cells scope.names []) pm c' ctv
theorem lam_new {T : List (Addr × Str)} {c P : Addr} {params : Arguments} {body : Expr} {scope : Scope} {pos : Pos} {E : Value → Shared → Prop} {Q : Value → Shared → Prop} (I : Inv X pins σ H s) (TB : TabB X.base X.mg c P) (hcode : X.env.code = .ref c)
    (hm : (P, X.env.qual ++ "<lambda>") ∈ T) (hu : ∀ p ∈ T, p.1 = P → p.2 = X.env.qual ++ "<lambda>") (hT : Tabs T H) (hdef : defaultsOf params X.env = ([], [])) (hfree : ∀ y ∈ scope.names, y.2 = .free → ∃ c, X.env.cells.lookup y.1 = some c)
    (h : ∀ (f c' : Addr) (pm ctv : Value) (H1 : Hp) (s' : Shared), Inv X pins σ H1 s' → SameN T H H1 → s'.heap.get? f = some (lamO X params body scope pm c' ctv) → H1 f = none → f ∉ frs X.stack → H1 c' = some (CodeO c' (X.env.qual ++ "<lambda>")) → Q (.ref f) s') :
    wpAny (model X.prog X.w) X.A (eval (.Lambda params body scope pos) X.env) Q E s := by
  obtain ⟨ps, hP, ht, ha⟩ := hT _ hm
  have bP : s.heap.BuiltinsAt X.mg P := TB.bm.keeps I.bk
  have hP' : s.heap.get? P = some { cls := .none, data := .fields ps } := I.hok P _ hP
  have nofr : ∀ f, s.heap.objs.size ≤ f → f ∉ frs X.stack := fun f hf z => (List.mem_cons.mp (I.stkSub _ z)).elim (fun e => Nat.lt_irrefl _ (Nat.lt_of_lt_of_le (by have h1 := I.lt; rw [← e] at h1; exact h1) hf)) (I.nofs hf)
  refine PySem.W.kla_eval hdef ?_
  cases hc : codeAmong pos ps.toList with
  | some cv =>
    obtain ⟨c', rfl, hco⟩ := ha pos cv hc
    refine PySem.W.kla_makeFunctionHit (mg := X.mg) (c := c) (P := P) (ps := ps) (closure_ok hfree) I.ok.glob (I.mod.glob.keeps I.bk) hcode (TB.code.keeps I.bk) hP' ht hc bP fun ctv h' tk hx hsz => ?_
    refine h h'.objs.size c' ((X.mg "__name__").getD .none) ctv H _ (I.kept (t' := tk) fun b o e => Heap.get?_push_of_some _ (hx b o e)) ⟨Keep.refl H, fun _ z => z, hT, hT⟩ (Heap.get?_push_size _ rfl) (I.hok.fresh hsz) (nofr _ hsz) hco
  | none =>
    refine PySem.W.kla_makeFunction (mg := X.mg) (c := c) (P := P) (ps := ps) (closure_ok hfree) I.ok.glob (I.mod.glob.keeps I.bk) hcode (TB.code.keeps I.bk) hP' ht hc TB.gP bP fun c' ctv h' tk hx hge hlt hrec htb => ?_
    obtain ⟨c2, oc, vs, t, e2, hoc, hd, hv⟩ := hrec
    cases e2
    have nC : H c' = none := I.hok.fresh hge
    have hsz : s.heap.objs.size ≤ h'.objs.size := Nat.le_trans hge (Nat.le_of_lt hlt)
    have I1 := inv_table (t' := tk) (more := #[rawInt pos.line, rawInt pos.col, .ref c']) (h' := h'.push (lamO X params body scope ((X.mg "__name__").getD .none) c' ctv)) I hP (fun b o hb e => Heap.get?_push_of_some _ (hx b o hb e)) (Heap.get?_push_of_some _ htb) hge ⟨oc, vs, t, Heap.get?_push_of_some _ hoc, hd, hv⟩
    have eL : (ps ++ #[rawInt pos.line, rawInt pos.col, .ref c']).toList = ps.toList ++ [rawInt pos.line, rawInt pos.col, .ref c'] := by simp
    generalize hH1 : upd (upd H P (.tbl (ps ++ #[rawInt pos.line, rawInt pos.col, .ref c']))) c' (CodeO c' (X.env.qual ++ "<lambda>")) = H1 at I1
    have atC : H1 c' = some (CodeO c' (X.env.qual ++ "<lambda>")) := by
      rw [← hH1, upd_same]
    have atP : H1 P = some (.tbl (ps ++ #[rawInt pos.line, rawInt pos.col, .ref c'])) := by
      rw [← hH1, upd_ne (ne_of_none hP nC), upd_same]
    have at_ : ∀ b, b ≠ P → b ≠ c' → H1 b = H b := fun b h1 h2 => by
      rw [← hH1, upd_ne h2, upd_ne h1]
    have kp : Keep H H1 := fun b o e n => by
      rw [at_ b (fun z => n ps (Option.some.inj (e.symm.trans (by rw [z]; exact hP)))) (ne_of_none e nC)]
      exact e
    have T1 : Tabs T H1 := fun p hp => by
      by_cases hb : p.1 = P
      · rw [hu p hp hb, hb]
        refine ⟨_, atP, by rw [eL]; exact PySem.TriplesOk_snoc _ _ _ _ ht, fun p' cv hcv => ?_⟩
        rw [eL] at hcv
        rcases among_app _ ht hcv with z | z
        · obtain ⟨c0, e1, e2⟩ := ha p' cv z
          exact ⟨c0, e1, kp _ _ e2 codeO_ne⟩
        · exact ⟨c', z, atC⟩
      · obtain ⟨ps', a1, a2, a3⟩ := hT p hp
        refine ⟨ps', by rw [at_ _ hb (ne_of_none a1 nC)]; exact a1, a2, fun p' cv hcv => ?_⟩
        obtain ⟨c0, e1, e2⟩ := a3 p' cv hcv
        exact ⟨c0, e1, kp _ _ e2 codeO_ne⟩
    refine h h'.objs.size c' ((X.mg "__name__").getD .none) ctv _ _ I1 ⟨kp, fun b hb => ?_, hT, T1⟩ (Heap.get?_push_size _ rfl) ?_ (nofr _ hsz) atC
    · by_cases h1 : b = P
      · rw [h1, atP]
        exact fun z => nomatch z
      · rw [at_ b h1 (fun z => hb (by rw [z]; exact nC))]
        exact hb
    · rw [at_ _ (Nat.ne_of_gt (Nat.lt_of_lt_of_le (Heap.lt_size hP') hsz)) (Nat.ne_of_gt hlt)]
      exact I.hok.fresh hsz
/-- the context of the lambda's body -/
def lamN (X : Cx) (A : Around) (outer : List Env) (s : Shared) (H : Hp) (E : XK) (scope : Scope) (f c' : Addr) : Cx :=
  { lamCx X A outer s H E scope f c' with xe := fun e s' => wpAny (model X.prog X.w) (A.deeper (lamEnv X scope s.heap.objs.size f c')) (leaving (lamEnv X scope s.heap.objs.size f c') e) (fun _ s'' => L2N.CX X.prog X.w outer H s E e s'') (fun e' s'' => L2N.CX X.prog X.w outer H s E e' s'') s' }
/-- what the told def lets be of an exception -/
def Ew (X : Cx) (CS : Addr) (wn : Str) (kw : Nat) (Q : VK) : XK := fun cls d H' => ∃ (D : Addr) (wd : Str), cls = .ref D ∧ d = none ∧ PySem.W.exmOne X.K cls (.ref CS) = some true ∧ FnW X.prog X.w X.K X.mg X.base wn kw D wd ∧ ∀ H'', Same H' H'' → Q (.str wd) H''
/-- x(lambda: body), x as: try: return a() / except ne as en: return wn(en) -/
theorem pe_told {T : List (Addr × Str)} {x a ne en wn : Str} {g c P CS : Addr} {k kw : Nat} {st : Stmt} {fd : FuncData} {params : Arguments} {body : Expr} {scope : Scope} {p lpos pos p1 p2 p3 p4 p5 p6 p7 p8 p9 p0 : Pos} (F : FunD X.K x x (defArgs st) (defBody st) (defScope st) [] [] g fd)
    (hbg : defBody st = [.Try [.Return (some (.Call (.Name a p1) [] [] p2)) p3] [.ExceptHandler (some (.Name ne p4)) (some en) [.Return (some (.Call (.Name wn p5) [.Name en p6] [] p7)) p8] p9] [] [] p0])
    (hg : Gl X x) (hm : X.mg x = some (.ref g)) (hb : L2.Binds X.K fd [a] []) (Sg : FnScope [a, en] [a] (defScope st)) (hva : Vis (defScope st) a) (hvn : (defScope st).names.lookup en = some .local)
    (hne : (defScope st).names.lookup ne = some .globalImplicit) (hme : X.mg ne = some (.ref CS)) (hwn : (defScope st).names.lookup wn = some .globalImplicit)
    (TB : TabB X.base X.mg c P) (hcode : X.env.code = .ref c) (hmT : (P, X.env.qual ++ "<lambda>") ∈ T) (hu : ∀ p ∈ T, p.1 = P → p.2 = X.env.qual ++ "<lambda>") (hr : Room (k + 2) X.A) (hkw : kw ≤ k + 1) (L : LamS X.env.scope scope) (hdef : defaultsOf params X.env = ([], []))
    (hbind : ∀ (q : Str) (cl : List (Str × Addr)) (pm cv ctv : Value), bindArgs (PySem.W.kla_fn "<lambda>" q params body scope cl pm cv ctv) ⟨[], []⟩ = pure [])
    (hdb : (x == ("__debug__" : Str)) = false) (hd : (a == ("__debug__" : Str)) = false) (hcd : (a == ("__classdict__" : Str)) = false) (hde : (ne == ("__debug__" : Str)) = false) (hdw : (wn == ("__debug__" : Str)) = false) (hd2 : (en == ("__debug__" : Str)) = false) (hcd2 : (en == ("__classdict__" : Str)) = false) :
    PE X (.Call (.Name x p) [.Lambda params body scope lpos] [] pos) (fun σ H Q => Tabs T H ∧ ∀ H1, SameN T H H1 → ∀ (A : Around) (outer : List Env) (s : Shared) (H' : Hp) (f c' : Addr) (E : XK), (∀ cls d H', Ew X CS wn kw Q cls d H' → E cls d H') → Room k (A.deeper (lamEnv X scope s.heap.objs.size f c')) → we (lamN X A outer s H' E scope f c') body σ H1 Q) := by
  refine ⟨fun pins s σ H Q I h => ?_⟩
  obtain ⟨hT, h⟩ := h
  obtain ⟨oc, od, dV, kV, doc, pm, an, cdv, ct, osl, rfl, lk, hcd0, _, _⟩ := F.ex
  refine wpAny_Call_Name_kw (ld_glob I hg hm ?_ hdb)
  refine PySem.W.callWith_K (h₀ := X.base) I.ok.mod.kin F.kp ?_ (by rfl) (by rfl)
  show wpAny _ _ (spliced ((false, eval (.Lambda params body scope lpos) X.env) :: backTo pos (starEach [] X.env))) _ _ _
  refine Calls.spliced_cons (lam_new I TB hcode hmT hu hT hdef (L.has I.ok) fun f c' pm' ctv H1 s' I1 eN hf hfn hfr hco => Calls.spliced_nil ⟨I1.kIn, ?_⟩)
  have rc : codeAny (model X.prog X.w) X.A (.call (.ref g) ⟨[.ref f], []⟩) (CR (L2N.CX X.prog X.w) X.stack X.prog X.w H1 s' Q (fun _ _ _ => False)) s' := by
    refine run_ofS (N := [a, en]) (ps := [a]) (us := [.ref f]) (vs := [.ref f]) lk hcd0 Sg hr I1.env0 (hb s' [.ref f] I1.kIn rfl) (.cons rfl .nil) rfl fun hr' => ?_
    rw [hbg]
    generalize hZ : cxOf (L2N.CX X.prog X.w) X.prog X.w X.K X.mg X.base [a, en] x (defScope st) g cdv X.A X.stack s' H1 (fun _ _ _ => False) = Z
    have zK : Z.K = X.K := by rw [← hZ]; rfl
    have tk0 : L2N.Takes Z (fun _ _ _ _ => False) := fun _ _ q => by
      obtain ⟨_, _, _, _, _, _, _, _, _, _, _, _, _, _, _, _, z⟩ := q
      exact z.elim
    have names : Names Z ne (.ref CS) := by
      rw [← hZ]
      exact ⟨hne, hde, .inl hme⟩
    -- a(), the lambda's body run
    have act : ∀ (W : WX) (pn : List (Addr × Obj)) (xe : Value → Shared → Prop), L2N.Takes (Z.tr pn xe) W → PE (Z.tr pn xe) (.Call (.Name a p1) [] [] p2) (fun σZ HZ QZ => σZ[0]? = some (some (.ref f)) ∧ HZ c' = some (CodeO c' (X.env.qual ++ "<lambda>")) ∧
        ∀ (A : Around) (outer : List Env) (s : Shared) (H' : Hp) (f c' : Addr), Room k (A.deeper (lamEnv X scope s.heap.objs.size f c')) → we (lamN X A outer s H' (fun cls d H2 => W cls d σZ H2) scope f c') body σ HZ QZ) := fun W pn xe tk => by
      subst hZ
      refine ⟨fun pinsZ sZ σZ HZ QZ IZ hz => ?_⟩
      obtain ⟨hs, hc, ht⟩ := hz
      refine wpAny_Call_Name_kw (thn ((pe_var (pos := p1) (i := 0) (x := a) rfl hva hd hcd).run pinsZ sZ σZ HZ (fun v H1 => v = .ref f ∧ H1 = HZ) IZ ⟨.ref f, hs, rfl, rfl⟩) fun u s1 ⟨v, H2, I2, r1, ev, eH⟩ => ?_)
      subst ev
      rw [eH] at I2
      obtain rfl : u = Value.ref f := r1
      have of1 : s1.heap.get? f = some (lamO X params body scope pm' c' ctv) := I2.base.keep f _ hf hfn hfr (fun z => nomatch (show f ∈ ([] : List Addr) from z))
      refine PySem.W.callWith_F0 ⟨_, _, _, _, of1⟩ ?_
      have un : Un (frs X.stack) [] H1 HZ s'.heap s1.heap := I2.base
      obtain ⟨⟨oc, vs, t, hoc, hdc, hvc⟩, _, _⟩ := I2.hok c' _ hc
      have hx := L2N.passAt tk σZ
      have rc : codeAny (model X.prog X.w) (X.A.deeper (envOfC x (defScope st) s'.heap.objs.size g cdv)) (.call (.ref f) ⟨[], []⟩) (CR (L2N.CX X.prog X.w) (envOfC x (defScope st) s'.heap.objs.size g cdv :: X.stack) X.prog X.w HZ s1 QZ (fun cls d H2 => W cls d σZ H2)) s1 := by
        refine PySem.W.kla_callFunE hr'.depth of1 rfl L.co L.gen rfl ⟨c', oc, vs, t, rfl, hoc, hdc, hvc⟩ ?_
        rw [hbind]
        refine wpAny_pure (wpAny_newFunctionEnv (fun y hy => (L.own y hy).2) (fun y hy => absurd hy (by simp)) (fun h1 hns hsb => ⟨I2.nolimit.fresh _ hsb, ?_⟩) L.kind)
        show codeAny _ _ (.expr body (lamEnv X scope s1.heap.objs.size f c')) _ _
        have kp : ∀ b o, s1.heap.get? b = some o → h1.get? b = some o := fun b o e => hsb.extBut b o (Nat.ne_of_lt (Heap.lt_size e)) (Heap.get?_push_of_some _ e)
        have J0 := lam_start2 (E := fun cls d H2 => W cls d σZ H2) (tk := s1.toks + ([] : List (Str × Value)).length) (f := f) (c' := c') I1 L I2.env0 hr'.hd un hns kp
        have J : Inv (lamN X (X.A.deeper (envOfC x (defScope st) s'.heap.objs.size g cdv)) (envOfC x (defScope st) s'.heap.objs.size g cdv :: X.stack) s1 HZ (fun cls d H2 => W cls d σZ H2) scope f c') [] σ HZ { s1 with heap := h1, toks := s1.toks + ([] : List (Str × Value)).length } := inv_xe J0
        refine PySem.W.kla_codeExpr (wpAny_mono ((pe_we (X := lamN X (X.A.deeper (envOfC x (defScope st) s'.heap.objs.size g cdv)) (envOfC x (defScope st) s'.heap.objs.size g cdv :: X.stack) s1 HZ (fun cls d H2 => W cls d σZ H2) scope f c')).run [] _ σ HZ QZ J (ht _ _ _ _ _ _ (hr'.deeper _))) (fun v s3 hq => ?_) fun e s3 hq => hq)
        obtain ⟨w', H', J', rv, q⟩ := hq
        exact ⟨w', H', J'.os, J'.bare, J'.base, J'.hok, rv, q⟩
      refine wpAny_call (codeAny_mono rc fun r s2 hq => ?_)
      cases r with
      | error e => exact hx pinsZ HZ s1 e s2 I2 hq
      | ok fl =>
        cases fl with
        | ret u => exact I2.after hq
        | next => exact hq.elim
        | brk => exact hq.elim
        | cont => exact hq.elim
    refine ⟨_, pss_one (L2N.ps_try_as (X := Z) (i := 1) (n := en) (x := ne) (c := .ref CS) (Wout := fun _ _ _ _ => False)
      (tb := fun W D σZ HZ => σZ[0]? = some (some (.ref f)) ∧ HZ c' = some (CodeO c' (X.env.qual ++ "<lambda>")) ∧ ∀ (A : Around) (outer : List Env) (s : Shared) (H' : Hp) (f c' : Addr), Room k (A.deeper (lamEnv X scope s.heap.objs.size f c')) → we (lamN X A outer s H' (fun cls d H2 => W cls d σZ H2) scope f c') body σ HZ D.rt)
      (ts := fun a' cls d D σZ HZ => ∃ (D' : Addr) (wd : Str), cls = .ref D' ∧ d = none ∧ FnW X.prog X.w X.K X.mg X.base wn kw D' wd ∧ σZ[1]? = some (some (.ref a')) ∧ ∀ H'', Same HZ H'' → D.rt (.str wd) H'')
      (by rw [← hZ]; rfl) (by rw [← hZ]; rfl) (by rw [← hZ]; exact Sg.nd) (by rw [← hZ]; rfl) (by rw [← hZ]; exact hvn) names tk0 (fun W pn xe tk _ => ?_) (fun a' oe cls d pn hz hf => ?_)), ?_⟩
    · exact pss_one (ps_ret (act W pn xe tk))
    · refine ⟨fun pins s2 σ2 H2 D2 I2 h2 => ?_⟩
      obtain ⟨D', wd, rfl, rfl, fw, h3, h4⟩ := h2
      obtain ⟨vs, hvs⟩ := hf
      subst hZ
      have hro : RoomH kw (X.A.deeper (envOfC x (defScope st) s'.heap.objs.size g cdv)) := (roomH_of hr').mono hkw
      refine (pss_one (ps_ret (pe_word (X := (cxOf (L2N.CX X.prog X.w) X.prog X.w X.K X.mg X.base [a, en] x (defScope st) g cdv X.A X.stack s' H1 (fun _ _ _ => False)).suite a' ((a', oe) :: pn)) (pr := (a', oe)) 1 fw ⟨hro.dp, hro.un⟩ ⟨rfl, vs, hvs, hz.2.2 vs hvs⟩ List.mem_cons_self hz.zc ⟨vs, hvs⟩ rfl (.inl hvn) hd2 hcd2 hwn hdw rfl rfl))).run pins s2 σ2 H2 D2 I2 ⟨h3, h4⟩
    · refine ⟨rfl, hco, fun A outer s2 H2 f2 c2 hrm => h H1 eN A outer s2 H2 f2 c2 _ (fun cls d H3 hE => ?_) hrm⟩
      obtain ⟨D', wd, rfl, rfl, e1, fw, hq⟩ := hE
      rw [zK]
      exact ⟨true, e1, fun _ a' na => ⟨D', wd, rfl, rfl, fw, rfl, hq⟩, fun z => nomatch z⟩
  refine wpAny_call (codeAny_mono rc fun r s2 hq => ?_)
  cases r with
  | error e =>
    obtain ⟨_, _, _, _, _, _, _, _, _, _, _, _, z⟩ := hq
    exact z.elim
  | ok fl =>
    cases fl with
    | ret u => exact I1.after hq
    | next => exact hq.elim
    | brk => exact hq.elim
    | cont => exact hq.elim
end
/-- told, from the frame X, whatever the lambda -/
def Tld (X : Cx) (T : List (Addr × Str)) (k kw : Nat) (CS : Addr) : Prop := ∀ (params : Arguments) (body : Expr) (scope : Scope) (p lpos pos : Pos), LamS X.env.scope scope → defaultsOf params X.env = ([], []) →
  (∀ (q : Str) (cl : List (Str × Addr)) (pm cv ctv : Value), bindArgs (PySem.W.kla_fn "<lambda>" q params body scope cl pm cv ctv) ⟨[], []⟩ = pure []) →
  PE X (.Call (.Name "_law_told" p) [.Lambda params body scope lpos] [] pos) (fun σ H Q => Tabs T H ∧ ∀ H1, SameN T H H1 → ∀ (A : Around) (outer : List Env) (s : Shared) (H' : Hp) (f c' : Addr) (E : XK), (∀ cls d H', Ew X CS "_law_word" kw Q cls d H' → E cls d H') → Room k (A.deeper (lamEnv X scope s.heap.objs.size f c')) → we (lamN X A outer s H' E scope f c') body σ H1 Q)
/-- e raises the class c -/
def EX (R : Hp → Hp → Prop) (X : Cx) (γ : List Sl) (e : Expr) (c : Value) : Prop :=
  ∀ (H0 : Hp) (S0 : Addr → Prop) (σ : L2.St) (H : Hp) (Q : VK) (W : XK), SI R X.K H0 S0 γ σ H → L2N.Takes X (fun c d _ H' => W c d H') → (∀ H2, R H H2 → W c none H2) → we X e σ H Q
theorem ex_call {R : Hp → Hp → Prop} [RelC R] {X : Cx} {γ : List Sl} {pos : Pos} {x : Str} {k n : Nat} {Val : List D → D → Prop} {Exc : List D → Value → Prop} {e : Expr} {es : List Expr} {p : Pos} {ds : List D} {c : Value} (F : Fn X.prog X.w X.K X.mg X.base x k n Val Exc) (hr : Room k X.A) (ha : EA R X γ (e :: es) ds) (hv : Exc ds c) (hn : ds.length = n := by rfl) (hg : Gl X x := by rfl)
    (hdb : (x == ("__debug__" : Str)) = false := by decide) (he : starEach (e :: es) X.env = (false, eval e X.env) :: starEach es X.env := by rfl) (hpl : (backTo pos (starEach es X.env)).any (·.1) = false := by rfl) :
    EX R X γ (.Call (.Name x p) (e :: es) [] pos) c := fun H0 S0 σ H Q W s tk z => by
  obtain ⟨f, fd, ps, h1, h2, h3, h4⟩ := F.ok
  refine we_of (pe_call (E := W) h1 hr hg h2 h3 h4 .nil (L2N.passes_call tk fun _ _ _ _ h => h) pa_wa hdb he hpl) (ha H0 S0 σ H _ s fun vs H1 r1 d1 => ?_)
  rw [List.append_nil]
  exact ⟨by rw [dps_len d1]; exact hn, Sx S0 γ σ, ds, sx_dom (s.mono r1), d1, .inr ⟨c, hv, fun H2 sm => z H2 (Rel.more r1 sm)⟩⟩
section
variable {X : Cx} {T : List (Addr × Str)} {k kw : Nat} {CS : Addr} {γ : List Sl} {params : Arguments} {body : Expr} {scope : Scope} {p lpos pos : Pos}
theorem ee_told {d : D} (t : Tld X T k kw CS) (hbody : ∀ (A : Around) (outer : List Env) (s : Shared) (H' : Hp) (f c' : Addr) (E : XK), Room k (A.deeper (lamEnv X scope s.heap.objs.size f c')) → EE (SameN T) (lamN X A outer s H' E scope f c') γ body d)
    (L : lamSB X.env.scope scope = true := by rfl) (hdef : defaultsOf params X.env = ([], []) := by rfl) (hbind : ∀ (q : Str) (cl : List (Str × Addr)) (pm cv ctv : Value), bindArgs (PySem.W.kla_fn "<lambda>" q params body scope cl pm cv ctv) ⟨[], []⟩ = pure [] := by exact fun _ _ _ _ _ => rfl) :
    EE (SameN T) X γ (.Call (.Name "_law_told" p) [.Lambda params body scope lpos] [] pos) d := fun H0 S0 σ H Q s kk =>
  we_of (t params body scope p lpos pos (lamS_by L) hdef hbind) ⟨s.rel.2.2.2, fun H1 r1 A outer s2 H' f c' E hE hr => hbody A outer s2 H' f c' E hr H0 S0 σ H1 Q (s.mono r1) fun v H2 r2 d2 => kk v H2 (Rel.trans r1 r2) d2⟩
theorem ee_toldX {D : Addr} {wd : Str} (t : Tld X T k kw CS) (he : PySem.W.exmOne X.K (.ref D) (.ref CS) = some true) (fw : FnW X.prog X.w X.K X.mg X.base "_law_word" kw D wd)
    (hbody : ∀ (A : Around) (outer : List Env) (s : Shared) (H' : Hp) (f c' : Addr) (E : XK), Room k (A.deeper (lamEnv X scope s.heap.objs.size f c')) → EX (SameN T) (lamN X A outer s H' E scope f c') γ body (.ref D))
    (L : lamSB X.env.scope scope = true := by rfl) (hdef : defaultsOf params X.env = ([], []) := by rfl) (hbind : ∀ (q : Str) (cl : List (Str × Addr)) (pm cv ctv : Value), bindArgs (PySem.W.kla_fn "<lambda>" q params body scope cl pm cv ctv) ⟨[], []⟩ = pure [] := by exact fun _ _ _ _ _ => rfl) :
    EE (SameN T) X γ (.Call (.Name "_law_told" p) [.Lambda params body scope lpos] [] pos) (.str wd) := fun H0 S0 σ H Q s kk =>
  we_of (t params body scope p lpos pos (lamS_by L) hdef hbind) ⟨s.rel.2.2.2, fun H1 r1 A outer s2 H' f c' E hE hr => hbody A outer s2 H' f c' E hr H0 S0 σ H1 Q E (s.mono r1) (L2N.takes_of rfl rfl rfl rfl)
    fun H2 r2 => hE _ _ _ ⟨D, wd, rfl, rfl, he, fw, fun H3 sm => kk (.str wd) H3 (Rel.more (Rel.trans r1 r2) sm) (.str _)⟩⟩
end
end An

/-! What the top leaves: the head's hook with two tables of the machine, the law's own promise. -/
namespace An
open PySem PySem.Spec PyProof.Rows L2 LamX He
/-! ### the hook -/
def asN (g : Addr → Option Obj) (n : Nat) : List Addr := asD g n ++ [sysModules, cStatics]
def obsN (n : Nat) (fa : List Fa) (fn : List DefD) (ts : List Tab) (tf : List Defn) (ex : List (PySem.W.Frag → Bool)) (g : Addr → Option Obj) : AlX := (obsT fa fn ts (frT g (asN g n)), (ex.all fun f => f (frT g (asN g n))) && tabsB g tf (frT g (asN g n)))
theorem saysN_of {n : Nat} {fa : List Fa} {fn : List DefD} {ts : List Tab} {tf : List Defn} {ex : List (PySem.W.Frag → Bool)} {w : World} {h : Heap} (e : obsN n fa fn ts tf ex h.get? = valX fn ts w) : SaysX fa fn ts tf (fun K => ex.all fun f => f K) w h (frT h.get? (asN h.get? n)) := by
  have e1 : obsT fa fn ts (frT h.get? (asN h.get? n)) = valT fn ts w := congrArg Prod.fst e
  have e2 : ((ex.all fun f => f (frT h.get? (asN h.get? n))) && tabsB h.get? tf (frT h.get? (asN h.get? n))) = true := congrArg Prod.snd e
  generalize frT h.get? (asN h.get? n) = K, (fun (a : Addr) (o : Obj) (q : h.get? a = some o) (z : emptyTab o = true) => frT_none (as := asN h.get? n) q z) = out at e1 e2
  obtain ⟨h1, h2⟩ := ba e2
  have key : ∀ p ∈ tf, PySem.W.codeHdIn K (cT K p).1 (cT K p).2 = true ∧ ∃ o, h.get? (cT K p).2 = some o ∧ emptyTab o = true := fun p hp => by
    obtain ⟨h3, h4⟩ := ba (List.all_eq_true.mp h2 p hp)
    refine ⟨h3, ?_⟩
    cases q : h.get? (cT K p).2 with
    | none => rw [q] at h4; cases h4
    | some o => rw [q] at h4; exact ⟨o, rfl, h4⟩
  refine ⟨e1, h1, fun p hp => (key p hp).1, fun p hp => ?_, fun p hp => ?_⟩
  · obtain ⟨_, o, q, z⟩ := key p hp
    exact out _ o q z
  · obtain ⟨_, o, q, z⟩ := key p hp
    rw [q, emptyTab_eq z]
def hookN (n : Nat) (fa : List Fa) (fn : List DefD) (ts : List Tab) (tf : List Defn) (ex : List (PySem.W.Frag → Bool)) : PySem.W.Hook where
  α := AlX
  obs := fun s => obsN n fa fn ts tf ex s.heap.get?
  val := fun w => valX fn ts w
  says := fun w h => ∃ K : PySem.W.Frag, K.In h ∧ SaysX fa fn ts tf (fun K => ex.all fun f => f K) w h K
  of := fun _ _ e => ⟨_, frT_in, saysN_of e⟩
  keeps := fun _ _ _ ⟨K, hK, c⟩ k => ⟨K, PySem.W.Frag.In.keeps hK k, ⟨c.t, c.more, c.hd, c.out, fun p hp => k _ _ (c.empty p hp)⟩⟩
theorem obsN_eq {n : Nat} {fa : List Fa} {fn : List DefD} {ts : List Tab} {tf : List Defn} {ex : List (PySem.W.Frag → Bool)} {g : Addr → Option Obj} {s : Shared} (h : ∀ a, g a = s.heap.get? a) : obsN n fa fn ts tf ex g = (hookN n fa fn ts tf ex).obs s := by
  rw [show g = s.heap.get? from funext h]
  rfl
section
variable {fa : List Fa} {fn : List DefD} {ts : List Tab} {tf : List Defn} {ex : List (PySem.W.Frag → Bool)} {w : World} {h base : Heap} {K : PySem.W.Frag} {mg : Str → Option Value}
theorem says_ex (c : SaysX fa fn ts tf (fun K => ex.all fun f => f K) w h K) (i : Nat) {f : PySem.W.Frag → Bool} (hi : ex[i]? = some f := by rfl) : f K = true := List.all_eq_true.mp c.more f (List.mem_of_getElem? hi)
theorem says_fe (X : K.In base) (G : base.Ns mainGlobals mg) (c : SaysX fa fn ts tf (fun K => ex.all fun f => f K) w h K) (i j : Nat) {x : Str} {st : Stmt} (hi : fa[i]? = some (.glo x) := by rfl) (hj : fn[j]? = some ⟨(x, none), x, x, defArgs st, defBody st, defScope st, [], []⟩ := by rfl) : FE K mg x st := by
  obtain ⟨fd, F⟩ := c.t.d.def_ j hj
  exact ⟨_, fd, F, glo_ok X G (c.t.d.fact i hi)⟩
theorem says_free (X : K.In base) (G : base.Ns mainGlobals mg) (c : SaysX fa fn ts tf (fun K => ex.all fun f => f K) w h K) (i : Nat) {x : Str} (hi : fa[i]? = some (.free x) := by rfl) : mg x = none := free_ok X G (c.t.d.fact i hi)
theorem says_int (X : K.In base) (G : base.Ns mainGlobals mg) (c : SaysX fa fn ts tf (fun K => ex.all fun f => f K) w h K) (i : Nat) {x : Str} {n : Int} (hi : fa[i]? = some (.int x n) := by rfl) : KD K mg x (.int n) := by
  obtain ⟨t, e⟩ := int_ok X G (c.t.d.fact i hi)
  exact ⟨.int n, _, e, ⟨t, rfl⟩, fun _ => .int n⟩
theorem says_err (X : K.In base) (G : base.Ns mainGlobals mg) (c : SaysX fa fn ts tf (fun K => ex.all fun f => f K) w h K) (i j : Nat) {x : Str} (hi : fa[i]? = some (.glo x) := by rfl) (hj : fa[j]? = some (.exc x) := by rfl) : Err K mg x (ga K x) := by
  obtain ⟨h1, h2, h3, h4⟩ := exc_ok (c.t.d.fact j hj)
  exact ⟨glo_ok X G (c.t.d.fact i hi), h1, h2, h3, h4⟩
theorem says_exm (c : SaysX fa fn ts tf (fun K => ex.all fun f => f K) w h K) (i : Nat) {x y : Str} {b : Bool} (hi : fa[i]? = some (.exm x y b) := by rfl) : PySem.W.exmOne K (.ref (ga K x)) (.ref (ga K y)) = some b := exm_ok (c.t.d.fact i hi)
def kTwo (x : Str) (a b : Int) (K : PySem.W.Frag) : Bool := tupB K x [.int a, .int b]
theorem says_two (X : K.In base) (G : base.Ns mainGlobals mg) (c : SaysX fa fn ts tf (fun K => ex.all fun f => f K) w h K) (i j : Nat) {x : Str} {a b : Int} (hi : fa[i]? = some (.glo x) := by rfl) (hj : ex[j]? = some (kTwo x a b) := by rfl) : KD K mg x (.tuple [.int a, .int b]) :=
  ⟨.ref (ga K x), _, glo_ok X G (c.t.d.fact i hi), rfl, fun H => .tup (tupB_ok (says_ex c j hj) H) (.cons (.int a) (.cons (.int b) .nil))⟩
/-! own classes -/
theorem says_me (X : K.In base) (c : SaysX fa fn ts tf (fun K => ex.all fun f => f K) w h K) (i j : Nat) {x m q : Str} {st : Stmt} (hi : fa[i]? = some (.meth x m) := by rfl) (hj : fn[j]? = some ⟨(x, some m), m, q, defArgs st, defBody st, defScope st, [], []⟩ := by rfl) : ∃ (f : Addr) (fd : FuncData), FunD K m q (defArgs st) (defBody st) (defScope st) [] [] f fd ∧ Meth K (ga K x) m f := by
  obtain ⟨fd, F⟩ := c.t.d.def_ j hj
  exact ⟨_, fd, F, meth_ok (c.t.d.fact i hi)⟩
theorem says_mk (c : SaysX fa fn ts tf (fun K => ex.all fun f => f K) w h K) (i j : Nat) {x q : Str} {st : Stmt} (hi : fa[i]? = some (.mkr x) := by rfl) (hj : fn[j]? = some ⟨(x, some "__init__"), "__init__", q, defArgs st, defBody st, defScope st, [], []⟩ := by rfl) : ∃ (f : Addr) (fd : FuncData), FunD K "__init__" q (defArgs st) (defBody st) (defScope st) [] [] f fd ∧ Mk K (ga K x) f := by
  obtain ⟨fd, F⟩ := c.t.d.def_ j hj
  exact ⟨_, fd, F, mkr_ok (c.t.d.fact i hi)⟩
theorem says_noat (c : SaysX fa fn ts tf (fun K => ex.all fun f => f K) w h K) (i : Nat) {x f : Str} (hi : fa[i]? = some (.noat x f) := by rfl) : NoAttr K (ga K x) f := noat_ok (c.t.d.fact i hi)
theorem says_cls (c : SaysX fa fn ts tf (fun K => ex.all fun f => f K) w h K) (i : Nat) {x : Str} (hi : fa[i]? = some (.cls x) := by rfl) : Cls K (ga K x) := cls_ok (c.t.d.fact i hi)
/-! classes of errors, asked by isinstance -/
def eqB (a : Option Bool) (b : Bool) : Bool := match a with
  | some c => c == b
  | none => false
theorem eqB_ok {a : Option Bool} {b : Bool} (h : eqB a b = true) : a = some b := by
  cases a with
  | none => cases h
  | some c => rw [beq_iff_eq.mp (show (c == b) = true from h)]
def excB (x : Str) (K : PySem.W.Frag) : Bool :=
  eqO (PySem.W.findIn K (.ref (ga K x)) "__getattribute__") (some (some (.builtin "BaseException.__getattribute__"))) && (eqO (PySem.W.findIn K (.ref (ga K x)) "__getattr__") (some none) && (eqB (PySem.W.subIn K (.ref (ga K x)) (.type "BaseException")) true &&
    (PySem.W.hasDictIn K (ga K x) && (eqO (PySem.W.findIn K (.ref (ga K x)) "__class__") (some (some (.builtin "object.__class__"))) && (eqO (PySem.W.specialIn K (.builtin "object.__class__") "__get__") (some (some (.builtin "getset_descriptor.__get__"))) &&
      (eqB (PySem.W.takesIn K (.builtin "object.__class__")) true && eqB (PySem.W.mroIn K (ga K x) (.type "object")) true))))))
theorem excB_ok {x : Str} (h : excB x K = true) : ExcC K (ga K x) := by
  obtain ⟨h1, h⟩ := ba h
  obtain ⟨h2, h⟩ := ba h
  obtain ⟨h3, h⟩ := ba h
  obtain ⟨h4, h⟩ := ba h
  obtain ⟨h5, h⟩ := ba h
  obtain ⟨h6, h⟩ := ba h
  obtain ⟨h7, h8⟩ := ba h
  exact ⟨eqO_ok h1, eqO_ok h2, eqB_ok h3, h4, eqO_ok h5, eqO_ok h6, eqB_ok h7, eqB_ok h8⟩
def obB (x : Str) (K : PySem.W.Frag) : Bool :=
  eqO (PySem.W.findIn K (.ref (ga K x)) "__class__") (some (some (.builtin "object.__class__"))) && (eqO (PySem.W.specialIn K (.builtin "object.__class__") "__get__") (some (some (.builtin "getset_descriptor.__get__"))) &&
    (eqB (PySem.W.takesIn K (.builtin "object.__class__")) true && (eqB (PySem.W.mroIn K (ga K x) (.type "object")) true && (["tuple", "list", "int", "bool", "str"].all fun T => eqB (PySem.W.kitOne K (.ref (ga K x)) (.type T)) false))))
theorem obB_ok {x : Str} (h : obB x K = true) (cl : Cls K (ga K x)) : ObC K (ga K x) := by
  obtain ⟨h1, h⟩ := ba h
  obtain ⟨h2, h⟩ := ba h
  obtain ⟨h3, h⟩ := ba h
  obtain ⟨h4, h5⟩ := ba h
  exact ⟨cl, eqO_ok h1, eqO_ok h2, eqB_ok h3, eqB_ok h4, fun T hT => eqB_ok (List.all_eq_true.mp h5 T hT)⟩
/-- at a key of a dict of the text: a number, or nothing -/
def kAtB (x z : Str) (o : Option Int) (K : PySem.W.Frag) : Bool := match PySem.W.nsIn K (ga K x) z, o with
  | some (some (.int j _)), some i => decide (j = i)
  | some none, none => true
  | _, _ => false
def KIs : Option Int → Option Value → Prop
  | some i, r => ∃ t, r = some (.int i t)
  | none, r => r = none
theorem kAtB_ok {x z : Str} {o : Option Int} (h : kAtB x z o K = true) : ∃ r, PySem.W.nsIn K (ga K x) z = some r ∧ KIs o r := by
  unfold kAtB at h
  generalize PySem.W.nsIn K (ga K x) z = r at h
  match r, o, h with
  | some (some (.int j t)), some i, h => exact ⟨_, rfl, t, by rw [of_decide_eq_true h]⟩
  | some none, none, h => exact ⟨_, rfl, rfl⟩
def kitX (x y : Str) (b : Bool) (K : PySem.W.Frag) : Bool := eqB (PySem.W.kitOne K (.ref (ga K x)) (.ref (ga K y))) b
def kitV (x : Str) (K : PySem.W.Frag) : Bool := eqB (PySem.W.kitOne K (.ref (ga K x)) (.type "ValueError")) true
/-! no list stands there; big divisions go by the model's own road -/
def noLst (K : PySem.W.Frag) : Bool := K.all fun q => match q.2.cls with
  | .type n => !(n == "list")
  | _ => true
theorem noLst_ok (h : noLst K = true) {H : Hp} {a : Addr} {xs : List V} (s : SqL K H a xs) : Rd H a (.lst xs) := by
  rcases s with s | ⟨o, its, n, lk, hc, _⟩
  · exact s
  · have q := List.all_eq_true.mp h (a, o) (lookup_mem lk)
    rw [show ((a, o) : Addr × Obj).2.cls = .type "list" from hc] at q
    cases q
def nsB (K : PySem.W.Frag) (a : Addr) (xs : List Str) : Bool := match K.lookup a with
  | some ⟨_, _, .dict es _, _⟩ => (es.toList.all fun e => match e.key with | .str _ _ => true | _ => false) && xs.all fun x => (nsFind es x).isNone
  | _ => false
theorem nsB_ok {a : Addr} {xs : List Str} (h : nsB K a xs = true) (X : K.In base) : ∃ m, base.Ns a m ∧ ∀ x ∈ xs, m x = none := by
  unfold nsB at h
  split at h
  · rename_i c d es n sl q
    obtain ⟨h1, h2⟩ := ba h
    refine ⟨nsFind es, ⟨_, es, n, X _ _ q, rfl, fun e he => ?_, fun _ => rfl⟩, fun x hx => ?_⟩
    · have z := List.all_eq_true.mp h1 e (Array.mem_toList_iff.mpr he)
      cases k : e.key with
      | str m t => exact ⟨m, t, rfl⟩
      | _ => rw [k] at z; cases z
    · exact Option.isNone_iff_eq_none.mp (List.all_eq_true.mp h2 x hx)
  · cases h
def seerB (K : PySem.W.Frag) : Bool := nsB K cStatics ["sys.audit-hooks", "sys.dict"] && (nsB K sysModules ["_pylong"] && (match K.lookup (ga K "__builtins__") with
  | some ⟨.type c, some d, _, _⟩ => c == "module" && d == builtinsNs
  | _ => false))
theorem seer_of (h : seerB K = true) (X : K.In base) (G : base.Ns mainGlobals mg) (hb : mg "__builtins__" = some (.ref (ga K "__builtins__"))) (hbl : ∃ mb, base.Ns builtinsNs mb ∧ ∀ x : Str, x ≠ "__name__" → mb x = bootBuiltins x) : base.NoSeer := by
  obtain ⟨h1, h⟩ := ba h
  obtain ⟨h2, h3⟩ := ba h
  obtain ⟨mc, c1, c2⟩ := nsB_ok h1 X
  obtain ⟨mm, m1, m2⟩ := nsB_ok h2 X
  refine ⟨⟨mc, c1, c2 _ (by simp), c2 _ (by simp)⟩, ⟨mm, m1, m2 _ (by simp)⟩, hbl, mg, ga K "__builtins__", ?_⟩
  split at h3
  · rename_i c d dt sl q
    obtain ⟨h4, h5⟩ := ba h3
    exact ⟨_, G, hb, X _ _ q, by rw [beq_iff_eq.mp h4], by rw [beq_iff_eq.mp h5]⟩
  · cases h3
end
/-! ### the law -/
/-- what the law is handed, what it comes to -/
def spLaw (T : List (Addr × Str)) (n : Nat) : Sp := fun vs H Q _ => ∃ (a : Addr) (ns : List Int), vs = [.ref a] ∧ ns.length ≤ n ∧ (∀ z ∈ ns, Builtin.Int.intBits z ≤ 1048576) ∧ (∀ p ∈ T, H p.1 = some (.tbl #[])) ∧ Rd H a (.lst (ns.map V.int)) ∧ ∀ H', Q (.bl true) H'
theorem dts_ints {K : PySem.W.Frag} {H : Hp} : ∀ ns : List Int, DtAll K H (ns.map V.int) (ns.map .int)
  | [] => .nil
  | n :: ns => .cons (.int n) (dts_ints ns)
theorem law_mk {Pr : Program} {w : World} {K : PySem.W.Frag} {mg : Str → Option Value} {base : Heap} {st : Stmt} {f : Addr} {fd : FuncData} {N : List Str} {k n : Nat} {T : List (Addr × Str)}
    (F : FunD K "law" "law" (defArgs st) (defBody st) (defScope st) [] [] f fd) (S : FnScope N ["script"] (defScope st)) (hf : f = ga K "law") (htr : Pr.given.tree = none) (hk : 40 ≤ k) (hns : (∃ mb, base.Ns builtinsNs mb ∧ ∀ x : Str, x ≠ "__name__" → mb x = bootBuiltins x) → base.NoSeer)
    (body : base.NoSeer → ∀ (cdv : Value) (A : Around) (outer : List Env) (s : Shared) (H : Hp) (E : XK) (X : Cx), X = cxOf (L2N.CX Pr w) Pr w K mg base N "law" (defScope st) f cdv A outer s H E → Gx X k → PassesOwn (model X.prog X.w) X.A X.env X.xe → X.env.code = .ref (codeOf K ("law", none)) → ∀ ns : List Int, ns.length ≤ n → (∀ z ∈ ns, Builtin.Int.intBits z ≤ 1048576) →
      SS (SameN T) X (.dat (.list (ns.map .int)) :: List.replicate (N.length - 1) .no) (defBody st) { rt := fun e => e = .bool true }) : FnOk Pr w K mg base (L2N.CX Pr w) (k + 1) f fd ["script"] (spLaw T n) := by
  obtain ⟨oc, od, dV, kV, doc, pm, an, cdv, ct, osl, rfl, lk, hcd, _, _⟩ := F.ex
  have len : ∀ vs H Q E, spLaw T n vs H Q E → vs.length = (["script"] : List Str).length := fun vs H Q E h => by
    obtain ⟨a, ns, rfl, _⟩ := h
    rfl
  refine ⟨len, fun A outer s H args us vs Q E hr e0 => ?_⟩
  have seer := hns e0.mod.blt
  obtain ⟨c, hc⟩ := codeIn_ref hcd
  have hco : cdv = .ref (codeOf K ("law", none)) := by
    rw [hc]
    subst hf
    rw [codeOf_eq (p := ("law", none)) lk hc]
  refine (fn_of (CX := L2N.CX Pr w) (k := k) (sp := spLaw T n) lk hcd S len fun A outer s H vs Q E hr h => ?_).run A outer s H args us vs Q E hr e0
  obtain ⟨a, ns, rfl, hl, hb, hT, hR, hq⟩ := h
  let X : Cx := cxOf (L2N.CX Pr w) Pr w K mg base N "law" (defScope st) f cdv A outer s H E
  have gx : Gx X k := ⟨hr, hk, seer, htr, ⟨_, _, rfl, S.gen, S.co, rfl, rfl⟩⟩
  have tk : L2N.Takes X (fun c d _ H' => E c d H') := L2N.takes_of rfl rfl rfl rfl
  have pss : PassesOwn (model X.prog X.w) X.A X.env X.xe := passes_of rfl
  have hN : 1 ≤ N.length := by
    have := congrArg List.length S.pre
    rw [List.length_take] at this
    simp at this
    omega
  have TT : Tabs T H := fun p hp => TabS.nil (hT p hp)
  have si : SI (SameN T) K H (fun _ => False) (.dat (.list (ns.map .int)) :: List.replicate (N.length - 1) .no) (L2.start N [.ref a]) H :=
    si_startR (N := N) (vs := [.ref a]) (ds := [.list (ns.map .int)]) (n := 1) ⟨Keep.refl H, fun _ z => z, TT, TT⟩ (fun _ z => z.elim) (.cons (.lst (rd_keep (fun b o e _ => off_of (fun z => z.elim) e) hR) (dts_ints ns)) .nil) rfl rfl
  refine ⟨wss X (defBody st), pss_wss, ?_⟩
  exact body seer cdv A outer s H E X rfl gx pss hco ns hl hb H (fun _ => False) _ H _ E si tk (fun _ _ _ h _ => h.elim) ⟨fun e v H' he r' dv => by
    rw [show e = .bool true from he] at dv
    cases dv
    exact hq H', fun _ _ _ _ h => h.elim⟩ (fun _ _ _ h _ => h.elim) (fun _ _ _ h _ => h.elim) (fun _ _ h _ => h.elim)
end An

/-! Defs that make lambdas: the tables of code objects may grow. -/
namespace An
open PySem PySem.Spec PyProof.Rows L2 He LamX
def spT (T : List (Addr × Str)) (K : PySem.W.Frag) (n : Nat) (Val : List D → D → Prop) : Sp := fun vs H Q _ => vs.length = n ∧ Tabs T H ∧ ∃ (S : Addr → Prop) (ds : List D), (∀ a, S a → H a ≠ none) ∧ DtAll K (off S H) vs ds ∧ ∃ d, Val ds d ∧ ∀ v H2, SameN T H H2 → Dt K (off S H2) v d → Q v H2
structure FnT (P : Program) (w : World) (K : PySem.W.Frag) (mg : Str → Option Value) (base : Heap) (x : Str) (k n : Nat) (T : List (Addr × Str)) (Val : List D → D → Prop) : Prop where
  ok : ∃ (f : Addr) (fd : FuncData) (ps : List Str), FnOk P w K mg base (L2N.CX P w) k f fd ps (spT T K n Val) ∧ mg x = some (.ref f) ∧ PySem.W.keepIn K (.ref f) = true ∧ Binds K fd ps []
section
variable {T : List (Addr × Str)} {X : Cx} {γ : List Sl} {pos : Pos}
theorem ee_callT {x : Str} {k n : Nat} {Val : List D → D → Prop} {e : Expr} {es : List Expr} {p : Pos} {ds : List D} {d : D} (F : FnT X.prog X.w X.K X.mg X.base x k n T Val) (hr : Room k X.A) (ha : EA (SameN T) X γ (e :: es) ds) (hv : Val ds d) (hn : ds.length = n := by rfl) (hg : Gl X x := by rfl)
    (hdb : (x == ("__debug__" : Str)) = false := by decide) (he : starEach (e :: es) X.env = (false, eval e X.env) :: starEach es X.env := by rfl) (hpl : (backTo pos (starEach es X.env)).any (·.1) = false := by rfl) :
    EE (SameN T) X γ (.Call (.Name x p) (e :: es) [] pos) d := fun H0 S0 σ H Q s kk => by
  obtain ⟨f, fd, ps, h1, h2, h3, h4⟩ := F.ok
  refine we_of (pe_call (E := E0) h1 hr hg h2 h3 h4 .nil passN pa_wa hdb he hpl) (ha H0 S0 σ H _ s fun vs H1 r1 d1 => ?_)
  rw [List.append_nil]
  exact ⟨by rw [dps_len d1]; exact hn, r1.2.2.2, Sx S0 γ σ, ds, sx_dom (s.mono r1), d1, d, hv, fun v H2 sm dv => kk v H2 (Rel.trans r1 sm) dv⟩
theorem ee_callT0 {x : Str} {k : Nat} {Val : List D → D → Prop} {p : Pos} {d : D} (F : FnT X.prog X.w X.K X.mg X.base x k 0 T Val) (hr : Room k X.A) (hv : Val [] d) (hg : Gl X x := by rfl) (hdb : (x == ("__debug__" : Str)) = false := by decide) :
    EE (SameN T) X γ (.Call (.Name x p) [] [] pos) d := fun H0 S0 σ H Q s kk => by
  obtain ⟨f, fd, ps, h1, h2, h3, h4⟩ := F.ok
  refine we_of (pe_call0 (E := E0) h1 hr hg h2 h3 h4 .nil passN hdb) ?_
  exact ⟨rfl, s.rel.2.2.2, Sx S0 γ σ, [], sx_dom s, .nil, d, hv, fun v H2 sm dv => kk v H2 sm dv⟩
end
def neT (a b : Str) (K : PySem.W.Frag) : Bool := decide ((cT K (a, none)).2 ≠ (cT K (b, none)).2)
theorem neT_ok {a b : Str} {K : PySem.W.Frag} (h : neT a b K = true) : (cT K (a, none)).2 ≠ (cT K (b, none)).2 := of_decide_eq_true h
theorem fnt_mk {Pr : Program} {w : World} {K : PySem.W.Frag} {mg : Str → Option Value} {base : Heap} {x : Str} {st : Stmt} {f : Addr} {fd : FuncData} {N ps : List Str} {k n : Nat} {T : List (Addr × Str)} {Val : List D → D → Prop}
    (F : FunD K x x (defArgs st) (defBody st) (defScope st) [] [] f fd) (S : FnScope N ps (defScope st)) (hm : mg x = some (.ref f)) (hb : Binds K fd ps []) (hf : f = ga K x) (htr : Pr.given.tree = none) (hk : 40 ≤ k) (hns : base.NoSeer) (hn : ps.length = n)
    (body : ∀ (cdv : Value) (A : Around) (outer : List Env) (s : Shared) (H : Hp) (E : XK) (X : Cx), X = cxOf (L2N.CX Pr w) Pr w K mg base N x (defScope st) f cdv A outer s H E → Gx X k → PassesOwn (model X.prog X.w) X.A X.env X.xe → X.env.code = .ref (codeOf K (x, none)) → ∀ ds : List D, ds.length = n →
      ∀ d, Val ds d → SS (SameN T) X (ds.map .dat ++ List.replicate (N.length - n) .no) (defBody st) { rt := fun e => e = d, nx := fun _ => d = .none }) : FnT Pr w K mg base x (k + 1) n T Val := by
  have kp := F.kp
  obtain ⟨oc, od, dV, kV, doc, pm, an, cdv, ct, osl, rfl, lk, hcd, _, _⟩ := F.ex
  have len : ∀ vs H Q E, spT T K n Val vs H Q E → vs.length = ps.length := fun vs H Q E h => by rw [h.1, hn]
  refine ⟨_, _, ps, ⟨len, fun A outer s H args us vs Q E hr e0 => ?_⟩, hm, kp, hb⟩
  obtain ⟨c, hc⟩ := codeIn_ref hcd
  have hco : cdv = .ref (codeOf K (x, none)) := by
    rw [hc]
    subst hf
    rw [codeOf_eq (p := (x, none)) lk hc]
  refine (fn_of (CX := L2N.CX Pr w) (k := k) (sp := spT T K n Val) lk hcd S len fun A outer s H vs Q E hr h => ?_).run A outer s H args us vs Q E hr e0
  obtain ⟨hl, hT, Sv, ds, hS, hd, d, hv, hq⟩ := h
  let X : Cx := cxOf (L2N.CX Pr w) Pr w K mg base N x (defScope st) f cdv A outer s H E
  have hdl : ds.length = n := by rw [← dps_len hd, hl]
  have gx : Gx X k := ⟨hr, hk, hns, htr, ⟨_, _, rfl, S.gen, S.co, rfl, rfl⟩⟩
  have tk : L2N.Takes X (fun c d _ H' => E c d H') := L2N.takes_of rfl rfl rfl rfl
  have pss : PassesOwn (model X.prog X.w) X.A X.env X.xe := passes_of rfl
  refine ⟨wss X (defBody st), pss_wss, ?_⟩
  have si : SI (SameN T) K H Sv (ds.map .dat ++ List.replicate (N.length - n) .no) (L2.start N vs) H := si_startR ⟨Keep.refl H, fun _ z => z, hT, hT⟩ hS hd hl hdl
  exact body cdv A outer s H E X rfl gx pss hco ds hdl d hv H Sv _ H _ E si tk (fun γ' σ' H' e s' => hq .non H' s'.rel (by rw [show d = .none from e]; exact .non)) ⟨fun e v H' he r' dv => hq v H' r' (by rw [← show e = d from he]; exact dv), fun _ _ _ _ h => h.elim⟩ (fun _ _ _ h _ => h.elim) (fun _ _ _ h _ => h.elim) fun c H' h _ => h.elim
end An

/-! Polynomials: sums and products keep the laws of reckoning. -/
namespace An
open PySem
/-- a polynomial acting on a row of fractions: the row of the product -/
def sft (g : Nat → Rat) : Nat → Rat
  | 0 => 0
  | k + 1 => g k
def act : Poly → (Nat → Rat) → Nat → Rat
  | [], _ => fun _ => 0
  | a :: r, g => fun k => a * g k + sft (act r g) k
theorem sft_add (f g : Nat → Rat) : (sft fun k => f k + g k) = fun k => sft f k + sft g k := funext fun k => by
  cases k with
  | zero => show (0 : Rat) = 0 + 0; rw [Rat.add_zero]
  | succ k => rfl
theorem sft_mul (a : Rat) (g : Nat → Rat) : (sft fun k => a * g k) = fun k => a * sft g k := funext fun k => by
  cases k with
  | zero => show (0 : Rat) = a * 0; rw [Rat.mul_zero]
  | succ k => rfl
theorem act_zero : ∀ p : Poly, act p (fun _ => 0) = fun _ => 0
  | [] => rfl
  | a :: r => funext fun k => by
    show a * 0 + sft (act r fun _ => 0) k = 0
    rw [act_zero r, Rat.mul_zero]
    cases k <;> exact Rat.add_zero 0
theorem act_add : ∀ (p : Poly) (f g : Nat → Rat), (act p fun k => f k + g k) = fun k => act p f k + act p g k
  | [], _, _ => funext fun _ => (Rat.add_zero 0).symm
  | a :: r, f, g => funext fun k => by
    show a * (f k + g k) + sft (act r fun k => f k + g k) k = (a * f k + sft (act r f) k) + (a * g k + sft (act r g) k)
    rw [act_add r f g, sft_add]
    grind
theorem act_mul : ∀ (p : Poly) (c : Rat) (g : Nat → Rat), (act p fun k => c * g k) = fun k => c * act p g k
  | [], c, _ => funext fun _ => (Rat.mul_zero c).symm
  | a :: r, c, g => funext fun k => by
    show a * (c * g k) + sft (act r fun k => c * g k) k = c * (a * g k + sft (act r g) k)
    rw [act_mul r c g, sft_mul]
    grind
theorem act_sft : ∀ (p : Poly) (g : Nat → Rat), act p (sft g) = sft (act p g)
  | [], _ => funext fun k => by cases k <;> rfl
  | a :: r, g => funext fun k => by
    show a * sft g k + sft (act r (sft g)) k = sft (fun k => a * g k + sft (act r g) k) k
    rw [act_sft r g, sft_add, sft_mul]
theorem act_comm : ∀ (p q : Poly) (g : Nat → Rat), act p (act q g) = act q (act p g)
  | [], q, g => by
    show (fun _ => 0) = act q fun _ => 0
    rw [act_zero]
  | a :: r, q, g => by
    have e : act q (act (a :: r) g) = fun k => act q (fun k => a * g k) k + act q (sft (act r g)) k := act_add q (fun k => a * g k) (sft (act r g))
    rw [e, act_mul, act_sft, ← act_comm r q g]
    rfl
/-- the row of the polynomial 1 -/
def uno : Nat → Rat
  | 0 => 1
  | _ + 1 => 0
theorem act_uno : ∀ p : Poly, act p uno = coef p
  | [] => funext fun k => (coef_nil k).symm
  | a :: r => funext fun k => by
    show a * uno k + sft (act r uno) k = coef (a :: r) k
    rw [act_uno r]
    cases k with
    | zero => show a * 1 + 0 = _; rw [Rat.mul_one, Rat.add_zero, coef_zero]
    | succ k => show a * 0 + coef r k = _; rw [Rat.mul_zero, Rat.zero_add, coef_succ]
theorem cmul_act : ∀ (p q : Poly), cmul p q = act p (coef q)
  | [], q => rfl
  | a :: r, q => funext fun k => by
    have e := cmul_act r q
    cases k with
    | zero => simp [cmul, act, sft]
    | succ k => simp [cmul, act, sft, e]
theorem coef_act (p q : Poly) : coef (pmul p q) = act p (coef q) := funext fun k => by
  rw [coef_pmul, cmul_act]
/-- acting goes by the coefficients alone -/
theorem act_pmul (p q r : Poly) : act (pmul p q) (coef r) = act p (act q (coef r)) := by
  rw [← act_uno r, act_comm (pmul p q) r, act_uno, coef_act, ← act_uno q, act_comm r p, act_comm r q]
theorem pmul_comm (p q : Poly) : pmul p q = pmul q p := own_ext (own_pmul _ _) (own_pmul _ _) fun i => by
  rw [coef_act, coef_act, ← act_uno q, act_comm p q, act_uno p]
theorem pmul_assoc (p q r : Poly) : pmul (pmul p q) r = pmul p (pmul q r) := own_ext (own_pmul _ _) (own_pmul _ _) fun i => by
  rw [coef_act, act_pmul, coef_act, coef_act]
theorem padd_comm (p q : Poly) : padd p q = padd q p := own_ext (own_padd _ _) (own_padd _ _) fun i => by
  rw [coef_padd, coef_padd, Rat.add_comm]
theorem padd_assoc (p q r : Poly) : padd (padd p q) r = padd p (padd q r) := own_ext (own_padd _ _) (own_padd _ _) fun i => by
  rw [coef_padd, coef_padd, coef_padd, coef_padd, Rat.add_assoc]
theorem padd_nil {p : Poly} (h : Own p) : padd p [] = p := own_ext (own_padd _ _) h fun i => by
  rw [coef_padd, coef_nil, Rat.add_zero]
theorem pmul_nil (p : Poly) : pmul p [] = [] := own_ext (own_pmul _ _) own_nil fun i => by
  rw [coef_act, show coef ([] : Poly) = fun _ => 0 from funext coef_nil, act_zero]
theorem nil_pmul (p : Poly) : pmul [] p = [] := by
  rw [pmul_comm, pmul_nil]
theorem pmul_padd (p q r : Poly) : pmul p (padd q r) = padd (pmul p q) (pmul p r) := own_ext (own_pmul _ _) (own_padd _ _) fun i => by
  rw [coef_padd, coef_act, coef_act, coef_act, show coef (padd q r) = fun k => coef q k + coef r k from funext (coef_padd q r), act_add]
theorem padd_pmul (p q r : Poly) : pmul (padd p q) r = padd (pmul p r) (pmul q r) := by
  rw [pmul_comm, pmul_padd, pmul_comm r p, pmul_comm r q]
theorem pmul_pscale (p q : Poly) (c : Rat) : pmul p (pscale q c) = pscale (pmul p q) c := own_ext (own_pmul _ _) (own_pscale _ _) fun i => by
  rw [coef_act, coef_pscale, coef_act, show coef (pscale q c) = fun k => c * coef q k from funext fun k => by rw [coef_pscale, Rat.mul_comm], act_mul, Rat.mul_comm]
theorem pscale_padd (p q : Poly) (c : Rat) : pscale (padd p q) c = padd (pscale p c) (pscale q c) := own_ext (own_pscale _ _) (own_padd _ _) fun i => by
  rw [coef_padd, coef_pscale, coef_pscale, coef_pscale, coef_padd, Rat.add_mul]
theorem pscale_pscale (p : Poly) (b c : Rat) : pscale (pscale p b) c = pscale p (b * c) := own_ext (own_pscale _ _) (own_pscale _ _) fun i => by
  rw [coef_pscale, coef_pscale, coef_pscale, Rat.mul_assoc]
theorem pscale_one {p : Poly} (h : Own p) : pscale p 1 = p := own_ext (own_pscale _ _) h fun i => by
  rw [coef_pscale, Rat.mul_one]
theorem pmul_const (c : Rat) (p : Poly) : pmul [c] p = pscale p c := own_ext (own_pmul _ _) (own_pscale _ _) fun i => by
  rw [coef_act, coef_pscale]
  show c * coef p i + sft (fun _ => 0) i = _
  cases i <;> exact (Rat.add_zero _).trans (Rat.mul_comm _ _)
theorem one_pmul {p : Poly} (h : Own p) : pmul [1] p = p := by
  rw [pmul_const, pscale_one h]
end An

/-! What the defs bring, by data; sizes found by instances. -/
namespace An
open PySem PySem.Spec PyProof.Rows L2
def vCommon (ds : List D) (d : D) : Prop := ∃ a b : Nat, ds = [.int a, .int b] ∧ d = .int (Nat.gcd a b : Nat)
def vFraction (ds : List D) (d : D) : Prop := ∃ t u : Int, ds = [.int t, .int u] ∧ u ≠ 0 ∧ d = eF (Rat.divInt t u)
def Bin (f : Rat → Rat → Rat) (ds : List D) (d : D) : Prop := ∃ (a b : Rat) (n m : Nat), ds = [eF a, eF b] ∧ Rz n a ∧ Rz m b ∧ n + m ≤ LIM ∧ d = eF (f a b)
def vIsF (ds : List D) (d : D) : Prop := ∃ x, ds = [x] ∧ d = .bool (isF x)
def vIsP (ds : List D) (d : D) : Prop := ∃ x, ds = [x] ∧ d = .bool (isPo x)
def vNeedP (ds : List D) (d : D) : Prop := ∃ x, ds = [x] ∧ isPo x = true ∧ d = .none
def xNeedP (K : PySem.W.Frag) (ds : List D) (c : Value) : Prop := ∃ x, ds = [x] ∧ isPo x = false ∧ c = ec K "BadPoly"
def xFst (K : PySem.W.Frag) (ds : List D) (c : Value) : Prop := ∃ x r, ds = x :: r ∧ isPo x = false ∧ c = ec K "BadPoly"
def vTrim (ds : List D) (d : D) : Prop := ∃ p : Poly, ds = [eP p] ∧ p.length ≤ 1000 ∧ d = eP (trim p)
def vTell (ds : List D) (d : D) : Prop := ∃ x, ds = [x] ∧ isPo x = true ∧ d = x
def vAt (ds : List D) (d : D) : Prop := ∃ (p : Poly) (i : Nat), ds = [eP p, .int i] ∧ d = eF (coef p i)
def vAdd (ds : List D) (d : D) : Prop := ∃ (p q : Poly) (n m : Nat), ds = [eP p, eP q] ∧ PZ n p ∧ PZ m q ∧ 0 < n ∧ 0 < m ∧ n + m ≤ LIM ∧ p.length ≤ 1000 ∧ q.length ≤ 1000 ∧ d = eP (padd p q)
def vScale (ds : List D) (d : D) : Prop := ∃ (p : Poly) (c : Rat) (n m : Nat), ds = [eP p, eF c] ∧ PZ n p ∧ Rz m c ∧ n + m ≤ LIM ∧ p.length ≤ 1000 ∧ d = eP (pscale p c)
def vMul (ds : List D) (d : D) : Prop := ∃ (p q : Poly) (n m : Nat), ds = [eP p, eP q] ∧ PZ n p ∧ PZ m q ∧ 0 < n ∧ 0 < m ∧ p.length ≤ 100 ∧ q.length ≤ 100 ∧ (p.length + 2) * (n + m + 1) ≤ LIM ∧ d = eP (pmul p q)
def vWorth (ds : List D) (d : D) : Prop := ∃ (p : Poly) (x : Rat) (n m : Nat), ds = [eP p, eF x] ∧ PZ n p ∧ Rz m x ∧ 0 < n ∧ p.length ≤ 100 ∧ (p.length + 2) * (n + m + 1) ≤ LIM ∧ d = eF (peval p x)
def vSlope (ds : List D) (d : D) : Prop := ∃ (p : Poly) (n : Nat), ds = [eP p] ∧ PZ n p ∧ 0 < n ∧ p.length ≤ 100 ∧ n + 8 ≤ LIM ∧ d = eP (pder p)
/-! ### lengths, comparisons by kind -/
class LenD (x : D) (n : outParam Nat) : Prop where
  ok : lenD x = some n
instance (p : Poly) : LenD (eP p) p.length := ⟨by simp [eP, lenD]⟩
instance (ds : List D) : LenD (.list ds) ds.length := ⟨rfl⟩
instance (ds : List D) : LenD (.tuple ds) ds.length := ⟨rfl⟩
instance {α : Type} (f : α → D) (l : List α) : LenD (.list (l.map f)) l.length := ⟨by simp [lenD]⟩
class EqvD (a b : D) (c : outParam Bool) : Prop where
  sa : SeqAt.shaped a = true
  sb : SeqAt.shaped b = true
  eq : PyData.eqv a b = c
instance (a b : Rat) : EqvD (eF a) (eF b) (decide (a = b)) := ⟨(sh_eF a).ok1, (sh_eF b).ok1, eqv_eF a b⟩
instance (a b : Poly) : EqvD (eP a) (eP b) (decide (a = b)) := ⟨(sh_eP a).ok2, (sh_eP b).ok2, eqv_eP a b⟩
instance (a : Poly) : EqvD (eP a) (.list []) (decide (a = [])) := ⟨(sh_eP a).ok2, (sh_eP []).ok2, eqv_eP a []⟩
instance (i j : Int) : EqvD (.int i) (.int j) (decide (i = j)) := ⟨sh_int.ok0, sh_int.ok0, by
  simp only [PyData.eqv]
  by_cases z : i = j <;> simp [z]⟩
instance (a b : Bool) : EqvD (.bool a) (.bool b) (a == b) := ⟨sh_bool.ok0, sh_bool.ok0, by cases a <;> cases b <;> rfl⟩
section
variable {R : Hp → Hp → Prop} [RelC R] {X : Cx} {γ : List Sl} {pos p : Pos} {a b : Expr} {k : Nat}
theorem ee_lenC {x : D} {n : Nat} [LenD x n] (ha : EE R X γ a x) (hm : X.mg "len" = none) (hg : Gl X "len" := by rfl) (he : starEach [a] X.env = (false, eval a X.env) :: starEach [] X.env := by rfl) (hpl : (backTo pos (starEach [] X.env)).any (·.1) = false := by rfl) :
    EE R X γ (.Call (.Name "len" p) [a] [] pos) (.int n) := ee_len ha LenD.ok hm hg he hpl
theorem od_eqC {x y : D} {c : Bool} [EqvD x y c] (g : Gx X k) : OpD X (compareOp .Eq) x y (.bool c) := by
  have h := od_eq (X := X) g (EqvD.sa (a := x) (b := y)) (EqvD.sb (a := x) (b := y))
  rw [EqvD.eq (a := x) (b := y)] at h
  exact h
theorem od_neC {x y : D} {c : Bool} [EqvD x y c] (g : Gx X k) : OpD X (compareOp .NotEq) x y (.bool (!c)) := by
  have h := od_ne (X := X) g (EqvD.sa (a := x) (b := y)) (EqvD.sb (a := x) (b := y))
  rw [EqvD.eq (a := x) (b := y)] at h
  exact h
end
/-! ### sizes -/
class RB (q : Rat) (n : outParam Nat) : Prop where
  z : Rz n q
class PB (p : Poly) (n l : outParam Nat) : Prop where
  z : PZ n p
  p0 : 0 < n
  len : p.length ≤ l
class OB (p : Poly) : Prop where
  o : Own p
theorem pbz (p : Poly) {n l : Nat} [h : PB p n l] : PZ n p := h.z
theorem pb0 (p : Poly) {n l : Nat} [h : PB p n l] : 0 < n := h.p0
theorem pbl (p : Poly) {n l : Nat} [h : PB p n l] : p.length ≤ l := h.len
instance : RB 0 1 := ⟨rz_zero⟩
instance : RB 1 1 := ⟨rz_one⟩
section
variable {a b : Rat} {n m l k : Nat} {p q : Poly}
instance [RB a n] [RB b m] : RB (a * b) (n + m) := ⟨RB.z.mul RB.z⟩
instance [RB a n] [RB b m] : RB (a + b) (n + m + 1) := ⟨RB.z.add RB.z⟩
instance [RB a n] [RB b m] : RB (a - b) (n + m + 1) := ⟨RB.z.sub RB.z⟩
instance [RB a n] : RB (-a) n := ⟨RB.z.neg⟩
instance [RB a n] [RB b m] : RB (a / b) (n + m) := ⟨RB.z.div RB.z⟩
instance [RB a n] : RB a⁻¹ n := ⟨RB.z.inv⟩
instance [PB p n l] (i : Nat) : RB (coef p i) n := ⟨(pbz p).coef (pb0 p) i⟩
instance [PB p n l] [RB a m] : RB (peval p a) (1 + l * (n + m + 1)) := ⟨(rz_peval (pbz p) (RB.z (q := a))).mono (Nat.add_le_add_left (Nat.mul_le_mul_right _ (pbl p)) _)⟩
instance : PB [] 1 0 := ⟨pz_nil, by decide, Nat.le_refl _⟩
instance [RB a n] [PB p m l] : PB (a :: p) (n + m) (l + 1) := ⟨fun q hq => by
  rcases List.mem_cons.mp hq with h | h
  · rw [h]; exact RB.z.mono (Nat.le_add_right _ _)
  · exact (pbz p q h).mono (Nat.le_add_left _ _), Nat.lt_of_lt_of_le (pb0 p) (Nat.le_add_left _ _), Nat.succ_le_succ (pbl p)⟩
instance [PB p n l] [PB q m k] : PB (padd p q) (n + m + 1) (max l k) := ⟨pz_padd (pbz p) (pbz q) (pb0 p) (pb0 q), Nat.succ_pos _, Nat.le_trans (padd_len p q) (by have := pbl p; have := pbl q; omega)⟩
instance [PB p n l] [PB q m k] : PB (pmul p q) (1 + l * (n + m + 1)) (l + k) := ⟨(pz_pmul (pbz p) (pbz q) (pb0 q)).mono (Nat.add_le_add_left (Nat.mul_le_mul_right _ (pbl p)) _), by omega, Nat.le_trans (pmul_len p q) (by have := pbl p; have := pbl q; omega)⟩
instance [PB p n l] [RB a m] : PB (pscale p a) (n + m) l := ⟨pz_pscale (pbz p) (RB.z (q := a)), Nat.lt_of_lt_of_le (pb0 p) (Nat.le_add_right _ _), Nat.le_trans (pscale_len p a) (pbl p)⟩
instance [PB p n l] : PB (trim p) n l := ⟨(pbz p).trim, pb0 p, Nat.le_trans (trim_len p) (pbl p)⟩
instance : OB [] := ⟨own_nil⟩
instance : OB (padd p q) := ⟨own_padd _ _⟩
instance : OB (pmul p q) := ⟨own_pmul _ _⟩
instance : OB (pscale p a) := ⟨own_pscale _ _⟩
instance : OB (trim p) := ⟨own_trim _⟩
theorem bin_c {f : Rat → Rat → Rat} [RB a n] [RB b m] (h : n + m ≤ LIM) : Bin f [eF a, eF b] (eF (f a b)) := ⟨a, b, n, m, rfl, RB.z, RB.z, h, rfl⟩
theorem add_c [PB p n l] [PB q m k] (h : n + m ≤ LIM ∧ l ≤ 1000 ∧ k ≤ 1000) : vAdd [eP p, eP q] (eP (padd p q)) := ⟨p, q, n, m, rfl, pbz p, pbz q, pb0 p, pb0 q, h.1, Nat.le_trans (pbl p) h.2.1, Nat.le_trans (pbl q) h.2.2, rfl⟩
theorem scale_c [PB p n l] [RB a m] (h : n + m ≤ LIM ∧ l ≤ 1000) : vScale [eP p, eF a] (eP (pscale p a)) := ⟨p, a, n, m, rfl, pbz p, RB.z, h.1, Nat.le_trans (pbl p) h.2, rfl⟩
theorem mul_c [PB p n l] [PB q m k] (h : (l + 2) * (n + m + 1) ≤ LIM ∧ l ≤ 100 ∧ k ≤ 100) : vMul [eP p, eP q] (eP (pmul p q)) := ⟨p, q, n, m, rfl, pbz p, pbz q, pb0 p, pb0 q, Nat.le_trans (pbl p) h.2.1, Nat.le_trans (pbl q) h.2.2, Nat.le_trans (Nat.mul_le_mul_right _ (Nat.add_le_add_right (pbl p) 2)) h.1, rfl⟩
theorem worth_c [PB p n l] [RB a m] (h : (l + 2) * (n + m + 1) ≤ LIM ∧ l ≤ 100) : vWorth [eP p, eF a] (eF (peval p a)) := ⟨p, a, n, m, rfl, pbz p, RB.z, pb0 p, Nat.le_trans (pbl p) h.2, Nat.le_trans (Nat.mul_le_mul_right _ (Nat.add_le_add_right (pbl p) 2)) h.1, rfl⟩
theorem slope_c [PB p n l] (h : n + 8 ≤ LIM ∧ l ≤ 100) : vSlope [eP p] (eP (pder p)) := ⟨p, n, rfl, pbz p, pb0 p, Nat.le_trans (pbl p) h.2, h.1, rfl⟩
theorem trim_c [PB p n l] (h : l ≤ 1000) : vTrim [eP p] (eP (trim p)) := ⟨p, rfl, Nat.le_trans (pbl p) h, rfl⟩
theorem po_c [PB p n l] [OB p] (h : l ≤ 13) : isPo (eP p) = true := by
  rw [isPo_eP, decide_eq_true (Nat.le_trans (pbl p) h), decide_eq_true (OB.o (p := p))]
  rfl
theorem need_c [PB p n l] [OB p] (h : l ≤ 13) : vNeedP [eP p] .none := ⟨_, rfl, po_c h, rfl⟩
theorem tell_c [PB p n l] [OB p] (h : l ≤ 13) : vTell [eP p] (eP p) := ⟨_, rfl, po_c h, rfl⟩
end
end An

/-! The ring of polynomials; degrees; division; common parts. -/
namespace An
open PySem
structure QX where
  p : Poly
  own : Own p
theorem QX.ext' {a b : QX} (h : a.p = b.p) : a = b := by
  cases a; cases b; cases h; rfl
theorem QX.extC {a b : QX} (h : ∀ i, coef a.p i = coef b.p i) : a = b := QX.ext' (own_ext a.own b.own h)
/-- a number as a polynomial -/
def QX.C (c : Rat) : QX := ⟨trim [c], own_trim _⟩
theorem coef_C (c : Rat) (i : Nat) : coef (QX.C c).p i = if i = 0 then c else 0 := by
  show coef (trim [c]) i = _
  rw [coef_trim]
  cases i with
  | zero => rfl
  | succ i => rw [coef_succ, coef_nil, if_neg (by omega)]
def QX.pw (a : QX) : Nat → QX
  | 0 => QX.C 1
  | n + 1 => ⟨pmul (QX.pw a n).p a.p, own_pmul _ _⟩
instance : Add QX := ⟨fun a b => ⟨padd a.p b.p, own_padd _ _⟩⟩
instance : Mul QX := ⟨fun a b => ⟨pmul a.p b.p, own_pmul _ _⟩⟩
instance : Neg QX := ⟨fun a => ⟨pscale a.p (-1), own_pscale _ _⟩⟩
instance : Sub QX := ⟨fun a b => ⟨padd a.p (pscale b.p (-1)), own_padd _ _⟩⟩
instance : NatCast QX := ⟨fun n => QX.C n⟩
instance : IntCast QX := ⟨fun n => QX.C n⟩
instance (n : Nat) : OfNat QX n := ⟨QX.C n⟩
instance : SMul Nat QX := ⟨fun n a => (n : QX) * a⟩
instance : SMul Int QX := ⟨fun n a => (n : QX) * a⟩
instance : HPow QX Nat QX := ⟨QX.pw⟩
theorem qx_add (a b : QX) : (a + b).p = padd a.p b.p := rfl
theorem qx_mul (a b : QX) : (a * b).p = pmul a.p b.p := rfl
theorem qx_neg (a : QX) : (-a).p = pscale a.p (-1) := rfl
theorem qx_sub (a b : QX) : (a - b).p = padd a.p (pscale b.p (-1)) := rfl
theorem coef_add (a b : QX) (i : Nat) : coef (a + b).p i = coef a.p i + coef b.p i := coef_padd _ _ _
theorem coef_neg (a : QX) (i : Nat) : coef (-a).p i = -coef a.p i := by
  rw [qx_neg, coef_pscale]
  grind
theorem coef_sub (a b : QX) (i : Nat) : coef (a - b).p i = coef a.p i - coef b.p i := by
  rw [qx_sub, coef_padd, coef_pscale]
  grind
theorem qx_zero : (0 : QX).p = [] := by
  show trim [((0 : Nat) : Rat)] = []
  decide +kernel
theorem qx_one : (1 : QX).p = [1] := by
  show trim [((1 : Nat) : Rat)] = [1]
  decide +kernel
theorem coef_Cmul (c : Rat) (a : QX) (i : Nat) : coef (QX.C c * a).p i = c * coef a.p i := by
  show coef (pmul (trim [c]) a.p) i = _
  by_cases h : c = 0
  · subst h
    rw [show trim [(0 : Rat)] = [] by decide +kernel, nil_pmul, coef_nil, Rat.zero_mul]
  · have e : trim [c] = [c] := by
      show (if trim [] = [] ∧ c = 0 then [] else c :: trim []) = [c]
      rw [if_neg (fun z => h z.2)]
      rfl
    rw [e, pmul_const, coef_pscale, Rat.mul_comm]
theorem C_add (a b : Rat) : QX.C (a + b) = QX.C a + QX.C b := QX.extC fun i => by
  rw [coef_add, coef_C, coef_C, coef_C]
  split
  · rfl
  · rw [Rat.add_zero]
theorem C_mul (a b : Rat) : QX.C (a * b) = QX.C a * QX.C b := QX.extC fun i => by
  rw [coef_Cmul, coef_C, coef_C]
  split
  · rfl
  · rw [Rat.mul_zero]
theorem C_neg (a : Rat) : QX.C (-a) = -QX.C a := QX.extC fun i => by
  rw [coef_neg, coef_C, coef_C]
  split
  · rfl
  · grind
instance : Lean.Grind.CommRing QX where
  add_zero a := QX.extC fun i => by rw [coef_add, qx_zero, coef_nil, Rat.add_zero]
  add_comm a b := QX.ext' (padd_comm _ _)
  add_assoc a b c := QX.ext' (padd_assoc _ _ _)
  mul_assoc a b c := QX.ext' (pmul_assoc _ _ _)
  mul_comm a b := QX.ext' (pmul_comm _ _)
  mul_one a := QX.ext' (by rw [qx_mul, pmul_comm, qx_one, one_pmul a.own])
  left_distrib a b c := QX.ext' (pmul_padd _ _ _)
  one_mul a := QX.ext' (by rw [qx_mul, qx_one, one_pmul a.own])
  right_distrib a b c := QX.ext' (padd_pmul _ _ _)
  mul_zero a := QX.ext' (by rw [qx_mul, qx_zero, pmul_nil])
  zero_mul a := QX.ext' (by rw [qx_mul, qx_zero, nil_pmul])
  pow_zero a := rfl
  pow_succ a n := rfl
  ofNat_succ n := by
    show QX.C ((n + 1 : Nat) : Rat) = QX.C n + QX.C (1 : Nat)
    rw [← C_add, Rat.natCast_add]
  neg_add_cancel a := QX.extC fun i => by rw [coef_add, coef_neg, qx_zero, coef_nil]; grind
  sub_eq_add_neg a b := rfl
  neg_zsmul i a := by
    show QX.C ((-i : Int) : Rat) * a = -(QX.C (i : Rat) * a)
    refine QX.extC fun k => ?_
    rw [coef_neg, coef_Cmul, coef_Cmul, Rat.intCast_neg]
    grind
  zsmul_natCast_eq_nsmul n a := by
    show QX.C (((n : Nat) : Int) : Rat) * a = QX.C (n : Rat) * a
    rw [Rat.intCast_natCast]
  intCast_ofNat n := by
    show QX.C (((n : Nat) : Int) : Rat) = QX.C (n : Rat)
    rw [Rat.intCast_natCast]
  intCast_neg i := by
    show QX.C ((-i : Int) : Rat) = -QX.C (i : Rat)
    rw [Rat.intCast_neg, C_neg]
example (a b c : QX) : (a + b) * (a - b) + b ^ 2 = a ^ 2 := by grind
/-! ### degrees: by the length -/
def QX.len (a : QX) : Nat := a.p.length
def lc (p : Poly) : Rat := coef p (p.length - 1)
theorem own_len {p : Poly} (h : Own p) {m : Nat} (z : ∀ i, m ≤ i → coef p i = 0) : p.length ≤ m := by
  rcases own_iff.mp h with e | e
  · rw [e]; exact Nat.zero_le _
  · refine Nat.le_of_not_lt fun q => e (z _ (by omega))
theorem lc_ne {p : Poly} (h : Own p) (hn : p ≠ []) : lc p ≠ 0 := by
  rcases own_iff.mp h with e | e
  · exact absurd e hn
  · exact e
theorem len_zero {a : QX} : a.len = 0 ↔ a = 0 := ⟨fun h => QX.ext' (by rw [qx_zero]; exact List.length_eq_zero_iff.mp h), fun h => by rw [h]; show (0 : QX).p.length = 0; rw [qx_zero]; rfl⟩
theorem ne_zero {a : QX} : a ≠ 0 ↔ a.p ≠ [] := ⟨fun h z => h (QX.ext' (by rw [qx_zero]; exact z)), fun h z => h (by rw [z]; exact qx_zero)⟩
theorem cmul_top : ∀ {p q : Poly}, p ≠ [] → q ≠ [] → cmul p q (p.length + q.length - 2) = lc p * lc q
  | [], _, h, _ => absurd rfl h
  | [a], q, _, hq => by
    have : 0 < q.length := List.length_pos_iff.mpr hq
    show cmul [a] q (1 + q.length - 2) = a * lc q
    rw [show 1 + q.length - 2 = q.length - 1 by omega]
    unfold lc
    show a * coef q (q.length - 1) + _ = _
    cases q.length - 1 with
    | zero => exact Rat.add_zero _
    | succ k => exact Rat.add_zero _
  | a :: b :: p, q, _, hq => by
    have : 0 < q.length := List.length_pos_iff.mpr hq
    have ih := cmul_top (p := b :: p) (q := q) (by simp) hq
    have e : (a :: b :: p).length + q.length - 2 = ((b :: p).length + q.length - 2) + 1 := by
      simp only [List.length_cons]
      omega
    rw [e]
    show a * coef q ((b :: p).length + q.length - 2 + 1) + cmul (b :: p) q ((b :: p).length + q.length - 2) = _
    rw [ih, coef_out (p := q) (by simp only [List.length_cons]; omega), Rat.mul_zero, Rat.zero_add]
    congr 1
theorem pmul_top {p q : Poly} (hp : Own p) (hq : Own q) (h1 : p ≠ []) (h2 : q ≠ []) : (pmul p q).length = p.length + q.length - 1 ∧ lc (pmul p q) = lc p * lc q := by
  have e1 : 0 < p.length := List.length_pos_iff.mpr h1
  have e2 : 0 < q.length := List.length_pos_iff.mpr h2
  have hle := pmul_len p q
  have ht : coef (pmul p q) (p.length + q.length - 2) = lc p * lc q := by rw [coef_pmul, cmul_top h1 h2]
  have hne : lc p * lc q ≠ 0 := fun z => by
    rcases Rat.mul_eq_zero.mp z with z | z
    · exact lc_ne hp h1 z
    · exact lc_ne hq h2 z
  have hl : (pmul p q).length = p.length + q.length - 1 := by
    refine Nat.le_antisymm hle (Nat.le_of_not_lt fun z => hne ?_)
    rw [← ht, coef_out (by omega)]
  refine ⟨hl, ?_⟩
  show coef (pmul p q) ((pmul p q).length - 1) = _
  rw [hl, show p.length + q.length - 1 - 1 = p.length + q.length - 2 by omega, ht]
theorem len_mul {a b : QX} (h1 : a ≠ 0) (h2 : b ≠ 0) : (a * b).len = a.len + b.len - 1 := (pmul_top a.own b.own (ne_zero.mp h1) (ne_zero.mp h2)).1
theorem lc_mul {a b : QX} (h1 : a ≠ 0) (h2 : b ≠ 0) : lc (a * b).p = lc a.p * lc b.p := (pmul_top a.own b.own (ne_zero.mp h1) (ne_zero.mp h2)).2
theorem mul_ne {a b : QX} (h1 : a ≠ 0) (h2 : b ≠ 0) : a * b ≠ 0 := fun z => by
  have h := len_mul h1 h2
  have e1 : a.len ≠ 0 := fun q => h1 (len_zero.mp q)
  have e2 : b.len ≠ 0 := fun q => h2 (len_zero.mp q)
  rw [z, len_zero.mpr rfl] at h
  omega
theorem mul_zero' {a b : QX} (h : a * b = 0) : a = 0 ∨ b = 0 := by
  by_cases h1 : a = 0
  · exact .inl h1
  · by_cases h2 : b = 0
    · exact .inr h2
    · exact absurd h (mul_ne h1 h2)
theorem mul_cancel {a b c : QX} (h : a ≠ 0) (e : a * b = a * c) : b = c := by
  have z : a * (b - c) = 0 := by grind
  rcases mul_zero' z with z | z
  · exact absurd z h
  · grind
theorem len_add (a b : QX) : (a + b).len ≤ max a.len b.len := padd_len _ _
theorem pos_len {a : QX} (h : a ≠ 0) : 0 < a.len := Nat.pos_of_ne_zero fun z => h (len_zero.mp z)
/-! ### divisors -/
def QX.dvd (a b : QX) : Prop := ∃ c, b = a * c
theorem dvd_refl (a : QX) : a.dvd a := ⟨1, by grind⟩
theorem dvd_trans {a b c : QX} (h : a.dvd b) (k : b.dvd c) : a.dvd c := by
  obtain ⟨x, rfl⟩ := h
  obtain ⟨y, rfl⟩ := k
  exact ⟨x * y, by grind⟩
theorem dvd_zero (a : QX) : a.dvd 0 := ⟨0, by grind⟩
theorem dvd_add {a b c : QX} (h : a.dvd b) (k : a.dvd c) : a.dvd (b + c) := by
  obtain ⟨x, rfl⟩ := h
  obtain ⟨y, rfl⟩ := k
  exact ⟨x + y, by grind⟩
theorem dvd_mul {a b : QX} (c : QX) (h : a.dvd b) : a.dvd (c * b) := by
  obtain ⟨x, rfl⟩ := h
  exact ⟨c * x, by grind⟩
theorem dvd_len {a b : QX} (h : a.dvd b) (hb : b ≠ 0) : a.len ≤ b.len := by
  obtain ⟨x, rfl⟩ := h
  have ha : a ≠ 0 := fun z => hb (by rw [z]; grind)
  have hx : x ≠ 0 := fun z => hb (by rw [z]; grind)
  rw [len_mul ha hx]
  have := pos_len hx
  omega
/-- a number's polynomial -/
theorem C_ne {c : Rat} (h : c ≠ 0) : QX.C c ≠ 0 := fun z => h (by
  have := coef_C c 0
  rw [z, qx_zero, coef_nil, if_pos rfl] at this
  exact this.symm)
theorem len_one {a : QX} (h : a.len = 1) : a = QX.C (lc a.p) := QX.extC fun i => by
  rw [coef_C]
  have hl : a.p.length = 1 := h
  split
  · rename_i e
    rw [e]
    unfold lc
    rw [hl]
  · rw [coef_out (by omega)]
theorem len_C {c : Rat} (h : c ≠ 0) : (QX.C c).len = 1 := by
  have h1 := pos_len (C_ne h)
  have h2 : (QX.C c).len ≤ 1 := trim_len [c]
  omega
theorem len_Cmul {c : Rat} (h : c ≠ 0) (a : QX) : (QX.C c * a).len = a.len := by
  by_cases ha : a = 0
  · rw [ha, show QX.C c * 0 = (0 : QX) by grind]
  · rw [len_mul (C_ne h) ha, len_C h]
    omega
/-- two that divide one another, both with the last fraction 1 -/
def Monic (a : QX) : Prop := a ≠ 0 ∧ lc a.p = 1
theorem dvd_anti {a b : QX} (ha : Monic a) (hb : Monic b) (h : a.dvd b) (k : b.dvd a) : a = b := by
  obtain ⟨x, e⟩ := h
  have hx : x ≠ 0 := fun z => hb.1 (by rw [e, z]; grind)
  have h1 := dvd_len k ha.1
  have h2 := len_mul ha.1 hx
  rw [← e] at h2
  have h3 := pos_len hx
  have h4 := pos_len ha.1
  have hx1 : x.len = 1 := by omega
  have h5 := lc_mul ha.1 hx
  rw [← e, hb.2, ha.2, Rat.one_mul] at h5
  rw [e, len_one hx1, ← h5]
  show a = a * QX.C 1
  have : QX.C 1 = 1 := rfl
  rw [this]
  grind
end An

/-! Division, common parts, sizes over one denominator. -/
namespace An
open PySem
def mono (k : Nat) (c : Rat) : QX := ⟨trim (List.replicate k 0 ++ [c]), own_trim _⟩
theorem coef_shift (k : Nat) (p : Poly) (i : Nat) : coef (List.replicate k 0 ++ p) i = if i < k then 0 else coef p (i - k) := by
  induction k generalizing i with
  | zero => rfl
  | succ k ih =>
    rw [List.replicate_succ, List.cons_append]
    cases i with
    | zero => rw [coef_zero, if_pos (Nat.succ_pos k)]
    | succ i =>
      rw [coef_succ, ih i]
      by_cases h : i < k
      · rw [if_pos h, if_pos (by omega)]
      · rw [if_neg h, if_neg (by omega), show i + 1 - (k + 1) = i - k by omega]
theorem coef_mono (k : Nat) (c : Rat) (i : Nat) : coef (mono k c).p i = if i = k then c else 0 := by
  show coef (trim _) i = _
  rw [coef_trim, coef_shift]
  by_cases h : i < k
  · rw [if_pos h, if_neg (by omega)]
  · rw [if_neg h]
    by_cases e : i = k
    · rw [if_pos e, e, Nat.sub_self]
      rfl
    · rw [if_neg e, coef_out (by show 1 ≤ i - k; omega)]
theorem act_shift (k : Nat) (c : Rat) (g : Nat → Rat) (i : Nat) : act (List.replicate k 0 ++ [c]) g i = if i < k then 0 else c * g (i - k) := by
  induction k generalizing i with
  | zero =>
    show c * g i + sft (fun _ => 0) i = c * g i
    cases i <;> exact Rat.add_zero _
  | succ k ih =>
    rw [List.replicate_succ, List.cons_append]
    show 0 * g i + sft (act (List.replicate k 0 ++ [c]) g) i = _
    rw [Rat.zero_mul, Rat.zero_add]
    cases i with
    | zero => rw [if_pos (Nat.succ_pos k)]; rfl
    | succ i =>
      show act (List.replicate k 0 ++ [c]) g i = _
      rw [ih i]
      by_cases h : i < k
      · rw [if_pos h, if_pos (by omega)]
      · rw [if_neg h, if_neg (by omega), show i + 1 - (k + 1) = i - k by omega]
theorem act_trim (p q : Poly) : act (trim p) (coef q) = act p (coef q) := by
  rw [← act_uno q, act_comm (trim p), act_comm p, act_uno, act_uno]
  congr 1
  exact funext fun i => coef_trim p i
theorem coef_mono_mul (k : Nat) (c : Rat) (o : QX) (i : Nat) : coef (mono k c * o).p i = if i < k then 0 else c * coef o.p (i - k) := by
  show coef (pmul (trim _) o.p) i = _
  rw [coef_act, act_trim, act_shift]
/-! ### one step of a division -/
def dst (r o : QX) : QX := r - mono (r.len - o.len) (lc r.p / lc o.p) * o
/-- as the program does it -/
theorem dst_made (r o : QX) : padd r.p (pscale (List.replicate (r.p.length - o.p.length) 0 ++ pscale o.p (lc r.p / lc o.p)) (-1)) = (dst r o).p := own_ext (own_padd _ _) (dst r o).own fun i => by
  unfold dst
  rw [coef_sub, coef_mono_mul, coef_padd, coef_pscale, coef_shift, show r.len = r.p.length from rfl, show o.len = o.p.length from rfl]
  by_cases h : i < r.p.length - o.p.length
  · rw [if_pos h, if_pos h]
    grind
  · rw [if_neg h, if_neg h, coef_pscale]
    show _ = coef r.p i - lc r.p / lc o.p * coef o.p (i - (r.p.length - o.p.length))
    grind
theorem dst_len {r o : QX} (ho : o ≠ 0) (h : o.len ≤ r.len) : (dst r o).len < r.len := by
  have h1 := pos_len ho
  have hl : (dst r o).len ≤ r.len - 1 := own_len (dst r o).own fun i hi => by
    unfold dst
    rw [coef_sub, coef_mono_mul, if_neg (by omega)]
    have e1 : r.p.length = r.len := rfl
    have e2 : o.p.length = o.len := rfl
    by_cases e : i = r.len - 1
    · rw [e, show r.len - 1 - (r.len - o.len) = o.len - 1 by omega]
      show lc r.p - lc r.p / lc o.p * lc o.p = 0
      rw [Rat.div_mul_cancel (lc_ne o.own (ne_zero.mp ho)), Rat.sub_self]
    · rw [coef_out (p := r.p) (by omega), coef_out (p := o.p) (by omega), Rat.mul_zero]
      grind
  omega
def qdm : Nat → QX → QX → QX → QX × QX
  | 0, q, r, _ => (q, r)
  | n + 1, q, r, o => if r.len < o.len then (q, r) else qdm n (q + mono (r.len - o.len) (lc r.p / lc o.p)) (dst r o) o
def qquo (a o : QX) : QX := (qdm a.len 0 a o).1
def qrem (a o : QX) : QX := (qdm a.len 0 a o).2
theorem qdm_ok {a o : QX} (ho : o ≠ 0) : ∀ (n : Nat) (q r : QX), r.len ≤ n → a = q * o + r → a = (qdm n q r o).1 * o + (qdm n q r o).2 ∧ (qdm n q r o).2.len < o.len
  | 0, q, r, h, e => ⟨e, by have := pos_len ho; show r.len < _; omega⟩
  | n + 1, q, r, h, e => by
    unfold qdm
    by_cases hl : r.len < o.len
    · rw [if_pos hl]
      exact ⟨e, hl⟩
    · rw [if_neg hl]
      have hd := dst_len ho (Nat.le_of_not_lt hl)
      refine qdm_ok ho n _ _ (by omega) ?_
      unfold dst
      grind
theorem qdiv_ok {a o : QX} (ho : o ≠ 0) : a = qquo a o * o + qrem a o ∧ (qrem a o).len < o.len := qdm_ok ho a.len 0 a (Nat.le_refl _) (by grind)
theorem div_uniq {o q q' r r' : QX} (ho : o ≠ 0) (e : q * o + r = q' * o + r') (h1 : r.len < o.len) (h2 : r'.len < o.len) : q = q' ∧ r = r' := by
  have z : (q - q') * o = r' - r := by grind
  by_cases hq : q - q' = 0
  · have h3 : q = q' := by grind
    subst h3
    exact ⟨rfl, by grind⟩
  · have h3 := len_mul hq ho
    have h4 := pos_len hq
    have h5 : (r' - r).len ≤ max r'.len r.len := by
      refine Nat.le_trans (padd_len _ _) ?_
      have := pscale_len r.p (-1)
      have e1 : r.p.length = r.len := rfl
      have e2 : r'.p.length = r'.len := rfl
      omega
    rw [← z, h3] at h5
    omega
theorem qrem_small {a o : QX} (ho : o ≠ 0) (h : a.len < o.len) : qrem a o = a := by
  obtain ⟨h1, h2⟩ := qdiv_ok (a := a) ho
  exact (div_uniq (q := qquo a o) (q' := 0) ho (by grind) h2 h).2
theorem qrem_dvd {a o : QX} (ho : o ≠ 0) : qrem a o = 0 ↔ o.dvd a := by
  obtain ⟨h1, h2⟩ := qdiv_ok (a := a) ho
  constructor
  · intro h
    exact ⟨qquo a o, by grind⟩
  · rintro ⟨c, e⟩
    have h0 : (0 : QX).len = 0 := len_zero.mpr rfl
    have := pos_len ho
    exact (div_uniq (q := qquo a o) (q' := c) (r' := 0) ho (by grind) h2 (by omega)).2
/-! ### common parts -/
def qgcd : Nat → QX → QX → QX
  | 0, a, _ => a
  | n + 1, a, b => if b.len = 0 then a else qgcd n b (qrem a b)
theorem qgcd_ok {x y : QX} : ∀ (n : Nat) (a b : QX), b.len ≤ n → (∃ u v, a = u * x + v * y) → (∃ u v, b = u * x + v * y) → (∀ d : QX, d.dvd a → d.dvd b → d.dvd x ∧ d.dvd y) → (a ≠ 0 ∨ b ≠ 0) →
    (qgcd n a b).dvd x ∧ (qgcd n a b).dvd y ∧ (∃ u v, qgcd n a b = u * x + v * y) ∧ qgcd n a b ≠ 0
  | 0, a, b, h, ha, hb, hd, hn => by
    have h0 : b = 0 := len_zero.mp (by omega)
    subst h0
    obtain ⟨d1, d2⟩ := hd a (dvd_refl a) (dvd_zero a)
    exact ⟨d1, d2, ha, hn.elim id fun z => absurd rfl z⟩
  | n + 1, a, b, h, ha, hb, hd, hn => by
    unfold qgcd
    by_cases h0 : b.len = 0
    · rw [if_pos h0]
      have h0 : b = 0 := len_zero.mp h0
      subst h0
      obtain ⟨d1, d2⟩ := hd a (dvd_refl a) (dvd_zero a)
      exact ⟨d1, d2, ha, hn.elim id fun z => absurd rfl z⟩
    · rw [if_neg h0]
      have hb0 : b ≠ 0 := fun z => h0 (len_zero.mpr z)
      obtain ⟨e, hl⟩ := qdiv_ok (a := a) hb0
      refine qgcd_ok n b (qrem a b) (by omega) hb ?_ (fun d d1 d2 => hd d ?_ d1) (.inl hb0)
      · obtain ⟨u, v, e1⟩ := ha
        obtain ⟨u', v', e2⟩ := hb
        exact ⟨u - qquo a b * u', v - qquo a b * v', by grind⟩
      · rw [e]
        exact dvd_add (dvd_mul _ d1) d2
/-- the last fraction made 1 -/
def qmon (a : QX) : QX := ⟨pscale a.p (1 / lc a.p), own_pscale _ _⟩
theorem qmon_eq (a : QX) : qmon a = QX.C (1 / lc a.p) * a := QX.extC fun i => by
  rw [coef_Cmul]
  show coef (pscale _ _) i = _
  rw [coef_pscale, Rat.mul_comm]
theorem inv_ne {c : Rat} (h : c ≠ 0) : 1 / c ≠ 0 := fun z => by
  have := Rat.div_mul_cancel (a := 1) h
  rw [z, Rat.zero_mul] at this
  exact absurd this (by decide)
theorem lc_Cmul {c : Rat} (h : c ≠ 0) {a : QX} (ha : a ≠ 0) : lc (QX.C c * a).p = c * lc a.p := by
  unfold lc
  have := len_Cmul h a
  rw [show (QX.C c * a).p.length = a.p.length from this, coef_Cmul]
theorem qmon_monic {a : QX} (ha : a ≠ 0) : Monic (qmon a) := by
  have hl := lc_ne a.own (ne_zero.mp ha)
  rw [qmon_eq]
  refine ⟨mul_ne (C_ne (inv_ne hl)) ha, ?_⟩
  rw [lc_Cmul (inv_ne hl) ha, Rat.div_mul_cancel hl]
theorem qmon_dvd {a b : QX} (ha : a ≠ 0) (h : a.dvd b) : (qmon a).dvd b := by
  have hl := lc_ne a.own (ne_zero.mp ha)
  obtain ⟨c, rfl⟩ := h
  refine ⟨QX.C (lc a.p) * c, ?_⟩
  have e : QX.C (1 / lc a.p) * QX.C (lc a.p) = 1 := by
    rw [← C_mul, Rat.div_mul_cancel hl]
    rfl
  rw [qmon_eq]
  grind
def qsh (a b : QX) : QX := qmon (qgcd b.len a b)
theorem qsh_ok {a b : QX} (h : a ≠ 0 ∨ b ≠ 0) : (qsh a b).dvd a ∧ (qsh a b).dvd b ∧ (∃ u v, qsh a b = u * a + v * b) ∧ Monic (qsh a b) := by
  obtain ⟨h1, h2, ⟨u, v, h3⟩, h4⟩ := qgcd_ok (x := a) (y := b) b.len a b (Nat.le_refl _) ⟨1, 0, by grind⟩ ⟨0, 1, by grind⟩ (fun d d1 d2 => ⟨d1, d2⟩) h
  refine ⟨qmon_dvd h4 h1, qmon_dvd h4 h2, ⟨QX.C (1 / lc (qgcd b.len a b).p) * u, QX.C (1 / lc (qgcd b.len a b).p) * v, ?_⟩, qmon_monic h4⟩
  show qmon _ = _
  rw [qmon_eq]
  grind
/-- the common part, by what it is -/
theorem qsh_uniq {a b g : QX} (h : a ≠ 0 ∨ b ≠ 0) (h1 : g.dvd a) (h2 : g.dvd b) (h3 : ∀ d : QX, d.dvd a → d.dvd b → d.dvd g) (h4 : Monic g) : qsh a b = g := by
  obtain ⟨k1, k2, ⟨u, v, e⟩, k4⟩ := qsh_ok h
  refine dvd_anti k4 h4 (h3 _ k1 k2) ?_
  rw [e]
  exact dvd_add (dvd_mul _ h1) (dvd_mul _ h2)
theorem qsh_dvd {a b d : QX} (h : a ≠ 0 ∨ b ≠ 0) (h1 : d.dvd a) (h2 : d.dvd b) : d.dvd (qsh a b) := by
  obtain ⟨k1, k2, ⟨u, v, e⟩, k4⟩ := qsh_ok h
  rw [e]
  exact dvd_add (dvd_mul _ h1) (dvd_mul _ h2)
theorem qsh_comm {a b : QX} (h : a ≠ 0 ∨ b ≠ 0) : qsh a b = qsh b a := by
  obtain ⟨k1, k2, k3, k4⟩ := qsh_ok h.symm
  exact qsh_uniq h k2 k1 (fun d d1 d2 => qsh_dvd h.symm d2 d1) k4
/-! ### sizes over one denominator -/
def CZ (n : Nat) (p : Poly) : Prop := ∃ d : Int, d ≠ 0 ∧ d.natAbs < 2 ^ n ∧ ∀ i, ∃ t : Int, t.natAbs < 2 ^ n ∧ coef p i * (d : Rat) = (t : Rat)
theorem CZ.mono {n m : Nat} {p : Poly} (h : CZ n p) (k : n ≤ m) : CZ m p := by
  obtain ⟨d, h0, h1, h2⟩ := h
  have e : 2 ^ n ≤ 2 ^ m := Nat.pow_le_pow_right (by decide) k
  exact ⟨d, h0, Nat.lt_of_lt_of_le h1 e, fun i => by
    obtain ⟨t, t1, t2⟩ := h2 i
    exact ⟨t, Nat.lt_of_lt_of_le t1 e, t2⟩⟩
theorem CZ.pos {n : Nat} {p : Poly} (h : CZ n p) : 0 < n := by
  obtain ⟨d, h0, h1, _⟩ := h
  cases n with
  | zero => simp at h1; omega
  | succ n => omega
theorem rz_quot {n : Nat} {t d : Int} {a : Rat} (h0 : d ≠ 0) (h1 : d.natAbs < 2 ^ n) (h2 : t.natAbs < 2 ^ n) (e : a * (d : Rat) = (t : Rat)) : Rz n a := by
  have hd : (d : Rat) ≠ 0 := fun z => h0 (Rat.intCast_eq_zero_iff.mp z)
  have e2 : a = (t : Rat) / (d : Rat) := by
    rw [← e, Rat.mul_div_cancel hd]
  rw [e2, ← Rat.divInt_eq_div]
  rcases Int.lt_or_gt_of_ne h0 with hz | hz
  · have : Rat.divInt t d = mkRat (-t) d.natAbs := by
      rw [← Rat.divInt_ofNat, ← Rat.neg_divInt_neg t d]
      congr 1
      omega
    rw [this]
    exact Rz.mk (by omega) (by omega) (by omega)
  · have : Rat.divInt t d = mkRat t d.natAbs := by
      rw [← Rat.divInt_ofNat]
      congr 1
      omega
    rw [this]
    exact Rz.mk (by omega) (by omega) (by omega)
theorem CZ.pz {n : Nat} {p : Poly} (h : CZ n p) : PZ n p := fun a ha => by
  obtain ⟨d, h0, h1, h2⟩ := h
  obtain ⟨i, hi, rfl⟩ := List.getElem_of_mem ha
  obtain ⟨t, t1, t2⟩ := h2 i
  rw [coef_in hi] at t2
  exact rz_quot h0 h1 t1 t2
theorem CZ.rz {n : Nat} {p : Poly} (h : CZ n p) (i : Nat) : Rz n (coef p i) := h.pz.coef h.pos i
theorem natAbs_mul_lt {a b : Int} {n m : Nat} (ha : a.natAbs < 2 ^ n) (hb : b.natAbs < 2 ^ m) : (a * b).natAbs < 2 ^ (n + m) := by
  rw [Int.natAbs_mul]
  exact nat_mul_lt ha hb
theorem cz_dst {r o : QX} {n m : Nat} (ho : o ≠ 0) (h1 : CZ n r.p) (h2 : CZ m o.p) : CZ (n + m + 1) (dst r o).p := by
  obtain ⟨d, d0, d1, hd⟩ := h1
  obtain ⟨e, e0, e1, he⟩ := h2
  obtain ⟨a, a1, a2⟩ := hd (r.p.length - 1)
  obtain ⟨b, b1, b2⟩ := he (o.p.length - 1)
  have hlo : lc o.p ≠ 0 := lc_ne o.own (ne_zero.mp ho)
  have hb0 : b ≠ 0 := fun z => by
    rw [z] at b2
    have b2 : lc o.p * (e : Rat) = ((0 : Int) : Rat) := b2
    rcases Rat.mul_eq_zero.mp (b2.trans Rat.intCast_zero) with q | q
    · exact hlo q
    · exact e0 (Rat.intCast_eq_zero_iff.mp q)
  have pw : 2 ^ (n + m + 1) = 2 ^ (n + m) + 2 ^ (n + m) := by rw [Nat.pow_succ]; omega
  refine ⟨d * b, Int.mul_ne_zero d0 hb0, by have := natAbs_mul_lt d1 b1; omega, fun i => ?_⟩
  unfold dst
  rw [coef_sub, coef_mono_mul]
  obtain ⟨x, x1, x2⟩ := hd i
  by_cases hi : i < r.len - o.len
  · rw [if_pos hi]
    refine ⟨x * b, by have := natAbs_mul_lt x1 b1; omega, ?_⟩
    rw [Rat.intCast_mul, Rat.intCast_mul, ← x2]
    grind
  · rw [if_neg hi]
    obtain ⟨y, y1, y2⟩ := he (i - (r.len - o.len))
    refine ⟨x * b - a * y, ?_, ?_⟩
    · have q1 := natAbs_mul_lt x1 b1
      have q2 := natAbs_mul_lt a1 y1
      omega
    · have b2 : lc o.p * (e : Rat) = (b : Rat) := b2
      have a2 : lc r.p * (d : Rat) = (a : Rat) := a2
      rw [Rat.intCast_mul, Rat.intCast_sub, Rat.intCast_mul, Rat.intCast_mul, ← x2, ← y2, ← a2, ← b2]
      have q : lc r.p / lc o.p * lc o.p = lc r.p := Rat.div_mul_cancel hlo
      generalize lc r.p / lc o.p = t at q ⊢
      rw [← q]
      grind
theorem cz_qdm {a o : QX} {n m : Nat} (ho : o ≠ 0) (h2 : CZ m o.p) : ∀ (k : Nat) (q r : QX), r.len ≤ k → r.len ≤ a.len → CZ (n + (a.len - max r.len (o.len - 1)) * (m + 1)) r.p → CZ (n + (a.len - (o.len - 1)) * (m + 1)) (qdm k q r o).2.p
  | 0, q, r, h, hle, hc => hc.mono (Nat.add_le_add_left (Nat.mul_le_mul_right _ (by omega)) _)
  | k + 1, q, r, h, hle, hc => by
    unfold qdm
    by_cases hl : r.len < o.len
    · rw [if_pos hl]
      exact hc.mono (Nat.add_le_add_left (Nat.mul_le_mul_right _ (by omega)) _)
    · rw [if_neg hl]
      have hd := dst_len ho (Nat.le_of_not_lt hl)
      refine cz_qdm ho h2 k _ _ (by omega) (by omega) ((cz_dst ho hc h2).mono ?_)
      have : (a.len - max r.len (o.len - 1)) + 1 ≤ a.len - max (dst r o).len (o.len - 1) := by omega
      have := Nat.mul_le_mul_right (m + 1) this
      rw [Nat.succ_mul] at this
      omega
theorem cz_qrem {a o : QX} {n m : Nat} (ho : o ≠ 0) (h1 : CZ n a.p) (h2 : CZ m o.p) : CZ (n + (a.len - (o.len - 1)) * (m + 1)) (qrem a o).p :=
  cz_qdm ho h2 a.len 0 a (Nat.le_refl _) (Nat.le_refl _) (h1.mono (Nat.le_add_right _ _))
theorem cz_qmon {a : QX} {n : Nat} (ha : a ≠ 0) (h : CZ n a.p) : CZ n (qmon a).p := by
  obtain ⟨d, d0, d1, hd⟩ := h
  obtain ⟨b, b1, b2⟩ := hd (a.p.length - 1)
  have b2 : lc a.p * (d : Rat) = (b : Rat) := b2
  have hl := lc_ne a.own (ne_zero.mp ha)
  have hb0 : b ≠ 0 := fun z => by
    rw [z] at b2
    rcases Rat.mul_eq_zero.mp (b2.trans Rat.intCast_zero) with q | q
    · exact hl q
    · exact d0 (Rat.intCast_eq_zero_iff.mp q)
  refine ⟨b, hb0, b1, fun i => ?_⟩
  obtain ⟨t, t1, t2⟩ := hd i
  refine ⟨t, t1, ?_⟩
  show coef (pscale _ _) i * _ = _
  rw [coef_pscale, ← b2, ← t2]
  have q : 1 / lc a.p * lc a.p = 1 := Rat.div_mul_cancel hl
  generalize 1 / lc a.p = u at q ⊢
  grind
end An

/-! What division and common parts bring, by data. -/
namespace An
open PySem PySem.Spec PyProof.Rows L2
theorem isPo_ok {p : Poly} (h1 : p.length ≤ 13) (h2 : Own p) : isPo (eP p) = true := by
  rw [isPo_eP, decide_eq_true h1, decide_eq_true h2]
  rfl
theorem eP_inj {p q : Poly} (h : eP p = eP q) : p = q := by
  have : PyData.eqv (eP p) (eP q) = true := by
    rw [h, eqv_eP]
    exact decide_eq_true rfl
  rw [eqv_eP] at this
  exact of_decide_eq_true this
theorem ix_last {p : Poly} (h : p ≠ []) : ixD (eP p) (-1) = some (eF (lc p)) := by
  have hpos : 0 < p.length := List.length_pos_iff.mpr h
  show atI (p.map eF) (-1) = _
  unfold atI ixN lc
  rw [List.length_map, if_neg (by decide), if_pos (by omega)]
  show (p.map eF)[(-1 + (p.length : Int)).toNat]? = _
  rw [show (-1 + (p.length : Int)).toNat = p.length - 1 by omega, List.getElem?_map, List.getElem?_eq_getElem (by omega), coef_in (by omega)]
  rfl
def vOver (ds : List D) (d : D) : Prop := ∃ (a b : Rat) (n m : Nat), ds = [eF a, eF b] ∧ b ≠ 0 ∧ Rz n a ∧ Rz m b ∧ n + m ≤ LIM ∧ d = eF (a / b)
def vOff (ds : List D) (d : D) : Prop := ∃ (p q : Poly) (n m : Nat), ds = [eP p, eP q] ∧ PZ n p ∧ PZ m q ∧ 0 < n ∧ 0 < m ∧ n + m + 1 ≤ LIM ∧ p.length ≤ 1000 ∧ q.length ≤ 1000 ∧ d = eP (padd p (pscale q (-1)))
def vPart (ds : List D) (d : D) : Prop := ∃ (a o : QX) (n m : Nat), ds = [eP a.p, eP o.p] ∧ o ≠ 0 ∧ CZ n a.p ∧ CZ m o.p ∧ a.len ≤ 100 ∧ o.len ≤ 100 ∧ 2 * (n + (a.len + 1) * (m + 1)) + 2 * m + 2 ≤ LIM ∧ d = .tuple [eP (qquo a o).p, eP (qrem a o).p]
theorem div_num (a b : Rat) : Rat.divInt (a.num * (b.den : Int)) ((a.den : Int) * b.num) = a / b := by
  rw [Rat.div_def, Rat.inv_def, ← Rat.divInt_mul_divInt, Rat.num_divInt_den]
/-! ### sizes along a common part -/
theorem gz_two : ∀ d : Nat, 1 ≤ d → 5 * 2 ^ d ≤ 2 * 5 ^ d ∧ (5 * d + 7) * 2 ^ d ≤ 5 * 5 ^ d
  | 0, h => by omega
  | 1, _ => by decide
  | d + 2, _ => by
    obtain ⟨h1, h2⟩ := gz_two (d + 1) (by omega)
    rw [Nat.pow_succ 2 (d + 1), Nat.pow_succ 5 (d + 1)]
    refine ⟨by omega, ?_⟩
    have e : (5 * (d + 2) + 7) * (2 ^ (d + 1) * 2) = (5 * (d + 1) + 7) * 2 ^ (d + 1) * 2 + 10 * 2 ^ (d + 1) := by
      have : (5 * (d + 2) + 7) = (5 * (d + 1) + 7) + 5 := by omega
      rw [this, Nat.add_mul, Nat.mul_assoc]
      omega
    have h3 : 10 * 2 ^ (d + 1) ≤ (5 * (d + 1) + 7) * 2 ^ (d + 1) := Nat.mul_le_mul_right _ (by omega)
    omega
/-- how great the sizes get, ahead of the pair (a, b) -/
structure GZ (N : Nat) (a b : QX) : Prop where
  z : ∃ n m, CZ n a.p ∧ CZ m b.p ∧ (2 * (n + 1) + 5 * (m + 1)) * 5 ^ a.len ≤ N * 2 ^ a.len ∧ b.len < a.len
theorem GZ.next {N : Nat} {a b : QX} (h : GZ N a b) (hb : b ≠ 0) : GZ N b (qrem a b) := by
  obtain ⟨n, m, h1, h2, h3, h4⟩ := h.z
  have hr := (qdiv_ok (a := a) hb).2
  refine ⟨m, n + (a.len - (b.len - 1)) * (m + 1), h2, cz_qrem hb h1 h2, ?_, hr⟩
  have hp := pos_len hb
  have e : a.len - (b.len - 1) = (a.len - b.len) + 1 := by omega
  generalize hd : a.len - b.len = d at e
  have hd1 : 1 ≤ d := by omega
  rw [e]
  obtain ⟨g1, g2⟩ := gz_two d hd1
  have ea : a.len = b.len + d := by omega
  rw [ea, Nat.pow_add, Nat.pow_add] at h3
  have k1 : (2 * (m + 1) + 5 * (n + (d + 1) * (m + 1) + 1)) * 2 ^ d ≤ (2 * (n + 1) + 5 * (m + 1)) * 5 ^ d := by
    have q1 : (5 * (n + 1)) * 2 ^ d ≤ (2 * (n + 1)) * 5 ^ d := by
      have := Nat.mul_le_mul_left (n + 1) g1
      rw [Nat.mul_comm 5, Nat.mul_assoc, Nat.mul_comm 2 (n + 1), Nat.mul_assoc]
      exact this
    have q2 : ((5 * d + 7) * (m + 1)) * 2 ^ d ≤ (5 * (m + 1)) * 5 ^ d := by
      have := Nat.mul_le_mul_left (m + 1) g2
      rw [Nat.mul_comm (5 * d + 7), Nat.mul_assoc, Nat.mul_comm 5 (m + 1), Nat.mul_assoc]
      exact this
    have e1 : 2 * (m + 1) + 5 * (n + (d + 1) * (m + 1) + 1) = 5 * (n + 1) + (5 * d + 7) * (m + 1) := by
      have h5 : (5 * d + 7) * (m + 1) = 5 * (d * (m + 1)) + 7 * (m + 1) := by rw [Nat.add_mul, Nat.mul_assoc]
      have h6 : (d + 1) * (m + 1) = d * (m + 1) + (m + 1) := Nat.succ_mul _ _
      rw [h5, h6]
      omega
    have q3 := Nat.add_le_add q1 q2
    rw [← Nat.add_mul, ← Nat.add_mul] at q3
    rw [e1]
    exact q3
  refine Nat.le_of_mul_le_mul_right (c := 2 ^ d) ?_ (Nat.pow_pos (by decide))
  calc (2 * (m + 1) + 5 * (n + (d + 1) * (m + 1) + 1)) * 5 ^ b.len * 2 ^ d = (2 * (m + 1) + 5 * (n + (d + 1) * (m + 1) + 1)) * 2 ^ d * 5 ^ b.len := by rw [Nat.mul_right_comm]
    _ ≤ (2 * (n + 1) + 5 * (m + 1)) * 5 ^ d * 5 ^ b.len := Nat.mul_le_mul_right _ k1
    _ = (2 * (n + 1) + 5 * (m + 1)) * (5 ^ b.len * 5 ^ d) := by rw [Nat.mul_assoc, Nat.mul_comm (5 ^ d)]
    _ ≤ N * (2 ^ b.len * 2 ^ d) := h3
    _ = N * 2 ^ b.len * 2 ^ d := by rw [Nat.mul_assoc]
theorem GZ.sz {N : Nat} {a b : QX} (h : GZ N a b) : CZ (N / 2) a.p ∧ CZ (N / 2) b.p := by
  obtain ⟨n, m, h1, h2, h3, h4⟩ := h.z
  have hle : N * 2 ^ a.len ≤ N * 5 ^ a.len := Nat.mul_le_mul_left _ (Nat.pow_le_pow_left (by decide) _)
  have hW : 2 * (n + 1) + 5 * (m + 1) ≤ N := Nat.le_of_mul_le_mul_right (Nat.le_trans h3 hle) (Nat.pow_pos (by decide))
  exact ⟨h1.mono (by omega), h2.mono (by omega)⟩
/-- the greatest size, of two of n bits and L fractions -/
def gz (n L : Nat) : Nat := 12 * (n + 1) * 5 ^ L / 2 ^ L + 1
theorem gz_ok (n L : Nat) : 12 * (n + 1) * 5 ^ L ≤ gz n L * 2 ^ L := by
  unfold gz
  generalize 12 * (n + 1) * 5 ^ L = x
  have h := Nat.lt_div_mul_add (a := x) (b := 2 ^ L) (Nat.pow_pos (by decide))
  rw [Nat.add_mul, Nat.one_mul]
  exact Nat.le_of_lt h
theorem gz_at {n L l W : Nat} (hl : l ≤ L) (hW : W ≤ 12 * (n + 1)) : W * 5 ^ l ≤ gz n L * 2 ^ l := by
  have h0 := gz_ok n L
  obtain ⟨k, rfl⟩ : ∃ k, L = l + k := ⟨L - l, by omega⟩
  refine Nat.le_of_mul_le_mul_right (c := 5 ^ k) ?_ (Nat.pow_pos (by decide))
  calc W * 5 ^ l * 5 ^ k = W * 5 ^ (l + k) := by rw [Nat.mul_assoc, Nat.pow_add]
    _ ≤ 12 * (n + 1) * 5 ^ (l + k) := Nat.mul_le_mul_right _ hW
    _ ≤ gz n (l + k) * 2 ^ (l + k) := h0
    _ = gz n (l + k) * 2 ^ l * 2 ^ k := by rw [Nat.pow_add, Nat.mul_assoc]
    _ ≤ gz n (l + k) * 2 ^ l * 5 ^ k := Nat.mul_le_mul_left _ (Nat.pow_le_pow_left (by decide) _)
theorem gz_n (n L : Nat) : n + 1 ≤ gz n L / 2 := by
  have h := gz_at (n := n) (L := L) (l := 0) (Nat.zero_le _) (Nat.le_refl _)
  simp at h
  omega
theorem cz_qgcd {N : Nat} : ∀ (n : Nat) (a b : QX), b.len ≤ n → GZ N a b → CZ (N / 2) (qgcd n a b).p
  | 0, a, b, h, g => g.sz.1
  | n + 1, a, b, h, g => by
    unfold qgcd
    by_cases h0 : b.len = 0
    · rw [if_pos h0]
      exact g.sz.1
    · rw [if_neg h0]
      have hb : b ≠ 0 := fun z => h0 (len_zero.mpr z)
      have hr := (qdiv_ok (a := a) hb).2
      exact cz_qgcd n b (qrem a b) (by omega) (g.next hb)
theorem gz_first {n L : Nat} {x y : QX} (hx : x.len ≤ L) (hy : y.len ≤ L) (hca : CZ n x.p) (hcb : CZ n y.p) (hy0 : y ≠ 0) : GZ (gz n L) y (qrem x y) := by
  have hr := (qdiv_ok (a := x) hy0).2
  by_cases hlt : y.len < x.len
  · exact GZ.next ⟨n, n, hca, hcb, gz_at hx (by omega), hlt⟩ hy0
  · refine ⟨n, n + (x.len - (y.len - 1)) * (n + 1), hcb, cz_qrem hy0 hca hcb, gz_at hy ?_, hr⟩
    have h1 : (x.len - (y.len - 1)) * (n + 1) ≤ 1 * (n + 1) := Nat.mul_le_mul_right _ (by omega)
    omega
/-- the common part's size -/
theorem cz_qsh {n L : Nat} {a b : QX} (h : a ≠ 0 ∨ b ≠ 0) (ha : CZ n a.p) (hb : CZ n b.p) (hl1 : a.len ≤ L) (hl2 : b.len ≤ L) : CZ (gz n L / 2) (qsh a b).p := by
  obtain ⟨_, _, _, h4⟩ := qgcd_ok (x := a) (y := b) b.len a b (Nat.le_refl _) ⟨1, 0, by grind⟩ ⟨0, 1, by grind⟩ (fun d d1 d2 => ⟨d1, d2⟩) h
  refine cz_qmon h4 ?_
  have hn := gz_n n L
  by_cases h0 : b.len = 0
  · rw [h0]
    exact ha.mono (by omega)
  · have hb0 : b ≠ 0 := fun z => h0 (len_zero.mpr z)
    have hr := (qdiv_ok (a := a) hb0).2
    conv => rw [show b.len = (b.len - 1) + 1 by omega]
    have e : qgcd (b.len - 1 + 1) a b = qgcd (b.len - 1) b (qrem a b) := by
      show (if b.len = 0 then a else _) = _
      rw [if_neg h0]
    rw [e]
    exact cz_qgcd _ b (qrem a b) (by omega) (gz_first hl1 hl2 ha hb hb0)
/-- the quotient's size -/
theorem pz_qdm {a o : QX} {n m B : Nat} (ho : o ≠ 0) (h2 : CZ m o.p) (hB : n + (a.len + 1) * (m + 1) + m ≤ B) : ∀ (k : Nat) (q r : QX), r.len ≤ k → r.len ≤ a.len → CZ (n + (a.len - max r.len (o.len - 1)) * (m + 1)) r.p → (∀ i, i + o.len ≤ r.len → coef q.p i = 0) → (∀ i, Rz B (coef q.p i)) → ∀ i, Rz B (coef (qdm k q r o).1.p i)
  | 0, q, r, h, hle, hc, hz, hs => hs
  | k + 1, q, r, h, hle, hc, hz, hs => by
    unfold qdm
    by_cases hl : r.len < o.len
    · rw [if_pos hl]
      exact hs
    · rw [if_neg hl]
      have hd := dst_len ho (Nat.le_of_not_lt hl)
      have hop := pos_len ho
      refine pz_qdm ho h2 hB k _ _ (by omega) (by omega) ((cz_dst ho hc h2).mono ?_) (fun i hi => ?_) (fun i => ?_)
      · have : (a.len - max r.len (o.len - 1)) + 1 ≤ a.len - max (dst r o).len (o.len - 1) := by omega
        have := Nat.mul_le_mul_right (m + 1) this
        rw [Nat.succ_mul] at this
        omega
      · rw [coef_add, coef_mono, hz i (by omega), if_neg (by omega), Rat.add_zero]
      · rw [coef_add, coef_mono]
        by_cases e : i = r.len - o.len
        · rw [if_pos e, hz i (by omega), Rat.zero_add]
          have hm : (a.len - max r.len (o.len - 1)) * (m + 1) ≤ (a.len + 1) * (m + 1) := Nat.mul_le_mul_right _ (by omega)
          exact ((hc.rz (r.p.length - 1)).div (h2.rz (o.p.length - 1))).mono (by omega)
        · rw [if_neg e, Rat.add_zero]
          exact hs i
theorem pz_qquo {a o : QX} {n m : Nat} (ho : o ≠ 0) (h1 : CZ n a.p) (h2 : CZ m o.p) : PZ (n + (a.len + 1) * (m + 1) + m) (qquo a o).p := fun x hx => by
  obtain ⟨i, hi, rfl⟩ := List.getElem_of_mem hx
  rw [← coef_in hi]
  refine pz_qdm (n := n) ho h2 (Nat.le_refl _) a.len 0 a (Nat.le_refl _) (Nat.le_refl _) (h1.mono (Nat.le_add_right _ _)) (fun i _ => by rw [qx_zero, coef_nil]) (fun i => ?_) i
  rw [qx_zero, coef_nil]
  exact rz_zero.mono (by have := h1.pos; omega)
theorem qquo_len {a o : QX} (ho : o ≠ 0) : (qquo a o).len ≤ a.len := by
  obtain ⟨e, hl⟩ := qdiv_ok (a := a) ho
  by_cases h0 : qquo a o = 0
  · rw [h0, len_zero.mpr rfl]; exact Nat.zero_le _
  · have h1 := len_mul h0 ho
    have hop := pos_len ho
    have hqp := pos_len h0
    have h2 : (qquo a o * o).len ≤ max a.len (qrem a o).len := by
      have e2 : qquo a o * o = a - qrem a o := by grind
      rw [e2]
      refine Nat.le_trans (padd_len _ _) ?_
      have := pscale_len (qrem a o).p (-1)
      have e1 : a.p.length = a.len := rfl
      have e2 : (qrem a o).p.length = (qrem a o).len := rfl
      omega
    omega
theorem cmul_cz {q : Poly} {d e : Int} {n m : Nat} (hq : ∀ i, ∃ t : Int, t.natAbs < 2 ^ m ∧ coef q i * (e : Rat) = (t : Rat)) : ∀ (p : Poly), (∀ i, ∃ t : Int, t.natAbs < 2 ^ n ∧ coef p i * (d : Rat) = (t : Rat)) → ∀ k, ∃ t : Int, t.natAbs ≤ p.length * 2 ^ (n + m) ∧ cmul p q k * ((d * e : Int) : Rat) = (t : Rat)
  | [], _, k => ⟨0, by simp, by show (0 : Rat) * _ = _; rw [Rat.zero_mul]; rfl⟩
  | a :: p, hp, k => by
    obtain ⟨x, x1, x2⟩ := hp 0
    obtain ⟨y, y1, y2⟩ := hq k
    have hxy := natAbs_mul_lt x1 y1
    have e1 : (a :: p).length * 2 ^ (n + m) = p.length * 2 ^ (n + m) + 2 ^ (n + m) := by rw [List.length_cons, Nat.succ_mul]
    rw [coef_zero] at x2
    cases k with
    | zero =>
      refine ⟨x * y, by omega, ?_⟩
      show (a * coef q 0 + 0) * _ = _
      rw [Rat.intCast_mul, Rat.intCast_mul, ← x2, ← y2]
      grind
    | succ k =>
      obtain ⟨t, t1, t2⟩ := cmul_cz hq p (fun i => by have := hp (i + 1); rw [coef_succ] at this; exact this) k
      refine ⟨x * y + t, by omega, ?_⟩
      show (a * coef q (k + 1) + cmul p q k) * _ = _
      rw [Rat.intCast_add, ← t2, Rat.intCast_mul, Rat.intCast_mul, ← x2, ← y2]
      grind
theorem cz_pmul {p q : Poly} {n m k : Nat} (hp : CZ n p) (hq : CZ m q) (hk : p.length < 2 ^ k) : CZ (n + m + k) (pmul p q) := by
  obtain ⟨d, d0, d1, hd⟩ := hp
  obtain ⟨e, e0, e1, he⟩ := hq
  have h0 : 0 < 2 ^ (n + m) := Nat.pow_pos (by decide)
  have hpw : 2 ^ (n + m + k) = 2 ^ k * 2 ^ (n + m) := by rw [Nat.pow_add, Nat.mul_comm]
  refine ⟨d * e, Int.mul_ne_zero d0 e0, Nat.lt_of_lt_of_le (natAbs_mul_lt d1 e1) (Nat.pow_le_pow_right (by decide) (Nat.le_add_right _ _)), fun i => ?_⟩
  obtain ⟨t, t1, t2⟩ := cmul_cz he p hd i
  refine ⟨t, ?_, by rw [coef_pmul]; exact t2⟩
  rw [hpw]
  exact Nat.lt_of_le_of_lt t1 (Nat.mul_lt_mul_of_pos_right hk h0)
/-- sizes along Euclid's way, by what is kept of the pairs -/
structure EuG (B : Nat) (G : QX → QX → Prop) : Prop where
  next : ∀ x y, G x y → y ≠ 0 → G y (qrem x y)
  sz : ∀ x y, G x y → CZ B x.p ∧ CZ B y.p ∧ x.len ≤ 20 ∧ y.len ≤ 20
def vShare (ds : List D) (d : D) : Prop := ∃ (a b : QX) (B : Nat) (G : QX → QX → Prop), ds = [eP a.p, eP b.p] ∧ (a ≠ 0 ∨ b ≠ 0) ∧ EuG B G ∧ G a b ∧ 46 * B + 44 ≤ LIM ∧ d = eP (qsh a b).p
theorem eug_gz {n L : Nat} {a b : QX} (ha : CZ n a.p) (hb : CZ n b.p) (hl1 : a.len ≤ L) (hl2 : b.len ≤ L) (hL : L ≤ 20) : EuG (gz n L / 2) (fun x y => (GZ (gz n L) x y ∨ (x = a ∧ y = b)) ∧ x.len ≤ L ∧ y.len ≤ L) where
  next := fun x y ⟨h, h1, h2⟩ hy => by
    have hr := (qdiv_ok (a := x) hy).2
    refine ⟨.inl ?_, h2, by omega⟩
    rcases h with h | ⟨rfl, rfl⟩
    · exact h.next hy
    · exact gz_first hl1 hl2 ha hb hy
  sz := fun x y ⟨h, h1, h2⟩ => by
    have hn := gz_n n L
    rcases h with h | ⟨rfl, rfl⟩
    · exact ⟨h.sz.1, h.sz.2, by omega, by omega⟩
    · exact ⟨ha.mono (by omega), hb.mono (by omega), by omega, by omega⟩
theorem share_of {a b : QX} {n L : Nat} (h : a ≠ 0 ∨ b ≠ 0) (ha : CZ n a.p) (hb : CZ n b.p) (hl1 : a.len ≤ L) (hl2 : b.len ≤ L) (hL : L ≤ 20) (hlim : 23 * gz n L + 44 ≤ LIM) : vShare [eP a.p, eP b.p] (eP (qsh a b).p) :=
  ⟨a, b, gz n L / 2, _, rfl, h, eug_gz ha hb hl1 hl2 hL, ⟨.inr ⟨rfl, rfl⟩, hl1, hl2⟩, by omega, rfl⟩
theorem eug_gcd {B : Nat} {G : QX → QX → Prop} (h : EuG B G) : ∀ (n : Nat) (a b : QX), b.len ≤ n → G a b → CZ B (qgcd n a b).p
  | 0, a, b, _, g => (h.sz a b g).1
  | n + 1, a, b, hl, g => by
    unfold qgcd
    by_cases h0 : b.len = 0
    · rw [if_pos h0]
      exact (h.sz a b g).1
    · rw [if_neg h0]
      have hb : b ≠ 0 := fun z => h0 (len_zero.mpr z)
      have hr := (qdiv_ok (a := a) hb).2
      exact eug_gcd h n b (qrem a b) (by omega) (h.next a b g hb)
theorem eug_sh {B : Nat} {G : QX → QX → Prop} (h : EuG B G) {a b : QX} (hab : a ≠ 0 ∨ b ≠ 0) (g : G a b) : CZ B (qsh a b).p := by
  obtain ⟨_, _, _, h4⟩ := qgcd_ok (x := a) (y := b) b.len a b (Nat.le_refl _) ⟨1, 0, by grind⟩ ⟨0, 1, by grind⟩ (fun d d1 d2 => ⟨d1, d2⟩) hab
  exact cz_qmon h4 (eug_gcd h _ a b (Nat.le_refl _) g)
theorem qgcd_fuel : ∀ (n : Nat) (a b : QX), b.len ≤ n → qgcd n a b = qgcd b.len a b
  | 0, a, b, h => by rw [show b.len = 0 by omega]
  | n + 1, a, b, h => by
    by_cases h0 : b.len = 0
    · rw [h0]
      show (if b.len = 0 then a else _) = a
      rw [if_pos h0]
    · have hb : b ≠ 0 := fun z => h0 (len_zero.mpr z)
      have hr := (qdiv_ok (a := a) hb).2
      have e : qgcd b.len a b = qgcd (b.len - 1) b (qrem a b) := by
        conv => lhs; rw [show b.len = (b.len - 1) + 1 by omega]
        show (if b.len = 0 then a else _) = _
        rw [if_neg h0]
      rw [e, qgcd_fuel (b.len - 1) b (qrem a b) (by omega)]
      show (if b.len = 0 then a else _) = _
      rw [if_neg h0, qgcd_fuel n b (qrem a b) (by omega)]
termination_by n => n
decreasing_by all_goals omega
def xTwo (K : PySem.W.Frag) (ds : List D) (c : Value) : Prop := ∃ x y, ds = [x, y] ∧ (isPo x = false ∨ isPo y = false) ∧ c = ec K "BadPoly"
def vDiv (ds : List D) (d : D) : Prop := ∃ (a o : QX) (n m : Nat), ds = [eP a.p, eP o.p] ∧ o ≠ 0 ∧ CZ n a.p ∧ CZ m o.p ∧ a.p.length ≤ 13 ∧ o.p.length ≤ 13 ∧ 2 * (n + (a.len + 1) * (m + 1)) + 2 * m + 2 ≤ LIM ∧ d = .tuple [eP (qquo a o).p, eP (qrem a o).p]
def xDiv (K : PySem.W.Frag) (ds : List D) (c : Value) : Prop := xTwo K ds c ∨ (∃ a, ds = [a, .list []] ∧ isPo (.list []) = true ∧ isPo a = true ∧ c = ec K "NoWay")
def vCom (ds : List D) (d : D) : Prop := ∃ (a b : QX) (n L : Nat), ds = [eP a.p, eP b.p] ∧ (a ≠ 0 ∨ b ≠ 0) ∧ CZ n a.p ∧ CZ n b.p ∧ a.len ≤ L ∧ b.len ≤ L ∧ L ≤ 13 ∧ 23 * gz n L + 44 ≤ LIM ∧ d = eP (qsh a b).p
def xCom (K : PySem.W.Frag) (ds : List D) (c : Value) : Prop := xTwo K ds c ∨ (ds = [.list [], .list []] ∧ c = ec K "NoWay")
end An

/-! Worths of sums and products; roots; polynomials composed; through points. -/
namespace An
open PySem
/-! ### worths -/
theorem peval_trim (x : Rat) : ∀ p : Poly, peval (trim p) x = peval p x
  | [] => rfl
  | a :: r => by
    have ih := peval_trim x r
    unfold trim
    by_cases h : trim r = [] ∧ a = 0
    · rw [if_pos h]
      rw [h.1] at ih
      show (0 : Rat) = peval r x * x + a
      rw [← ih, h.2]
      show (0 : Rat) = 0 * x + 0
      grind
    · rw [if_neg h]
      show peval (trim r) x * x + a = peval r x * x + a
      rw [ih]
theorem peval_ext {p q : Poly} (h : ∀ i, coef p i = coef q i) (x : Rat) : peval p x = peval q x := by
  rw [← peval_trim x p, ← peval_trim x q, trim_ext h]
def addL : Poly → Poly → Poly
  | [], q => q
  | p, [] => p
  | a :: p, b :: q => (a + b) :: addL p q
theorem coef_addL : ∀ (p q : Poly) (i : Nat), coef (addL p q) i = coef p i + coef q i
  | [], q, i => by rw [addL, coef_nil, Rat.zero_add]
  | a :: p, [], i => by rw [addL, coef_nil, Rat.add_zero]; simp
  | a :: p, b :: q, 0 => rfl
  | a :: p, b :: q, i + 1 => by rw [addL, coef_succ, coef_succ, coef_succ, coef_addL]
theorem peval_addL (x : Rat) : ∀ (p q : Poly), peval (addL p q) x = peval p x + peval q x
  | [], q => by rw [addL]; show _ = 0 + _; rw [Rat.zero_add]
  | a :: p, [] => by rw [addL]; show _ = _ + 0; rw [Rat.add_zero]; simp
  | a :: p, b :: q => by
    rw [addL]
    show peval (addL p q) x * x + (a + b) = (peval p x * x + a) + (peval q x * x + b)
    rw [peval_addL x p q]
    grind
theorem peval_padd (p q : Poly) (x : Rat) : peval (padd p q) x = peval p x + peval q x := by
  rw [← peval_addL, peval_ext (q := addL p q) fun i => by rw [coef_padd, coef_addL]]
theorem peval_map (c x : Rat) : ∀ p : Poly, peval (p.map fun a => a * c) x = peval p x * c
  | [] => by show (0 : Rat) = 0 * c; rw [Rat.zero_mul]
  | a :: p => by
    show peval (p.map fun a => a * c) x * x + a * c = (peval p x * x + a) * c
    rw [peval_map c x p]
    grind
theorem peval_pscale (p : Poly) (c x : Rat) : peval (pscale p c) x = peval p x * c := by
  unfold pscale
  rw [peval_trim, peval_map]
def mulL : Poly → Poly → Poly
  | [], _ => []
  | a :: p, q => addL (q.map fun b => b * a) (0 :: mulL p q)
theorem coef_mulL : ∀ (p q : Poly) (k : Nat), coef (mulL p q) k = cmul p q k
  | [], q, k => by rw [mulL, coef_nil]; rfl
  | a :: p, q, 0 => by
    rw [mulL, coef_addL, coef_mapP (Rat.zero_mul a), coef_zero]
    show coef q 0 * a + 0 = a * coef q 0 + 0
    rw [Rat.mul_comm]
  | a :: p, q, k + 1 => by
    rw [mulL, coef_addL, coef_mapP (Rat.zero_mul a), coef_succ, coef_mulL p q k]
    show coef q (k + 1) * a + _ = a * coef q (k + 1) + cmul p q k
    rw [Rat.mul_comm]
theorem peval_mulL (x : Rat) : ∀ (p q : Poly), peval (mulL p q) x = peval p x * peval q x
  | [], q => by show (0 : Rat) = 0 * _; rw [Rat.zero_mul]
  | a :: p, q => by
    rw [mulL, peval_addL, peval_map]
    show peval q x * a + (peval (mulL p q) x * x + 0) = (peval p x * x + a) * peval q x
    rw [peval_mulL x p q]
    grind
theorem peval_pmul (p q : Poly) (x : Rat) : peval (pmul p q) x = peval p x * peval q x := by
  rw [← peval_mulL, peval_ext (q := mulL p q) fun i => by rw [coef_pmul, coef_mulL]]
def QX.ev (a : QX) (x : Rat) : Rat := peval a.p x
theorem ev_add (a b : QX) (x : Rat) : (a + b).ev x = a.ev x + b.ev x := peval_padd _ _ _
theorem ev_mul (a b : QX) (x : Rat) : (a * b).ev x = a.ev x * b.ev x := peval_pmul _ _ _
theorem ev_C (c x : Rat) : (QX.C c).ev x = c := by
  show peval (trim [c]) x = c
  rw [peval_trim]
  show (0 : Rat) * x + c = c
  grind
theorem ev_zero (x : Rat) : (0 : QX).ev x = 0 := by
  show peval (0 : QX).p x = 0
  rw [qx_zero]
  rfl
theorem ev_one (x : Rat) : (1 : QX).ev x = 1 := ev_C 1 x
theorem ev_neg (a : QX) (x : Rat) : (-a).ev x = -a.ev x := by
  show peval (pscale a.p (-1)) x = _
  rw [peval_pscale]
  show a.ev x * -1 = _
  grind
theorem ev_sub (a b : QX) (x : Rat) : (a - b).ev x = a.ev x - b.ev x := by
  show peval (padd a.p (pscale b.p (-1))) x = _
  rw [peval_padd, peval_pscale]
  show a.ev x + b.ev x * -1 = _
  grind
/-! ### roots -/
theorem own_lin (x : Rat) : Own [x, 1] := own_iff.mpr (.inr (by show (1 : Rat) ≠ 0; decide))
/-- x less a place -/
def lin (x : Rat) : QX := ⟨[-x, 1], own_lin _⟩
theorem ev_lin (a x : Rat) : (lin a).ev x = x - a := by
  show ((0 : Rat) * x + 1) * x + -a = x - a
  grind
theorem lin_len (x : Rat) : (lin x).len = 2 := rfl
theorem lin_ne (x : Rat) : lin x ≠ 0 := ne_zero.mpr (by intro h; cases h)
theorem root_dvd {a : QX} {x : Rat} (h : a.ev x = 0) : ∃ b, a = b * lin x := by
  obtain ⟨e, hl⟩ := qdiv_ok (a := a) (lin_ne x)
  have hl : (qrem a (lin x)).len < 2 := hl
  have hr : qrem a (lin x) = 0 := by
    by_cases h0 : (qrem a (lin x)).len = 0
    · exact len_zero.mp h0
    · have h1 := len_one (a := qrem a (lin x)) (by omega)
      have h2 : a.ev x = (qquo a (lin x)).ev x * (lin x).ev x + (qrem a (lin x)).ev x := by rw [← ev_mul, ← ev_add, ← e]
      rw [ev_lin, h, h1, ev_C] at h2
      have h3 : lc (qrem a (lin x)).p = 0 := by grind
      exact absurd h3 (lc_ne (qrem a (lin x)).own (ne_zero.mp fun z => h0 (len_zero.mpr z)))
  exact ⟨qquo a (lin x), by grind⟩
/-- fewer fractions than roots: nought -/
theorem roots_zero : ∀ (xs : List Rat) (a : QX), xs.Nodup → (∀ x ∈ xs, a.ev x = 0) → a.len ≤ xs.length → a = 0
  | [], a, _, _, hl => len_zero.mp (by simpa using hl)
  | x :: xs, a, hn, hz, hl => by
    obtain ⟨b, e⟩ := root_dvd (hz x List.mem_cons_self)
    have hn' := List.nodup_cons.mp hn
    have hb : b = 0 := by
      refine roots_zero xs b hn'.2 (fun y hy => ?_) ?_
      · have h1 := hz y (List.mem_cons_of_mem _ hy)
        rw [e, ev_mul, ev_lin] at h1
        rcases Rat.mul_eq_zero.mp h1 with h1 | h1
        · exact h1
        · have : y = x := by grind
          exact absurd (this ▸ hy) hn'.1
      · by_cases h0 : b = 0
        · rw [h0, len_zero.mpr rfl]
          exact Nat.zero_le _
        · have := len_mul h0 (lin_ne x)
          rw [← e, lin_len] at this
          rw [List.length_cons] at hl
          omega
    rw [e, hb]
    grind
theorem poly_uniq {xs : List Rat} {a b : QX} (hn : xs.Nodup) (h : ∀ x ∈ xs, a.ev x = b.ev x) (ha : a.len ≤ xs.length) (hb : b.len ≤ xs.length) : a = b := by
  have hz : a - b = 0 := roots_zero xs (a - b) hn (fun x hx => by rw [ev_sub, h x hx]; grind) (by
    refine Nat.le_trans (padd_len _ _) ?_
    have := pscale_len b.p (-1)
    have e1 : a.p.length = a.len := rfl
    have e2 : b.p.length = b.len := rfl
    omega)
  grind
/-! ### sizes over one denominator -/
theorem cz_padd {p q : Poly} {n m : Nat} (hp : CZ n p) (hq : CZ m q) : CZ (n + m + 1) (padd p q) := by
  obtain ⟨d, d0, d1, hd⟩ := hp
  obtain ⟨e, e0, e1, he⟩ := hq
  have pw : 2 ^ (n + m + 1) = 2 ^ (n + m) + 2 ^ (n + m) := by rw [Nat.pow_succ]; omega
  refine ⟨d * e, Int.mul_ne_zero d0 e0, by have := natAbs_mul_lt d1 e1; omega, fun i => ?_⟩
  obtain ⟨x, x1, x2⟩ := hd i
  obtain ⟨y, y1, y2⟩ := he i
  refine ⟨x * e + d * y, ?_, ?_⟩
  · have q1 := natAbs_mul_lt x1 e1
    have q2 := natAbs_mul_lt d1 y1
    omega
  · rw [coef_padd, Rat.intCast_mul, Rat.intCast_add, Rat.intCast_mul, Rat.intCast_mul, ← x2, ← y2]
    grind
theorem den_ne (c : Rat) : ((c.den : Int) : Rat) ≠ 0 := fun z => by
  have := Rat.intCast_eq_zero_iff.mp z
  have := c.den_pos
  omega
theorem num_eq (c : Rat) : c * ((c.den : Int) : Rat) = (c.num : Rat) := by
  have e : c = (c.num : Rat) / ((c.den : Int) : Rat) := by
    rw [← Rat.divInt_eq_div, Rat.num_divInt_den]
  conv => lhs; lhs; rw [e]
  exact Rat.div_mul_cancel (den_ne c)
theorem cz_pscale {p : Poly} {c : Rat} {n m : Nat} (hp : CZ n p) (hc : Rz m c) : CZ (n + m) (pscale p c) := by
  obtain ⟨d, d0, d1, hd⟩ := hp
  have hden : (c.den : Int).natAbs < 2 ^ m := by simpa using hc.2
  have := c.den_pos
  refine ⟨d * (c.den : Int), Int.mul_ne_zero d0 (by omega), natAbs_mul_lt d1 hden, fun i => ?_⟩
  obtain ⟨x, x1, x2⟩ := hd i
  refine ⟨x * c.num, natAbs_mul_lt x1 hc.1, ?_⟩
  rw [coef_pscale, Rat.intCast_mul, Rat.intCast_mul, ← x2, ← num_eq c]
  grind
theorem cz_nil {n : Nat} (h : 0 < n) : CZ n [] := ⟨1, by decide, Nat.one_lt_two_pow (by omega), fun i => ⟨0, Nat.pow_pos (by decide), by rw [coef_nil]; grind⟩⟩
theorem cz_one {c : Rat} {n : Nat} (h : Rz n c) : CZ n (trim [c]) := by
  have := c.den_pos
  refine ⟨(c.den : Int), by omega, by simpa using h.2, fun i => ?_⟩
  rw [coef_trim]
  cases i with
  | zero => exact ⟨c.num, h.1, by rw [coef_zero, num_eq]⟩
  | succ i => exact ⟨0, Nat.pow_pos (by decide), by rw [coef_succ, coef_nil]; grind⟩
theorem cz_trim {p : Poly} {n : Nat} (h : CZ n p) : CZ n (trim p) := by
  obtain ⟨d, d0, d1, hd⟩ := h
  exact ⟨d, d0, d1, fun i => by rw [coef_trim]; exact hd i⟩
theorem cz_cons {c : Rat} {p : Poly} {n m : Nat} (hc : Rz n c) (hp : CZ m p) : CZ (n + m) (c :: p) := by
  obtain ⟨d, d0, d1, hd⟩ := hp
  have hden : (c.den : Int).natAbs < 2 ^ n := by simpa using hc.2
  have := c.den_pos
  refine ⟨(c.den : Int) * d, Int.mul_ne_zero (by omega) d0, natAbs_mul_lt hden d1, fun i => ?_⟩
  cases i with
  | zero =>
    refine ⟨c.num * d, natAbs_mul_lt hc.1 d1, ?_⟩
    rw [coef_zero, Rat.intCast_mul, Rat.intCast_mul, ← num_eq c]
    grind
  | succ i =>
    obtain ⟨x, x1, x2⟩ := hd i
    refine ⟨(c.den : Int) * x, natAbs_mul_lt hden x1, ?_⟩
    rw [coef_succ, Rat.intCast_mul, Rat.intCast_mul, ← x2]
    grind
theorem peval_cz {x : Rat} {d : Int} {n m : Nat} (hx : Rz m x) : ∀ (p : Poly), (∀ i, ∃ t : Int, t.natAbs < 2 ^ n ∧ coef p i * (d : Rat) = (t : Rat)) → ∃ t : Int, t.natAbs < 2 ^ (n + p.length * m + p.length) ∧ peval p x * ((d * (x.den : Int) ^ p.length : Int) : Rat) = (t : Rat)
  | [], _ => ⟨0, Nat.pow_pos (by decide), by show (0 : Rat) * _ = _; rw [Rat.zero_mul]; rfl⟩
  | a :: p, hp => by
    obtain ⟨t, t1, t2⟩ := peval_cz hx p (fun i => by have := hp (i + 1); rw [coef_succ] at this; exact this)
    obtain ⟨u, u1, u2⟩ := hp 0
    rw [coef_zero] at u2
    have hden : (x.den : Int).natAbs < 2 ^ m := by simpa using hx.2
    have hdp : ∀ k : Nat, ((x.den : Int) ^ k).natAbs ≤ 2 ^ (k * m) := fun k => by
      induction k with
      | zero => simp
      | succ k ih =>
        rw [Int.pow_succ, Int.natAbs_mul, Nat.succ_mul, Nat.pow_add]
        exact Nat.mul_le_mul ih (Nat.le_of_lt hden)
    refine ⟨t * x.num + u * (x.den : Int) ^ (p.length + 1), ?_, ?_⟩
    · have q1 := natAbs_mul_lt t1 hx.1
      have q2 : (u * (x.den : Int) ^ (p.length + 1)).natAbs < 2 ^ (n + (p.length + 1) * m) := by
        rw [Int.natAbs_mul, Nat.pow_add]
        exact Nat.mul_lt_mul_of_lt_of_le u1 (hdp _) (Nat.pow_pos (by decide))
      have e1 : n + (a :: p).length * m + (a :: p).length = (n + (p.length + 1) * m + p.length) + 1 := by rw [List.length_cons]; omega
      have e2 : n + p.length * m + p.length + m = n + (p.length + 1) * m + p.length := by rw [Nat.succ_mul]; omega
      rw [e2] at q1
      have q3 : 2 ^ (n + (p.length + 1) * m) ≤ 2 ^ (n + (p.length + 1) * m + p.length) := Nat.pow_le_pow_right (by decide) (Nat.le_add_right _ _)
      rw [e1, Nat.pow_succ]
      omega
    · show (peval p x * x + a) * ((d * (x.den : Int) ^ (p.length + 1) : Int) : Rat) = _
      rw [Rat.intCast_add, Rat.intCast_mul, Rat.intCast_mul, ← t2, Rat.intCast_mul, Rat.intCast_mul, ← u2, ← num_eq x, Int.pow_succ, Rat.intCast_mul]
      grind
theorem rz_pevalC {p : Poly} {x : Rat} {n m l : Nat} (hp : CZ n p) (hx : Rz m x) (hl : p.length ≤ l) : Rz (n + l * m + l) (peval p x) := by
  obtain ⟨d, d0, d1, hd⟩ := hp
  obtain ⟨t, t1, t2⟩ := peval_cz hx p hd
  have hden : (x.den : Int).natAbs < 2 ^ m := by simpa using hx.2
  have hdp : ∀ k : Nat, ((x.den : Int) ^ k).natAbs ≤ 2 ^ (k * m) := fun k => by
    induction k with
    | zero => simp
    | succ k ih =>
      rw [Int.pow_succ, Int.natAbs_mul, Nat.succ_mul, Nat.pow_add]
      exact Nat.mul_le_mul ih (Nat.le_of_lt hden)
  have hx0 : (x.den : Int) ≠ 0 := by have := x.den_pos; omega
  have hle : n + p.length * m + p.length ≤ n + l * m + l := by
    have := Nat.mul_le_mul_right m hl
    omega
  refine (rz_quot (n := n + p.length * m + p.length) (Int.mul_ne_zero d0 (Int.pow_ne_zero hx0)) ?_ t1 t2).mono hle
  rw [Int.natAbs_mul]
  have : d.natAbs * ((x.den : Int) ^ p.length).natAbs < 2 ^ n * 2 ^ (p.length * m) := Nat.mul_lt_mul_of_lt_of_le d1 (hdp _) (Nat.pow_pos (by decide))
  rw [← Nat.pow_add] at this
  exact Nat.lt_of_lt_of_le this (Nat.pow_le_pow_right (by decide) (Nat.le_add_right _ _))
/-! ### one polynomial at another one -/
def cstep (q acc : Poly) (a : Rat) : Poly := padd (pmul acc q) (trim [a])
def pcomp (p q : Poly) : Poly := p.foldr (fun a acc => cstep q acc a) []
theorem own_pcomp (p q : Poly) : Own (pcomp p q) := by
  cases p with
  | nil => exact own_nil
  | cons a p => exact own_padd _ _
theorem peval_pcomp (q : Poly) (x : Rat) : ∀ p : Poly, peval (pcomp p q) x = peval p (peval q x)
  | [] => rfl
  | a :: p => by
    show peval (padd (pmul (pcomp p q) q) (trim [a])) x = peval p (peval q x) * peval q x + a
    rw [peval_padd, peval_pmul, peval_pcomp q x p, peval_trim]
    show _ + ((0 : Rat) * x + a) = _
    grind
theorem pcomp_len (q : Poly) : ∀ p : Poly, (pcomp p q).length ≤ (p.length - 1) * (q.length - 1) + 1
  | [] => Nat.zero_le _
  | [a] => by
    show (padd (pmul [] q) (trim [a])).length ≤ _
    refine Nat.le_trans (padd_len _ _) ?_
    have := trim_len [a]
    rw [nil_pmul]
    simp at this ⊢
    omega
  | a :: b :: p => by
    have ih := pcomp_len q (b :: p)
    show (padd (pmul (pcomp (b :: p) q) q) (trim [a])).length ≤ _
    refine Nat.le_trans (padd_len _ _) ?_
    have h1 := pmul_len (pcomp (b :: p) q) q
    have h2 := trim_len [a]
    have e : (a :: b :: p).length - 1 = ((b :: p).length - 1) + 1 := by simp
    rw [e, Nat.succ_mul]
    simp at h2
    by_cases hq : q.length = 0
    · have : q = [] := List.length_eq_zero_iff.mp hq
      subst this
      rw [pmul_nil] at h1 ⊢
      simp
      omega
    · omega
theorem cz_pcomp {q : Poly} {n m : Nat} (hq : CZ m q) (hn : 0 < n) : ∀ p : Poly, (∀ a ∈ p, Rz n a) → p.length * q.length ≤ 120 → CZ (1 + p.length * (n + m + 8)) (pcomp p q)
  | [], _, _ => cz_nil (by omega)
  | a :: p, hp, hl => by
    have hl' : p.length * q.length + q.length ≤ 120 := by rw [List.length_cons, Nat.succ_mul] at hl; exact hl
    have ih := cz_pcomp hq hn p (fun b hb => hp b (List.mem_cons_of_mem _ hb)) (by omega)
    have hlen : (pcomp p q).length < 2 ^ 7 := by
      refine Nat.lt_of_le_of_lt (pcomp_len q p) ?_
      have : (p.length - 1) * (q.length - 1) ≤ p.length * q.length := Nat.mul_le_mul (by omega) (by omega)
      show _ < 128
      omega
    have h1 := cz_padd (cz_pmul ih hq hlen) (cz_one (hp a List.mem_cons_self))
    refine CZ.mono h1 ?_
    rw [List.length_cons, Nat.succ_mul]
    omega
/-! ### through points -/
def tstep (s : Poly × Poly) (pt : Rat × Rat) : Poly × Poly := (padd s.1 (pscale s.2 ((pt.2 - peval s.1 pt.1) / peval s.2 pt.1)), pmul s.2 [(-1) * pt.1, 1])
def thrS (pts : List (Rat × Rat)) : Poly × Poly := pts.foldl tstep ([], [1])
def thr (pts : List (Rat × Rat)) : Poly := (thrS pts).1
theorem peval_lin' (a x : Rat) : peval [(-1) * a, 1] x = x - a := by
  show ((0 : Rat) * x + 1) * x + (-1) * a = x - a
  grind
theorem thrS_snoc (pts : List (Rat × Rat)) (pt : Rat × Rat) : thrS (pts ++ [pt]) = tstep (thrS pts) pt := by
  unfold thrS
  rw [List.foldl_append]
  rfl
theorem list_snoc {α : Type} {P : List α → Prop} (h0 : P []) (h1 : ∀ l a, P l → P (l ++ [a])) : ∀ l, P l := fun l => by
  have : ∀ m : List α, P m.reverse := fun m => by
    induction m with
    | nil => exact h0
    | cons a m ih => rw [List.reverse_cons]; exact h1 _ _ ih
  have := this l.reverse
  rwa [List.reverse_reverse] at this
/-- the base is worth nought at the places met, and nowhere else -/
theorem base_ev (x : Rat) : ∀ pts : List (Rat × Rat), (peval (thrS pts).2 x = 0 ↔ x ∈ pts.map (·.1)) := by
  refine list_snoc (by
    show peval [1] x = 0 ↔ x ∈ []
    have : peval [1] x = 1 := by show (0 : Rat) * x + 1 = 1; grind
    rw [this]
    simp) fun l a ih => ?_
  rw [thrS_snoc, List.map_append, List.mem_append, ← ih]
  show peval (pmul _ _) x = 0 ↔ _
  rw [peval_pmul, peval_lin', Rat.mul_eq_zero]
  simp
  exact or_congr Iff.rfl ⟨fun h => by grind, fun h => by grind⟩
theorem own_thrS : ∀ pts : List (Rat × Rat), Own (thrS pts).1 ∧ Own (thrS pts).2 := list_snoc ⟨own_nil, own_iff.mpr (.inr (by show (1 : Rat) ≠ 0; decide))⟩ fun l a _ => by
  rw [thrS_snoc]
  exact ⟨own_padd _ _, own_pmul _ _⟩
theorem thrS_len : ∀ pts : List (Rat × Rat), (thrS pts).1.length ≤ pts.length ∧ (thrS pts).2.length ≤ pts.length + 1 := list_snoc ⟨Nat.le_refl 0, Nat.le_refl 1⟩ fun l a ih => by
  rw [thrS_snoc, List.length_append]
  constructor
  · refine Nat.le_trans (padd_len _ _) ?_
    have := pscale_len (thrS l).2 ((a.2 - peval (thrS l).1 a.1) / peval (thrS l).2 a.1)
    simp
    omega
  · refine Nat.le_trans (pmul_len _ _) ?_
    simp
    omega
theorem thr_ev : ∀ pts : List (Rat × Rat), (pts.map (·.1)).Nodup → ∀ pt ∈ pts, peval (thr pts) pt.1 = pt.2 := list_snoc (fun _ pt h => by cases h) fun l a ih hn pt hp => by
  rw [List.map_append, List.nodup_append] at hn
  obtain ⟨n1, n2, n3⟩ := hn
  have hb : ∀ x, x ∈ l.map (·.1) → peval (thrS l).2 x = 0 := fun x hx => (base_ev x l).mpr hx
  have ha : peval (thrS l).2 a.1 ≠ 0 := fun z => by
    have := (base_ev a.1 l).mp z
    exact n3 a.1 this a.1 (by simp) rfl
  unfold thr
  rw [thrS_snoc]
  show peval (padd _ (pscale _ _)) pt.1 = pt.2
  rw [peval_padd, peval_pscale]
  rcases List.mem_append.mp hp with h | h
  · have h1 := ih n1 pt h
    unfold thr at h1
    rw [h1, hb pt.1 (List.mem_map.mpr ⟨pt, h, rfl⟩)]
    grind
  · have : pt = a := by simpa using h
    rw [this, Rat.mul_comm, Rat.div_mul_cancel ha]
    grind
theorem thr_uniq {pts : List (Rat × Rat)} {a : QX} (hn : (pts.map (·.1)).Nodup) (h : ∀ pt ∈ pts, a.ev pt.1 = pt.2) (hl : a.len ≤ pts.length) : thr pts = a.p := by
  have := poly_uniq (xs := pts.map (·.1)) (a := ⟨thr pts, (own_thrS pts).1⟩) (b := a) hn (fun x hx => by
    obtain ⟨pt, hp, rfl⟩ := List.mem_map.mp hx
    rw [h pt hp]
    exact thr_ev pts hn pt hp) (by rw [List.length_map]; exact (thrS_len pts).1) (by rw [List.length_map]; exact hl)
  exact congrArg QX.p this
end An

/-! A dict whose keys and values are fractions. -/
namespace An
open PySem PySem.Spec PyProof.Rows L2
/-- the thing at a is just this object -/
def ObO (a : Addr) (o : Obj) : HO := .ext fun h => h.get? a = some o
theorem obo_get {P : Program} {w : World} {H : Hp} {h : Heap} {a : Addr} {o : Obj} (ok : HOk P w H h) (e : H a = some (ObO a o)) : h.get? a = some o := (ok a _ e).1
theorem obo_ok {P : Program} {w : World} {H : Hp} {h : Heap} {a : Addr} {o : Obj} (e : h.get? a = some o) : ObjOk P w H h a (ObO a o) := ⟨e, ⟨o, e⟩, fun h1 h2 f k => k o f⟩
theorem obo_mut {a : Addr} {o : Obj} (h : ∃ es ep, o.data = .dict es ep) : MutO (ObO a o) := fun c q e => by
  obtain ⟨es, ep, hd⟩ := h
  unfold LamX.CodeO at e
  injection e with e
  have all : ∀ (n b : Nat) (x : Obj), Heap.get? ⟨Array.replicate n o, {}⟩ b = some x → x = o := fun n b x hx => by
    unfold Heap.get? at hx
    split at hx
    · cases hx
    · simp only [Array.getElem?_replicate] at hx
      split at hx
      · exact (Option.some.inj hx).symm
      · cases hx
  have h1 : Heap.get? ⟨Array.replicate (a + 1) o, {}⟩ a = some o := by
    unfold Heap.get?
    simp only [Array.getElem?_replicate, if_pos (Nat.lt_succ_self a)]
    split
    · rename_i z
      injection z with z
      rw [z] at hd
      cases hd
    · rfl
  have h2 := congrFun e ⟨Array.replicate (a + 1) o, {}⟩
  rw [h2] at h1
  obtain ⟨oc, vs, t, g1, g2, _⟩ := h1
  rw [all _ _ _ g1, hd] at g2
  cases g2
def fkey (q : Rat) : List Key := [.inl q.num, .inl (q.den : Nat)]
theorem fkey_inj {a b : Rat} (h : fkey a = fkey b) : a = b := by
  unfold fkey at h
  injection h with h1 h2
  injection h2 with h2 _
  injection h1 with h1
  injection h2 with h2
  exact Rat.ext h1 (by omega)
theorem sqt_frac {K : PySem.W.Frag} {H : Hp} {v : V} {q : Rat} (h : Dt K H v (eF q)) : ∃ b, v = .ref b ∧ SqT K H b ((fkey q).map kV) := by
  unfold eF at h
  cases h with
  | tup h1 h2 =>
    cases h2 with
    | cons e1 t =>
      cases t with
      | cons e2 t =>
        cases t
        cases e1
        cases e2
        exact ⟨_, rfl, h1⟩
theorem dt_frac {K : PySem.W.Frag} {H : Hp} {b : Addr} {q : Rat} (h : SqT K H b ((fkey q).map kV)) : Dt K H (.ref b) (eF q) := .tup h (.cons (.int _) (.cons (.int _) .nil))
abbrev DX := List (List Key × Addr × Value)
/-- the object is a dict of these entries -/
def DicO (P : Program) (w : World) (o : Obj) (xs : DX) : Prop := ∃ es ep, o.ExactDict ∧ o.data = .dict es ep ∧ es.toList = xs.map (entryOfKey (tupleKind (mixKind P w)))
/-- entries stand for pairs of fractions -/
def DicR (K : PySem.W.Frag) (H : Hp) : List (Rat × Rat) → DX → Prop := Paired fun p q => q.1 = fkey p.1 ∧ SqT K H q.2.1 (q.1.map kV) ∧ ∃ v, RelV v q.2.2 ∧ Dt K H v (eF p.2)
theorem DicR.keep {K : PySem.W.Frag} {H H' : Hp} {kvs : List (Rat × Rat)} {xs : DX} (r : DicR K H kvs xs) (k : Keep H H') : DicR K H' kvs xs := Paired.mapP r fun _ _ ⟨h1, h2, v, h3, h4⟩ => ⟨h1, sqt_keep k h2, v, h3, dp_keep k _ _ h4⟩
def dicAt (P : Program) (w : World) (kvs : List (Rat × Rat)) (K : PySem.W.Frag) (a : Addr) (H Hd : Hp) : Prop := ∃ o xs, (a == sysModules) = false ∧ H a = some (ObO a o) ∧ DicO P w o xs ∧ DicR K Hd kvs xs ∧ (xs.map (·.1)).Nodup
def dicB (P : Program) (w : World) (kvs : List (Rat × Rat)) : Bx where
  at_ := fun K v fs H Hd => ∃ a, v = .ref a ∧ fs = [a] ∧ dicAt P w kvs K a H Hd
  keep := fun {K v fs H Hd H' Hd'} ⟨a, e, ef, o, xs, h1, h2, h3, h4, h5⟩ hf hk => ⟨a, e, ef, o, xs, h1, by rw [hf a (by rw [ef]; exact List.mem_singleton.mpr rfl)]; exact h2, h3, h4.keep hk, h5⟩
def dicF (P : Program) (w : World) (kvs : List (Rat × Rat)) : Fix where
  at_ := fun K v H => ∃ a, v = .ref a ∧ dicAt P w kvs K a H H
  keep := fun {K v H H'} ⟨a, e, o, xs, h1, h2, h3, h4, h5⟩ hk => ⟨a, e, o, xs, h1, hk a _ h2 (fun _ z => nomatch z), h3, h4.keep hk, h5⟩
/-! ### pairs of fractions -/
def lookF (kvs : List (Rat × Rat)) (x : Rat) : Option Rat := (kvs.find? fun p => decide (p.1 = x)).map (·.2)
def putF (kvs : List (Rat × Rat)) (x y : Rat) : List (Rat × Rat) := if (lookF kvs x).isSome then kvs.map fun p => if p.1 = x then (p.1, y) else p else kvs ++ [(x, y)]
theorem lookF_mem {kvs : List (Rat × Rat)} {p : Rat × Rat} (h : p ∈ kvs) (nd : (kvs.map (·.1)).Nodup) : lookF kvs p.1 = some p.2 := by
  induction kvs with
  | nil => cases h
  | cons q r ih =>
    rw [List.map_cons, List.nodup_cons] at nd
    unfold lookF
    rw [List.find?_cons]
    rcases List.mem_cons.mp h with e | e
    · subst e
      rw [decide_eq_true rfl]
      rfl
    · have ne : q.1 ≠ p.1 := fun z => nd.1 (by rw [z]; exact List.mem_map.mpr ⟨p, e, rfl⟩)
      rw [decide_eq_false ne]
      exact ih e nd.2
theorem lookF_none {kvs : List (Rat × Rat)} {x : Rat} (h : (lookF kvs x).isSome = false) : x ∉ kvs.map (·.1) := fun z => by
  obtain ⟨p, hp, e⟩ := List.mem_map.mp z
  unfold lookF at h
  rw [Option.isSome_map] at h
  have : (kvs.find? fun p => decide (p.1 = x)).isSome = true := List.find?_isSome.mpr ⟨p, hp, decide_eq_true e⟩
  rw [h] at this
  cases this
theorem putF_nodup {kvs : List (Rat × Rat)} {x y : Rat} (nd : (kvs.map (·.1)).Nodup) : ((putF kvs x y).map (·.1)).Nodup := by
  unfold putF
  by_cases h : (lookF kvs x).isSome = true
  · rw [if_pos h, List.map_map]
    have : (fun p : Rat × Rat => p.1) ∘ (fun p => if p.1 = x then (p.1, y) else p) = fun p => p.1 := by
      funext p
      show (if p.1 = x then (p.1, y) else p).1 = p.1
      split <;> rfl
    rw [this]
    exact nd
  · rw [if_neg h, List.map_append]
    have hn := lookF_none (kvs := kvs) (x := x) (by simpa using h)
    exact List.nodup_append.mpr ⟨nd, by simp, fun a ha b hb e => hn (by
      have : b = x := by simpa using hb
      rw [← this, ← e]
      exact ha)⟩
theorem putF_len (kvs : List (Rat × Rat)) (x y : Rat) : (putF kvs x y).length ≤ kvs.length + 1 := by
  unfold putF
  split
  · rw [List.length_map]; omega
  · rw [List.length_append]; exact Nat.le_refl _
theorem putF_ne (kvs : List (Rat × Rat)) (x y : Rat) : putF kvs x y ≠ [] := by
  unfold putF
  split
  · rename_i h
    intro z
    rw [List.map_eq_nil_iff] at z
    subst z
    cases h
  · simp
theorem putF_mem {kvs : List (Rat × Rat)} {x y : Rat} {p : Rat × Rat} (h : p ∈ putF kvs x y) : p ∈ kvs ∨ p = (x, y) := by
  unfold putF at h
  split at h
  · obtain ⟨q, hq, e⟩ := List.mem_map.mp h
    split at e
    · rename_i z
      right
      rw [← e, z]
    · left
      rw [← e]
      exact hq
  · rcases List.mem_append.mp h with h | h
    · exact .inl h
    · exact .inr (List.mem_singleton.mp h)
section
variable {K : PySem.W.Frag} {H : Hp} {kvs : List (Rat × Rat)} {xs : DX}
theorem DicR.some_iff (r : DicR K H kvs xs) (x : Rat) : (atKey xs (fkey x)).isSome = (lookF kvs x).isSome := by
  unfold DicR at r
  induction r with
  | nil => rfl
  | @cons p q ps qs h t ih =>
    obtain ⟨h1, _⟩ := h
    by_cases e : p.1 = x
    · have e' : q.1 = fkey x := by rw [h1, e]
      have b : atKey (q :: qs) (fkey x) = some q.2 := by simp [atKey, List.find?_cons, e']
      rw [b]
      unfold lookF
      rw [List.find?_cons, decide_eq_true e]
      rfl
    · have e' : ¬ q.1 = fkey x := fun z => e (fkey_inj (h1.symm.trans z))
      have b : atKey (q :: qs) (fkey x) = atKey qs (fkey x) := by simp [atKey, List.find?_cons, e']
      rw [b, ih]
      unfold lookF
      rw [List.find?_cons, decide_eq_false e]
theorem DicR.look (r : DicR K H kvs xs) {x y : Rat} (h : lookF kvs x = some y) : ∃ p v, atKey xs (fkey x) = some p ∧ RelV v p.2 ∧ Dt K H v (eF y) := by
  unfold DicR at r
  induction r with
  | nil => cases h
  | @cons p q ps qs hq t ih =>
    obtain ⟨h1, h2, v, h3, h4⟩ := hq
    by_cases e : p.1 = x
    · have e' : q.1 = fkey x := by rw [h1, e]
      have b : atKey (q :: qs) (fkey x) = some q.2 := by simp [atKey, List.find?_cons, e']
      unfold lookF at h
      rw [List.find?_cons, decide_eq_true e] at h
      have h : some p.2 = some y := h
      cases h
      exact ⟨q.2, v, b, h3, h4⟩
    · have e' : ¬ q.1 = fkey x := fun z => e (fkey_inj (h1.symm.trans z))
      have b : atKey (q :: qs) (fkey x) = atKey qs (fkey x) := by simp [atKey, List.find?_cons, e']
      unfold lookF at h
      rw [List.find?_cons, decide_eq_false e] at h
      rw [b]
      exact ih h
theorem DicR.put (r : DicR K H kvs xs) {x y : Rat} {b : Addr} {v : V} {u : Value} (hb : SqT K H b ((fkey x).map kV)) (ru : RelV v u) (hv : Dt K H v (eF y)) : DicR K H (putF kvs x y) (storedH xs (fkey x) b u) := by
  have e := r.some_iff x
  unfold putF storedH
  rw [e]
  by_cases q : (lookF kvs x).isSome = true
  · rw [if_pos q, if_pos q]
    clear e q
    unfold DicR at r ⊢
    induction r with
    | nil => exact .nil
    | @cons p q ps qs h t ih =>
      rw [List.map_cons, List.map_cons]
      refine .cons ?_ ih
      obtain ⟨h1, h2, v', h3, h4⟩ := h
      unfold putAt
      by_cases e : p.1 = x
      · rw [if_pos e, if_pos (by rw [h1, e])]
        exact ⟨h1, h2, v, ru, hv⟩
      · rw [if_neg e, if_neg (fun z => e (fkey_inj (h1.symm.trans z)))]
        exact ⟨h1, h2, v', h3, h4⟩
  · rw [if_neg q, if_neg q]
    exact Paired.snoc r ⟨rfl, hb, v, ru, hv⟩
theorem DicR.len (r : DicR K H kvs xs) : kvs.length = xs.length := Paired.length r
end
/-! ### readings -/
section
variable {X : Cx} {pins : List (Addr × Obj)} {σ : L2.St} {H : Hp} {s : Shared} {a b : Addr} {o : Obj} {xs : DX} {kvs : List (Rat × Rat)}
theorem key_ofS {k : List Key} (I : Inv X pins σ H s) (h : SqT X.K H b (k.map kV)) : (tupleKind (mixKind X.prog X.w)).is s.heap k b := by
  obtain ⟨its, r, ⟨o, h1, h2, n, h3⟩, _⟩ := I.tuple h
  exact ⟨o, its.toArray, n, h1, h2, h3, by simpa using items_are r⟩
theorem dic_of (I : Inv X pins σ H s) (e : H a = some (ObO a o)) (h1 : DicO X.prog X.w o xs) (h2 : DicR X.K H kvs xs) (nd : (xs.map (·.1)).Nodup) : s.heap.DictOfH (tupleKind (mixKind X.prog X.w)) a xs := by
  obtain ⟨es, ep, a1, a2, a3⟩ := h1
  refine ⟨o, es, ep, obo_get I.hok e, a1, a2, a3, fun x hx => ?_, nd⟩
  have all : ∀ {l : List (Rat × Rat)} {m : DX}, DicR X.K H l m → ∀ x ∈ m, SqT X.K H x.2.1 (x.1.map kV) := fun {l m} r => by
    unfold DicR at r
    induction r with
    | nil => intro x hx; cases hx
    | cons h t ih =>
      intro x hx
      rcases List.mem_cons.mp hx with e | hx
      · subst e
        exact h.2.1
      · exact ih x hx
  exact key_ofS I (all h2 x hx)
end
def tDNewX : TE := fun _ H Q => ∀ p, H p = none → (p == sysModules) = false → Q (.ref p) (upd H p (ObO p { cls := .type "dict", data := .dict #[] }))
theorem pe_dnewX {X : Cx} {pos : Pos} : PE X (.Dict [] [] pos) tDNewX := ⟨fun pins s σ H Q I h =>
  wpAny_Dict_empty ⟨.ref s.heap.objs.size, _, I.laid (a := s.heap.objs.size) (o := ObO s.heap.objs.size { cls := .type "dict", data := .dict #[] }) (t' := s.toks) (fun _ _ q => Heap.get?_push_of_some _ q) (Nat.le_refl _) (obo_ok (Heap.get?_push_size _ rfl)), rfl, h _ (I.hok.fresh (Nat.le_refl _)) (beq_eq_false_iff_ne.mpr (Ne.symm (Nat.ne_of_lt I.big)))⟩⟩
theorem dicO_nil (P : Program) (w : World) : DicO P w { cls := .type "dict", data := .dict #[] } [] := ⟨#[], 0, ⟨rfl, rfl, rfl⟩, rfl, rfl⟩
def rSetX (P : Program) (w : World) (K : PySem.W.Frag) : TSet := fun o i v H Q => ∃ a b ob xs k kvs, o = .ref a ∧ i = .ref b ∧ H a = some (ObO a ob) ∧ DicO P w ob xs ∧ DicR K H kvs xs ∧ (xs.map (·.1)).Nodup ∧ xs.length ≤ sizeLine ∧ SqT K H b (k.map kV) ∧
  ∀ u o', RelV v u → DicO P w o' (storedH xs k b u) → ((storedH xs k b u).map (·.1)).Nodup → Q (upd H a (ObO a o'))
theorem set_dicX {X : Cx} (hu : X.A.units + 1 < cLine) : PSet X (rSetX X.prog X.w X.K) := by
  intro pins s σ H o i v ov iv u Q I ro ri rv h
  obtain ⟨a, b, ob, xs, k, kvs, rfl, rfl, h1, h2, h3, h4, h5, h6, q⟩ := h
  cases ro
  cases ri
  refine wpAny_setItem_heap (hsz := h5) (tupleKind_room_in1 hu) (key_ofS I h6) (dic_of I h1 h2 h3 h4) fun h' dd' hs => ?_
  obtain ⟨q', es, ep, hq, g2, g3, g4, _, g5⟩ := dd'
  exact ⟨_, d_write I (by rw [h1]; exact True.intro) hs ⟨q', hq⟩ (obo_ok hq), q u q' rv ⟨es, ep, g2, g3, g4⟩ g5⟩
def tDGetX (P : Program) (w : World) (K : PySem.W.Frag) (td ty : TE) : TE := fun σ H Q => td σ H fun x H1 => ty σ H1 fun y H2 => ∃ a b ob xs k kvs p v, x = .ref a ∧ y = .ref b ∧ H2 a = some (ObO a ob) ∧ DicO P w ob xs ∧ DicR K H2 kvs xs ∧ (xs.map (·.1)).Nodup ∧ SqT K H2 b (k.map kV) ∧ atKey xs k = some p ∧ RelV v p.2 ∧ Q v H2
theorem pe_dgetX {X : Cx} {o i : Expr} {pos : Pos} {td ty : TE} (hu : X.A.units + 1 < cLine) (ho : PE X o td) (hi : PE X i ty) (hs : NoSl i) : PE X (.Subscript o i pos) (tDGetX X.prog X.w X.K td ty) := by
  refine ⟨fun pins s σ H Q I h => ?_⟩
  refine subD_of PySem.F.slot_dict_getitem.lookup hs (thn (ho.run pins s σ H _ I h) fun u s1 ⟨x, H1, I1, rx, q1⟩ => thn (hi.run pins s1 σ H1 _ I1 q1) fun iv s2 ⟨y, H2, I2, ry, a, b, ob, xs, k, kvs, p, v, ex, ey, h1, h2, h3, h4, h5, h6, h7, q2⟩ => ?_)
  subst ex ey
  cases rx
  cases ry
  have dd := dic_of I2 h1 h2 h3 h4
  exact ⟨dd.typeIs, wpAny_getItem_heap (tupleKind_room_in1 hu) (key_ofS I2 h5) dd h6 ⟨v, H2, I2.tok _, h7, q2⟩⟩
/-- the keys of the dict at d, in their order -/
def ItX (d : Addr) (o : Obj) (xs : DX) : It :=
  ⟨fun i H => H d = some (ObO d o) ∧ i < xs.length, fun i H x H' => H' = H ∧ ∃ q, xs[i]? = some q ∧ x = .ref q.2.1, fun i H => H d = some (ObO d o) ∧ xs.length ≤ i⟩
theorem turn_X {P : Program} {w : World} {K : PySem.W.Frag} {tg : Expr} {d : Addr} {o : Obj} {xs : DX} {es : Array DictEntry} {ep : Nat} (it : Addr) (hod : o.data = .dict es ep) (he : es.toList = xs.map (entryOfKey (tupleKind (mixKind P w)))) :
    Turn P w K tg (ItX d o xs) [it] it (fun i h => h.IsKeyIter it d i xs.length ep) where
  mem := by simp
  obj := fun i h st b hb => by
    have e : b = it := by simpa using hb
    subst e
    obtain ⟨oi, e, c, dd⟩ := st
    exact ⟨oi, e, fun v z => by rw [dd] at z; cases z⟩
  keep := fun i h h' st k => st.at fun oi e => k it (by simp) oi e
  item := by
    intro X hP hw hK hc i pins s σ H E I hf st hg
    subst hP hw hK
    obtain ⟨hd, hi⟩ := hg
    obtain ⟨f0, f1, f2, f3, f4, f5⟩ := hf it (by simp)
    have hgd := obo_get I.hok hd
    have hsz : es.size = xs.length := size_of_entries he
    have hx : xs[i]? = some xs[i] := List.getElem?_eq_getElem hi
    have hen := entry_at he i
    rw [hx] at hen
    refine next_key_item st hgd hod hsz hen fun h' st' sb => ?_
    have I1 : Inv X pins σ H { s with heap := h' } := I.turned (t' := s.toks) (fun b ob hb e => (sb.2 b hb).trans e) f0 f1 f3 f4 f5
    obtain ⟨oi, e, c, dd⟩ := id st'
    exact ⟨_, rfl, go_of (s := { s with heap := h' }) e c dd (by decide) ⟨.ref xs[i].2.1, H, I1, rfl, ⟨rfl, _, hx, rfl⟩, st', fun b hb => (hf b hb).1⟩⟩
  done := by
    intro X hP hw hK hc i pins s σ H E I hf st hg
    subst hP hw hK
    obtain ⟨hd, hi⟩ := hg
    obtain ⟨f0, f1, f2, f3, f4, f5⟩ := hf it (by simp)
    have hgd := obo_get I.hok hd
    have hsz : es.size = xs.length := size_of_entries he
    exact next_key_end (I.ok.hd hc) st hgd hod hsz hi fun h' eb => ⟨rfl, I.turned (t' := s.toks) (fun b ob hb e => eb b ob hb e) f0 f1 f3 f4 f5⟩
  self := fun A i s Q E st h => wpAny_pyIter_keyiter st h
def iX (P : Program) (w : World) (td : TE) : TI := fun σ H R => td σ H fun x H1 => ∃ d o xs, x = .ref d ∧ (d == sysModules) = false ∧ H1 d = some (ObO d o) ∧ DicO P w o xs ∧ R (ItX d o xs) H1
theorem pi_X {X : Cx} {tg e : Expr} {td : TE} (he : PE X e td) : PI X tg e (iX X.prog X.w td) := by
  refine ⟨fun pins s σ H R I h => ?_⟩
  refine thn (he.run pins s σ H _ I h) fun u s1 ⟨x, H1, I1, rx, d, o, xs, ex, hs, hd, ⟨es, ep, hx, hdt, hen⟩, q⟩ => ?_
  subst ex
  cases rx
  have hsz : es.size = xs.length := size_of_entries hen
  refine iter_keys hs (obo_get I1.hok hd) hx hdt (pi_one (tk := s1.toks) I1 _ (turn_X _ hdt hen) ⟨_, Heap.get?_push_size _ rfl, rfl, ?_⟩ q)
  rw [hsz] <;> rfl
/-! ### rules by data -/
section
variable {R : Hp → Hp → Prop} [RelC R] {X : Cx} {γ : List Sl} {pos p : Pos} {P : Po}
theorem s1_dnew (i : Nat) {x : Str} {dp : Pos} (h : ∀ a, P.nx (γ.set i (.own (.b (dicB X.prog X.w []) [a])))) (hN : X.N.Nodup) (hi : X.N[i]? = some x := by rfl) (hx : Loc X.env.scope x := by first | exact Or.inl rfl | exact Or.inr rfl)
    (hs : swapsWith (.Dict [] [] dp) (some (.Name x p)) pos.line X.env = pure false := by rfl) (hf : X.fn x = true ∨ X.env.scope.names.lookup x = some .local := by first | exact .inl rfl | exact .inr rfl | assumption) : S1 R X γ (.Assign [.Name x p] (.Dict [] [] dp) pos) P := fun H0 S0 σ H E W s tk n r b c z =>
  ws_of (ps_set hN hi hx pe_dnewX hs hf) fun a hn hsm => n _ _ _ (h a) (s.putB i (Rel.more s.ref (same_new hn)) (fun l hl => by
    have e : l = a := List.mem_singleton.mp hl
    subst e
    exact ⟨hn, _, upd_same, obo_mut ⟨_, _, rfl⟩⟩) ⟨_, rfl, a, rfl, rfl, _, [], hsm, upd_same, dicO_nil _ _, .nil, List.nodup_nil⟩)
/-- d[k] = v -/
theorem s1_dset (i : Nat) {x : Str} {e ix : Expr} {a : Addr} {kvs : List (Rat × Rat)} {k y : Rat} {p2 : Pos} (he : EE R X γ e (eF y)) (hx : EE R X γ ix (eF k)) (h : P.nx (γ.set i (.own (.b (dicB X.prog X.w (putF kvs k y)) [a])))) (hu : X.A.units + 1 < cLine) (hl : kvs.length ≤ 1000) (hi : γ[i]? = some (.own (.b (dicB X.prog X.w kvs) [a])) := by rfl) (hN : X.N[i]? = some x := by rfl)
    (hv : Vis X.env.scope x := by first | exact Or.inl rfl | exact Or.inr (Or.inl rfl) | exact Or.inr (Or.inr rfl)) (hd : (x == ("__debug__" : Str)) = false := by decide) (hcd : (x == ("__classdict__" : Str)) = false := by decide)
    (ha : ∀ v, assign (.Subscript (.Name x p) ix p2) X.env v = (do
      let ov ← holding [v] (eval (.Name x p) X.env)
      let iv ← holding [v, ov] (eval ix X.env)
      standAt p2
      holding [v, ov, iv] (setItem ov iv v)
      release [v, ov, iv] []) := by intro _; rfl)
    (hs : swapsWithSole [.Subscript (.Name x p) ix p2] e pos.line X.env = pure false := by rfl) (hw : swappedStores [.Subscript (.Name x p) ix p2] e X.env = pure none := by rfl)
    (h1 : (assignEach [.Subscript (.Name x p) ix p2] X.env).map (·.2) = [assign (.Subscript (.Name x p) ix p2) X.env] := by rfl) : S1 R X γ (.Assign [.Subscript (.Name x p) ix p2] e pos) P := fun H0 S0 σ H E W s tk n r bk ct z =>
  ws_of (ps_asg pe_we (pg_sub (pe_var hN hv hd hcd) pe_we (set_dicX hu) ha) hs hw h1) (he H0 S0 σ H _ s fun v H1 r1 d1 => by
    have s1 := s.mono r1
    obtain ⟨v0, e1, _, _⟩ := s1.box i hi
    refine ⟨_, e1, hx H0 S0 σ H1 _ s1 fun u H2 r2 d2 => ?_⟩
    have s2 := s1.mono r2
    obtain ⟨v1, a1, ⟨a', rfl, ea, o, xs, g1, g2, g3, g4, g5⟩, a3⟩ := s2.box i hi
    rw [e1] at a1
    cases a1
    have ea' : a = a' := by simpa using ea
    subst ea'
    obtain ⟨b, rfl, hb⟩ := sqt_frac d2
    refine ⟨a, b, o, xs, fkey k, kvs, rfl, rfl, g2, g3, g4.keep off_in, g5, ?_, sqt_keep off_in hb, fun uu o' ru hO hnd => ?_⟩
    · rw [← g4.len]
      exact Nat.le_of_lt (small1000 hl)
    · refine n _ _ _ h (s2.mutB (l := a) hi e1 (List.mem_singleton.mpr rfl) (obo_mut (let ⟨es, ep, _, q, _⟩ := hO; ⟨es, ep, q⟩)) (fun _ => Iff.rfl) ⟨_, rfl, a, rfl, rfl, o', _, g1, upd_same, hO, ?_, hnd⟩)
      have k5 : Keep (off (Sx S0 γ σ) H2) (off (Sx S0 γ σ) (upd H2 a (ObO a o'))) := fun c w' e' _ => by
        obtain ⟨q1, q2⟩ := off_some e'
        refine off_of q1 ?_
        rw [upd_ne (fun zz => q1 (.inr ⟨i, _, _, hi, e1, by rw [zz]; exact List.mem_singleton.mpr rfl⟩))]
        exact q2
      exact (g4.put hb ru (dt_up r2 d1)).keep k5)
theorem ss_dfreeze {st : List Stmt} (i : Nat) {kvs : List (Rat × Rat)} {a : Addr} (h : SS R X (γ.set i (.fix (dicF X.prog X.w kvs))) st P) (hi : γ[i]? = some (.own (.b (dicB X.prog X.w kvs) [a])) := by rfl) : SS R X γ st P := fun H0 S0 σ H E W s tk n r b c z =>
  h H0 S0 σ H E W (s.freezeB hi fun v Hd Hd' ⟨a', e, ef, o, xs, g1, g2, g3, g4, g5⟩ hf hk => ⟨a', e, o, xs, g1, by rw [hf a' (by rw [ef]; exact List.mem_singleton.mpr rfl)]; exact g2, g3, g4.keep hk, g5⟩) tk n r b c z
theorem ee_dget (j : Nat) {x : Str} {b : Expr} {kvs : List (Rat × Rat)} {k y : Rat} (hb : EE R X γ b (eF k)) (h : lookF kvs k = some y) (hu : X.A.units + 1 < cLine) (hj : γ[j]? = some (.fix (dicF X.prog X.w kvs)) := by rfl) (hs : NoSl b := by exact fun _ _ => rfl) (hN : X.N[j]? = some x := by rfl)
    (hv : Vis X.env.scope x := by first | exact Or.inl rfl | exact Or.inr (Or.inl rfl) | exact Or.inr (Or.inr rfl)) (hd : (x == ("__debug__" : Str)) = false := by decide) (hcd : (x == ("__classdict__" : Str)) = false := by decide) :
    EE R X γ (.Subscript (.Name x p) b pos) (eF y) := fun H0 S0 σ H Q s kk => by
  obtain ⟨v, h1, _⟩ := s.fix j hj
  refine we_of (pe_dgetX hu (pe_var hN hv hd hcd) pe_we hs) ⟨_, h1, hb H0 S0 σ H _ s fun u H2 r2 d2 => ?_⟩
  obtain ⟨v', h1', a, rfl, o, xs, g1, g2, g3, g4, g5⟩ := (s.mono r2).fix j hj
  rw [h1] at h1'
  cases h1'
  obtain ⟨b', rfl, hb'⟩ := sqt_frac d2
  obtain ⟨pp, vv, l1, l2, l3⟩ := g4.look h
  exact ⟨a, b', o, xs, fkey k, kvs, pp, vv, rfl, rfl, (off_some g2).2, g3, g4.keep off_in, g5, sqt_keep off_in hb', l1, l2, kk vv H2 r2 l3⟩
theorem ei_dict (j : Nat) {x : Str} {tg : Expr} {kvs : List (Rat × Rat)} (hj : γ[j]? = some (.fix (dicF X.prog X.w kvs)) := by rfl) (hN : X.N[j]? = some x := by rfl)
    (hv : Vis X.env.scope x := by first | exact Or.inl rfl | exact Or.inr (Or.inl rfl) | exact Or.inr (Or.inr rfl)) (hd : (x == ("__debug__" : Str)) = false := by decide) (hcd : (x == ("__classdict__" : Str)) = false := by decide) :
    EI R X γ tg (.Name x p) (kvs.map fun q => eF q.1) := ⟨_, pi_X (pe_var hN hv hd hcd), fun H0 S0 σ H Rk s k => by
  obtain ⟨v, h1, a, rfl, o, xs, g1, g2, g3, g4, g5⟩ := s.fix j hj
  refine ⟨_, h1, a, o, xs, rfl, g1, (off_some g2).2, g3, k _ H s.ref ?_⟩
  have hl : (kvs.map fun q => eF q.1).length = xs.length := by rw [List.length_map]; exact g4.len
  have up : ∀ (H' : Hp) (S' : Addr → Prop), Keep (off (Sx S0 γ σ) H) (off S' H') → H' a = some (ObO a o) := fun H' S' kp => (off_some (kp a _ g2 fun _ z => nomatch z)).2
  refine ⟨fun i H' S' kp hi => ⟨up H' S' kp, by omega⟩, fun i H' S' kp hi => ⟨up H' S' kp, by omega⟩, fun i H' S' x H'' d kp hd y hx => ?_⟩
  obtain ⟨e, q, hq, rfl⟩ := y
  subst e
  refine ⟨Same.refl _, ?_⟩
  rw [List.getElem?_map] at hx
  cases hk : kvs[i]? with
  | none => rw [hk] at hx; cases hx
  | some pr =>
    rw [hk] at hx
    cases hx
    obtain ⟨q', hq', e1, e2, _⟩ := paired_get g4 hk
    rw [hq] at hq'
    cases hq'
    rw [e1] at e2
    exact dt_frac (sqt_keep kp e2)⟩
end
end An

/-! Dicts with whole numbers for keys and instances of own classes, as data. -/
namespace An
open PySem PySem.Spec PyProof.Rows L2
def dcD (ks : List Int) (ds : List D) : D := .dict [(.list (ks.map .int), .list ds)]
def obD (x : Str) (ns : List Str) (ds : List D) : D := .dict [(.str x, .list (ns.map .str)), (.none, .list ds)]
theorem mapInt_inj : ∀ {a b : List Int}, a.map PyData.int = b.map PyData.int → a = b
  | [], [], _ => rfl
  | [], _ :: _, h => by cases h
  | _ :: _, [], h => by cases h
  | x :: a, y :: b, h => by
    injection h with h1 h2
    injection h1 with h1
    rw [h1, mapInt_inj h2]
theorem mapStr_inj : ∀ {a b : List Str}, a.map PyData.str = b.map PyData.str → a = b
  | [], [], _ => rfl
  | [], _ :: _, h => by cases h
  | _ :: _, [], h => by cases h
  | x :: a, y :: b, h => by
    injection h with h1 h2
    injection h1 with h1
    rw [h1, mapStr_inj h2]
section
variable {K : PySem.W.Frag} {H : Hp} {v : V}
theorem dt_dcD {ks : List Int} {ds : List D} (h : Dt K H v (dcD ks ds)) : ∃ a vs, v = .ref a ∧ H a = some (.dK (ks.map Sum.inl |>.zip vs)) ∧ ks.length = vs.length ∧ DtAll K H vs ds := by
  unfold dcD at h
  cases h with
  | dic h1 h2 h3 h4 =>
    rw [← mapInt_inj h3] at h1 h2
    exact ⟨_, _, rfl, h1, h2, h4⟩
theorem dt_obD {x : Str} {ns : List Str} {ds : List D} (h : Dt K H v (obD x ns ds)) : ∃ p dx vs, v = .ref p ∧ ObC K (He.ga K x) ∧ H p = some (.ins (He.ga K x) dx (ns.zip vs)) ∧ ns.length = vs.length ∧ DtAll K H vs ds := by
  unfold obD at h
  cases h with
  | obj h0 h1 h2 h3 h4 =>
    rw [← mapStr_inj h3] at h1 h2
    exact ⟨_, _, _, rfl, h0, h1, h2, h4⟩
theorem dcD_of {a : Addr} {ks : List Int} {vs : List V} {ds : List D} (h1 : H a = some (.dK (ks.map Sum.inl |>.zip vs))) (h2 : ks.length = vs.length) (h3 : DtAll K H vs ds) : Dt K H (.ref a) (dcD ks ds) := .dic h1 h2 rfl h3
theorem obD_of {p dx : Addr} {x : Str} {ns : List Str} {vs : List V} {ds : List D} (h0 : ObC K (He.ga K x)) (h1 : H p = some (.ins (He.ga K x) dx (ns.zip vs))) (h2 : ns.length = vs.length) (h3 : DtAll K H vs ds) : Dt K H (.ref p) (obD x ns ds) := .obj h0 h1 h2 rfl h3
end
/-! ### keys and values -/
def lookI (ks : List Int) (ds : List D) (k : Int) : Option D := ((ks.zip ds).find? fun p => decide (p.1 = k)).map (·.2)
section
variable {K : PySem.W.Frag} {H : Hp}
theorem lookI_val : ∀ {ks : List Int} {vs : List V} {ds : List D} {k : Int} {d : D}, DtAll K H vs ds → ks.length = vs.length → lookI ks ds k = some d → ∃ v, valV ((ks.map (Sum.inl : Int → Key)).zip vs) (Sum.inl k) = some v ∧ Dt K H v d
  | [], _, _, _, _, _, _, h => by simp [lookI] at h
  | k0 :: ks, _, _, k, d, .nil, hl, h => by cases hl
  | k0 :: ks, _, _, k, d, .cons (v := v0) (vs := vs) (d := d0) (ds := ds) h1 h2, hl, h => by
    by_cases e : k0 = k
    · subst e
      rw [show lookI (k0 :: ks) (d0 :: ds) k0 = some d0 by simp [lookI]] at h
      cases h
      exact ⟨v0, by simp [valV], h1⟩
    · rw [show lookI (k0 :: ks) (d0 :: ds) k = lookI ks ds k by simp [lookI, e]] at h
      obtain ⟨v, e1, e2⟩ := lookI_val h2 (by simpa using hl) h
      refine ⟨v, ?_, e2⟩
      rw [List.map_cons, List.zip_cons_cons, valV_neg (fun z => e (Sum.inl.inj z))]
      exact e1
theorem valV_isSome : ∀ {ks : List Int} {vs : List V} {k : Int}, ks.length = vs.length → (valV ((ks.map (Sum.inl : Int → Key)).zip vs) (Sum.inl k)).isSome = decide (k ∈ ks)
  | [], _, _, _ => by simp [valV]
  | k0 :: ks, [], _, h => by cases h
  | k0 :: ks, v :: vs, k, h => by
    rw [List.map_cons, List.zip_cons_cons]
    by_cases e : k0 = k
    · rw [valV_pos (by rw [e])]
      simp [e]
    · rw [valV_neg (fun z => e (Sum.inl.inj z)), valV_isSome (by simpa using h)]
      simp [List.mem_cons, Ne.symm e]
theorem zip_snoc {α β : Type} : ∀ {a : List α} {b : List β} {x : α} {y : β}, a.length = b.length → a.zip b ++ [(x, y)] = (a ++ [x]).zip (b ++ [y])
  | [], [], _, _, _ => rfl
  | [], _ :: _, _, _, h => by cases h
  | _ :: _, [], _, _, h => by cases h
  | p :: a, q :: b, x, y, h => by
    simp only [List.zip_cons_cons, List.cons_append]
    rw [zip_snoc (by simpa using h)]
theorem putI_new {ks : List Int} {vs : List V} {k : Int} {v : V} (h : ks.length = vs.length) (n : k ∉ ks) : putK ((ks.map (Sum.inl : Int → Key)).zip vs) (Sum.inl k) v = ((ks ++ [k]).map (Sum.inl : Int → Key)).zip (vs ++ [v]) := by
  have e := valV_isSome (k := k) h
  rw [decide_eq_false n] at e
  rw [putK_new v (Option.not_isSome_iff_eq_none.mp (by rw [e]; exact Bool.false_ne_true)), List.map_append]
  exact zip_snoc (by rw [List.length_map]; exact h)
theorem putI_map : ∀ {ks : List Int} {vs : List V} {k : Int} {v : V} {j : Nat}, ks.length = vs.length → ks.Nodup → ks[j]? = some k → ((ks.map (Sum.inl : Int → Key)).zip vs).map (fun kv => if kv.1 = (Sum.inl k : Key) then (kv.1, v) else kv) = (ks.map (Sum.inl : Int → Key)).zip (vs.set j v)
  | [], _, _, _, _, _, _, h => by simp at h
  | _ :: _, [], _, _, _, h, _, _ => by cases h
  | k0 :: ks, v0 :: vs, k, v, 0, h, nd, e => by
    have e : k0 = k := by simpa using e
    subst e
    simp only [List.map_cons, List.zip_cons_cons, List.set_cons_zero, if_true]
    congr 1
    refine (List.map_congr_left fun kv hkv => ?_).trans (List.map_id _)
    have q : kv.1 ∈ ks.map (Sum.inl : Int → Key) := (List.of_mem_zip hkv).1
    obtain ⟨z, hz, e2⟩ := List.mem_map.mp q
    rw [if_neg]
    · rfl
    · rw [← e2]
      exact fun w => (List.nodup_cons.mp nd).1 (by rw [← Sum.inl.inj w]; exact hz)
  | k0 :: ks, v0 :: vs, k, v, j + 1, h, nd, e => by
    have e : ks[j]? = some k := by simpa using e
    have ne : k0 ≠ k := fun z => (List.nodup_cons.mp nd).1 (by rw [z]; exact List.mem_of_getElem? e)
    simp only [List.map_cons, List.zip_cons_cons, List.set_cons_succ]
    rw [if_neg (fun z => ne (Sum.inl.inj z)), putI_map (by simpa using h) (List.nodup_cons.mp nd).2 e]
theorem putI_old {ks : List Int} {vs : List V} {k : Int} {v : V} {j : Nat} (h : ks.length = vs.length) (nd : ks.Nodup) (e : ks[j]? = some k) : putK ((ks.map (Sum.inl : Int → Key)).zip vs) (Sum.inl k) v = (ks.map (Sum.inl : Int → Key)).zip (vs.set j v) := by
  unfold putK
  rw [valV_any, valV_isSome h, decide_eq_true (List.mem_of_getElem? e), if_pos rfl]
  exact putI_map h nd e
theorem look_zip : ∀ {ns : List Str} {vs : List V} {ds : List D} {f : Str} {d : D}, DtAll K H vs ds → ns.length = vs.length → (ns.zip ds).lookup f = some d → ∃ v, (ns.zip vs).lookup f = some v ∧ Dt K H v d
  | [], _, _, _, _, _, _, h => by simp at h
  | k0 :: ks, _, _, k, d, .nil, hl, h => by cases hl
  | k0 :: ks, _, _, k, d, .cons (v := v0) (vs := vs) (d := d0) (ds := ds) h1 h2, hl, h => by
    rw [List.zip_cons_cons, List.lookup_cons] at h
    rw [List.zip_cons_cons, List.lookup_cons]
    cases e : (k == k0) with
    | true =>
      rw [e] at h
      cases h
      exact ⟨v0, rfl, h1⟩
    | false =>
      rw [e] at h
      exact look_zip h2 (by simpa using hl) h
theorem look_none : ∀ {ns : List Str} {vs : List V} {f : Str}, f ∉ ns → (ns.zip vs).lookup f = none
  | [], _, _, _ => by simp
  | _ :: _, [], _, _ => by simp
  | n :: ns, v :: vs, f, h => by
    rw [List.zip_cons_cons, List.lookup_cons]
    rw [show (f == n) = false from beq_eq_false_iff_ne.mpr fun z => h (by rw [z]; exact List.mem_cons_self)]
    exact look_none fun z => h (List.mem_cons_of_mem _ z)
end
/-! ### expressions -/
section
variable {R : Hp → Hp → Prop} [RelC R] {X : Cx} {γ : List Sl} {pos p : Pos} {a b : Expr}
/-- e.f of an instance -/
theorem ee_fld {x f : Str} {ns : List Str} {ds : List D} {d : D} (ha : EE R X γ a (obD x ns ds)) (hf : (ns.zip ds).lookup f = some d) (hn : NoAttr X.K (He.ga X.K x) f) (hb : attributeBase a f X.env (eval a X.env) = eval a X.env := by rfl) :
    EE R X γ (.Attribute a f pos) d := fun H0 S0 σ H Q s k => we_of (pe_fld pe_we hb) (ha H0 S0 σ H _ s fun v H1 r1 d1 => by
  obtain ⟨p, dx, vs, rfl, h0, h1, h2, h3⟩ := dt_obD d1
  obtain ⟨w, e1, e2⟩ := look_zip h3 h2 hf
  exact ⟨p, _, dx, _, w, rfl, (off_some h1).2, h0.cl, hn, e1, k w H1 r1 e2⟩)
theorem ee_dlen {ks : List Int} {ds : List D} (ha : EE R X γ a (dcD ks ds)) (hm : X.mg "len" = none) (hg : Gl X "len" := by rfl) (he : starEach [a] X.env = (false, eval a X.env) :: starEach [] X.env := by rfl) (hpl : (backTo pos (starEach [] X.env)).any (·.1) = false := by rfl) :
    EE R X γ (.Call (.Name "len" p) [a] [] pos) (.int ks.length) := ee_callB (ea_cons ha ea_nil he) ⟨_, call_lenD, fun H vs Q hd k => by
  cases hd with
  | cons d t =>
    cases t
    obtain ⟨a, ws, rfl, h1, h2, h3⟩ := dt_dcD d
    refine ⟨a, _, rfl, h1, ?_⟩
    rw [List.length_zip, List.length_map, ← h2, Nat.min_self]
    exact k _ fun _ => .int _⟩ hm PySem.boot_len hg (by decide) (by decide) he hpl
/-- d[k] -/
theorem ee_dgetI {ks : List Int} {ds : List D} {i : Int} {d : D} {k : Nat} (g : Gx X k) (ha : EE R X γ a (dcD ks ds)) (hb : EE R X γ b (.int i)) (h : lookI ks ds i = some d) (hs : NoSl b := by exact fun _ _ => rfl) : EE R X γ (.Subscript a b pos) d := fun H0 S0 σ H Q s kk =>
  we_of (pe_dget (by have := g.room.un; omega) pe_we pe_we hs) (ha H0 S0 σ H _ s fun v H1 r1 d1 => hb H0 S0 σ H1 _ (s.mono r1) fun u H2 r2 d2 => by
    cases d2
    obtain ⟨c, vs, rfl, h1, h2, h3⟩ := dt_dcD (dt_up r2 d1)
    obtain ⟨w, e1, e2⟩ := lookI_val h3 h2 h
    exact ⟨c, w, rfl, e1 ▸ DGet.k (k := Sum.inl i) (off_some h1).2, kk w H2 (Rel.trans r1 r2) e2⟩)
theorem od_dnotin {ks : List Int} {ds : List D} {i : Int} {k : Nat} (g : Gx X k) : OpD X (compareOp .NotIn) (.int i) (dcD ks ds) (.bool (!decide (i ∈ ks))) := ⟨fun x y H Q => ∃ a o, y = .ref a ∧ DGet H a x o ∧ Q (.bl (!o.isSome)) H, fun pins s σ H x y v u Q I rx ry h => by
    obtain ⟨a, o, rfl, h1, q⟩ := h
    obtain rfl : u = Value.ref a := ry
    exact d_notIn (by have := g.room.un; omega) I h1 rx fun s3 I3 => (⟨.bl (!o.isSome), H, I3, rfl, q⟩), fun H x y Q hx hy kk => by
    cases hx
    obtain ⟨c, vs, rfl, h1, h2, h3⟩ := dt_dcD hy
    refine ⟨c, _, rfl, DGet.k (k := Sum.inl i) h1, ?_⟩
    rw [valV_isSome h2]
    exact kk _ fun _ => .bl _⟩
theorem od_din {ks : List Int} {ds : List D} {i : Int} {k : Nat} (g : Gx X k) : OpD X (compareOp .In) (.int i) (dcD ks ds) (.bool (decide (i ∈ ks))) := ⟨fun x y H Q => ∃ a o, y = .ref a ∧ DGet H a x o ∧ Q (.bl o.isSome) H, fun pins s σ H x y v u Q I rx ry h => by
    obtain ⟨a, o, rfl, h1, q⟩ := h
    obtain rfl : u = Value.ref a := ry
    exact d_in (by have := g.room.un; omega) I h1 rx fun s3 I3 => ⟨.bl o.isSome, H, I3, rfl, q⟩, fun H x y Q hx hy kk => by
    cases hx
    obtain ⟨c, vs, rfl, h1, h2, h3⟩ := dt_dcD hy
    refine ⟨c, _, rfl, DGet.k (k := Sum.inl i) h1, ?_⟩
    rw [valV_isSome h2]
    exact kk _ fun _ => .bl _⟩
theorem perm_sorted : ∀ {a b : List Int}, a.Perm b → a.Pairwise (· ≤ ·) → b.Pairwise (· ≤ ·) → a = b := fun h1 h2 h3 => h1.eq_of_pairwise (fun _ _ _ _ => Int.le_antisymm) h2 h3
/-- sorted(d) -/
theorem ee_dsorted {ks : List Int} {ds : List D} (ha : EE R X γ a (dcD ks ds)) (hk : ks.Pairwise (· ≤ ·)) (hl : ks.length < 64) (hc : X.calm = true) (hm : X.mg "sorted" = none) (hg : Gl X "sorted" := by rfl) (he : starEach [a] X.env = (false, eval a X.env) :: starEach [] X.env := by rfl) (hpl : (backTo pos (starEach [] X.env)).any (·.1) = false := by rfl) :
    EE R X γ (.Call (.Name "sorted" p) [a] [] pos) (.list (ks.map .int)) := fun H0 S0 σ H Q s k =>
  we_of (pe_callB (call_sortedDI hc) hg hm (by decide +kernel) (pa_cons pe_we pa_nil he) (by decide) (by decide) he hpl) (ha H0 S0 σ H _ s fun v H1 r1 d1 => by
    obtain ⟨c, vs, rfl, h1, h2, h3⟩ := dt_dcD d1
    refine ⟨c, _, ks, rfl, .inl (off_some h1).2, ?_, hl, fun ys q hp ho hn => ?_⟩
    · rw [List.map_fst_zip (by rw [List.length_map, h2]; exact Nat.le_refl _)]
    · rw [perm_sorted hp ho hk]
      have sd := s.mono r1
      refine k _ _ (Rel.more r1 (same_new hn)) (.lst (.inl (off_of (fun z => sd.there z hn) upd_same)) (dts_ints _)))
end
end An

/-! Methods by data: the instance is read, nothing is changed. -/
namespace An
open PySem PySem.Spec PyProof.Rows L2
/-- a method of the class x that keeps such a promise; the first of its data is the instance -/
structure FnM_ (P : Program) (w : World) (K : PySem.W.Frag) (mg : Str → Option Value) (base : Heap) (x m : Str) (k n : Nat) (Val : List D → D → Prop) (Exc : List D → Value → Prop) : Prop where
  ok : ∃ (f : Addr) (fd : FuncData) (ps : List Str), FnOk P w K mg base (L2N.CX P w) k f fd ps (spD K n Val Exc) ∧ Meth K (He.ga K x) m f ∧ Binds K fd ps []
  cl : Cls K (He.ga K x)
theorem FnM_.mono {Pr : Program} {w : World} {K : PySem.W.Frag} {mg : Str → Option Value} {base : Heap} {x m : Str} {k k' n : Nat} {Val : List D → D → Prop} {Exc : List D → Value → Prop} (F : FnM_ Pr w K mg base x m k n Val Exc) (h : k ≤ k') : FnM_ Pr w K mg base x m k' n Val Exc := by
  obtain ⟨f, fd, ps, h1, h2, h3⟩ := F.ok
  exact ⟨⟨f, fd, ps, h1.mono h, h2, h3⟩, F.cl⟩
/-- a method's body by data -/
theorem fnM_mk {Pr : Program} {w : World} {K : PySem.W.Frag} {mg : Str → Option Value} {base : Heap} {x m q : Str} {st : Stmt} {f : Addr} {fd : FuncData} {N ps : List Str} {k n : Nat} {Val : List D → D → Prop} {Exc : List D → Value → Prop}
    (F : FunD K m q (defArgs st) (defBody st) (defScope st) [] [] f fd) (S : FnScope N ps (defScope st)) (hm : Meth K (He.ga K x) m f) (cl : Cls K (He.ga K x)) (hb : Binds K fd ps []) (hns : base.NoSeer) (htr : Pr.given.tree = none) (hk : 40 ≤ k) (hn : ps.length = n)
    (body : ∀ (cdv : Value) (A : Around) (outer : List Env) (s : Shared) (H : Hp) (E : XK) (X : Cx), X = cxOf (L2N.CX Pr w) Pr w K mg base N q (defScope st) f cdv A outer s H E → Gx X k → PassesOwn (model X.prog X.w) X.A X.env X.xe → ∀ ds : List D, ds.length = n →
      (∀ d, Val ds d → SS Same X (ds.map .dat ++ List.replicate (N.length - n) .no) (defBody st) { rt := fun e => e = d, nx := fun _ => d = .none }) ∧
      (∀ c, Exc ds c → SS Same X (ds.map .dat ++ List.replicate (N.length - n) .no) (defBody st) { rz := fun e => e = c })) : FnM_ Pr w K mg base x m (k + 1) n Val Exc := by
  refine ⟨⟨f, fd, ps, F.ok (CX := L2N.CX Pr w) S (fun vs H Q E h => by rw [h.1, hn]) (fun cdv A outer s H vs Q E hr h => ?_), hm, hb⟩, cl⟩
  obtain ⟨hl, Sv, ds, hS, hd, hq⟩ := h
  let X : Cx := cxOf (L2N.CX Pr w) Pr w K mg base N q (defScope st) f cdv A outer s H E
  have hdl : ds.length = n := by rw [← dps_len hd, hl]
  have gx : Gx X k := ⟨hr, hk, hns, htr, ⟨_, _, rfl, S.gen, S.co, rfl, rfl⟩⟩
  have tk : L2N.Takes X (fun c d _ H' => E c d H') := L2N.takes_of rfl rfl rfl rfl
  have pss : PassesOwn (model X.prog X.w) X.A X.env X.xe := passes_of rfl
  obtain ⟨b1, b2⟩ := body cdv A outer s H E X rfl gx pss ds hdl
  have si : SI Same K H Sv (ds.map .dat ++ List.replicate (N.length - n) .no) (L2.start N vs) H := si_start hS hd hl hdl
  refine ⟨wss X (defBody st), pss_wss, ?_⟩
  rcases hq with ⟨d, hv, hk⟩ | ⟨c, hv, hk⟩
  · exact b1 d hv H Sv _ H _ E si tk (fun γ' σ' H' e s' => hk .non H' s'.rel (by rw [show d = .none from e]; exact .non)) ⟨fun e v H' he r' dv => hk v H' r' (by rw [← show e = d from he]; exact dv), fun _ _ _ _ h => h.elim⟩ (fun _ _ _ h _ => h.elim) (fun _ _ _ h _ => h.elim) fun c H' h _ => h.elim
  · exact b2 c hv H Sv _ H _ E si tk (fun γ' σ' H' e s' => e.elim) ⟨fun e v H' he r' dv => he.elim, fun _ _ _ _ h => h.elim⟩ (fun _ _ _ h _ => h.elim) (fun _ _ _ h _ => h.elim) fun e H' h r' => by
      rw [show e = c from h]
      exact hk H' r'
section
variable {R : Hp → Hp → Prop} [RelC R] {X : Cx} {γ : List Sl} {P : Po} {pos apos : Pos}
/-- the shape of o.m(..) -/
def MShape (X : Cx) (o : Expr) (m : Str) (apos : Pos) (es : List Expr) (pos : Pos) (pl : Sem Bool) : Prop :=
  eval (.Call (.Attribute o m apos) es [] pos) X.env = (do
      let ov ← eval o X.env
      standAt apos.atName
      let (f, first) ← holding [ov] (getMethod ov m pl)
      callWith pos f first (backTo pos (starEach es X.env)) (backToKw pos (keywordEach [] X.env)))
/-- what o.m(..) comes to, or raises, by the raw readings -/
theorem we_meth {x m : Str} {k n : Nat} {Val : List D → D → Prop} {Exc : List D → Value → Prop} {o e : Expr} {es : List Expr} {ns : List Str} {fs ds : List D} {pl : Sem Bool} {W : XK} {H0 : Hp} {S0 : Addr → Prop} {σ : L2.St} {H : Hp} {Q : VK} (F : FnM_ X.prog X.w X.K X.mg X.base x m k n Val Exc) (hr : Room k X.A) (hm : m ∉ ns) (ho : EE R X γ o (obD x ns fs)) (ha : EA R X γ (e :: es) ds) (hn : (obD x ns fs :: ds).length = n)
    (he : starEach (e :: es) X.env = (false, eval e X.env) :: starEach es X.env) (hpl : (backTo pos (starEach es X.env)).any (·.1) = false) (ht : MShape X o m apos (e :: es) pos pl) (hx : Passes (L2N.CX X.prog X.w) X W)
    (s : SI R X.K H0 S0 γ σ H) (h : (∃ d, Val (obD x ns fs :: ds) d ∧ ∀ v H2, R H H2 → Dt X.K (off (Sx S0 γ σ) H2) v d → Q v H2) ∨ (∃ c, Exc (obD x ns fs :: ds) c ∧ ∀ H2, R H H2 → W c none H2)) : we X (.Call (.Attribute o m apos) (e :: es) [] pos) σ H Q := by
  obtain ⟨f, fd, ps, h1, h2, h3⟩ := F.ok
  refine we_of (pe_meth (E := W) (pl := pl) pe_we F.cl h2 h1 hr h3 .nil hx pa_wa he hpl ht) (ho H0 S0 σ H _ s fun v H1 r1 d1 => ?_)
  obtain ⟨p, dx, vs, rfl, h0, g1, g2, g3⟩ := dt_obD d1
  refine ⟨p, dx, _, rfl, (off_some g1).2, look_none hm, ha H0 S0 σ H1 _ (s.mono r1) fun us H2 r2 d2 => ?_⟩
  rw [List.append_nil]
  have s2 := s.mono (Rel.trans r1 r2)
  refine ⟨?_, Sx S0 γ σ, obD x ns fs :: ds, sx_dom s2, .cons (dt_up r2 d1) d2, ?_⟩
  · rw [List.length_cons, dps_len d2]
    exact hn
  · rcases h with ⟨d, hv, hq⟩ | ⟨c, hv, hq⟩
    · exact .inl ⟨d, hv, fun v H3 sm dv => hq v H3 (Rel.more (Rel.trans r1 r2) sm) dv⟩
    · exact .inr ⟨c, hv, fun H3 sm => hq H3 (Rel.more (Rel.trans r1 r2) sm)⟩
theorem we_meth0 {x m : Str} {k n : Nat} {Val : List D → D → Prop} {Exc : List D → Value → Prop} {o : Expr} {ns : List Str} {fs : List D} {pl : Sem Bool} {W : XK} {H0 : Hp} {S0 : Addr → Prop} {σ : L2.St} {H : Hp} {Q : VK} (F : FnM_ X.prog X.w X.K X.mg X.base x m k n Val Exc) (hr : Room k X.A) (hm : m ∉ ns) (ho : EE R X γ o (obD x ns fs)) (hn : n = 1)
    (ht : MShape X o m apos [] pos pl) (hx : Passes (L2N.CX X.prog X.w) X W)
    (s : SI R X.K H0 S0 γ σ H) (h : (∃ d, Val [obD x ns fs] d ∧ ∀ v H2, R H H2 → Dt X.K (off (Sx S0 γ σ) H2) v d → Q v H2) ∨ (∃ c, Exc [obD x ns fs] c ∧ ∀ H2, R H H2 → W c none H2)) : we X (.Call (.Attribute o m apos) [] [] pos) σ H Q := by
  obtain ⟨f, fd, ps, h1, h2, h3⟩ := F.ok
  refine we_of (pe_meth0 (E := W) (pl := pl) pe_we F.cl h2 h1 hr h3 .nil hx ht) (ho H0 S0 σ H _ s fun v H1 r1 d1 => ?_)
  obtain ⟨p, dx, vs, rfl, h0, g1, g2, g3⟩ := dt_obD d1
  refine ⟨p, dx, _, rfl, (off_some g1).2, look_none hm, ?_⟩
  have s2 := s.mono r1
  refine ⟨by rw [hn]; rfl, Sx S0 γ σ, [obD x ns fs], sx_dom s2, .cons d1 .nil, ?_⟩
  rcases h with ⟨d, hv, hq⟩ | ⟨c, hv, hq⟩
  · exact .inl ⟨d, hv, fun v H3 sm dv => hq v H3 (Rel.more r1 sm) dv⟩
  · exact .inr ⟨c, hv, fun H3 sm => hq H3 (Rel.more r1 sm)⟩
section
variable {x m : Str} {k n : Nat} {Val : List D → D → Prop} {Exc : List D → Value → Prop} {o e : Expr} {es : List Expr} {ns : List Str} {fs ds : List D} {pl : Sem Bool}
theorem ee_meth {d : D} (F : FnM_ X.prog X.w X.K X.mg X.base x m k n Val Exc) (hr : Room k X.A) (ho : EE R X γ o (obD x ns fs)) (ha : EA R X γ (e :: es) ds) (hv : Val (obD x ns fs :: ds) d) (hm : m ∉ ns := by decide) (hn : (obD x ns fs :: ds).length = n := by rfl)
    (he : starEach (e :: es) X.env = (false, eval e X.env) :: starEach es X.env := by rfl) (hpl : (backTo pos (starEach es X.env)).any (·.1) = false := by rfl) (ht : MShape X o m apos (e :: es) pos pl := by rfl) : EE R X γ (.Call (.Attribute o m apos) (e :: es) [] pos) d := fun H0 S0 σ H Q s kk =>
  we_meth (W := E0) F hr hm ho ha hn he hpl ht passN s (.inl ⟨d, hv, kk⟩)
theorem ee_meth0 {d : D} (F : FnM_ X.prog X.w X.K X.mg X.base x m k n Val Exc) (hr : Room k X.A) (ho : EE R X γ o (obD x ns fs)) (hv : Val [obD x ns fs] d) (hm : m ∉ ns := by decide) (hn : n = 1 := by rfl)
    (ht : MShape X o m apos [] pos pl := by rfl) : EE R X γ (.Call (.Attribute o m apos) [] [] pos) d := fun H0 S0 σ H Q s kk =>
  we_meth0 (W := E0) F hr hm ho hn ht passN s (.inl ⟨d, hv, kk⟩)
theorem ex_meth {c : Value} (F : FnM_ X.prog X.w X.K X.mg X.base x m k n Val Exc) (hr : Room k X.A) (ho : EE R X γ o (obD x ns fs)) (ha : EA R X γ (e :: es) ds) (hv : Exc (obD x ns fs :: ds) c) (hm : m ∉ ns := by decide) (hn : (obD x ns fs :: ds).length = n := by rfl)
    (he : starEach (e :: es) X.env = (false, eval e X.env) :: starEach es X.env := by rfl) (hpl : (backTo pos (starEach es X.env)).any (·.1) = false := by rfl) (ht : MShape X o m apos (e :: es) pos pl := by rfl) : EX R X γ (.Call (.Attribute o m apos) (e :: es) [] pos) c := fun H0 S0 σ H Q W s tk z =>
  we_meth (W := W) F hr hm ho ha hn he hpl ht (L2N.passes_call tk fun _ _ _ _ h => h) s (.inr ⟨c, hv, z⟩)
theorem ex_meth0 {c : Value} (F : FnM_ X.prog X.w X.K X.mg X.base x m k n Val Exc) (hr : Room k X.A) (ho : EE R X γ o (obD x ns fs)) (hv : Exc [obD x ns fs] c) (hm : m ∉ ns := by decide) (hn : n = 1 := by rfl)
    (ht : MShape X o m apos [] pos pl := by rfl) : EX R X γ (.Call (.Attribute o m apos) [] [] pos) c := fun H0 S0 σ H Q W s tk z =>
  we_meth0 (W := W) F hr hm ho hn ht (L2N.passes_call tk fun _ _ _ _ h => h) s (.inr ⟨c, hv, z⟩)
/-- an expression that raises, as a statement -/
theorem s1_exX {e : Expr} {c : Value} (he : EX R X γ e c) (h : P.rz c) (hs : swapsWith e none pos.line X.env = pure false := by rfl) : S1 R X γ (.Expr e pos) P := fun H0 S0 σ H E W s tk nn r bk ct z =>
  ws_of (ps_expr pe_we hs) (he H0 S0 σ H _ W s tk fun H2 r2 => z c H2 h (Rel.trans s.rel r2))
theorem s1_retX {e : Expr} {c : Value} (he : EX R X γ e c) (h : P.rz c) : S1 R X γ (.Return (some e) pos) P := fun H0 S0 σ H E W s tk nn r bk ct z =>
  ws_of (ps_ret pe_we) (he H0 S0 σ H _ W s tk fun H2 r2 => z c H2 h (Rel.trans s.rel r2))
end
end
/-! ### a thing of one's own, read -/
/-- data that no heap is asked for -/
def Imm (d : D) : Prop := ∀ (K : PySem.W.Frag) (H H' : Hp) (v : V), Dt K H v d → Dt K H' v d
theorem imm_non : Imm .none := fun _ _ _ _ h => by cases h; exact .non
theorem imm_bl {b : Bool} : Imm (.bool b) := fun _ _ _ _ h => by cases h; exact .bl b
theorem imm_int {i : Int} : Imm (.int i) := fun _ _ _ _ h => by cases h; exact .int i
theorem imm_str {x : Str} : Imm (.str x) := fun _ _ _ _ h => by cases h; exact .str x
/-- that a thing of make B is the data d, once it is left as it is -/
def Frz (B : Bx) (d : D) : Prop := ∀ (K : PySem.W.Frag) (v : V) (fs : List Addr) (H Hd Hd' : Hp), B.at_ K v fs H Hd → (∀ a ∈ fs, Hd' a = H a) → Keep Hd Hd' → Dt K Hd' v d
theorem SI.freezeD {R : Hp → Hp → Prop} [Rel R] {K : PySem.W.Frag} {H0 H : Hp} {S0 : Addr → Prop} {γ : List Sl} {σ : L2.St} (s : SI R K H0 S0 γ σ H) {i : Nat} {B : Bx} {fs : List Addr} {d : D} (hi : γ[i]? = some (.own (.b B fs))) (h : Frz B d) : SI R K H0 S0 (γ.set i (.dat d)) σ H := by
  obtain ⟨v, e1, h1, h2⟩ := s.box i hi
  have hσ : σ.set i (some v) = σ := by
    have hlt := (List.getElem?_eq_some_iff.mp e1).1
    have e := (List.getElem?_eq_some_iff.mp e1).2
    rw [← e]
    exact List.set_getElem_self hlt
  have sub : ∀ a, Sx S0 (γ.set i (.dat d)) (σ.set i (some v)) a → Sx S0 γ σ a := sx_set fun a f => False.elim f
  have kp : Keep (off (Sx S0 γ σ) H) (off (Sx S0 (γ.set i (.dat d)) (σ.set i (some v))) H) := off_keep (Keep.refl H) sub
  have nl : ∀ l ∈ fs, ¬ Sx S0 (γ.set i (.dat d)) (σ.set i (some v)) l := fun l hl z => by
    rcases z with z | ⟨j, z⟩
    · exact s.dom l z (h2 l hl).1
    · rcases fp_set z with ⟨_, f⟩ | ⟨nj, f⟩
      · exact f
      · exact nj (s.inj j i l f ⟨_, _, hi, e1, hl⟩)
  have t := s.updS i (some v) (.dat d) s.rel (fun a f => False.elim f) (fun _ _ _ _ => rfl) kp ⟨v, rfl, h K v fs _ _ _ h1 (fun a ha => by
    unfold off
    rw [if_neg (nl a ha)]) kp⟩
  rw [hσ] at t
  exact t
theorem ss_freezeD {R : Hp → Hp → Prop} [RelC R] {X : Cx} {γ : List Sl} {P : Po} {st : List Stmt} (i : Nat) {B : Bx} {fs : List Addr} {d : D} (fz : Frz B d) (h : SS R X (γ.set i (.dat d)) st P) (hi : γ[i]? = some (.own (.b B fs)) := by rfl) : SS R X γ st P := fun H0 S0 σ H E W s tk n r b c z => h H0 S0 σ H E W (s.freezeD hi fz) tk n r b c z
section
variable {R : Hp → Hp → Prop} [RelC R] {X : Cx} {γ : List Sl} {B : Bx} {fs : List Addr} {D0 : D}
theorem et_lend (j : Nat) {e : Expr} {b : Bool} (fz : Frz B D0) (hj : γ[j]? = some (.own (.b B fs))) (h : ET R X (γ.set j (.dat D0)) e b) : ET R X γ e b := fun H0 S0 σ H Q s k => h H0 S0 σ H Q (s.freezeD hj fz) k
theorem ee_lend (j : Nat) {e : Expr} {d : D} (fz : Frz B D0) (hd : Imm d) (hj : γ[j]? = some (.own (.b B fs))) (h : EE R X (γ.set j (.dat D0)) e d) : EE R X γ e d := fun H0 S0 σ H Q s k => h H0 S0 σ H Q (s.freezeD hj fz) fun v H2 r2 d2 => k v H2 r2 (hd _ _ _ _ d2)
theorem ex_lend (j : Nat) {e : Expr} {c : Value} (fz : Frz B D0) (hj : γ[j]? = some (.own (.b B fs))) (h : EX R X (γ.set j (.dat D0)) e c) : EX R X γ e c := fun H0 S0 σ H Q W s tk z => h H0 S0 σ H Q W (s.freezeD hj fz) tk z
end
end An

/-! Dicts of one's own with whole numbers for keys. -/
namespace An
open PySem PySem.Spec PyProof.Rows L2
def dB (ks : List Int) (ds : List D) : Bx where
  at_ := fun K v fs H Hd => ∃ a vs, v = .ref a ∧ fs = [a] ∧ H a = some (.dK (ks.map Sum.inl |>.zip vs)) ∧ ks.length = vs.length ∧ DtAll K Hd vs ds
  keep := fun {K v fs H Hd H' Hd'} ⟨a, vs, e, ef, h1, h2, h3⟩ hf hk => ⟨a, vs, e, ef, by rw [hf a (by rw [ef]; exact List.mem_singleton.mpr rfl)]; exact h1, h2, dps_keep hk _ _ h3⟩
theorem frz_dB {ks : List Int} {ds : List D} : Frz (dB ks ds) (dcD ks ds) := fun K v fs H Hd Hd' ⟨a, vs, e, ef, h1, h2, h3⟩ hf hk => by
  subst e
  exact dcD_of (by rw [hf a (by rw [ef]; exact List.mem_singleton.mpr rfl)]; exact h1) h2 (dps_keep hk _ _ h3)
section
variable {R : Hp → Hp → Prop} [RelC R] {X : Cx} {γ : List Sl} {pos p : Pos} {P : Po}
/-- x = {} -/
theorem s1_dnewI (i : Nat) {x : Str} {dp : Pos} (h : ∀ a, P.nx (γ.set i (.own (.b (dB [] []) [a])))) (hN : X.N.Nodup) (hi : X.N[i]? = some x := by rfl) (hx : Loc X.env.scope x := by first | exact Or.inl rfl | exact Or.inr rfl)
    (hs : swapsWith (.Dict [] [] dp) (some (.Name x p)) pos.line X.env = pure false := by rfl) (hf : X.fn x = true ∨ X.env.scope.names.lookup x = some .local := by first | exact .inl rfl | exact .inr rfl | assumption) : S1 R X γ (.Assign [.Name x p] (.Dict [] [] dp) pos) P := fun H0 S0 σ H E W s tk n r b c z =>
  ws_of (ps_set hN hi hx pe_dnewK hs hf) fun a hn => n _ _ _ (h a) (s.putB i (Rel.more s.ref (same_new hn)) (fun l hl => by
    have e : l = a := List.mem_singleton.mp hl
    subst e
    exact ⟨hn, _, upd_same, trivial⟩) ⟨_, rfl, a, [], rfl, rfl, upd_same, rfl, .nil⟩)
/-- x = dict(e) -/
theorem s1_dcopyI (i : Nat) {x : Str} {e : Expr} {ks : List Int} {ds : List D} {p2 cp : Pos} (he : EE R X γ e (dcD ks ds)) (h : ∀ a, P.nx (γ.set i (.own (.b (dB ks ds) [a])))) (hN : X.N.Nodup) (hm : X.mg "dict" = none) (hg : Gl X "dict" := by rfl) (hi : X.N[i]? = some x := by rfl) (hx : Loc X.env.scope x := by first | exact Or.inl rfl | exact Or.inr rfl)
    (hst : starEach [e] X.env = (false, eval e X.env) :: starEach [] X.env := by rfl) (hpl : (backTo cp (starEach [] X.env)).any (·.1) = false := by rfl)
    (hs : swapsWith (.Call (.Name "dict" p2) [e] [] cp) (some (.Name x p)) pos.line X.env = pure false := by rfl) (hf : X.fn x = true ∨ X.env.scope.names.lookup x = some .local := by first | exact .inl rfl | exact .inr rfl | assumption) : S1 R X γ (.Assign [.Name x p] (.Call (.Name "dict" p2) [e] [] cp) pos) P := fun H0 S0 σ H E W s tk n r b c z =>
  ws_of (ps_set hN hi hx (pe_callTy call_dictD hg hm (by decide +kernel) (pa_cons pe_we pa_nil hst) (by decide) (by decide) hst hpl) hs hf) (he H0 S0 σ H _ s fun v H1 r1 d1 => by
    obtain ⟨a, vs, rfl, h1, h2, h3⟩ := dt_dcD d1
    refine ⟨a, _, rfl, .inl (off_some h1).2, fun q hq => n _ _ _ (h q) ((s.mono r1).putB i (Rel.more (s.mono r1).ref (same_new hq)) (fun l hl => by
      have e : l = q := List.mem_singleton.mp hl
      subst e
      exact ⟨hq, _, upd_same, trivial⟩) ⟨_, rfl, q, vs, rfl, rfl, upd_same, h2, dts_newO hq h3 |> dps_keep (off_keep (Keep.refl _) fun a z => ?_) _ _⟩)⟩
    rcases z with z | z
    · exact .inl (List.mem_singleton.mp z)
    · exact .inr z)
/-- x[k] = e: what stands behind it -/
theorem s1_dsetG (i : Nat) {x : Str} {e ix : Expr} {a : Addr} {ks ks' : List Int} {ds ds' : List D} {k : Int} {d : D} {p2 : Pos} {kk : Nat} (g : Gx X kk) (he : EE R X γ e d) (hx : EE R X γ ix (.int k)) (hp : ∀ (K : PySem.W.Frag) (H : Hp) (vs : List V) (v : V), ks.length = vs.length → DtAll K H vs ds → Dt K H v d → ∃ vs', putK ((ks.map (Sum.inl : Int → Key)).zip vs) (Sum.inl k) v = (ks'.map Sum.inl).zip vs' ∧ ks'.length = vs'.length ∧ DtAll K H vs' ds')
    (h : P.nx (γ.set i (.own (.b (dB ks' ds') [a])))) (hl : ks.length ≤ 1000) (hi : γ[i]? = some (.own (.b (dB ks ds) [a])) := by rfl) (hN : X.N[i]? = some x := by rfl)
    (hv : Vis X.env.scope x := by first | exact Or.inl rfl | exact Or.inr (Or.inl rfl) | exact Or.inr (Or.inr rfl)) (hd : (x == ("__debug__" : Str)) = false := by decide) (hcd : (x == ("__classdict__" : Str)) = false := by decide)
    (ha : ∀ v, assign (.Subscript (.Name x p) ix p2) X.env v = (do
      let ov ← holding [v] (eval (.Name x p) X.env)
      let iv ← holding [v, ov] (eval ix X.env)
      standAt p2
      holding [v, ov, iv] (setItem ov iv v)
      release [v, ov, iv] []) := by intro _; rfl)
    (hs : swapsWithSole [.Subscript (.Name x p) ix p2] e pos.line X.env = pure false := by rfl) (hw : swappedStores [.Subscript (.Name x p) ix p2] e X.env = pure none := by rfl)
    (h1 : (assignEach [.Subscript (.Name x p) ix p2] X.env).map (·.2) = [assign (.Subscript (.Name x p) ix p2) X.env] := by rfl) : S1 R X γ (.Assign [.Subscript (.Name x p) ix p2] e pos) P := fun H0 S0 σ H E W s tk n r bk ct z =>
  ws_of (ps_asg pe_we (pg_sub (pe_var hN hv hd hcd) pe_we (set_dict (by have := g.room.un; omega)) ha) hs hw h1) (he H0 S0 σ H _ s fun v H1 r1 d1 => by
    have s1 := s.mono r1
    obtain ⟨v0, e1, _, _⟩ := s1.box i hi
    refine ⟨_, e1, hx H0 S0 σ H1 _ s1 fun u H2 r2 d2 => ?_⟩
    cases d2
    have s2 := s1.mono r2
    obtain ⟨v1, a1, ⟨a', vs, rfl, ea, g1, g2, g3⟩, a3⟩ := s2.box i hi
    rw [e1] at a1
    cases a1
    have ea' : a = a' := by simpa using ea
    subst ea'
    obtain ⟨vs', q1, q2, q3⟩ := hp _ _ vs v g2 g3 (dt_up r2 d1)
    refine ⟨a, _, rfl, DPut.k (k := Sum.inl k) g1 ?_, ?_⟩
    · rw [List.length_zip, List.length_map, ← g2, Nat.min_self]
      exact small1000 hl
    · rw [q1]
      refine n _ _ _ h (s2.mutB (l := a) hi e1 (List.mem_singleton.mpr rfl) trivial (fun _ => Iff.rfl) ⟨_, rfl, a, vs', rfl, rfl, upd_same, q2, dps_keep (fun c w' e' _ => ?_) _ _ q3⟩)
      obtain ⟨q1, q2⟩ := off_some e'
      refine off_of q1 ?_
      rw [upd_ne (fun zz => q1 (.inr ⟨i, _, _, hi, e1, by rw [zz]; exact List.mem_singleton.mpr rfl⟩))]
      exact q2)
theorem put_new {ks : List Int} {ds : List D} {k : Int} {d : D} (n : k ∉ ks) : ∀ (K : PySem.W.Frag) (H : Hp) (vs : List V) (v : V), ks.length = vs.length → DtAll K H vs ds → Dt K H v d → ∃ vs', putK ((ks.map (Sum.inl : Int → Key)).zip vs) (Sum.inl k) v = ((ks ++ [k]).map Sum.inl).zip vs' ∧ (ks ++ [k]).length = vs'.length ∧ DtAll K H vs' (ds ++ [d]) := fun K H vs v hl h1 h2 =>
  ⟨vs ++ [v], putI_new hl n, by simp [hl], dps_app h1 (dps_one h2)⟩
theorem put_old {ks : List Int} {ds : List D} {k : Int} {d : D} {j : Nat} (nd : ks.Nodup) (e : ks[j]? = some k) : ∀ (K : PySem.W.Frag) (H : Hp) (vs : List V) (v : V), ks.length = vs.length → DtAll K H vs ds → Dt K H v d → ∃ vs', putK ((ks.map (Sum.inl : Int → Key)).zip vs) (Sum.inl k) v = (ks.map Sum.inl).zip vs' ∧ ks.length = vs'.length ∧ DtAll K H vs' (ds.set j d) := fun K H vs v hl h1 h2 =>
  ⟨vs.set j v, putI_old hl nd e, by rw [List.length_set]; exact hl, dps_set j h1 h2⟩
/-- x[k] of a dict of one's own -/
theorem ee_dgetO (j : Nat) {x : Str} {b : Expr} {ks : List Int} {ds : List D} {fs : List Addr} {i : Int} {d : D} {k : Nat} (g : Gx X k) (hb : EE R X γ b (.int i)) (h : lookI ks ds i = some d) (hj : γ[j]? = some (.own (.b (dB ks ds) fs)) := by rfl) (hs : NoSl b := by exact fun _ _ => rfl) (hN : X.N[j]? = some x := by rfl)
    (hv : Vis X.env.scope x := by first | exact Or.inl rfl | exact Or.inr (Or.inl rfl) | exact Or.inr (Or.inr rfl)) (hd : (x == ("__debug__" : Str)) = false := by decide) (hcd : (x == ("__classdict__" : Str)) = false := by decide) :
    EE R X γ (.Subscript (.Name x p) b pos) d := fun H0 S0 σ H Q s kk => by
  obtain ⟨v, h1, _⟩ := s.box j hj
  refine we_of (pe_dget (by have := g.room.un; omega) (pe_var hN hv hd hcd) pe_we hs) ⟨_, h1, hb H0 S0 σ H _ s fun u H2 r2 d2 => ?_⟩
  cases d2
  obtain ⟨v', h1', ⟨a, vs, rfl, ef, g1, g2, g3⟩, _⟩ := (s.mono r2).box j hj
  rw [h1] at h1'
  cases h1'
  obtain ⟨w, e1, e2⟩ := lookI_val g3 g2 h
  exact ⟨a, w, rfl, e1 ▸ DGet.k (k := Sum.inl i) g1, kk w H2 r2 e2⟩
end
end An

/-! An instance of one's own that changes. -/
namespace An
open PySem PySem.Spec PyProof.Rows L2
/-- a sheet as data: how it is, how it was, what was taken back -/
def shD (now : D) (past ahead : List D) : D := obD "Sheet" ["now", "past", "ahead"] [now, .list past, .list ahead]
/-- a sheet of one's own: the instance and the list of how it was -/
def shB (now : D) (past ahead : List D) : Bx where
  at_ := fun K v fs H Hd => ∃ p pl dx u z vs, v = .ref p ∧ fs = [p, pl] ∧ p ≠ pl ∧ ObC K (He.ga K "Sheet") ∧ H p = some (.ins (He.ga K "Sheet") dx [("now", u), ("past", .ref pl), ("ahead", z)]) ∧ H pl = some (.lst vs) ∧ Dt K Hd u now ∧ DtAll K Hd vs past ∧ Dt K Hd z (.list ahead)
  keep := fun {K v fs H Hd H' Hd'} ⟨p, pl, dx, u, z, vs, e, ef, ne, ob, h1, h2, h3, h4, h5⟩ hf hk => ⟨p, pl, dx, u, z, vs, e, ef, ne, ob, by rw [hf p (by rw [ef]; exact List.mem_cons_self)]; exact h1, by rw [hf pl (by rw [ef]; exact List.mem_cons_of_mem _ List.mem_cons_self)]; exact h2, dp_keep hk _ _ h3, dps_keep hk _ _ h4, dp_keep hk _ _ h5⟩
theorem frz_shB {now : D} {past ahead : List D} : Frz (shB now past ahead) (shD now past ahead) := fun K v fs H Hd Hd' ⟨p, pl, dx, u, z, vs, e, ef, ne, ob, h1, h2, h3, h4, h5⟩ hf hk => by
  subst e
  exact obD_of (vs := [u, .ref pl, z]) ob (by rw [hf p (by rw [ef]; exact List.mem_cons_self)]; exact h1) rfl
    (.cons (dp_keep hk _ _ h3) (.cons (.lst (.inl (by rw [hf pl (by rw [ef]; exact List.mem_cons_of_mem _ List.mem_cons_self)]; exact h2)) (dps_keep hk _ _ h4)) (.cons (dp_keep hk _ _ h5) .nil)))
/-! ### expressions that change what the slots hold -/
def EU (R : Hp → Hp → Prop) (X : Cx) (γ : List Sl) (e : Expr) (d : D) (γ' : List Sl) : Prop :=
  ∀ (H0 : Hp) (S0 : Addr → Prop) (σ : L2.St) (H : Hp) (Q : VK), SI R X.K H0 S0 γ σ H → (∀ v H2, SI R X.K H0 S0 γ' σ H2 → Dt X.K (off (Sx S0 γ' σ) H2) v d → Q v H2) → we X e σ H Q
def TU (R : Hp → Hp → Prop) (X : Cx) (γ : List Sl) (e : Expr) (b : Bool) (γ' : List Sl) : Prop :=
  ∀ (H0 : Hp) (S0 : Addr → Prop) (σ : L2.St) (H : Hp) (Q : Bool → Hp → Prop), SI R X.K H0 S0 γ σ H → (∀ H2, SI R X.K H0 S0 γ' σ H2 → Q b H2) → wt X e σ H Q
def WU (R : Hp → Hp → Prop) (X : Cx) (γ : List Sl) (e : Expr) (b : Bool) (γ' : List Sl) : Prop :=
  ∀ (H0 : Hp) (S0 : Addr → Prop) (σ : L2.St) (H : Hp) (Q : Bool → Hp → Prop), SI R X.K H0 S0 γ σ H → (∀ H2, SI R X.K H0 S0 γ' σ H2 → Q b H2) → ww X e σ H Q
/-- a block from which something comes back, or behind which one goes on: what the slots hold then -/
def SSE (R : Hp → Hp → Prop) (X : Cx) (γ : List Sl) (st : List Stmt) (rt : D → List Sl → Prop) (nx : List Sl → Prop) : Prop :=
  ∀ (H0 : Hp) (S0 : Addr → Prop) (σ : L2.St) (H : Hp) (E : Ends) (W : XK), SI R X.K H0 S0 γ σ H → L2N.Takes X (fun c d _ H' => W c d H') →
    (∀ d v γ' σ' H', rt d γ' → SI R X.K H0 S0 γ' σ' H' → Dt X.K (off (Sx S0 γ' σ') H') v d → E.rt v H') → (∀ γ' σ' H', nx γ' → SI R X.K H0 S0 γ' σ' H' → E.nx σ' H') → wss X st E σ H
section
variable {R : Hp → Hp → Prop} [RelC R] {X : Cx} {γ γ1 γ2 : List Sl} {P : Po} {pos apos : Pos}
theorem eu_ee {e : Expr} {d : D} (h : EE R X γ e d) : EU R X γ e d γ := fun H0 S0 σ H Q s k => h H0 S0 σ H Q s fun v H2 r2 d2 => k v H2 (s.mono r2) d2
theorem tu_et {e : Expr} {b : Bool} (h : ET R X γ e b) : TU R X γ e b γ := fun H0 S0 σ H Q s k => h H0 S0 σ H Q s fun H2 r2 => k H2 (s.mono r2)
theorem wu_ew {e : Expr} {b : Bool} (h : EW R X γ e b) : WU R X γ e b γ := fun H0 S0 σ H Q s k => h H0 S0 σ H Q s fun H2 r2 => k H2 (s.mono r2)
theorem tu_cmp {a b : Expr} {op : CmpOp} {x y : D} {c : Bool} (ha : EU R X γ a x γ1) (hb : EE R X γ1 b y) (ho : OpD X (compareOp op) x y (.bool c)) (hm : behindInMarks op b = false) : TU R X γ (.Compare a [op] [b] pos) c γ1 := fun H0 S0 σ H Q s k => by
  obtain ⟨r, h1, h2⟩ := ho
  exact wt_of (pt_cmpR h1 pe_we pe_we hm) (ha H0 S0 σ H _ s fun v H1 s1 d1 => hb H0 S0 σ H1 _ s1 fun u H2 r2 d2 => h2 H2 v u _ (dt_in (dt_up r2 d1)) (dt_in d2) fun z q => by
    have e := q H2
    cases e
    exact ⟨c, rfl, k H2 (s1.mono r2)⟩)
theorem wu_or1 {a : Expr} {b : Bool} (h : TU R X γ a b γ1) : WU R X γ (.BoolOp .Or [a] pos) b γ1 := fun H0 S0 σ H Q s k => ww_of (pw_or1 pt_wt) (h H0 S0 σ H _ s k)
/-- the first is not so -/
theorem wu_orF {a c : Expr} {rest : List Expr} {q : Bool} (h : TU R X γ a false γ1) (t : WU R X γ1 (.BoolOp .Or (c :: rest) pos) q γ2) : WU R X γ (.BoolOp .Or (a :: c :: rest) pos) q γ2 := fun H0 S0 σ H Q s k =>
  ww_of (pw_or pt_wt pw_ww) (h H0 S0 σ H _ s fun H1 s1 => by
    rw [if_neg Bool.false_ne_true]
    exact t H0 S0 σ H1 _ s1 k)
theorem tu_wu {e : Expr} {b : Bool} (h : WU R X γ e b γ1) : TU R X γ e b γ1 := fun H0 S0 σ H Q s k => wt_of pw_ww.pt (h H0 S0 σ H Q s k)
theorem s1_ifU {c : Expr} {a b : List Stmt} {k : Bool} (hc : TU R X γ c k γ1) (h1 : k = true → SS R X γ1 a P) (h2 : k = false → SS R X γ1 b P) : S1 R X γ (.If c a b pos) P := fun H0 S0 σ H E W s tk n r bk ct z =>
  ws_of (ps_if pt_wt pss_wss pss_wss) (hc H0 S0 σ H _ s fun H1 s1 => by
    cases k with
    | true => exact iteT (h1 rfl H0 S0 σ H1 E W s1 tk n r bk ct z)
    | false => exact iteF (h2 rfl H0 S0 σ H1 E W s1 tk n r bk ct z))
theorem s1_exprU {e : Expr} {d : D} (he : EU R X γ e d γ1) (h : P.nx γ1) (hs : swapsWith e none pos.line X.env = pure false := by rfl) : S1 R X γ (.Expr e pos) P := fun H0 S0 σ H E W s tk n r b c z =>
  ws_of (ps_expr pe_we hs) (he H0 S0 σ H _ s fun v H1 s1 d1 => n γ1 σ H1 h s1)
theorem sse_cons {st : Stmt} {rest : List Stmt} {rt : D → List Sl → Prop} {nx : List Sl → Prop} (h : S1 R X γ st { nx := fun γ' => SSE R X γ' rest rt nx }) : SSE R X γ (st :: rest) rt nx := fun H0 S0 σ H E W s tk r n =>
  wss_of (pss_cons ps_ws pss_wss) (h H0 S0 σ H _ W s tk (fun γ' σ' H' q s' => q H0 S0 σ' H' E W s' tk r n) ⟨fun _ _ _ h => h.elim, fun _ _ _ _ h => h.elim⟩ (fun _ _ _ h => h.elim) (fun _ _ _ h => h.elim) fun _ _ h => h.elim)
theorem sse_nil {rt : D → List Sl → Prop} {nx : List Sl → Prop} (h : nx γ) : SSE R X γ [] rt nx := fun H0 S0 σ H E W s tk r n => wss_of pss_nil (n γ σ H h s)
theorem sse_freezeD {st : List Stmt} {rt : D → List Sl → Prop} {nx : List Sl → Prop} (i : Nat) {B : Bx} {fs : List Addr} {d : D} (fz : Frz B d) (h : SSE R X (γ.set i (.dat d)) st rt nx) (hi : γ[i]? = some (.own (.b B fs)) := by rfl) : SSE R X γ st rt nx := fun H0 S0 σ H E W s tk r n => h H0 S0 σ H E W (s.freezeD hi fz) tk r n
/-- return e -/
theorem sse_ret {e : Expr} {d : D} {rt : D → List Sl → Prop} {nx : List Sl → Prop} (he : EE R X γ e d) (h : rt d γ) : SSE R X γ [.Return (some e) pos] rt nx := fun H0 S0 σ H E W s tk r n =>
  wss_of (pss_one (ps_ret pe_we)) (he H0 S0 σ H _ s fun v H1 r1 d1 => r d v γ σ H1 h (s.mono r1) d1)
end
end An

/-! A sheet's attributes, read and set; methods that change it. -/
namespace An
open PySem PySem.Spec PyProof.Rows L2
section
variable {R : Hp → Hp → Prop} [RelC R] {X : Cx} {γ : List Sl} {P : Po} {pos p apos cpos : Pos} {now : D} {past ahead : List D} {fs : List Addr}
/-- self.now, self a sheet of one's own -/
theorem ee_nowO (j : Nat) {x : Str} (hn : NoAttr X.K (He.ga X.K "Sheet") "now") (hj : γ[j]? = some (.own (.b (shB now past ahead) fs)) := by rfl) (hN : X.N[j]? = some x := by rfl) (hb : attributeBase (.Name x p) "now" X.env (eval (.Name x p) X.env) = eval (.Name x p) X.env := by rfl)
    (hv : Vis X.env.scope x := by first | exact Or.inl rfl | exact Or.inr (Or.inl rfl) | exact Or.inr (Or.inr rfl)) (hd : (x == ("__debug__" : Str)) = false := by decide) (hcd : (x == ("__classdict__" : Str)) = false := by decide) :
    EE R X γ (.Attribute (.Name x p) "now" pos) now := fun H0 S0 σ H Q s k => by
  obtain ⟨v, h1, ⟨q, pl, dx, u, z, vs, e, ef, ne, ob, g1, g2, g3, g4, g5⟩, _⟩ := s.box j hj
  subst e
  exact we_of (pe_fld (pe_var hN hv hd hcd) hb) ⟨_, h1, q, _, dx, _, u, rfl, g1, ob.cl, hn, rfl, k u H s.ref g3⟩
/-- an attribute's value is set -/
theorem s1_nowSet (j : Nat) {x : Str} {e : Expr} {d : D} {p1 : Pos} (he : EE R X γ e d) (hn : NoAttr X.K (He.ga X.K "Sheet") "now") (h : P.nx (γ.set j (.own (.b (shB d past ahead) fs)))) (hj : γ[j]? = some (.own (.b (shB now past ahead) fs)) := by rfl) (hN : X.N[j]? = some x := by rfl)
    (hv : Vis X.env.scope x := by first | exact Or.inl rfl | exact Or.inr (Or.inl rfl) | exact Or.inr (Or.inr rfl)) (hd : (x == ("__debug__" : Str)) = false := by decide) (hcd : (x == ("__classdict__" : Str)) = false := by decide)
    (hs : swapsWith e (some (.Attribute (.Name x p) "now" p1)) pos.line X.env = pure false := by rfl) : S1 R X γ (.Assign [.Attribute (.Name x p) "now" p1] e pos) P := fun H0 S0 σ H E W s tk n r b c zz =>
  ws_of (ps_fld (pe_var hN hv hd hcd) pe_we hs) (he H0 S0 σ H _ s fun y H1 r1 d1 => by
    have s1 := s.mono r1
    obtain ⟨v, h1, ⟨q, pl, dx, u, z, vs, e, ef, ne, ob, g1, g2, g3, g4, g5⟩, _⟩ := s1.box j hj
    subst e
    refine ⟨_, h1, q, _, dx, _, rfl, g1, ob.cl, hn, (show (3 : Nat) < 1000 by decide), n _ _ _ h (s1.mutB (l := q) hj h1 (by rw [ef]; exact List.mem_cons_self) trivial (fun _ => Iff.rfl) ?_)⟩
    have kp : Keep (off (Sx S0 γ σ) H1) (off (Sx S0 γ σ) (upd H1 q (.ins (He.ga X.K "Sheet") dx (L2.putF "now" y [("now", u), ("past", .ref pl), ("ahead", z)])))) := fun c w' e' _ => by
      obtain ⟨q1, q2⟩ := off_some e'
      refine off_of q1 ?_
      rw [upd_ne (fun zz => q1 (.inr ⟨j, _, _, hj, h1, by rw [zz, ef]; exact List.mem_cons_self⟩))]
      exact q2
    exact ⟨_, rfl, q, pl, dx, y, z, vs, rfl, ef, ne, ob, upd_same, by rw [upd_ne (Ne.symm ne)]; exact g2, dp_keep kp _ _ d1, dps_keep kp _ _ g4, dp_keep kp _ _ g5⟩)
theorem s1_aheadSet (j : Nat) {x : Str} {e : Expr} {ds : List D} {p1 : Pos} (he : EE R X γ e (.list ds)) (hn : NoAttr X.K (He.ga X.K "Sheet") "ahead") (h : P.nx (γ.set j (.own (.b (shB now past ds) fs)))) (hj : γ[j]? = some (.own (.b (shB now past ahead) fs)) := by rfl) (hN : X.N[j]? = some x := by rfl)
    (hv : Vis X.env.scope x := by first | exact Or.inl rfl | exact Or.inr (Or.inl rfl) | exact Or.inr (Or.inr rfl)) (hd : (x == ("__debug__" : Str)) = false := by decide) (hcd : (x == ("__classdict__" : Str)) = false := by decide)
    (hs : swapsWith e (some (.Attribute (.Name x p) "ahead" p1)) pos.line X.env = pure false := by rfl) : S1 R X γ (.Assign [.Attribute (.Name x p) "ahead" p1] e pos) P := fun H0 S0 σ H E W s tk n r b c zz =>
  ws_of (ps_fld (pe_var hN hv hd hcd) pe_we hs) (he H0 S0 σ H _ s fun y H1 r1 d1 => by
    have s1 := s.mono r1
    obtain ⟨v, h1, ⟨q, pl, dx, u, z, vs, e, ef, ne, ob, g1, g2, g3, g4, g5⟩, _⟩ := s1.box j hj
    subst e
    refine ⟨_, h1, q, _, dx, _, rfl, g1, ob.cl, hn, (show (3 : Nat) < 1000 by decide), n _ _ _ h (s1.mutB (l := q) hj h1 (by rw [ef]; exact List.mem_cons_self) trivial (fun _ => Iff.rfl) ?_)⟩
    have kp : Keep (off (Sx S0 γ σ) H1) (off (Sx S0 γ σ) (upd H1 q (.ins (He.ga X.K "Sheet") dx (L2.putF "ahead" y [("now", u), ("past", .ref pl), ("ahead", z)])))) := fun c w' e' _ => by
      obtain ⟨q1, q2⟩ := off_some e'
      refine off_of q1 ?_
      rw [upd_ne (fun zz => q1 (.inr ⟨j, _, _, hj, h1, by rw [zz, ef]; exact List.mem_cons_self⟩))]
      exact q2
    exact ⟨_, rfl, q, pl, dx, u, y, vs, rfl, ef, ne, ob, upd_same, by rw [upd_ne (Ne.symm ne)]; exact g2, dp_keep kp _ _ g3, dps_keep kp _ _ g4, dp_keep kp _ _ d1⟩)
/-- self.past.append(e) -/
theorem s1_pastApp (j : Nat) {x : Str} {e : Expr} {d : D} {p1 : Pos} (he : EE R X γ e d) (hn : NoAttr X.K (He.ga X.K "Sheet") "past") (h : P.nx (γ.set j (.own (.b (shB now (past ++ [d]) ahead) fs)))) (hl : past.length < 1000) (hj : γ[j]? = some (.own (.b (shB now past ahead) fs)) := by rfl) (hN : X.N[j]? = some x := by rfl)
    (hb : attributeBase (.Name x p) "past" X.env (eval (.Name x p) X.env) = eval (.Name x p) X.env := by rfl)
    (hv : Vis X.env.scope x := by first | exact Or.inl rfl | exact Or.inr (Or.inl rfl) | exact Or.inr (Or.inr rfl)) (hd : (x == ("__debug__" : Str)) = false := by decide) (hcd : (x == ("__classdict__" : Str)) = false := by decide)
    (hbase : attributeBase (.Attribute (.Name x p) "past" p1) "append" X.env (eval (.Attribute (.Name x p) "past" p1) X.env) = eval (.Attribute (.Name x p) "past" p1) X.env := by rfl)
    (hfew : ((backTo cpos (starEach [e] X.env)).all (fun x => !x.1) && (backToKw cpos (keywordEach [] X.env)).all (fun x => x.1.isSome) && decide (([e] : List Expr).length + ([] : List Keyword).length + (if ([] : List Keyword).isEmpty then 0 else 1) < 30)) = true := by rfl)
    (hline : (apos.endLine == cpos.line) = true := by rfl) (hst : starEach [e] X.env = (false, eval e X.env) :: starEach [] X.env := by rfl) (hplain : (backTo cpos (starEach [] X.env)).any (·.1) = false := by rfl)
    (hs : swapsWith (.Call (.Attribute (.Attribute (.Name x p) "past" p1) "append" apos) [e] [] cpos) none pos.line X.env = pure false := by rfl) : S1 R X γ (.Expr (.Call (.Attribute (.Attribute (.Name x p) "past" p1) "append" apos) [e] [] cpos) pos) P := fun H0 S0 σ H E W s tk n r b c zz => by
  obtain ⟨v, h1, ⟨q, pl, dx, u, z, vs, ev, ef, ne, ob, g1, g2, g3, g4, g5⟩, _⟩ := s.box j hj
  subst ev
  refine ws_of (ps_expr (pe_bm PySem.F.plainAttrs_list PySem.F.slot_list_append PySem.F.type_list_append mt_append (pe_fld (pe_var hN hv hd hcd) hb) pa_wa hbase hfew hline hst hplain) hs) ⟨_, h1, q, _, dx, _, .ref pl, rfl, g1, ob.cl, hn, rfl, .inl ⟨rfl, _, SqL.of g2⟩, (ea_cons he ea_nil hst) H0 S0 σ H _ s fun ws H1 r1 d1 => ?_⟩
  cases d1 with
  | cons d1 t =>
    cases t
    have s1 := s.mono r1
    obtain ⟨v', h1', ⟨q', pl', dx', u', z', vs', ev', ef', ne', ob', g1', g2', g3', g4', g5'⟩, _⟩ := s1.box j hj
    rw [h1] at h1'
    cases h1'
    cases ev'
    have epl : pl' = pl := by
      rw [ef] at ef'
      injection ef' with _ ef'
      injection ef' with ef' _
      exact ef'.symm
    subst epl
    refine ⟨pl', vs', _, rfl, rfl, g2', Nat.lt_trans (by rw [dps_len g4']; exact hl) (by decide), ?_⟩
    refine n _ _ _ h (s1.mutB (l := pl') hj h1 (by rw [ef]; exact List.mem_cons_of_mem _ List.mem_cons_self) trivial (fun _ => Iff.rfl) ?_)
    have kp : ∀ o, Keep (off (Sx S0 γ σ) H1) (off (Sx S0 γ σ) (upd H1 pl' o)) := fun o c w' e' _ => by
      obtain ⟨q1, q2⟩ := off_some e'
      refine off_of q1 ?_
      rw [upd_ne (fun zz => q1 (.inr ⟨j, _, _, hj, h1, by rw [zz, ef]; exact List.mem_cons_of_mem _ List.mem_cons_self⟩))]
      exact q2
    exact ⟨_, rfl, q, pl', dx', u', z', _, rfl, ef, ne, ob, by rw [upd_ne ne]; exact g1', upd_same, dp_keep (kp _) _ _ g3', dps_keep (kp _) _ _ (dps_app g4' (dps_one d1)), dp_keep (kp _) _ _ g5'⟩
end
/-! ### methods that change the sheet -/
/-- a sheet's state: how it is, how it was, what was taken back -/
structure Sht where
  now : D
  past : List D
  ahead : List D
def Sht.B (t : Sht) : Bx := shB t.now t.past t.ahead
def Sht.d (t : Sht) : D := shD t.now t.past t.ahead
theorem Sht.frz (t : Sht) : Frz t.B t.d := frz_shB
/-- from a sheet and data to what comes and the sheet behind it -/
def spE (K : PySem.W.Frag) (n : Nat) (Ef : Sht → List D → D → Sht → Prop) : Sp := fun vs H Q _ => vs.length = n ∧ ∃ (S : Addr → Prop) (a : Addr) (ws : List V) (fs : List Addr) (t t' : Sht) (ds : List D) (d : D), vs = .ref a :: ws ∧ Ef t ds d t' ∧ (∀ a, S a → H a ≠ none) ∧ (∀ a ∈ fs, ¬ S a ∧ NT H a) ∧
  t.B.at_ K (.ref a) fs H (off (fun b => b ∈ fs ∨ S b) H) ∧ DtAll K (off (fun b => b ∈ fs ∨ S b) H) ws ds ∧
  ∀ v H2, Same (off (· ∈ fs) H) H2 → (∀ a ∈ fs, NT H2 a) → t'.B.at_ K (.ref a) fs H2 (off (fun b => b ∈ fs ∨ S b) H2) → Dt K (off (fun b => b ∈ fs ∨ S b) H2) v d → Q v H2
structure FnE (P : Program) (w : World) (K : PySem.W.Frag) (mg : Str → Option Value) (base : Heap) (m : Str) (k n : Nat) (Ef : Sht → List D → D → Sht → Prop) : Prop where
  ok : ∃ (f : Addr) (fd : FuncData) (ps : List Str), FnOk P w K mg base (L2N.CX P w) k f fd ps (spE K n Ef) ∧ Meth K (He.ga K "Sheet") m f ∧ Binds K fd ps []
  cl : Cls K (He.ga K "Sheet")
/-- the sheet in a slot has become another one -/
theorem SI.chgB {R : Hp → Hp → Prop} [RelC R] {K : PySem.W.Frag} {H0 H H2 : Hp} {S0 : Addr → Prop} {γ : List Sl} {σ : L2.St} (s : SI R K H0 S0 γ σ H) {j : Nat} {B B' : Bx} {fs : List Addr} {v : V} (hj : γ[j]? = some (.own (.b B fs))) (hv : σ[j]? = some (some v)) (sm : Same (off (· ∈ fs) H) H2) (nt : ∀ a ∈ fs, NT H2 a) (hB : B'.at_ K v fs H2 (off (Sx S0 γ σ) H2)) :
    SI R K H0 S0 (γ.set j (.own (.b B' fs))) σ H2 := by
  have hσ : σ.set j (some v) = σ := by
    have hlt := (List.getElem?_eq_some_iff.mp hv).1
    have e := (List.getElem?_eq_some_iff.mp hv).2
    rw [← e]
    exact List.set_getElem_self hlt
  have fpj : ∀ a ∈ fs, Fp γ σ j a := fun a ha => ⟨_, _, hj, hv, ha⟩
  have sub : ∀ a, Sx S0 (γ.set j (.own (.b B' fs))) (σ.set j (some v)) a → Sx S0 γ σ a := sx_set fun a f => .inr ⟨j, fpj a f⟩
  have rel : R H0 H2 := Rel.more (RelC.cut s.rel fun a ha => s.fp j a (fpj a ha)) sm
  have t := s.updS (H' := H2) j (some v) (.own (.b B' fs)) rel (fun a f => ⟨(s.fp j a (fpj a f)).1, nt a f, fun i ni z => ni (s.inj i j a z (fpj a f))⟩) (fun i a ni f => by
      have na : ¬ a ∈ fs := fun z => ni (s.inj i j a f (fpj a z))
      obtain ⟨o, e, _⟩ := (s.fp i a f).2
      rw [e]
      exact sm a o (off_of na e)) (fun a o e n => by
      obtain ⟨q1, q2⟩ := off_some e
      exact off_of (fun z => q1 (sub a z)) (sm a o (off_of (fun z => q1 (.inr ⟨j, fpj a z⟩)) q2))) ⟨v, rfl, B'.keep hB (fun _ _ => rfl) (off_keep (Keep.refl H2) sub)⟩
  rw [hσ] at t
  exact t
section
variable {R : Hp → Hp → Prop} [RelC R] {X : Cx} {γ : List Sl} {pos p apos : Pos}
/-- x.m(..), x a sheet of one's own -/
theorem eu_meth (j : Nat) {x m : Str} {k n : Nat} {Ef : Sht → List D → D → Sht → Prop} {e : Expr} {es : List Expr} {ds : List D} {d : D} {t t' : Sht} {fs : List Addr} {pl : Sem Bool} (F : FnE X.prog X.w X.K X.mg X.base m k n Ef) (hr : Room k X.A) (ha : EA R X γ (e :: es) ds) (hv : Ef t ds d t')
    (hj : γ[j]? = some (.own (.b t.B fs)) := by rfl) (hm : m ∉ (["now", "past", "ahead"] : List Str) := by decide) (hn : ds.length + 1 = n := by rfl) (hN : X.N[j]? = some x := by rfl)
    (hvi : Vis X.env.scope x := by first | exact Or.inl rfl | exact Or.inr (Or.inl rfl) | exact Or.inr (Or.inr rfl)) (hd : (x == ("__debug__" : Str)) = false := by decide) (hcd : (x == ("__classdict__" : Str)) = false := by decide)
    (he : starEach (e :: es) X.env = (false, eval e X.env) :: starEach es X.env := by rfl) (hpl : (backTo pos (starEach es X.env)).any (·.1) = false := by rfl) (ht : MShape X (.Name x p) m apos (e :: es) pos pl := by rfl) :
    EU R X γ (.Call (.Attribute (.Name x p) m apos) (e :: es) [] pos) d (γ.set j (.own (.b t'.B fs))) := fun H0 S0 σ H Q s kk => by
  obtain ⟨f, fd, ps, h1, h2, h3⟩ := F.ok
  obtain ⟨v, e1, ⟨q, pl', dx, u, z, vs, ev, ef, ne, ob, g1, g2, g3, g4, g5⟩, _⟩ := s.box j hj
  subst ev
  refine we_of (pe_meth (E := E0) (pl := pl) (pe_var hN hvi hd hcd) F.cl h2 h1 hr h3 .nil passN pa_wa he hpl ht) ⟨_, e1, q, dx, _, rfl, g1, ?_, ha H0 S0 σ H _ s fun us H2 r2 d2 => ?_⟩
  · exact look_none (ns := ["now", "past", "ahead"]) (vs := [u, .ref pl', z]) hm
  · rw [List.append_nil]
    have s2 := s.mono r2
    obtain ⟨v', e1', hB, nt⟩ := s2.box j hj
    rw [e1] at e1'
    cases e1'
    have fpj : ∀ a ∈ fs, Fp γ σ j a := fun a ha => ⟨_, _, hj, e1, ha⟩
    have up : ∀ H, Keep (off (Sx S0 γ σ) H) (off (fun b => b ∈ fs ∨ (S0 b ∨ ∃ i, i ≠ j ∧ Fp γ σ i b)) H) := fun H => off_keep (Keep.refl H) fun a z => by
      rcases z with z | z | ⟨i, _, z⟩
      · exact .inr ⟨j, fpj a z⟩
      · exact .inl z
      · exact .inr ⟨i, z⟩
    have dn : ∀ H, Keep (off (fun b => b ∈ fs ∨ (S0 b ∨ ∃ i, i ≠ j ∧ Fp γ σ i b)) H) (off (Sx S0 γ σ) H) := fun H => off_keep (Keep.refl H) fun a z => by
      rcases z with z | ⟨i, z⟩
      · exact .inr (.inl z)
      · by_cases hi : i = j
        · subst hi
          obtain ⟨y, w, w1, w2, w3⟩ := z
          rw [hj] at w1
          cases w1
          exact .inl w3
        · exact .inr (.inr ⟨i, hi, z⟩)
    refine ⟨by rw [List.length_cons, dps_len d2]; exact hn, fun b => S0 b ∨ ∃ i, i ≠ j ∧ Fp γ σ i b, q, us, fs, t, t', ds, d, rfl, hv, fun a z => ?_, fun a ha => ⟨fun z => ?_, (nt a ha).2⟩, t.B.keep hB (fun _ _ => rfl) (up H2), dps_keep (up H2) _ _ d2, fun v H3 sm nt3 hB3 dv => ?_⟩
    · rcases z with z | ⟨i, _, z⟩
      · exact s2.there (.inl z)
      · exact s2.there (.inr ⟨i, z⟩)
    · rcases z with z | ⟨i, ni, z⟩
      · exact s2.dom a z (nt a ha).1
      · exact ni (s2.inj i j a z (fpj a ha))
    · have s3 := s2.chgB hj e1 sm nt3 (t'.B.keep hB3 (fun _ _ => rfl) (dn H3))
      refine kk v H3 s3 (dp_keep (off_keep (Keep.refl H3) fun a z => ?_) _ _ (dp_keep (dn H3) _ _ dv))
      have hσ : σ.set j (some (V.ref q)) = σ := by
        have hlt := (List.getElem?_eq_some_iff.mp e1).1
        have e := (List.getElem?_eq_some_iff.mp e1).2
        rw [← e]
        exact List.set_getElem_self hlt
      have sub : ∀ a, Sx S0 (γ.set j (.own (.b t'.B fs))) (σ.set j (some (V.ref q))) a → Sx S0 γ σ a := sx_set fun a f => .inr ⟨j, fpj a f⟩
      rw [hσ] at sub
      exact sub a z
end
end An

/-! Methods that change a sheet, by their bodies; a new sheet. -/
namespace An
open PySem PySem.Spec PyProof.Rows L2
/-- the slots at such a method's entry -/
theorem si_startE {K : PySem.W.Frag} {H : Hp} {Sv : Addr → Prop} {N : List Str} {v : V} {ws : List V} {ds : List D} {n : Nat} {B : Bx} {fs : List Addr} (hS : ∀ a, Sv a → H a ≠ none) (hf : ∀ a ∈ fs, ¬ Sv a ∧ NT H a) (hB : B.at_ K v fs H (off (fun b => b ∈ fs ∨ Sv b) H)) (hd : DtAll K (off (fun b => b ∈ fs ∨ Sv b) H) ws ds) (hl : ws.length + 1 = n) (hN : n ≤ N.length) :
    SI Same K (off (· ∈ fs) H) Sv (.own (.b B fs) :: (ds.map .dat ++ List.replicate (N.length - n) .no)) (L2.start N (v :: ws)) H := by
  obtain ⟨m, rfl⟩ : ∃ m, n = m + 1 := ⟨ws.length, hl.symm⟩
  have hl' : ws.length = m := by omega
  match N, hN with
  | x :: N, hN =>
  have s0 : SI Same K H (fun b => b ∈ fs ∨ Sv b) (ds.map .dat ++ List.replicate (N.length - m) .no) (L2.start N ws) H := si_start (n := m) (fun a z => by
    rcases z with z | z
    · exact (hf a z).2.there
    · exact hS a z) hd hl' (by rw [← dps_len hd]; exact hl')
  have eN : (x :: N).length - (m + 1) = N.length - m := by rw [List.length_cons]; omega
  rw [eN]
  have eσ : L2.start (x :: N) (v :: ws) = some v :: L2.start N ws := by
    unfold L2.start
    rw [List.map_cons, List.cons_append, List.length_cons, List.length_cons, Nat.add_sub_add_right]
  rw [eσ]
  have nofr : ∀ i a, ¬ Fp (ds.map Sl.dat ++ List.replicate (N.length - m) .no) (L2.start N ws) i a := fun i a ⟨y, w, h1, _, h3⟩ => by
    rw [List.getElem?_append] at h1
    split at h1
    · rw [List.getElem?_map] at h1
      cases q : ds[i]? with
      | none => rw [q] at h1; cases h1
      | some d => rw [q] at h1; cases h1; exact h3
    · rw [List.getElem?_replicate] at h1
      split at h1
      · cases h1; exact h3
      · cases h1
  have fp0 : ∀ i a, Fp (.own (.b B fs) :: (ds.map Sl.dat ++ List.replicate (N.length - m) .no)) (some v :: L2.start N ws) i a → i = 0 ∧ a ∈ fs := fun i a z => by
    match i, z with
    | 0, ⟨y, w, h1, _, h3⟩ =>
      cases h1
      exact ⟨rfl, h3⟩
    | i + 1, ⟨y, w, h1, h2, h3⟩ => exact absurd ⟨y, w, h1, h2, h3⟩ (nofr i a)
  have sub : ∀ a, Sx Sv (.own (.b B fs) :: (ds.map Sl.dat ++ List.replicate (N.length - m) .no)) (some v :: L2.start N ws) a → a ∈ fs ∨ Sv a := fun a z => by
    rcases z with z | ⟨i, z⟩
    · exact .inr z
    · exact .inl (fp0 i a z).2
  refine ⟨fun a o e => (off_some e).2, fun a ha => ?_, ?_, fun i y h => ?_, fun i a z => ?_, fun i j a z1 z2 => ?_⟩
  · have h1 := hS a ha
    cases e : H a with
    | none => exact absurd e h1
    | some o => rw [off_of (fun z => (hf a z).1 ha) e]; exact fun q => nomatch q
  · rw [List.length_cons, List.length_cons, s0.len]
  · match i, h with
    | 0, h =>
      cases h
      exact ⟨some v, rfl, v, rfl, B.keep hB (fun _ _ => rfl) (off_keep (Keep.refl H) sub)⟩
    | i + 1, h =>
      obtain ⟨u, e1, e2⟩ := s0.ok i y h
      exact ⟨u, e1, e2.keep (fun _ _ => rfl) (off_keep (Keep.refl H) fun a z => .inl (sub a z))⟩
  · obtain ⟨_, h⟩ := fp0 i a z
    refine ⟨?_, (hf a h).2⟩
    unfold off
    rw [if_pos h]
  · rw [(fp0 i a z1).1, (fp0 j a z2).1]
theorem fnE_mk {Pr : Program} {w : World} {K : PySem.W.Frag} {mg : Str → Option Value} {base : Heap} {m q : Str} {st : Stmt} {f : Addr} {fd : FuncData} {N ps : List Str} {k n : Nat} {Ef : Sht → List D → D → Sht → Prop}
    (F : FunD K m q (defArgs st) (defBody st) (defScope st) [] [] f fd) (S : FnScope N ps (defScope st)) (hm : Meth K (He.ga K "Sheet") m f) (cl : Cls K (He.ga K "Sheet")) (hb : Binds K fd ps []) (hns : base.NoSeer) (htr : Pr.given.tree = none) (hk : 40 ≤ k) (hn : ps.length = n) (hN : n ≤ N.length)
    (body : ∀ (cdv : Value) (A : Around) (outer : List Env) (s : Shared) (H : Hp) (E : XK) (X : Cx), X = cxOf (L2N.CX Pr w) Pr w K mg base N q (defScope st) f cdv A outer s H E → Gx X k → PassesOwn (model X.prog X.w) X.A X.env X.xe → ∀ (t t' : Sht) (ds : List D) (d : D) (fs : List Addr), ds.length + 1 = n → Ef t ds d t' →
      SSE Same X (.own (.b t.B fs) :: (ds.map .dat ++ List.replicate (N.length - n) .no)) (defBody st) (fun e g => e = d ∧ g[0]? = some (.own (.b t'.B fs))) (fun g => d = .none ∧ g[0]? = some (.own (.b t'.B fs)))) : FnE Pr w K mg base m (k + 1) n Ef := by
  refine ⟨⟨f, fd, ps, F.ok (CX := L2N.CX Pr w) S (fun vs H Q E h => by rw [h.1, hn]) (fun cdv A outer s H vs Q E hr h => ?_), hm, hb⟩, cl⟩
  obtain ⟨hl, Sv, a, ws, fs, t, t', ds, d, rfl, hE, hS, hf, hB, hd, hq⟩ := h
  let X : Cx := cxOf (L2N.CX Pr w) Pr w K mg base N q (defScope st) f cdv A outer s H E
  have hdl : ds.length + 1 = n := by rw [← dps_len hd]; exact hl
  have gx : Gx X k := ⟨hr, hk, hns, htr, ⟨_, _, rfl, S.gen, S.co, rfl, rfl⟩⟩
  have tk : L2N.Takes X (fun c d _ H' => E c d H') := L2N.takes_of rfl rfl rfl rfl
  have si := si_startE (N := N) (v := .ref a) hS hf hB hd hl hN
  refine ⟨wss X (defBody st), pss_wss, ?_⟩
  have fin : ∀ (γ' : List Sl) (σ' : L2.St) (H' : Hp) (v : V), γ'[0]? = some (.own (.b t'.B fs)) → SI Same X.K (off (· ∈ fs) H) Sv γ' σ' H' → Dt X.K (off (Sx Sv γ' σ') H') v d → Q v H' := fun γ' σ' H' v g0 s' dv => by
    obtain ⟨v', e1, hB', nt⟩ := s'.box 0 g0
    have sub : ∀ b, b ∈ fs ∨ Sv b → Sx Sv γ' σ' b := fun b z => by
      rcases z with z | z
      · exact .inr ⟨0, _, _, g0, e1, z⟩
      · exact .inl z
    have ev : v' = .ref a := by
      obtain ⟨p1, pl1, _, _, _, _, e2, ef, _⟩ := hB
      obtain ⟨p2, pl2, _, _, _, _, e3, ef', _⟩ := hB'
      rw [e3, e2]
      rw [ef] at ef'
      injection ef' with ef' _
      rw [ef']
    subst ev
    exact hq v H' s'.rel (fun b hb => (nt b hb).2) (t'.B.keep hB' (fun _ _ => rfl) (off_keep (Keep.refl H') sub)) (dp_keep (off_keep (Keep.refl H') sub) _ _ dv)
  exact body cdv A outer s H E X rfl gx (passes_of rfl) t t' ds d fs hdl hE _ Sv _ H _ E si tk (fun d' v γ' σ' H' hr s' dv => by
    obtain ⟨rfl, g0⟩ := hr
    exact fin γ' σ' H' v g0 s' dv) (fun γ' σ' H' hn s' => by
    obtain ⟨e, g0⟩ := hn
    exact fin γ' σ' H' .non g0 s' (by rw [e]; exact .non))
end An

/-! A comprehension whose element changes a thing of one's own. -/
namespace An
open PySem PySem.Spec PyProof.Rows L2
theorem set_same {α : Type} {l : List α} {j : Nat} {x : α} (h : l[j]? = some x) : l.set j x = l := by
  have hlt := (List.getElem?_eq_some_iff.mp h).1
  have e := (List.getElem?_eq_some_iff.mp h).2
  rw [← e]
  exact List.set_getElem_self hlt
/-- fewer things are left alone -/
theorem SI.less {R : Hp → Hp → Prop} [Rel R] {K : PySem.W.Frag} {H0 H : Hp} {S0 S1 : Addr → Prop} {γ : List Sl} {σ : L2.St} (s : SI R K H0 S1 γ σ H) (h : ∀ a, S0 a → S1 a) : SI R K H0 S0 γ σ H where
  rel := s.rel
  dom := fun a z => s.dom a (h a z)
  len := s.len
  ok := fun i x e => by
    obtain ⟨v, e1, e2⟩ := s.ok i x e
    exact ⟨v, e1, e2.keep (fun _ _ => rfl) (off_keep (Keep.refl H) fun a z => z.elim (fun z => .inl (h a z)) .inr)⟩
  fp := s.fp
  inj := s.inj
/-- the list that a comprehension makes has grown -/
theorem SI.listed {R : Hp → Hp → Prop} [RelC R] {K : PySem.W.Frag} {H0 Bs H : Hp} {S0 : Addr → Prop} {γ : List Sl} {σ : L2.St} {Dl : Addr} {vs ws : List V} (sA : SI R K H0 S0 γ σ H) (sB : SI R K Bs (fun a => a = Dl ∨ S0 a) γ σ H) (hD : H Dl = some (.lst vs)) (h0 : H0 Dl = none) :
    SI R K H0 S0 γ σ (upd H Dl (.lst ws)) ∧ SI R K (cutO γ σ (upd H Dl (.lst ws))) (fun a => a = Dl ∨ S0 a) γ σ (upd H Dl (.lst ws)) := by
  have nd : ∀ i a, Fp γ σ i a → a ≠ Dl := fun i a f e => sB.dom a (.inl e) (sB.fp i a f).1
  have kp : Keep (off (Sx (fun a => a = Dl ∨ S0 a) γ σ) H) (off (Sx (fun a => a = Dl ∨ S0 a) γ σ) (upd H Dl (.lst ws))) := fun a u e n => by
    obtain ⟨q1, q2⟩ := off_some e
    refine off_of q1 ?_
    rw [upd_ne (fun z => q1 (.inl (.inl z)))]
    exact q2
  have ok : ∀ (i : Nat) (x : Sl), γ[i]? = some x → ∃ v, σ[i]? = some v ∧ Okx K x v (upd H Dl (.lst ws)) (off (Sx (fun a => a = Dl ∨ S0 a) γ σ) (upd H Dl (.lst ws))) := fun i x h => by
    obtain ⟨v, e1, e2⟩ := sB.ok i x h
    exact ⟨v, e1, e2.keep (fun a f => upd_ne (nd i a ⟨x, v, h, e1, f⟩)) kp⟩
  have nt : ∀ i a, Fp γ σ i a → NT (upd H Dl (.lst ws)) a := fun i a f => by
    obtain ⟨o, e, m⟩ := (sA.fp i a f).2
    exact ⟨o, by rw [upd_ne (nd i a f)]; exact e, m⟩
  have s1 : SI R K H0 S0 γ σ (upd H Dl (.lst ws)) := ⟨Rel.chgL sA.rel h0 ⟨_, hD⟩, sA.dom, sA.len, fun i x h => by
    obtain ⟨v, e1, e2⟩ := ok i x h
    exact ⟨v, e1, e2.keep (fun _ _ => rfl) (off_keep (Keep.refl _) fun a z => z.elim (fun z => .inl (.inr z)) .inr)⟩, fun i a f => ⟨(sA.fp i a f).1, nt i a f⟩, sA.inj⟩
  refine ⟨s1, s1.rebase.rel, fun a z => ?_, sA.len, ok, s1.rebase.fp, sA.inj⟩
  rcases z with z | z
  · intro e
    unfold cutO off at e
    by_cases ho : isOwn γ σ a
    · obtain ⟨i, f⟩ := ho
      exact nd i a f z
    · rw [if_neg ho, z, upd_same] at e
      cases e
  · exact s1.rebase.dom a z
section
variable {R : Hp → Hp → Prop} [RelC R] {X : Cx} {γ : List Sl} {pos : Pos}
theorem eu_lc {elt iter : Expr} {scope : Scope} {x' : Str} (i j : Nat) {ds : List D} (B : Nat → Bx) {fs : List Addr} (r : Nat → D) {tp : Pos} (hij : i ≠ j) (hc : X.calm = true) (hN : X.N.Nodup) (hi : EI R X γ (.Name x' tp) iter ds) (ok : BlkOk X.N X.env.scope scope [(x', j)])
    (hg : ∀ (s : Shared) (H : Hp) (C : Addr) (cl : List (Str × Addr)) (fp : List Addr), PG (X.blk s H scope (compEnvC scope cl C X.env) fp) (.Name x' tp) (gName j)) (hj : γ[j]? = some .no) (h0 : γ[i]? = some (.own (.b (B 0) fs)))
    (ht : ∀ k d, ds[k]? = some d → ∀ (s : Shared) (H : Hp) (C : Addr) (cl : List (Str × Addr)) (fp : List Addr), EU R (X.blk s H scope (compEnvC scope cl C X.env) fp) ((γ.set i (.own (.b (B k) fs))).set j (.dat d)) elt (r k) ((γ.set i (.own (.b (B (k + 1)) fs))).set j (.dat d)))
    (hr : ∀ k, Imm (r k)) (hl : ds.length ≤ 1000) (hs : ∀ x, foldedSetIterable iter X.env x = pure x := by intro _; rfl) : EU R X γ (.ListComp elt [⟨.Name x' tp, iter, [], 0⟩] scope pos) (.list ((List.range ds.length).map r)) (γ.set i (.own (.b (B ds.length) fs))) := fun H0 S0 σ H Q s kq => by
  obtain ⟨wi, hpi, hwi⟩ := hi
  have pel : ∀ (s : Shared) (H : Hp) (C : Addr) (cl : List (Str × Addr)) (fp : List Addr), PE (X.blk s H scope (compEnvC scope cl C X.env) fp) elt (fun σ' H' Q' => ∀ (s : Shared) (H : Hp) (C : Addr) (cl : List (Str × Addr)) (fp : List Addr), we (X.blk s H scope (compEnvC scope cl C X.env) fp) elt σ' H' Q') := fun s1 H1 C cl fp => ⟨fun pins s2 σ2 H2 Q2 I2 h2 => pe_we.run pins s2 σ2 H2 Q2 I2 (h2 s1 H1 C cl fp)⟩
  refine we_of (pe_lc hc hN hpi ok hg (fun _ _ _ _ _ => pts_nil) pel hs) (hwi H0 S0 σ H _ s fun J H1 r1 itd Dl hD => ?_)
  let g : Nat → List Sl := fun k => γ.set i (.own (.b (B k) fs))
  have g0 : g 0 = γ := set_same h0
  have gj : ∀ k, (g k)[j]? = some .no := fun k => by
    show (γ.set i _)[j]? = _
    rw [List.getElem?_set_ne hij]
    exact hj
  have gjs : ∀ k d, ((g k).set j d).set j .no = g k := fun k d => by
    rw [List.set_set]
    exact set_same (gj k)
  show ∃ W : Nat → Nat → Hp → Prop, _
  have s1 := s.mono r1
  -- the slots with the comprehension's own wiped
  have sw : SI R X.K H0 S0 (g 0) (σ.set j none) H1 := by
    have t := s1.putN j (v := none)
    rw [set_same hj] at t
    rw [g0]
    exact t
  have hl0 : i < γ.length := (List.getElem?_eq_some_iff.mp h0).1
  have gi : ∀ k, (g k)[i]? = some (.own (.b (B k) fs)) := fun k => List.getElem?_set_self hl0
  have gl : ∀ k l, i ≠ l → (g k)[l]? = γ[l]? := fun k l h => List.getElem?_set_ne h
  have fq : ∀ k l a, Fp (g k) (σ.set j none) l a → Fp γ σ l a := fun k l a ⟨y, v, z1, z2, z3⟩ => by
    have nj : j ≠ l := fun e => by
      subst e
      rw [gj k] at z1
      cases z1
      exact z3
    rw [List.getElem?_set_ne nj] at z2
    by_cases hl : i = l
    · subst hl
      rw [gi k] at z1
      cases z1
      exact ⟨_, v, h0, z2, z3⟩
    · rw [gl k l hl] at z1
      exact ⟨y, v, z1, z2, z3⟩
  have fr : ∀ k l a, Fp γ σ l a → Fp (g k) (σ.set j none) l a := fun k l a ⟨y, v, z1, z2, z3⟩ => by
    have nj : j ≠ l := fun e => by
      subst e
      rw [hj] at z1
      cases z1
      exact z3
    by_cases hl : i = l
    · subst hl
      rw [h0] at z1
      cases z1
      exact ⟨_, v, gi k, by rw [List.getElem?_set_ne nj]; exact z2, z3⟩
    · exact ⟨y, v, by rw [gl k l hl]; exact z1, by rw [List.getElem?_set_ne nj]; exact z2, z3⟩
  have sq : ∀ k (S : Addr → Prop) a, Sx S (g k) (σ.set j none) a → Sx S γ σ a := fun k S a z => z.elim .inl fun ⟨l, z⟩ => .inr ⟨l, fq k l a z⟩
  have sr : ∀ k (S : Addr → Prop) a, Sx S γ σ a → Sx S (g k) (σ.set j none) a := fun k S a z => z.elim .inl fun ⟨l, z⟩ => .inr ⟨l, fr k l a z⟩
  have hD0 : H0 Dl = none := Rel.free s1.rel hD
  let W : Nat → Hp → Prop := fun k H' => SI R X.K H0 S0 (g k) (σ.set j none) H' ∧ SI R X.K (cutO (g k) (σ.set j none) H') (fun a => a = Dl ∨ S0 a) (g k) (σ.set j none) H' ∧ (∃ vs, H' Dl = some (.lst vs) ∧ ∀ Hx, DtAll X.K Hx vs ((List.range k).map r)) ∧ Keep (off (Sx S0 γ σ) H1) (off (fun a => a = Dl ∨ Sx S0 γ σ a) H')
  refine ⟨fun k m H' => m = ds.length - k ∧ k ≤ ds.length ∧ W k H', ⟨ds.length, by simp, Nat.zero_le _, ?_⟩, ?_⟩
  · refine ⟨sw.mono (Rel.more sw.ref (same_new hD)), sw.avoid (Rel.more sw.ref (same_new hD)) hD (by rw [upd_same]; exact fun q => nomatch q), ⟨[], upd_same, fun _ => .nil⟩, fun a u e n => ?_⟩
    obtain ⟨q1, q2⟩ := off_some e
    have na : a ≠ Dl := ne_of_none q2 hD
    refine off_of (fun z => ?_) ?_
    · rcases z with z | z
      · exact na z
      · exact q1 z
    · rw [upd_ne na]
      exact q2
  · rintro k m H' ⟨rfl, hle, sA, sB, ⟨vs, hDl, hvs⟩, kp⟩
    have nDl : ¬ isOwn (g k) (σ.set j none) Dl := fun ⟨l, f⟩ => sB.dom Dl (.inl rfl) (sB.fp l Dl f).1
    have bDl : cutO (g k) (σ.set j none) H' Dl = some (.lst vs) := off_of nDl hDl
    by_cases hlt : k < ds.length
    · have hdk : ds[k]? = some ds[k] := List.getElem?_eq_getElem hlt
      refine .inr ⟨itd.go k H' _ kp hlt, fun H2 => W (k + 1) H2, fun H2 h2 => ⟨ds.length - (k + 1), by omega, rfl, hlt, h2⟩, fun x H2 hy => ?_⟩
      obtain ⟨sm, dx⟩ := itd.yld k H' _ x H2 ds[k] kp (fun a z => by
        rcases z with z | z
        · rw [z, hDl]
          exact fun q => nomatch q
        · exact sA.there (sr k S0 a z)) hy hdk
      have sB2 := sB.mono (Rel.more sB.ref sm)
      have sC := sB2.putD j (v := x) (d := ds[k]) (dp_keep (off_keep (Keep.refl H2) fun a z => by
        rcases z with (z | z) | ⟨l, z⟩
        · exact .inl z
        · exact .inr (.inl z)
        · exact .inr (.inr ⟨l, fq k l a z⟩)) _ _ dx)
      refine ⟨?_, ?_⟩
      · show ((σ.set j none).set j (some x)).set j none = σ.set j none
        rw [List.set_set, List.set_set]
      · refine iteT (B := W (k + 1) H2) (fun (s3 : Shared) (H3 : Hp) (C : Addr) (cl : List (Str × Addr)) (fp : List Addr) => ht k _ hdk s3 H3 C cl fp _ _ _ H2 _ sC fun y H4 s4 d4 => ?_)
        have s5 := s4.putN j (v := none)
        rw [show ((γ.set i (Sl.own (Ow.b (B (k + 1)) fs))).set j (Sl.dat ds[k])).set j Sl.no = g (k + 1) from gjs (k + 1) _, show (List.set (List.set (wipe σ (List.map (fun x => x.snd) [(x', j)])) j (some x)) j none) = σ.set j none by
          show ((σ.set j none).set j (some x)).set j none = σ.set j none
          rw [List.set_set, List.set_set]] at s5
        have sA5 : SI R X.K H0 S0 (g (k + 1)) (σ.set j none) H4 := sA.back (s5.less fun a z => .inr z) sA.cutR
        have hD4 : H4 Dl = some (.lst vs) := Rel.keep s5.rel _ _ bDl fun _ z => nomatch z
        obtain ⟨t1, t2⟩ := SI.listed (ws := vs ++ [y]) sA5 s5 hD4 hD0
        refine ⟨vs, hD4, ?_, t1, t2, ⟨vs ++ [y], upd_same, fun Hx => ?_⟩, fun a u e n => ?_⟩
        · have := dps_len (hvs H4)
          rw [List.length_map, List.length_range] at this
          rw [this]
          exact Nat.lt_of_lt_of_le hlt (Nat.le_of_lt (small1000 hl))
        · rw [List.range_succ, List.map_append]
          exact dps_app (hvs Hx) (dps_one (hr k _ _ _ _ d4))
        · have h1 := kp a u e n
          obtain ⟨q1, q2⟩ := off_some h1
          have na : a ≠ Dl := fun z => q1 (.inl z)
          refine off_of q1 ?_
          rw [upd_ne na]
          exact Rel.keep s5.rel a u (off_of (fun ⟨l, f⟩ => q1 (.inr (.inr ⟨l, fq k l a f⟩))) q2) n
    · have e : k = ds.length := by omega
      subst e
      refine .inl ⟨itd.stop _ H' _ kp (Nat.le_refl _), ?_⟩
      obtain ⟨v0, hv0, _⟩ := s.ok j _ hj
      have sF := sA.putN j (v := v0)
      rw [set_same (gj _), show (σ.set j none).set j v0 = σ by rw [List.set_set]; exact set_same hv0] at sF
      refine kq (.ref Dl) H' sF (.lst (.inl (off_of (fun z => ?_) hDl)) (hvs _))
      rcases z with z | ⟨l, y, v, z1, z2, z3⟩
      · exact s.dom Dl z hD0
      · refine nDl ⟨l, fr _ l Dl ?_⟩
        by_cases hl : i = l
        · subst hl
          rw [show (γ.set i (Sl.own (Ow.b (B ds.length) fs)))[i]? = _ from gi ds.length] at z1
          cases z1
          exact ⟨_, v, h0, z2, z3⟩
        · rw [show (γ.set i (Sl.own (Ow.b (B ds.length) fs)))[l]? = _ from gl ds.length l hl] at z1
          exact ⟨y, v, z1, z2, z3⟩
end
end An

/-! A new sheet; a written dict asked for a key. -/
namespace An
open PySem PySem.Spec PyProof.Rows L2
def now0 : D := .tuple [dcD [] [], .int 0, dcD [] []]
/-- what the class's __init__ promises -/
def spI (K : PySem.W.Frag) : Sp := fun vs H Q _ => ∃ p dx, vs = [.ref p] ∧ H p = some (.ins (He.ga K "Sheet") dx []) ∧ ∀ H2 u pl z, p ≠ pl → H pl = none → Same (off (· = p) H) H2 → H2 p = some (.ins (He.ga K "Sheet") dx [("now", u), ("past", .ref pl), ("ahead", z)]) → H2 pl = some (.lst []) →
  Dt K (off (fun a => a = p ∨ a = pl ∨ H a ≠ none) H2) u now0 → Dt K (off (fun a => a = p ∨ a = pl ∨ H a ≠ none) H2) z (.list []) → Q .non H2
structure FnI (P : Program) (w : World) (K : PySem.W.Frag) (mg : Str → Option Value) (base : Heap) (k : Nat) : Prop where
  ok : ∃ (f : Addr) (fd : FuncData) (ps : List Str), FnOk P w K mg base (L2N.CX P w) k f fd ps (spI K) ∧ Mk K (He.ga K "Sheet") f ∧ Binds K fd ps []
  ob : ObC K (He.ga K "Sheet")
  g : mg "Sheet" = some (.ref (He.ga K "Sheet"))
section
variable {R : Hp → Hp → Prop} [RelC R] {X : Cx} {γ : List Sl} {P : Po} {pos p cp : Pos}
/-- x = Sheet() -/
theorem s1_newSheet (i : Nat) {x : Str} {p2 : Pos} {k : Nat} (F : FnI X.prog X.w X.K X.mg X.base k) (hr : Room (k + 1) X.A) (h : ∀ fs, P.nx (γ.set i (.own (.b (shB now0 [] []) fs)))) (hN : X.N.Nodup) (hg : Gl X "Sheet" := by rfl) (hi : X.N[i]? = some x := by rfl) (hx : Loc X.env.scope x := by first | exact Or.inl rfl | exact Or.inr rfl)
    (hs : swapsWith (.Call (.Name "Sheet" p2) [] [] cp) (some (.Name x p)) pos.line X.env = pure false := by rfl) (hf : X.fn x = true ∨ X.env.scope.names.lookup x = some .local := by first | exact .inl rfl | exact .inr rfl | assumption) : S1 R X γ (.Assign [.Name x p] (.Call (.Name "Sheet" p2) [] [] cp) pos) P := fun H0 S0 σ H E W s tk n r b c z => by
  obtain ⟨f, fd, ps, h1, h2, h3⟩ := F.ok
  refine ws_of (ps_set hN hi hx (pe_make0 (E := E0) h2 h1 hr hg F.g h3 .nil passN (by decide)) hs hf) (fun q dx nq ndx nex => ?_)
  refine ⟨q, dx, rfl, upd_same, fun H2 u pl z' np npl sm e1 e2 d1 d2 => ⟨rfl, ?_⟩⟩
  have npl' : H pl = none := by
    by_cases hdx : pl = dx
    · rw [hdx]; exact ndx
    · rw [upd_ne (Ne.symm np), upd_ne hdx] at npl
      exact npl
  have sH : Same H H2 := fun a o e => sm a o (off_of (ne_of_none e nq) (by rw [upd_ne (ne_of_none e nq), upd_ne (ne_of_none e ndx)]; exact e))
  have kp : Keep (off (fun a => a = q ∨ a = pl ∨ upd (upd H dx (.own q)) q (.ins (He.ga X.K "Sheet") dx []) a ≠ none) H2) (off (fun a => Fx (.own (.b (shB now0 [] []) [q, pl])) (some (.ref q)) a ∨ Sx S0 γ σ a) H2) := off_keep (Keep.refl H2) fun a zz => by
    rcases zz with zz | zz
    · have zz : a ∈ [q, pl] := zz
      rcases List.mem_cons.mp zz with zz | zz
      · exact .inl zz
      · exact .inr (.inl (List.mem_singleton.mp zz))
    · refine .inr (.inr ?_)
      have h0 := s.there zz
      by_cases ha : a = q
      · rw [ha, upd_same]; exact fun w => nomatch w
      · rw [upd_ne ha]
        by_cases hb : a = dx
        · rw [hb, upd_same]; exact fun w => nomatch w
        · rw [upd_ne hb]; exact h0
  refine n _ _ _ (h [q, pl]) (s.putB i (Rel.more s.ref sH) (fun a ha => ?_) ⟨_, rfl, q, pl, dx, u, z', [], rfl, rfl, np, F.ob, e1, e2, dp_keep kp _ _ d1, .nil, dp_keep kp _ _ d2⟩)
  have ha : a ∈ [q, pl] := ha
  rcases List.mem_cons.mp ha with rfl | ha
  · exact ⟨nq, _, e1, trivial⟩
  · rw [List.mem_singleton.mp ha]
    exact ⟨npl', _, e2, trivial⟩
end
/-! ### a written dict with texts for keys and numbers for values -/
/-- at a key of the dict x: a number, or nothing -/
structure KAt (K : PySem.W.Frag) (w : World) (mg : Str → Option Value) (x z : Str) (o : Option Int) : Prop where
  g : mg x = some (.ref (He.ga K x))
  d : ∃ es n, KDict K w (He.ga K x) es n
  at_ : ∃ r, PySem.W.nsIn K (He.ga K x) z = some r ∧ KIs o r
section
variable {R : Hp → Hp → Prop} [RelC R] {X : Cx} {γ : List Sl} {pos p : Pos} {a b : Expr}
/-- e not in X -/
theorem et_notInK {x z : Str} {o : Option Int} (F : KAt X.K X.w X.mg x z o) (ha : EE R X γ a (.str z)) (hm : behindInMarks .NotIn (.Name x p) = false := by rfl) (hg : Gl X x := by rfl) (hd : (x == ("__debug__" : Str)) = false := by decide) : ET R X γ (.Compare a [.NotIn] [.Name x p] pos) (!o.isSome) := fun H0 S0 σ H Q s k => by
  obtain ⟨es, n, kd⟩ := F.d
  obtain ⟨r, h1, h2⟩ := F.at_
  refine wt_of (pt_cmpR (op_notIn_kd kd) pe_we (pe_glob (v := .ref (He.ga X.K x)) hg F.g rfl hd) hm) (ha H0 S0 σ H _ s fun v H1 r1 d1 => ?_)
  cases d1
  refine ⟨z, r, rfl, rfl, h1, _, rfl, ?_⟩
  cases o with
  | none =>
    rw [show r = none from h2]
    exact k H1 r1
  | some i =>
    obtain ⟨t, h2⟩ := h2
    rw [h2]
    exact k H1 r1
/-- X[e] -/
theorem ee_ixK {x z : Str} {i : Int} (F : KAt X.K X.w X.mg x z (some i)) (hb : EE R X γ b (.str z)) (hs : PlainIx b := by exact fun _ _ => rfl) (hg : Gl X x := by rfl) (hd : (x == ("__debug__" : Str)) = false := by decide) : EE R X γ (.Subscript (.Name x p) b pos) (.int i) := fun H0 S0 σ H Q s k => by
  obtain ⟨es, n, kd⟩ := F.d
  obtain ⟨r, h1, t, h2⟩ := F.at_
  subst h2
  refine we_of (pe_ix ix_kdict (pe_glob (v := .ref (He.ga X.K x)) hg F.g rfl hd) pe_we hs) (hb H0 S0 σ H _ s fun v H1 r1 d1 => ?_)
  cases d1
  exact ⟨_, z, .int i, rfl, rfl, ⟨es, n, _, kd.at_, kd.lit, h1, ⟨t, rfl⟩⟩, k _ H1 r1 (.int i)⟩
end
end An

/-! More of tuples. -/
namespace An
open PySem PySem.Spec PyProof.Rows L2
section
variable {R : Hp → Hp → Prop} [Rel R] {X : Cx} {γ : List Sl} {pos : Pos}
theorem eg_tri {i j k : Nat} {x y w : Str} {d1 d2 d3 : D} {p1 p2 p3 : Pos} {kk : Nat} (hc : X.calm = true) (hN : X.N.Nodup) (hi : X.N[i]? = some x := by rfl) (hj : X.N[j]? = some y := by rfl) (hk : X.N[k]? = some w := by rfl) (hx : Loc X.env.scope x := by first | exact Or.inl rfl | exact Or.inr rfl)
    (hy : Loc X.env.scope y := by first | exact Or.inl rfl | exact Or.inr rfl) (hw : Loc X.env.scope w := by first | exact Or.inl rfl | exact Or.inr rfl)
    (hf : X.fn x = true ∨ X.env.scope.names.lookup x = some .local := by first | exact .inl rfl | exact .inr rfl | assumption) (hg : X.fn y = true ∨ X.env.scope.names.lookup y = some .local := by first | exact .inl rfl | exact .inr rfl | assumption)
    (hh : X.fn w = true ∨ X.env.scope.names.lookup w = some .local := by first | exact .inl rfl | exact .inr rfl | assumption) :
    EG R X γ (.Tuple [.Name x p1, .Name y p2, .Name w p3] kk pos) (.tuple [d1, d2, d3]) (((γ.set i (.dat d1)).set j (.dat d2)).set k (.dat d3)) := fun H0 S0 σ H v Q s h kq => by
  cases h with
  | tup h1 h2 =>
    cases h2 with
    | cons e1 r1 =>
      cases r1 with
      | cons e2 r2 =>
        cases r2 with
        | cons e3 r3 =>
          cases r3
          refine wg_of (pg_tup hc (pgs_cons (pg_name hN hi hx hf) (pgs_cons (pg_name hN hj hy hg) (pgs_cons (pg_name hN hk hw hh) pgs_nil)))) ⟨_, _, rfl, sqt_keep off_in h1, rfl, _, _, rfl, _, _, rfl, _, _, rfl, rfl, ?_⟩
          have s1 := s.putD i e1
          have s2 := s1.putD j (dp_keep (off_keep (Keep.refl H) sx_dat) _ _ e2)
          exact kq _ (s2.putD k (dp_keep (off_keep (Keep.refl H) sx_dat) _ _ (dp_keep (off_keep (Keep.refl H) sx_dat) _ _ e3)))
end
section
variable {R : Hp → Hp → Prop} [RelC R] {X : Cx} {γ : List Sl} {P : Po} {pos p : Pos}
/-- t[1:] -/
theorem ee_rest {e : Expr} {d : D} {ds : List D} {kk : Nat} {p1 p2 : Pos} (he : EE R X γ e (.tuple (d :: ds))) (hl : ds.length ≤ 1000 := by first | decide | simp) : EE R X γ (.Subscript e (.Slice (some (.Constant (.int 1) kk p1)) none none p2) pos) (.tuple ds) := fun H0 S0 σ H Q s k => by
  refine we_of (pe_slice sl_tup pe_we (po_some pe_int) po_none) (he H0 S0 σ H _ s fun v H1 r1 d1 => ⟨1, rfl, ?_⟩)
  cases d1 with
  | tup h1 h2 =>
    have hn := dps_len h2
    cases h2 with
    | cons g1 g2 =>
      rename_i a v vs
      have hl2 : vs.length = ds.length := dps_len g2
      have e1 : HT.sIx (v :: vs).length 0 (some 1) = 1 := by
        show HT.sIx (vs.length + 1) 0 (some 1) = 1
        unfold HT.sIx
        simp
      have e2 : HT.sIx (v :: vs).length (v :: vs).length none = vs.length + 1 := rfl
      refine ⟨a, v :: vs, rfl, sqt_keep off_in h1, fun z => ?_, fun q n => ?_⟩
      · rw [e1] at z
        exact absurd z.1 (by decide)
      · have ec : cutV (v :: vs) (some 1) none = vs := by
          unfold cutV
          rw [e1, e2]
          show vs.take (vs.length + 1 - 1) = vs
          rw [Nat.add_sub_cancel, List.take_length]
        rw [ec]
        have sd := s.mono r1
        exact k (.ref q) _ (Rel.more r1 (same_new n)) (.tup (.inl (.inl (off_of (fun z => sd.there z n) upd_same))) (dts_new n g2))
/-- tuple(x), x a list -/
theorem ee_tupleOf {a : Expr} {ds : List D} (ha : EE R X γ a (.list ds)) (hm : X.mg "tuple" = none) (hg : Gl X "tuple" := by rfl) (na : starEach [a] X.env = (false, eval a X.env) :: starEach [] X.env := by rfl) : EE R X γ (.Call (.Name "tuple" p) [a] [] pos) (.tuple ds) := fun H0 S0 σ H Q s k =>
  we_of (pe_tupleOf hg hm pe_we na) (ha H0 S0 σ H _ s fun v H1 r1 d1 => by
    cases d1 with
    | lst h1 h2 =>
      refine .inl ⟨_, _, rfl, .inl (rd_keep off_in h1), fun q n => ?_⟩
      have sd := s.mono r1
      exact k (.ref q) _ (Rel.more r1 (same_new n)) (.tup (.inl (.inl (off_of (fun z => sd.there z n) upd_same))) (dts_new n h2)))
/-- in a tuple -/
theorem od_inT {d : D} {ds : List D} {k : Nat} (g : Gx X k) (ha : SeqAt.shaped d = true) (hb : SeqAt.shaped (.list ds) = true) : OpD X (compareOp .In) d (.tuple ds) (.bool (ds.any fun z => PyData.eqv z d)) :=
  ⟨fun x y H Q => ∃ d ds, Dp X.K H x d ∧ Dp X.K H y (.tuple ds) ∧ SeqAt.shaped d = true ∧ SeqAt.shaped (.list ds) = true ∧ Q (.bl (ds.any fun z => PyData.eqv z d)) H, fun pins s σ H x y v u Q I rx ry h => by
    obtain ⟨d, ds, hd, he, sd, se, q⟩ := h
    obtain ⟨as, r1⟩ := Dp.reads I d x v hd rx
    obtain ⟨bs, r2⟩ := Dp.reads I (.tuple ds) y u he ry
    exact SeqAt.in_tuple_reads r2 r1 (SeqAt.canLay_of_shaped se) (SeqAt.canLay_of_shaped sd) (room_in_shaped sd (by have := g.room.un; omega)) (⟨.bl _, H, I, rfl, q⟩), fun H x y Q hx hy k => ⟨d, ds, hx.dp (SeqAt.canLay_of_shaped ha), hy.dp (by have := SeqAt.canLay_of_shaped hb; simpa [PyData.canLay0] using this), ha, hb, k _ fun _ => .bl _⟩⟩
/-! ### what raises within a display -/
def EAX (R : Hp → Hp → Prop) (X : Cx) (γ : List Sl) (es : List Expr) (c : Value) : Prop :=
  ∀ (H0 : Hp) (S0 : Addr → Prop) (σ : L2.St) (H : Hp) (Q : List V → Hp → Prop) (W : XK), SI R X.K H0 S0 γ σ H → L2N.Takes X (fun c d _ H' => W c d H') → (∀ H2, R H H2 → W c none H2) → wa X es σ H Q
theorem exa_here {e : Expr} {es : List Expr} {c : Value} (h : EX R X γ e c) (hs : starEach (e :: es) X.env = (false, eval e X.env) :: starEach es X.env := by rfl) : EAX R X γ (e :: es) c := fun H0 S0 σ H Q W s tk z =>
  wa_of (pa_cons pe_we pa_wa hs) (h H0 S0 σ H _ W s tk z)
theorem exa_there {e : Expr} {es : List Expr} {d : D} {c : Value} (h : EE R X γ e d) (t : EAX R X γ es c) (hs : starEach (e :: es) X.env = (false, eval e X.env) :: starEach es X.env := by rfl) : EAX R X γ (e :: es) c := fun H0 S0 σ H Q W s tk z =>
  wa_of (pa_cons pe_we pa_wa hs) (h H0 S0 σ H _ s fun v H1 r1 d1 => t H0 S0 σ H1 _ W (s.mono r1) tk fun H2 r2 => z H2 (Rel.trans r1 r2))
theorem ex_tup {es : List Expr} {x1 : Nat} {c : Value} (h : EAX R X γ es c) : EX R X γ (.Tuple es x1 pos) c := fun H0 S0 σ H Q W s tk z => we_of (pe_tup pa_wa) (h H0 S0 σ H _ W s tk z)
/-- x = e, e raises -/
theorem s1_setX (i : Nat) {x : Str} {e : Expr} {c : Value} {p : Pos} (he : EX R X γ e c) (h : P.rz c) (hN : X.N.Nodup) (hi : X.N[i]? = some x := by rfl) (hx : Loc X.env.scope x := by first | exact Or.inl rfl | exact Or.inr rfl)
    (hs : swapsWith e (some (.Name x p)) pos.line X.env = pure false := by rfl) (hf : X.fn x = true ∨ X.env.scope.names.lookup x = some .local := by first | exact .inl rfl | exact .inr rfl | assumption) : S1 R X γ (.Assign [.Name x p] e pos) P := fun H0 S0 σ H E W s tk n r b ct z =>
  ws_of (ps_set hN hi hx pe_we hs hf) (he H0 S0 σ H _ W s tk fun H2 r2 => z c H2 h (Rel.trans s.rel r2))
/-- x[k] = e, e raises -/
theorem s1_setIxX (i : Nat) {x : Str} {e ix : Expr} {c : Value} {p2 : Pos} {kk : Nat} (g : Gx X kk) (he : EX R X γ e c) (h : P.rz c) (hN : X.N[i]? = some x := by rfl)
    (hv : Vis X.env.scope x := by first | exact Or.inl rfl | exact Or.inr (Or.inl rfl) | exact Or.inr (Or.inr rfl)) (hd : (x == ("__debug__" : Str)) = false := by decide) (hcd : (x == ("__classdict__" : Str)) = false := by decide)
    (ha : ∀ v, assign (.Subscript (.Name x p) ix p2) X.env v = (do
      let ov ← holding [v] (eval (.Name x p) X.env)
      let iv ← holding [v, ov] (eval ix X.env)
      standAt p2
      holding [v, ov, iv] (setItem ov iv v)
      release [v, ov, iv] []) := by intro _; rfl)
    (hs : swapsWithSole [.Subscript (.Name x p) ix p2] e pos.line X.env = pure false := by rfl) (hw : swappedStores [.Subscript (.Name x p) ix p2] e X.env = pure none := by rfl)
    (h1 : (assignEach [.Subscript (.Name x p) ix p2] X.env).map (·.2) = [assign (.Subscript (.Name x p) ix p2) X.env] := by rfl) : S1 R X γ (.Assign [.Subscript (.Name x p) ix p2] e pos) P := fun H0 S0 σ H E W s tk n r bk ct z =>
  ws_of (ps_asg pe_we (pg_sub (pe_var hN hv hd hcd) pe_we (set_dict (by have := g.room.un; omega)) ha) hs hw h1) (he H0 S0 σ H _ W s tk fun H2 r2 => z c H2 h (Rel.trans s.rel r2))
end
end An

/-! list(range(..)), a slot forgotten. -/
namespace An
open PySem PySem.Spec PyProof.Rows L2
theorem dts_rgV {K : PySem.W.Frag} {H : Hp} (a : Int) : ∀ l : List Nat, DtAll K H (l.map fun i : Nat => V.int (a + i)) (l.map fun i : Nat => PyData.int (a + i))
  | [] => .nil
  | i :: l => .cons (.int _) (dts_rgV a l)
section
variable {R : Hp → Hp → Prop} [RelC R] {X : Cx} {γ γ1 : List Sl} {P : Po} {pos : Pos}
theorem ee_lrg1 {a : Expr} {p p2 p3 : Pos} {n : Int} (h : EE R X γ a (.int n)) (hn : 0 ≤ n ∧ n ≤ 1000) (hm : X.mg "list" = none) (hm2 : X.mg "range" = none) (hc : X.calm = true) (hg : Gl X "list" := by rfl) (hg2 : Gl X "range" := by rfl)
    (na2 : starEach [a] X.env = (false, eval a X.env) :: starEach [] X.env := by rfl) (na : starEach [.Call (.Name "range" p2) [a] [] p3] X.env = (false, eval (.Call (.Name "range" p2) [a] [] p3) X.env) :: starEach [] X.env := by rfl) :
    EE R X γ (.Call (.Name "list" p) [.Call (.Name "range" p2) [a] [] p3] [] pos) (.list (rangeD 0 n.toNat)) := ef_ee fun H0 S0 σ H Q s k =>
  we_of (pe_listRg hc hg hm (prg_1 hg2 hm2 pe_we na2) na) (h H0 S0 σ H _ s fun v H1 r1 d1 => by
    cases d1
    refine ⟨n, rfl, RgOk.of_le (Int.le_refl _) (by omega) (by decide) hn.1, fun q nq => k q _ _ (Rel.free r1 nq) (Rel.more r1 (same_new nq)) upd_same ?_⟩
    unfold rgV rangeD
    rw [Int.sub_zero]
    exact dts_newO nq (dts_rgV 0 _))
theorem ee_lrg2 {a b : Expr} {p p2 p3 : Pos} {m n : Int} (h : EE R X γ a (.int m)) (h' : EE R X γ b (.int n)) (hm0 : 0 ≤ m ∧ m ≤ 1000) (hn : 0 ≤ n ∧ n ≤ 1000) (hm : X.mg "list" = none) (hm2 : X.mg "range" = none) (hc : X.calm = true) (hg : Gl X "list" := by rfl) (hg2 : Gl X "range" := by rfl)
    (na2 : starEach [a, b] X.env = (false, eval a X.env) :: starEach [b] X.env := by rfl) (na3 : starEach [b] X.env = (false, eval b X.env) :: starEach [] X.env := by rfl) (na : starEach [.Call (.Name "range" p2) [a, b] [] p3] X.env = (false, eval (.Call (.Name "range" p2) [a, b] [] p3) X.env) :: starEach [] X.env := by rfl) (hpl : (backTo p3 (starEach [b] X.env)).any (·.1) = false := by rfl) :
    EE R X γ (.Call (.Name "list" p) [.Call (.Name "range" p2) [a, b] [] p3] [] pos) (.list (rangeD m (n - m).toNat)) := ef_ee fun H0 S0 σ H Q s k =>
  we_of (pe_listRg hc hg hm (prg_2 hg2 hm2 pe_we pe_we na2 na3 hpl) na) (h H0 S0 σ H _ s fun v H1 r1 d1 => h' H0 S0 σ H1 _ (s.mono r1) fun u H2 r2 d2 => by
    cases d1
    cases d2
    refine ⟨m, n, rfl, rfl, RgOk.of_le hm0.1 (by omega) (by omega) hn.1, fun q nq => k q _ _ (Rel.free (Rel.trans r1 r2) nq) (Rel.more (Rel.trans r1 r2) (same_new nq)) upd_same ?_⟩
    unfold rgV rangeD
    exact dts_newO nq (dts_rgV m _))
theorem tu_is {e : Expr} {b b' : Bool} (h : TU R X γ e b γ1) (q : b = b') : TU R X γ e b' γ1 := by
  rw [← q]
  exact h
theorem ss_forget {st : List Stmt} (j : Nat) (hj : j < γ.length) (h : SS R X (γ.set j .no) st P) : SS R X γ st P := fun H0 S0 σ H E W s tk n r b c z => by
  obtain ⟨v, e, _⟩ := s.ok j _ (List.getElem?_eq_getElem hj)
  have t := s.putN j (v := v)
  rw [set_same e] at t
  exact h H0 S0 σ H E W t tk n r b c z
end
end An

namespace An
open PySem PySem.Spec PyProof.Rows L2
abbrev PR : Program := PySem.Challenge.pw_abovenought_k91_sheets_refused
def top (i : Nat) : Stmt := PR.main.body.getD i (.Pass ⟨0, 0, 0, 0⟩)
/-- what stands behind the top -/
structure Hd (w : World) (K : PySem.W.Frag) (mg : Str → Option Value) (base : Heap) : Prop where
  ns : base.NoSeer
  d__wall : FE K mg "_wall" (top 0)
  d_common : FE K mg "common" (top 12)
  d_fraction : FE K mg "fraction" (top 13)
  d_plus : FE K mg "plus" (top 14)
  d_times : FE K mg "times" (top 15)
  d_is_fraction : FE K mg "is_fraction" (top 16)
  d_is_poly : FE K mg "is_poly" (top 19)
  d_need_poly : FE K mg "need_poly" (top 20)
  d_trimmed : FE K mg "trimmed" (top 21)
  d_tellable : FE K mg "tellable" (top 22)
  d_fraction_at : FE K mg "fraction_at" (top 23)
  d_added : FE K mg "added" (top 24)
  d_scaled : FE K mg "scaled" (top 25)
  d_taken_off : FE K mg "taken_off" (top 26)
  d_multiplied : FE K mg "multiplied" (top 27)
  d_slope_of : FE K mg "slope_of" (top 28)
  d_composed_of : FE K mg "composed_of" (top 30)
  d_is_whole : FE K mg "is_whole" (top 34)
  d_come_of : FE K mg "come_of" (top 35)
  d_polys_of : FE K mg "polys_of" (top 36)
  d__law_cell : FE K mg "_law_cell" (top 39)
  d__law_drawn : FE K mg "_law_drawn" (top 40)
  d__law_word : FE K mg "_law_word" (top 41)
  d__law_told : FE K mg "_law_told" (top 42)
  d__law_rows_bad : FE K mg "_law_rows_bad" (top 43)
  d_law : FE K mg "law" (top 44)
  g_law : mg "law" = some (.ref (He.ga K "law"))
  g__law_rows_bad : mg "_law_rows_bad" = some (.ref (He.ga K "_law_rows_bad"))
  b_ValueError : mg "ValueError" = none
  b_abs : mg "abs" = none
  b_all : mg "all" = none
  b_bool : mg "bool" = none
  b_dict : mg "dict" = none
  b_enumerate : mg "enumerate" = none
  b_int : mg "int" = none
  b_isinstance : mg "isinstance" = none
  b_len : mg "len" = none
  b_list : mg "list" = none
  b_max : mg "max" = none
  b_min : mg "min" = none
  b_range : mg "range" = none
  b_sorted : mg "sorted" = none
  b_str : mg "str" = none
  b_sum : mg "sum" = none
  b_tuple : mg "tuple" = none
  e_NoughtError : Err K mg "NoughtError" (He.ga K "NoughtError")
  e_BadPoly : Err K mg "BadPoly" (He.ga K "BadPoly")
  e_NoWay : Err K mg "NoWay" (He.ga K "NoWay")
  e_BadStretch : Err K mg "BadStretch" (He.ga K "BadStretch")
  e_BadForm : Err K mg "BadForm" (He.ga K "BadForm")
  e_BadPoints : Err K mg "BadPoints" (He.ga K "BadPoints")
  e_BadRow : Err K mg "BadRow" (He.ga K "BadRow")
  e_Nothing : Err K mg "Nothing" (He.ga K "Nothing")
  c_BadPoly : ExcC K (He.ga K "BadPoly")
  x_BadPoly : PySem.W.exmOne K (.ref (He.ga K "BadPoly")) (.ref (He.ga K "NoughtError")) = some true
  v_BadPoly : PySem.W.kitOne K (.ref (He.ga K "BadPoly")) (.type "ValueError") = some true
  i_BadPoly_BadPoly : PySem.W.kitOne K (.ref (He.ga K "BadPoly")) (.ref (He.ga K "BadPoly")) = some true
  i_BadPoly_NoWay : PySem.W.kitOne K (.ref (He.ga K "BadPoly")) (.ref (He.ga K "NoWay")) = some false
  i_BadPoly_BadStretch : PySem.W.kitOne K (.ref (He.ga K "BadPoly")) (.ref (He.ga K "BadStretch")) = some false
  i_BadPoly_BadForm : PySem.W.kitOne K (.ref (He.ga K "BadPoly")) (.ref (He.ga K "BadForm")) = some false
  i_BadPoly_BadPoints : PySem.W.kitOne K (.ref (He.ga K "BadPoly")) (.ref (He.ga K "BadPoints")) = some false
  i_BadPoly_BadRow : PySem.W.kitOne K (.ref (He.ga K "BadPoly")) (.ref (He.ga K "BadRow")) = some false
  i_BadPoly_Nothing : PySem.W.kitOne K (.ref (He.ga K "BadPoly")) (.ref (He.ga K "Nothing")) = some false
  c_NoWay : ExcC K (He.ga K "NoWay")
  x_NoWay : PySem.W.exmOne K (.ref (He.ga K "NoWay")) (.ref (He.ga K "NoughtError")) = some true
  v_NoWay : PySem.W.kitOne K (.ref (He.ga K "NoWay")) (.type "ValueError") = some true
  i_NoWay_BadPoly : PySem.W.kitOne K (.ref (He.ga K "NoWay")) (.ref (He.ga K "BadPoly")) = some false
  i_NoWay_NoWay : PySem.W.kitOne K (.ref (He.ga K "NoWay")) (.ref (He.ga K "NoWay")) = some true
  i_NoWay_BadStretch : PySem.W.kitOne K (.ref (He.ga K "NoWay")) (.ref (He.ga K "BadStretch")) = some false
  i_NoWay_BadForm : PySem.W.kitOne K (.ref (He.ga K "NoWay")) (.ref (He.ga K "BadForm")) = some false
  i_NoWay_BadPoints : PySem.W.kitOne K (.ref (He.ga K "NoWay")) (.ref (He.ga K "BadPoints")) = some false
  i_NoWay_BadRow : PySem.W.kitOne K (.ref (He.ga K "NoWay")) (.ref (He.ga K "BadRow")) = some false
  i_NoWay_Nothing : PySem.W.kitOne K (.ref (He.ga K "NoWay")) (.ref (He.ga K "Nothing")) = some false
  c_BadStretch : ExcC K (He.ga K "BadStretch")
  x_BadStretch : PySem.W.exmOne K (.ref (He.ga K "BadStretch")) (.ref (He.ga K "NoughtError")) = some true
  v_BadStretch : PySem.W.kitOne K (.ref (He.ga K "BadStretch")) (.type "ValueError") = some true
  i_BadStretch_BadPoly : PySem.W.kitOne K (.ref (He.ga K "BadStretch")) (.ref (He.ga K "BadPoly")) = some false
  i_BadStretch_NoWay : PySem.W.kitOne K (.ref (He.ga K "BadStretch")) (.ref (He.ga K "NoWay")) = some false
  i_BadStretch_BadStretch : PySem.W.kitOne K (.ref (He.ga K "BadStretch")) (.ref (He.ga K "BadStretch")) = some true
  i_BadStretch_BadForm : PySem.W.kitOne K (.ref (He.ga K "BadStretch")) (.ref (He.ga K "BadForm")) = some false
  i_BadStretch_BadPoints : PySem.W.kitOne K (.ref (He.ga K "BadStretch")) (.ref (He.ga K "BadPoints")) = some false
  i_BadStretch_BadRow : PySem.W.kitOne K (.ref (He.ga K "BadStretch")) (.ref (He.ga K "BadRow")) = some false
  i_BadStretch_Nothing : PySem.W.kitOne K (.ref (He.ga K "BadStretch")) (.ref (He.ga K "Nothing")) = some false
  c_BadForm : ExcC K (He.ga K "BadForm")
  x_BadForm : PySem.W.exmOne K (.ref (He.ga K "BadForm")) (.ref (He.ga K "NoughtError")) = some true
  v_BadForm : PySem.W.kitOne K (.ref (He.ga K "BadForm")) (.type "ValueError") = some true
  i_BadForm_BadPoly : PySem.W.kitOne K (.ref (He.ga K "BadForm")) (.ref (He.ga K "BadPoly")) = some false
  i_BadForm_NoWay : PySem.W.kitOne K (.ref (He.ga K "BadForm")) (.ref (He.ga K "NoWay")) = some false
  i_BadForm_BadStretch : PySem.W.kitOne K (.ref (He.ga K "BadForm")) (.ref (He.ga K "BadStretch")) = some false
  i_BadForm_BadForm : PySem.W.kitOne K (.ref (He.ga K "BadForm")) (.ref (He.ga K "BadForm")) = some true
  i_BadForm_BadPoints : PySem.W.kitOne K (.ref (He.ga K "BadForm")) (.ref (He.ga K "BadPoints")) = some false
  i_BadForm_BadRow : PySem.W.kitOne K (.ref (He.ga K "BadForm")) (.ref (He.ga K "BadRow")) = some false
  i_BadForm_Nothing : PySem.W.kitOne K (.ref (He.ga K "BadForm")) (.ref (He.ga K "Nothing")) = some false
  c_BadPoints : ExcC K (He.ga K "BadPoints")
  x_BadPoints : PySem.W.exmOne K (.ref (He.ga K "BadPoints")) (.ref (He.ga K "NoughtError")) = some true
  v_BadPoints : PySem.W.kitOne K (.ref (He.ga K "BadPoints")) (.type "ValueError") = some true
  i_BadPoints_BadPoly : PySem.W.kitOne K (.ref (He.ga K "BadPoints")) (.ref (He.ga K "BadPoly")) = some false
  i_BadPoints_NoWay : PySem.W.kitOne K (.ref (He.ga K "BadPoints")) (.ref (He.ga K "NoWay")) = some false
  i_BadPoints_BadStretch : PySem.W.kitOne K (.ref (He.ga K "BadPoints")) (.ref (He.ga K "BadStretch")) = some false
  i_BadPoints_BadForm : PySem.W.kitOne K (.ref (He.ga K "BadPoints")) (.ref (He.ga K "BadForm")) = some false
  i_BadPoints_BadPoints : PySem.W.kitOne K (.ref (He.ga K "BadPoints")) (.ref (He.ga K "BadPoints")) = some true
  i_BadPoints_BadRow : PySem.W.kitOne K (.ref (He.ga K "BadPoints")) (.ref (He.ga K "BadRow")) = some false
  i_BadPoints_Nothing : PySem.W.kitOne K (.ref (He.ga K "BadPoints")) (.ref (He.ga K "Nothing")) = some false
  c_BadRow : ExcC K (He.ga K "BadRow")
  x_BadRow : PySem.W.exmOne K (.ref (He.ga K "BadRow")) (.ref (He.ga K "NoughtError")) = some true
  v_BadRow : PySem.W.kitOne K (.ref (He.ga K "BadRow")) (.type "ValueError") = some true
  i_BadRow_BadPoly : PySem.W.kitOne K (.ref (He.ga K "BadRow")) (.ref (He.ga K "BadPoly")) = some false
  i_BadRow_NoWay : PySem.W.kitOne K (.ref (He.ga K "BadRow")) (.ref (He.ga K "NoWay")) = some false
  i_BadRow_BadStretch : PySem.W.kitOne K (.ref (He.ga K "BadRow")) (.ref (He.ga K "BadStretch")) = some false
  i_BadRow_BadForm : PySem.W.kitOne K (.ref (He.ga K "BadRow")) (.ref (He.ga K "BadForm")) = some false
  i_BadRow_BadPoints : PySem.W.kitOne K (.ref (He.ga K "BadRow")) (.ref (He.ga K "BadPoints")) = some false
  i_BadRow_BadRow : PySem.W.kitOne K (.ref (He.ga K "BadRow")) (.ref (He.ga K "BadRow")) = some true
  i_BadRow_Nothing : PySem.W.kitOne K (.ref (He.ga K "BadRow")) (.ref (He.ga K "Nothing")) = some false
  c_Nothing : ExcC K (He.ga K "Nothing")
  x_Nothing : PySem.W.exmOne K (.ref (He.ga K "Nothing")) (.ref (He.ga K "NoughtError")) = some true
  v_Nothing : PySem.W.kitOne K (.ref (He.ga K "Nothing")) (.type "ValueError") = some true
  i_Nothing_BadPoly : PySem.W.kitOne K (.ref (He.ga K "Nothing")) (.ref (He.ga K "BadPoly")) = some false
  i_Nothing_NoWay : PySem.W.kitOne K (.ref (He.ga K "Nothing")) (.ref (He.ga K "NoWay")) = some false
  i_Nothing_BadStretch : PySem.W.kitOne K (.ref (He.ga K "Nothing")) (.ref (He.ga K "BadStretch")) = some false
  i_Nothing_BadForm : PySem.W.kitOne K (.ref (He.ga K "Nothing")) (.ref (He.ga K "BadForm")) = some false
  i_Nothing_BadPoints : PySem.W.kitOne K (.ref (He.ga K "Nothing")) (.ref (He.ga K "BadPoints")) = some false
  i_Nothing_BadRow : PySem.W.kitOne K (.ref (He.ga K "Nothing")) (.ref (He.ga K "BadRow")) = some false
  i_Nothing_Nothing : PySem.W.kitOne K (.ref (He.ga K "Nothing")) (.ref (He.ga K "Nothing")) = some true
  k_NOUGHT : KD K mg "NOUGHT" (eF 0)
  k_MOST : KD K mg "MOST" (.int 13)
  k_MOST_ROWS : KD K mg "MOST_ROWS" (.int 20)
  o_Sheet : ObC K (He.ga K "Sheet")
  g_Sheet : mg "Sheet" = some (.ref (He.ga K "Sheet"))
  n_now : NoAttr K (He.ga K "Sheet") "now"
  n_past : NoAttr K (He.ga K "Sheet") "past"
  n_ahead : NoAttr K (He.ga K "Sheet") "ahead"
  m___init__ : ∃ (f : Addr) (fd : FuncData), FunD K "__init__" "Sheet.__init__" (defArgs (inClass (top 37) 0)) (defBody (inClass (top 37) 0)) (defScope (inClass (top 37) 0)) [] [] f fd ∧ Mk K (He.ga K "Sheet") f
  m_become : ∃ (f : Addr) (fd : FuncData), FunD K "become" "Sheet.become" (defArgs (inClass (top 37) 1)) (defBody (inClass (top 37) 1)) (defScope (inClass (top 37) 1)) [] [] f fd ∧ Meth K (He.ga K "Sheet") "become" f
  m_need_row : ∃ (f : Addr) (fd : FuncData), FunD K "need_row" "Sheet.need_row" (defArgs (inClass (top 37) 2)) (defBody (inClass (top 37) 2)) (defScope (inClass (top 37) 2)) [] [] f fd ∧ Meth K (He.ga K "Sheet") "need_row" f
  m_need_there : ∃ (f : Addr) (fd : FuncData), FunD K "need_there" "Sheet.need_there" (defArgs (inClass (top 37) 3)) (defBody (inClass (top 37) 3)) (defScope (inClass (top 37) 3)) [] [] f fd ∧ Meth K (He.ga K "Sheet") "need_there" f
  m_put : ∃ (f : Addr) (fd : FuncData), FunD K "put" "Sheet.put" (defArgs (inClass (top 37) 4)) (defBody (inClass (top 37) 4)) (defScope (inClass (top 37) 4)) [] [] f fd ∧ Meth K (He.ga K "Sheet") "put" f
  m_change : ∃ (f : Addr) (fd : FuncData), FunD K "change" "Sheet.change" (defArgs (inClass (top 37) 5)) (defBody (inClass (top 37) 5)) (defScope (inClass (top 37) 5)) [] [] f fd ∧ Meth K (He.ga K "Sheet") "change" f
  m_drop : ∃ (f : Addr) (fd : FuncData), FunD K "drop" "Sheet.drop" (defArgs (inClass (top 37) 6)) (defBody (inClass (top 37) 6)) (defScope (inClass (top 37) 6)) [] [] f fd ∧ Meth K (He.ga K "Sheet") "drop" f
  m_undo : ∃ (f : Addr) (fd : FuncData), FunD K "undo" "Sheet.undo" (defArgs (inClass (top 37) 7)) (defBody (inClass (top 37) 7)) (defScope (inClass (top 37) 7)) [] [] f fd ∧ Meth K (He.ga K "Sheet") "undo" f
  m_redo : ∃ (f : Addr) (fd : FuncData), FunD K "redo" "Sheet.redo" (defArgs (inClass (top 37) 8)) (defBody (inClass (top 37) 8)) (defScope (inClass (top 37) 8)) [] [] f fd ∧ Meth K (He.ga K "Sheet") "redo" f
  m_numbers : ∃ (f : Addr) (fd : FuncData), FunD K "numbers" "Sheet.numbers" (defArgs (inClass (top 37) 9)) (defBody (inClass (top 37) 9)) (defScope (inClass (top 37) 9)) [] [] f fd ∧ Meth K (He.ga K "Sheet") "numbers" f
  m_poly : ∃ (f : Addr) (fd : FuncData), FunD K "poly" "Sheet.poly" (defArgs (inClass (top 37) 10)) (defBody (inClass (top 37) 10)) (defScope (inClass (top 37) 10)) [] [] f fd ∧ Meth K (He.ga K "Sheet") "poly" f
  m_made_by : ∃ (f : Addr) (fd : FuncData), FunD K "made_by" "Sheet.made_by" (defArgs (inClass (top 37) 11)) (defBody (inClass (top 37) 11)) (defScope (inClass (top 37) 11)) [] [] f fd ∧ Meth K (He.ga K "Sheet") "made_by" f
  m_alike : ∃ (f : Addr) (fd : FuncData), FunD K "alike" "Sheet.alike" (defArgs (inClass (top 37) 12)) (defBody (inClass (top 37) 12)) (defScope (inClass (top 37) 12)) [] [] f fd ∧ Meth K (He.ga K "Sheet") "alike" f
  z_SIZES_given : KAt K w mg "SIZES" "given" (some 2)
  z_SIZES_sum : KAt K w mg "SIZES" "sum" (some 3)
  z_SIZES_less : KAt K w mg "SIZES" "less" (some 3)
  z_SIZES_product : KAt K w mg "SIZES" "product" (some 3)
  z_SIZES_composed : KAt K w mg "SIZES" "composed" (some 3)
  z_SIZES_slope : KAt K w mg "SIZES" "slope" (some 2)
  z_SIZES_plus : KAt K w mg "SIZES" "plus" none

section
variable {w : World} {K : PySem.W.Frag} {mg : Str → Option Value} {base : Heap}
/-! ### fractions -/
theorem sc_common : FnScope ["one", "other"] ["one", "other"] (defScope (top 12)) := ⟨rfl, rfl, rfl, by decide +kernel, rfl, by decide +kernel, by decide +kernel⟩
theorem fn_common (h : Hd w K mg base) : Fn PR w K mg base "common" 41 2 vCommon noX := by
  obtain ⟨f, fd, F, hm⟩ := h.d_common
  refine fn_mk F sc_common hm (F.bindsN fun _ _ _ _ _ _ us hl => match us, hl with | [_, _], _ => rfl) h.ns rfl (by decide) rfl (fun cdv A outer s H E X hX gx hp ds hl => ?_)
  subst hX
  have nd := sc_common.nd
  refine ⟨fun d hv => ?_, fun c hc => hc.elim⟩
  obtain ⟨a, b, rfl, rfl⟩ := hv
  refine ss_cons (s1_while (fun m γ => ∃ a' b' : Nat, γ = [.dat (.int a'), .dat (.int b')] ∧ Nat.gcd a' b' = Nat.gcd a b ∧ m = b') b ⟨a, b, rfl, rfl, rfl⟩ (fun m γ hI => ?_) hp)
  obtain ⟨a', b', rfl, hg, e⟩ := hI
  subst e
  refine ⟨_, et_cmp (ee_var 1) ee_int od_gt (nomark _), fun hk => ?_, fun hk => ?_⟩
  · have hb : 0 < m := by
      have := of_decide_eq_true hk
      omega
    refine ss_one (s1_par 0 1 (ee_var 1) (ee_op (ee_var 0) (ee_var 1) (od_mod ?_)) ?_ rfl nd)
    · omega
    · refine ⟨a' % m, Nat.mod_lt _ hb, m, a' % m, rfl, ?_, rfl⟩
      rw [← hg, Nat.gcd_comm a' m, Nat.gcd_rec m a', Nat.gcd_comm]
  · have hb : m = 0 := by
      have := of_decide_eq_false hk
      omega
    subst hb
    refine ss_one (s1_ret (ee_var 0) ?_)
    rw [← hg, Nat.gcd_zero_right]
theorem sc_fraction : FnScope ["top", "under", "part"] ["top", "under"] (defScope (top 13)) := ⟨rfl, rfl, rfl, by decide +kernel, rfl, by decide +kernel, by decide +kernel⟩
theorem fn_fraction (h : Hd w K mg base) : Fn PR w K mg base "fraction" 42 2 vFraction noX := by
  obtain ⟨f, fd, F, hm⟩ := h.d_fraction
  refine fn_mk F sc_fraction hm (F.bindsN fun _ _ _ _ _ _ us hl => match us, hl with | [_, _], _ => rfl) h.ns rfl (by decide) rfl (fun cdv A outer s H E X hX gx hp ds hl => ?_)
  subst hX
  have nd := sc_fraction.nd
  refine ⟨fun d hv => ?_, fun c hc => hc.elim⟩
  obtain ⟨t, u, rfl, hu, rfl⟩ := hv
  have rest : ∀ (t' : Int) (u' : Nat), 0 < u' → mkRat t' u' = Rat.divInt t u → SS Same (cxOf (L2N.CX PR w) PR w K mg base _ "fraction" (defScope (top 13)) f cdv A outer s H E) [.dat (.int t'), .dat (.int (u' : Nat)), .no] ((defBody (top 13)).drop 1) { rt := fun e => e = eF (Rat.divInt t u), nx := fun _ => eF (Rat.divInt t u) = .none } := fun t' u' h0 he => by
    have hg : 0 < Nat.gcd t'.natAbs u' := Nat.gcd_pos_of_pos_right _ h0
    refine ss_cons (s1_set 2 (ee_call (fn_common h) (gx.room.mono (by decide)) (ea_cons (ee_abs (ee_var 0) h.b_abs) (ea_cons (ee_var 1) ea_nil)) ⟨_, _, rfl, rfl⟩) ?_ nd)
    refine ss_one (s1_ret (ee_tup (ea_cons (ee_op (ee_var 0) (ee_var 2) (od_fdiv gx ?_)) (ea_cons (ee_op (ee_var 1) (ee_var 2) (od_fdiv gx ?_)) ea_nil))) ?_)
    · omega
    · omega
    · rw [← he]
      exact made_eq h0
  refine ss_cons (s1_if (et_cmp (ee_var 1) ee_int od_lt (nomark _)) (fun hk => ?_) (fun hk => ?_))
  · have hu' : u < 0 := of_decide_eq_true hk
    refine ss_cons (s1_set 0 (ee_op ee_int (ee_var 0) od_sub) ?_ nd)
    refine ss_one (s1_set 1 (ee_op ee_int (ee_var 1) od_sub) ?_ nd)
    have e : (0 - u) = ((0 - u).toNat : Int) := by omega
    show SS Same _ [.dat (.int (0 - t)), .dat (.int (0 - u)), .no] _ _
    rw [e]
    refine rest _ _ (by omega) ?_
    rw [← Rat.divInt_ofNat, ← e, Int.zero_sub, Int.zero_sub, Rat.neg_divInt_neg]
  · have hu' : ¬ u < 0 := of_decide_eq_false hk
    refine ss_nil ?_
    have e : u = (u.toNat : Int) := by omega
    show SS Same _ [.dat (.int t), .dat (.int u), .no] _ _
    have q := rest t u.toNat (by omega) (by rw [← Rat.divInt_ofNat, ← e])
    rw [← e] at q
    exact q
/-- two fractions of together few enough bits -/
theorem sc_plus : FnScope ["one", "other"] ["one", "other"] (defScope (top 14)) := ⟨rfl, rfl, rfl, by decide +kernel, rfl, by decide +kernel, by decide +kernel⟩
theorem fn_plus (h : Hd w K mg base) : Fn PR w K mg base "plus" 43 2 (Bin fun a b => a + b) noX := by
  obtain ⟨f, fd, F, hm⟩ := h.d_plus
  refine fn_mk F sc_plus hm (F.bindsN fun _ _ _ _ _ _ us hl => match us, hl with | [_, _], _ => rfl) h.ns rfl (by decide) rfl (fun cdv A outer s H E X hX gx hp ds hl => ?_)
  subst hX
  have nd := sc_plus.nd
  refine ⟨fun d hv => ?_, fun c hc => hc.elim⟩
  obtain ⟨a, b, n, m, rfl, ha, hb, hl, rfl⟩ := hv
  refine ss_one (s1_ret (ee_call (fn_fraction h) (gx.room.mono (by decide)) (ea_cons (ee_op (ee_op (ee_ix (ee_var 0) ee_int rfl) (ee_ix (ee_var 1) ee_int rfl) (od_mul (mulx ha.1 (by simpa using hb.2) hl))) (ee_op (ee_ix (ee_var 1) ee_int rfl) (ee_ix (ee_var 0) ee_int rfl) (od_mul (mulx hb.1 (by simpa using ha.2) (by omega)))) od_add)
    (ea_cons (ee_op (ee_ix (ee_var 0) ee_int rfl) (ee_ix (ee_var 1) ee_int rfl) (od_mul (mulx (by simpa using ha.2) (by simpa using hb.2) hl))) ea_nil)) ⟨_, _, rfl, ?_, rfl⟩) ?_)
  · have h1 := a.den_pos
    have h2 := b.den_pos
    rw [← Int.natCast_mul]
    exact Int.natCast_ne_zero.mpr (Nat.ne_of_gt (Nat.mul_pos h1 h2))
  · rw [← Int.natCast_mul, Rat.divInt_ofNat, ← Rat.add_def']
theorem sc_times : FnScope ["one", "other"] ["one", "other"] (defScope (top 15)) := ⟨rfl, rfl, rfl, by decide +kernel, rfl, by decide +kernel, by decide +kernel⟩
theorem fn_times (h : Hd w K mg base) : Fn PR w K mg base "times" 43 2 (Bin fun a b => a * b) noX := by
  obtain ⟨f, fd, F, hm⟩ := h.d_times
  refine fn_mk F sc_times hm (F.bindsN fun _ _ _ _ _ _ us hl => match us, hl with | [_, _], _ => rfl) h.ns rfl (by decide) rfl (fun cdv A outer s H E X hX gx hp ds hl => ?_)
  subst hX
  have nd := sc_times.nd
  refine ⟨fun d hv => ?_, fun c hc => hc.elim⟩
  obtain ⟨a, b, n, m, rfl, ha, hb, hl, rfl⟩ := hv
  refine ss_one (s1_ret (ee_call (fn_fraction h) (gx.room.mono (by decide)) (ea_cons (ee_op (ee_ix (ee_var 0) ee_int rfl) (ee_ix (ee_var 1) ee_int rfl) (od_mul (mulx ha.1 hb.1 hl)))
    (ea_cons (ee_op (ee_ix (ee_var 0) ee_int rfl) (ee_ix (ee_var 1) ee_int rfl) (od_mul (mulx (by simpa using ha.2) (by simpa using hb.2) hl))) ea_nil)) ⟨_, _, rfl, ?_, rfl⟩) ?_)
  · have h1 := a.den_pos
    have h2 := b.den_pos
    rw [← Int.natCast_mul]
    exact Int.natCast_ne_zero.mpr (Nat.ne_of_gt (Nat.mul_pos h1 h2))
  · rw [← Int.natCast_mul, Rat.divInt_ofNat, ← Rat.mul_def']


theorem sc_is_fraction : FnScope ["thing", "part"] ["thing"] (defScope (top 16)) := ⟨rfl, rfl, rfl, by decide +kernel, rfl, by decide +kernel, by decide +kernel⟩
theorem fn_is_fraction (h : Hd w K mg base) : Fn PR w K mg base "is_fraction" 43 1 vIsF noX := by
  obtain ⟨f, fd, F, hm⟩ := h.d_is_fraction
  refine fn_mk F sc_is_fraction hm (F.bindsN fun _ _ _ _ _ _ us hl => match us, hl with | [_], _ => rfl) h.ns rfl (by decide) rfl (fun cdv A outer s H E X hX gx hp ds hl => ?_)
  subst hX
  have nd := sc_is_fraction.nd
  refine ⟨fun d hv => ?_, fun c hc => hc.elim⟩
  obtain ⟨x, rfl, rfl⟩ := hv
  refine ss_cons (s1_if (ew_et (ew_or (et_not (et_val (ee_isi "tuple" (ee_var 0) (.inl rfl) h.b_isinstance h.b_tuple PyProof.Rows.boot_tuple))) (q := decide (((itemsD x).getD []).length ≠ 2)) (fun hk => ew_or1 ?_))) (fun hk => ?_) (fun hk => ?_))
  · obtain ⟨ys, rfl⟩ := isT_tuple (x := x) (by simpa using hk)
    refine et_is (et_cmp (ee_len (ee_var 0) rfl h.b_len) ee_int (od_neI gx) (nomark _)) ?_
    exact decide_eq_decide.mpr ⟨fun z q => z (by rw [show ys.length = 2 from q]; rfl), fun z q => z (by have : (ys.length : Int) = 2 := q; show ys.length = 2; omega)⟩
  · refine ss_one (s1_ret ee_bl ?_)
    have : isF x = false := by
      cases hf : isF x with
      | false => rfl
      | true =>
        obtain ⟨q, rfl⟩ := isF_some hf
        simp [eF, isN, tyN, itemsD] at hk
    rw [this]
  · rw [Bool.or_eq_false_iff] at hk
    obtain ⟨ys, rfl⟩ := isT_tuple (x := x) (by simpa using hk.1)
    have hl2 : ys.length = 2 := by
      have := of_decide_eq_false hk.2
      exact Decidable.not_not.mp this
    obtain ⟨a, b, rfl⟩ : ∃ a b, ys = [a, b] := by
      match ys, hl2 with
      | [a, b], _ => exact ⟨a, b, rfl⟩
    refine ss_nil (ss_cons (s1_if (et_not (et_val (ee_all (bs := [isI a, isI b]) (ee_is (ef_ee (ef_map "part" 1 (fun d => .bool (isI d)) rfl nd (ei_tup (ee_var 0)) (blkOk_by (own := [("part", 1)]) (N := ["thing", "part"]) (sc := defScope (top 16)) (by decide +kernel)) (fun _ _ _ _ _ => pg_name (i := 1) nd rfl (Or.inl rfl)) (fun es z => nomatch z) (fun d hd s1 H1 C1 cl1 fp1 => ?_) (Nat.le_of_ble_eq_true rfl))) rfl) rfl h.b_all))) (fun hk2 => ?_) (fun hk2 => ?_)))
    · rw [← isI_eq]
      exact ee_and (ee_isi "int" (ee_var 1) (.inr (.inr (.inl rfl))) h.b_isinstance h.b_int PyProof.Rows.boot_int) (fun _ => ee_one (ee_not (ee_isi "bool" (ee_var 1) (.inr (.inr (.inr (.inl rfl)))) h.b_isinstance h.b_bool PyProof.Rows.boot_bool)))
    · refine ss_one (s1_ret ee_bl ?_)
      have : isF (.tuple [a, b]) = false := by
        cases a <;> cases b <;> simp_all [isF, isI]
      rw [this]
    · obtain ⟨t, rfl⟩ : ∃ t, a = .int t := by
        cases a with
        | int t => exact ⟨t, rfl⟩
        | _ => simp [isI] at hk2
      obtain ⟨u, rfl⟩ : ∃ u, b = .int u := by
        cases b with
        | int u => exact ⟨u, rfl⟩
        | _ => simp [isI] at hk2
      refine ss_nil (ss_one (s1_ret (ee_and (ee_cmp (ee_ix (ee_var 0) ee_int rfl) ee_int od_gt (nomark _)) (q := Nat.gcd t.natAbs u.natAbs == 1) (fun hp0 => ee_one ?_)) ?_))
      · have h0 : 0 < u := of_decide_eq_true hp0
        have e : u = (u.natAbs : Nat) := by omega
        refine ee_is (ee_cmp (ee_call (fn_common h) (gx.room.mono (by decide)) (ea_cons (ee_abs (ee_ix (ee_var 0) ee_int rfl) h.b_abs) (ea_cons (ee_ix (ee_var 0) ee_int rfl) ea_nil)) ⟨t.natAbs, u.natAbs, by rw [← e], rfl⟩) ee_int (od_eqI gx) (nomark _)) ?_
        congr 1
        by_cases hz : Nat.gcd t.natAbs u.natAbs = 1
        · rw [hz]
          rfl
        · rw [decide_eq_false (by omega)]
          exact (beq_eq_false_iff_ne.mpr hz).symm
      · rfl


theorem sc_is_poly : FnScope ["thing", "one"] ["thing"] (defScope (top 19)) := ⟨rfl, rfl, rfl, by decide +kernel, rfl, by decide +kernel, by decide +kernel⟩
theorem fn_is_poly (h : Hd w K mg base) : Fn PR w K mg base "is_poly" 44 1 vIsP noX := by
  obtain ⟨f, fd, F, hm⟩ := h.d_is_poly
  refine fn_mk F sc_is_poly hm (F.bindsN fun _ _ _ _ _ _ us hl => match us, hl with | [_], _ => rfl) h.ns rfl (by decide) rfl (fun cdv A outer s H E X hX gx hp ds hl => ?_)
  subst hX
  have nd := sc_is_poly.nd
  refine ⟨fun d hv => ?_, fun c hc => hc.elim⟩
  obtain ⟨x, rfl, rfl⟩ := hv
  let ys : List D := (itemsD x).getD []
  refine ss_cons (s1_if (ew_et (ew_or (et_not (et_val (ee_isi "list" (ee_var 0) (.inr (.inl rfl)) h.b_isinstance h.b_list PyProof.Rows.boot_list))) (q := decide (13 < ys.length) || !ys.all isF) (fun hk => ?_))) (fun hk => ?_) (fun hk => ?_))
  · obtain ⟨zs, rfl⟩ := isT_list (x := x) (by simpa using hk)
    refine ew_or (et_is (et_cmp (ee_len (ee_var 0) rfl h.b_len) (ee_glob h.k_MOST) od_gt (nomark _)) ?_) (fun hl => ew_or1 ?_)
    · exact decide_eq_decide.mpr ⟨fun (z : (13 : Int) < (zs.length : Int)) => show 13 < zs.length by omega, fun (z : 13 < zs.length) => show (13 : Int) < (zs.length : Int) by omega⟩
    · have hl' : zs.length ≤ 13 := by
        have := of_decide_eq_false hl
        show zs.length ≤ 13
        exact Nat.le_of_not_lt this
      refine et_not (et_is (et_val (ee_all (bs := zs.map isF) (ee_is (ef_ee (ef_map "one" 1 (fun d => .bool (isF d)) rfl nd (ei_list (ee_var 0)) (blkOk_by (own := [("one", 1)]) (N := ["thing", "one"]) (sc := defScope (top 19)) (by decide +kernel)) (fun _ _ _ _ _ => pg_name (i := 1) nd rfl (Or.inl rfl)) (fun es z => nomatch z) (fun d hd s1 H1 C1 cl1 fp1 => ?_) (by omega))) ?_) rfl h.b_all)) ?_)
      · exact ee_call (fn_is_fraction h) (gx.room.mono (by decide)) (ea_cons (ee_var 1) ea_nil) ⟨d, rfl, rfl⟩
      · rw [List.map_map]
        rfl
      · show (zs.map isF).all id = zs.all isF
        rw [List.all_map]
        rfl
  · refine ss_one (s1_ret ee_bl ?_)
    have : isPo x = false := by
      cases hf : isPo x with
      | false => rfl
      | true =>
        obtain ⟨p, rfl, h1, h2⟩ := isPo_some hf
        have h3 : (p.map eF).all isF = true := by
          rw [List.all_eq_true]
          intro d hd
          obtain ⟨q, _, rfl⟩ := List.mem_map.mp hd
          exact isF_eF q
        have h4 : ys = p.map eF := rfl
        rw [h4, h3, List.length_map] at hk
        simp [eP, isN, tyN] at hk
        omega
    rw [this]
  · rw [Bool.or_eq_false_iff, Bool.or_eq_false_iff] at hk
    obtain ⟨zs, rfl⟩ := isT_list (x := x) (by simpa using hk.1)
    have hl' : zs.length ≤ 13 := Nat.le_of_not_lt (of_decide_eq_false hk.2.1)
    have ha : zs.all isF = true := by
      have z : (!zs.all isF) = false := hk.2.2
      simpa using z
    obtain ⟨p, rfl⟩ := all_isF ha
    rw [List.length_map] at hl'
    refine ss_nil (ss_one (s1_ret (ee_or (ee_cmp (ee_var 0) (ee_is (ee_lst ea_nil) (show _ = eP [] from rfl)) (od_eqP (a := p) gx) (nomark _)) (q := decide (coef p (p.length - 1) ≠ 0)) (fun hq => ee_one ?_)) ?_))
    · have hne : p ≠ [] := of_decide_eq_false hq
      have hpos : 0 < p.length := List.length_pos_iff.mpr hne
      refine ee_cmp (ee_ix (d := eF (coef p (p.length - 1))) (ee_var 0) (ee_neg ee_int) ?_) (ee_glob h.k_NOUGHT) (od_neF gx) (nomark _)
      show atI (p.map eF) (-1) = _
      unfold atI ixN
      rw [List.length_map, if_neg (by decide), if_pos (by omega)]
      show (p.map eF)[(-1 + (p.length : Int)).toNat]? = _
      rw [show (-1 + (p.length : Int)).toNat = p.length - 1 by omega, List.getElem?_map, List.getElem?_eq_getElem (by omega), coef_in (by omega)]
      rfl
    · show PyData.bool (decide (p = []) || decide (coef p (p.length - 1) ≠ 0)) = .bool (isPo (eP p))
      rw [isPo_eP, decide_eq_true hl', Bool.true_and]
      congr 1
      rw [← Bool.decide_or]
      exact decide_eq_decide.mpr own_iff.symm


theorem sc_need_poly : FnScope ["thing"] ["thing"] (defScope (top 20)) := ⟨rfl, rfl, rfl, by decide +kernel, rfl, by decide +kernel, by decide +kernel⟩
theorem fn_need_poly (h : Hd w K mg base) : Fn PR w K mg base "need_poly" 45 1 vNeedP (xNeedP K) := by
  obtain ⟨f, fd, F, hm⟩ := h.d_need_poly
  refine fn_mk F sc_need_poly hm (F.bindsN fun _ _ _ _ _ _ us hl => match us, hl with | [_], _ => rfl) h.ns rfl (by decide) rfl (fun cdv A outer s H E X hX gx hp ds hl => ?_)
  subst hX
  have nd := sc_need_poly.nd
  refine ⟨fun d hv => ?_, fun c hc => ?_⟩
  · obtain ⟨x, rfl, hx, rfl⟩ := hv
    refine ss_one (s1_if (et_is (et_not (et_val (ee_call (fn_is_poly h) (gx.room.mono (by decide)) (ea_cons (ee_var 0) ea_nil) ⟨x, rfl, rfl⟩))) (b' := false) (by rw [hx]; rfl)) (fun hk => nomatch hk) (fun hk => ss_nil rfl))
  · obtain ⟨x, rfl, hx, rfl⟩ := hc
    refine ss_one (s1_if (et_is (et_not (et_val (ee_call (fn_is_poly h) (gx.room.mono (by decide)) (ea_cons (ee_var 0) ea_nil) ⟨x, rfl, rfl⟩))) (b' := true) (by rw [hx]; rfl)) (fun hk => ss_one (s1_raise h.e_BadPoly rfl rfl)) (fun hk => nomatch hk))


theorem ix_eP {p : Poly} {i : Nat} (h : i < p.length) : ixD (eP p) (i : Int) = some (eF (coef p i)) := by
  show atI (p.map eF) (i : Int) = _
  rw [coef_in h]
  refine atI_nat ?_
  rw [List.getElem?_map, List.getElem?_eq_getElem h]
  rfl
theorem sc_trimmed : FnScope ["some", "many"] ["some"] (defScope (top 21)) := ⟨rfl, rfl, rfl, by decide +kernel, rfl, by decide +kernel, by decide +kernel⟩
theorem fnn_trimmed (h : Hd w K mg base) : FnN PR w K mg base "trimmed" 43 1 vTrim noX := by
  obtain ⟨f, fd, F, hm⟩ := h.d_trimmed
  refine fnn_mk (fun _ _ ⟨_, _, _, e⟩ => ⟨_, e⟩) F sc_trimmed hm (F.bindsN fun _ _ _ _ _ _ us hl => match us, hl with | [_], _ => rfl) h.ns rfl (by decide) rfl (fun cdv A outer s H E X hX gx hp ds hl => ?_)
  subst hX
  have nd := sc_trimmed.nd
  refine ⟨fun d hv => ?_, fun c hc => hc.elim⟩
  obtain ⟨p, rfl, hl, rfl⟩ := hv
  refine ss_cons (s1_set 1 (ee_len (ee_var 0) (n := p.length) (by simp [eP, lenD]) h.b_len) ?_ nd)
  refine ss_cons (s1_while (fun m γ => γ = [.dat (eP p), .dat (.int (m : Nat))] ∧ m ≤ p.length ∧ ∀ i, m ≤ i → coef p i = 0) p.length ⟨rfl, Nat.le_refl _, fun i hi => coef_out hi⟩ (fun m γ hI => ?_) hp)
  obtain ⟨rfl, hm1, hm2⟩ := hI
  refine ⟨decide (0 < m) && decide (coef p (m - 1) = 0), ew_et (ew_and (et_is (et_cmp (ee_var 1) ee_int od_gt (nomark _)) ?_) (fun hk => ew_and1 ?_)), fun hk => ?_, fun hk => ?_⟩
  · exact decide_eq_decide.mpr ⟨fun (z : (0 : Int) < (m : Int)) => by omega, fun z => show (0 : Int) < (m : Int) by omega⟩
  · have h0 : 0 < m := of_decide_eq_true hk
    refine et_cmp (ee_ix (d := eF (coef p (m - 1))) (ee_var 0) (ee_op (ee_var 1) ee_int od_sub) ?_) (ee_glob h.k_NOUGHT) (od_eqF gx) (nomark _)
    rw [show (m : Int) - 1 = ((m - 1 : Nat) : Int) by omega]
    exact ix_eP (by omega)
  · rw [Bool.and_eq_true] at hk
    have h0 : 0 < m := of_decide_eq_true hk.1
    have h1 : coef p (m - 1) = 0 := of_decide_eq_true hk.2
    refine ss_one (s1_set 1 (ee_is (ee_op (ee_var 1) ee_int od_sub) (show _ = PyData.int ((m - 1 : Nat) : Int) by congr 1; omega)) ?_ nd)
    refine ⟨m - 1, by omega, rfl, by omega, fun i hi => ?_⟩
    by_cases hm : i = m - 1
    · rw [hm]
      exact h1
    · exact hm2 i (by omega)
  · rw [Bool.and_eq_false_iff] at hk
    refine ss_one (s1_retF (ds := (p.take m).map eF) (ef_is (ef_slice (ee_var 0) eo_none (eo_some (ee_var 1))) ?_) ?_)
    · show cutD (p.map eF) none (some (m : Int)) = _
      unfold cutD
      rw [HT.sIx_none, List.length_map, show HT.sIx p.length p.length (some (m : Int)) = min m p.length from HT.sIx_nat p.length p.length m, List.drop_zero, Nat.sub_zero, Nat.min_eq_left hm1, List.map_take]
    · show eP (p.take m) = eP (trim p)
      rw [trim_take hm2 ?_ hm1]
      rcases hk with hk | hk
      · left
        have := of_decide_eq_false hk
        omega
      · right
        exact of_decide_eq_false hk

theorem fn_trimmed (h : Hd w K mg base) : Fn PR w K mg base "trimmed" 43 1 vTrim noX := (fnn_trimmed h).fn

theorem sc_tellable : FnScope ["poly"] ["poly"] (defScope (top 22)) := ⟨rfl, rfl, rfl, by decide +kernel, rfl, by decide +kernel, by decide +kernel⟩
theorem fn_tellable (h : Hd w K mg base) : Fn PR w K mg base "tellable" 46 1 vTell (xNeedP K) := by
  obtain ⟨f, fd, F, hm⟩ := h.d_tellable
  refine fn_mk F sc_tellable hm (F.bindsN fun _ _ _ _ _ _ us hl => match us, hl with | [_], _ => rfl) h.ns rfl (by decide) rfl (fun cdv A outer s H E X hX gx hp ds hl => ?_)
  subst hX
  have nd := sc_tellable.nd
  refine ⟨fun d hv => ?_, fun c hc => ?_⟩
  · obtain ⟨x, rfl, hx, rfl⟩ := hv
    refine ss_cons (s1_expr (ee_call (fn_need_poly h) (gx.room.mono (by decide)) (ea_cons (ee_var 0) ea_nil) ⟨d, rfl, hx, rfl⟩) ?_)
    exact ss_one (s1_ret (ee_var 0) rfl)
  · obtain ⟨x, rfl, hx, rfl⟩ := hc
    exact ss_cons (s1_raises (fn_need_poly h) (gx.room.mono (by decide)) (ea_cons (ee_var 0) ea_nil) ⟨x, rfl, hx, rfl⟩ rfl)
theorem sc_fraction_at : FnScope ["poly", "place"] ["poly", "place"] (defScope (top 23)) := ⟨rfl, rfl, rfl, by decide +kernel, rfl, by decide +kernel, by decide +kernel⟩
theorem fn_fraction_at (h : Hd w K mg base) : Fn PR w K mg base "fraction_at" 42 2 vAt noX := by
  obtain ⟨f, fd, F, hm⟩ := h.d_fraction_at
  refine fn_mk F sc_fraction_at hm (F.bindsN fun _ _ _ _ _ _ us hl => match us, hl with | [_, _], _ => rfl) h.ns rfl (by decide) rfl (fun cdv A outer s H E X hX gx hp ds hl => ?_)
  subst hX
  have nd := sc_fraction_at.nd
  refine ⟨fun d hv => ?_, fun c hc => hc.elim⟩
  obtain ⟨p, i, rfl, rfl⟩ := hv
  refine ss_one (s1_ret (ee_if (et_cmp (ee_var 1) (ee_len (ee_var 0) (n := p.length) (by simp [eP, lenD]) h.b_len) od_lt (nomark _)) (fun hk => ?_) (fun hk => ?_)) rfl)
  · have : (i : Int) < (p.length : Int) := of_decide_eq_true hk
    exact ee_ix (ee_var 0) (ee_var 1) (ix_eP (by omega))
  · have : ¬ (i : Int) < (p.length : Int) := of_decide_eq_false hk
    rw [coef_out (by omega)]
    exact ee_glob h.k_NOUGHT
/-- two polynomials of few enough bits -/
theorem rangeD_map {n : Nat} {f : Nat → D} {o : D → D} (h : ∀ i : Nat, i < n → o (.int (0 + (i : Nat))) = f i) : (rangeD 0 n).map o = (List.range n).map f := by
  unfold rangeD
  rw [List.map_map]
  refine List.map_congr_left fun i hi => ?_
  exact h i (List.mem_range.mp hi)
theorem sc_added : FnScope ["one", "other", "many", "place"] ["one", "other"] (defScope (top 24)) := ⟨rfl, rfl, rfl, by decide +kernel, rfl, by decide +kernel, by decide +kernel⟩
theorem fnn_added (h : Hd w K mg base) : FnN PR w K mg base "added" 44 2 vAdd noX := by
  obtain ⟨f, fd, F, hm⟩ := h.d_added
  refine fnn_mk (fun _ _ ⟨_, _, _, _, _, _, _, _, _, _, _, _, e⟩ => ⟨_, e⟩) F sc_added hm (F.bindsN fun _ _ _ _ _ _ us hl => match us, hl with | [_, _], _ => rfl) h.ns rfl (by decide) rfl (fun cdv A outer s H E X hX gx hp ds hl => ?_)
  subst hX
  have nd := sc_added.nd
  refine ⟨fun d hv => ?_, fun c hc => hc.elim⟩
  obtain ⟨p, q, n, m, rfl, hpn, hqm, h0, h1, hlim, hl1, hl2, rfl⟩ := hv
  refine ss_cons (s1_set 2 (ee_is (d' := .int ((max p.length q.length : Nat) : Int)) (ee_max (ee_len (ee_var 0) (n := p.length) (by simp [eP, lenD]) h.b_len) (ee_len (ee_var 1) (n := q.length) (by simp [eP, lenD]) h.b_len) rfl h.b_max) (by congr 1; omega)) ?_ nd)
  have hmx : max p.length q.length ≤ 1000 := by omega
  let o : D → D := fun d => match d with | .int i => eF (coef p i.toNat + coef q i.toNat) | _ => .none
  refine ss_one (s1_retF (ef_call (rs := (trim (paddRaw p q)).map eF) (fnn_trimmed h) (gx.room.mono (by decide)) (ea_cons (ee_is (d' := eP (paddRaw p q)) (ef_ee (ef_map "place" 3 o rfl nd (ei_range1 (ee_var 2) (by omega) h.b_range) (blkOk_by (own := [("place", 3)]) (N := ["one", "other", "many", "place"]) (sc := defScope (top 24)) (by decide +kernel)) (fun _ _ _ _ _ => pg_name (i := 3) nd rfl (Or.inl rfl)) (fun es z => nomatch z) (fun d hd s1 H1 C1 cl1 fp1 => ?_) ?_)) ?_) ea_nil) ⟨paddRaw p q, rfl, by simp [paddRaw]; omega, rfl⟩) rfl)
  · obtain ⟨i, hi, rfl⟩ := List.mem_map.mp hd
    rw [show (0 : Int) + (i : Nat) = (i : Nat) by omega]
    refine ee_call (fn_plus h) (gx.room.mono (by decide)) (ea_cons (ee_call (fn_fraction_at h) (gx.room.mono (by decide)) (ea_cons (ee_var 0) (ea_cons (ee_var 3) ea_nil)) ⟨p, i, rfl, rfl⟩) (ea_cons (ee_call (fn_fraction_at h) (gx.room.mono (by decide)) (ea_cons (ee_var 1) (ea_cons (ee_var 3) ea_nil)) ⟨q, i, rfl, rfl⟩) ea_nil)) ⟨coef p i, coef q i, n, m, rfl, hpn.coef h0 i, hqm.coef h1 i, hlim, ?_⟩
    show eF (coef p (i : Int).toNat + coef q (i : Int).toNat) = _
    rw [Int.toNat_natCast]
  · simp [rangeD]
    omega
  · rw [show ((max p.length q.length : Nat) : Int).toNat = max p.length q.length by omega]
    show PyData.list _ = PyData.list ((paddRaw p q).map eF)
    congr 1
    unfold paddRaw
    rw [List.map_map]
    refine rangeD_map fun i hi => ?_
    rw [show (0 : Int) + (i : Nat) = (i : Nat) by omega]
    show eF (coef p (i : Int).toNat + coef q (i : Int).toNat) = _
    rw [Int.toNat_natCast]
    rfl

theorem fn_added (h : Hd w K mg base) : Fn PR w K mg base "added" 44 2 vAdd noX := (fnn_added h).fn

theorem unF_eF (f : Rat → Rat) (q : Rat) : (match eF q with | .tuple [.int a, .int b] => eF (f (mkRat a b.toNat)) | _ => .none) = eF (f q) := by
  show eF (f (mkRat q.num ((q.den : Int)).toNat)) = _
  rw [Int.toNat_natCast, Rat.mkRat_self]
theorem sc_scaled : FnScope ["poly", "by", "one"] ["poly", "by"] (defScope (top 25)) := ⟨rfl, rfl, rfl, by decide +kernel, rfl, by decide +kernel, by decide +kernel⟩
theorem fnn_scaled (h : Hd w K mg base) : FnN PR w K mg base "scaled" 44 2 vScale noX := by
  obtain ⟨f, fd, F, hm⟩ := h.d_scaled
  refine fnn_mk (fun _ _ ⟨_, _, _, _, _, _, _, _, _, e⟩ => ⟨_, e⟩) F sc_scaled hm (F.bindsN fun _ _ _ _ _ _ us hl => match us, hl with | [_, _], _ => rfl) h.ns rfl (by decide) rfl (fun cdv A outer s H E X hX gx hp ds hl => ?_)
  subst hX
  have nd := sc_scaled.nd
  refine ⟨fun d hv => ?_, fun c hc => hc.elim⟩
  obtain ⟨p, c, n, m, rfl, hpn, hcm, hlim, hl1, rfl⟩ := hv
  let o : D → D := fun d => match d with | .tuple [.int a, .int b] => eF (mkRat a b.toNat * c) | _ => .none
  have ho : ∀ q : Rat, o (eF q) = eF (q * c) := fun q => unF_eF (fun q => q * c) q
  refine ss_one (s1_retF (ef_call (rs := (pscale p c).map eF) (fnn_trimmed h) (gx.room.mono (by decide)) (ea_cons (ee_is (d' := eP (p.map fun a => a * c)) (ef_ee (ef_map "one" 2 o rfl nd (ei_list (ee_var 0)) (blkOk_by (own := [("one", 2)]) (N := ["poly", "by", "one"]) (sc := defScope (top 25)) (by decide +kernel)) (fun _ _ _ _ _ => pg_name (i := 2) nd rfl (Or.inl rfl)) (fun es z => nomatch z) (fun d hd s1 H1 C1 cl1 fp1 => ?_) (by rw [List.length_map]; exact hl1))) ?_) ea_nil) ⟨p.map fun a => a * c, rfl, by rw [List.length_map]; exact hl1, rfl⟩) rfl)
  · obtain ⟨q, hq, rfl⟩ := List.mem_map.mp hd
    rw [ho]
    exact ee_call (fn_times h) (gx.room.mono (by decide)) (ea_cons (ee_var 2) (ea_cons (ee_var 1) ea_nil)) ⟨q, c, n, m, rfl, hpn q hq, hcm, hlim, rfl⟩
  · show PyData.list _ = PyData.list _
    rw [List.map_map, List.map_map]
    congr 1
    exact List.map_congr_left fun q _ => ho q

theorem fn_scaled (h : Hd w K mg base) : Fn PR w K mg base "scaled" 44 2 vScale noX := (fnn_scaled h).fn

/-- what the rows' loop has come to: i rows are done, and j places of the next one -/
structure Rows (p q : Poly) (n m L i j : Nat) (f : Poly) : Prop where
  len : f.length = L
  at_ : ∀ k, coef f k = cmul (p.take i) q k + (if i ≤ k ∧ k < i + j then coef p i * coef q (k - i) else 0)
  sz : PZ (1 + i * (n + m + 1)) f ∨ (0 < j ∧ PZ (1 + (i + 1) * (n + m + 1)) f)
theorem cmul_nil (q : Poly) (k : Nat) : cmul [] q k = 0 := rfl
theorem Rows.start {p q : Poly} {n m L : Nat} : Rows p q n m L 0 0 (List.replicate L 0) where
  len := by simp
  at_ := fun k => by
    rw [if_neg (by omega)]
    show coef _ k = 0 + 0
    rw [Rat.add_zero]
    unfold coef
    rw [List.getD_eq_getElem?_getD, List.getElem?_replicate]
    split <;> rfl
  sz := .inl fun q hq => by
    rw [(List.mem_replicate.mp hq).2]
    exact rz_zero.mono (by omega)
theorem Rows.next {p q : Poly} {n m L i : Nat} {f : Poly} (r : Rows p q n m L i q.length f) (hi : i < p.length) : Rows p q n m L (i + 1) 0 f where
  len := r.len
  at_ := fun k => by
    rw [r.at_ k, cmul_row hi, if_neg (show ¬ (i + 1 ≤ k ∧ k < i + 1 + 0) by omega), Rat.add_zero, coef_in hi]
    congr 1
    by_cases h1 : i ≤ k
    · rw [if_pos h1]
      by_cases h2 : k < i + q.length
      · rw [if_pos ⟨h1, h2⟩]
      · rw [if_neg (by omega), coef_out (p := q) (by omega), Rat.mul_zero]
    · rw [if_neg (by omega), if_neg h1]
  sz := .inl (by
    rcases r.sz with h | h
    · exact h.mono (by rw [Nat.succ_mul]; omega)
    · exact h.2)
theorem coef_set {f : Poly} {k : Nat} {v : Rat} (h : k < f.length) (l : Nat) : coef (f.set k v) l = if l = k then v else coef f l := by
  unfold coef
  rw [List.getD_eq_getElem?_getD, List.getD_eq_getElem?_getD, List.getElem?_set]
  by_cases e : k = l
  · subst e
    rw [if_pos rfl, if_pos h, if_pos rfl]
    rfl
  · rw [if_neg e, if_neg (fun z => e z.symm)]
theorem Rows.step {p q : Poly} {n m L i j : Nat} {f : Poly} (r : Rows p q n m L i j f) (hp : PZ n p) (hq : PZ m q) (h0 : 0 < m) (hi : i < p.length) (hj : j < q.length) (hL : i + j < L) : Rows p q n m L i (j + 1) (f.set (i + j) (coef f (i + j) + coef p i * coef q j)) where
  len := by rw [List.length_set]; exact r.len
  at_ := fun k => by
    have hl : i + j < f.length := by rw [r.len]; exact hL
    rw [coef_set hl]
    by_cases e : k = i + j
    · subst e
      rw [if_pos rfl, r.at_, if_neg (by omega), if_pos (by omega), Rat.add_zero, show i + j - i = j by omega]
    · rw [if_neg e, r.at_]
      congr 1
      by_cases h1 : i ≤ k ∧ k < i + j
      · rw [if_pos h1, if_pos (by omega)]
      · rw [if_neg h1, if_neg (by omega)]
  sz := .inr ⟨by omega, fun a ha => by
    have hb : PZ (1 + (i + 1) * (n + m + 1)) f := by
      rcases r.sz with h | h
      · exact h.mono (by rw [Nat.succ_mul]; omega)
      · exact h.2
    rcases List.mem_or_eq_of_mem_set ha with h | h
    · exact hb a h
    · rw [h]
      have e1 : coef f (i + j) = cmul (p.take i) q (i + j) := by
        rw [r.at_, if_neg (by omega), Rat.add_zero]
      have s1 : Rz (1 + i * (n + m + 1)) (coef f (i + j)) := by
        rw [e1]
        have h := rz_cmul (p := p.take i) (q := q) (k := i + j) (n := n) (m := m) (fun b hb => hp b (List.mem_of_mem_take hb)) hq h0
        rw [List.length_take, Nat.min_eq_left (by omega)] at h
        exact h
      have s2 : Rz (n + m) (coef p i * coef q j) := by
        rw [coef_in hi]
        exact (hp _ (List.getElem_mem hi)).mul (hq.coef h0 j)
      exact (s1.add s2).mono (by rw [Nat.succ_mul]; omega)⟩
theorem flat_one {α : Type} (a : α) : ∀ n : Nat, (List.replicate n [a]).flatten = List.replicate n a
  | 0 => rfl
  | n + 1 => by
    rw [List.replicate_succ, List.flatten_cons, flat_one a n, List.replicate_succ]
    rfl


theorem sc_multiplied : FnScope ["one", "other", "found", "place", "first", "more", "second"] ["one", "other"] (defScope (top 27)) := ⟨rfl, rfl, rfl, by decide +kernel, rfl, by decide +kernel, by decide +kernel⟩
theorem fn_multiplied (h : Hd w K mg base) : Fn PR w K mg base "multiplied" 44 2 vMul noX := by
  obtain ⟨f, fd, F, hm⟩ := h.d_multiplied
  refine fn_mk F sc_multiplied hm (F.bindsN fun _ _ _ _ _ _ us hl => match us, hl with | [_, _], _ => rfl) h.ns rfl (by decide) rfl (fun cdv A outer s H E X hX gx hp ds hl => ?_)
  subst hX
  have nd := sc_multiplied.nd
  refine ⟨fun d hv => ?_, fun c hc => hc.elim⟩
  obtain ⟨p, q, n, m, rfl, hpn, hqm, h0, h1, hl1, hl2, hlim, rfl⟩ := hv
  have hlen : (max 0 ((p.length : Int) + (q.length : Int) - 1)).toNat = p.length + q.length - 1 := by omega
  refine ss_cons (s1_setO 2 (ds := (List.replicate (p.length + q.length - 1) (0 : Rat)).map eF) (ef_is (ef_rep (ef_lst (ea_cons (ee_glob h.k_NOUGHT) ea_nil)) (ee_max ee_int (ee_op (ee_op (ee_len (ee_var 0) (n := p.length) (by simp [eP, lenD]) h.b_len) (ee_len (ee_var 1) (n := q.length) (by simp [eP, lenD]) h.b_len) od_add) ee_int od_sub) rfl h.b_max) (by omega) (by rw [hlen]; show 1 * _ ≤ _; omega)) ?_) ?_ nd (fun es z => nomatch z))
  · rw [hlen, flat_one, List.map_replicate]
  refine ss_cons (s1_for (fun i γ => ∃ f a b c e, γ = [.dat (eP p), .dat (eP q), .own (f.map eF), a, b, c, e] ∧ (∀ z, a ≠ .own z) ∧ (∀ z, b ≠ .own z) ∧ (∀ z, c ≠ .own z) ∧ (∀ z, e ≠ .own z) ∧ Rows p q n m (p.length + q.length - 1) i 0 f) (ei_enum (ee_var 0) h.b_enumerate)
    ⟨_, .no, .no, .no, .no, rfl, noO, noO, noO, noO, Rows.start⟩ (fun i d γ hd hI => ?_) (fun γ hI => ?_) hp rfl)
  · obtain ⟨f, a, b, c, e, rfl, na, nb, nc, ne, r⟩ := hI
    obtain ⟨x, hx, rfl⟩ := enumD_get hd
    have hi : i < p.length := by simpa using (List.getElem?_eq_some_iff.mp hx).1
    have ex : x = eF (coef p i) := by
      rw [List.getElem?_map, List.getElem?_eq_getElem hi] at hx
      rw [coef_in hi]
      exact (Option.some.inj hx).symm
    subst ex
    refine ⟨_, eg_pair (i := 3) (j := 4) rfl nd (ho := fun es z => na es (by simpa using z)), ?_⟩
    refine ss_one (s1_for (fun j γ => ∃ f c e, γ = [.dat (eP p), .dat (eP q), .own (f.map eF), .dat (.int (i : Nat)), .dat (eF (coef p i)), c, e] ∧ (∀ z, c ≠ .own z) ∧ (∀ z, e ≠ .own z) ∧ Rows p q n m (p.length + q.length - 1) i j f) (ei_enum (ee_var 1) h.b_enumerate)
      ⟨f, c, e, rfl, nc, ne, r⟩ (fun j d γ hd hI => ?_) (fun γ hI => ?_) hp rfl)
    · obtain ⟨f, c, e, rfl, nc, ne, r⟩ := hI
      obtain ⟨x, hx, rfl⟩ := enumD_get hd
      have hj : j < q.length := by simpa using (List.getElem?_eq_some_iff.mp hx).1
      have ex : x = eF (coef q j) := by
        rw [List.getElem?_map, List.getElem?_eq_getElem hj] at hx
        rw [coef_in hj]
        exact (Option.some.inj hx).symm
      subst ex
      have hf : i + j < f.length := by rw [r.len]; omega
      have hat : atI (f.map eF) ((i : Int) + (j : Int)) = some (eF (coef f (i + j))) := by
        rw [show (i : Int) + (j : Int) = ((i + j : Nat) : Int) by omega]
        exact ix_eP hf
      have r2 := r.step hpn hqm h1 hi hj (by omega)
      have s1 : Rz (1 + i * (n + m + 1)) (coef f (i + j)) := by
        rw [r.at_, if_neg (by omega), Rat.add_zero]
        have h := rz_cmul (p := p.take i) (q := q) (k := i + j) (n := n) (m := m) (fun b hb => hpn b (List.mem_of_mem_take hb)) hqm h1
        rw [List.length_take, Nat.min_eq_left (by omega)] at h
        exact h
      have hb : (i + 2) * (n + m + 1) ≤ LIM := Nat.le_trans (Nat.mul_le_mul_right _ (by omega)) hlim
      have hb2 : (i + 2) * (n + m + 1) = i * (n + m + 1) + 2 * (n + m + 1) := Nat.add_mul ..
      refine ⟨_, eg_pair (i := 5) (j := 6) rfl nd (ho := fun es z => nc es (by simpa using z)), ?_⟩
      refine ss_one (s1_setIx 2 (j := i + j) (ee_call (fn_plus h) (gx.room.mono (by decide)) (ea_cons (ee_ixO 2 (hb := ee_op (ee_var 3) (ee_var 5) od_add) (h := hat)) (ea_cons (ee_call (fn_times h) (gx.room.mono (by decide)) (ea_cons (ee_var 4) (ea_cons (ee_var 6) ea_nil)) ⟨_, _, n, m, rfl, by rw [coef_in hi]; exact hpn _ (List.getElem_mem hi), hqm.coef h1 j, by omega, rfl⟩) ea_nil)) ⟨_, _, _, n + m, rfl, s1, by rw [coef_in hi]; exact (hpn _ (List.getElem_mem hi)).mul (hqm.coef h1 j), by omega, rfl⟩) (ee_op (ee_var 3) (ee_var 5) od_add) ?_ ?_)
      · rw [List.length_map]
        unfold ixN
        rw [if_pos (by omega), if_pos (by omega)]
        congr 1
      · refine ⟨_, .dat (.int (j : Nat)), .dat (eF (coef q j)), ?_, datO, datO, r2⟩
        rw [List.map_set]
        rfl
    · obtain ⟨f, c, e, rfl, nc, ne, r⟩ := hI
      rw [enumD_len, List.length_map] at r
      exact ⟨f, _, _, c, e, rfl, datO, datO, nc, ne, r.next hi⟩
  · obtain ⟨f, a, b, c, e, rfl, na, nb, nc, ne, r⟩ := hI
    rw [enumD_len, List.length_map] at r
    refine ss_freeze 2 ?_
    have hfl : f.length ≤ 1000 := by rw [r.len]; omega
    refine ss_one (s1_ret (ee_call (fn_trimmed h) (gx.room.mono (by decide)) (ea_cons (ee_var 2) ea_nil) ⟨f, rfl, hfl, rfl⟩) ?_)
    congr 1
    unfold pmul
    refine trim_ext fun k => ?_
    rw [r.at_, coef_map, if_neg (show ¬ (p.length ≤ k ∧ k < p.length + 0) by omega), Rat.add_zero, List.take_length]
    split
    · rfl
    · exact cmul_out (by omega)


theorem peval_drop {p : Poly} {x : Rat} {i : Nat} (h : i < p.length) : peval (p.drop (p.length - (i + 1))) x = peval (p.drop (p.length - i)) x * x + coef p (p.length - (i + 1)) := by
  have h1 : p.length - (i + 1) < p.length := by omega
  rw [List.drop_eq_getElem_cons h1, coef_in h1, show p.length - (i + 1) + 1 = p.length - i by omega]
  rfl
theorem eF_int (i : Int) : eF (i : Rat) = .tuple [.int i, .int 1] := rfl
theorem eF_nat (i : Nat) : eF ((i : Nat) : Rat) = .tuple [.int (i : Nat), .int 1] := rfl
theorem rz_nat {i k : Nat} (h : i < 2 ^ k) (hk : 0 < k) : Rz k ((i : Nat) : Rat) := ⟨by simpa using h, by
  have : (2 : Nat) ^ 1 ≤ 2 ^ k := Nat.pow_le_pow_right (by decide) hk
  show 1 < 2 ^ k
  omega⟩
theorem cut_tail (ds : List D) : cutD ds (some 1) none = ds.drop 1 := by
  unfold cutD
  rw [show HT.sIx ds.length 0 (some 1) = min 1 ds.length from HT.sIx_nat ds.length 0 1, HT.sIx_none]
  cases ds with
  | nil => rfl
  | cons x r =>
    rw [show min 1 (x :: r).length = 1 by rw [List.length_cons]; omega]
    show (List.take ((x :: r).length - 1) r) = r
    rw [List.length_cons, Nat.add_sub_cancel]
    exact List.take_length
theorem enum_pairs (ds : List D) : enumD ds = ((List.range ds.length).map fun (i : Nat) => ((.int (i : Nat), ds.getD i .none) : D × D)).map fun q => .tuple [q.1, q.2] := by
  unfold enumD
  rw [List.map_map]
  rfl
theorem sc_slope_of : FnScope ["poly", "place", "one"] ["poly"] (defScope (top 28)) := ⟨rfl, rfl, rfl, by decide +kernel, rfl, by decide +kernel, by decide +kernel⟩
theorem fn_slope_of (h : Hd w K mg base) : Fn PR w K mg base "slope_of" 44 1 vSlope noX := by
  obtain ⟨f, fd, F, hm⟩ := h.d_slope_of
  refine fn_mk F sc_slope_of hm (F.bindsN fun _ _ _ _ _ _ us hl => match us, hl with | [_], _ => rfl) h.ns rfl (by decide) rfl (fun cdv A outer s H E X hX gx hp ds hl => ?_)
  subst hX
  have nd := sc_slope_of.nd
  refine ⟨fun d hv => ?_, fun c hc => hc.elim⟩
  obtain ⟨p, n, rfl, hpn, h0, hl, hlim, rfl⟩ := hv
  let ds : List D := (p.map eF).drop 1
  let o : D → D → D := fun i a => match i, a with | .int i, a => (match a with | .tuple [.int t, .int u] => eF (mkRat t u.toNat * ((i.toNat + 1 : Nat) : Rat)) | _ => .none) | _, _ => .none
  have ho : ∀ (i : Nat) (q : Rat), o (.int (i : Nat)) (eF q) = eF (q * ((i + 1 : Nat) : Rat)) := fun i q => by
    show eF (mkRat q.num ((q.den : Int)).toNat * (((i : Int).toNat + 1 : Nat) : Rat)) = _
    rw [Int.toNat_natCast, Int.toNat_natCast, Rat.mkRat_self]
  have hdl : ds.length = p.length - 1 := by simp [ds]
  have hitem : ∀ i : Nat, i < ds.length → ds.getD i .none = eF (coef p (i + 1)) := fun i hi => by
    show ((p.map eF).drop 1).getD i .none = _
    rw [List.getD_eq_getElem?_getD, List.getElem?_drop, List.getElem?_map, List.getElem?_eq_getElem (by omega), coef_in (by omega)]
    show eF p[1 + i] = eF p[i + 1]
    congr 2
    omega
  refine ss_one (s1_ret (ee_is (d' := eP (pder p)) (ef_ee (ef_lc2 (ifs := []) "place" "one" 1 2 (fun _ _ => true) o (ds := (List.range ds.length).map fun (i : Nat) => ((.int (i : Nat), ds.getD i .none) : D × D)) (by decide) rfl nd (ei_is (ei_enum (ee_is (d' := .list ds) (ef_ee (ef_slice (ee_var 0) (eo_some ee_int) eo_none)) (by rw [cut_tail])) h.b_enumerate) (enum_pairs ds)) (blkOk_by (own := [("place", 1), ("one", 2)]) (N := ["poly", "place", "one"]) (sc := defScope (top 28)) (by decide +kernel)) (fun _ _ _ _ _ => pg_tup rfl (pgs_cons (pg_name (i := 1) nd rfl (Or.inl rfl)) (pgs_cons (pg_name (i := 2) nd rfl (Or.inl rfl)) pgs_nil))) (fun es z => nomatch z) (fun es z => nomatch z) (fun _ _ _ _ _ _ _ => .inl ⟨rfl, rfl⟩) (fun q hq _ s1 H1 C1 cl1 fp1 => ?_) ?_)) ?_) rfl)
  · obtain ⟨i, hi, rfl⟩ := List.mem_map.mp hq
    have hi' := List.mem_range.mp hi
    simp only [hitem i hi', ho]
    refine ee_call (fn_times h) (gx.room.mono (by decide)) (ea_cons (ee_var 2) (ea_cons (ee_is (d' := eF ((i + 1 : Nat) : Rat)) (ee_tup (ea_cons (ee_op (ee_var 1) ee_int od_add) (ea_cons ee_int ea_nil))) rfl) ea_nil)) ⟨_, _, n, 8, rfl, hpn.coef h0 _, rz_nat (by omega) (by decide), hlim, rfl⟩
  · rw [List.length_map, List.length_range]
    omega
  · rw [List.filter_eq_self.mpr (fun _ _ => rfl), List.map_map]
    show PyData.list _ = PyData.list ((pder p).map eF)
    unfold pder
    rw [List.map_map, hdl]
    congr 1
    refine List.map_congr_left fun i hi => ?_
    have hi' := List.mem_range.mp hi
    show o (.int (i : Nat)) (ds.getD i .none) = _
    rw [hitem i (by omega), ho]
    rfl


/-! ### the law's own helpers -/
def cellZ (ns : List Int) (k : Nat) : Int := if ns = [] then (k : Int) * 7919 else ns.getD (k % ns.length) 0 + ((k / ns.length : Nat) : Int) * 104729
def vCell (ds : List D) (d : D) : Prop := ∃ (ns : List Int) (k : Nat), ds = [.list (ns.map .int), .int k] ∧ k ≤ 1000 ∧ ns.length ≤ 1000 ∧ d = .int (cellZ ns k)
theorem sh_ints {ns : List Int} : Sh 1 (.list (ns.map .int)) := sh_list (n := 0) fun d hd => by
  obtain ⟨i, _, rfl⟩ := List.mem_map.mp hd
  exact sh_int
theorem eqv_ints_nil (ns : List Int) : PyData.eqv (.list (ns.map .int)) (.list []) = decide (ns = []) := by
  cases ns <;> simp [PyData.eqv, PyData.eqvAll]
theorem sc__law_cell : FnScope ["script", "k"] ["script", "k"] (defScope (top 39)) := ⟨rfl, rfl, rfl, by decide +kernel, rfl, by decide +kernel, by decide +kernel⟩
theorem fn__law_cell (h : Hd w K mg base) : Fn PR w K mg base "_law_cell" 41 2 vCell noX := by
  obtain ⟨f, fd, F, hm⟩ := h.d__law_cell
  refine fn_mk F sc__law_cell hm (F.bindsN fun _ _ _ _ _ _ us hl => match us, hl with | [_, _], _ => rfl) h.ns rfl (by decide) rfl (fun cdv A outer s H E X hX gx hp ds hl => ?_)
  subst hX
  have nd := sc__law_cell.nd
  refine ⟨fun d hv => ?_, fun c hc => hc.elim⟩
  obtain ⟨ns, k, rfl, hk, hl', rfl⟩ := hv
  have k10 : k < 2 ^ 10 := by omega
  refine ss_cons (s1_if (et_is (et_cmp (ee_var 0) (ee_lst ea_nil) (od_eq gx sh_ints.ok1 (sh_ints (ns := [])).ok1) (nomark _)) (b' := decide (ns = [])) (eqv_ints_nil ns)) (fun hn => ?_) (fun hn => ?_))
  · refine ss_one (s1_ret (ee_op (ee_var 1) ee_int (od_mul (mulx (n := 10) (m := 13) (by simpa using k10) (by decide) (by decide)))) ?_)
    rw [cellZ, if_pos (of_decide_eq_true hn)]
  · have hne : ns ≠ [] := of_decide_eq_false hn
    have h0 : 0 < ns.length := List.length_pos_iff.mpr hne
    have hq : k / ns.length < 2 ^ 10 := Nat.lt_of_le_of_lt (Nat.div_le_self _ _) k10
    refine ss_nil (ss_one (s1_ret (ee_op (ee_ix (d := .int (ns.getD (k % ns.length) 0)) (ee_var 0) (ee_op (ee_var 1) (ee_len (ee_var 0) (n := ns.length) (by simp [lenD]) h.b_len) (od_mod (by omega))) ?_)
      (ee_op (ee_op (ee_var 1) (ee_len (ee_var 0) (n := ns.length) (by simp [lenD]) h.b_len) (od_fdiv gx (by omega))) ee_int (od_mul (mulx (n := 10) (m := 17) ?_ (by decide) (by decide)))) od_add) ?_))
    · rw [← Int.natCast_emod]
      refine atI_nat ?_
      have hm : k % ns.length < ns.length := Nat.mod_lt _ h0
      rw [List.getElem?_map, List.getElem?_eq_getElem hm, List.getD_eq_getElem?_getD, List.getElem?_eq_getElem hm]
      rfl
    · rw [← Int.natCast_ediv, Int.natAbs_natCast]
      exact hq
    · rw [cellZ, if_neg hne, Int.natCast_ediv]
theorem bits_lt {z : Int} {n : Nat} (h : Builtin.Int.intBits z ≤ n) : z.natAbs < 2 ^ n := by
  unfold Builtin.Int.intBits at h
  by_cases hz : z = 0
  · subst hz
    exact Nat.two_pow_pos n
  · rw [if_neg (by simpa using hz)] at h
    exact Nat.lt_of_lt_of_le (Nat.lt_log2_self (n := z.natAbs)) (Nat.pow_le_pow_right (by decide) h)
theorem cellZ_lt {ns : List Int} {k : Nat} (hb : ∀ z ∈ ns, Builtin.Int.intBits z ≤ 1048576) (hk : k ≤ 1000) : (cellZ ns k).natAbs < 2 ^ 1048600 := by
  have hs : ∀ n : Nat, n < 2 ^ 1048576 + 2 ^ 40 → n < 2 ^ 1048600 := fun n h => by
    have e : (2 : Nat) ^ 1048600 = 2 ^ 1048576 * 2 ^ 24 := by rw [← Nat.pow_add]
    have e2 : (2 : Nat) ^ 40 ≤ 2 ^ 1048576 := Nat.pow_le_pow_right (by decide) (by decide)
    generalize 2 ^ 1048576 = A at *
    omega
  unfold cellZ
  split
  · exact hs _ (Nat.lt_of_lt_of_le (show _ < 2 ^ 40 by omega) (Nat.le_add_left _ _))
  · have h1 : (ns.getD (k % ns.length) 0).natAbs < 2 ^ 1048576 := by
      rw [List.getD_eq_getElem?_getD]
      cases e : ns[k % ns.length]? with
      | none => exact Nat.two_pow_pos _
      | some z => exact bits_lt (hb z (List.mem_of_getElem? e))
    have h2 : k / ns.length ≤ 1000 := Nat.le_trans (Nat.div_le_self _ _) hk
    generalize k / ns.length = j at *
    generalize ns.getD (k % ns.length) 0 = a at *
    refine hs _ ?_
    generalize 2 ^ 1048576 = A at *
    omega
abbrev cM : Int := 340282366920938463463374607431768211507
abbrev cN : Int := 340282366920938463463374607431768211297
abbrev cP : Int := 18446744073709551557
def drawn1 (c k : Int) : Int := (c * 6364136223846793005 + (k + 1) * 1442695040888963407) % cM
def drawn2 (c k : Int) : Int := drawn1 c k * drawn1 c k % cN
def drawnZ (c k : Int) : Int := (drawn2 c k % cP + 1) * (drawn2 c k / cP + 1) * drawn2 c k % cM
theorem drawn1_in (c k : Int) : 0 ≤ drawn1 c k ∧ drawn1 c k < cM := ⟨Int.emod_nonneg _ (by decide), Int.emod_lt_of_pos _ (by decide)⟩
theorem drawn2_in (c k : Int) : 0 ≤ drawn2 c k ∧ drawn2 c k < cN := ⟨Int.emod_nonneg _ (by decide), Int.emod_lt_of_pos _ (by decide)⟩
theorem drawn_in (c k : Int) : 0 ≤ drawnZ c k ∧ drawnZ c k < cM := ⟨Int.emod_nonneg _ (by decide), Int.emod_lt_of_pos _ (by decide)⟩
theorem drawn_lt (c k : Int) : (drawnZ c k).natAbs < 2 ^ 129 := by
  have := drawn_in c k
  unfold cM at this
  omega
def vDrawn (ds : List D) (d : D) : Prop := ∃ c k : Int, ds = [.int c, .int k] ∧ c.natAbs < 2 ^ 1048600 ∧ k.natAbs < 2 ^ 1000 ∧ d = .int (drawnZ c k)
theorem sc__law_drawn : FnScope ["cell", "k", "more"] ["cell", "k"] (defScope (top 40)) := ⟨rfl, rfl, rfl, by decide +kernel, rfl, by decide +kernel, by decide +kernel⟩
theorem fn__law_drawn (h : Hd w K mg base) : Fn PR w K mg base "_law_drawn" 41 2 vDrawn noX := by
  obtain ⟨f, fd, F, hm⟩ := h.d__law_drawn
  refine fn_mk F sc__law_drawn hm (F.bindsN fun _ _ _ _ _ _ us hl => match us, hl with | [_, _], _ => rfl) h.ns rfl (by decide) rfl (fun cdv A outer s H E X hX gx hp ds hl => ?_)
  subst hX
  have nd := sc__law_drawn.nd
  refine ⟨fun d hv => ?_, fun c hc => hc.elim⟩
  obtain ⟨c, k, rfl, hc, hk, rfl⟩ := hv
  have i1 := drawn1_in c k
  have i2 := drawn2_in c k
  have b1 : (drawn1 c k).natAbs < 2 ^ 129 := by
    unfold cM at i1
    omega
  have b2 : (drawn2 c k).natAbs < 2 ^ 129 := by
    unfold cN at i2
    omega
  have b3 : (drawn2 c k % cP + 1).natAbs < 2 ^ 65 := by
    have h1 := Int.emod_nonneg (drawn2 c k) (show cP ≠ 0 by decide)
    have h2 := Int.emod_lt_of_pos (drawn2 c k) (show 0 < cP by decide)
    unfold cP at *
    omega
  have b4 : (drawn2 c k / cP + 1).natAbs < 2 ^ 130 := by
    have h1 := Int.ediv_nonneg i2.1 (show 0 ≤ cP by decide)
    have h2 := Int.ediv_le_self cP i2.1
    omega
  have b5 : ((drawn2 c k % cP + 1) * (drawn2 c k / cP + 1)).natAbs < 2 ^ (65 + 130) := by
    rw [Int.natAbs_mul]
    exact nat_mul_lt b3 b4
  have k1 : (k + 1).natAbs < 2 ^ 1001 := by
    rw [Nat.pow_succ]
    generalize 2 ^ 1000 = A at *
    omega
  refine ss_cons (s1_set 2 (ee_op (ee_op (ee_op (ee_var 0) ee_int (od_mul (mulx (m := 63) hc (by decide) (by decide)))) (ee_op (ee_op (ee_var 1) ee_int od_add) ee_int (od_mul (mulx (m := 61) k1 (by decide) (by decide)))) od_add) ee_int (od_mod (by decide))) ?_ nd)
  show SS Same _ [.dat (.int c), .dat (.int k), .dat (.int (drawn1 c k))] _ _
  refine ss_cons (s1_set 2 (ee_op (ee_op (ee_var 2) (ee_var 2) (od_mul (mulx b1 b1 (by decide)))) ee_int (od_mod (by decide))) ?_ nd)
  show SS Same _ [.dat (.int c), .dat (.int k), .dat (.int (drawn2 c k))] _ _
  refine ss_cons (s1_set 2 (ee_op (ee_op (ee_op (ee_op (ee_var 2) ee_int (od_mod (by decide))) ee_int od_add) (ee_op (ee_op (ee_var 2) ee_int (od_fdiv gx (by decide))) ee_int od_add) (od_mul (mulx b3 b4 (by decide)))) (ee_var 2) (od_mul (mulx b5 b2 (by decide)))) ?_ nd)
  exact ss_one (s1_ret (ee_op (ee_var 2) ee_int (od_mod (by decide))) rfl)
def vMade (ds : List D) (d : D) : Prop := ∃ (t : Int) (u : Nat), ds = [.int t, .int u] ∧ 0 < u ∧ d = eF (mkRat t u)


/-! ### made of others -/
def vComp (ds : List D) (d : D) : Prop := ∃ (p q : Poly) (n m : Nat), ds = [eP p, eP q] ∧ PZ n p ∧ 0 < n ∧ CZ m q ∧ p.length * q.length ≤ 95 ∧ p.length ≤ 95 ∧ q.length ≤ 95 ∧ 130 * (p.length * (n + m + 8) + n + m + 10) ≤ LIM ∧ d = eP (pcomp p q)
theorem foldl_pcomp (q : Poly) (l : Poly) : l.foldl (cstep q) [] = pcomp l.reverse q := by
  unfold pcomp
  rw [List.foldr_reverse]
theorem sc_composed_of : FnScope ["one", "other", "found", "part"] ["one", "other"] (defScope (top 30)) := ⟨rfl, rfl, rfl, by decide +kernel, rfl, by decide +kernel, by decide +kernel⟩
theorem fn_composed_of (h : Hd w K mg base) : Fn PR w K mg base "composed_of" 45 2 vComp noX := by
  obtain ⟨f, fd, F, hm⟩ := h.d_composed_of
  refine fn_mk F sc_composed_of hm (F.bindsN fun _ _ _ _ _ _ us hl => match us, hl with | [_, _], _ => rfl) h.ns rfl (by decide) rfl (fun cdv A outer s H E X hX gx hp ds hl => ?_)
  subst hX
  have nd := sc_composed_of.nd
  refine ⟨fun d hv => ?_, fun c hc => hc.elim⟩
  obtain ⟨p, q, n, m, rfl, hpn, hn0, hqm, hlpq, hlp, hlq, hlim, rfl⟩ := hv
  refine ss_cons (s1_set 2 (ee_is (ee_lst ea_nil) (show _ = eP [] from rfl)) ?_ nd)
  refine ss_cons (s1_for (fun i γ => ∃ b, γ = [.dat (eP p), .dat (eP q), .dat (eP ((p.reverse.take i).foldl (cstep q) [])), b] ∧ ∀ z, b ≠ .own z) (ei_is (ei_list (ef_ee (ef_rev (ee_var 0 rfl)))) (show _ = p.reverse.map eF by rw [List.map_reverse])) ⟨.no, rfl, noO⟩ (fun i d γ hd hI => ?_) (fun γ hI => ?_) hp rfl)
  · obtain ⟨b, rfl, nb⟩ := hI
    have hi : i < p.reverse.length := by simpa using (List.getElem?_eq_some_iff.mp hd).1
    have ed : d = eF p.reverse[i] := by
      rw [List.getElem?_map, List.getElem?_eq_getElem hi] at hd
      exact (Option.some.inj hd).symm
    subst ed
    have hil : i < p.length := by simpa using hi
    have ha : Rz n p.reverse[i] := hpn _ (List.mem_reverse.mp (List.getElem_mem hi))
    have htl : (p.reverse.take i).reverse.length = i := by
      rw [List.length_reverse, List.length_take]
      omega
    have hmul : i * q.length ≤ p.length * q.length := Nat.mul_le_mul_right _ (by omega)
    have hmul2 : i * (n + m + 8) ≤ p.length * (n + m + 8) := Nat.mul_le_mul_right _ (by omega)
    have hcz : CZ (1 + i * (n + m + 8)) ((p.reverse.take i).foldl (cstep q) []) := by
      rw [foldl_pcomp]
      have h := cz_pcomp hqm hn0 (p.reverse.take i).reverse (fun a ha => hpn a (by
        have := List.mem_of_mem_take (List.mem_reverse.mp ha)
        exact List.mem_reverse.mp this)) (by rw [htl]; omega)
      rw [htl] at h
      exact h
    have hlen : ((p.reverse.take i).foldl (cstep q) []).length ≤ 96 := by
      rw [foldl_pcomp]
      refine Nat.le_trans (pcomp_len _ _) ?_
      rw [htl]
      have : (i - 1) * (q.length - 1) ≤ i * q.length := Nat.mul_le_mul (by omega) (by omega)
      omega
    have hstep : (p.reverse.take (i + 1)).foldl (cstep q) [] = padd (pmul ((p.reverse.take i).foldl (cstep q) []) q) (trim [p.reverse[i]]) := by
      rw [List.take_add_one, List.getElem?_eq_getElem hi, List.foldl_append]
      rfl
    generalize (p.reverse.take i).foldl (cstep q) [] = acc at *
    generalize p.reverse[i] = a at *
    generalize hS : 1 + i * (n + m + 8) = S at *
    have hm0 := hqm.pos
    have hb1 : (acc.length + 2) * (S + m + 1) ≤ 98 * (S + m + 1) := Nat.mul_le_mul_right _ (by omega)
    haveI : RB a n := ⟨ha⟩
    refine ⟨_, eg_name (i := 3) nd, ?_⟩
    refine ss_one (s1_set 2 (ee_call (fn_added h) (gx.room.mono (by decide)) (ea_cons (ee_call (fn_multiplied h) (gx.room.mono (by decide)) (ea_cons (ee_var 2 rfl) (ea_cons (ee_var 1 rfl) ea_nil)) (⟨acc, q, S, m, rfl, hcz.pz, hqm.pz, hcz.pos, hm0, by omega, by omega, by omega, rfl⟩)) (ea_cons (ee_call (fn_trimmed h) (gx.room.mono (by decide)) (ea_cons (ee_is (ef_ee (ef_lst (ea_cons (ee_var 3 rfl) ea_nil))) (show _ = eP [a] from rfl)) ea_nil) (⟨[a], rfl, by simp, rfl⟩)) ea_nil)) ⟨_, _, S + m + 7, n, rfl, (cz_pmul hcz hqm (show acc.length < 2 ^ 7 by omega)).pz, (cz_one ha).pz, by omega, hn0, by omega, Nat.le_trans (pmul_len _ _) (by omega), Nat.le_trans (trim_len _) (by simp), rfl⟩) ?_ nd)
    refine ⟨.dat (eF a), ?_, datO⟩
    rw [hstep]
    rfl
  · obtain ⟨b, rfl, nb⟩ := hI
    refine ss_one (s1_ret (ee_var 2 rfl) ?_)
    rw [List.length_map, List.take_length, foldl_pcomp, List.reverse_reverse]


/-! ### sheets: what rows tell -/
def isWh (x : D) : Bool := isT x "int" && !isT x "bool"
def vWhole (ds : List D) (d : D) : Prop := ∃ x, ds = [x] ∧ d = .bool (isWh x)
theorem sc_is_whole : FnScope ["thing"] ["thing"] (defScope (top 34)) := ⟨rfl, rfl, rfl, by decide +kernel, rfl, by decide +kernel, by decide +kernel⟩
theorem fn_is_whole (h : Hd w K mg base) : Fn PR w K mg base "is_whole" 41 1 vWhole noX := by
  obtain ⟨f, fd, F, hm⟩ := h.d_is_whole
  refine fn_mk F sc_is_whole hm (F.bindsN fun _ _ _ _ _ _ us hl => match us, hl with | [_], _ => rfl) h.ns rfl (by decide) rfl (fun cdv A outer s H E X hX gx hp ds hl => ?_)
  subst hX
  have nd := sc_is_whole.nd
  refine ⟨fun d hv => ?_, fun c hc => hc.elim⟩
  obtain ⟨x, rfl, rfl⟩ := hv
  exact ss_one (s1_ret (ee_and (ee_isi "int" (ee_var 0 rfl) (.inr (.inr (.inl rfl))) h.b_isinstance h.b_int PyProof.Rows.boot_int) (fun hk1 => (ee_one (ee_not (ee_isi "bool" (ee_var 0 rfl) (.inr (.inr (.inr (.inl rfl)))) h.b_isinstance h.b_bool PyProof.Rows.boot_bool))))) rfl)
def vCome (ds : List D) (d : D) : Prop := ∃ (word : Str) (as : List Poly), ds = [.str word, .list (as.map eP)] ∧ ((word = "product" ∧ vMul (as.map eP) d) ∨ (word = "slope" ∧ vSlope (as.map eP) d) ∨ (word = "composed" ∧ vComp (as.map eP) d))
theorem sc_come_of : FnScope ["word", "some"] ["word", "some"] (defScope (top 35)) := ⟨rfl, rfl, rfl, by decide +kernel, rfl, by decide +kernel, by decide +kernel⟩
theorem fn_come_of (h : Hd w K mg base) : Fn PR w K mg base "come_of" 47 2 vCome noX := by
  obtain ⟨f, fd, F, hm⟩ := h.d_come_of
  refine fn_mk F sc_come_of hm (F.bindsN fun _ _ _ _ _ _ us hl => match us, hl with | [_, _], _ => rfl) h.ns rfl (by decide) rfl (fun cdv A outer s H E X hX gx hp ds hl => ?_)
  subst hX
  have nd := sc_come_of.nd
  refine ⟨fun d hv => ?_, fun c hc => hc.elim⟩
  obtain ⟨word, as, rfl, hv⟩ := hv
  rcases hv with ⟨rfl, hv⟩ | ⟨rfl, hv⟩ | ⟨rfl, hv⟩
  · obtain ⟨p, q, hv2⟩ := id hv
    have e := hv2.choose_spec.choose_spec.1
    generalize as.map eP = ws at hv e
    subst e
    refine ss_cons (s1_if (et_is (et_cmp (ee_var 0 rfl) ee_str (od_eq gx (by decide +kernel) (by decide +kernel)) (nomark _)) (b' := false) (by decide +kernel)) (fun hk => nomatch hk) (fun hk => ss_nil ?_))
    refine ss_cons (s1_if (et_is (et_cmp (ee_var 0 rfl) ee_str (od_eq gx (by decide +kernel) (by decide +kernel)) (nomark _)) (b' := false) (by decide +kernel)) (fun hk => nomatch hk) (fun hk => ss_nil ?_))
    exact ss_cons (s1_if (et_is (et_cmp (ee_var 0 rfl) ee_str (od_eq gx (by decide +kernel) (by decide +kernel)) (nomark _)) (b' := true) (by decide +kernel)) (fun hk => ss_one (s1_ret (ee_call (fn_multiplied h) (gx.room.mono (by decide)) (ea_cons (ee_ix (ee_var 1 rfl) ee_int (rfl)) (ea_cons (ee_ix (ee_var 1 rfl) ee_int (rfl)) ea_nil)) (hv)) rfl)) (fun hk => nomatch hk))
  · obtain ⟨p, hv2⟩ := id hv
    have e := hv2.choose_spec.1
    generalize as.map eP = ws at hv e
    subst e
    refine ss_cons (s1_if (et_is (et_cmp (ee_var 0 rfl) ee_str (od_eq gx (by decide +kernel) (by decide +kernel)) (nomark _)) (b' := false) (by decide +kernel)) (fun hk => nomatch hk) (fun hk => ss_nil ?_))
    refine ss_cons (s1_if (et_is (et_cmp (ee_var 0 rfl) ee_str (od_eq gx (by decide +kernel) (by decide +kernel)) (nomark _)) (b' := false) (by decide +kernel)) (fun hk => nomatch hk) (fun hk => ss_nil ?_))
    refine ss_cons (s1_if (et_is (et_cmp (ee_var 0 rfl) ee_str (od_eq gx (by decide +kernel) (by decide +kernel)) (nomark _)) (b' := false) (by decide +kernel)) (fun hk => nomatch hk) (fun hk => ss_nil ?_))
    exact ss_one (s1_ret (ee_if (p := true) (et_is (et_cmp (ee_var 0 rfl) ee_str (od_eq gx (by decide +kernel) (by decide +kernel)) (nomark _)) (by decide +kernel)) (fun hk => (ee_call (fn_slope_of h) (gx.room.mono (by decide)) (ea_cons (ee_ix (ee_var 1 rfl) ee_int (rfl)) ea_nil) (hv))) (fun hk => nomatch hk)) rfl)
  · obtain ⟨p, q, hv2⟩ := id hv
    have e := hv2.choose_spec.choose_spec.1
    generalize as.map eP = ws at hv e
    subst e
    refine ss_cons (s1_if (et_is (et_cmp (ee_var 0 rfl) ee_str (od_eq gx (by decide +kernel) (by decide +kernel)) (nomark _)) (b' := false) (by decide +kernel)) (fun hk => nomatch hk) (fun hk => ss_nil ?_))
    refine ss_cons (s1_if (et_is (et_cmp (ee_var 0 rfl) ee_str (od_eq gx (by decide +kernel) (by decide +kernel)) (nomark _)) (b' := false) (by decide +kernel)) (fun hk => nomatch hk) (fun hk => ss_nil ?_))
    refine ss_cons (s1_if (et_is (et_cmp (ee_var 0 rfl) ee_str (od_eq gx (by decide +kernel) (by decide +kernel)) (nomark _)) (b' := false) (by decide +kernel)) (fun hk => nomatch hk) (fun hk => ss_nil ?_))
    exact ss_one (s1_ret (ee_if (p := false) (et_is (et_cmp (ee_var 0 rfl) ee_str (od_eq gx (by decide +kernel) (by decide +kernel)) (nomark _)) (by decide +kernel)) (fun hk => nomatch hk) (fun hk => (ee_call (fn_composed_of h) (gx.room.mono (by decide)) (ea_cons (ee_ix (ee_var 1 rfl) ee_int (rfl)) (ea_cons (ee_ix (ee_var 1 rfl) ee_int (rfl)) ea_nil)) (hv)))) rfl)
/-! rows by their numbers -/
def ksN (n : Nat) : List Int := (List.range n).map fun i : Nat => (i : Int)
theorem ksN_len (n : Nat) : (ksN n).length = n := by simp [ksN]
theorem ksN_get {n i : Nat} (h : i < n) : (ksN n)[i]? = some (i : Int) := by simp [ksN, h]
theorem ksN_succ (n : Nat) : ksN (n + 1) = ksN n ++ [(n : Int)] := by simp [ksN, List.range_succ]
theorem ksN_mem {n : Nat} {i : Int} : i ∈ ksN n ↔ 0 ≤ i ∧ i < n := by
  unfold ksN
  rw [List.mem_map]
  constructor
  · rintro ⟨j, hj, rfl⟩
    have := List.mem_range.mp hj
    omega
  · rintro ⟨h1, h2⟩
    exact ⟨i.toNat, List.mem_range.mpr (by omega), by omega⟩
theorem ksN_nodup (n : Nat) : (ksN n).Nodup := by
  unfold ksN
  exact List.Pairwise.map _ (fun a b h e => h (by omega)) List.nodup_range
theorem ksN_sorted (n : Nat) : (ksN n).Pairwise (· ≤ ·) := by
  unfold ksN
  exact List.Pairwise.map _ (fun a b h => by omega) List.pairwise_lt_range
theorem lookI_some : ∀ {ks : List Int} {ds : List D} {i : Nat} {k : Int} {d : D}, ks.Nodup → ks[i]? = some k → ds[i]? = some d → lookI ks ds k = some d
  | [], _, _, _, _, _, h, _ => by simp at h
  | _ :: _, [], _, _, _, _, _, h => by simp at h
  | k0 :: ks, d0 :: ds, 0, k, d, _, h, h2 => by
    have h : k0 = k := by simpa using h
    have h2 : d0 = d := by simpa using h2
    subst h h2
    simp [lookI]
  | k0 :: ks, d0 :: ds, i + 1, k, d, nd, h, h2 => by
    have h : ks[i]? = some k := by simpa using h
    have h2 : ds[i]? = some d := by simpa using h2
    have ne : k0 ≠ k := fun e => (List.nodup_cons.mp nd).1 (by rw [e]; exact List.mem_of_getElem? h)
    rw [show lookI (k0 :: ks) (d0 :: ds) k = lookI ks ds k by simp [lookI, ne]]
    exact lookI_some (List.nodup_cons.mp nd).2 h h2
theorem lookI_N {n i : Nat} {ds : List D} {d : D} (h : i < n) (e : ds[i]? = some d) : lookI (ksN n) ds (i : Int) = some d := lookI_some (ksN_nodup n) (ksN_get h) e
def rgD (p : Poly) : D := .tuple [.str "given", .tuple (p.map eF)]
def roD (word : Str) (is : List Nat) : D := .tuple (.str word :: is.map fun i : Nat => PyData.int (i : Int))
/-- a row that comes of others -/
def RowC (ps : List Poly) (r : D) (q : Poly) : Prop := ∃ (word : Str) (is : List Nat) (as : List Poly), r = roD word is ∧ is.length ≤ 2 ∧ is.map (fun i => ps[i]?) = as.map some ∧ vCome [.str word, .list (as.map eP)] (eP q)
def RowsOk (rs : List D) (ps : List Poly) : Prop := rs.length = ps.length ∧ ∀ i r q, rs[i]? = some r → ps[i]? = some q → (r = rgD q ∨ RowC (ps.take i) r q) ∧ q.length ≤ 13 ∧ Own q
theorem RowC.word {ps : List Poly} {r : D} {q : Poly} (h : RowC ps r q) : ∃ (word : Str) (is : List Nat) (as : List Poly), r = roD word is ∧ (word = "product" ∨ word = "slope" ∨ word = "composed") ∧ is.length ≤ 2 ∧ as.length = is.length ∧ is.map (fun i => ps[i]?) = as.map some ∧ vCome [.str word, .list (as.map eP)] (eP q) := by
  obtain ⟨word, is, as, rfl, hl, he, hv⟩ := h
  refine ⟨word, is, as, rfl, ?_, hl, ?_, he, hv⟩
  · obtain ⟨w, as', e, h⟩ := hv
    injection e with e1 e2
    injection e1 with e1
    subst e1
    rcases h with h | h | h
    · exact .inl h.1
    · exact .inr (.inl h.1)
    · exact .inr (.inr h.1)
  · have := congrArg List.length he
    simpa using this.symm
def vPolys (ds : List D) (d : D) : Prop := ∃ (rs : List D) (ps : List Poly), RowsOk rs ps ∧ rs.length ≤ 20 ∧ ds = [dcD (ksN rs.length) rs] ∧ d = dcD (ksN rs.length) (ps.map eP)
def xPolys (K : PySem.W.Frag) (ds : List D) (c : Value) : Prop := ∃ (rs : List D) (ps : List Poly) (r : D) (q : Poly), RowsOk rs ps ∧ rs.length < 20 ∧ RowC ps r q ∧ isPo (eP q) = false ∧ ds = [dcD (ksN (rs.length + 1)) (rs ++ [r])] ∧ c = ec K "BadPoly"
theorem zip_map1 {is : List Nat} {as : List Poly} (h : as.length = is.length) : (is.zip as).map (fun a => PyData.int (a.1 : Int)) = is.map fun i : Nat => PyData.int (i : Int) := by
  rw [show (fun a : Nat × Poly => PyData.int (a.1 : Int)) = (fun i : Nat => PyData.int i) ∘ Prod.fst from rfl, ← List.map_map, List.map_fst_zip (by omega)]
theorem zip_map2 {is : List Nat} {as : List Poly} (h : as.length = is.length) : (is.zip as).map (fun a => eP a.2) = as.map eP := by
  rw [show (fun a : Nat × Poly => eP a.2) = eP ∘ Prod.snd from rfl, ← List.map_map, List.map_snd_zip (by omega)]
theorem zip_look : ∀ {is : List Nat} {as : List Poly} {ps : List Poly}, is.map (fun i => ps[i]?) = as.map some → ∀ a ∈ is.zip as, ps[a.1]? = some a.2
  | [], _, _, _, a, h => by simp at h
  | _ :: _, [], _, h, _, _ => by simp at h
  | i :: is, b :: as, ps, h, a, ha => by
    injection h with h1 h2
    rcases List.mem_cons.mp ha with rfl | ha
    · exact h1
    · exact zip_look h2 a ha
theorem rowsOk_get {rs : List D} {ps : List Poly} (h : RowsOk rs ps) {i : Nat} (hi : i < rs.length) : ∃ r q, rs[i]? = some r ∧ ps[i]? = some q ∧ (r = rgD q ∨ RowC (ps.take i) r q) ∧ q.length ≤ 13 ∧ Own q := by
  have h1 : rs[i]? = some rs[i] := List.getElem?_eq_getElem hi
  have h2 : ps[i]? = some (ps[i]'(by rw [← h.1]; exact hi)) := List.getElem?_eq_getElem _
  obtain ⟨e1, e2, e3⟩ := h.2 i _ _ h1 h2
  exact ⟨_, _, h1, h2, e1, e2, e3⟩
theorem take_snoc {α : Type} {l : List α} {i : Nat} {x : α} (h : l[i]? = some x) : l.take (i + 1) = l.take i ++ [x] := by
  rw [List.take_add_one, h]
  rfl
theorem ix0 {d : D} {ds : List D} : ixD (.tuple (d :: ds)) 0 = some d := atI_nat (j := 0) rfl
theorem word_sh {word : Str} (h : word = "product" ∨ word = "slope" ∨ word = "composed") : SeqAt.shaped (.str word) = true := by rcases h with rfl | rfl | rfl <;> decide +kernel
theorem word_ne {word : Str} (h : word = "product" ∨ word = "slope" ∨ word = "composed") : PyData.eqv (.str word) (.str "given") = false := by rcases h with rfl | rfl | rfl <;> decide +kernel
theorem sc_polys_of : FnScope ["rows", "found", "number", "row", "other"] ["rows"] (defScope (top 36)) := ⟨rfl, rfl, rfl, by decide +kernel, rfl, by decide +kernel, by decide +kernel⟩
theorem fn_polys_of (h : Hd w K mg base) : Fn PR w K mg base "polys_of" 49 1 vPolys (xPolys K) := by
  obtain ⟨f, fd, F, hm⟩ := h.d_polys_of
  refine fn_mk F sc_polys_of hm (F.bindsN fun _ _ _ _ _ _ us hl => match us, hl with | [_], _ => rfl) h.ns rfl (by decide) rfl (fun cdv A outer s H E X hX gx hp ds hl => ?_)
  subst hX
  have nd := sc_polys_of.nd
  have main : ∀ (P : Po) (rs rsA : List D) (ps : List Poly), RowsOk rs ps → rsA.length ≤ 20 → ((rsA = rs ∧ P.rt (dcD (ksN rs.length) (ps.map eP))) ∨ (∃ r q, rsA = rs ++ [r] ∧ RowC ps r q ∧ isPo (eP q) = false ∧ P.rz (ec K "BadPoly"))) → SS Same (cxOf (L2N.CX PR w) PR w K mg base ["rows", "found", "number", "row", "other"] "polys_of" (defScope (top 36)) f cdv A outer s H E) [.dat (dcD (ksN rsA.length) rsA), .no, .no, .no, .no] (defBody (top 36)) P := fun P rs rsA ps hok hl hend => by
    have hle : rs.length ≤ rsA.length := by
      rcases hend with ⟨rfl, _⟩ | ⟨r, q, rfl, _⟩
      · exact Nat.le_refl _
      · rw [List.length_append]; omega
    have hgA : ∀ (i : Nat) r, rs[i]? = some r → rsA[i]? = some r := fun i r e => by
      rcases hend with ⟨rfl, _⟩ | ⟨r', q, rfl, _⟩
      · exact e
      · rw [List.getElem?_append_left (List.getElem?_eq_some_iff.mp e).1]; exact e
    refine ss_cons (s1_dnewI 1 (fun a => ?_) nd)
    refine ss_cons (s1_for (fun i γ => i ≤ rs.length ∧ ∃ b1 b2 b3, γ = [.dat (dcD (ksN rsA.length) rsA), .own (.b (dB (ksN i) ((ps.take i).map eP)) [a]), b1, b2, b3] ∧ (∀ z, b1 ≠ .own z) ∧ (∀ z, b2 ≠ .own z) ∧ ∀ z, b3 ≠ .own z) (ei_list (ee_dsorted (ee_var 0 rfl) (ksN_sorted _) (by rw [ksN_len]; omega) rfl h.b_sorted)) ⟨Nat.zero_le _, _, _, _, rfl, noO, noO, noO⟩ (fun i d γ hd hI => ?_) (fun γ hI => ?_) hp rfl)
    · obtain ⟨hi, b1, b2, b3, rfl, n1, n2, n3⟩ := hI
      have hiA : i < rsA.length := by
        have := (List.getElem?_eq_some_iff.mp hd).1
        rwa [List.length_map, ksN_len] at this
      have ed : d = .int (i : Int) := by
        rw [List.getElem?_map, ksN_get hiA] at hd
        exact (Option.some.inj hd).symm
      subst ed
      refine ⟨_, eg_name (i := 2) nd, ?_⟩
      -- the polynomials that a row is made of
      have coms : ∀ (word : Str) (is : List Nat) (as : List Poly), is.length ≤ 2 → as.length = is.length → is.map (fun j => (ps.take i)[j]?) = as.map some → ∀ x : D, x = .list (as.map eP) → ∀ b ∈ is.zip as, (b.1 < i ∧ lookI (ksN i) ((ps.take i).map eP) (b.1 : Int) = some (eP b.2)) := fun word is as h1 h2 h3 x _ b hb => by
        have hlk := zip_look h3 b hb
        have hlt : b.1 < i := by
          have := (List.getElem?_eq_some_iff.mp hlk).1
          rw [List.length_take] at this
          omega
        exact ⟨hlt, lookI_N hlt (by rw [List.getElem?_map, hlk]; rfl)⟩
      by_cases hir : i < rs.length
      · obtain ⟨r, q, e1, e2, hc, hq, hown⟩ := rowsOk_get hok hir
        refine ss_cons (s1_set 3 (ee_dgetI gx (ee_var 0 rfl) (ee_var 2 rfl) (lookI_N hiA (hgA i r e1))) ?_ nd)
        have fin : ∀ γ : List Sl, γ = [.dat (dcD (ksN rsA.length) rsA), .own (.b (dB (ksN i ++ [(i : Int)]) ((ps.take i).map eP ++ [eP q])) [a]), .dat (.int i), .dat r, b3] → i + 1 ≤ rs.length ∧ ∃ b1 b2 b3, γ = [.dat (dcD (ksN rsA.length) rsA), .own (.b (dB (ksN (i + 1)) ((ps.take (i + 1)).map eP)) [a]), b1, b2, b3] ∧ (∀ z, b1 ≠ .own z) ∧ (∀ z, b2 ≠ .own z) ∧ ∀ z, b3 ≠ .own z := fun γ e => by
          refine ⟨hir, .dat (.int i), .dat r, b3, ?_, datO, datO, n3⟩
          rw [e, ksN_succ, take_snoc e2, List.map_append]
          rfl
        rcases hc with rfl | hc
        · refine ss_one (s1_if (et_is (et_cmp (ee_ix (ee_var 3 rfl) ee_int (rfl)) ee_str (od_eq gx (by decide +kernel) (by decide +kernel)) (nomark _)) (b' := true) (by decide +kernel)) (fun hk => ?_) (fun hk => nomatch hk))
          exact ss_one (s1_dsetG 1 gx (ef_ee (ef_list (ee_ix (d := .tuple (q.map eF)) (ee_var 3 rfl) ee_int rfl) rfl h.b_list)) (ee_var 2 rfl) (put_new (fun z => by have := (ksN_mem.mp z).2; omega)) (fin _ rfl) (by rw [ksN_len]; omega))
        · obtain ⟨word, is, as, rfl, hw, h1, h2, h3, hv⟩ := hc.word
          refine ss_one (s1_if (et_is (et_cmp (ee_ix (d := .str word) (ee_var 3 rfl) ee_int ix0) ee_str (od_eq gx (word_sh hw) (by decide +kernel)) (nomark _)) (b' := false) (word_ne hw)) (fun hk => nomatch hk) (fun hk => ?_))
          refine ss_one (s1_dsetG 1 gx (ee_call (fn_tellable h) (gx.room.mono (by decide)) (ea_cons (ee_call (fn_come_of h) (gx.room.mono (by decide)) (ea_cons (ee_ix (d := .str word) (ee_var 3 rfl) ee_int ix0) (ea_cons (ef_ee (ef_is (ef_mapA "other" 4 (is.zip as) (fun b => .int b.1) (fun b => eP b.2) rfl nd (ei_is (ei_tup (ee_rest (ee_var 3 rfl) (by rw [List.length_map]; omega))) (zip_map1 h2).symm) (blkOk_by (own := [("other", 4)]) (N := ["rows", "found", "number", "row", "other"]) (sc := defScope (top 36)) (by decide +kernel)) (fun _ _ _ _ _ => pg_name (i := 4) nd rfl (Or.inl rfl)) (fun es z => n3 es (by injection z)) (fun b hb s1 H1 C1 cl1 fp1 => ?_) (by rw [List.length_zip]; omega)) (zip_map2 h2))) ea_nil)) hv) ea_nil) ⟨_, rfl, isPo_ok hq hown, rfl⟩) (ee_var 2 rfl) (put_new (fun z => by have := (ksN_mem.mp z).2; omega)) (fin _ rfl) (by rw [ksN_len]; omega))
          exact ee_dgetO 1 gx.blk (ee_var 4) (coms word is as h1 h2 h3 _ rfl b hb).2
      · rcases hend with ⟨rfl, _⟩ | ⟨r, q, rfl, hc, hbad, hz⟩
        · exact absurd hiA hir
        · have ei : i = rs.length := by omega
          subst ei
          have htk : ps.take rs.length = ps := by rw [hok.1, List.take_length]
          refine ss_cons (s1_set 3 (ee_dgetI gx (ee_var 0 rfl) (ee_var 2 rfl) (lookI_N hiA (d := r) (by rw [List.getElem?_append_right (Nat.le_refl _)]; simp))) ?_ nd)
          obtain ⟨word, is, as, rfl, hw, h1, h2, h3, hv⟩ := hc.word
          refine ss_one (s1_if (et_is (et_cmp (ee_ix (d := .str word) (ee_var 3 rfl) ee_int ix0) ee_str (od_eq gx (word_sh hw) (by decide +kernel)) (nomark _)) (b' := false) (word_ne hw)) (fun hk => nomatch hk) (fun hk => ?_))
          refine ss_one (s1_setIxX 1 gx (ex_call (fn_tellable h) (gx.room.mono (by decide)) (ea_cons (ee_call (fn_come_of h) (gx.room.mono (by decide)) (ea_cons (ee_ix (d := .str word) (ee_var 3 rfl) ee_int ix0) (ea_cons (ef_ee (ef_is (ef_mapA "other" 4 (is.zip as) (fun b => .int b.1) (fun b => eP b.2) rfl nd (ei_is (ei_tup (ee_rest (ee_var 3 rfl) (by rw [List.length_map]; omega))) (zip_map1 h2).symm) (blkOk_by (own := [("other", 4)]) (N := ["rows", "found", "number", "row", "other"]) (sc := defScope (top 36)) (by decide +kernel)) (fun _ _ _ _ _ => pg_name (i := 4) nd rfl (Or.inl rfl)) (fun es z => n3 es (by injection z)) (fun b hb s1 H1 C1 cl1 fp1 => ?_) (by rw [List.length_zip]; omega)) (zip_map2 h2))) ea_nil)) hv) ea_nil) ⟨_, rfl, hbad, rfl⟩) hz)
          exact ee_dgetO 1 gx.blk (ee_var 4) (coms word is as h1 h2 (by rw [htk]; exact h3) _ rfl b hb).2
    · obtain ⟨hi, b1, b2, b3, rfl, n1, n2, n3⟩ := hI
      rcases hend with ⟨rfl, hrt⟩ | ⟨r, q, rfl, hc, hbad, hz⟩
      · refine ss_freezeD 1 frz_dB (ss_one (s1_ret (ee_var 1 rfl) ?_))
        rw [List.length_map, ksN_len, hok.1, List.take_length]
        rw [hok.1] at hrt
        exact hrt
      · rw [List.length_map, ksN_len, List.length_append] at hi
        exact absurd hi (by simp)
  refine ⟨fun d hv => ?_, fun c hc => ?_⟩
  · obtain ⟨rs, ps, hok, hl2, rfl, rfl⟩ := hv
    exact main _ rs rs ps hok hl2 (.inl ⟨rfl, rfl⟩)
  · obtain ⟨rs, ps, r, q, hok, hl2, hr, hbad, rfl, rfl⟩ := hc
    have e : (rs ++ [r]).length = rs.length + 1 := by simp
    rw [← e]
    exact main _ rs (rs ++ [r]) ps hok (by rw [e]; omega) (.inr ⟨r, q, rfl, hr, hbad, rfl⟩)


/-! ### the sheet's methods, by which nothing is changed -/
def wholeIn (n : Nat) : D → Bool
  | .int i => decide (0 ≤ i ∧ i < n)
  | _ => false
theorem isWh_some {x : D} (h : isWh x = true) : ∃ i, x = .int i := by
  cases x with
  | int i => exact ⟨i, rfl⟩
  | _ => simp [isWh, isN, tyN] at h
theorem wholeIn_some {n : Nat} {x : D} (h : wholeIn n x = true) : ∃ i : Nat, x = .int (i : Int) ∧ i < n := by
  cases x with
  | int i =>
    have h := of_decide_eq_true h
    exact ⟨i.toNat, by rw [show (i.toNat : Int) = i by omega], by omega⟩
  | _ => cases h
theorem wholeIn_mem {n : Nat} {i : Int} : decide (i ∈ ksN n) = wholeIn n (.int i) := decide_eq_decide.mpr ksN_mem
def nowS (rs : List D) (ps : List Poly) : D := .tuple [dcD (ksN rs.length) rs, .int rs.length, dcD (ksN rs.length) (ps.map eP)]
def vThere (ds : List D) (d : D) : Prop := ∃ rs ps past ahead x, ds = [shD (nowS rs ps) past ahead, x] ∧ wholeIn rs.length x = true ∧ d = .none
def xThere (K : PySem.W.Frag) (ds : List D) (c : Value) : Prop := ∃ rs ps past ahead x, ds = [shD (nowS rs ps) past ahead, x] ∧ wholeIn rs.length x = false ∧ c = ec K "BadRow"
theorem sm_need_there : FnScope ["self", "number"] ["self", "number"] (defScope (inClass (top 37) 3)) := ⟨rfl, rfl, rfl, by decide +kernel, rfl, by decide +kernel, by decide +kernel⟩
theorem fm_need_there (h : Hd w K mg base) : FnM_ PR w K mg base "Sheet" "need_there" 42 2 vThere (xThere K) := by
  obtain ⟨f, fd, F, hm⟩ := h.m_need_there
  refine fnM_mk F sm_need_there hm h.o_Sheet.cl (F.bindsN fun _ _ _ _ _ _ us hl => match us, hl with | [_, _], _ => rfl) h.ns rfl (by decide) rfl (fun cdv A outer s H E X hX gx hp ds hl => ?_)
  subst hX
  have nd := sm_need_there.nd
  have main : ∀ (P : Po) rs ps past ahead (x : D), (wholeIn rs.length x = true → P.nx [.dat (shD (nowS rs ps) past ahead), .dat x]) → (wholeIn rs.length x = false → P.rz (ec K "BadRow")) → SS Same (cxOf (L2N.CX PR w) PR w K mg base ["self", "number"] "Sheet.need_there" (defScope (inClass (top 37) 3)) f cdv A outer s H E) [.dat (shD (nowS rs ps) past ahead), .dat x] (defBody (inClass (top 37) 3)) P := fun P rs ps past ahead x h1 h2 => by
    refine ss_one (s1_if (k := !wholeIn rs.length x) (et_is (ew_et (ew_or (et_not (et_val (ee_call (fn_is_whole h) (gx.room.mono (by decide)) (ea_cons (ee_var 1 rfl) ea_nil) ⟨x, rfl, rfl⟩))) (q := !wholeIn rs.length x) (fun hk => ew_or1 ?_))) ?_) (fun hk => ss_one (s1_raise h.e_BadRow (h2 (by simpa using hk)) rfl)) (fun hk => ss_nil (h1 (by simpa using hk))))
    · obtain ⟨i, rfl⟩ := isWh_some (by simpa using hk)
      rw [← wholeIn_mem]
      exact et_cmp (ee_var 1 rfl) (ee_ix (d := dcD (ksN rs.length) rs) (ee_fld (ns := ["now", "past", "ahead"]) (ee_var 0 rfl) rfl h.n_now) ee_int rfl) (od_dnotin gx) rfl
    · cases hw : isWh x with
      | true => simp
      | false =>
        have : wholeIn rs.length x = false := by
          cases x with
          | int i => simp [isWh, isN, tyN] at hw
          | _ => rfl
        rw [this]
        rfl
  refine ⟨fun d hv => ?_, fun c hc => ?_⟩
  · obtain ⟨rs, ps, past, ahead, x, rfl, hw, rfl⟩ := hv
    exact main _ rs ps past ahead x (fun _ => rfl) (fun z => by rw [hw] at z; cases z)
  · obtain ⟨rs, ps, past, ahead, x, rfl, hw, rfl⟩ := hc
    exact main _ rs ps past ahead x (fun z => by rw [hw] at z; cases z) (fun _ => rfl)
def xUndo (K : PySem.W.Frag) (ds : List D) (c : Value) : Prop := ∃ now ahead, ds = [shD now [] ahead] ∧ c = ec K "Nothing"
theorem sm_undo : FnScope ["self"] ["self"] (defScope (inClass (top 37) 7)) := ⟨rfl, rfl, rfl, by decide +kernel, rfl, by decide +kernel, by decide +kernel⟩
theorem fm_undo (h : Hd w K mg base) : FnM_ PR w K mg base "Sheet" "undo" 41 1 (fun _ _ => False) (xUndo K) := by
  obtain ⟨f, fd, F, hm⟩ := h.m_undo
  refine fnM_mk F sm_undo hm h.o_Sheet.cl (F.bindsN fun _ _ _ _ _ _ us hl => match us, hl with | [_], _ => rfl) h.ns rfl (by decide) rfl (fun cdv A outer s H E X hX gx hp ds hl => ?_)
  subst hX
  have nd := sm_undo.nd
  refine ⟨fun d hv => hv.elim, fun c hc => ?_⟩
  obtain ⟨now, ahead, rfl, rfl⟩ := hc
  exact ss_cons (s1_if (et_is (et_cmp (ee_fld (d := .list []) (ns := ["now", "past", "ahead"]) (ee_var 0 rfl) rfl h.n_past) (ee_lst ea_nil) (od_eq gx (by decide +kernel) (by decide +kernel)) (nomark _)) (b' := true) (by decide +kernel)) (fun hk => ss_one (s1_raise h.e_Nothing rfl rfl)) (fun hk => nomatch hk))
def xRedo (K : PySem.W.Frag) (ds : List D) (c : Value) : Prop := ∃ now past, ds = [shD now past []] ∧ c = ec K "Nothing"
theorem sm_redo : FnScope ["self"] ["self"] (defScope (inClass (top 37) 8)) := ⟨rfl, rfl, rfl, by decide +kernel, rfl, by decide +kernel, by decide +kernel⟩
theorem fm_redo (h : Hd w K mg base) : FnM_ PR w K mg base "Sheet" "redo" 41 1 (fun _ _ => False) (xRedo K) := by
  obtain ⟨f, fd, F, hm⟩ := h.m_redo
  refine fnM_mk F sm_redo hm h.o_Sheet.cl (F.bindsN fun _ _ _ _ _ _ us hl => match us, hl with | [_], _ => rfl) h.ns rfl (by decide) rfl (fun cdv A outer s H E X hX gx hp ds hl => ?_)
  subst hX
  have nd := sm_redo.nd
  refine ⟨fun d hv => hv.elim, fun c hc => ?_⟩
  obtain ⟨now, past, rfl, rfl⟩ := hc
  exact ss_cons (s1_if (et_is (et_cmp (ee_fld (d := .list []) (ns := ["now", "past", "ahead"]) (ee_var 0 rfl) rfl h.n_ahead) (ee_lst ea_nil) (od_eq gx (by decide +kernel) (by decide +kernel)) (nomark _)) (b' := true) (by decide +kernel)) (fun hk => ss_one (s1_raise h.e_Nothing rfl rfl)) (fun hk => nomatch hk))
theorem sm_numbers : FnScope ["self"] ["self"] (defScope (inClass (top 37) 9)) := ⟨rfl, rfl, rfl, by decide +kernel, rfl, by decide +kernel, by decide +kernel⟩
theorem fm_numbers (h : Hd w K mg base) : FnM_ PR w K mg base "Sheet" "numbers" 42 1 (fun ds d => ∃ rs ps past ahead, rs.length ≤ 20 ∧ ds = [shD (nowS rs ps) past ahead] ∧ d = .list ((ksN rs.length).map .int)) (fun _ _ => False) := by
  obtain ⟨f, fd, F, hm⟩ := h.m_numbers
  refine fnM_mk F sm_numbers hm h.o_Sheet.cl (F.bindsN fun _ _ _ _ _ _ us hl => match us, hl with | [_], _ => rfl) h.ns rfl (by decide) rfl (fun cdv A outer s H E X hX gx hp ds hl => ?_)
  subst hX
  have nd := sm_numbers.nd
  refine ⟨fun d hv => ?_, fun c hc => hc.elim⟩
  obtain ⟨rs, ps, past, ahead, hl2, rfl, rfl⟩ := hv
  exact ss_one (s1_ret (ee_dsorted (ee_ix (d := dcD (ksN rs.length) rs) (ee_fld (ns := ["now", "past", "ahead"]) (ee_var 0 rfl) rfl h.n_now) ee_int rfl) (ksN_sorted _) (by rw [ksN_len]; omega) rfl h.b_sorted) rfl)
def vPolyM (ds : List D) (d : D) : Prop := ∃ rs ps past ahead i q, ds = [shD (nowS rs ps) past ahead, .int ((i : Nat) : Int)] ∧ i < rs.length ∧ ps[i]? = some q ∧ d = eP q
theorem sm_poly : FnScope ["self", "number"] ["self", "number"] (defScope (inClass (top 37) 10)) := ⟨rfl, rfl, rfl, by decide +kernel, rfl, by decide +kernel, by decide +kernel⟩
theorem fm_poly (h : Hd w K mg base) : FnM_ PR w K mg base "Sheet" "poly" 43 2 vPolyM (xThere K) := by
  obtain ⟨f, fd, F, hm⟩ := h.m_poly
  refine fnM_mk F sm_poly hm h.o_Sheet.cl (F.bindsN fun _ _ _ _ _ _ us hl => match us, hl with | [_, _], _ => rfl) h.ns rfl (by decide) rfl (fun cdv A outer s H E X hX gx hp ds hl => ?_)
  subst hX
  have nd := sm_poly.nd
  refine ⟨fun d hv => ?_, fun c hc => ?_⟩
  · obtain ⟨rs, ps, past, ahead, i, q, rfl, hi, hq, rfl⟩ := hv
    have hw : wholeIn rs.length (.int (i : Int)) = true := decide_eq_true (by omega)
    refine ss_cons (s1_expr (ee_meth (fm_need_there h) (gx.room.mono (by decide)) (ee_var 0 rfl) (ea_cons (ee_var 1 rfl) ea_nil) ⟨rs, ps, past, ahead, _, rfl, hw, rfl⟩) ?_)
    exact ss_one (s1_ret (ef_ee (ef_list (x := eP q) (ds := q.map eF) (ee_dgetI gx (ee_ix (d := dcD (ksN rs.length) (ps.map eP)) (ee_fld (ns := ["now", "past", "ahead"]) (ee_var 0 rfl) rfl h.n_now) ee_int rfl) (ee_var 1 rfl) (lookI_N hi (by rw [List.getElem?_map, hq]; rfl))) rfl h.b_list)) rfl)
  · obtain ⟨rs, ps, past, ahead, x, rfl, hw, rfl⟩ := hc
    exact ss_cons (s1_exX (ex_meth (fm_need_there h) (gx.room.mono (by decide)) (ee_var 0 rfl) (ea_cons (ee_var 1 rfl) ea_nil) ⟨rs, ps, past, ahead, x, rfl, hw, rfl⟩) rfl)
/-- a row that is made of that one -/
def rowMade (i : Int) : D → Bool
  | .tuple (.str w :: rest) => !(PyData.eqv (.str w) (.str "given")) && rest.any fun z => PyData.eqv z (.int i)
  | _ => false
/-- rows by their form -/
def RowF (r : D) : Prop := ∃ (w : Str) (rest : List D), r = .tuple (.str w :: rest) ∧ SeqAt.shaped (.str w) = true ∧ rest.length ≤ 3 ∧ SeqAt.shaped (.list rest) = true
def vMadeBy (ds : List D) (d : D) : Prop := ∃ rs ps past ahead i, rs.length ≤ 20 ∧ (∀ r ∈ rs, RowF r) ∧ ds = [shD (nowS rs ps) past ahead, .int ((i : Nat) : Int)] ∧ i < rs.length ∧ d = .list (((List.range rs.length).filter fun j => rowMade (i : Int) (rs.getD j .none)).map fun j : Nat => PyData.int (j : Int))
theorem sm_made_by : FnScope ["self", "number", "rows", "own"] ["self", "number"] (defScope (inClass (top 37) 11)) := ⟨rfl, rfl, rfl, by decide +kernel, rfl, by decide +kernel, by decide +kernel⟩
theorem fm_made_by (h : Hd w K mg base) : FnM_ PR w K mg base "Sheet" "made_by" 43 2 vMadeBy (xThere K) := by
  obtain ⟨f, fd, F, hm⟩ := h.m_made_by
  refine fnM_mk F sm_made_by hm h.o_Sheet.cl (F.bindsN fun _ _ _ _ _ _ us hl => match us, hl with | [_, _], _ => rfl) h.ns rfl (by decide) rfl (fun cdv A outer s H E X hX gx hp ds hl => ?_)
  subst hX
  have nd := sm_made_by.nd
  refine ⟨fun d hv => ?_, fun c hc => ?_⟩
  · obtain ⟨rs, ps, past, ahead, i, hl2, hf, rfl, hi, rfl⟩ := hv
    have hw : wholeIn rs.length (.int (i : Int)) = true := decide_eq_true (by omega)
    refine ss_cons (s1_expr (ee_meth (fm_need_there h) (gx.room.mono (by decide)) (ee_var 0 rfl) (ea_cons (ee_var 1 rfl) ea_nil) ⟨rs, ps, past, ahead, _, rfl, hw, rfl⟩) ?_)
    refine ss_cons (s1_set 2 (ee_ix (d := dcD (ksN rs.length) rs) (ee_fld (ns := ["now", "past", "ahead"]) (ee_var 0 rfl) rfl h.n_now) ee_int rfl) ?_ nd)
    refine ss_one (s1_ret (ef_ee (ef_selA "own" 3 (List.range rs.length) (fun j : Nat => PyData.int (j : Int)) (fun j => rowMade (i : Int) (rs.getD j .none)) (fun j : Nat => PyData.int (j : Int)) rfl nd (ei_is (ei_list (ee_dsorted (ee_var 2 rfl) (ksN_sorted _) (by rw [ksN_len]; omega) rfl h.b_sorted)) (by rw [ksN, List.map_map]; rfl)) (blkOk_by (own := [("own", 3)]) (N := ["self", "number", "rows", "own"]) (sc := defScope (inClass (top 37) 11)) (by decide +kernel)) (fun _ _ _ _ _ => pg_name (i := 3) nd rfl (Or.inl rfl)) (fun es z => nomatch z) (fun j hj s1 H1 C1 cl1 fp1 => ?_) (fun j hj hp2 s1 H1 C1 cl1 fp1 => ee_var 3) (by rw [List.length_range]; omega))) rfl)
    have hj : j < rs.length := List.mem_range.mp hj
    have e1 : rs[j]? = some rs[j] := List.getElem?_eq_getElem hj
    have e2 : rs.getD j .none = rs[j] := by rw [List.getD_eq_getElem?_getD, e1]; rfl
    obtain ⟨w', rest, er, hs1, hr3, hs2⟩ := hf rs[j] (List.getElem_mem hj)
    rw [e2, er]
    rw [er] at e1
    have g1 : lookI (ksN rs.length) rs (j : Int) = some (.tuple (.str w' :: rest)) := lookI_N hj e1
    refine ew_et (ew_and (et_cmp (ee_ix (d := .str w') (ee_dgetI gx.blk (ee_var 2) (ee_var 3) g1) ee_int ix0) ee_str (od_ne gx.blk hs1 (by decide +kernel)) (nomark _)) (fun hk => ew_and1 ?_))
    exact et_cmp (ee_var 1) (ee_rest (ee_dgetI gx.blk (ee_var 2) (ee_var 3) g1) (by omega)) (od_inT gx.blk rfl hs2) rfl
  · obtain ⟨rs, ps, past, ahead, x, rfl, hw, rfl⟩ := hc
    exact ss_cons (s1_exX (ex_meth (fm_need_there h) (gx.room.mono (by decide)) (ee_var 0 rfl) (ea_cons (ee_var 1 rfl) ea_nil) ⟨rs, ps, past, ahead, x, rfl, hw, rfl⟩) rfl)
def xDrop (K : PySem.W.Frag) (ds : List D) (c : Value) : Prop := xThere K ds c ∨ ∃ rs ps past ahead i, rs.length ≤ 20 ∧ (∀ r ∈ rs, RowF r) ∧ ds = [shD (nowS rs ps) past ahead, .int ((i : Nat) : Int)] ∧ i < rs.length ∧ (∃ j, j < rs.length ∧ rowMade (i : Int) (rs.getD j .none) = true) ∧ c = ec K "BadRow"
theorem sm_drop : FnScope ["self", "number", "rows", "given", "polys", "own"] ["self", "number"] (defScope (inClass (top 37) 6)) := ⟨rfl, rfl, rfl, by decide +kernel, rfl, by decide +kernel, by decide +kernel⟩
theorem fm_drop (h : Hd w K mg base) : FnM_ PR w K mg base "Sheet" "drop" 44 2 (fun _ _ => False) (xDrop K) := by
  obtain ⟨f, fd, F, hm⟩ := h.m_drop
  refine fnM_mk F sm_drop hm h.o_Sheet.cl (F.bindsN fun _ _ _ _ _ _ us hl => match us, hl with | [_, _], _ => rfl) h.ns rfl (by decide) rfl (fun cdv A outer s H E X hX gx hp ds hl => ?_)
  subst hX
  have nd := sm_drop.nd
  refine ⟨fun d hv => hv.elim, fun c hc => ?_⟩
  rcases hc with hc | hc
  · obtain ⟨rs, ps, past, ahead, x, rfl, hw, rfl⟩ := hc
    exact ss_cons (s1_exX (ex_meth (fm_need_there h) (gx.room.mono (by decide)) (ee_var 0 rfl) (ea_cons (ee_var 1 rfl) ea_nil) ⟨rs, ps, past, ahead, x, rfl, hw, rfl⟩) rfl)
  · obtain ⟨rs, ps, past, ahead, i, hl2, hf, rfl, hi, ⟨j, hj, hm⟩, rfl⟩ := hc
    have hw : wholeIn rs.length (.int (i : Int)) = true := decide_eq_true (by omega)
    refine ss_cons (s1_expr (ee_meth (fm_need_there h) (gx.room.mono (by decide)) (ee_var 0 rfl) (ea_cons (ee_var 1 rfl) ea_nil) ⟨rs, ps, past, ahead, _, rfl, hw, rfl⟩) ?_)
    refine ss_cons (s1_asgG (ee_fld (d := nowS rs ps) (ns := ["now", "past", "ahead"]) (ee_var 0 rfl) rfl h.n_now) (eg_tri (i := 2) (j := 3) (k := 4) rfl nd) ?_)
    refine ss_cons (s1_if (et_is (et_cmp (ee_meth (fm_made_by h) (gx.room.mono (by decide)) (ee_var 0 rfl) (ea_cons (ee_var 1 rfl) ea_nil) ⟨rs, ps, past, ahead, i, hl2, hf, rfl, hi, rfl⟩) (ee_lst ea_nil) (od_ne gx ?_ (by decide +kernel)) (nomark _)) (b' := true) ?_) (fun hk => ss_one (s1_raise h.e_BadRow rfl rfl)) (fun hk => nomatch hk))
    · rw [show (fun j : Nat => PyData.int (j : Int)) = PyData.int ∘ (fun j : Nat => (j : Int)) from rfl, ← List.map_map]
      exact sh_ints.ok1
    · have hne : ((List.range rs.length).filter fun j => rowMade (i : Int) (rs.getD j .none)) ≠ [] := fun e => by
        have : j ∈ ((List.range rs.length).filter fun j => rowMade (i : Int) (rs.getD j .none)) := List.mem_filter.mpr ⟨List.mem_range.mpr hj, hm⟩
        rw [e] at this
        cases this
      rw [show (fun j : Nat => PyData.int (j : Int)) = PyData.int ∘ (fun j : Nat => (j : Int)) from rfl, ← List.map_map, eqv_ints_nil]
      simpa using hne


/-! ### rows, refused or let by -/
def words7 : List Str := ["given", "sum", "less", "product", "composed", "slope", "plus"]
def sizeI (z : Str) : Option Int := if z = "given" then some 2 else if z = "sum" ∨ z = "less" ∨ z = "product" ∨ z = "composed" then some 3 else if z = "slope" then some 2 else none
theorem sizes_at (h : Hd w K mg base) {z : Str} (hz : z ∈ words7) : KAt K w mg "SIZES" z (sizeI z) := by
  simp only [words7, List.mem_cons, List.not_mem_nil, or_false] at hz
  rcases hz with rfl | rfl | rfl | rfl | rfl | rfl | rfl
  · rw [show sizeI "given" = some 2 by decide +kernel]; exact h.z_SIZES_given
  · rw [show sizeI "sum" = some 3 by decide +kernel]; exact h.z_SIZES_sum
  · rw [show sizeI "less" = some 3 by decide +kernel]; exact h.z_SIZES_less
  · rw [show sizeI "product" = some 3 by decide +kernel]; exact h.z_SIZES_product
  · rw [show sizeI "composed" = some 3 by decide +kernel]; exact h.z_SIZES_composed
  · rw [show sizeI "slope" = some 2 by decide +kernel]; exact h.z_SIZES_slope
  · rw [show sizeI "plus" = none by decide +kernel]; exact h.z_SIZES_plus
theorem words_sh {z : Str} (hz : z ∈ words7) : SeqAt.shaped (.str z) = true := by
  simp only [words7, List.mem_cons, List.not_mem_nil, or_false] at hz
  rcases hz with rfl | rfl | rfl | rfl | rfl | rfl | rfl <;> decide +kernel
def RowG (n : Nat) (x : D) : Prop := (∃ y, x = .tuple [.str "given", y] ∧ isPo y = true ∧ SeqAt.shaped x = true) ∨ (∃ z rest, x = .tuple (.str z :: rest) ∧ z ∈ words7 ∧ SeqAt.shaped x = true ∧ sizeI z = some ((rest.length : Int) + 1) ∧ PyData.eqv (.str z) (.str "given") = false ∧ rest.all (wholeIn n) = true ∧ rest.length ≤ 2)
def RowB (n : Nat) (x : D) : Prop := isT x "tuple" = false ∨ x = .tuple [] ∨ (∃ d rest, x = .tuple (d :: rest) ∧ isT d "str" = false ∧ SeqAt.shaped x = true) ∨
  (∃ z rest, x = .tuple (.str z :: rest) ∧ z ∈ words7 ∧ SeqAt.shaped x = true ∧ (sizeI z = none ∨ (∃ k, sizeI z = some k ∧ k ≠ (rest.length : Int) + 1) ∨ (sizeI z = some ((rest.length : Int) + 1) ∧ PyData.eqv (.str z) (.str "given") = false ∧ rest.all (wholeIn n) = false ∧ rest.length ≤ 2)))
def RowP (x : D) : Prop := ∃ y, x = .tuple [.str "given", y] ∧ isPo y = false ∧ SeqAt.shaped x = true
theorem rowG_notB {n : Nat} {x : D} (h : RowB n x) : ¬ RowG n x := fun g => by
  rcases g with ⟨y, rfl, hy, _⟩ | ⟨z, rest, rfl, hz, _, hs, he, ha, _⟩
  · rcases h with h | h | ⟨d', r, e, hd', _⟩ | ⟨z', r, e, _, _, h⟩
    · cases h
    · cases h
    · injection e with e; injection e with e _; rw [← e] at hd'; cases hd'
    · injection e with e
      injection e with e e2
      injection e with e
      subst e e2
      rw [show sizeI "given" = some 2 by decide +kernel] at h
      rcases h with h | ⟨k, h, h2⟩ | ⟨_, h, _⟩
      · cases h
      · exact h2 (Option.some.inj h).symm
      · exact absurd h (by decide +kernel)
  · rcases h with h | h | ⟨d', r, e, hd', _⟩ | ⟨z', r, e, _, _, h⟩
    · cases h
    · cases h
    · injection e with e; injection e with e _; rw [← e] at hd'; cases hd'
    · injection e with e
      injection e with e e2
      injection e with e
      subst e e2
      rcases h with h | ⟨k, h, h2⟩ | ⟨_, _, h, _⟩
      · rw [hs] at h; cases h
      · rw [hs] at h; exact h2 (Option.some.inj h).symm
      · rw [ha] at h; cases h
theorem rowG_notP {n : Nat} {x : D} (h : RowP x) : ¬ RowG n x := fun g => by
  obtain ⟨y, rfl, hy, _⟩ := h
  rcases g with ⟨y', e, hy', _⟩ | ⟨z, rest, e, hz, _, hs, he, ha, _⟩
  · injection e with e; injection e with _ e; injection e with e _; rw [e, hy'] at hy; cases hy
  · injection e with e; injection e with e _; injection e with e; rw [← e] at he; exact absurd he (by decide +kernel)
theorem rowP_notB {n : Nat} {x : D} (h : RowB n x) : ¬ RowP x := fun ⟨y, e0, hy, _⟩ => by
  subst e0
  rcases h with h | h | ⟨d', r, e, hd', _⟩ | ⟨z', r, e, _, _, h⟩
  · cases h
  · cases h
  · injection e with e; injection e with e _; rw [← e] at hd'; cases hd'
  · injection e with e
    injection e with e e2
    injection e with e
    subst e e2
    rw [show sizeI "given" = some 2 by decide +kernel] at h
    rcases h with h | ⟨k, h, h2⟩ | ⟨_, h, _⟩
    · cases h
    · exact h2 (Option.some.inj h).symm
    · exact absurd h (by decide +kernel)
def vNeedRow (ds : List D) (d : D) : Prop := ∃ rs ps past ahead x, ds = [shD (nowS rs ps) past ahead, x] ∧ RowG rs.length x ∧ d = .none
def xNeedRow (K : PySem.W.Frag) (ds : List D) (c : Value) : Prop := ∃ rs ps past ahead x, ds = [shD (nowS rs ps) past ahead, x] ∧ ((RowB rs.length x ∧ c = ec K "BadRow") ∨ (RowP x ∧ c = ec K "BadPoly"))
theorem sm_need_row : FnScope ["self", "row", "other"] ["self", "row"] (defScope (inClass (top 37) 2)) := ⟨rfl, rfl, rfl, by decide +kernel, rfl, by decide +kernel, by decide +kernel⟩
theorem fm_need_row (h : Hd w K mg base) : FnM_ PR w K mg base "Sheet" "need_row" 46 2 vNeedRow (xNeedRow K) := by
  obtain ⟨f, fd, F, hm⟩ := h.m_need_row
  refine fnM_mk F sm_need_row hm h.o_Sheet.cl (F.bindsN fun _ _ _ _ _ _ us hl => match us, hl with | [_, _], _ => rfl) h.ns rfl (by decide) rfl (fun cdv A outer s H E X hX gx hp ds hl => ?_)
  subst hX
  have nd := sm_need_row.nd
  have main : ∀ (P : Po) rs ps past ahead (x : D), (∀ b, (∀ z, b ≠ .own z) → RowG rs.length x → P.nx [.dat (shD (nowS rs ps) past ahead), .dat x, b]) → (RowB rs.length x → P.rz (ec K "BadRow")) → (RowP x → P.rz (ec K "BadPoly")) → (RowG rs.length x ∨ RowB rs.length x ∨ RowP x) → SS Same (cxOf (L2N.CX PR w) PR w K mg base ["self", "row", "other"] "Sheet.need_row" (defScope (inClass (top 37) 2)) f cdv A outer s H E) [.dat (shD (nowS rs ps) past ahead), .dat x, .no] (defBody (inClass (top 37) 2)) P := fun P rs ps past ahead x h1 h2 h3 hall => by
    by_cases c1 : isT x "tuple" = false
    · refine ss_cons (s1_if (k := true) (et_is (ew_et (et_ew_or (et_is (et_not (et_val (ee_isi "tuple" (ee_var 1 rfl) (.inl rfl) h.b_isinstance h.b_tuple PyProof.Rows.boot_tuple))) (by rw [c1]; rfl)))) rfl) (fun hk => ss_one (s1_raise h.e_BadRow (h2 (.inl c1)) rfl)) (fun hk => nomatch hk))
    · obtain ⟨ys, rfl⟩ := isT_tuple (x := x) (by simpa using c1)
      match ys, h1, h2, h3, hall with
      | [], h1, h2, h3, hall =>
        refine ss_cons (s1_if (k := true) (et_is (ew_et (ew_or (et_not (et_val (ee_isi "tuple" (ee_var 1 rfl) (.inl rfl) h.b_isinstance h.b_tuple PyProof.Rows.boot_tuple))) (q := true) (fun _ => et_ew_or (et_is (et_cmp (ee_var 1 rfl) (ee_tup ea_nil) (od_eq gx (by decide +kernel) (by decide +kernel)) (nomark _)) (by decide +kernel))))) (by rw [Bool.or_true])) (fun hk => ss_one (s1_raise h.e_BadRow (h2 (.inr (.inl rfl))) rfl)) (fun hk => nomatch hk))
      | d :: rest, h1, h2, h3, hall =>
        have hsh : SeqAt.shaped (.tuple (d :: rest)) = true := by
          rcases hall with (⟨y, e, _, hs⟩ | ⟨z, r, e, _, hs, _⟩) | (hb | hb | ⟨d', r, e, _, hs⟩ | ⟨z, r, e, _, hs, _⟩) | ⟨y, e, _, hs⟩
          all_goals first | exact hs | exact absurd hb c1 | cases hb
        have ene : PyData.eqv (.tuple (d :: rest)) (.tuple []) = false := by simp [PyData.eqv, PyData.eqvAll]
        by_cases c2 : isT d "str" = false
        · refine ss_cons (s1_if (k := true) (et_is (ew_et (ew_or (et_not (et_val (ee_isi "tuple" (ee_var 1 rfl) (.inl rfl) h.b_isinstance h.b_tuple PyProof.Rows.boot_tuple))) (q := true) (fun _ => ew_or (et_cmp (ee_var 1 rfl) (ee_tup ea_nil) (od_eq gx hsh (by decide +kernel)) (nomark _)) (q := true) (fun _ => et_ew_or (et_is (et_not (et_val (ee_isi "str" (ee_ix (d := d) (ee_var 1 rfl) ee_int ix0) (.inr (.inr (.inr (.inr rfl)))) h.b_isinstance h.b_str PyProof.Rows.boot_str))) (by rw [c2]; rfl)))))) (by rfl)) (fun hk => ss_one (s1_raise h.e_BadRow (h2 (.inr (.inr (.inl ⟨d, rest, rfl, c2, hsh⟩)))) rfl)) (fun hk => nomatch hk))
        · obtain ⟨z, rfl⟩ : ∃ z, d = .str z := by
            cases d with
            | str z => exact ⟨z, rfl⟩
            | _ => simp [isN, tyN] at c2
          have hz : z ∈ words7 := by
            rcases hall with (⟨y, e, _, hs⟩ | ⟨z', r, e, hz, hs, _⟩) | (hb | hb | ⟨d', r, e, hd', hs⟩ | ⟨z', r, e, hz, hs, _⟩) | ⟨y, e, _, hs⟩
            · injection e with e; injection e with e _; injection e with e; rw [e]; exact List.mem_cons_self
            · injection e with e; injection e with e _; injection e with e; rw [e]; exact hz
            · exact absurd hb c1
            · cases hb
            · injection e with e; injection e with e _; rw [e] at c2; exact absurd hd' c2
            · injection e with e; injection e with e _; injection e with e; rw [e]; exact hz
            · injection e with e; injection e with e _; injection e with e; rw [e]; exact List.mem_cons_self
          refine ss_cons (s1_if (k := !(sizeI z).isSome) (et_is (ew_et (ew_or (et_not (et_val (ee_isi "tuple" (ee_var 1 rfl) (.inl rfl) h.b_isinstance h.b_tuple PyProof.Rows.boot_tuple))) (q := !(sizeI z).isSome) (fun _ => ew_or (et_cmp (ee_var 1 rfl) (ee_tup ea_nil) (od_eq gx hsh (by decide +kernel)) (nomark _)) (q := !(sizeI z).isSome) (fun _ => ew_or (et_not (et_val (ee_isi "str" (ee_ix (d := .str z) (ee_var 1 rfl) ee_int ix0) (.inr (.inr (.inr (.inr rfl)))) h.b_isinstance h.b_str PyProof.Rows.boot_str))) (q := !(sizeI z).isSome) (fun _ => ew_or1 (et_notInK (sizes_at h hz) (ee_ix (d := .str z) (ee_var 1 rfl) ee_int ix0))))))) (by simp [isN, tyN])) (fun hk => ?_) (fun hk => ss_nil ?_))
          · exact ss_one (s1_raise h.e_BadRow (h2 (.inr (.inr (.inr ⟨z, rest, rfl, hz, hsh, .inl (by simpa using hk)⟩)))) rfl)
          · obtain ⟨k, hk⟩ := Option.isSome_iff_exists.mp (show (sizeI z).isSome = true by simpa using hk)
            have hKA : KAt K w mg "SIZES" z (some k) := by rw [← hk]; exact sizes_at h hz
            refine ss_cons (s1_if (et_cmp (ee_len (n := rest.length + 1) (ee_var 1 rfl) rfl h.b_len) (ee_ixK hKA (ee_ix (d := .str z) (ee_var 1 rfl) ee_int ix0)) (od_ne gx sh_int.ok0 sh_int.ok0) (nomark _)) (fun hne => ?_) (fun hne => ss_nil ?_))
            · refine ss_one (s1_raise h.e_BadRow (h2 (.inr (.inr (.inr ⟨z, rest, rfl, hz, hsh, .inr (.inl ⟨k, hk, fun e => ?_⟩)⟩)))) rfl)
              rw [e] at hne
              simp [PyData.eqv] at hne
            · have hkl : k = (rest.length : Int) + 1 := by
                simp [PyData.eqv] at hne
                omega
              subst hkl
              refine ss_one (s1_if (et_cmp (ee_ix (d := .str z) (ee_var 1 rfl) ee_int ix0) ee_str (od_eq gx (words_sh hz) (by decide +kernel)) (nomark _)) (fun hg => ?_) (fun hg => ?_))
              · -- what is given
                have ez : z = "given" := by
                  simp only [words7, List.mem_cons, List.not_mem_nil, or_false] at hz
                  rcases hz with rfl | rfl | rfl | rfl | rfl | rfl | rfl
                  · rfl
                  all_goals exact absurd hg (by decide +kernel)
                subst ez
                have hl1 : rest.length = 1 := by
                  rw [show sizeI "given" = some 2 by decide +kernel] at hk
                  have := Option.some.inj hk
                  omega
                match rest, hl1, h1, h2, h3, hall, hsh with
                | [y], _, h1, h2, h3, hall, hsh =>
                  cases hy : isPo y with
                  | true => exact ss_one (s1_expr (ee_call (fn_need_poly h) (gx.room.mono (by decide)) (ea_cons (ee_ix (d := y) (ee_var 1 rfl) ee_int rfl) ea_nil) ⟨y, rfl, hy, rfl⟩) (h1 _ noO (.inl ⟨y, rfl, hy, hsh⟩)))
                  | false => exact ss_one (s1_exX (ex_call (fn_need_poly h) (gx.room.mono (by decide)) (ea_cons (ee_ix (d := y) (ee_var 1 rfl) ee_int rfl) ea_nil) ⟨y, rfl, hy, rfl⟩) (h3 ⟨y, rfl, hy, hsh⟩))
              · have hl2 : rest.length ≤ 2 := by
                  simp only [words7, List.mem_cons, List.not_mem_nil, or_false] at hz
                  have : ∀ j, sizeI z = some j → j ≤ 3 := fun j hj => by
                    unfold sizeI at hj
                    split at hj
                    · have := Option.some.inj hj; omega
                    · split at hj
                      · have := Option.some.inj hj; omega
                      · split at hj
                        · have := Option.some.inj hj; omega
                        · cases hj
                  have := this _ hk
                  omega
                refine ss_one (s1_if (k := !rest.all (wholeIn rs.length)) (et_is (et_not (et_val (ee_all (bs := rest.map (wholeIn rs.length)) (ee_is (ef_ee (ef_map "other" 2 (fun d => .bool (wholeIn rs.length d)) rfl nd (ei_tup (ee_rest (ee_var 1 rfl) (by omega))) (blkOk_by (own := [("other", 2)]) (N := ["self", "row", "other"]) (sc := defScope (inClass (top 37) 2)) (by decide +kernel)) (fun _ _ _ _ _ => pg_name (i := 2) nd rfl (Or.inl rfl)) (fun es z => nomatch z) (fun d hd s1 H1 C1 cl1 fp1 => ?_) (by omega))) ?_) rfl h.b_all))) ?_) (fun hk2 => ?_) (fun hk2 => ?_))
                · refine ee_is (ee_and (ee_call (fn_is_whole h) (gx.room.mono (by decide)) (ea_cons (ee_var 2) ea_nil) ⟨d, rfl, rfl⟩) (q := wholeIn rs.length d) (fun hw2 => ee_one ?_)) ?_
                  · obtain ⟨i, rfl⟩ := isWh_some hw2
                    rw [← wholeIn_mem]
                    exact ee_cmp (ee_var 2) (ee_ix (d := dcD (ksN rs.length) rs) (ee_fld (ns := ["now", "past", "ahead"]) (ee_var 0 rfl) rfl h.n_now) ee_int rfl) (od_din gx.blk) rfl
                  · cases hw2 : isWh d with
                    | true => rw [Bool.true_and]
                    | false =>
                      have : wholeIn rs.length d = false := by
                        cases d with
                        | int i => simp [isWh, isN, tyN] at hw2
                        | _ => rfl
                      rw [this]
                      rfl
                · rw [List.map_map]
                  rfl
                · rw [List.all_map]
                  rfl
                · exact ss_one (s1_raise h.e_BadRow (h2 (.inr (.inr (.inr ⟨z, rest, rfl, hz, hsh, .inr (.inr ⟨hk, hg, by simpa using hk2, hl2⟩)⟩)))) rfl)
                · exact ss_nil (h1 _ noO (.inr ⟨z, rest, rfl, hz, hsh, hk, hg, by simpa using hk2, hl2⟩))
  refine ⟨fun d hv => ?_, fun c hc => ?_⟩
  · obtain ⟨rs, ps, past, ahead, x, rfl, hg, rfl⟩ := hv
    refine main _ rs ps past ahead x (fun _ _ _ => rfl) (fun hb => ?_) (fun hb => ?_) (.inl hg)
    · exact absurd hg (rowG_notB hb)
    · exact absurd hg (rowG_notP hb)
  · obtain ⟨rs, ps, past, ahead, x, rfl, hc⟩ := hc
    rcases hc with ⟨hb, rfl⟩ | ⟨hb, rfl⟩
    · exact main _ rs ps past ahead x (fun _ _ hg => absurd hg (rowG_notB hb)) (fun _ => rfl) (fun hp2 => absurd hp2 (rowP_notB hb)) (.inr (.inl hb))
    · exact main _ rs ps past ahead x (fun _ _ hg => absurd hg (rowG_notP hb)) (fun hb2 => absurd hb (rowP_notB hb2)) (fun _ => rfl) (.inr (.inr hb))


/-! ### what is done with a sheet -/
def xBecome (K : PySem.W.Frag) (ds : List D) (c : Value) : Prop := ∃ now past ahead n R, ds = [shD now past ahead, R, .int n] ∧ xPolys K [R] c
theorem sm_become : FnScope ["self", "rows", "given", "later"] ["self", "rows", "given"] (defScope (inClass (top 37) 1)) := ⟨rfl, rfl, rfl, by decide +kernel, rfl, by decide +kernel, by decide +kernel⟩
theorem fm_become (h : Hd w K mg base) : FnM_ PR w K mg base "Sheet" "become" 50 3 (fun _ _ => False) (xBecome K) := by
  obtain ⟨f, fd, F, hm⟩ := h.m_become
  refine fnM_mk F sm_become hm h.o_Sheet.cl (F.bindsN fun _ _ _ _ _ _ us hl => match us, hl with | [_, _, _], _ => rfl) h.ns rfl (by decide) rfl (fun cdv A outer s H E X hX gx hp ds hl => ?_)
  subst hX
  have nd := sm_become.nd
  refine ⟨fun d hv => hv.elim, fun c hc => ?_⟩
  obtain ⟨now, past, ahead, n, R, rfl, hx⟩ := hc
  exact ss_cons (s1_setX 3 (ex_tup (exa_there (ee_var 1 rfl) (exa_there (ee_var 2 rfl) (exa_here (ex_call (fn_polys_of h) (gx.room.mono (by decide)) (ea_cons (ee_var 1 rfl) ea_nil) hx))))) rfl nd)
def eBecome (t : Sht) (ds : List D) (d : D) (t' : Sht) : Prop := ∃ rs ps, RowsOk rs ps ∧ rs.length ≤ 20 ∧ t.past.length < 1000 ∧ ds = [dcD (ksN rs.length) rs, .int rs.length] ∧ d = .none ∧ t' = ⟨nowS rs ps, t.past ++ [t.now], []⟩
theorem fe_become (h : Hd w K mg base) : FnE PR w K mg base "become" 50 3 eBecome := by
  obtain ⟨f, fd, F, hm⟩ := h.m_become
  refine fnE_mk F sm_become hm h.o_Sheet.cl (F.bindsN fun _ _ _ _ _ _ us hl => match us, hl with | [_, _, _], _ => rfl) h.ns rfl (by decide) rfl (by decide) (fun cdv A outer s H E X hX gx hp t t' ds d fs hl hE => ?_)
  subst hX
  have nd := sm_become.nd
  obtain ⟨rs, ps, hok, hl2, hpl, rfl, rfl, rfl⟩ := hE
  refine sse_cons (s1_set 3 (ee_tup (ea_cons (ee_var 1 rfl) (ea_cons (ee_var 2 rfl) (ea_cons (ee_call (fn_polys_of h) (gx.room.mono (by decide)) (ea_cons (ee_var 1 rfl) ea_nil) ⟨rs, ps, hok, hl2, rfl, rfl⟩) ea_nil)))) ?_ nd)
  refine sse_cons (s1_pastApp 0 (now := t.now) (past := t.past) (ahead := t.ahead) (ee_nowO 0 (now := t.now) (past := t.past) (ahead := t.ahead) h.n_now) h.n_past ?_ hpl)
  refine sse_cons (s1_aheadSet 0 (now := t.now) (past := t.past ++ [t.now]) (ahead := t.ahead) (ee_lst ea_nil) h.n_ahead ?_)
  exact sse_cons (s1_nowSet 0 (now := t.now) (past := t.past ++ [t.now]) (ahead := []) (ee_var 3 rfl) h.n_now (sse_nil ⟨rfl, rfl⟩))
theorem put_N {n : Nat} {ds : List D} {d : D} : ∀ (K : PySem.W.Frag) (H : Hp) (vs : List V) (v : V), (ksN n).length = vs.length → DtAll K H vs ds → Dt K H v d → ∃ vs', putK (((ksN n).map (Sum.inl : Int → Key)).zip vs) (Sum.inl (n : Int)) v = ((ksN n ++ [(n : Int)]).map Sum.inl).zip vs' ∧ (ksN n ++ [(n : Int)]).length = vs'.length ∧ DtAll K H vs' (ds ++ [d]) := put_new (fun z => by
  have := (ksN_mem.mp z).2
  omega)
/-- a row that tells a polynomial, not what is given -/
def RowN (x : D) : Prop := ∃ z rest, x = .tuple (.str z :: rest) ∧ SeqAt.shaped (.str z) = true ∧ PyData.eqv (.str z) (.str "given") = false
def xPut (K : PySem.W.Frag) (ds : List D) (c : Value) : Prop := ∃ rs ps past ahead x, ds = [shD (nowS rs ps) past ahead, x] ∧
  ((20 ≤ rs.length ∧ c = ec K "BadRow") ∨ (rs.length < 20 ∧ xNeedRow K ds c) ∨ (rs.length < 20 ∧ RowG rs.length x ∧ RowN x ∧ RowsOk rs ps ∧ ∃ q, RowC ps x q ∧ isPo (eP q) = false ∧ c = ec K "BadPoly"))
theorem sm_put : FnScope ["self", "row", "rows", "given", "polys", "later"] ["self", "row"] (defScope (inClass (top 37) 4)) := ⟨rfl, rfl, rfl, by decide +kernel, rfl, by decide +kernel, by decide +kernel⟩
theorem fm_put (h : Hd w K mg base) : FnM_ PR w K mg base "Sheet" "put" 51 2 (fun _ _ => False) (xPut K) := by
  obtain ⟨f, fd, F, hm⟩ := h.m_put
  refine fnM_mk F sm_put hm h.o_Sheet.cl (F.bindsN fun _ _ _ _ _ _ us hl => match us, hl with | [_, _], _ => rfl) h.ns rfl (by decide) rfl (fun cdv A outer s H E X hX gx hp ds hl => ?_)
  subst hX
  have nd := sm_put.nd
  refine ⟨fun d hv => hv.elim, fun c hc => ?_⟩
  obtain ⟨rs, ps, past, ahead, x, rfl, hc⟩ := hc
  refine ss_cons (s1_asgG (ee_fld (d := nowS rs ps) (ns := ["now", "past", "ahead"]) (ee_var 0 rfl) rfl h.n_now) (eg_tri (i := 2) (j := 3) (k := 4) rfl nd) ?_)
  rcases hc with ⟨hl2, rfl⟩ | ⟨hl2, hx⟩ | ⟨hl2, hg, ⟨z, rest, hxe, hzs, hze⟩, hok, q, hq, hbad, rfl⟩
  · exact ss_cons (s1_if (et_is (et_cmp (ee_dlen (ee_var 2 rfl) h.b_len) (ee_glob h.k_MOST_ROWS) od_ge (nomark _)) (b' := true) (decide_eq_true (by rw [ksN_len]; omega))) (fun hk => ss_one (s1_raise h.e_BadRow rfl rfl)) (fun hk => nomatch hk))
  · refine ss_cons (s1_if (et_is (et_cmp (ee_dlen (ee_var 2 rfl) h.b_len) (ee_glob h.k_MOST_ROWS) od_ge (nomark _)) (b' := false) (decide_eq_false (by rw [ksN_len]; omega))) (fun hk => nomatch hk) (fun hk => ss_nil ?_))
    exact ss_cons (s1_exX (ex_meth (fm_need_row h) (gx.room.mono (by decide)) (ee_var 0 rfl) (ea_cons (ee_var 1 rfl) ea_nil) hx) rfl)
  · refine ss_cons (s1_if (et_is (et_cmp (ee_dlen (ee_var 2 rfl) h.b_len) (ee_glob h.k_MOST_ROWS) od_ge (nomark _)) (b' := false) (decide_eq_false (by rw [ksN_len]; omega))) (fun hk => nomatch hk) (fun hk => ss_nil ?_))
    refine ss_cons (s1_expr (ee_meth (fm_need_row h) (gx.room.mono (by decide)) (ee_var 0 rfl) (ea_cons (ee_var 1 rfl) ea_nil) ⟨rs, ps, past, ahead, x, rfl, hg, rfl⟩) ?_)
    subst hxe
    refine ss_cons (s1_dcopyI 5 (ee_var 2 rfl) (fun a => ?_) nd h.b_dict)
    refine ss_cons (s1_dsetG 5 gx (d := .tuple (.str z :: rest)) (ee_if (p := false) (et_is (et_cmp (ee_ix (d := .str z) (ee_var 1 rfl) ee_int ix0) ee_str (od_eq gx hzs (by decide +kernel)) (nomark _)) hze) (fun hk => nomatch hk) (fun hk => ee_var 1 rfl)) (ee_var 3 rfl) put_N ?_ (by rw [ksN_len]; omega))
    refine ss_freezeD 5 frz_dB ?_
    refine ss_cons (s1_exX (ex_meth (fm_become h) (gx.room.mono (by decide)) (ee_var 0 rfl) (ea_cons (ee_var 5 rfl) (ea_cons (ee_op (ee_var 3 rfl) ee_int od_add) ea_nil)) ⟨_, past, ahead, _, _, rfl, rs, ps, _, q, hok, hl2, hq, hbad, ?_, rfl⟩) rfl)
    rw [ksN_succ]
def ePut (t : Sht) (ds : List D) (d : D) (t' : Sht) : Prop := ∃ rs ps x r q, t.now = nowS rs ps ∧ RowsOk rs ps ∧ rs.length < 20 ∧ t.past.length < 1000 ∧ ds = [x] ∧ RowG rs.length x ∧ q.length ≤ 13 ∧ Own q ∧ ((x = .tuple [.str "given", eP q] ∧ r = rgD q) ∨ (RowN x ∧ r = x ∧ RowC ps x q)) ∧ d = .int rs.length ∧ t' = ⟨nowS (rs ++ [r]) (ps ++ [q]), t.past ++ [t.now], []⟩
theorem rowsOk_snoc {rs : List D} {ps : List Poly} {r : D} {q : Poly} (hok : RowsOk rs ps) (hr : r = rgD q ∨ RowC ps r q) (hl : q.length ≤ 13) (ho : Own q) : RowsOk (rs ++ [r]) (ps ++ [q]) := by
  refine ⟨by rw [List.length_append, List.length_append, hok.1]; rfl, fun i r' q' e1 e2 => ?_⟩
  by_cases hi : i < rs.length
  · rw [List.getElem?_append_left hi] at e1
    rw [List.getElem?_append_left (by rw [← hok.1]; exact hi)] at e2
    have := hok.2 i r' q' e1 e2
    rwa [List.take_append_of_le_length (by rw [← hok.1]; omega)]
  · rw [List.getElem?_append_right (by omega)] at e1
    rw [List.getElem?_append_right (by rw [← hok.1]; omega), ← hok.1] at e2
    by_cases h0 : i - rs.length = 0
    · rw [h0] at e1 e2
      have e1 : r = r' := by simpa using e1
      have e2 : q = q' := by simpa using e2
      subst e1 e2
      rw [show i = ps.length by rw [← hok.1]; omega, List.take_left']
      · exact ⟨hr, hl, ho⟩
      · rfl
    · have : ([r] : List D)[i - rs.length]? = none := List.getElem?_eq_none (by simp; omega)
      rw [this] at e1
      cases e1
theorem fe_put (h : Hd w K mg base) : FnE PR w K mg base "put" 52 2 ePut := by
  obtain ⟨f, fd, F, hm⟩ := h.m_put
  refine fnE_mk F sm_put hm h.o_Sheet.cl (F.bindsN fun _ _ _ _ _ _ us hl => match us, hl with | [_, _], _ => rfl) h.ns rfl (by decide) rfl (by decide) (fun cdv A outer s H E X hX gx hp t t' ds d fs hl hE => ?_)
  subst hX
  have nd := sm_put.nd
  obtain ⟨rs, ps, x, r, q, hnow, hok, hl2, hpl, rfl, hg, hq13, hown, hx, rfl, rfl⟩ := hE
  obtain ⟨now, past, ahead⟩ := t
  have hnow : now = nowS rs ps := hnow
  subst hnow
  have hpl : past.length < 1000 := hpl
  have hok2 : RowsOk (rs ++ [r]) (ps ++ [q]) := rowsOk_snoc hok (by
    rcases hx with ⟨_, rfl⟩ | ⟨_, rfl, hc⟩
    · exact .inl rfl
    · exact .inr hc) hq13 hown
  refine sse_cons (s1_asgG (ee_nowO 0 (now := nowS rs ps) (past := past) (ahead := ahead) h.n_now) (eg_tri (i := 2) (j := 3) (k := 4) rfl nd) ?_)
  refine sse_cons (s1_if (et_is (et_cmp (ee_dlen (ee_var 2 rfl) h.b_len) (ee_glob h.k_MOST_ROWS) od_ge (nomark _)) (b' := false) (decide_eq_false (by rw [ksN_len]; omega))) (fun hk => nomatch hk) (fun hk => ss_nil ?_))
  refine sse_cons (s1_expr (ee_lend 0 (frz_shB (now := nowS rs ps) (past := past) (ahead := ahead)) imm_non rfl (ee_meth (fm_need_row h) (gx.room.mono (by decide)) (ee_var 0 rfl) (ea_cons (ee_var 1 rfl) ea_nil) ⟨rs, ps, past, ahead, x, rfl, hg, rfl⟩)) ?_)
  refine sse_cons (s1_dcopyI 5 (ee_var 2 rfl) (fun a => ?_) nd h.b_dict)
  have hlen : rs.length + 1 = (rs ++ [r]).length := by rw [List.length_append]; rfl
  have hb : eBecome ⟨nowS rs ps, past, ahead⟩ [dcD (ksN rs.length ++ [(rs.length : Int)]) (rs ++ [r]), .int ((rs.length : Int) + 1)] .none ⟨nowS (rs ++ [r]) (ps ++ [q]), past ++ [nowS rs ps], []⟩ :=
    ⟨rs ++ [r], ps ++ [q], hok2, by rw [← hlen]; omega, hpl, by rw [← hlen, ksN_succ]; rfl, rfl, rfl⟩
  rcases hx with ⟨rfl, rfl⟩ | ⟨⟨z, rest, hxe, hzs, hze⟩, rfl, hc⟩
  · refine sse_cons (s1_dsetG 5 gx (d := rgD q) (ee_if (p := true) (et_is (et_cmp (ee_ix (d := .str "given") (ee_var 1 rfl) ee_int ix0) ee_str (od_eq gx (by decide +kernel) (by decide +kernel)) (nomark _)) (by decide +kernel)) (fun hk => ee_tup (ea_cons (ee_ix (d := .str "given") (ee_var 1 rfl) ee_int ix0) (ea_cons (ee_tupleOf (ee_ix (d := eP q) (ee_var 1 rfl) ee_int rfl) h.b_tuple) ea_nil))) (fun hk => nomatch hk)) (ee_var 3 rfl) put_N ?_ (by rw [ksN_len]; omega))
    refine sse_freezeD 5 frz_dB ?_
    refine sse_cons (s1_exprU (eu_meth 0 (t := ⟨nowS rs ps, past, ahead⟩) (fe_become h) (gx.room.mono (by decide)) (ea_cons (ee_var 5 rfl) (ea_cons (ee_op (ee_var 3 rfl) ee_int od_add) ea_nil)) hb) ?_)
    exact sse_ret (ee_var 3 rfl) ⟨rfl, rfl⟩
  · subst hxe
    refine sse_cons (s1_dsetG 5 gx (d := .tuple (.str z :: rest)) (ee_if (p := false) (et_is (et_cmp (ee_ix (d := .str z) (ee_var 1 rfl) ee_int ix0) ee_str (od_eq gx hzs (by decide +kernel)) (nomark _)) hze) (fun hk => nomatch hk) (fun hk => ee_var 1 rfl)) (ee_var 3 rfl) put_N ?_ (by rw [ksN_len]; omega))
    refine sse_freezeD 5 frz_dB ?_
    refine sse_cons (s1_exprU (eu_meth 0 (t := ⟨nowS rs ps, past, ahead⟩) (fe_become h) (gx.room.mono (by decide)) (ea_cons (ee_var 5 rfl) (ea_cons (ee_op (ee_var 3 rfl) ee_int od_add) ea_nil)) hb) ?_)
    exact sse_ret (ee_var 3 rfl) ⟨rfl, rfl⟩


/-! ### a given row becomes another -/
def xChange (K : PySem.W.Frag) (ds : List D) (c : Value) : Prop := ∃ rs ps past ahead x y, ds = [shD (nowS rs ps) past ahead, x, y] ∧
  ((wholeIn rs.length x = false ∧ c = ec K "BadRow") ∨
   (∃ (i : Nat) (z : Str) (rest : List D), x = .int (i : Int) ∧ rs[i]? = some (.tuple (.str z :: rest)) ∧ SeqAt.shaped (.str z) = true ∧ PyData.eqv (.str z) (.str "given") = false ∧ c = ec K "BadRow") ∨
   (∃ (i : Nat) (p0 : Poly), x = .int (i : Int) ∧ rs[i]? = some (rgD p0) ∧ isPo y = false ∧ c = ec K "BadPoly") ∨
   (∃ (i : Nat) (p0 p : Poly), x = .int (i : Int) ∧ rs[i]? = some (rgD p0) ∧ y = eP p ∧ isPo (eP p) = true ∧ rs.length ≤ 20 ∧ ∃ rs' ps' r q, rs.set i (rgD p) = rs' ++ [r] ∧ RowsOk rs' ps' ∧ RowC ps' r q ∧ isPo (eP q) = false ∧ c = ec K "BadPoly"))
theorem put_O {n i : Nat} {ds : List D} {d : D} (hi : i < n) : ∀ (K : PySem.W.Frag) (H : Hp) (vs : List V) (v : V), (ksN n).length = vs.length → DtAll K H vs ds → Dt K H v d → ∃ vs', putK (((ksN n).map (Sum.inl : Int → Key)).zip vs) (Sum.inl (i : Int)) v = ((ksN n).map Sum.inl).zip vs' ∧ (ksN n).length = vs'.length ∧ DtAll K H vs' (ds.set i d) := put_old (ksN_nodup n) (ksN_get hi)
theorem sm_change : FnScope ["self", "number", "poly", "rows", "given", "polys", "later", "own"] ["self", "number", "poly"] (defScope (inClass (top 37) 5)) := ⟨rfl, rfl, rfl, by decide +kernel, rfl, by decide +kernel, by decide +kernel⟩
theorem fm_change (h : Hd w K mg base) : FnM_ PR w K mg base "Sheet" "change" 51 3 (fun _ _ => False) (xChange K) := by
  obtain ⟨f, fd, F, hm⟩ := h.m_change
  refine fnM_mk F sm_change hm h.o_Sheet.cl (F.bindsN fun _ _ _ _ _ _ us hl => match us, hl with | [_, _, _], _ => rfl) h.ns rfl (by decide) rfl (fun cdv A outer s H E X hX gx hp ds hl => ?_)
  subst hX
  have nd := sm_change.nd
  refine ⟨fun d hv => hv.elim, fun c hc => ?_⟩
  obtain ⟨rs, ps, past, ahead, x, y, rfl, hc⟩ := hc
  rcases hc with ⟨hw, rfl⟩ | ⟨i, z, rest, rfl, hr, hzs, hze, rfl⟩ | ⟨i, p0, rfl, hr, hy, rfl⟩ | ⟨i, p0, p, rfl, hr, rfl, hy, hl2, rs', ps', r, q, he, hok, hq, hbad, rfl⟩
  · exact ss_cons (s1_exX (ex_meth (fm_need_there h) (gx.room.mono (by decide)) (ee_var 0 rfl) (ea_cons (ee_var 1 rfl) ea_nil) ⟨rs, ps, past, ahead, x, rfl, hw, rfl⟩) rfl)
  · have hi : i < rs.length := (List.getElem?_eq_some_iff.mp hr).1
    have hw : wholeIn rs.length (.int (i : Int)) = true := decide_eq_true (by omega)
    refine ss_cons (s1_expr (ee_meth (fm_need_there h) (gx.room.mono (by decide)) (ee_var 0 rfl) (ea_cons (ee_var 1 rfl) ea_nil) ⟨rs, ps, past, ahead, _, rfl, hw, rfl⟩) ?_)
    refine ss_cons (s1_asgG (ee_fld (d := nowS rs ps) (ns := ["now", "past", "ahead"]) (ee_var 0 rfl) rfl h.n_now) (eg_tri (i := 3) (j := 4) (k := 5) rfl nd) ?_)
    exact ss_cons (s1_if (et_is (et_cmp (ee_ix (d := .str z) (ee_dgetI gx (ee_var 3 rfl) (ee_var 1 rfl) (lookI_N hi hr)) ee_int ix0) ee_str (od_ne gx hzs (by decide +kernel)) (nomark _)) (b' := true) (by rw [hze]; rfl)) (fun hk => ss_one (s1_raise h.e_BadRow rfl rfl)) (fun hk => nomatch hk))
  · have hi : i < rs.length := (List.getElem?_eq_some_iff.mp hr).1
    have hw : wholeIn rs.length (.int (i : Int)) = true := decide_eq_true (by omega)
    refine ss_cons (s1_expr (ee_meth (fm_need_there h) (gx.room.mono (by decide)) (ee_var 0 rfl) (ea_cons (ee_var 1 rfl) ea_nil) ⟨rs, ps, past, ahead, _, rfl, hw, rfl⟩) ?_)
    refine ss_cons (s1_asgG (ee_fld (d := nowS rs ps) (ns := ["now", "past", "ahead"]) (ee_var 0 rfl) rfl h.n_now) (eg_tri (i := 3) (j := 4) (k := 5) rfl nd) ?_)
    refine ss_cons (s1_if (et_is (et_cmp (ee_ix (d := .str "given") (ee_dgetI gx (ee_var 3 rfl) (ee_var 1 rfl) (lookI_N hi hr)) ee_int ix0) ee_str (od_ne gx (by decide +kernel) (by decide +kernel)) (nomark _)) (b' := false) (by decide +kernel)) (fun hk => nomatch hk) (fun hk => ss_nil ?_))
    exact ss_cons (s1_exX (ex_call (fn_need_poly h) (gx.room.mono (by decide)) (ea_cons (ee_var 2 rfl) ea_nil) ⟨y, rfl, hy, rfl⟩) rfl)
  · have hi : i < rs.length := (List.getElem?_eq_some_iff.mp hr).1
    have hw : wholeIn rs.length (.int (i : Int)) = true := decide_eq_true (by omega)
    refine ss_cons (s1_expr (ee_meth (fm_need_there h) (gx.room.mono (by decide)) (ee_var 0 rfl) (ea_cons (ee_var 1 rfl) ea_nil) ⟨rs, ps, past, ahead, _, rfl, hw, rfl⟩) ?_)
    refine ss_cons (s1_asgG (ee_fld (d := nowS rs ps) (ns := ["now", "past", "ahead"]) (ee_var 0 rfl) rfl h.n_now) (eg_tri (i := 3) (j := 4) (k := 5) rfl nd) ?_)
    refine ss_cons (s1_if (et_is (et_cmp (ee_ix (d := .str "given") (ee_dgetI gx (ee_var 3 rfl) (ee_var 1 rfl) (lookI_N hi hr)) ee_int ix0) ee_str (od_ne gx (by decide +kernel) (by decide +kernel)) (nomark _)) (b' := false) (by decide +kernel)) (fun hk => nomatch hk) (fun hk => ss_nil ?_))
    refine ss_cons (s1_expr (ee_call (fn_need_poly h) (gx.room.mono (by decide)) (ea_cons (ee_var 2 rfl) ea_nil) ⟨_, rfl, hy, rfl⟩) ?_)
    refine ss_cons (s1_dcopyI 6 (ee_var 3 rfl) (fun a => ?_) nd h.b_dict)
    refine ss_cons (s1_dsetG 6 gx (d := rgD p) (ee_tup (ea_cons ee_str (ea_cons (ee_tupleOf (ds := p.map eF) (ee_var 2 rfl) h.b_tuple) ea_nil))) (ee_var 1 rfl) (put_O hi) ?_ (by rw [ksN_len]; omega))
    refine ss_freezeD 6 frz_dB ?_
    have hlen : rs.length = rs'.length + 1 := by
      have := congrArg List.length he
      simpa using this
    refine ss_cons (s1_exX (ex_meth (fm_become h) (gx.room.mono (by decide)) (ee_var 0 rfl) (ea_cons (ee_var 6 rfl) (ea_cons (ee_var 4 rfl) ea_nil)) ⟨_, past, ahead, _, _, rfl, rs', ps', r, q, hok, by omega, hq, hbad, by rw [he, hlen], rfl⟩) rfl)
def eChange (t : Sht) (ds : List D) (d : D) (t' : Sht) : Prop := ∃ rs ps i p0 p ps', t.now = nowS rs ps ∧ rs.length ≤ 20 ∧ t.past.length < 1000 ∧ ds = [.int ((i : Nat) : Int), eP p] ∧ rs[i]? = some (rgD p0) ∧ isPo (eP p) = true ∧ rs.length = ps.length ∧ RowsOk (rs.set i (rgD p)) ps' ∧
  d = .list (((List.range rs.length).filter fun j => !decide (ps'.getD j [] = ps.getD j [])).map fun j : Nat => PyData.int (j : Int)) ∧ t' = ⟨nowS (rs.set i (rgD p)) ps', t.past ++ [t.now], []⟩
theorem fe_change (h : Hd w K mg base) : FnE PR w K mg base "change" 52 3 eChange := by
  obtain ⟨f, fd, F, hm⟩ := h.m_change
  refine fnE_mk F sm_change hm h.o_Sheet.cl (F.bindsN fun _ _ _ _ _ _ us hl => match us, hl with | [_, _, _], _ => rfl) h.ns rfl (by decide) rfl (by decide) (fun cdv A outer s H E X hX gx hp t t' ds d fs hl hE => ?_)
  subst hX
  have nd := sm_change.nd
  obtain ⟨rs, ps, i, p0, p, ps', hnow, hl2, hpl, rfl, hr, hy, hps, hok, rfl, rfl⟩ := hE
  obtain ⟨now, past, ahead⟩ := t
  have hnow : now = nowS rs ps := hnow
  subst hnow
  have hpl : past.length < 1000 := hpl
  have hi : i < rs.length := (List.getElem?_eq_some_iff.mp hr).1
  have hw : wholeIn rs.length (.int (i : Int)) = true := decide_eq_true (by omega)
  have hlen : (rs.set i (rgD p)).length = rs.length := List.length_set ..
  have hps' : ps'.length = rs.length := by rw [← hok.1, hlen]
  refine sse_cons (s1_expr (ee_lend 0 (frz_shB (now := nowS rs ps) (past := past) (ahead := ahead)) imm_non rfl (ee_meth (fm_need_there h) (gx.room.mono (by decide)) (ee_var 0 rfl) (ea_cons (ee_var 1 rfl) ea_nil) ⟨rs, ps, past, ahead, _, rfl, hw, rfl⟩)) ?_)
  refine sse_cons (s1_asgG (ee_nowO 0 (now := nowS rs ps) (past := past) (ahead := ahead) h.n_now) (eg_tri (i := 3) (j := 4) (k := 5) rfl nd) ?_)
  refine sse_cons (s1_if (et_is (et_cmp (ee_ix (d := .str "given") (ee_dgetI gx (ee_var 3 rfl) (ee_var 1 rfl) (lookI_N hi hr)) ee_int ix0) ee_str (od_ne gx (by decide +kernel) (by decide +kernel)) (nomark _)) (b' := false) (by decide +kernel)) (fun hk => nomatch hk) (fun hk => ss_nil ?_))
  refine sse_cons (s1_expr (ee_call (fn_need_poly h) (gx.room.mono (by decide)) (ea_cons (ee_var 2 rfl) ea_nil) ⟨_, rfl, hy, rfl⟩) ?_)
  refine sse_cons (s1_dcopyI 6 (ee_var 3 rfl) (fun a => ?_) nd h.b_dict)
  refine sse_cons (s1_dsetG 6 gx (d := rgD p) (ee_tup (ea_cons ee_str (ea_cons (ee_tupleOf (ds := p.map eF) (ee_var 2 rfl) h.b_tuple) ea_nil))) (ee_var 1 rfl) (put_O hi) ?_ (by rw [ksN_len]; omega))
  refine sse_freezeD 6 frz_dB ?_
  refine sse_cons (s1_exprU (eu_meth 0 (t := ⟨nowS rs ps, past, ahead⟩) (t' := ⟨nowS (rs.set i (rgD p)) ps', past ++ [nowS rs ps], []⟩) (d := .none) (fe_become h) (gx.room.mono (by decide)) (ea_cons (ee_var 6 rfl) (ea_cons (ee_var 4 rfl) ea_nil)) ⟨rs.set i (rgD p), ps', hok, by rw [hlen]; exact hl2, hpl, by rw [hlen], rfl, rfl⟩) ?_)
  refine sse_ret (ef_ee (ef_selA "own" 7 (List.range rs.length) (fun j : Nat => PyData.int (j : Int)) (fun j => !decide (ps'.getD j [] = ps.getD j [])) (fun j : Nat => PyData.int (j : Int)) rfl nd (ei_is (ei_list (ee_dsorted (ee_var 3 rfl) (ksN_sorted _) (by rw [ksN_len]; omega) rfl h.b_sorted)) (by rw [ksN, List.map_map]; rfl)) (blkOk_by (own := [("own", 7)]) (N := ["self", "number", "poly", "rows", "given", "polys", "later", "own"]) (sc := defScope (inClass (top 37) 5)) (by decide +kernel)) (fun _ _ _ _ _ => pg_name (i := 7) nd rfl (Or.inl rfl)) (fun es z => nomatch z) (fun j hj s1 H1 C1 cl1 fp1 => ?_) (fun j hj hp2 s1 H1 C1 cl1 fp1 => ee_var 7) (by rw [List.length_range]; omega))) ⟨rfl, rfl⟩
  have hj : j < rs.length := List.mem_range.mp hj
  have e1 : ps'[j]? = some (ps'.getD j []) := by rw [List.getD_eq_getElem?_getD, List.getElem?_eq_getElem (by omega)]; rfl
  have e2 : ps[j]? = some (ps.getD j []) := by rw [List.getD_eq_getElem?_getD, List.getElem?_eq_getElem (by omega)]; rfl
  exact et_cmp (ee_dgetI gx.blk (ee_ix (d := dcD (ksN (rs.set i (rgD p)).length) (ps'.map eP)) (ee_nowO 0 (now := nowS (rs.set i (rgD p)) ps') (past := past ++ [nowS rs ps]) (ahead := []) h.n_now) ee_int rfl) (ee_var 7) (lookI_N (d := eP (ps'.getD j [])) (by rw [hlen]; exact hj) (by rw [List.getElem?_map, e1]; rfl))) (ee_dgetI gx.blk (ee_var 5) (ee_var 7) (lookI_N (d := eP (ps.getD j [])) hj (by rw [List.getElem?_map, e2]; rfl))) (od_neC gx.blk) (nomark _)


/-! ### a new sheet -/
theorem sm_init : FnScope ["self"] ["self"] (defScope (inClass (top 37) 0)) := ⟨rfl, rfl, rfl, by decide +kernel, rfl, by decide +kernel, by decide +kernel⟩
theorem fi_init (h : Hd w K mg base) : FnI PR w K mg base 41 := by
  obtain ⟨f, fd, F, hm⟩ := h.m___init__
  refine ⟨⟨f, fd, ["self"], F.ok (CX := L2N.CX PR w) (k := 40) sm_init (fun vs H Q E hh => by obtain ⟨p, dx, rfl, _⟩ := hh; rfl) (fun cdv A outer s H vs Q E hr hh => ?_), hm, F.bindsN fun _ _ _ _ _ _ us hl => match us, hl with | [_], _ => rfl⟩, h.o_Sheet, h.g_Sheet⟩
  obtain ⟨p, dx, rfl, hp, hq⟩ := hh
  have cl := h.o_Sheet.cl
  refine ⟨_, pss_cons (ps_fld (pe_var (i := 0) rfl (Or.inl rfl) (by decide) (by decide)) (pe_tup (pa_cons pe_dnewK (pa_cons pe_int (pa_cons pe_dnewK pa_nil)))) rfl) (pss_cons (ps_fld (pe_var (i := 0) rfl (Or.inl rfl) (by decide) (by decide)) (pe_lst pa_nil) rfl) (pss_one (ps_fld (pe_var (i := 0) rfl (Or.inl rfl) (by decide) (by decide)) (pe_lst pa_nil) rfl))), ?_⟩
  refine fun p1 n1 => fun p2 n2 => ⟨Nat.le_of_lt (small1000 (show (3 : Nat) ≤ 1000 by decide)), fun p3 n3 => ?_⟩
  have e1 : p ≠ p1 := ne_of_none hp n1
  have m1 : upd H p1 (.dK []) p = some (.ins (He.ga K "Sheet") dx []) := by rw [upd_ne e1]; exact hp
  have e2 : p ≠ p2 := ne_of_none m1 n2
  have m2 : upd (upd H p1 (.dK [])) p2 (.dK []) p = some (.ins (He.ga K "Sheet") dx []) := by rw [upd_ne e2]; exact m1
  have e3 : p ≠ p3 := ne_of_none m2 n3
  have f12 : p1 ≠ p2 := ne_of_none upd_same n2
  have f13 : p1 ≠ p3 := ne_of_none (a := p1) (o := .dK []) (by rw [upd_ne f12, upd_same]) n3
  have f23 : p2 ≠ p3 := ne_of_none upd_same n3
  refine ⟨_, rfl, p, _, dx, _, rfl, by rw [upd_ne e3]; exact m2, cl, h.n_now, (by show (0 : Nat) < 1000; decide), ?_⟩
  refine ⟨Nat.zero_le _, fun pl npl => ?_⟩
  have e4 : p ≠ pl := ne_of_none upd_same npl
  refine ⟨_, rfl, p, _, dx, _, rfl, by rw [upd_ne e4]; exact upd_same, cl, h.n_past, (by show (1 : Nat) < 1000; decide), ?_⟩
  refine ⟨Nat.zero_le _, fun z nz => ?_⟩
  have e5 : p ≠ z := ne_of_none upd_same nz
  refine ⟨_, rfl, p, _, dx, _, rfl, by rw [upd_ne e5]; exact upd_same, cl, h.n_ahead, (by show (2 : Nat) < 1000; decide), ?_⟩
  have l1 : pl ≠ p1 := fun e => by
    subst e
    rw [upd_ne (Ne.symm e4), upd_ne f13, upd_ne f12, upd_same] at npl
    cases npl
  have l2 : pl ≠ p2 := fun e => by
    subst e
    rw [upd_ne (Ne.symm e4), upd_ne f23, upd_same] at npl
    cases npl
  have l3 : pl ≠ p3 := fun e => by
    subst e
    rw [upd_ne (Ne.symm e4), upd_same] at npl
    cases npl
  have nz' : z ≠ p ∧ z ≠ pl ∧ z ≠ p1 ∧ z ≠ p2 ∧ z ≠ p3 := by
    refine ⟨Ne.symm e5, fun e => ?_, fun e => ?_, fun e => ?_, fun e => ?_⟩
    · subst e
      rw [upd_ne (Ne.symm e5), upd_same] at nz
      cases nz
    · subst e
      rw [upd_ne (Ne.symm e5), upd_ne (Ne.symm l1), upd_ne (Ne.symm e5), upd_ne f13, upd_ne f12, upd_same] at nz
      cases nz
    · subst e
      rw [upd_ne (Ne.symm e5), upd_ne (Ne.symm l2), upd_ne (Ne.symm e5), upd_ne f23, upd_same] at nz
      cases nz
    · subst e
      rw [upd_ne (Ne.symm e5), upd_ne (Ne.symm l3), upd_ne (Ne.symm e5), upd_same] at nz
      cases nz
  obtain ⟨z0, z4, z1, z2, z3⟩ := nz'
  -- what is new
  have npl0 : H pl = none := by
    rw [upd_ne (Ne.symm e4), upd_ne l3, upd_ne l2, upd_ne l1] at npl
    exact npl
  have n20 : H p2 = none := by
    rw [upd_ne (Ne.symm f12)] at n2
    exact n2
  have n30 : H p3 = none := by
    rw [upd_ne (Ne.symm f23), upd_ne (Ne.symm f13)] at n3
    exact n3
  have nz0 : H z = none := by
    rw [upd_ne z0, upd_ne z4, upd_ne z0, upd_ne z3, upd_ne z2, upd_ne z1] at nz
    exact nz
  refine hq _ (.ref p3) pl (.ref z) e4 npl0 (fun a o ea => ?_) upd_same ?_ ?_ ?_
  · obtain ⟨q1, q2⟩ := off_some ea
    have qa : a ≠ p := q1
    rw [upd_ne qa, upd_ne (ne_of_none q2 nz0), upd_ne qa, upd_ne (ne_of_none q2 npl0), upd_ne qa, upd_ne (ne_of_none q2 n30), upd_ne (ne_of_none q2 n20), upd_ne (ne_of_none q2 n1)]
    exact q2
  · rw [upd_ne (Ne.symm e4), upd_ne (Ne.symm z4), upd_ne (Ne.symm e4), upd_same]
  · have out : ∀ a, H a = none → a ≠ p → a ≠ pl → ¬ (a = p ∨ a = pl ∨ H a ≠ none) := fun a h1 h2 h3 z => by
      rcases z with z | z | z
      · exact h2 z
      · exact h3 z
      · exact z h1
    refine .tup (.inl (.inl (off_of (out p3 n30 (Ne.symm e3) (Ne.symm l3)) ?_))) (.cons (dcD_of (ks := []) (vs := []) (off_of (out p1 n1 (Ne.symm e1) (Ne.symm l1)) ?_) rfl .nil) (.cons (.int 0) (.cons (dcD_of (ks := []) (vs := []) (off_of (out p2 n20 (Ne.symm e2) (Ne.symm l2)) ?_) rfl .nil) .nil)))
    · rw [upd_ne (Ne.symm e3), upd_ne (Ne.symm z3), upd_ne (Ne.symm e3), upd_ne (Ne.symm l3), upd_ne (Ne.symm e3), upd_same]
    · rw [upd_ne (Ne.symm e1), upd_ne (Ne.symm z1), upd_ne (Ne.symm e1), upd_ne (Ne.symm l1), upd_ne (Ne.symm e1), upd_ne f13, upd_ne f12, upd_same]
      rfl
    · rw [upd_ne (Ne.symm e2), upd_ne (Ne.symm z2), upd_ne (Ne.symm e2), upd_ne (Ne.symm l2), upd_ne (Ne.symm e2), upd_ne f23, upd_same]
      rfl
  · refine .lst (.inl (off_of (fun zz => ?_) (by rw [upd_ne z0, upd_same]))) .nil
    rcases zz with zz | zz | zz
    · exact z0 zz
    · exact z4 zz
    · exact zz nz0


theorem rangeD_get {n i : Nat} {d : D} (h : (rangeD 0 n)[i]? = some d) : i < n ∧ d = .int (i : Nat) := by
  have hi : i < n := by
    have := (List.getElem?_eq_some_iff.mp h).1
    simpa [rangeD] using this
  refine ⟨hi, ?_⟩
  unfold rangeD at h
  rw [List.getElem?_map, List.getElem?_range hi] at h
  rw [← Option.some.inj h]
  show PyData.int (0 + (i : Nat)) = _
  rw [Int.zero_add]
/-! ### the law's polynomials -/
theorem trim_drop {q : Poly} (h0 : q ≠ []) (h : coef q (q.length - 1) = 0) : trim q.dropLast = trim q := trim_ext fun i => by
  have hl : 0 < q.length := List.length_pos_iff.mpr h0
  by_cases hi : i < q.length - 1
  · rw [coef_in (by rw [List.length_dropLast]; exact hi), coef_in (by omega), List.getElem_dropLast]
  · rw [coef_out (by rw [List.length_dropLast]; omega)]
    by_cases e : i = q.length - 1
    · rw [e, h]
    · rw [coef_out (by omega)]
def fracU (m : Int) : Nat := ([1, 1, 1, 2, 3] : List Nat).getD (m / 16 % 5).toNat 1
def fracZ (m : Int) : Rat := mkRat (m % 13 - 6) (fracU m)
theorem fracU_in (m : Int) : 0 < fracU m ∧ fracU m ≤ 3 ∧ atI (([1, 1, 1, 2, 3] : List Int).map PyData.int) (m / 16 % 5) = some (.int (fracU m : Nat)) := by
  have h1 : 0 ≤ m / 16 % 5 := Int.emod_nonneg _ (by decide)
  have h2 : m / 16 % 5 < 5 := Int.emod_lt_of_pos _ (by decide)
  unfold fracU
  generalize m / 16 % 5 = j at *
  obtain ⟨i, rfl⟩ := Int.eq_ofNat_of_zero_le h1
  match i, h2 with
  | 0, _ => exact ⟨by decide, by decide, rfl⟩
  | 1, _ => exact ⟨by decide, by decide, rfl⟩
  | 2, _ => exact ⟨by decide, by decide, rfl⟩
  | 3, _ => exact ⟨by decide, by decide, rfl⟩
  | 4, _ => exact ⟨by decide, by decide, rfl⟩
  | n + 5, h => exact absurd h (by omega)
theorem rz_frac (m : Int) : Rz 4 (fracZ m) := by
  have h1 := Int.emod_nonneg m (show (13 : Int) ≠ 0 by decide)
  have h2 := Int.emod_lt_of_pos m (show (0 : Int) < 13 by decide)
  have h3 := fracU_in m
  exact Rz.mk (by omega) (by omega) h3.1
def vFracZ (ds : List D) (d : D) : Prop := ∃ m : Int, ds = [.int m] ∧ d = eF (fracZ m)
def polyAt (m : Int) (j : Nat) : Rat := if drawnZ m j % 4 = 0 then 0 else fracZ (drawnZ m j / 4)
def polyZ (m t : Int) : Poly := trim ((List.range (m % (t + 1)).toNat).map (polyAt m))
theorem polyZ_len (m : Int) {t : Int} (h : 0 ≤ t) : (polyZ m t).length ≤ t.toNat := by
  refine Nat.le_trans (trim_len _) ?_
  rw [List.length_map, List.length_range]
  have := Int.emod_lt_of_pos m (show 0 < t + 1 by omega)
  omega
theorem rz_polyAt (m : Int) (j : Nat) : Rz 4 (polyAt m j) := by
  unfold polyAt
  split
  · exact rz_zero.mono (by decide)
  · exact rz_frac _
theorem pz_polyZ (m t : Int) : PZ 4 (polyZ m t) := PZ.trim fun a ha => by
  obtain ⟨j, _, rfl⟩ := List.mem_map.mp ha
  exact rz_polyAt m j
theorem own_polyZ (m t : Int) : Own (polyZ m t) := own_trim _
def vPolyZ (ds : List D) (d : D) : Prop := ∃ m t : Int, ds = [.int m, .int t] ∧ m.natAbs < 2 ^ 1000 ∧ 0 ≤ t ∧ t ≤ 100 ∧ d = eP (polyZ m t)


theorem od_pow {X : Cx} {i j : Int} (h : CPow i j) : OpD X (binaryOp .Pow) (.int i) (.int j) (.int (i ^ j.toNat)) := opd_I op_pow h fun _ => .int _
theorem isPo_snoc0 (p : Poly) : isPo (eP (p ++ [0])) = false := by
  rw [isPo_eP]
  have : decide (Own (p ++ [0])) = false := decide_eq_false fun z => by
    rcases own_iff.mp z with h | h
    · simp at h
    · refine h ?_
      rw [List.length_append, coef_in (by simp)]
      simp
  rw [this, Bool.and_false]
def ones (n : Nat) : Poly := List.replicate n 1
theorem own_ones (n : Nat) : Own (ones n) := own_iff.mpr (by
  cases n with
  | zero => exact .inl rfl
  | succ n =>
    refine .inr ?_
    unfold ones
    rw [coef_in (by simp), List.getElem_replicate]
    decide)
theorem pz_ones (n : Nat) : PZ 4 (ones n) := fun q hq => by
  rw [(List.mem_replicate.mp hq).2]
  exact rz_one.mono (by decide)
theorem ones_len (n : Nat) : (ones n).length = n := List.length_replicate
theorem cz_polyZ (m t : Int) : CZ 6 (polyZ m t) := by
  have hf : ∀ z : Int, ∃ k : Int, k.natAbs < 2 ^ 6 ∧ fracZ z * ((6 : Int) : Rat) = (k : Rat) := fun z => by
    have h1 := Int.emod_nonneg z (show (13 : Int) ≠ 0 by decide)
    have h2 := Int.emod_lt_of_pos z (show (0 : Int) < 13 by decide)
    obtain ⟨u0, u1, _⟩ := fracU_in z
    unfold fracZ
    have hy1 : -6 ≤ z % 13 - 6 ∧ z % 13 - 6 ≤ 6 := by omega
    generalize z % 13 - 6 = y at *
    generalize fracU z = u at *
    have hu : u = 1 ∨ u = 2 ∨ u = 3 := by omega
    have e : mkRat y u = (y : Rat) / (u : Rat) := by rw [← Rat.divInt_ofNat, Rat.divInt_eq_div, Rat.intCast_natCast]
    rw [e]
    rcases hu with rfl | rfl | rfl
    · exact ⟨y * 6, by omega, by rw [Rat.intCast_mul]; grind⟩
    · exact ⟨y * 3, by omega, by rw [Rat.intCast_mul]; grind⟩
    · exact ⟨y * 2, by omega, by rw [Rat.intCast_mul]; grind⟩
  refine ⟨6, by decide, by decide, fun i => ?_⟩
  unfold polyZ
  rw [coef_trim, coef_map]
  have hz : ∃ k : Int, k.natAbs < 2 ^ 6 ∧ (0 : Rat) * ((6 : Int) : Rat) = (k : Rat) := ⟨0, by decide, by rw [Rat.zero_mul]; rfl⟩
  split
  · unfold polyAt
    split
    · exact hz
    · exact hf _
  · exact hz


theorem sc__law_word : FnScope ["e", "flags", "flag"] ["e"] (defScope (top 41)) := ⟨rfl, rfl, rfl, by decide +kernel, rfl, by decide +kernel, by decide +kernel⟩
theorem fn_word_BadPoly (h : Hd w K mg base) : FnW PR w K mg base "_law_word" 42 (He.ga K "BadPoly") "BadPoly" := by
  obtain ⟨f, fd, F, hm⟩ := h.d__law_word
  refine fnw_mk F sc__law_word hm (F.bindsN fun _ _ _ _ _ _ us hl => match us, hl with | [_], _ => rfl) rfl (fun X p cdv A outer s H hX hr hot hp hz hf _ _ => ?_)
  subst hX
  have nd := sc__law_word.nd
  refine ss_cons (s1_set 1 (ee_lst (ea_cons (ee_isP 0 (cl_own h.e_BadPoly.g) h.c_BadPoly hp hz hf h.i_BadPoly_BadPoly h.b_isinstance) (ea_cons (ee_isP 0 (cl_own h.e_NoWay.g) h.c_BadPoly hp hz hf h.i_BadPoly_NoWay h.b_isinstance) (ea_cons (ee_isP 0 (cl_own h.e_BadStretch.g) h.c_BadPoly hp hz hf h.i_BadPoly_BadStretch h.b_isinstance) (ea_cons (ee_isP 0 (cl_own h.e_BadPoints.g) h.c_BadPoly hp hz hf h.i_BadPoly_BadPoints h.b_isinstance) ea_nil))))) ?_ nd)
  refine ss_cons (s1_set 1 (ee_is (ef_ee (ef_cat (ee_var 1) (ee_lst (ea_cons (ee_isP 0 (cl_own h.e_BadForm.g) h.c_BadPoly hp hz hf h.i_BadPoly_BadForm h.b_isinstance) (ea_cons (ee_isP 0 (cl_own h.e_BadRow.g) h.c_BadPoly hp hz hf h.i_BadPoly_BadRow h.b_isinstance) (ea_cons (ee_isP 0 (cl_own h.e_Nothing.g) h.c_BadPoly hp hz hf h.i_BadPoly_Nothing h.b_isinstance) ea_nil)))) (Nat.le_of_ble_eq_true rfl))) (show _ = PyData.list ([true, false, false, false, false, false, false].map .bool) from rfl)) ?_ nd)
  refine ss_cons (s1_if (et_is (ew_et (ew_or (et_cmp (ee_sumH (ns := [1, 0, 0, 0, 0, 0, 0]) (ee_is (ef_ee (ef_mapH "flag" 2 (fun d => match d with | .bool c => .int (if c then 1 else 0) | _ => .none) hot hp nd (ee_var 1) (blkOk_by (own := [("flag", 2)]) (N := ["e", "flags", "flag"]) (sc := defScope (top 41)) (by decide +kernel)) (fun _ _ _ _ _ => pg_name (i := 2) nd rfl (Or.inl rfl)) (fun es z => nomatch z) (fun d hd s1 H1 C1 cl1 fp1 => ?_) (Nat.le_of_ble_eq_true rfl))) rfl) ⟨p, hot, hp⟩ h.b_sum) ee_int (od_neH hr) (nomark _)) (fun _ => ew_or1 (et_not (et_val (ee_isP 0 (cl_ty h.b_ValueError (show bootBuiltins "ValueError" = some (.type "ValueError") by decide +kernel)) h.c_BadPoly hp hz hf h.v_BadPoly h.b_isinstance)))))) (b' := false) rfl) (fun z => nomatch z) (fun _ => ss_nil ?_))
  · obtain ⟨c, _, rfl⟩ := List.mem_map.mp hd
    exact ee_intB (ee_var 2) h.b_int
  · exact ss_one (s1_ret (ee_ix (ee_lst (ea_cons ee_str (ea_cons ee_str (ea_cons ee_str (ea_cons ee_str (ea_cons ee_str (ea_cons ee_str (ea_cons ee_str ea_nil)))))))) (ee_indexT 0 (ee_var 1) ee_bl rfl (fun m hm => by match m, hm with | m, hm => exact absurd hm (Nat.not_lt_zero m))) rfl) rfl)
theorem fn_word_NoWay (h : Hd w K mg base) : FnW PR w K mg base "_law_word" 42 (He.ga K "NoWay") "NoWay" := by
  obtain ⟨f, fd, F, hm⟩ := h.d__law_word
  refine fnw_mk F sc__law_word hm (F.bindsN fun _ _ _ _ _ _ us hl => match us, hl with | [_], _ => rfl) rfl (fun X p cdv A outer s H hX hr hot hp hz hf _ _ => ?_)
  subst hX
  have nd := sc__law_word.nd
  refine ss_cons (s1_set 1 (ee_lst (ea_cons (ee_isP 0 (cl_own h.e_BadPoly.g) h.c_NoWay hp hz hf h.i_NoWay_BadPoly h.b_isinstance) (ea_cons (ee_isP 0 (cl_own h.e_NoWay.g) h.c_NoWay hp hz hf h.i_NoWay_NoWay h.b_isinstance) (ea_cons (ee_isP 0 (cl_own h.e_BadStretch.g) h.c_NoWay hp hz hf h.i_NoWay_BadStretch h.b_isinstance) (ea_cons (ee_isP 0 (cl_own h.e_BadPoints.g) h.c_NoWay hp hz hf h.i_NoWay_BadPoints h.b_isinstance) ea_nil))))) ?_ nd)
  refine ss_cons (s1_set 1 (ee_is (ef_ee (ef_cat (ee_var 1) (ee_lst (ea_cons (ee_isP 0 (cl_own h.e_BadForm.g) h.c_NoWay hp hz hf h.i_NoWay_BadForm h.b_isinstance) (ea_cons (ee_isP 0 (cl_own h.e_BadRow.g) h.c_NoWay hp hz hf h.i_NoWay_BadRow h.b_isinstance) (ea_cons (ee_isP 0 (cl_own h.e_Nothing.g) h.c_NoWay hp hz hf h.i_NoWay_Nothing h.b_isinstance) ea_nil)))) (Nat.le_of_ble_eq_true rfl))) (show _ = PyData.list ([false, true, false, false, false, false, false].map .bool) from rfl)) ?_ nd)
  refine ss_cons (s1_if (et_is (ew_et (ew_or (et_cmp (ee_sumH (ns := [0, 1, 0, 0, 0, 0, 0]) (ee_is (ef_ee (ef_mapH "flag" 2 (fun d => match d with | .bool c => .int (if c then 1 else 0) | _ => .none) hot hp nd (ee_var 1) (blkOk_by (own := [("flag", 2)]) (N := ["e", "flags", "flag"]) (sc := defScope (top 41)) (by decide +kernel)) (fun _ _ _ _ _ => pg_name (i := 2) nd rfl (Or.inl rfl)) (fun es z => nomatch z) (fun d hd s1 H1 C1 cl1 fp1 => ?_) (Nat.le_of_ble_eq_true rfl))) rfl) ⟨p, hot, hp⟩ h.b_sum) ee_int (od_neH hr) (nomark _)) (fun _ => ew_or1 (et_not (et_val (ee_isP 0 (cl_ty h.b_ValueError (show bootBuiltins "ValueError" = some (.type "ValueError") by decide +kernel)) h.c_NoWay hp hz hf h.v_NoWay h.b_isinstance)))))) (b' := false) rfl) (fun z => nomatch z) (fun _ => ss_nil ?_))
  · obtain ⟨c, _, rfl⟩ := List.mem_map.mp hd
    exact ee_intB (ee_var 2) h.b_int
  · exact ss_one (s1_ret (ee_ix (ee_lst (ea_cons ee_str (ea_cons ee_str (ea_cons ee_str (ea_cons ee_str (ea_cons ee_str (ea_cons ee_str (ea_cons ee_str ea_nil)))))))) (ee_indexT 1 (ee_var 1) ee_bl rfl (fun m hm => by match m, hm with | 0, _ => exact rfl)) rfl) rfl)
theorem fn_word_BadStretch (h : Hd w K mg base) : FnW PR w K mg base "_law_word" 42 (He.ga K "BadStretch") "BadStretch" := by
  obtain ⟨f, fd, F, hm⟩ := h.d__law_word
  refine fnw_mk F sc__law_word hm (F.bindsN fun _ _ _ _ _ _ us hl => match us, hl with | [_], _ => rfl) rfl (fun X p cdv A outer s H hX hr hot hp hz hf _ _ => ?_)
  subst hX
  have nd := sc__law_word.nd
  refine ss_cons (s1_set 1 (ee_lst (ea_cons (ee_isP 0 (cl_own h.e_BadPoly.g) h.c_BadStretch hp hz hf h.i_BadStretch_BadPoly h.b_isinstance) (ea_cons (ee_isP 0 (cl_own h.e_NoWay.g) h.c_BadStretch hp hz hf h.i_BadStretch_NoWay h.b_isinstance) (ea_cons (ee_isP 0 (cl_own h.e_BadStretch.g) h.c_BadStretch hp hz hf h.i_BadStretch_BadStretch h.b_isinstance) (ea_cons (ee_isP 0 (cl_own h.e_BadPoints.g) h.c_BadStretch hp hz hf h.i_BadStretch_BadPoints h.b_isinstance) ea_nil))))) ?_ nd)
  refine ss_cons (s1_set 1 (ee_is (ef_ee (ef_cat (ee_var 1) (ee_lst (ea_cons (ee_isP 0 (cl_own h.e_BadForm.g) h.c_BadStretch hp hz hf h.i_BadStretch_BadForm h.b_isinstance) (ea_cons (ee_isP 0 (cl_own h.e_BadRow.g) h.c_BadStretch hp hz hf h.i_BadStretch_BadRow h.b_isinstance) (ea_cons (ee_isP 0 (cl_own h.e_Nothing.g) h.c_BadStretch hp hz hf h.i_BadStretch_Nothing h.b_isinstance) ea_nil)))) (Nat.le_of_ble_eq_true rfl))) (show _ = PyData.list ([false, false, true, false, false, false, false].map .bool) from rfl)) ?_ nd)
  refine ss_cons (s1_if (et_is (ew_et (ew_or (et_cmp (ee_sumH (ns := [0, 0, 1, 0, 0, 0, 0]) (ee_is (ef_ee (ef_mapH "flag" 2 (fun d => match d with | .bool c => .int (if c then 1 else 0) | _ => .none) hot hp nd (ee_var 1) (blkOk_by (own := [("flag", 2)]) (N := ["e", "flags", "flag"]) (sc := defScope (top 41)) (by decide +kernel)) (fun _ _ _ _ _ => pg_name (i := 2) nd rfl (Or.inl rfl)) (fun es z => nomatch z) (fun d hd s1 H1 C1 cl1 fp1 => ?_) (Nat.le_of_ble_eq_true rfl))) rfl) ⟨p, hot, hp⟩ h.b_sum) ee_int (od_neH hr) (nomark _)) (fun _ => ew_or1 (et_not (et_val (ee_isP 0 (cl_ty h.b_ValueError (show bootBuiltins "ValueError" = some (.type "ValueError") by decide +kernel)) h.c_BadStretch hp hz hf h.v_BadStretch h.b_isinstance)))))) (b' := false) rfl) (fun z => nomatch z) (fun _ => ss_nil ?_))
  · obtain ⟨c, _, rfl⟩ := List.mem_map.mp hd
    exact ee_intB (ee_var 2) h.b_int
  · exact ss_one (s1_ret (ee_ix (ee_lst (ea_cons ee_str (ea_cons ee_str (ea_cons ee_str (ea_cons ee_str (ea_cons ee_str (ea_cons ee_str (ea_cons ee_str ea_nil)))))))) (ee_indexT 2 (ee_var 1) ee_bl rfl (fun m hm => by match m, hm with | 0, _ => exact rfl | 1, _ => exact rfl)) rfl) rfl)
theorem fn_word_BadForm (h : Hd w K mg base) : FnW PR w K mg base "_law_word" 42 (He.ga K "BadForm") "BadForm" := by
  obtain ⟨f, fd, F, hm⟩ := h.d__law_word
  refine fnw_mk F sc__law_word hm (F.bindsN fun _ _ _ _ _ _ us hl => match us, hl with | [_], _ => rfl) rfl (fun X p cdv A outer s H hX hr hot hp hz hf _ _ => ?_)
  subst hX
  have nd := sc__law_word.nd
  refine ss_cons (s1_set 1 (ee_lst (ea_cons (ee_isP 0 (cl_own h.e_BadPoly.g) h.c_BadForm hp hz hf h.i_BadForm_BadPoly h.b_isinstance) (ea_cons (ee_isP 0 (cl_own h.e_NoWay.g) h.c_BadForm hp hz hf h.i_BadForm_NoWay h.b_isinstance) (ea_cons (ee_isP 0 (cl_own h.e_BadStretch.g) h.c_BadForm hp hz hf h.i_BadForm_BadStretch h.b_isinstance) (ea_cons (ee_isP 0 (cl_own h.e_BadPoints.g) h.c_BadForm hp hz hf h.i_BadForm_BadPoints h.b_isinstance) ea_nil))))) ?_ nd)
  refine ss_cons (s1_set 1 (ee_is (ef_ee (ef_cat (ee_var 1) (ee_lst (ea_cons (ee_isP 0 (cl_own h.e_BadForm.g) h.c_BadForm hp hz hf h.i_BadForm_BadForm h.b_isinstance) (ea_cons (ee_isP 0 (cl_own h.e_BadRow.g) h.c_BadForm hp hz hf h.i_BadForm_BadRow h.b_isinstance) (ea_cons (ee_isP 0 (cl_own h.e_Nothing.g) h.c_BadForm hp hz hf h.i_BadForm_Nothing h.b_isinstance) ea_nil)))) (Nat.le_of_ble_eq_true rfl))) (show _ = PyData.list ([false, false, false, false, true, false, false].map .bool) from rfl)) ?_ nd)
  refine ss_cons (s1_if (et_is (ew_et (ew_or (et_cmp (ee_sumH (ns := [0, 0, 0, 0, 1, 0, 0]) (ee_is (ef_ee (ef_mapH "flag" 2 (fun d => match d with | .bool c => .int (if c then 1 else 0) | _ => .none) hot hp nd (ee_var 1) (blkOk_by (own := [("flag", 2)]) (N := ["e", "flags", "flag"]) (sc := defScope (top 41)) (by decide +kernel)) (fun _ _ _ _ _ => pg_name (i := 2) nd rfl (Or.inl rfl)) (fun es z => nomatch z) (fun d hd s1 H1 C1 cl1 fp1 => ?_) (Nat.le_of_ble_eq_true rfl))) rfl) ⟨p, hot, hp⟩ h.b_sum) ee_int (od_neH hr) (nomark _)) (fun _ => ew_or1 (et_not (et_val (ee_isP 0 (cl_ty h.b_ValueError (show bootBuiltins "ValueError" = some (.type "ValueError") by decide +kernel)) h.c_BadForm hp hz hf h.v_BadForm h.b_isinstance)))))) (b' := false) rfl) (fun z => nomatch z) (fun _ => ss_nil ?_))
  · obtain ⟨c, _, rfl⟩ := List.mem_map.mp hd
    exact ee_intB (ee_var 2) h.b_int
  · exact ss_one (s1_ret (ee_ix (ee_lst (ea_cons ee_str (ea_cons ee_str (ea_cons ee_str (ea_cons ee_str (ea_cons ee_str (ea_cons ee_str (ea_cons ee_str ea_nil)))))))) (ee_indexT 4 (ee_var 1) ee_bl rfl (fun m hm => by match m, hm with | 0, _ => exact rfl | 1, _ => exact rfl | 2, _ => exact rfl | 3, _ => exact rfl)) rfl) rfl)
theorem fn_word_BadPoints (h : Hd w K mg base) : FnW PR w K mg base "_law_word" 42 (He.ga K "BadPoints") "BadPoints" := by
  obtain ⟨f, fd, F, hm⟩ := h.d__law_word
  refine fnw_mk F sc__law_word hm (F.bindsN fun _ _ _ _ _ _ us hl => match us, hl with | [_], _ => rfl) rfl (fun X p cdv A outer s H hX hr hot hp hz hf _ _ => ?_)
  subst hX
  have nd := sc__law_word.nd
  refine ss_cons (s1_set 1 (ee_lst (ea_cons (ee_isP 0 (cl_own h.e_BadPoly.g) h.c_BadPoints hp hz hf h.i_BadPoints_BadPoly h.b_isinstance) (ea_cons (ee_isP 0 (cl_own h.e_NoWay.g) h.c_BadPoints hp hz hf h.i_BadPoints_NoWay h.b_isinstance) (ea_cons (ee_isP 0 (cl_own h.e_BadStretch.g) h.c_BadPoints hp hz hf h.i_BadPoints_BadStretch h.b_isinstance) (ea_cons (ee_isP 0 (cl_own h.e_BadPoints.g) h.c_BadPoints hp hz hf h.i_BadPoints_BadPoints h.b_isinstance) ea_nil))))) ?_ nd)
  refine ss_cons (s1_set 1 (ee_is (ef_ee (ef_cat (ee_var 1) (ee_lst (ea_cons (ee_isP 0 (cl_own h.e_BadForm.g) h.c_BadPoints hp hz hf h.i_BadPoints_BadForm h.b_isinstance) (ea_cons (ee_isP 0 (cl_own h.e_BadRow.g) h.c_BadPoints hp hz hf h.i_BadPoints_BadRow h.b_isinstance) (ea_cons (ee_isP 0 (cl_own h.e_Nothing.g) h.c_BadPoints hp hz hf h.i_BadPoints_Nothing h.b_isinstance) ea_nil)))) (Nat.le_of_ble_eq_true rfl))) (show _ = PyData.list ([false, false, false, true, false, false, false].map .bool) from rfl)) ?_ nd)
  refine ss_cons (s1_if (et_is (ew_et (ew_or (et_cmp (ee_sumH (ns := [0, 0, 0, 1, 0, 0, 0]) (ee_is (ef_ee (ef_mapH "flag" 2 (fun d => match d with | .bool c => .int (if c then 1 else 0) | _ => .none) hot hp nd (ee_var 1) (blkOk_by (own := [("flag", 2)]) (N := ["e", "flags", "flag"]) (sc := defScope (top 41)) (by decide +kernel)) (fun _ _ _ _ _ => pg_name (i := 2) nd rfl (Or.inl rfl)) (fun es z => nomatch z) (fun d hd s1 H1 C1 cl1 fp1 => ?_) (Nat.le_of_ble_eq_true rfl))) rfl) ⟨p, hot, hp⟩ h.b_sum) ee_int (od_neH hr) (nomark _)) (fun _ => ew_or1 (et_not (et_val (ee_isP 0 (cl_ty h.b_ValueError (show bootBuiltins "ValueError" = some (.type "ValueError") by decide +kernel)) h.c_BadPoints hp hz hf h.v_BadPoints h.b_isinstance)))))) (b' := false) rfl) (fun z => nomatch z) (fun _ => ss_nil ?_))
  · obtain ⟨c, _, rfl⟩ := List.mem_map.mp hd
    exact ee_intB (ee_var 2) h.b_int
  · exact ss_one (s1_ret (ee_ix (ee_lst (ea_cons ee_str (ea_cons ee_str (ea_cons ee_str (ea_cons ee_str (ea_cons ee_str (ea_cons ee_str (ea_cons ee_str ea_nil)))))))) (ee_indexT 3 (ee_var 1) ee_bl rfl (fun m hm => by match m, hm with | 0, _ => exact rfl | 1, _ => exact rfl | 2, _ => exact rfl)) rfl) rfl)
theorem fn_word_BadRow (h : Hd w K mg base) : FnW PR w K mg base "_law_word" 42 (He.ga K "BadRow") "BadRow" := by
  obtain ⟨f, fd, F, hm⟩ := h.d__law_word
  refine fnw_mk F sc__law_word hm (F.bindsN fun _ _ _ _ _ _ us hl => match us, hl with | [_], _ => rfl) rfl (fun X p cdv A outer s H hX hr hot hp hz hf _ _ => ?_)
  subst hX
  have nd := sc__law_word.nd
  refine ss_cons (s1_set 1 (ee_lst (ea_cons (ee_isP 0 (cl_own h.e_BadPoly.g) h.c_BadRow hp hz hf h.i_BadRow_BadPoly h.b_isinstance) (ea_cons (ee_isP 0 (cl_own h.e_NoWay.g) h.c_BadRow hp hz hf h.i_BadRow_NoWay h.b_isinstance) (ea_cons (ee_isP 0 (cl_own h.e_BadStretch.g) h.c_BadRow hp hz hf h.i_BadRow_BadStretch h.b_isinstance) (ea_cons (ee_isP 0 (cl_own h.e_BadPoints.g) h.c_BadRow hp hz hf h.i_BadRow_BadPoints h.b_isinstance) ea_nil))))) ?_ nd)
  refine ss_cons (s1_set 1 (ee_is (ef_ee (ef_cat (ee_var 1) (ee_lst (ea_cons (ee_isP 0 (cl_own h.e_BadForm.g) h.c_BadRow hp hz hf h.i_BadRow_BadForm h.b_isinstance) (ea_cons (ee_isP 0 (cl_own h.e_BadRow.g) h.c_BadRow hp hz hf h.i_BadRow_BadRow h.b_isinstance) (ea_cons (ee_isP 0 (cl_own h.e_Nothing.g) h.c_BadRow hp hz hf h.i_BadRow_Nothing h.b_isinstance) ea_nil)))) (Nat.le_of_ble_eq_true rfl))) (show _ = PyData.list ([false, false, false, false, false, true, false].map .bool) from rfl)) ?_ nd)
  refine ss_cons (s1_if (et_is (ew_et (ew_or (et_cmp (ee_sumH (ns := [0, 0, 0, 0, 0, 1, 0]) (ee_is (ef_ee (ef_mapH "flag" 2 (fun d => match d with | .bool c => .int (if c then 1 else 0) | _ => .none) hot hp nd (ee_var 1) (blkOk_by (own := [("flag", 2)]) (N := ["e", "flags", "flag"]) (sc := defScope (top 41)) (by decide +kernel)) (fun _ _ _ _ _ => pg_name (i := 2) nd rfl (Or.inl rfl)) (fun es z => nomatch z) (fun d hd s1 H1 C1 cl1 fp1 => ?_) (Nat.le_of_ble_eq_true rfl))) rfl) ⟨p, hot, hp⟩ h.b_sum) ee_int (od_neH hr) (nomark _)) (fun _ => ew_or1 (et_not (et_val (ee_isP 0 (cl_ty h.b_ValueError (show bootBuiltins "ValueError" = some (.type "ValueError") by decide +kernel)) h.c_BadRow hp hz hf h.v_BadRow h.b_isinstance)))))) (b' := false) rfl) (fun z => nomatch z) (fun _ => ss_nil ?_))
  · obtain ⟨c, _, rfl⟩ := List.mem_map.mp hd
    exact ee_intB (ee_var 2) h.b_int
  · exact ss_one (s1_ret (ee_ix (ee_lst (ea_cons ee_str (ea_cons ee_str (ea_cons ee_str (ea_cons ee_str (ea_cons ee_str (ea_cons ee_str (ea_cons ee_str ea_nil)))))))) (ee_indexT 5 (ee_var 1) ee_bl rfl (fun m hm => by match m, hm with | 0, _ => exact rfl | 1, _ => exact rfl | 2, _ => exact rfl | 3, _ => exact rfl | 4, _ => exact rfl)) rfl) rfl)
theorem fn_word_Nothing (h : Hd w K mg base) : FnW PR w K mg base "_law_word" 42 (He.ga K "Nothing") "Nothing" := by
  obtain ⟨f, fd, F, hm⟩ := h.d__law_word
  refine fnw_mk F sc__law_word hm (F.bindsN fun _ _ _ _ _ _ us hl => match us, hl with | [_], _ => rfl) rfl (fun X p cdv A outer s H hX hr hot hp hz hf _ _ => ?_)
  subst hX
  have nd := sc__law_word.nd
  refine ss_cons (s1_set 1 (ee_lst (ea_cons (ee_isP 0 (cl_own h.e_BadPoly.g) h.c_Nothing hp hz hf h.i_Nothing_BadPoly h.b_isinstance) (ea_cons (ee_isP 0 (cl_own h.e_NoWay.g) h.c_Nothing hp hz hf h.i_Nothing_NoWay h.b_isinstance) (ea_cons (ee_isP 0 (cl_own h.e_BadStretch.g) h.c_Nothing hp hz hf h.i_Nothing_BadStretch h.b_isinstance) (ea_cons (ee_isP 0 (cl_own h.e_BadPoints.g) h.c_Nothing hp hz hf h.i_Nothing_BadPoints h.b_isinstance) ea_nil))))) ?_ nd)
  refine ss_cons (s1_set 1 (ee_is (ef_ee (ef_cat (ee_var 1) (ee_lst (ea_cons (ee_isP 0 (cl_own h.e_BadForm.g) h.c_Nothing hp hz hf h.i_Nothing_BadForm h.b_isinstance) (ea_cons (ee_isP 0 (cl_own h.e_BadRow.g) h.c_Nothing hp hz hf h.i_Nothing_BadRow h.b_isinstance) (ea_cons (ee_isP 0 (cl_own h.e_Nothing.g) h.c_Nothing hp hz hf h.i_Nothing_Nothing h.b_isinstance) ea_nil)))) (Nat.le_of_ble_eq_true rfl))) (show _ = PyData.list ([false, false, false, false, false, false, true].map .bool) from rfl)) ?_ nd)
  refine ss_cons (s1_if (et_is (ew_et (ew_or (et_cmp (ee_sumH (ns := [0, 0, 0, 0, 0, 0, 1]) (ee_is (ef_ee (ef_mapH "flag" 2 (fun d => match d with | .bool c => .int (if c then 1 else 0) | _ => .none) hot hp nd (ee_var 1) (blkOk_by (own := [("flag", 2)]) (N := ["e", "flags", "flag"]) (sc := defScope (top 41)) (by decide +kernel)) (fun _ _ _ _ _ => pg_name (i := 2) nd rfl (Or.inl rfl)) (fun es z => nomatch z) (fun d hd s1 H1 C1 cl1 fp1 => ?_) (Nat.le_of_ble_eq_true rfl))) rfl) ⟨p, hot, hp⟩ h.b_sum) ee_int (od_neH hr) (nomark _)) (fun _ => ew_or1 (et_not (et_val (ee_isP 0 (cl_ty h.b_ValueError (show bootBuiltins "ValueError" = some (.type "ValueError") by decide +kernel)) h.c_Nothing hp hz hf h.v_Nothing h.b_isinstance)))))) (b' := false) rfl) (fun z => nomatch z) (fun _ => ss_nil ?_))
  · obtain ⟨c, _, rfl⟩ := List.mem_map.mp hd
    exact ee_intB (ee_var 2) h.b_int
  · exact ss_one (s1_ret (ee_ix (ee_lst (ea_cons ee_str (ea_cons ee_str (ea_cons ee_str (ea_cons ee_str (ea_cons ee_str (ea_cons ee_str (ea_cons ee_str ea_nil)))))))) (ee_indexT 6 (ee_var 1) ee_bl rfl (fun m hm => by match m, hm with | 0, _ => exact rfl | 1, _ => exact rfl | 2, _ => exact rfl | 3, _ => exact rfl | 4, _ => exact rfl | 5, _ => exact rfl)) rfl) rfl)
theorem sc_law : FnScope ["script", "k", "more", "sheet", "poly", "row", "bad", "found", "j"] ["script"] (defScope (top 44)) := ⟨rfl, rfl, rfl, by decide +kernel, rfl, by decide +kernel, by decide +kernel⟩
abbrev lawX (w : World) (K : PySem.W.Frag) (mg : Str → Option Value) (base : Heap) (f : Addr) (cdv : Value) (A : Around) (outer : List Env) (s : Shared) (H : Hp) (E : XK) : Cx := cxOf (L2N.CX PR w) PR w K mg base ["script", "k", "more", "sheet", "poly", "row", "bad", "found", "j"] "law" (defScope (top 44)) f cdv A outer s H E
def lT (K : PySem.W.Frag) : List (Addr × Str) := [((He.cT K ("law", none)).2, (envOfC "law" (defScope (top 44)) 0 0 .none).qual ++ "<lambda>"), ((He.cT K ("_law_rows_bad", none)).2, (envOfC "_law_rows_bad" (defScope (top 43)) 0 0 .none).qual ++ "<lambda>")]
structure TBs (K : PySem.W.Frag) (mg : Str → Option Value) (base : Heap) : Prop where
  t_law : LamX.TabB base mg (He.cT K ("law", none)).1 (He.cT K ("law", none)).2
  t__law_rows_bad : LamX.TabB base mg (He.cT K ("_law_rows_bad", none)).1 (He.cT K ("_law_rows_bad", none)).2
  n_law__law_rows_bad : (He.cT K ("law", none)).2 ≠ (He.cT K ("_law_rows_bad", none)).2
  n__law_rows_bad_law : (He.cT K ("_law_rows_bad", none)).2 ≠ (He.cT K ("law", none)).2
theorem sc__law_told : FnScope ["deed", "e"] ["deed"] (defScope (top 42)) := ⟨rfl, rfl, rfl, by decide +kernel, rfl, by decide +kernel, by decide +kernel⟩
theorem tld_law (h : Hd w K mg base) (tb : TBs K mg base) {f : Addr} {cdv : Value} {A : Around} {outer : List Env} {s : Shared} {H : Hp} {E : XK} {k : Nat} (hcode : (cxOf (L2N.CX PR w) PR w K mg base ["script", "k", "more", "sheet", "poly", "row", "bad", "found", "j"] "law" (defScope (top 44)) f cdv A outer s H E).env.code = .ref (He.codeOf K ("law", none))) (hr : Room (k + 2) (cxOf (L2N.CX PR w) PR w K mg base ["script", "k", "more", "sheet", "poly", "row", "bad", "found", "j"] "law" (defScope (top 44)) f cdv A outer s H E).A) (hkw : 42 ≤ k + 1) :
    Tld (cxOf (L2N.CX PR w) PR w K mg base ["script", "k", "more", "sheet", "poly", "row", "bad", "found", "j"] "law" (defScope (top 44)) f cdv A outer s H E) (lT K) k 42 (He.ga K "NoughtError") := by
  obtain ⟨g, fd, F, hm⟩ := h.d__law_told
  intro params body scope p lpos pos L hdef hbind
  exact pe_told (X := (cxOf (L2N.CX PR w) PR w K mg base ["script", "k", "more", "sheet", "poly", "row", "bad", "found", "j"] "law" (defScope (top 44)) f cdv A outer s H E)) (kw := 42) (st := top 42) F rfl rfl hm (F.bindsN fun _ _ _ _ _ _ us hl => match us, hl with | [_], _ => rfl) sc__law_told (Or.inl rfl) rfl rfl h.e_NoughtError.g rfl tb.t_law hcode (List.Mem.head _) (fun p hp e => by
    simp only [lT, List.mem_cons, List.not_mem_nil, or_false] at hp
    rcases hp with rfl | rfl
    · exact rfl
    · exact absurd e tb.n__law_rows_bad_law) hr hkw L hdef hbind (by decide) (by decide) (by decide) (by decide) (by decide) (by decide) (by decide)
theorem tld__law_rows_bad (h : Hd w K mg base) (tb : TBs K mg base) {f : Addr} {cdv : Value} {A : Around} {outer : List Env} {s : Shared} {H : Hp} {E : XK} {k : Nat} (hcode : (cxOf (L2N.CX PR w) PR w K mg base ["sheet", "some", "bad"] "_law_rows_bad" (defScope (top 43)) f cdv A outer s H E).env.code = .ref (He.codeOf K ("_law_rows_bad", none))) (hr : Room (k + 2) (cxOf (L2N.CX PR w) PR w K mg base ["sheet", "some", "bad"] "_law_rows_bad" (defScope (top 43)) f cdv A outer s H E).A) (hkw : 42 ≤ k + 1) :
    Tld (cxOf (L2N.CX PR w) PR w K mg base ["sheet", "some", "bad"] "_law_rows_bad" (defScope (top 43)) f cdv A outer s H E) (lT K) k 42 (He.ga K "NoughtError") := by
  obtain ⟨g, fd, F, hm⟩ := h.d__law_told
  intro params body scope p lpos pos L hdef hbind
  exact pe_told (X := (cxOf (L2N.CX PR w) PR w K mg base ["sheet", "some", "bad"] "_law_rows_bad" (defScope (top 43)) f cdv A outer s H E)) (kw := 42) (st := top 42) F rfl rfl hm (F.bindsN fun _ _ _ _ _ _ us hl => match us, hl with | [_], _ => rfl) sc__law_told (Or.inl rfl) rfl rfl h.e_NoughtError.g rfl tb.t__law_rows_bad hcode (List.Mem.tail _ (List.Mem.head _)) (fun p hp e => by
    simp only [lT, List.mem_cons, List.not_mem_nil, or_false] at hp
    rcases hp with rfl | rfl
    · exact absurd e tb.n_law__law_rows_bad
    · exact rfl) hr hkw L hdef hbind (by decide) (by decide) (by decide) (by decide) (by decide) (by decide) (by decide)
theorem lenL {l : List Sl} (h : l.length = 8) : ∃ a1 a2 a3 a4 a5 a6 a7 a8, l = [a1, a2, a3, a4, a5, a6, a7, a8] := by
  match l, h with
  | [a1, a2, a3, a4, a5, a6, a7, a8], _ => exact ⟨a1, a2, a3, a4, a5, a6, a7, a8, rfl⟩
theorem noL {a1 a2 a3 a4 a5 a6 a7 a8 : Sl} (h1 : ∀ z, a1 ≠ .own z) (h2 : ∀ z, a2 ≠ .own z) (h3 : ∀ z, a3 ≠ .own z) (h4 : ∀ z, a4 ≠ .own z) (h5 : ∀ z, a5 ≠ .own z) (h6 : ∀ z, a6 ≠ .own z) (h7 : ∀ z, a7 ≠ .own z) (h8 : ∀ z, a8 ≠ .own z) : ∀ x ∈ [a1, a2, a3, a4, a5, a6, a7, a8], ∀ z, x ≠ .own z := fun x hx => by
  simp only [List.mem_cons, List.not_mem_nil, or_false] at hx
  rcases hx with rfl | rfl | rfl | rfl | rfl | rfl | rfl | rfl <;> assumption
/-- the law's slots: the script, and nothing of one's own -/
def IvL (d : D) (γ : List Sl) : Prop := ∃ l : List Sl, γ = .dat d :: l ∧ l.length = 8 ∧ ∀ x ∈ l, ∀ z, x ≠ .own z
/-! ### rows that are none -/
def rowBb (n : Nat) (x : D) : Bool := !isT x "tuple" || (match x with
  | .tuple [] => true
  | .tuple (.str z :: rest) => SeqAt.shaped x && (words7.contains z && (match sizeI z with
    | none => true
    | some k => decide (k ≠ (rest.length : Int) + 1) || (!PyData.eqv (.str z) (.str "given") && (!rest.all (wholeIn n) && decide (rest.length ≤ 2)))))
  | .tuple (d :: _) => !isT d "str" && SeqAt.shaped x
  | _ => false)
theorem rowBb_ok {n : Nat} {x : D} (h : rowBb n x = true) : RowB n x := by
  unfold rowBb at h
  by_cases c1 : isT x "tuple" = false
  · exact .inl c1
  · have c1 : isT x "tuple" = true := by simpa using c1
    rw [c1, Bool.not_true, Bool.false_or] at h
    obtain ⟨ys, rfl⟩ := isT_tuple (x := x) c1
    match ys, h with
    | [], _ => exact .inr (.inl rfl)
    | d :: rest, h =>
      cases d with
      | str z =>
        obtain ⟨h1, h⟩ := He.ba h
        obtain ⟨h2, h⟩ := He.ba h
        refine .inr (.inr (.inr ⟨z, rest, rfl, by simpa using h2, h1, ?_⟩))
        cases hs : sizeI z with
        | none => exact .inl rfl
        | some k =>
          rw [hs] at h
          by_cases hk : k = (rest.length : Int) + 1
          · have h : (decide (k ≠ (rest.length : Int) + 1) || (!PyData.eqv (.str z) (.str "given") && (!rest.all (wholeIn n) && decide (rest.length ≤ 2)))) = true := h
            rw [decide_eq_false (by simpa using hk), Bool.false_or] at h
            obtain ⟨h3, h⟩ := He.ba h
            obtain ⟨h4, h5⟩ := He.ba h
            exact .inr (.inr ⟨by rw [hk], by simpa using h3, by simpa using h4, of_decide_eq_true h5⟩)
          · exact .inr (.inl ⟨k, rfl, hk⟩)
      | _ =>
        obtain ⟨h1, h2⟩ := He.ba h
        exact .inr (.inr (.inl ⟨_, rest, rfl, by simpa using h1, h2⟩))
def vRowsBad (ds : List D) (d : D) : Prop := ∃ rs ps past ahead p r, ds = [shD (nowS rs ps) past ahead] ∧ rs = [rgD p, r] ∧ d = .bool true
def some1 : List D := [.none, .tuple [], .list [], .tuple [.str "sum"], .tuple [.str "sum", .int 0], .tuple [.str "sum", .int 0, .int 0, .int 0], .tuple [.str "slope", .int 0, .int 0], .tuple [.str "plus", .int 0, .int 0]]
def some2 : List D := some1 ++ [.list [.str "slope", .int 0], .tuple [.int 1, .int 0]]
def some3 : List D := [.tuple [.str "sum", .int 0, .int 99], .tuple [.str "slope", .int (-1)], .tuple [.str "slope", .none], .tuple [.str "product", .bool true, .int 0], .tuple [.str "composed", .str "0", .int 0], .tuple [.str "given"]]
def some4 : List D := [.list [.tuple [.int 0, .int 1]], .list [.tuple [.int 2, .int 4]], .list [.tuple [.int 1, .int 0]], .list [.int 1], .list (List.replicate 14 (.tuple [.int 1, .int 1])), .tuple [.tuple [.int 1, .int 1]], .none, .list [.tuple [.int 1, .int 1], .tuple [.int 0, .int 1]]]
theorem some2_bad {d : D} (h : d ∈ some2) : RowB 2 d := by
  have : some2.all (rowBb 2) = true := by decide +kernel
  exact rowBb_ok (List.all_eq_true.mp this d h)
theorem some3_bad {d : D} (h : d ∈ some3) : RowB 2 d := by
  have : some3.all (rowBb 2) = true := by decide +kernel
  exact rowBb_ok (List.all_eq_true.mp this d h)
theorem some4_no {d : D} (h : d ∈ some4) : isPo d = false ∧ RowP (.tuple [.str "given", d]) := by
  have : some4.all (fun d => !isPo d && SeqAt.shaped (.tuple [.str "given", d])) = true := by decide +kernel
  have := List.all_eq_true.mp this d h
  obtain ⟨h1, h2⟩ := He.ba this
  have h1 : isPo d = false := by simpa using h1
  exact ⟨h1, d, rfl, h1, h2⟩
theorem sc__law_rows_bad : FnScope ["sheet", "some", "bad"] ["sheet"] (defScope (top 43)) := ⟨rfl, rfl, rfl, by decide +kernel, rfl, by decide +kernel, by decide +kernel⟩
theorem fnt__law_rows_bad (h : Hd w K mg base) (tb : TBs K mg base) : FnT PR w K mg base "_law_rows_bad" 56 1 (lT K) vRowsBad := by
  obtain ⟨f, fd, F, hm⟩ := h.d__law_rows_bad
  have hf : f = He.ga K "_law_rows_bad" := by
    have e := hm.symm.trans h.g__law_rows_bad
    injection e with e
    injection e
  refine fnt_mk F sc__law_rows_bad hm (F.bindsN fun _ _ _ _ _ _ us hl => match us, hl with | [_], _ => rfl) hf rfl (by decide) h.ns rfl (fun cdv A outer s H E X hX gx hp hcode ds hl d hv => ?_)
  subst hX
  have nd := sc__law_rows_bad.nd
  have told := tld__law_rows_bad (k := 53) h tb hcode gx.room (by decide)
  obtain ⟨rs, ps, past, ahead, p, r, rfl, hrs, rfl⟩ := hv
  have hl2 : rs.length = 2 := by rw [hrs]; rfl
  have hlt : rs.length < 20 := by omega
  refine ss_cons (s1_set 1 (ee_is (ef_ee (ef_lst (ea_cons ee_non (ea_cons (ee_tup ea_nil) (ea_cons (ef_ee (ef_lst ea_nil)) (ea_cons (ee_tup (ea_cons ee_str ea_nil)) (ea_cons (ee_tup (ea_cons ee_str (ea_cons ee_int ea_nil))) (ea_cons (ee_tup (ea_cons ee_str (ea_cons ee_int (ea_cons ee_int (ea_cons ee_int ea_nil))))) (ea_cons (ee_tup (ea_cons ee_str (ea_cons ee_int (ea_cons ee_int ea_nil)))) (ea_cons (ee_tup (ea_cons ee_str (ea_cons ee_int (ea_cons ee_int ea_nil)))) ea_nil)))))))))) (show _ = PyData.list some1 from rfl)) ?_ nd)
  refine ss_cons (s1_for (fun _ γ => ∃ b, γ = [.dat (shD (nowS rs ps) past ahead), .dat (.list some1), b] ∧ ∀ z, b ≠ .own z) (ei_is (ei_list (ef_ee (ef_cat (ee_var 1 rfl) (ef_ee (ef_lst (ea_cons (ef_ee (ef_lst (ea_cons ee_str (ea_cons ee_int ea_nil)))) (ea_cons (ee_tup (ea_cons ee_int (ea_cons ee_int ea_nil))) ea_nil)))) (by decide)))) (show _ = some2 from rfl)) ⟨.no, rfl, noO⟩ (fun i d γ hd hI => ?_) (fun γ hI => ?_) hp rfl)
  · obtain ⟨b, rfl, nb⟩ := hI
    have hbad : RowB 2 d := some2_bad (List.mem_of_getElem? hd)
    refine ⟨_, eg_name (i := 2) nd, ?_⟩
    refine ss_one (s1_if (et_is (et_cmp (ee_toldX told h.x_BadRow (fn_word_BadRow h) (fun A' outer' s' H' f' c' E' hr => (ex_meth (fm_put h) (hr.mono (by decide)) (ee_var 0 rfl) (ea_cons (ee_var 2 rfl) ea_nil) (⟨rs, ps, past, ahead, d, rfl, .inr (.inl ⟨hlt, rs, ps, past, ahead, d, rfl, .inl ⟨by rw [hl2]; exact hbad, rfl⟩⟩)⟩)))) ee_str (od_ne gx (by decide +kernel) (by decide +kernel)) (nomark _)) (b' := false) (by decide +kernel)) (fun z => nomatch z) (fun _ => ss_nil ?_))
    exact ⟨.dat d, rfl, datO⟩
  obtain ⟨b, rfl, nb⟩ := hI
  refine ss_cons (s1_for (fun _ γ => ∃ b, γ = [.dat (shD (nowS rs ps) past ahead), .dat (.list some1), b] ∧ ∀ z, b ≠ .own z) (ei_is (ei_list (ef_ee (ef_lst (ea_cons (ee_tup (ea_cons ee_str (ea_cons ee_int (ea_cons ee_int ea_nil)))) (ea_cons (ee_tup (ea_cons ee_str (ea_cons (ee_neg ee_int) ea_nil))) (ea_cons (ee_tup (ea_cons ee_str (ea_cons ee_non ea_nil))) (ea_cons (ee_tup (ea_cons ee_str (ea_cons ee_bl (ea_cons ee_int ea_nil)))) (ea_cons (ee_tup (ea_cons ee_str (ea_cons ee_str (ea_cons ee_int ea_nil)))) (ea_cons (ee_tup (ea_cons ee_str ea_nil)) ea_nil))))))))) (show _ = some3 from rfl)) ⟨b, rfl, nb⟩ (fun i d γ hd hI => ?_) (fun γ hI => ?_) hp rfl)
  · obtain ⟨b, rfl, nb⟩ := hI
    have hbad : RowB 2 d := some3_bad (List.mem_of_getElem? hd)
    refine ⟨_, eg_name (i := 2) nd, ?_⟩
    refine ss_one (s1_if (et_is (et_cmp (ee_toldX told h.x_BadRow (fn_word_BadRow h) (fun A' outer' s' H' f' c' E' hr => (ex_meth (fm_put h) (hr.mono (by decide)) (ee_var 0 rfl) (ea_cons (ee_var 2 rfl) ea_nil) (⟨rs, ps, past, ahead, d, rfl, .inr (.inl ⟨hlt, rs, ps, past, ahead, d, rfl, .inl ⟨by rw [hl2]; exact hbad, rfl⟩⟩)⟩)))) ee_str (od_ne gx (by decide +kernel) (by decide +kernel)) (nomark _)) (b' := false) (by decide +kernel)) (fun z => nomatch z) (fun _ => ss_nil ?_))
    exact ⟨.dat d, rfl, datO⟩
  obtain ⟨b, rfl, nb⟩ := hI
  refine ss_cons (s1_for (fun _ γ => ∃ b, γ = [.dat (shD (nowS rs ps) past ahead), .dat (.list some1), b] ∧ ∀ z, b ≠ .own z) (ei_is (ei_list (ef_ee (ef_lst (ea_cons (ef_ee (ef_lst (ea_cons (ee_tup (ea_cons ee_int (ea_cons ee_int ea_nil))) ea_nil))) (ea_cons (ef_ee (ef_lst (ea_cons (ee_tup (ea_cons ee_int (ea_cons ee_int ea_nil))) ea_nil))) (ea_cons (ef_ee (ef_lst (ea_cons (ee_tup (ea_cons ee_int (ea_cons ee_int ea_nil))) ea_nil))) (ea_cons (ef_ee (ef_lst (ea_cons ee_int ea_nil))) (ea_cons (ef_ee (ef_rep (ef_lst (ea_cons (ee_tup (ea_cons ee_int (ea_cons ee_int ea_nil))) ea_nil)) ee_int (by decide) (by decide))) (ea_cons (ee_tup (ea_cons (ee_tup (ea_cons ee_int (ea_cons ee_int ea_nil))) ea_nil)) (ea_cons ee_non (ea_cons (ef_ee (ef_lst (ea_cons (ee_tup (ea_cons ee_int (ea_cons ee_int ea_nil))) (ea_cons (ee_tup (ea_cons ee_int (ea_cons ee_int ea_nil))) ea_nil)))) ea_nil))))))))))) (show _ = some4 from rfl)) ⟨b, rfl, nb⟩ (fun i d γ hd hI => ?_) (fun γ hI => ?_) hp rfl)
  · obtain ⟨b, rfl, nb⟩ := hI
    obtain ⟨hno, hbad⟩ := some4_no (List.mem_of_getElem? hd)
    refine ⟨_, eg_name (i := 2) nd, ?_⟩
    refine ss_cons (s1_if (et_is (et_cmp (ee_toldX told h.x_BadPoly (fn_word_BadPoly h) (fun A' outer' s' H' f' c' E' hr => (ex_meth (fm_put h) (hr.mono (by decide)) (ee_var 0 rfl) (ea_cons (ee_tup (ea_cons ee_str (ea_cons (ee_var 2 rfl) ea_nil))) ea_nil) (⟨rs, ps, past, ahead, _, rfl, .inr (.inl ⟨hlt, rs, ps, past, ahead, _, rfl, .inr ⟨hbad, rfl⟩⟩)⟩)))) ee_str (od_ne gx (by decide +kernel) (by decide +kernel)) (nomark _)) (b' := false) (by decide +kernel)) (fun z => nomatch z) (fun _ => ss_nil ?_))
    refine ss_one (s1_if (et_is (et_cmp (ee_toldX told h.x_BadPoly (fn_word_BadPoly h) (fun A' outer' s' H' f' c' E' hr => (ex_meth (fm_change h) (hr.mono (by decide)) (ee_var 0 rfl) (ea_cons ee_int (ea_cons (ee_var 2 rfl) ea_nil)) (⟨rs, ps, past, ahead, _, d, rfl, .inr (.inr (.inl ⟨0, p, rfl, by rw [hrs]; rfl, hno, rfl⟩))⟩)))) ee_str (od_ne gx (by decide +kernel) (by decide +kernel)) (nomark _)) (b' := false) (by decide +kernel)) (fun z => nomatch z) (fun _ => ss_nil ?_))
    exact ⟨.dat d, rfl, datO⟩
  obtain ⟨b, rfl, nb⟩ := hI
  exact ss_one (s1_ret ee_bl rfl)


/-! ### the law's polynomials, reckoned -/
def pC (n : Nat) : Poly := List.replicate 7 (n : Rat)
def qC (n : Nat) : Poly := pmul (pC n) (pC n)
def okC (n : Nat) : Bool := decide (Own (pC n)) && (decide (Own (pder (qC n))) && (decide ((pder (qC n)).length ≤ 13) && (decide ((pmul (pC n) (qC n)).length = 19) && (decide ((pcomp (pC n) (qC n)).length = 73) && (decide ((pcomp (qC n) (pC n)).length = 73) && (decide ((qC n).length = 13) && decide (pder (qC n) ≠ [])))))))
theorem okC_1 : okC 1 = true := by decide +kernel
theorem okC_2 : okC 2 = true := by decide +kernel
theorem okC_3 : okC 3 = true := by decide +kernel
theorem okC_4 : okC 4 = true := by decide +kernel
theorem okC_5 : okC 5 = true := by decide +kernel
theorem okC_6 : okC 6 = true := by decide +kernel
theorem okC_7 : okC 7 = true := by decide +kernel
theorem okC_8 : okC 8 = true := by decide +kernel
theorem okC_9 : okC 9 = true := by decide +kernel
theorem okC_all {n : Nat} (h1 : 1 ≤ n) (h9 : n ≤ 9) : okC n = true := by
  have : n = 1 ∨ n = 2 ∨ n = 3 ∨ n = 4 ∨ n = 5 ∨ n = 6 ∨ n = 7 ∨ n = 8 ∨ n = 9 := by omega
  rcases this with rfl | rfl | rfl | rfl | rfl | rfl | rfl | rfl | rfl
  · exact okC_1
  · exact okC_2
  · exact okC_3
  · exact okC_4
  · exact okC_5
  · exact okC_6
  · exact okC_7
  · exact okC_8
  · exact okC_9


/-! ### the sheets of the law -/
theorem natF91 (n : Nat) : (PyData.tuple [.int (n : Nat), .int 1] : D) = eF ((n : Nat) : Rat) := by
  unfold eF
  rw [Rat.num_natCast, Rat.den_natCast]
  rfl
theorem rz91 {n : Nat} (h : n ≤ 9) : Rz 4 ((n : Nat) : Rat) := ⟨by rw [Rat.num_natCast]; show n < 16; omega, by rw [Rat.den_natCast]; decide⟩
theorem pz91 {n : Nat} (h : n ≤ 9) : PZ 4 (pC n) := fun q hq => by
  rw [(List.mem_replicate.mp hq).2]
  exact rz91 h
theorem cz91 {n : Nat} (h : n ≤ 9) : CZ 4 (pC n) := ⟨1, by decide, by decide, fun i => by
  by_cases hi : i < 7
  · refine ⟨(n : Int), by show n < 16; omega, ?_⟩
    rw [coef_in (by unfold pC; rw [List.length_replicate]; exact hi)]
    unfold pC
    rw [List.getElem_replicate]
    simp
    exact (Rat.intCast_natCast n).symm
  · refine ⟨0, by decide, ?_⟩
    rw [coef_out (by unfold pC; rw [List.length_replicate]; omega)]
    simp⟩
theorem isPo_long {q : Poly} (h : 13 < q.length) : isPo (eP q) = false := by rw [isPo_eP, decide_eq_false (by omega), Bool.false_and]
def slD : D := .tuple [.str "slope", .int 1]
def prD : D := .tuple [.str "product", .int 0, .int 0]
/-- the rows: one given, its square, so many slopes -/
def rsJ (p : Poly) : Nat → List D
  | 0 => [rgD p, prD]
  | j + 1 => rsJ p j ++ [slD]
def psJ (p : Poly) : Nat → List Poly
  | 0 => [p, pmul p p]
  | j + 1 => psJ p j ++ [pder (pmul p p)]
theorem rsJ_len (p : Poly) : ∀ j, (rsJ p j).length = 2 + j
  | 0 => rfl
  | j + 1 => by rw [rsJ, List.length_append, rsJ_len p j]; rfl
theorem psJ_len (p : Poly) : ∀ j, (psJ p j).length = 2 + j
  | 0 => rfl
  | j + 1 => by rw [psJ, List.length_append, psJ_len p j]; rfl
theorem psJ_0 (p : Poly) : ∀ j, (psJ p j)[0]? = some p
  | 0 => rfl
  | j + 1 => by rw [psJ, List.getElem?_append_left (by rw [psJ_len]; omega), psJ_0 p j]
theorem psJ_1 (p : Poly) : ∀ j, (psJ p j)[1]? = some (pmul p p)
  | 0 => rfl
  | j + 1 => by rw [psJ, List.getElem?_append_left (by rw [psJ_len]; omega), psJ_1 p j]
theorem rsJ_0 (p : Poly) : ∀ j, (rsJ p j)[0]? = some (rgD p)
  | 0 => rfl
  | j + 1 => by rw [rsJ, List.getElem?_append_left (by rw [rsJ_len]; omega), rsJ_0 p j]
theorem rsJ_set (p p' : Poly) : ∀ j, (rsJ p j).set 0 (rgD p') = rsJ p' j
  | 0 => rfl
  | j + 1 => by
    rw [rsJ, rsJ, List.set_append_left _ _ (by rw [rsJ_len]; omega), rsJ_set p p' j]
theorem psJ_get (p : Poly) : ∀ (j i : Nat), i < 2 + j → (psJ p j).getD i [] = p ∨ (psJ p j).getD i [] = pmul p p ∨ (psJ p j).getD i [] = pder (pmul p p)
  | 0, 0, _ => .inl rfl
  | 0, 1, _ => .inr (.inl rfl)
  | 0, i + 2, h => by omega
  | j + 1, i, h => by
    rw [psJ]
    by_cases hi : i < 2 + j
    · rw [show (psJ p j ++ [pder (pmul p p)]).getD i [] = (psJ p j).getD i [] by
        rw [List.getD_eq_getElem?_getD, List.getD_eq_getElem?_getD, List.getElem?_append_left (by rw [psJ_len]; exact hi)]]
      exact psJ_get p j i hi
    · refine .inr (.inr ?_)
      rw [List.getD_eq_getElem?_getD, List.getElem?_append_right (by rw [psJ_len]; omega), psJ_len, show i - (2 + j) = 0 by omega]
      rfl
/-- what is asked of the polynomial that is given -/
structure Giv (p : Poly) : Prop where
  z : PZ 4 p
  l : p.length ≤ 13
  o : Own p
  q : (pmul p p).length ≤ 13
  s : (pder (pmul p p)).length ≤ 13
  so : Own (pder (pmul p p))
theorem Giv.mul {p : Poly} (g : Giv p) : vMul [eP p, eP p] (eP (pmul p p)) := ⟨p, p, 4, 4, rfl, g.z, g.z, by decide, by decide, by have := g.l; omega, by have := g.l; omega, by
  have : (p.length + 2) * (4 + 4 + 1) ≤ 15 * 9 := Nat.mul_le_mul_right _ (by have := g.l; omega)
  exact Nat.le_trans this (by decide +kernel), rfl⟩
theorem Giv.zq {p : Poly} (g : Giv p) : PZ 200 (pmul p p) := (pz_pmul g.z g.z (by decide)).mono (by
  have : p.length * (4 + 4 + 1) ≤ 13 * 9 := Nat.mul_le_mul_right _ g.l
  omega)
theorem Giv.prod {p : Poly} (g : Giv p) : RowC [p] prD (pmul p p) := ⟨"product", [0, 0], [p, p], rfl, by decide, rfl, "product", [p, p], rfl, .inl ⟨rfl, g.mul⟩⟩
theorem Giv.slope {p : Poly} (g : Giv p) {ps : List Poly} (h : ps[1]? = some (pmul p p)) : RowC ps slD (pder (pmul p p)) := ⟨"slope", [1], [pmul p p], rfl, by decide, by show [ps[1]?] = [some (pmul p p)]; rw [h], "slope", [pmul p p], rfl, .inr (.inl ⟨rfl, pmul p p, 200, rfl, g.zq, by decide, by have := g.q; omega, by decide +kernel, rfl⟩)⟩
theorem rows1 {p : Poly} (g : Giv p) : RowsOk [rgD p] [p] := rowsOk_snoc (rs := []) (ps := []) ⟨rfl, fun i r q e => by simp at e⟩ (.inl rfl) g.l g.o
theorem rowsJ {p : Poly} (g : Giv p) : ∀ j, RowsOk (rsJ p j) (psJ p j)
  | 0 => rowsOk_snoc (rows1 g) (.inr g.prod) g.q (own_pmul _ _)
  | j + 1 => rowsOk_snoc (rowsJ g j) (.inr (g.slope (psJ_1 p j))) g.s g.so
def psT (p : Poly) : Nat → List D
  | 0 => [nowS [] [], nowS [rgD p] [p]]
  | j + 1 => psT p j ++ [nowS (rsJ p j) (psJ p j)]
theorem psT_len (p : Poly) : ∀ j, (psT p j).length = 2 + j
  | 0 => rfl
  | j + 1 => by rw [psT, List.length_append, psT_len p j]; rfl
/-- the sheet behind so many slopes -/
def shJ (p : Poly) (j : Nat) : Sht := ⟨nowS (rsJ p j) (psJ p j), psT p j, []⟩
theorem sh_give (p : Poly) : SeqAt.shaped (.tuple [.str "given", eP p]) = true := (sh_tup (n := 2) fun d hd => by
  rcases List.mem_cons.mp hd with rfl | hd
  · exact sh_str (by decide +kernel)
  · rw [List.mem_singleton.mp hd]
    exact sh_eP p).ok3
theorem put_1 {p : Poly} (g : Giv p) : ePut ⟨nowS [] [], [], []⟩ [.tuple [.str "given", eP p]] (.int 0) ⟨nowS [rgD p] [p], [nowS [] []], []⟩ :=
  ⟨[], [], _, rgD p, p, rfl, ⟨rfl, fun i r q e => by simp at e⟩, by decide, by decide, rfl, .inl ⟨_, rfl, isPo_ok g.l g.o, sh_give p⟩, g.l, g.o, .inl ⟨rfl, rfl⟩, rfl, rfl⟩
theorem put_2 {p : Poly} (g : Giv p) : ePut ⟨nowS [rgD p] [p], [nowS [] []], []⟩ [prD] (.int 1) (shJ p 0) :=
  ⟨[rgD p], [p], prD, prD, pmul p p, rfl, rows1 g, (show (1 : Nat) < 20 by decide), (show (1 : Nat) < 1000 by decide), rfl, .inr ⟨"product", [.int 0, .int 0], rfl, by decide +kernel, by decide +kernel, by decide +kernel, by decide +kernel, rfl, by decide⟩, g.q, own_pmul _ _, .inr ⟨⟨"product", _, rfl, by decide +kernel, by decide +kernel⟩, rfl, g.prod⟩, rfl, rfl⟩
theorem put_s {p : Poly} (g : Giv p) (j : Nat) (hj : j < 18) : ePut (shJ p j) [slD] (.int ((2 + j : Nat) : Int)) (shJ p (j + 1)) :=
  ⟨rsJ p j, psJ p j, slD, slD, pder (pmul p p), rfl, rowsJ g j, by rw [rsJ_len]; omega, by show (psT p j).length < 1000; rw [psT_len]; omega, rfl, .inr ⟨"slope", [.int 1], rfl, by decide +kernel, by decide +kernel, by decide +kernel, by decide +kernel, by
    show (decide ((0 : Int) ≤ 1 ∧ (1 : Int) < ((rsJ p j).length : Int)) && true) = true
    rw [rsJ_len, Bool.and_true]
    exact decide_eq_true (by omega), by decide⟩, g.s, g.so, .inr ⟨⟨"slope", _, rfl, by decide +kernel, by decide +kernel⟩, rfl, g.slope (psJ_1 p j)⟩, by rw [rsJ_len], rfl⟩
theorem givNil : Giv [] := ⟨pz_nil, by decide, own_nil, by decide +kernel, by decide +kernel, by decide +kernel⟩
def bads5 : List D := [.int 2, .int (-1), .none, .bool true, .str "0"]
theorem bads5_no {d : D} (h : d ∈ bads5) : wholeIn 2 d = false := by
  have : bads5.all (fun d => !wholeIn 2 d) = true := by decide +kernel
  have := List.all_eq_true.mp this d h
  simpa using this
def rows3 : List D := [.tuple [.str "product", .int 0, .int 1], .tuple [.str "composed", .int 0, .int 1], .tuple [.str "composed", .int 1, .int 0]]


/-- what the law leans on, of its polynomial -/
structure Gv (K : PySem.W.Frag) (p : Poly) : Prop where
  g : Giv p
  l13 : (pmul p p).length = 13
  n0 : p ≠ []
  n1 : pmul p p ≠ []
  n2 : pder (pmul p p) ≠ []
  x : ∀ d ∈ rows3, xPut K [(shJ p 0).d, d] (ec K "BadPoly")
theorem comp_ok {p q : Poly} {n m : Nat} (h1 : PZ n p) (h0 : 0 < n) (h2 : CZ m q) (h3 : p.length * q.length ≤ 95) (h4 : p.length ≤ 95) (h5 : q.length ≤ 95) (h6 : 130 * (p.length * (n + m + 8) + n + m + 10) ≤ LIM) : vComp [eP p, eP q] (eP (pcomp p q)) := ⟨p, q, n, m, rfl, h1, h0, h2, h3, h4, h5, h6, rfl⟩
theorem gv_of {K : PySem.W.Frag} {n : Nat} (h1 : 1 ≤ n) (h9 : n ≤ 9) : Gv K (pC n) := by
  have hk : okC n = true := okC_all h1 h9
  obtain ⟨k1, hk⟩ := He.ba hk
  obtain ⟨k2, hk⟩ := He.ba hk
  obtain ⟨k3, hk⟩ := He.ba hk
  obtain ⟨k4, hk⟩ := He.ba hk
  obtain ⟨k5, hk⟩ := He.ba hk
  obtain ⟨k6, hk⟩ := He.ba hk
  obtain ⟨k7, k8⟩ := He.ba hk
  have l13 : (pmul (pC n) (pC n)).length = 13 := of_decide_eq_true k7
  have k4 : (pmul (pC n) (qC n)).length = 19 := of_decide_eq_true k4
  have k5 : (pcomp (pC n) (qC n)).length = 73 := of_decide_eq_true k5
  have k6 : (pcomp (qC n) (pC n)).length = 73 := of_decide_eq_true k6
  have g : Giv (pC n) := ⟨pz91 h9, by show (List.replicate 7 _).length ≤ 13; rw [List.length_replicate]; decide, of_decide_eq_true k1, by rw [l13]; decide, of_decide_eq_true k3, of_decide_eq_true k2⟩
  have l7 : (pC n).length = 7 := List.length_replicate ..
  have cq : CZ 16 (pmul (pC n) (pC n)) := (cz_pmul (cz91 h9) (cz91 h9) (k := 3) (by rw [l7]; decide)).mono (by decide)
  refine ⟨g, l13, fun e => ?_, fun e => ?_, of_decide_eq_true k8, fun d hd => ?_⟩
  · rw [e] at l7; cases l7
  · rw [e] at l13; cases l13
  · refine ⟨rsJ (pC n) 0, psJ (pC n) 0, psT (pC n) 0, [], d, rfl, .inr (.inr ⟨by rw [rsJ_len]; decide, ?_, ?_, rowsJ g 0, ?_⟩)⟩
    · unfold rows3 at hd
      simp only [List.mem_cons, List.not_mem_nil, or_false] at hd
      rcases hd with rfl | rfl | rfl
      · exact .inr ⟨"product", _, rfl, by decide +kernel, by decide +kernel, by decide +kernel, by decide +kernel, rfl, by decide⟩
      · exact .inr ⟨"composed", _, rfl, by decide +kernel, by decide +kernel, by decide +kernel, by decide +kernel, rfl, by decide⟩
      · exact .inr ⟨"composed", _, rfl, by decide +kernel, by decide +kernel, by decide +kernel, by decide +kernel, rfl, by decide⟩
    · unfold rows3 at hd
      simp only [List.mem_cons, List.not_mem_nil, or_false] at hd
      rcases hd with rfl | rfl | rfl
      · exact ⟨"product", _, rfl, by decide +kernel, by decide +kernel⟩
      · exact ⟨"composed", _, rfl, by decide +kernel, by decide +kernel⟩
      · exact ⟨"composed", _, rfl, by decide +kernel, by decide +kernel⟩
    · unfold rows3 at hd
      simp only [List.mem_cons, List.not_mem_nil, or_false] at hd
      rcases hd with rfl | rfl | rfl
      · refine ⟨pmul (pC n) (qC n), ⟨"product", [0, 1], [pC n, qC n], rfl, by decide, rfl, "product", _, rfl, .inl ⟨rfl, pC n, qC n, 4, 200, rfl, g.z, g.zq, by decide, by decide, by rw [l7]; decide, by show (pmul (pC n) (pC n)).length ≤ 100; rw [l13]; decide, ?_, rfl⟩⟩, isPo_long (by rw [k4]; decide), rfl⟩
        rw [l7]
        decide +kernel
      · refine ⟨pcomp (pC n) (qC n), ⟨"composed", [0, 1], [pC n, qC n], rfl, by decide, rfl, "composed", _, rfl, .inr (.inr ⟨rfl, comp_ok g.z (by decide) cq ?_ ?_ ?_ ?_⟩)⟩, isPo_long (by rw [k5]; decide), rfl⟩
        · show (pC n).length * (pmul (pC n) (pC n)).length ≤ 95
          rw [l7, l13]; decide
        · rw [l7]; decide
        · show (pmul (pC n) (pC n)).length ≤ 95
          rw [l13]; decide
        · rw [l7]
          decide +kernel
      · refine ⟨pcomp (qC n) (pC n), ⟨"composed", [1, 0], [qC n, pC n], rfl, by decide, rfl, "composed", _, rfl, .inr (.inr ⟨rfl, comp_ok g.zq (by decide) (cz91 h9) ?_ ?_ ?_ ?_⟩)⟩, isPo_long (by rw [k6]; decide), rfl⟩
        · show (pmul (pC n) (pC n)).length * (pC n).length ≤ 95
          rw [l7, l13]; decide
        · show (pmul (pC n) (pC n)).length ≤ 95
          rw [l13]; decide
        · rw [l7]; decide
        · show 130 * ((pmul (pC n) (pC n)).length * (200 + 4 + 8) + 200 + 4 + 10) ≤ LIM
          rw [l13]
          decide +kernel
def p8 : Poly := List.replicate 8 1
theorem rows8 : RowsOk [rgD p8] [p8] := rowsOk_snoc (rs := []) (ps := []) ⟨rfl, fun i r q e => by simp at e⟩ (.inl rfl) (by decide) (by decide +kernel)
theorem change_8 {K : PySem.W.Frag} {p : Poly} : xChange K [(shJ p 0).d, .int 0, eP p8] (ec K "BadPoly") :=
  ⟨rsJ p 0, psJ p 0, psT p 0, [], _, _, rfl, .inr (.inr (.inr ⟨0, p, p8, rfl, rfl, rfl, isPo_ok (by decide) (by decide +kernel), by rw [rsJ_len]; decide, [rgD p8], [p8], prD, pmul p8 p8, rfl, rows8,
    ⟨"product", [0, 0], [p8, p8], rfl, by decide, rfl, "product", [p8, p8], rfl, .inl ⟨rfl, p8, p8, 4, 4, rfl, fun q hq => by rw [(List.mem_replicate.mp hq).2]; exact ⟨by decide, by decide⟩, fun q hq => by rw [(List.mem_replicate.mp hq).2]; exact ⟨by decide, by decide⟩, by decide, by decide, by decide, by decide, by decide +kernel, rfl⟩⟩, isPo_long (by decide +kernel), rfl⟩))⟩
theorem rowF_J {p : Poly} : ∀ r ∈ rsJ p 0, RowF r := fun r hr => by
  rcases List.mem_cons.mp hr with rfl | hr
  · exact ⟨"given", [.tuple (p.map eF)], rfl, by decide +kernel, (show (1 : Nat) ≤ 3 by decide), (sh_list (n := 2) fun d hd => by
      rw [List.mem_singleton.mp hd]
      exact sh_tup (n := 1) fun d hd => by
        obtain ⟨q, _, rfl⟩ := List.mem_map.mp hd
        exact sh_eF q).ok3⟩
  · rw [List.mem_singleton.mp hr]
    exact ⟨"product", _, rfl, by decide +kernel, by decide, by decide +kernel⟩
theorem drop_0 {K : PySem.W.Frag} {p : Poly} : xDrop K [(shJ p 0).d, .int 0] (ec K "BadRow") :=
  .inr ⟨rsJ p 0, psJ p 0, psT p 0, [], 0, by rw [rsJ_len]; decide, rowF_J, rfl, by rw [rsJ_len]; decide, ⟨1, by rw [rsJ_len]; decide, by show rowMade 0 prD = true; decide +kernel⟩, rfl⟩
theorem change_n {p : Poly} (e0 : p ≠ []) (e1 : pmul p p ≠ []) (e2 : pder (pmul p p) ≠ []) {J : Nat} (hJ : J = 18) : eChange (shJ p J) [.int 0, .list []] (.list ((List.range 20).map fun j : Nat => PyData.int (j : Int))) ⟨nowS (rsJ [] J) (psJ [] J), psT p J ++ [nowS (rsJ p J) (psJ p J)], []⟩ := by
  have hset : (rsJ p J).set 0 (rgD []) = rsJ [] J := rsJ_set p [] J
  refine ⟨rsJ p J, psJ p J, 0, p, [], psJ [] J, rfl, by rw [rsJ_len, hJ]; decide, by show (psT p J).length < 1000; rw [psT_len, hJ]; decide, rfl, rsJ_0 p J, by decide +kernel, by rw [rsJ_len, psJ_len], by rw [hset]; exact rowsJ givNil J, ?_, by rw [hset]; rfl⟩
  have hl20 : (rsJ p J).length = 20 := by rw [rsJ_len, hJ]
  have hf : (List.range 20).filter (fun j => !decide ((psJ [] J).getD j [] = (psJ p J).getD j [])) = List.range 20 := List.filter_eq_self.mpr fun j hj => ?_
  · rw [hl20, hf]
  have hj : j < 2 + J := by rw [hJ]; exact List.mem_range.mp hj
  have h1 : (psJ [] J).getD j [] = [] := by
    rcases psJ_get [] J j hj with h | h | h
    · exact h
    · rw [h]; decide +kernel
    · rw [h]; decide +kernel
  have h2 : (psJ p J).getD j [] ≠ [] := by
    rcases psJ_get p J j hj with h | h | h
    · rw [h]; exact e0
    · rw [h]; exact e1
    · rw [h]; exact e2
  rw [h1, decide_eq_false (fun z => h2 z.symm)]
  rfl
theorem law_ss (h : Hd w K mg base) (tb : TBs K mg base) {f : Addr} {cdv : Value} {A : Around} {outer : List Env} {s : Shared} {H : Hp} {E : XK} (gx : Gx (lawX w K mg base f cdv A outer s H E) 60) (hp : PassesOwn (model (lawX w K mg base f cdv A outer s H E).prog (lawX w K mg base f cdv A outer s H E).w) (lawX w K mg base f cdv A outer s H E).A (lawX w K mg base f cdv A outer s H E).env (lawX w K mg base f cdv A outer s H E).xe) (hcode : (lawX w K mg base f cdv A outer s H E).env.code = .ref (He.codeOf K ("law", none)))
    (ns : List Int) (hn : ns.length ≤ 63) (hb : ∀ z ∈ ns, Builtin.Int.intBits z ≤ 1048576) :
    SS (SameN (lT K)) (lawX w K mg base f cdv A outer s H E) (.dat (.list (ns.map .int)) :: List.replicate 8 .no) (defBody (top 44)) { rt := fun e => e = .bool true } := by
  have nd := sc_law.nd
  have rm : Room 60 (lawX w K mg base f cdv A outer s H E).A := gx.room
  have told := tld_law (k := 58) h tb hcode gx.room (by decide)
  refine ss_cons (s1_for (fun _ γ => IvL (.list (ns.map .int)) γ) (ei_range1 (ee_max ee_int (ee_min ee_int (ee_len (ee_var 0 rfl) (n := ns.length) (by simp [lenD]) h.b_len) rfl h.b_min) rfl h.b_max) (by omega) h.b_range) ⟨_, rfl, rfl, fun x hx z => by rw [(List.mem_replicate.mp hx).2]; exact noO z⟩ (fun i d γ hd hI => ?_) (fun γ hI => ?_) hp rfl)
  rotate_left
  · obtain ⟨l, rfl, hl, no⟩ := hI
    obtain ⟨a1, a2, a3, a4, a5, a6, a7, a8, rfl⟩ := lenL hl
    exact ss_one (s1_ret ee_bl rfl)
  obtain ⟨l, rfl, hl, no⟩ := hI
  obtain ⟨a1, a2, a3, a4, a5, a6, a7, a8, rfl⟩ := lenL hl
  obtain ⟨hi, rfl⟩ := rangeD_get hd
  have hiC : i < 4 := by omega
  have no1 : ∀ z, a1 ≠ .own z := no a1 (by simp)
  have no2 : ∀ z, a2 ≠ .own z := no a2 (by simp)
  have no3 : ∀ z, a3 ≠ .own z := no a3 (by simp)
  have no4 : ∀ z, a4 ≠ .own z := no a4 (by simp)
  have no5 : ∀ z, a5 ≠ .own z := no a5 (by simp)
  have no6 : ∀ z, a6 ≠ .own z := no a6 (by simp)
  have no7 : ∀ z, a7 ≠ .own z := no a7 (by simp)
  have no8 : ∀ z, a8 ≠ .own z := no a8 (by simp)
  refine ⟨_, eg_name (i := 1) nd, ?_⟩
  have i1000 : i < 2 ^ 1000 := Nat.lt_of_lt_of_le (show i < 2 ^ 3 by omega) (Nat.pow_le_pow_right (by decide) (by decide))
  refine ss_cons (s1_set 2 (ee_call (fn__law_drawn h) (rm.mono (by decide)) (ea_cons (ee_call (fn__law_cell h) (rm.mono (by decide)) (ea_cons (ee_var 0 rfl) (ea_cons (ee_var 1 rfl) ea_nil)) ⟨ns, i, rfl, by omega, by omega, rfl⟩) (ea_cons (ee_var 1 rfl) ea_nil)) ⟨cellZ ns i, i, rfl, cellZ_lt hb (by omega), i1000, rfl⟩) ?_ nd)
  have hM := drawn_in (cellZ ns i) i
  generalize drawnZ (cellZ ns i) i = M at hM
  have small : ∀ j : Int, 0 ≤ j → j ≤ M → j.natAbs < 2 ^ 1000 := fun j h0 h1 => Nat.lt_of_lt_of_le (show j.natAbs < 2 ^ 129 by unfold cM at hM; omega) (Nat.pow_le_pow_right (by decide) (by decide))
  have dv : ∀ k : Int, 0 < k → (M / k).natAbs < 2 ^ 1000 := fun k hk => small _ (Int.ediv_nonneg hM.1 (by omega)) (Int.ediv_le_self k hM.1)
  obtain ⟨n, hn, hn1, hn9⟩ : ∃ n : Nat, 1 + M % 9 = (n : Int) ∧ 1 ≤ n ∧ n ≤ 9 := ⟨(1 + M % 9).toNat, by omega, by omega, by omega⟩
  have gv : Gv K (pC n) := gv_of hn1 hn9
  refine ss_cons (s1_newSheet 3 (fi_init h) (rm.mono (by decide)) (fun fs => ?_) nd)
  refine ss_cons (s1_if (et_is (et_lend 3 (frz_shB (now := now0) (past := []) (ahead := [])) rfl (et_cmp (ee_toldX told h.x_Nothing (fn_word_Nothing h) (fun A' outer' s' H' f' c' E' hr => (ex_meth0 (fm_undo h) (hr.mono (by decide)) (ee_var 3 rfl) (⟨_, _, rfl, rfl⟩)))) ee_str (od_ne gx (by decide +kernel) (by decide +kernel)) (nomark _))) (b' := false) (by decide +kernel)) (fun z => nomatch z) (fun _ => ss_nil ?_))
  refine ss_cons (s1_if (et_is (et_lend 3 (frz_shB (now := now0) (past := []) (ahead := [])) rfl (et_cmp (ee_toldX told h.x_Nothing (fn_word_Nothing h) (fun A' outer' s' H' f' c' E' hr => (ex_meth0 (fm_redo h) (hr.mono (by decide)) (ee_var 3 rfl) (⟨_, _, rfl, rfl⟩)))) ee_str (od_ne gx (by decide +kernel) (by decide +kernel)) (nomark _))) (b' := false) (by decide +kernel)) (fun z => nomatch z) (fun _ => ss_nil ?_))
  refine ss_cons (s1_set 4 (ee_is (ef_ee (ef_rep (ef_lst (ea_cons (ee_tup (ea_cons (ee_op ee_int (ee_op (ee_var 2 rfl) ee_int (od_mod (by decide))) od_add) (ea_cons ee_int ea_nil))) ea_nil)) ee_int (by decide) (by show (1 : Nat) * 7 ≤ 1000; decide))) (show _ = eP (pC n) by rw [hn, natF91]; rfl)) ?_ nd)
  generalize pC n = p at gv
  obtain ⟨g, l13, e0, e1, e2, hx⟩ := gv
  -- two rows
  refine ss_cons (s1_ifU (tu_wu (wu_orF (tu_is (tu_cmp (eu_meth 3 (t := ⟨nowS [] [], [], []⟩) (fe_put h) (rm.mono (by decide)) (ea_cons (ee_tup (ea_cons ee_str (ea_cons (ee_var 4 rfl) ea_nil))) ea_nil) (put_1 g)) ee_int (od_neC gx) (nomark _)) (by decide)) (wu_orF (tu_is (tu_cmp (eu_meth 3 (t := ⟨nowS [rgD p] [p], [nowS [] []], []⟩) (fe_put h) (rm.mono (by decide)) (ea_cons (ee_tup (ea_cons ee_str (ea_cons ee_int (ea_cons ee_int ea_nil)))) ea_nil) (put_2 g)) ee_int (od_neC gx) (nomark _)) (by decide)) (wu_or1 (tu_is (b' := false) (tu_et (et_lend 3 (Sht.frz (shJ p 0)) rfl (et_cmp (ee_lenC (ee_meth (fm_poly h) (rm.mono (by decide)) (ee_var 3 rfl) (ea_cons ee_int ea_nil) (⟨rsJ p 0, psJ p 0, psT p 0, [], 1, pmul p p, rfl, by rw [rsJ_len]; decide, rfl, rfl⟩)) h.b_len) ee_int (od_neC gx) (nomark _)))) (by rw [l13]; decide)))))) (fun z => nomatch z) (fun _ => ss_nil ?_))
  refine ss_cons (s1_for (fun _ γ => ∃ b, γ = [.dat (.list (ns.map .int)), .dat (.int (i : Nat)), .dat (.int M), .own (.b (shJ p 0).B fs), .dat (eP p), b, a6, a7, a8] ∧ ∀ z, b ≠ .own z) (ei_is (ei_list (ef_ee (ef_lst (ea_cons (ee_tup (ea_cons ee_str (ea_cons ee_int (ea_cons ee_int ea_nil)))) (ea_cons (ee_tup (ea_cons ee_str (ea_cons ee_int (ea_cons ee_int ea_nil)))) (ea_cons (ee_tup (ea_cons ee_str (ea_cons ee_int (ea_cons ee_int ea_nil)))) ea_nil)))))) (show _ = rows3 from rfl)) ⟨a5, rfl, no5⟩ (fun j d γ hd hI => ?_) (fun γ hI => ?_) hp rfl)
  · obtain ⟨b, rfl, nb⟩ := hI
    refine ⟨_, eg_name (i := 5) nd, ?_⟩
    refine ss_one (s1_if (et_is (et_lend 3 (Sht.frz (shJ p 0)) rfl (et_cmp (ee_toldX told h.x_BadPoly (fn_word_BadPoly h) (fun A' outer' s' H' f' c' E' hr => (ex_meth (fm_put h) (hr.mono (by decide)) (ee_var 3 rfl) (ea_cons (ee_var 5 rfl) ea_nil) (hx d (List.mem_of_getElem? hd))))) ee_str (od_ne gx (by decide +kernel) (by decide +kernel)) (nomark _))) (b' := false) (by decide +kernel)) (fun z => nomatch z) (fun _ => ss_nil ?_))
    exact ⟨.dat d, rfl, datO⟩
  obtain ⟨b5, rfl, n5⟩ := hI
  refine ss_cons (s1_if (et_is (et_lend 3 (Sht.frz (shJ p 0)) rfl (ew_et (ew_or (et_cmp (ee_toldX told h.x_BadPoly (fn_word_BadPoly h) (fun A' outer' s' H' f' c' E' hr => (ex_meth (fm_change h) (hr.mono (by decide)) (ee_var 3 rfl) (ea_cons ee_int (ea_cons (ee_is (ef_ee (ef_rep (ef_lst (ea_cons (ee_tup (ea_cons ee_int (ea_cons ee_int ea_nil))) ea_nil)) ee_int (by decide) (by decide))) (show _ = eP p8 from (rfl))) ea_nil)) (change_8)))) ee_str (od_ne gx (by decide +kernel) (by decide +kernel)) (nomark _)) (fun hk1 => (ew_or1 (et_cmp (ee_meth (fm_poly h) (rm.mono (by decide)) (ee_var 3 rfl) (ea_cons ee_int ea_nil) (⟨rsJ p 0, psJ p 0, psT p 0, [], 0, p, rfl, by rw [rsJ_len]; decide, rfl, rfl⟩)) (ee_var 4 rfl) (od_neC gx) (nomark _))))))) (b' := false) (by simp [PyData.eqv])) (fun z => nomatch z) (fun _ => ss_nil ?_))
  refine ss_cons (s1_for (fun _ γ => ∃ b6 b7, γ = [.dat (.list (ns.map .int)), .dat (.int (i : Nat)), .dat (.int M), .own (.b (shJ p 0).B fs), .dat (eP p), b5, b6, b7, a8] ∧ (∀ z, b6 ≠ .own z) ∧ ∀ z, b7 ≠ .own z) (ei_is (ei_list (ef_ee (ef_lst (ea_cons ee_int (ea_cons (ee_neg ee_int) (ea_cons ee_non (ea_cons ee_bl (ea_cons ee_str ea_nil)))))))) (show _ = bads5 from rfl)) ⟨a6, a7, rfl, no6, no7⟩ (fun j d γ hd hI => ?_) (fun γ hI => ?_) hp rfl)
  · obtain ⟨b6, b7, rfl, n6, n7⟩ := hI
    have hbad : wholeIn 2 d = false := bads5_no (List.mem_of_getElem? hd)
    have hthere : ∀ K, xThere K [(shJ p 0).d, d] (ec K "BadRow") := fun K => ⟨rsJ p 0, psJ p 0, psT p 0, [], d, rfl, by rw [rsJ_len]; exact hbad, rfl⟩
    refine ⟨_, eg_name (i := 6) nd, ?_⟩
    refine ss_cons (s1_setO 7 (ef_lst (ea_cons (ee_lend 3 (Sht.frz (shJ p 0)) imm_str rfl (ee_toldX told h.x_BadRow (fn_word_BadRow h) (fun A' outer' s' H' f' c' E' hr => (ex_meth (fm_change h) (hr.mono (by decide)) (ee_var 3 rfl) (ea_cons (ee_var 6 rfl) (ea_cons ee_non ea_nil)) (⟨rsJ p 0, psJ p 0, psT p 0, [], d, _, rfl, .inl ⟨by rw [rsJ_len]; exact hbad, rfl⟩⟩))))) ea_nil)) ?_ nd (fun es z => n7 es (by simpa using z)))
    refine ss_cons (s1_append 7 (ds := List.replicate 1 (.str "BadRow")) (ee_lend 3 (Sht.frz (shJ p 0)) imm_str rfl (ee_toldX told h.x_BadRow (fn_word_BadRow h) (fun A' outer' s' H' f' c' E' hr => (ex_meth (fm_drop h) (hr.mono (by decide)) (ee_var 3 rfl) (ea_cons (ee_var 6 rfl) ea_nil) (.inl (hthere K)))))) ?_ (by decide))
    refine ss_cons (s1_append 7 (ds := List.replicate 2 (.str "BadRow")) (ee_lend 3 (Sht.frz (shJ p 0)) imm_str rfl (ee_toldX told h.x_BadRow (fn_word_BadRow h) (fun A' outer' s' H' f' c' E' hr => (ex_meth (fm_poly h) (hr.mono (by decide)) (ee_var 3 rfl) (ea_cons (ee_var 6 rfl) ea_nil) (hthere K))))) ?_ (by decide))
    refine ss_cons (s1_append 7 (ds := List.replicate 3 (.str "BadRow")) (ee_lend 3 (Sht.frz (shJ p 0)) imm_str rfl (ee_toldX told h.x_BadRow (fn_word_BadRow h) (fun A' outer' s' H' f' c' E' hr => (ex_meth (fm_made_by h) (hr.mono (by decide)) (ee_var 3 rfl) (ea_cons (ee_var 6 rfl) ea_nil) (hthere K))))) ?_ (by decide))
    refine ss_freeze 7 (ds := List.replicate 4 (.str "BadRow")) (ss_one (s1_if (et_is (et_cmp (ee_is (ee_var 7 rfl) (show _ = PyData.list (List.replicate 4 (.str "BadRow")) from rfl)) (ef_ee (ef_rep (ef_lst (ea_cons ee_str ea_nil)) ee_int (by decide) (by decide))) (od_ne gx (by decide +kernel) (by decide +kernel)) (nomark _)) (b' := false) (by decide +kernel)) (fun z => nomatch z) (fun _ => ss_nil ?_)))
    exact ⟨.dat d, .dat (.list (List.replicate 4 (.str "BadRow"))), rfl, datO, datO⟩
  obtain ⟨b6, b7, rfl, n6, n7⟩ := hI
  refine ss_cons (s1_if (et_is (et_lend 3 (Sht.frz (shJ p 0)) rfl (et_cmp (ee_toldX told h.x_BadRow (fn_word_BadRow h) (fun A' outer' s' H' f' c' E' hr => (ex_meth (fm_change h) (hr.mono (by decide)) (ee_var 3 rfl) (ea_cons ee_int (ea_cons (ef_ee (ef_lst ea_nil)) ea_nil)) (⟨rsJ p 0, psJ p 0, psT p 0, [], _, _, rfl, .inr (.inl ⟨1, "product", [.int 0, .int 0], rfl, rfl, by decide +kernel, by decide +kernel, rfl⟩)⟩)))) ee_str (od_ne gx (by decide +kernel) (by decide +kernel)) (nomark _))) (b' := false) (by decide +kernel)) (fun z => nomatch z) (fun _ => ss_nil ?_))
  refine ss_cons (s1_if (et_is (et_lend 3 (Sht.frz (shJ p 0)) rfl (et_cmp (ee_toldX told h.x_BadRow (fn_word_BadRow h) (fun A' outer' s' H' f' c' E' hr => (ex_meth (fm_drop h) (hr.mono (by decide)) (ee_var 3 rfl) (ea_cons ee_int ea_nil) (drop_0)))) ee_str (od_ne gx (by decide +kernel) (by decide +kernel)) (nomark _))) (b' := false) (by decide +kernel)) (fun z => nomatch z) (fun _ => ss_nil ?_))
  refine ss_forget 8 (show (8 : Nat) < 9 by decide) ?_
  refine ss_cons (s1_ifU (tu_wu (wu_orF (tu_is (b' := false) (tu_et (et_lend 3 (Sht.frz (shJ p 0)) rfl (et_not (et_val (ee_callT (fnt__law_rows_bad h tb) (rm.mono (by decide)) (ea_cons (ee_var 3 rfl) ea_nil) ⟨rsJ p 0, psJ p 0, psT p 0, [], p, prD, rfl, rfl, rfl⟩))))) rfl)
    (wu_or1 (tu_is (b' := false) (tu_cmp (eu_lc 3 8 (ds := rangeD 0 18) (fun k => (shJ p k).B) (fun k => .int ((2 + k : Nat) : Int)) (by decide) rfl nd (ei_range1 ee_int (by decide) h.b_range) (blkOk_by (own := [("j", 8)]) (N := ["script", "k", "more", "sheet", "poly", "row", "bad", "found", "j"]) (sc := defScope (top 44)) (by decide +kernel)) (fun _ _ _ _ _ => pg_name (i := 8) nd rfl (Or.inl rfl)) rfl rfl (fun k d hd s1 H1 C1 cl1 fp1 => ?put) (fun k => imm_int) (by decide)) (ee_lrg2 ee_int ee_int (by decide) (by decide) h.b_list h.b_range rfl) (od_ne gx ?sh1 ?sh2) (nomark _)) ?eq)))) (fun z => nomatch z) (fun _ => ss_nil ?_))
  case put =>
    obtain ⟨hk, _⟩ := rangeD_get hd
    exact eu_meth 3 (t := shJ p k) (fe_put h) (rm.mono (by decide)) (ea_cons (ee_tup (ea_cons ee_str (ea_cons ee_int ea_nil))) ea_nil) (put_s g k hk)
  case sh1 => decide +kernel
  case sh2 => decide +kernel
  case eq => decide +kernel
  have hJ : (rangeD 0 18).length = 18 := by decide
  generalize (rangeD 0 18).length = J at hJ
  have hlen : (rsJ p J).length = 20 := by rw [rsJ_len, hJ]
  refine ss_cons (s1_if (et_is (b' := false) (et_lend 3 (Sht.frz (shJ p J)) rfl (ew_et (ew_or (et_cmp (ee_toldX told h.x_BadRow (fn_word_BadRow h) (fun A' outer' s' H' f' c' E' hr => (ex_meth (fm_put h) (hr.mono (by decide)) (ee_var 3 rfl) (ea_cons ee_non ea_nil) (⟨rsJ p J, psJ p J, psT p J, [], _, rfl, .inl ⟨by rw [hlen]; decide, rfl⟩⟩)))) ee_str (od_ne gx (by decide +kernel) (by decide +kernel)) (nomark _)) (fun _ => ew_or1 (et_cmp (ee_meth0 (fm_numbers h) (rm.mono (by decide)) (ee_var 3 rfl) (⟨rsJ p J, psJ p J, psT p J, [], by rw [hlen]; decide, rfl, rfl⟩)) (ee_lrg1 ee_int (by decide) h.b_list h.b_range rfl) (od_ne gx ?sh3 ?sh4) (nomark _)))))) ?eq2) (fun z => nomatch z) (fun _ => ss_nil ?_))
  case sh3 => rw [hlen]; decide +kernel
  case sh4 => decide +kernel
  case eq2 => rw [hlen]; decide +kernel
  refine ss_cons (s1_ifU (tu_wu (wu_orF (tu_is (b' := false) (tu_et (et_lend 3 (Sht.frz (shJ p J)) rfl (et_cmp (ee_toldX told h.x_Nothing (fn_word_Nothing h) (fun A' outer' s' H' f' c' E' hr => (ex_meth0 (fm_redo h) (hr.mono (by decide)) (ee_var 3 rfl) (⟨_, _, rfl, rfl⟩)))) ee_str (od_ne gx (by decide +kernel) (by decide +kernel)) (nomark _)))) (by decide +kernel))
    (wu_or1 (tu_is (b' := false) (tu_cmp (eu_meth 3 (t := shJ p J) (fe_change h) (rm.mono (by decide)) (ea_cons ee_int (ea_cons (ee_lst ea_nil) ea_nil)) (change_n e0 e1 e2 hJ)) (ee_lrg1 ee_int (by decide) h.b_list h.b_range rfl) (od_ne gx ?sh5 ?sh6) (nomark _)) ?eq3)))) (fun z => nomatch z) (fun _ => ?_))
  case sh5 => decide +kernel
  case sh6 => decide +kernel
  case eq3 => decide +kernel
  refine ss_freezeD 3 (Sht.frz ⟨nowS (rsJ [] J) (psJ [] J), psT p J ++ [nowS (rsJ p J) (psJ p J)], []⟩) (ss_nil (ss_nil ?_))
  exact ⟨[.dat (.int (i : Nat)), .dat (.int M), .dat _, .dat (eP p), b5, b6, b7, .no], rfl, rfl, noL datO datO datO datO n5 n6 n7 noO⟩


/-! ### the head -/
def hfn : List He.DefD := [⟨("_wall", none), "_wall", "_wall", defArgs (top 0), defBody (top 0), defScope (top 0), [], []⟩,
  ⟨("common", none), "common", "common", defArgs (top 12), defBody (top 12), defScope (top 12), [], []⟩,
  ⟨("fraction", none), "fraction", "fraction", defArgs (top 13), defBody (top 13), defScope (top 13), [], []⟩,
  ⟨("plus", none), "plus", "plus", defArgs (top 14), defBody (top 14), defScope (top 14), [], []⟩,
  ⟨("times", none), "times", "times", defArgs (top 15), defBody (top 15), defScope (top 15), [], []⟩,
  ⟨("is_fraction", none), "is_fraction", "is_fraction", defArgs (top 16), defBody (top 16), defScope (top 16), [], []⟩,
  ⟨("is_poly", none), "is_poly", "is_poly", defArgs (top 19), defBody (top 19), defScope (top 19), [], []⟩,
  ⟨("need_poly", none), "need_poly", "need_poly", defArgs (top 20), defBody (top 20), defScope (top 20), [], []⟩,
  ⟨("trimmed", none), "trimmed", "trimmed", defArgs (top 21), defBody (top 21), defScope (top 21), [], []⟩,
  ⟨("tellable", none), "tellable", "tellable", defArgs (top 22), defBody (top 22), defScope (top 22), [], []⟩,
  ⟨("fraction_at", none), "fraction_at", "fraction_at", defArgs (top 23), defBody (top 23), defScope (top 23), [], []⟩,
  ⟨("added", none), "added", "added", defArgs (top 24), defBody (top 24), defScope (top 24), [], []⟩,
  ⟨("scaled", none), "scaled", "scaled", defArgs (top 25), defBody (top 25), defScope (top 25), [], []⟩,
  ⟨("taken_off", none), "taken_off", "taken_off", defArgs (top 26), defBody (top 26), defScope (top 26), [], []⟩,
  ⟨("multiplied", none), "multiplied", "multiplied", defArgs (top 27), defBody (top 27), defScope (top 27), [], []⟩,
  ⟨("slope_of", none), "slope_of", "slope_of", defArgs (top 28), defBody (top 28), defScope (top 28), [], []⟩,
  ⟨("composed_of", none), "composed_of", "composed_of", defArgs (top 30), defBody (top 30), defScope (top 30), [], []⟩,
  ⟨("is_whole", none), "is_whole", "is_whole", defArgs (top 34), defBody (top 34), defScope (top 34), [], []⟩,
  ⟨("come_of", none), "come_of", "come_of", defArgs (top 35), defBody (top 35), defScope (top 35), [], []⟩,
  ⟨("polys_of", none), "polys_of", "polys_of", defArgs (top 36), defBody (top 36), defScope (top 36), [], []⟩,
  ⟨("_law_cell", none), "_law_cell", "_law_cell", defArgs (top 39), defBody (top 39), defScope (top 39), [], []⟩,
  ⟨("_law_drawn", none), "_law_drawn", "_law_drawn", defArgs (top 40), defBody (top 40), defScope (top 40), [], []⟩,
  ⟨("_law_word", none), "_law_word", "_law_word", defArgs (top 41), defBody (top 41), defScope (top 41), [], []⟩,
  ⟨("_law_told", none), "_law_told", "_law_told", defArgs (top 42), defBody (top 42), defScope (top 42), [], []⟩,
  ⟨("_law_rows_bad", none), "_law_rows_bad", "_law_rows_bad", defArgs (top 43), defBody (top 43), defScope (top 43), [], []⟩,
  ⟨("law", none), "law", "law", defArgs (top 44), defBody (top 44), defScope (top 44), [], []⟩,
  ⟨("Sheet", some "__init__"), "__init__", "Sheet.__init__", defArgs (inClass (top 37) 0), defBody (inClass (top 37) 0), defScope (inClass (top 37) 0), [], []⟩,
  ⟨("Sheet", some "become"), "become", "Sheet.become", defArgs (inClass (top 37) 1), defBody (inClass (top 37) 1), defScope (inClass (top 37) 1), [], []⟩,
  ⟨("Sheet", some "need_row"), "need_row", "Sheet.need_row", defArgs (inClass (top 37) 2), defBody (inClass (top 37) 2), defScope (inClass (top 37) 2), [], []⟩,
  ⟨("Sheet", some "need_there"), "need_there", "Sheet.need_there", defArgs (inClass (top 37) 3), defBody (inClass (top 37) 3), defScope (inClass (top 37) 3), [], []⟩,
  ⟨("Sheet", some "put"), "put", "Sheet.put", defArgs (inClass (top 37) 4), defBody (inClass (top 37) 4), defScope (inClass (top 37) 4), [], []⟩,
  ⟨("Sheet", some "change"), "change", "Sheet.change", defArgs (inClass (top 37) 5), defBody (inClass (top 37) 5), defScope (inClass (top 37) 5), [], []⟩,
  ⟨("Sheet", some "drop"), "drop", "Sheet.drop", defArgs (inClass (top 37) 6), defBody (inClass (top 37) 6), defScope (inClass (top 37) 6), [], []⟩,
  ⟨("Sheet", some "undo"), "undo", "Sheet.undo", defArgs (inClass (top 37) 7), defBody (inClass (top 37) 7), defScope (inClass (top 37) 7), [], []⟩,
  ⟨("Sheet", some "redo"), "redo", "Sheet.redo", defArgs (inClass (top 37) 8), defBody (inClass (top 37) 8), defScope (inClass (top 37) 8), [], []⟩,
  ⟨("Sheet", some "numbers"), "numbers", "Sheet.numbers", defArgs (inClass (top 37) 9), defBody (inClass (top 37) 9), defScope (inClass (top 37) 9), [], []⟩,
  ⟨("Sheet", some "poly"), "poly", "Sheet.poly", defArgs (inClass (top 37) 10), defBody (inClass (top 37) 10), defScope (inClass (top 37) 10), [], []⟩,
  ⟨("Sheet", some "made_by"), "made_by", "Sheet.made_by", defArgs (inClass (top 37) 11), defBody (inClass (top 37) 11), defScope (inClass (top 37) 11), [], []⟩,
  ⟨("Sheet", some "alike"), "alike", "Sheet.alike", defArgs (inClass (top 37) 12), defBody (inClass (top 37) 12), defScope (inClass (top 37) 12), [], []⟩]
def htb : List He.Tab := [((fun K => He.ga K "SIZES"), ["given", "sum", "less", "product", "composed", "slope"])]
def hfa : List He.Fa := [.glo "_wall", .glo "common", .glo "fraction", .glo "plus", .glo "times", .glo "is_fraction", .glo "is_poly", .glo "need_poly",
  .glo "trimmed", .glo "tellable", .glo "fraction_at", .glo "added", .glo "scaled", .glo "taken_off", .glo "multiplied", .glo "slope_of",
  .glo "composed_of", .glo "is_whole", .glo "come_of", .glo "polys_of", .glo "_law_cell", .glo "_law_drawn", .glo "_law_word", .glo "_law_told",
  .glo "_law_rows_bad", .glo "law", .free "ValueError", .free "abs", .free "all", .free "bool", .free "dict", .free "enumerate",
  .free "int", .free "isinstance", .free "len", .free "list", .free "max", .free "min", .free "range", .free "sorted",
  .free "str", .free "sum", .free "tuple", .glo "NoughtError", .exc "NoughtError", .glo "BadPoly", .exc "BadPoly", .glo "NoWay",
  .exc "NoWay", .glo "BadStretch", .exc "BadStretch", .glo "BadForm", .exc "BadForm", .glo "BadPoints", .exc "BadPoints", .glo "BadRow",
  .exc "BadRow", .glo "Nothing", .exc "Nothing", .exm "BadPoly" "NoughtError" true, .exm "NoWay" "NoughtError" true, .exm "BadStretch" "NoughtError" true, .exm "BadForm" "NoughtError" true, .exm "BadPoints" "NoughtError" true,
  .exm "BadRow" "NoughtError" true, .exm "Nothing" "NoughtError" true, .glo "NOUGHT", .int "MOST" 13, .int "MOST_ROWS" 20, .cls "Sheet", .glo "Sheet", .noat "Sheet" "now",
  .noat "Sheet" "past", .noat "Sheet" "ahead", .mkr "Sheet", .meth "Sheet" "become", .meth "Sheet" "need_row", .meth "Sheet" "need_there", .meth "Sheet" "put", .meth "Sheet" "change",
  .meth "Sheet" "drop", .meth "Sheet" "undo", .meth "Sheet" "redo", .meth "Sheet" "numbers", .meth "Sheet" "poly", .meth "Sheet" "made_by", .meth "Sheet" "alike", .glo "SIZES",
  .glo "__builtins__"]
def hex : List (PySem.W.Frag → Bool) := [seerB, noLst, excB "BadPoly", kitV "BadPoly", kitX "BadPoly" "BadPoly" true, kitX "BadPoly" "NoWay" false,
  kitX "BadPoly" "BadStretch" false, kitX "BadPoly" "BadForm" false, kitX "BadPoly" "BadPoints" false, kitX "BadPoly" "BadRow" false, kitX "BadPoly" "Nothing" false, excB "NoWay",
  kitV "NoWay", kitX "NoWay" "BadPoly" false, kitX "NoWay" "NoWay" true, kitX "NoWay" "BadStretch" false, kitX "NoWay" "BadForm" false, kitX "NoWay" "BadPoints" false,
  kitX "NoWay" "BadRow" false, kitX "NoWay" "Nothing" false, excB "BadStretch", kitV "BadStretch", kitX "BadStretch" "BadPoly" false, kitX "BadStretch" "NoWay" false,
  kitX "BadStretch" "BadStretch" true, kitX "BadStretch" "BadForm" false, kitX "BadStretch" "BadPoints" false, kitX "BadStretch" "BadRow" false, kitX "BadStretch" "Nothing" false, excB "BadForm",
  kitV "BadForm", kitX "BadForm" "BadPoly" false, kitX "BadForm" "NoWay" false, kitX "BadForm" "BadStretch" false, kitX "BadForm" "BadForm" true, kitX "BadForm" "BadPoints" false,
  kitX "BadForm" "BadRow" false, kitX "BadForm" "Nothing" false, excB "BadPoints", kitV "BadPoints", kitX "BadPoints" "BadPoly" false, kitX "BadPoints" "NoWay" false,
  kitX "BadPoints" "BadStretch" false, kitX "BadPoints" "BadForm" false, kitX "BadPoints" "BadPoints" true, kitX "BadPoints" "BadRow" false, kitX "BadPoints" "Nothing" false, excB "BadRow",
  kitV "BadRow", kitX "BadRow" "BadPoly" false, kitX "BadRow" "NoWay" false, kitX "BadRow" "BadStretch" false, kitX "BadRow" "BadForm" false, kitX "BadRow" "BadPoints" false,
  kitX "BadRow" "BadRow" true, kitX "BadRow" "Nothing" false, excB "Nothing", kitV "Nothing", kitX "Nothing" "BadPoly" false, kitX "Nothing" "NoWay" false,
  kitX "Nothing" "BadStretch" false, kitX "Nothing" "BadForm" false, kitX "Nothing" "BadPoints" false, kitX "Nothing" "BadRow" false, kitX "Nothing" "Nothing" true, kTwo "NOUGHT" 0 1,
  obB "Sheet", kAtB "SIZES" "given" (some 2), kAtB "SIZES" "sum" (some 3), kAtB "SIZES" "less" (some 3), kAtB "SIZES" "product" (some 3), kAtB "SIZES" "composed" (some 3),
  kAtB "SIZES" "slope" (some 2), kAtB "SIZES" "plus" none, neT "law" "_law_rows_bad", neT "_law_rows_bad" "law"]
def htf : List He.Defn := [("law", none), ("_law_rows_bad", none)]
def hlo0 : List Str := ["__name__", "_wall", "common", "fraction", "plus", "times", "is_fraction", "is_poly", "need_poly", "trimmed", "tellable", "fraction_at", "added", "scaled", "taken_off", "multiplied", "slope_of", "composed_of", "is_whole", "come_of", "polys_of", "_law_cell", "_law_drawn", "_law_word", "_law_told", "_law_rows_bad", "NoughtError", "BadPoly", "NoWay", "BadStretch"]
def hlo1 : List Str := ["BadForm", "BadPoints", "BadRow", "Nothing", "Sheet", "SIZES", "NOUGHT", "MOST", "MOST_ROWS"]
def hlo : List Str := hlo0 ++ hlo1
theorem hd_of {w : World} {h base : Heap} {K : PySem.W.Frag} {mg : Str → Option Value} (X : K.In base) (G : base.Ns mainGlobals mg) (ns : base.NoSeer) (c : He.SaysX hfa hfn htb htf (fun K => hex.all fun f => f K) w h K) : Hd w K mg base where
  ns := ns
  d__wall := says_fe X G c 0 0
  d_common := says_fe X G c 1 1
  d_fraction := says_fe X G c 2 2
  d_plus := says_fe X G c 3 3
  d_times := says_fe X G c 4 4
  d_is_fraction := says_fe X G c 5 5
  d_is_poly := says_fe X G c 6 6
  d_need_poly := says_fe X G c 7 7
  d_trimmed := says_fe X G c 8 8
  d_tellable := says_fe X G c 9 9
  d_fraction_at := says_fe X G c 10 10
  d_added := says_fe X G c 11 11
  d_scaled := says_fe X G c 12 12
  d_taken_off := says_fe X G c 13 13
  d_multiplied := says_fe X G c 14 14
  d_slope_of := says_fe X G c 15 15
  d_composed_of := says_fe X G c 16 16
  d_is_whole := says_fe X G c 17 17
  d_come_of := says_fe X G c 18 18
  d_polys_of := says_fe X G c 19 19
  d__law_cell := says_fe X G c 20 20
  d__law_drawn := says_fe X G c 21 21
  d__law_word := says_fe X G c 22 22
  d__law_told := says_fe X G c 23 23
  d__law_rows_bad := says_fe X G c 24 24
  d_law := says_fe X G c 25 25
  g_law := He.glo_ok X G (c.t.d.fact 25 rfl)
  g__law_rows_bad := He.glo_ok X G (c.t.d.fact 24 rfl)
  b_ValueError := says_free X G c 26
  b_abs := says_free X G c 27
  b_all := says_free X G c 28
  b_bool := says_free X G c 29
  b_dict := says_free X G c 30
  b_enumerate := says_free X G c 31
  b_int := says_free X G c 32
  b_isinstance := says_free X G c 33
  b_len := says_free X G c 34
  b_list := says_free X G c 35
  b_max := says_free X G c 36
  b_min := says_free X G c 37
  b_range := says_free X G c 38
  b_sorted := says_free X G c 39
  b_str := says_free X G c 40
  b_sum := says_free X G c 41
  b_tuple := says_free X G c 42
  e_NoughtError := says_err X G c 43 44
  e_BadPoly := says_err X G c 45 46
  e_NoWay := says_err X G c 47 48
  e_BadStretch := says_err X G c 49 50
  e_BadForm := says_err X G c 51 52
  e_BadPoints := says_err X G c 53 54
  e_BadRow := says_err X G c 55 56
  e_Nothing := says_err X G c 57 58
  c_BadPoly := excB_ok (says_ex c 2)
  x_BadPoly := says_exm c 59
  v_BadPoly := eqB_ok (says_ex (f := kitV "BadPoly") c 3)
  i_BadPoly_BadPoly := eqB_ok (says_ex (f := kitX "BadPoly" "BadPoly" true) c 4)
  i_BadPoly_NoWay := eqB_ok (says_ex (f := kitX "BadPoly" "NoWay" false) c 5)
  i_BadPoly_BadStretch := eqB_ok (says_ex (f := kitX "BadPoly" "BadStretch" false) c 6)
  i_BadPoly_BadForm := eqB_ok (says_ex (f := kitX "BadPoly" "BadForm" false) c 7)
  i_BadPoly_BadPoints := eqB_ok (says_ex (f := kitX "BadPoly" "BadPoints" false) c 8)
  i_BadPoly_BadRow := eqB_ok (says_ex (f := kitX "BadPoly" "BadRow" false) c 9)
  i_BadPoly_Nothing := eqB_ok (says_ex (f := kitX "BadPoly" "Nothing" false) c 10)
  c_NoWay := excB_ok (says_ex c 11)
  x_NoWay := says_exm c 60
  v_NoWay := eqB_ok (says_ex (f := kitV "NoWay") c 12)
  i_NoWay_BadPoly := eqB_ok (says_ex (f := kitX "NoWay" "BadPoly" false) c 13)
  i_NoWay_NoWay := eqB_ok (says_ex (f := kitX "NoWay" "NoWay" true) c 14)
  i_NoWay_BadStretch := eqB_ok (says_ex (f := kitX "NoWay" "BadStretch" false) c 15)
  i_NoWay_BadForm := eqB_ok (says_ex (f := kitX "NoWay" "BadForm" false) c 16)
  i_NoWay_BadPoints := eqB_ok (says_ex (f := kitX "NoWay" "BadPoints" false) c 17)
  i_NoWay_BadRow := eqB_ok (says_ex (f := kitX "NoWay" "BadRow" false) c 18)
  i_NoWay_Nothing := eqB_ok (says_ex (f := kitX "NoWay" "Nothing" false) c 19)
  c_BadStretch := excB_ok (says_ex c 20)
  x_BadStretch := says_exm c 61
  v_BadStretch := eqB_ok (says_ex (f := kitV "BadStretch") c 21)
  i_BadStretch_BadPoly := eqB_ok (says_ex (f := kitX "BadStretch" "BadPoly" false) c 22)
  i_BadStretch_NoWay := eqB_ok (says_ex (f := kitX "BadStretch" "NoWay" false) c 23)
  i_BadStretch_BadStretch := eqB_ok (says_ex (f := kitX "BadStretch" "BadStretch" true) c 24)
  i_BadStretch_BadForm := eqB_ok (says_ex (f := kitX "BadStretch" "BadForm" false) c 25)
  i_BadStretch_BadPoints := eqB_ok (says_ex (f := kitX "BadStretch" "BadPoints" false) c 26)
  i_BadStretch_BadRow := eqB_ok (says_ex (f := kitX "BadStretch" "BadRow" false) c 27)
  i_BadStretch_Nothing := eqB_ok (says_ex (f := kitX "BadStretch" "Nothing" false) c 28)
  c_BadForm := excB_ok (says_ex c 29)
  x_BadForm := says_exm c 62
  v_BadForm := eqB_ok (says_ex (f := kitV "BadForm") c 30)
  i_BadForm_BadPoly := eqB_ok (says_ex (f := kitX "BadForm" "BadPoly" false) c 31)
  i_BadForm_NoWay := eqB_ok (says_ex (f := kitX "BadForm" "NoWay" false) c 32)
  i_BadForm_BadStretch := eqB_ok (says_ex (f := kitX "BadForm" "BadStretch" false) c 33)
  i_BadForm_BadForm := eqB_ok (says_ex (f := kitX "BadForm" "BadForm" true) c 34)
  i_BadForm_BadPoints := eqB_ok (says_ex (f := kitX "BadForm" "BadPoints" false) c 35)
  i_BadForm_BadRow := eqB_ok (says_ex (f := kitX "BadForm" "BadRow" false) c 36)
  i_BadForm_Nothing := eqB_ok (says_ex (f := kitX "BadForm" "Nothing" false) c 37)
  c_BadPoints := excB_ok (says_ex c 38)
  x_BadPoints := says_exm c 63
  v_BadPoints := eqB_ok (says_ex (f := kitV "BadPoints") c 39)
  i_BadPoints_BadPoly := eqB_ok (says_ex (f := kitX "BadPoints" "BadPoly" false) c 40)
  i_BadPoints_NoWay := eqB_ok (says_ex (f := kitX "BadPoints" "NoWay" false) c 41)
  i_BadPoints_BadStretch := eqB_ok (says_ex (f := kitX "BadPoints" "BadStretch" false) c 42)
  i_BadPoints_BadForm := eqB_ok (says_ex (f := kitX "BadPoints" "BadForm" false) c 43)
  i_BadPoints_BadPoints := eqB_ok (says_ex (f := kitX "BadPoints" "BadPoints" true) c 44)
  i_BadPoints_BadRow := eqB_ok (says_ex (f := kitX "BadPoints" "BadRow" false) c 45)
  i_BadPoints_Nothing := eqB_ok (says_ex (f := kitX "BadPoints" "Nothing" false) c 46)
  c_BadRow := excB_ok (says_ex c 47)
  x_BadRow := says_exm c 64
  v_BadRow := eqB_ok (says_ex (f := kitV "BadRow") c 48)
  i_BadRow_BadPoly := eqB_ok (says_ex (f := kitX "BadRow" "BadPoly" false) c 49)
  i_BadRow_NoWay := eqB_ok (says_ex (f := kitX "BadRow" "NoWay" false) c 50)
  i_BadRow_BadStretch := eqB_ok (says_ex (f := kitX "BadRow" "BadStretch" false) c 51)
  i_BadRow_BadForm := eqB_ok (says_ex (f := kitX "BadRow" "BadForm" false) c 52)
  i_BadRow_BadPoints := eqB_ok (says_ex (f := kitX "BadRow" "BadPoints" false) c 53)
  i_BadRow_BadRow := eqB_ok (says_ex (f := kitX "BadRow" "BadRow" true) c 54)
  i_BadRow_Nothing := eqB_ok (says_ex (f := kitX "BadRow" "Nothing" false) c 55)
  c_Nothing := excB_ok (says_ex c 56)
  x_Nothing := says_exm c 65
  v_Nothing := eqB_ok (says_ex (f := kitV "Nothing") c 57)
  i_Nothing_BadPoly := eqB_ok (says_ex (f := kitX "Nothing" "BadPoly" false) c 58)
  i_Nothing_NoWay := eqB_ok (says_ex (f := kitX "Nothing" "NoWay" false) c 59)
  i_Nothing_BadStretch := eqB_ok (says_ex (f := kitX "Nothing" "BadStretch" false) c 60)
  i_Nothing_BadForm := eqB_ok (says_ex (f := kitX "Nothing" "BadForm" false) c 61)
  i_Nothing_BadPoints := eqB_ok (says_ex (f := kitX "Nothing" "BadPoints" false) c 62)
  i_Nothing_BadRow := eqB_ok (says_ex (f := kitX "Nothing" "BadRow" false) c 63)
  i_Nothing_Nothing := eqB_ok (says_ex (f := kitX "Nothing" "Nothing" true) c 64)
  k_NOUGHT := says_two X G c 66 65
  k_MOST := says_int X G c 67
  k_MOST_ROWS := says_int X G c 68
  o_Sheet := obB_ok (says_ex (f := obB "Sheet") c 66) (says_cls c 69)
  g_Sheet := He.glo_ok X G (c.t.d.fact 70 rfl)
  n_now := says_noat c 71
  n_past := says_noat c 72
  n_ahead := says_noat c 73
  m___init__ := says_mk c 74 26
  m_become := says_me X c 75 27
  m_need_row := says_me X c 76 28
  m_need_there := says_me X c 77 29
  m_put := says_me X c 78 30
  m_change := says_me X c 79 31
  m_drop := says_me X c 80 32
  m_undo := says_me X c 81 33
  m_redo := says_me X c 82 34
  m_numbers := says_me X c 83 35
  m_poly := says_me X c 84 36
  m_made_by := says_me X c 85 37
  m_alike := says_me X c 86 38
  z_SIZES_given := ⟨He.glo_ok X G (c.t.d.fact 87 rfl), c.t.tab 0, kAtB_ok (says_ex (f := kAtB "SIZES" "given" (some 2)) c 67)⟩
  z_SIZES_sum := ⟨He.glo_ok X G (c.t.d.fact 87 rfl), c.t.tab 0, kAtB_ok (says_ex (f := kAtB "SIZES" "sum" (some 3)) c 68)⟩
  z_SIZES_less := ⟨He.glo_ok X G (c.t.d.fact 87 rfl), c.t.tab 0, kAtB_ok (says_ex (f := kAtB "SIZES" "less" (some 3)) c 69)⟩
  z_SIZES_product := ⟨He.glo_ok X G (c.t.d.fact 87 rfl), c.t.tab 0, kAtB_ok (says_ex (f := kAtB "SIZES" "product" (some 3)) c 70)⟩
  z_SIZES_composed := ⟨He.glo_ok X G (c.t.d.fact 87 rfl), c.t.tab 0, kAtB_ok (says_ex (f := kAtB "SIZES" "composed" (some 3)) c 71)⟩
  z_SIZES_slope := ⟨He.glo_ok X G (c.t.d.fact 87 rfl), c.t.tab 0, kAtB_ok (says_ex (f := kAtB "SIZES" "slope" (some 2)) c 72)⟩
  z_SIZES_plus := ⟨He.glo_ok X G (c.t.d.fact 87 rfl), c.t.tab 0, kAtB_ok (says_ex (f := kAtB "SIZES" "plus" none) c 73)⟩
theorem hd_seer {w : World} {h base : Heap} {K : PySem.W.Frag} {mg : Str → Option Value} (X : K.In base) (G : base.Ns mainGlobals mg) (c : He.SaysX hfa hfn htb htf (fun K => hex.all fun f => f K) w h K)
    (hbl : ∃ mb, base.Ns builtinsNs mb ∧ ∀ x : Str, x ≠ "__name__" → mb x = bootBuiltins x) : base.NoSeer := seer_of (says_ex (f := seerB) c 0) X G (He.glo_ok X G (c.t.d.fact 88 rfl)) hbl
abbrev hR : PySem.W.OpenRow := PySem.W.OpenLaw.row PySem.Challenge.rw_abovenought_k91_sheets_refused
abbrev hk : PySem.W.Hook := hookN 6 hfa hfn htb htf hex
def hob (s : PySem.W.SharedT) : He.AlX := obsN 6 hfa hfn htb htf hex (HandSHeadRun.getT s)
theorem hob_eq (s : PySem.W.SharedT) : hob s = hk.obs s.abs := obsN_eq (HandSHeadRun.getT_eq s)
theorem hrun (w : World) : HandSHeadRun.RunEq hR (PySem.W.view hR.prog [44]) hk hob 4000 hlo w := by
  refine PySem.W.byRow2 "special-get-raises" (P := fun w => HandSHeadRun.RunEq hR (PySem.W.view hR.prog [44]) hk hob 4000 hlo w) (fun w os => ?_) (fun w os => ?_) w
  · kernel_rfl
  · kernel_rfl


theorem law_at {w : World} {K : PySem.W.Frag} {h : Heap} {mg : Str → Option Value} {fa : Addr} (X : K.In h) (G : h.Ns mainGlobals mg) (hmg : mg ("law" : Str) = some (.ref fa)) (c : He.SaysX hfa hfn htb htf (fun K => hex.all fun f => f K) w h K) :
    LamX.LawAtS PySem.Challenge.rw_abovenought_k91_sheets_refused w K (L2N.CX PR w) 61 63 "script" mg fa h := by
  obtain ⟨fd, F⟩ := c.t.d.def_ 25 (d := ⟨("law", none), "law", "law", defArgs (top 44), defBody (top 44), defScope (top 44), [], []⟩) rfl
  have eg := hmg.symm.trans (He.glo_ok X G (c.t.d.fact 25 (f := .glo "law") rfl))
  have ef : fa = He.ga K "law" := by
    injection eg with eg
    injection eg
  subst ef
  have b := FunD.bindsA (ps := ["script"]) F fun _ _ _ _ _ _ us hl => match us, hl with | [_], _ => rfl
  refine ⟨fd, [He.cT K ("law", none), He.cT K ("_law_rows_bad", none)], spLaw (lT K) 63, fun p hp => ?_, fun p hp => ?_, fun p hp => ?_, fun s v => b s [v] rfl, fun H a ns hl hb hT hS => ⟨a, ns, rfl, hl, hb, fun p hp => ?_, noLst_ok (says_ex (f := noLst) c 1) hS, fun _ => rfl⟩, fun base XB GB TB => ?_⟩
  · simp only [List.mem_cons, List.not_mem_nil, or_false] at hp
    rcases hp with rfl | rfl
    · exact c.empty _ (show _ ∈ htf by decide)
    · exact c.empty _ (show _ ∈ htf by decide)
  · simp only [List.mem_cons, List.not_mem_nil, or_false] at hp
    rcases hp with rfl | rfl
    · exact c.out _ (show _ ∈ htf by decide)
    · exact c.out _ (show _ ∈ htf by decide)
  · simp only [List.mem_cons, List.not_mem_nil, or_false] at hp
    rcases hp with rfl | rfl
    · exact PySem.W.codeHd_of_K X (c.hd _ (show _ ∈ htf by decide))
    · exact PySem.W.codeHd_of_K X (c.hd _ (show _ ∈ htf by decide))
  · simp only [lT, List.mem_cons, List.not_mem_nil, or_false] at hp
    rcases hp with rfl | rfl
    · exact hT _ (by simp)
    · exact hT _ (by simp)
  · refine law_mk (T := (lT K)) (st := top 44) F sc_law rfl rfl (by decide) (fun hbl => hd_seer XB GB c hbl) (fun seer cdv A outer s H E X hX gx hp hcode ns hn hb => ?_)
    subst hX
    exact law_ss (hd_of XB GB seer c) ⟨TB _ (by simp), TB _ (by simp), neT_ok (says_ex (f := neT "law" "_law_rows_bad") c 74), neT_ok (says_ex (f := neT "_law_rows_bad" "law") c 75)⟩ gx hp hcode ns hn hb
end
end An
open PySem PySem.W PySem.Calls PyProof.Rows in
theorem PySem.Challenge.cw_abovenought_k91_sheets_refused_holds : PySem.Challenge.rw_abovenought_k91_sheets_refused.Holds := by
  w_on; o_law
  refine HandSHeadRun.head_any (r := An.hR) (q := view An.hR.prog [44]) (H := An.hk) (ob := An.hob) (M := 4000) (loose := An.hlo) (d := HandSHeadRun.topDef An.hR.prog 44) (kwd := []) An.hob_eq (by kernel_rfl) (fun s => by kernel_rfl) An.hrun (by kernel_rfl) (by kernel_rfl) (by kernel_rfl) (by rfl) (by first | assumption | decide +kernel) (by decide +kernel) ⟨rfl, rfl, rfl, rfl, rfl, by decide +kernel⟩ ?hw ?hc
  case hw => w_witness2
  case hc =>
    refine LamX.walk_ofTsE (l := PySem.Challenge.rw_abovenought_k91_sheets_refused) (n := 63) (k := 61) (x := "script") (CX := fun w => L2N.CX An.PR w) rfl (by decide) (by kernel_rfl) ⟨rfl, by decide, by decide⟩ ?F (fun w H s e s' z => ?G)
    case G =>
      obtain ⟨_, _, _, _, _, _, _, _, _, _, _, _, q⟩ := z
      exact q
    case F =>
      intro w mg fa h Y G hmg0
      obtain ⟨K, KX, c⟩ := Y
      have e : (HandSHeadRun.topDef An.hR.prog 44).name = ("law" : PySem.Str) := by kernel_rfl
      rw [e] at hmg0
      exact ⟨K, KX, An.law_at KX G hmg0 c⟩
namespace An
section


end
end An
