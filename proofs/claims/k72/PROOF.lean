import PyProof.Rows.All
import Wide.All
import OpenK.AllK
import Wide.FinOn
import HandS.ForMost
import HandS.StrMore
import HandS.IsInst
import HandS.Zip
import HandS.Style
import HandS.Flow
import HandS.Walk
import HandS.WideBits
import HandS.Exc
import HandS.WordsExc
import HandS.Evl
import KE.IntTextLaws
import PySem.Challenge.RW_roadsettings_k72_sheets_read
set_option Elab.async false
set_option linter.all false
set_option maxRecDepth 100000
set_option maxHeartbeats 4000000
/-! Kit: own words over the hand layer: how heaps grow, data by their values, rules that look at the values, steps. -/
namespace RS
open PySem L2

/-! ### heaps: all but fp is kept, tuples always, nothing goes away -/
structure Gr (fp : List Addr) (H H' : Hp) : Prop where
  keep : ∀ a o, H a = some o → a ∉ fp → H' a = some o
  tup : ∀ a xs, H a = some (.tup xs) → H' a = some (.tup xs)
  live : ∀ a o, H a = some o → ∃ o', H' a = some o'
section
variable {fp fp' : List Addr} {H H1 H2 H' : Hp} {a b p : Addr} {o o' u : HO} {xs : List V} {K : PySem.W.Frag}
theorem Gr.refl (fp : List Addr) (H : Hp) : Gr fp H H := ⟨fun _ _ h _ => h, fun _ _ h => h, fun _ o h => ⟨o, h⟩⟩
theorem Gr.trans (x : Gr fp H H1) (y : Gr fp H1 H2) : Gr fp H H2 :=
  ⟨fun a o h n => y.keep a o (x.keep a o h n) n, fun a xs h => y.tup a xs (x.tup a xs h), fun a o h => let ⟨o1, h1⟩ := x.live a o h; y.live a o1 h1⟩
theorem Gr.mono (x : Gr fp H H1) (h : ∀ a ∈ fp, a ∈ fp') : Gr fp' H H1 := ⟨fun a o e n => x.keep a o e fun z => n (h a z), x.tup, x.live⟩
theorem Gr.wide (x : Gr [] H H1) : Gr fp H H1 := x.mono (fun _ h => nomatch h)
theorem Gr.new (hp : H p = none) : Gr fp H (upd H p o) :=
  ⟨fun a u e _ => by rw [upd_ne (ne_of_none e hp)]; exact e, fun a u e => by rw [upd_ne (ne_of_none e hp)]; exact e, fun a u e => ⟨u, by rw [upd_ne (ne_of_none e hp)]; exact e⟩⟩
def notTup : HO → Bool
  | .tup _ => false
  | _ => true
theorem Gr.put (hb : H b = some u) (nt : notTup u = true) (hm : b ∈ fp) : Gr fp H (upd H b o) := by
  refine ⟨fun a v e n => ?_, fun a v e => ?_, fun a v e => ?_⟩
  · rw [upd_ne (fun z => n (by rw [z]; exact hm))]; exact e
  · have n : a ≠ b := fun z => by subst z; rw [hb] at e; cases e; exact Bool.noConfusion nt
    rw [upd_ne n]; exact e
  · by_cases h : a = b
    · subst h; exact ⟨o, upd_same⟩
    · exact ⟨v, by rw [upd_ne h]; exact e⟩
/-- a new object may be changed as if it had not been there -/
theorem Gr.fresh (g : Gr (p :: fp) H H1) (hp : H p = none) : Gr fp H H1 :=
  ⟨fun a o e n => g.keep a o e (by
    intro z
    rcases List.mem_cons.mp z with z | z
    · subst z; rw [hp] at e; cases e
    · exact n z), g.tup, g.live⟩
theorem Gr.get (g : Gr fp H H') (h : H a = some o) (n : a ∉ fp) : H' a = some o := g.keep a o h n
theorem Gr.get0 (g : Gr [] H H') (h : H a = some o) : H' a = some o := g.keep a o h (fun z => nomatch z)
theorem Gr.free (g : Gr fp H H') (h : H' p = none) : H p = none := by
  cases e : H p with
  | none => rfl
  | some o =>
    obtain ⟨o', q⟩ := g.live p o e
    rw [h] at q; cases q
theorem Gr.sqT (g : Gr fp H H') (h : SqT K H a xs) (n : a ∉ fp) : SqT K H' a xs := by
  rcases h with (h | ⟨o, h⟩) | h
  · exact .inl (.inl (g.tup _ _ h))
  · exact .inl (.inr ⟨o, g.keep _ _ h n⟩)
  · exact .inr h
theorem Gr.sqL (g : Gr fp H H') (h : SqL K H a xs) (n : a ∉ fp) : SqL K H' a xs := by
  rcases h with (h | ⟨o, h⟩) | h
  · exact .inl (.inl (g.keep _ _ h n))
  · exact .inl (.inr ⟨o, g.keep _ _ h n⟩)
  · exact .inr h
theorem Gr.same (g : Gr [] H H') : Same H H' := fun a o h => g.get0 h
theorem nin_nil : a ∉ ([] : List Addr) := fun z => nomatch z
theorem nin_one (h : a ≠ b) : a ∉ [b] := fun z => by rcases List.mem_cons.mp z with z | z; exact h z; exact nomatch z
theorem ne_new (h : H a = some o) (hp : H p = none) : a ≠ p := ne_of_none h hp
theorem sz_of {n : Nat} (h : n ≤ 16777216) : n ≤ sizeLine := h
theorem sz_lt {n : Nat} (h : n < 16777216) : n < sizeLine := h
end
/-- new objects, told apart from what was -/
theorem new_obj {H : Hp} {o : HO} {Q : VK} (h : ∀ p H', Gr [] H H' → H p = none → H' p = some o → Q (.ref p) H') : ∀ p, H p = none → Q (.ref p) (upd H p o) :=
  fun p hp => h p _ (Gr.new hp) hp upd_same
theorem put_obj {H : Hp} {b : Addr} {u o : HO} {Q : Hp → Prop} (hb : H b = some u) (nt : notTup u = true) (h : ∀ H', Gr [b] H H' → H' b = some o → Q H') : Q (upd H b o) :=
  h _ (Gr.put hb nt (List.mem_cons_self)) upd_same

/-! ### data -/
inductive PD where
  | non | bl (b : Bool) | int (i : Int) | str (s : Str) | tup (l : List PD) | lst (l : List PD)
mutual
def TRep (H : Hp) : PD → V → Prop
  | .non, v => v = .non
  | .bl b, v => v = .bl b
  | .int i, v => v = .int i
  | .str s, v => v = .str s
  | .tup ds, v => ∃ a xs, v = .ref a ∧ H a = some (.tup xs) ∧ TReps H ds xs
  | .lst ds, v => ∃ a xs, v = .ref a ∧ H a = some (.lst xs) ∧ TReps H ds xs
def TReps (H : Hp) : List PD → List V → Prop
  | [], xs => xs = []
  | d :: ds, xs => ∃ x r, xs = x :: r ∧ TRep H d x ∧ TReps H ds r
end
mutual
/-- tuples all the way -/
def PD.fix : PD → Bool
  | .tup ds => PD.fixs ds
  | .lst _ => false
  | _ => true
def PD.fixs : List PD → Bool
  | [] => true
  | d :: ds => d.fix && PD.fixs ds
end
mutual
theorem TRep.keep {H H' : Hp} (e : ∀ a o, H a = some o → H' a = some o) : ∀ {d : PD} {v : V}, TRep H d v → TRep H' d v
  | .non, _, h => h
  | .bl _, _, h => h
  | .int _, _, h => h
  | .str _, _, h => h
  | .tup ds, v, h => by
    unfold TRep at h ⊢
    obtain ⟨a, xs, h1, h2, h3⟩ := h
    exact ⟨a, xs, h1, e _ _ h2, TReps.keep e h3⟩
  | .lst ds, v, h => by
    unfold TRep at h ⊢
    obtain ⟨a, xs, h1, h2, h3⟩ := h
    exact ⟨a, xs, h1, e _ _ h2, TReps.keep e h3⟩
theorem TReps.keep {H H' : Hp} (e : ∀ a o, H a = some o → H' a = some o) : ∀ {ds : List PD} {xs : List V}, TReps H ds xs → TReps H' ds xs
  | [], _, h => h
  | d :: ds, xs, h => by
    unfold TReps at h ⊢
    obtain ⟨x, r, h1, h2, h3⟩ := h
    exact ⟨x, r, h1, TRep.keep e h2, TReps.keep e h3⟩
end
mutual
theorem TRep.tup {H H' : Hp} (e : ∀ a xs, H a = some (.tup xs) → H' a = some (.tup xs)) : ∀ {d : PD} {v : V}, d.fix = true → TRep H d v → TRep H' d v
  | .non, _, _, h => h
  | .bl _, _, _, h => h
  | .int _, _, _, h => h
  | .str _, _, _, h => h
  | .tup ds, v, f, h => by
    unfold TRep at h ⊢
    obtain ⟨a, xs, h1, h2, h3⟩ := h
    exact ⟨a, xs, h1, e _ _ h2, TReps.tup e (by simpa [PD.fix] using f) h3⟩
  | .lst ds, v, f, h => by simp [PD.fix] at f
theorem TReps.tup {H H' : Hp} (e : ∀ a xs, H a = some (.tup xs) → H' a = some (.tup xs)) : ∀ {ds : List PD} {xs : List V}, PD.fixs ds = true → TReps H ds xs → TReps H' ds xs
  | [], _, _, h => h
  | d :: ds, xs, f, h => by
    unfold TReps at h ⊢
    obtain ⟨x, r, h1, h2, h3⟩ := h
    have f' : d.fix = true ∧ PD.fixs ds = true := by simpa [PD.fixs] using f
    exact ⟨x, r, h1, TRep.tup e f'.1 h2, TReps.tup e f'.2 h3⟩
end
theorem Gr.rep0 {H H' : Hp} {d : PD} {v : V} (g : Gr [] H H') (h : TRep H d v) : TRep H' d v := TRep.keep (fun _ _ q => g.get0 q) h
theorem Gr.reps0 {H H' : Hp} {d : List PD} {v : List V} (g : Gr [] H H') (h : TReps H d v) : TReps H' d v := TReps.keep (fun _ _ q => g.get0 q) h
theorem Gr.rep {fp : List Addr} {H H' : Hp} {d : PD} {v : V} (g : Gr fp H H') (h : TRep H d v) (f : d.fix = true) : TRep H' d v := TRep.tup g.tup f h
theorem Gr.reps {fp : List Addr} {H H' : Hp} {d : List PD} {v : List V} (g : Gr fp H H') (h : TReps H d v) (f : PD.fixs d = true) : TReps H' d v := TReps.tup g.tup f h
theorem treps_nil {H : Hp} : TReps H [] [] := by unfold TReps; rfl
theorem treps_cons {H : Hp} {d : PD} {ds : List PD} {x : V} {xs : List V} (h : TRep H d x) (r : TReps H ds xs) : TReps H (d :: ds) (x :: xs) := by unfold TReps; exact ⟨x, xs, rfl, h, r⟩
theorem treps_append {H : Hp} : ∀ {ds es : List PD} {xs ys : List V}, TReps H ds xs → TReps H es ys → TReps H (ds ++ es) (xs ++ ys)
  | [], _, _, _, h, r => by unfold TReps at h; subst h; exact r
  | d :: ds, es, xs, ys, h, r => by
    unfold TReps at h
    obtain ⟨x, t, rfl, h1, h2⟩ := h
    exact treps_cons h1 (treps_append h2 r)
theorem treps_len {H : Hp} : ∀ {ds : List PD} {xs : List V}, TReps H ds xs → xs.length = ds.length
  | [], _, h => by unfold TReps at h; subst h; rfl
  | d :: ds, xs, h => by
    unfold TReps at h
    obtain ⟨x, r, rfl, _, h3⟩ := h
    simp [treps_len h3]
theorem treps_get {H : Hp} : ∀ {ds : List PD} {xs : List V} {i : Nat} {x : V}, TReps H ds xs → xs[i]? = some x → ∃ d, ds[i]? = some d ∧ TRep H d x
  | [], _, i, x, h, e => by unfold TReps at h; subst h; simp at e
  | d :: ds, xs, i, x, h, e => by
    unfold TReps at h
    obtain ⟨y, r, rfl, h1, h3⟩ := h
    cases i with
    | zero => simp at e; subst e; exact ⟨d, rfl, h1⟩
    | succ i => simp at e; obtain ⟨d', q, t⟩ := treps_get h3 e; exact ⟨d', by simpa using q, t⟩
theorem treps_get' {H : Hp} : ∀ {ds : List PD} {xs : List V} {i : Nat} {d : PD}, TReps H ds xs → ds[i]? = some d → ∃ x, xs[i]? = some x ∧ TRep H d x
  | [], _, i, x, h, e => by simp at e
  | d :: ds, xs, i, x, h, e => by
    unfold TReps at h
    obtain ⟨y, r, rfl, h1, h3⟩ := h
    cases i with
    | zero => simp at e; subst e; exact ⟨y, rfl, h1⟩
    | succ i => simp at e; obtain ⟨d', q, t⟩ := treps_get' h3 e; exact ⟨d', by simpa using q, t⟩
theorem treps_strs {H : Hp} : ∀ (ss : List Str), TReps H (ss.map PD.str) (ss.map V.str)
  | [] => treps_nil
  | s :: ss => treps_cons (by unfold TRep; rfl) (treps_strs ss)
theorem treps_ints {H : Hp} : ∀ (ss : List Int), TReps H (ss.map PD.int) (ss.map V.int)
  | [] => treps_nil
  | s :: ss => treps_cons (by unfold TRep; rfl) (treps_ints ss)

/-! ### promises -/
/-- a def that changes nothing and tells f of its arguments -/
def spF (f : List V → Option V) : Sp := fun vs H Q _ => ∃ v, f vs = some v ∧ ∀ H', Gr [] H H' → Q v H'
/-- .. tells a datum -/
def spD (f : List V → Option PD) : Sp := fun vs H Q _ => ∃ d, f vs = some d ∧ ∀ v H', Gr [] H H' → TRep H' d v → Q v H'

/-! ### rules that look at the values -/
section
variable {X : Cx}
theorem PI.or {tg e : Expr} {w1 w2 : TI} (h1 : PI X tg e w1) (h2 : PI X tg e w2) : PI X tg e (fun σ H R => w1 σ H R ∨ w2 σ H R) :=
  ⟨fun pins s σ H R I h => h.elim (h1.run pins s σ H R I) (h2.run pins s σ H R I)⟩
def iAny (K : PySem.W.Frag) (te : TE) : TI := fun σ H R => iList K te σ H R ∨ iTup K te σ H R ∨ iStr te σ H R
theorem pi_any {tg e : Expr} {te : TE} (h : PE X e te) : PI X tg e (iAny X.K te) := PI.or (pi_list h) (PI.or (pi_tup h) (pi_str h))

def rAddA (K : PySem.W.Frag) : R2 := fun x y H Q => match x, y with
  | .int i, .int j => Q (.int (i + j)) H
  | .int i, .bl k => Q (.int (i + PyProof.Rows.b2i k)) H
  | .str a, .str b => a.length + b.length ≤ sizeLine ∧ Q (.str (a ++ b)) H
  | .ref a, .ref b => rCat (.ref a) (.ref b) H Q ∨ rCatT K (.ref a) (.ref b) H Q
  | _, _ => False
theorem op_addA : OpR X (binaryOp .Add) (rAddA X.K) := by
  intro pins s σ H x y v u Q I rx ry h
  cases x <;> cases y <;> first | exact False.elim h | skip
  · exact op_add_ib pins s σ H _ _ v u Q I rx ry ⟨_, _, rfl, rfl, h⟩
  · exact op_add pins s σ H _ _ v u Q I rx ry ⟨_, _, rfl, rfl, h⟩
  · exact op_add_str pins s σ H _ _ v u Q I rx ry ⟨_, _, rfl, rfl, h.1, h.2⟩
  · rcases h with h | h
    · exact op_cat pins s σ H _ _ v u Q I rx ry h
    · exact op_catT pins s σ H _ _ v u Q I rx ry h
def rEqA (K : PySem.W.Frag) : R2 := fun x y H Q => rEq x y H Q ∨ rEqD K x y H Q
theorem op_eqA (hu : X.A.units + 64 < cLine) : OpR X (compareOp .Eq) (rEqA X.K) := OpR.or op_eq (op_eqD hu)
def rNeA (K : PySem.W.Frag) : R2 := fun x y H Q => rNe x y H Q ∨ rNeD K x y H Q
theorem op_neA (hu : X.A.units + 64 < cLine) : OpR X (compareOp .NotEq) (rNeA X.K) := OpR.or op_ne (op_neD hu)
/-- <=, < of ints and texts -/
def rLeA : R2 := fun x y H Q => match x, y with
  | .int i, .int j => Q (.bl (decide (i ≤ j))) H
  | .str i, .str j => Q (.bl (!decide (j.cps.toList < i.cps.toList))) H
  | _, _ => False
theorem op_leA : OpR X (compareOp .LtE) rLeA := by
  intro pins s σ H x y v u Q I rx ry h
  cases x <;> cases y <;> first | exact False.elim h | skip
  · exact op_le pins s σ H _ _ v u Q I rx ry ⟨_, _, rfl, rfl, h⟩
  · exact op_le_str pins s σ H _ _ v u Q I rx ry ⟨_, _, rfl, rfl, h⟩
/-- in: one sign in a text, a flat thing in a list or tuple -/
def rInA (K : PySem.W.Frag) : R2 := fun x y H Q => match x, y with
  | .str z, .str t => ∃ c, z = ⟨#[c]⟩ ∧ Q (.bl (decide (c ∈ t.cps.toList))) H
  | x, .ref p => rIn K false x (.ref p) H Q
  | _, _ => False
theorem op_inA : OpR X (compareOp .In) (rInA X.K) := by
  intro pins s σ H x y v u Q I rx ry h
  cases y with
  | str t =>
    cases x <;> first | exact False.elim h | skip
    obtain ⟨c, rfl, h⟩ := h
    exact op_in_sign pins s σ H _ _ v u Q I rx ry ⟨c, t, rfl, rfl, h⟩
  | ref p =>
    have h' : rIn X.K false x (.ref p) H Q := by cases x <;> exact h
    exact op_in_seq pins s σ H _ _ v u Q I rx ry h'
  | _ => cases x <;> exact False.elim h
def rNinA (K : PySem.W.Frag) : R2 := fun x y H Q => match x, y with
  | .str z, .str t => ∃ c, z = ⟨#[c]⟩ ∧ Q (.bl (!decide (c ∈ t.cps.toList))) H
  | x, .ref p => rIn K true x (.ref p) H Q
  | _, _ => False
theorem op_ninA : OpR X (compareOp .NotIn) (rNinA X.K) := by
  intro pins s σ H x y v u Q I rx ry h
  cases y with
  | str t =>
    cases x <;> first | exact False.elim h | skip
    obtain ⟨c, rfl, h⟩ := h
    exact op_notIn_sign pins s σ H _ _ v u Q I rx ry ⟨c, t, rfl, rfl, h⟩
  | ref p =>
    have h' : rIn X.K true x (.ref p) H Q := by cases x <;> exact h
    exact op_notIn_seq pins s σ H _ _ v u Q I rx ry h'
  | _ => cases x <;> exact False.elim h
def rIxA (K : PySem.W.Frag) : R2 := rIx K
theorem ix_any : IxR X (rIxA X.K) := ix_seq
def rSlA (K : PySem.W.Frag) : V → Option Int → Option Int → Hp → VK → Prop := fun x lo hi H Q => rSlS x lo hi H Q ∨ rSlL K x lo hi H Q ∨ rSlT K x lo hi H Q
theorem sl_any : SlR X (rSlA X.K) := SlR.or sl_str (SlR.or sl_list sl_tup)
/-- += of ints and texts -/
def ipAdd : TIp := fun x y H Q => match x, y with
  | .int i, .int j => Q (.int (i + j)) H
  | .str a, .str b => a.length + b.length ≤ sizeLine ∧ Q (.str (a ++ b)) H
  | _, _ => False
theorem ip_addA : PIp X .Add ipAdd := by
  intro pins s σ H x y v u Q I rx ry h
  cases x <;> cases y <;> first | exact False.elim h | skip
  · exact ip_add pins s σ H _ _ v u Q I rx ry ⟨_, _, rfl, rfl, h⟩
  · exact iop_add_str pins s σ H _ _ v u Q I rx ry ⟨_, _, rfl, rfl, h.1, h.2⟩
end

/-! ### the text's facts -/
structure FnT (K : PySem.W.Frag) (mg : Str → Option Value) (x qual : Str) (st : Stmt) (ps : List Str) where
  a : Addr
  d : FuncData
  F : Fun K x qual st a d
  b : Binds K d ps []
  g : mg x = some (.ref a)
structure MeT (K : PySem.W.Frag) (C : Addr) (m qual : Str) (st : Stmt) (ps : List Str) where
  a : Addr
  d : FuncData
  F : Fun K m qual st a d
  b : Binds K d ps []
  me : Meth K C m a
def NA (K : PySem.W.Frag) (C : Addr) : List Str → Prop
  | [] => True
  | f :: r => NoAttr K C f ∧ NA K C r
structure ClT (K : PySem.W.Frag) (mg : Str → Option Value) (x : Str) (fs : List Str) where
  C : Addr
  g : mg x = some (.ref C)
  c : Cls K C
  na : NA K C fs
theorem hu64 {A : Around} {k : Nat} (hr : Room k A) : A.units + 64 < cLine := hr.units
theorem bt_len : bootBuiltins "len" = some (.builtin "len") := by decide +kernel
theorem bt_all : bootBuiltins "all" = some (.builtin "all") := by decide +kernel
theorem bt_any : bootBuiltins "any" = some (.builtin "any") := by decide +kernel
theorem bt_sum : bootBuiltins "sum" = some (.builtin "sum") := by decide +kernel
theorem bt_abs : bootBuiltins "abs" = some (.builtin "abs") := by decide +kernel
theorem bt_max : bootBuiltins "max" = some (.builtin "max") := by decide +kernel
theorem bt_min : bootBuiltins "min" = some (.builtin "min") := by decide +kernel
theorem bt_divmod : bootBuiltins "divmod" = some (.builtin "divmod") := by decide +kernel
theorem bt_isinstance : bootBuiltins "isinstance" = some (.builtin "isinstance") := by decide +kernel
theorem bt_sorted : bootBuiltins "sorted" = some (.builtin "sorted") := by decide +kernel
theorem bt_int : bootBuiltins "int" = some (.type "int") := by decide +kernel
theorem bt_str : bootBuiltins "str" = some (.type "str") := by decide +kernel
theorem bt_list : bootBuiltins "list" = some (.type "list") := by decide +kernel
theorem bt_tuple : bootBuiltins "tuple" = some (.type "tuple") := by decide +kernel
theorem bt_bool : bootBuiltins "bool" = some (.type "bool") := by decide +kernel
theorem bt_dict : bootBuiltins "dict" = some (.type "dict") := by decide +kernel

/-! ### isinstance of the built-in kinds -/
/-- a thing's kind -/
def kindOf (H : Hp) : V → Option String
  | .non => some "NoneType"
  | .bl _ => some "bool"
  | .int _ => some "int"
  | .str _ => some "str"
  | .ref a => match H a with
    | some (.lst _) => some "list"
    | some (.tup _) => some "tuple"
    | some (.dK _) => some "dict"
    | _ => none
  | _ => none
def isa (k T : String) : Bool := k == T || (k == "bool" && T == "int")
section
variable {X : Cx}
def rIsiA (K : PySem.W.Frag) : List V → Hp → VK → Prop := fun xs H Q => ∃ x T k, xs = [x, .ty T] ∧ kindOf H x = some k ∧ (T = "int" ∨ T = "str" ∨ T = "bool" ∨ T = "list" ∨ T = "tuple") ∧ Q (.bl (isa k T)) H
def rIsi2 (K : PySem.W.Frag) : List V → Hp → VK → Prop := fun xs H Q => ∃ x p T U k, xs = [x, .ref p] ∧ H p = some (.tup [.ty T, .ty U]) ∧ kindOf H x = some k ∧ (T = "int" ∨ T = "str" ∨ T = "bool" ∨ T = "list" ∨ T = "tuple") ∧ (U = "int" ∨ U = "str" ∨ U = "bool" ∨ U = "list" ∨ U = "tuple") ∧ Q (.bl (isa k T || isa k U)) H
theorem kind_ty {K : PySem.W.Frag} {H : Hp} {x : V} {k : String} (h : kindOf H x = some k) : TyX K H x (.type k) ∧ (k = "NoneType" ∨ k = "bool" ∨ k = "int" ∨ k = "str" ∨ k = "list" ∨ k = "tuple" ∨ k = "dict") := by
  unfold kindOf at h
  split at h
  · cases h; exact ⟨.base .non, by simp⟩
  · cases h; exact ⟨.base (.bl _), by simp⟩
  · cases h; exact ⟨.base (.int _), by simp⟩
  · cases h; exact ⟨.base (.str _), by simp⟩
  · split at h
    · rename_i e; cases h; exact ⟨.base (.lst e), by simp⟩
    · rename_i e; cases h; exact ⟨.base (.tup e), by simp⟩
    · rename_i e; cases h; exact ⟨.base (.dK e), by simp⟩
    · cases h
  · cases h

theorem kit_isa {K : PySem.W.Frag} {k T : String} (hk : k = "NoneType" ∨ k = "bool" ∨ k = "int" ∨ k = "str" ∨ k = "list" ∨ k = "tuple" ∨ k = "dict") (hT : T = "int" ∨ T = "str" ∨ T = "bool" ∨ T = "list" ∨ T = "tuple") :
    PySem.W.kitOne K (.type k) (.type T) = some (isa k T) := by
  rcases hk with rfl | rfl | rfl | rfl | rfl | rfl | rfl <;> rcases hT with rfl | rfl | rfl | rfl | rfl <;> exact kit_ty (by decide +kernel)
theorem call_isiA : CallR X (.builtin "isinstance") (fun xs H Q => rIsiA X.K xs H Q ∨ rIsi2 X.K xs H Q) := by
  refine CallR.or ?_ ?_
  · intro pins s σ H xs us Q I r h
    obtain ⟨x, T, k, rfl, hk, hT, q⟩ := h
    exact call_isi pins s σ H _ us Q I r ⟨x, .ty T, .type k, .type T, _, rfl, .ty T, (kind_ty hk).1, kit_isa (kind_ty (K := X.K) hk).2 hT, q⟩
  · intro pins s σ H xs us Q I r h
    obtain ⟨x, p, T, U, k, rfl, hp, hk, hT, hU, q⟩ := h
    refine call_isiT pins s σ H _ us Q I r ⟨x, p, _, .type k, [.type T, .type U], _, rfl, hp, .cons (.ty T) (.cons (.ty U) .nil), (kind_ty hk).1, ?_, q⟩
    refine kitAny_cons (kit_isa (kind_ty (K := X.K) hk).2 hT) (fun hb => ?_) (fun hb => by rw [hb]; rfl)
    refine kitAny_cons (kit_isa (kind_ty (K := X.K) hk).2 hU) (fun hb2 => ?_) (fun hb2 => by rw [hb, hb2]; rfl)
    rw [hb, hb2]; rfl
/-- * of ints (one within 64 bits) and of a text and a small int -/
def rMulA : R2 := fun x y H Q => match x, y with
  | .int i, .int j => CMul i j ∧ Q (.int (i * j)) H
  | .str a, .int n => a.length ≤ 10 ∧ -10 ≤ n ∧ n ≤ 1000 ∧ Q (.str (PySem.Txt.mul a n)) H
  | _, _ => False
theorem op_mulA : OpR X (binaryOp .Mult) rMulA := by
  intro pins s σ H x y v u Q I rx ry h
  cases x <;> cases y <;> first | exact False.elim h | skip
  · exact op_mul pins s σ H _ _ v u Q I rx ry ⟨_, _, rfl, rfl, h.1, h.2⟩
  · obtain ⟨t, rfl⟩ := rx
    obtain ⟨t', rfl⟩ := ry
    obtain ⟨h1, h2, h3, q⟩ := h
    exact SB.mul (PyProof.Rows.mulOk_of 10 1000 h1 (by omega) (by omega) (by decide) (by decide)) fun t' k => ⟨.str _, H, I.tok k, ⟨t', rfl⟩, q⟩
theorem op_fdivA : OpR X (binaryOp .FloorDiv) (rI CDiv fun i j => .int (i / j)) := op_fdiv
theorem ip_of {op : Operator} {r : R2} (h : OpR X (inplaceOp op) r) : PIp X op r := h
theorem ip_fdiv : PIp X .FloorDiv (rI CDiv fun i j => .int (i / j)) := ip_of iop_fdiv
theorem slot_str_rpartition : PySem.Slot "str" "rpartition" "str.rpartition" := PySem.F.slot_str_rpartition
theorem type_str_rpartition : typeOf (.builtin "str.rpartition") = pure (.type "method_descriptor") := PySem.F.type_str_rpartition
theorem mt_rpartition : MtR X "str.rpartition" (fun x xs H Q => ∃ a b, x = .str a ∧ xs = [.str b] ∧ (b.length == 0) = false ∧ a.length ≤ sizeLine ∧
    ∀ p, H p = none → Q (.ref p) (upd H p (.tup [.str (PySem.Txt.rpartition a b).1, .str (PySem.Txt.rpartition a b).2.1, .str (PySem.Txt.rpartition a b).2.2]))) := by
  intro pins s σ H x xs v us Q I rx rs h
  obtain ⟨a, b, rfl, rfl, hb, hz, h⟩ := h
  obtain ⟨t, rfl⟩ := rx
  cases rs with
  | cons r1 rs =>
    cases rs
    obtain ⟨u, rfl⟩ := r1
    refine call_meets F.slot_str_rpartition (typeIs_str _ _ _) F.entry_str_rpartition (F.args_str_rpartition_2 _ _) (meets_str_rpartition a b t u hb hz) ?_
    unfold PySem.Txt.rpartition at h
    revert h
    cases PySem.Builtin.Str.lastOccurrence a b 0 a.length with
    | none => intro h; exact laid_parts I h
    | some i => intro h; exact laid_parts I h

/-! ### built-ins by named readings -/
def rLenA (K : PySem.W.Frag) : List V → Hp → VK → Prop := fun xs H Q => ∃ x n, xs = [x] ∧ LenV K x H n ∧ Q (.int n) H
theorem call_lenA : CallR X (.builtin "len") (rLenA X.K) := call_len
def rAbs : List V → Hp → VK → Prop := fun xs H Q => ∃ i, xs = [.int i] ∧ Q (.int (if i < 0 then -i else i)) H
theorem call_absA : CallR X (.builtin "abs") rAbs := call_abs
def rMaxA : List V → Hp → VK → Prop := fun xs H Q => ∃ i j, xs = [.int i, .int j] ∧ Q (.int (if j > i then j else i)) H
theorem call_max2A (hc : X.calm = true) : CallR X (.builtin "max") rMaxA := call_max2 hc
def rMinA : List V → Hp → VK → Prop := fun xs H Q => ∃ i j, xs = [.int i, .int j] ∧ Q (.int (if j < i then j else i)) H
theorem call_min2A (hc : X.calm = true) : CallR X (.builtin "min") rMinA := call_min2 hc
def rIntA : List V → Hp → VK → Prop := fun xs H Q => match xs with
  | [.int i] => Q (.int i) H
  | [.bl k] => Q (.int (if k then 1 else 0)) H
  | [.str a] => ∃ n, PySem.intText? a = some n ∧ a.length ≤ 640 ∧ Q (.int n) H
  | _ => False
theorem call_intA : CallR X (.type "int") rIntA := by
  intro pins s σ H xs us Q I r h
  unfold rIntA at h
  split at h
  · exact call_int1 pins s σ H _ us Q I r (.inl ⟨_, rfl, h⟩)
  · exact call_int1 pins s σ H _ us Q I r (.inr ⟨_, rfl, h⟩)
  · obtain ⟨n, h1, h2, q⟩ := h
    exact call_int_str pins s σ H _ us Q I r ⟨_, n, rfl, h1, h2, q⟩
  · exact h.elim
def rStrI : List V → Hp → VK → Prop := fun xs H Q => ∃ i, xs = [.int i] ∧ i.natAbs.log2 < 1920 ∧ Q (.str (toString i)) H
theorem call_strA : CallR X (.type "str") rStrI := call_str_int
def rListA (K : PySem.W.Frag) : List V → Hp → VK → Prop := fun xs H Q => ∃ p ys, xs = [.ref p] ∧ (SqL K H p ys ∨ SqT K H p ys) ∧ ∀ l, H l = none → Q (.ref l) (upd H l (.lst ys))
theorem call_listA : CallR X (.type "list") (rListA X.K) := call_list_of
def rTupA (K : PySem.W.Frag) : List V → Hp → VK → Prop := fun xs H Q => ∃ p ys, xs = [.ref p] ∧ ((SqL K H p ys ∧ ∀ l, H l = none → Q (.ref l) (upd H l (.tup ys))) ∨ (SqT K H p ys ∧ Q (.ref p) H))
theorem call_tupA : CallR X (.type "tuple") (rTupA X.K) := call_tuple_of
def rDivmod : List V → Hp → VK → Prop := fun xs H Q => ∃ i j, xs = [.int i, .int j] ∧ CDiv i j ∧ ∀ p, H p = none → Q (.ref p) (upd H p (.tup [.int (i / j), .int (i % j)]))
theorem call_divmodA : CallR X (.builtin "divmod") rDivmod := call_divmod
def rIsiAll (K : PySem.W.Frag) : List V → Hp → VK → Prop := fun xs H Q => rIsiA K xs H Q ∨ rIsi2 K xs H Q
theorem call_isiAll : CallR X (.builtin "isinstance") (rIsiAll X.K) := call_isiA
/-! methods of texts -/
def rSplit : V → List V → Hp → VK → Prop := fun x xs H Q => ∃ a b, x = .str a ∧ xs = [.str b] ∧ (b.length == 0) = false ∧ a.length + 2 ≤ sizeLine ∧ rNewStrs (PySem.Txt.split a b) H Q
theorem mt_splitA : MtR X "str.split" rSplit := mt_split
def rPart : V → List V → Hp → VK → Prop := fun x xs H Q => ∃ a b, x = .str a ∧ xs = [.str b] ∧ (b.length == 0) = false ∧ a.length ≤ sizeLine ∧
    ∀ p, H p = none → Q (.ref p) (upd H p (.tup [.str (PySem.Txt.partition a b).1, .str (PySem.Txt.partition a b).2.1, .str (PySem.Txt.partition a b).2.2]))
theorem mt_partitionA : MtR X "str.partition" rPart := mt_partition
def rRpart : V → List V → Hp → VK → Prop := fun x xs H Q => ∃ a b, x = .str a ∧ xs = [.str b] ∧ (b.length == 0) = false ∧ a.length ≤ sizeLine ∧
    ∀ p, H p = none → Q (.ref p) (upd H p (.tup [.str (PySem.Txt.rpartition a b).1, .str (PySem.Txt.rpartition a b).2.1, .str (PySem.Txt.rpartition a b).2.2]))
theorem mt_rpartitionA : MtR X "str.rpartition" rRpart := mt_rpartition
def rJoin (K : PySem.W.Frag) : V → List V → Hp → VK → Prop := fun x xs H Q => ∃ a p, ∃ ys : List Str, x = .str a ∧ xs = [.ref p] ∧ (SqL K H p (ys.map V.str) ∨ SqT K H p (ys.map V.str)) ∧
    (ys.map (·.length)).sum + ys.length * a.length ≤ 16777216 ∧ Q (.str (PySem.Txt.join a ys)) H
theorem mt_joinA : MtR X "str.join" (rJoin X.K) := mt_join
def rStarts : V → List V → Hp → VK → Prop := fun x xs H Q => ∃ a b, x = .str a ∧ xs = [.str b] ∧ Q (.bl (PySem.Txt.startswith a b)) H
theorem mt_startsA : MtR X "str.startswith" rStarts := mt_startswith
def rLstrip : V → List V → Hp → VK → Prop := fun x xs H Q => ∃ a b, x = .str a ∧ xs = [.str b] ∧ a.length ≤ sizeLine ∧ Q (.str (PySem.Txt.lstripChars a b)) H
theorem mt_lstripA : MtR X "str.lstrip" rLstrip := mt_lstripChars
end

/-! ### steps: what is to be shown of a reading, by its head -/
section
variable {K : PySem.W.Frag} {σ : L2.St} {H : Hp} {Q : VK} {QB : Bool → Hp → Prop} {QA : List V → Hp → Prop} {D : Ends} {t u : TS} {te ta tb tc : TE} {tt tu : TT} {tA : TA} {g : TG} {i j : Nat} {v x y : V} {r r' : R2} {n b c : L2.St → Hp → Prop} {rt : VK}
theorem w_seq (h : t { D with nx := u D } σ H) : tSeq t u D σ H := h
theorem w_next (h : D.nx σ H) : tNext D σ H := h
theorem w_nx (h : n σ H) : (Ends.mk n rt b c).nx σ H := h
theorem w_rt (h : rt v H) : (Ends.mk n rt b c).rt v H := h
theorem w_bk (h : b σ H) : (Ends.mk n rt b c).bk σ H := h
theorem w_ct (h : c σ H) : (Ends.mk n rt b c).ct σ H := h
theorem w_asg (h : te σ H (fun x H1 => D.nx (σ.set i (some x)) H1)) : tAsg te (gName i) D σ H := h
theorem w_asgG (h : te σ H (fun x H1 => g x σ H1 D.nx)) : tAsg te g D σ H := h
theorem w_gname {Q : L2.St → Hp → Prop} (h : Q (σ.set i (some v)) H) : gName i v σ H Q := h
theorem w_ret (h : te σ H D.rt) : tRet te D σ H := h
theorem w_retN (h : D.rt .non H) : tRetN D σ H := h
theorem w_drop (h : te σ H (fun _ H1 => D.nx σ H1)) : tDrop te D σ H := h
theorem w_var (h : σ[i]? = some (some v)) (q : Q v H) : tVar i σ H Q := ⟨v, h, q⟩
theorem w_c (q : Q v H) : tC v σ H Q := q
theorem w_op (h : ta σ H (fun x H1 => tb σ H1 (fun y H2 => r x y H2 Q))) : tOp r ta tb σ H Q := h
theorem w_un {r : V → Hp → VK → Prop} (h : ta σ H (fun x H1 => r x H1 Q)) : tUn r ta σ H Q := h
theorem w_test (h : te σ H (fun x H' => ∃ k, x = .bl k ∧ QB k H')) : tTest te σ H QB := h
theorem w_B (h : te σ H (fun x H' => ∃ k, x = .bl k ∧ QB k H')) : tB te σ H QB := h
theorem w_bl {k : Bool} {R : Bool → Prop} (h : R k) : ∃ k', V.bl k = V.bl k' ∧ R k' := ⟨k, rfl, h⟩
theorem w_ifS (h : tt σ H (fun b H1 => if b = true then t D σ H1 else u D σ H1)) : tIfS tt t u D σ H := h
theorem w_if (h : tt σ H (fun c H1 => if c = true then ta σ H1 Q else tb σ H1 Q)) : tIf tt ta tb σ H Q := h
theorem w_and (h : tt σ H (fun c H1 => if c = true then tu σ H1 QB else QB false H1)) : tAnd tt tu σ H QB := h
theorem w_or (h : tt σ H (fun c H1 => if c = true then QB true H1 else tu σ H1 QB)) : tOr tt tu σ H QB := h
theorem w_not (h : tt σ H (fun c H1 => QB (!c) H1)) : tNot tt σ H QB := h
theorem w_andV (h : ta σ H (fun x H1 => ∃ c, x = .bl c ∧ if c = true then tb σ H1 Q else Q (.bl false) H1)) : tAndV ta tb σ H Q := h
theorem w_orV (h : ta σ H (fun x H1 => ∃ c, x = .bl c ∧ if c = true then Q (.bl true) H1 else tb σ H1 Q)) : tOrV ta tb σ H Q := h
theorem w_notV (h : ta σ H (fun x H1 => ∃ c, x = .bl c ∧ Q (.bl (!c)) H1)) : tNotV ta σ H Q := h
theorem w_chain (h : ta σ H (fun x H1 => tb σ H1 (fun y H2 => r x y H2 (fun z H3 => ∃ k, z = .bl k ∧ (if k = true then tc σ H3 (fun w' H4 => r' y w' H4 Q) else Q (.bl false) H3))))) : tChain r r' ta tb tc σ H Q := h
theorem w_nil (h : QA [] H) : tNil σ H QA := h
theorem w_cons (h : ta σ H (fun x H1 => tA σ H1 (fun xs H2 => QA (x :: xs) H2))) : tCons ta tA σ H QA := h
def kTup (Q : VK) : List V → Hp → Prop := fun xs H1 => xs.length ≤ sizeLine ∧ ∀ p, H1 p = none → Q (.ref p) (upd H1 p (.tup xs))
def kLst (Q : VK) : List V → Hp → Prop := fun xs H1 => xs.length ≤ sizeLine ∧ ∀ p, H1 p = none → Q (.ref p) (upd H1 p (.lst xs))
theorem w_tup (h : tA σ H (kTup Q)) : tTup tA σ H Q := h
theorem w_lst (h : tA σ H (kLst Q)) : tLst tA σ H Q := h
theorem w_kTup {xs : List V} (h : ∀ p H', Gr [] H H' → H p = none → H' p = some (.tup xs) → Q (.ref p) H') (hz : xs.length ≤ 1000) : kTup Q xs H := ⟨sz_of (by omega), new_obj h⟩
theorem w_kLst {xs : List V} (h : ∀ p H', Gr [] H H' → H p = none → H' p = some (.lst xs) → Q (.ref p) H') (hz : xs.length ≤ 1000) : kLst Q xs H := ⟨sz_of (by omega), new_obj h⟩
theorem w_call {sp : Sp} {dvs : List V} {E : XK} (h : tA σ H (fun vs H1 => sp (vs ++ dvs) H1 Q E)) : tCall sp dvs E tA σ H Q := h
theorem w_cb {r : List V → Hp → VK → Prop} (h : tA σ H (fun vs H1 => r vs H1 Q)) : tCB r tA σ H Q := h
theorem w_m1 {r : V → List V → Hp → VK → Prop} (h : ta σ H (fun x H1 => (∃ a, x = .str a) ∧ tb σ H1 (fun y H2 => r x [y] H2 Q))) : tM1 r ta tb σ H Q := h
theorem w_isstr {s : Str} {P : Prop} (h : P) : (∃ a, V.str s = .str a) ∧ P := ⟨⟨s, rfl⟩, h⟩
theorem w_bm {T : String} {r : V → List V → Hp → VK → Prop} (h : ta σ H (fun x H1 => tyV K T x H1 ∧ tA σ H1 (fun xs H2 => r x xs H2 Q))) : tBM K T r ta tA σ H Q := h
theorem w_bm0 {T : String} {r : V → List V → Hp → VK → Prop} (h : ta σ H (fun x H1 => tyV K T x H1 ∧ r x [] H1 Q)) : tBM0 K T r ta σ H Q := h
theorem w_tyL {l : Addr} {xs : List V} {P : Prop} (hl : H l = some (.lst xs)) (h : P) : tyV K "list" (.ref l) H ∧ P := ⟨Or.inl ⟨rfl, _, Or.inl (Or.inl hl)⟩, h⟩
theorem w_sl {r : V → Option Int → Option Int → Hp → VK → Prop} {tl th : TO} (h : ta σ H (fun x H1 => tl σ H1 (fun lo H2 => th σ H2 (fun hi H3 => r x lo hi H3 Q)))) : tSl r ta tl th σ H Q := h
theorem w_noPart {QO : Option Int → Hp → Prop} (h : QO none H) : tNoPart σ H QO := h
theorem w_part {QO : Option Int → Hp → Prop} (h : ta σ H (fun x H1 => ∃ i, x = .int i ∧ QO (some i) H1)) : tPart ta σ H QO := h
theorem w_int {R : Int → Prop} {k : Int} (h : R k) : ∃ i, V.int k = .int i ∧ R i := ⟨k, rfl, h⟩
theorem w_aug {ti : TIp} (hx : σ[i]? = some (some x)) (h : te σ H (fun y H1 => ti x y H1 (fun z H2 => D.nx (σ.set i (some z)) H2))) : tAug i te ti D σ H := ⟨x, hx, h⟩
theorem w_par (h : tA σ H (fun vs H1 => ∃ v w, vs = [v, w] ∧ D.nx ((σ.set i (some v)).set j (some w)) H1)) : tPar i j tA D σ H := h
theorem w_par2 {P : V → V → Prop} (h : P x y) : ∃ v w, [x, y] = [v, w] ∧ P v w := ⟨x, y, rfl, h⟩
theorem w_isN (h : ta σ H (fun x H1 => Q (.bl (decide (x = .non))) H1)) : tIsN ta σ H Q := h
theorem w_notN (h : ta σ H (fun x H1 => Q (.bl (!decide (x = .non))) H1)) : tNotN ta σ H Q := h
def kFor (g : TG) (tb : TS) (D : Ends) (σ : L2.St) : It → Hp → Prop := fun J H1 => ∃ W : Nat → Nat → L2.St → Hp → Prop, (∃ m, W 0 m σ H1) ∧ ∀ i m σ H, W i m σ H →
  (J.stop i H ∧ D.nx σ H) ∨ (J.go i H ∧ ∃ N : L2.St → Hp → Prop, (∀ σ' H', N σ' H' → ∃ m', m' < m ∧ W (i + 1) m' σ' H') ∧ ∀ x H', J.yld i H x H' → g x σ H' fun σ2 H2 => tb { D with nx := N, ct := N, bk := D.nx } σ2 H2)
theorem w_for {wi : TI} {tb : TS} (h : wi σ H (kFor g tb D σ)) : tFor wi g tb D σ H := h
def kLc (g : TG) (tt : TT) (te : TE) (vs : List Nat) (σ : L2.St) (Q : VK) : It → Hp → Prop := fun J H1 => ∀ D, H1 D = none → ∃ W : Nat → Nat → Hp → Prop, (∃ m, W 0 m (upd H1 D (.lst []))) ∧ ∀ i m H, W i m H →
  (J.stop i H ∧ Q (.ref D) H) ∨ (J.go i H ∧ ∃ Nx : Hp → Prop, (∀ H', Nx H' → ∃ m', m' < m ∧ W (i + 1) m' H') ∧ ∀ x H', J.yld i H x H' → g x (wipe σ vs) H' fun σ2 H2 => wipe σ2 vs = wipe σ vs ∧ tt σ2 H2 fun b H3 =>
    if b = true then te σ2 H3 fun y H4 => ∃ acc, H4 D = some (.lst acc) ∧ acc.length < sizeLine ∧ Nx (upd H4 D (.lst (acc ++ [y]))) else Nx H3)
theorem w_lc {wi : TI} {vs : List Nat} (h : wi σ H (kLc g tt te vs σ Q)) : tLc wi g tt te vs σ H Q := h
theorem w_iL {R : It → Hp → Prop} (h : te σ H (fun x H1 => ∃ a, x = .ref a ∧ (∃ xs, SqL K H1 a xs) ∧ R (Itl K a) H1)) : iAny K te σ H R := Or.inl h
theorem w_iT {R : It → Hp → Prop} (h : te σ H (fun x H1 => ∃ a, x = .ref a ∧ (∃ xs, SqT K H1 a xs) ∧ R (Itt K a) H1)) : iAny K te σ H R := Or.inr (Or.inl h)
theorem w_iS {R : It → Hp → Prop} (h : te σ H (fun x H1 => ∃ z, x = .str z ∧ R (Its z) H1)) : iAny K te σ H R := Or.inr (Or.inr h)
theorem w_iR {R : It → Hp → Prop} (h : tA σ H (fun vs H1 => ∃ j : Int, vs = [.int j] ∧ -(2 ^ 62) ≤ j ∧ j < 2 ^ 62 ∧ R (Itr 0 j.toNat) H1)) : iRng1 tA σ H R := h
theorem w_iE {R : It → Hp → Prop} (h : tA σ H (fun vs H1 => ∃ a xs, vs = [.ref a] ∧ SqL K H1 a xs ∧ R (Ite K a) H1)) : iEnum K tA σ H R := h
theorem w_yes (h : QB true H) : tYes σ H QB := h
/-! the values' rules -/
theorem w_addI {a b : Int} (q : Q (.int (a + b)) H) : rAddA K (.int a) (.int b) H Q := q
theorem w_addS {a b : Str} (hz : a.length + b.length ≤ 16777216) (q : Q (.str (a ++ b)) H) : rAddA K (.str a) (.str b) H Q := ⟨sz_of hz, q⟩
theorem w_addL {a b : Addr} {xs zs : List V} (h1 : H a = some (.lst xs)) (h2 : H b = some (.lst zs)) (hz : xs.length + zs.length ≤ 16777216) (q : ∀ p H', Gr [] H H' → H p = none → H' p = some (.lst (xs ++ zs)) → Q (.ref p) H') : rAddA K (.ref a) (.ref b) H Q :=
  Or.inl ⟨a, b, xs, zs, rfl, rfl, h1, h2, sz_of hz, new_obj q⟩
theorem w_addT {a b : Addr} {xs zs : List V} (h1 : SqT K H a xs) (h2 : SqT K H b zs) (n1 : xs ≠ []) (n2 : zs ≠ []) (hz : xs.length + zs.length ≤ 16777216) (q : ∀ p H', Gr [] H H' → H p = none → H' p = some (.tup (xs ++ zs)) → Q (.ref p) H') : rAddA K (.ref a) (.ref b) H Q :=
  Or.inr ⟨a, b, xs, zs, rfl, rfl, h1, h2, n1, sz_of hz, fun e => absurd e n2, fun _ => new_obj q⟩
theorem w_rI0 {g : Int → Int → V} {a b : Int} (q : Q (g a b) H) : rI0 g (.int a) (.int b) H Q := ⟨a, b, rfl, rfl, q⟩
theorem w_rI {C : Int → Int → Prop} {g : Int → Int → V} {a b : Int} (hc : C a b) (q : Q (g a b) H) : rI C g (.int a) (.int b) H Q := ⟨a, b, rfl, rfl, hc, q⟩
theorem w_mulI {a b : Int} (hc : CMul a b) (q : Q (.int (a * b)) H) : rMulA (.int a) (.int b) H Q := ⟨hc, q⟩
theorem w_mulS {a : Str} {n : Int} (h1 : a.length ≤ 10) (h2 : -10 ≤ n ∧ n ≤ 1000) (q : Q (.str (PySem.Txt.mul a n)) H) : rMulA (.str a) (.int n) H Q := ⟨h1, h2.1, h2.2, q⟩
theorem w_eqS (h : scal x y = true) (q : Q (.bl (decide (x = y))) H) : rEqA K x y H Q := Or.inl ⟨h, q⟩
theorem w_neS (h : scal x y = true) (q : Q (.bl (!decide (x = y))) H) : rNeA K x y H Q := Or.inl ⟨h, q⟩
theorem w_leI {a b : Int} (q : Q (.bl (decide (a ≤ b))) H) : rLeA (.int a) (.int b) H Q := q
theorem w_leS {a b : Str} (q : Q (.bl (!decide (b.cps.toList < a.cps.toList))) H) : rLeA (.str a) (.str b) H Q := q
theorem w_inS {k : Nat} {z : Str} (q : Q (.bl (decide (k ∈ z.cps.toList))) H) : rInA K (.str ⟨#[k]⟩) (.str z) H Q := ⟨k, rfl, q⟩
theorem w_ninS {k : Nat} {z : Str} (q : Q (.bl (!decide (k ∈ z.cps.toList))) H) : rNinA K (.str ⟨#[k]⟩) (.str z) H Q := ⟨k, rfl, q⟩
theorem w_inQ {p : Addr} {xs : List V} (h : SqL K H p xs ∨ SqT K H p xs) (hx : flatV x = true) (ha : xs.all flatV = true) (q : Q (.bl (inV x xs)) H) : rInA K x (.ref p) H Q := by
  have e : rIn K false x (.ref p) H Q := ⟨p, xs, rfl, h, hx, ha, q⟩
  cases x <;> exact e
theorem w_ninQ {p : Addr} {xs : List V} (h : SqL K H p xs ∨ SqT K H p xs) (hx : flatV x = true) (ha : xs.all flatV = true) (q : Q (.bl (!inV x xs)) H) : rNinA K x (.ref p) H Q := by
  have e : rIn K true x (.ref p) H Q := ⟨p, xs, rfl, h, hx, ha, q⟩
  cases x <;> exact e
theorem w_ixL {p : Addr} {xs : List V} {k : Int} (h : SqL K H p xs) (ha : atI xs k = some v) (q : Q v H) : rIxA K (.ref p) (.int k) H Q := Or.inl ⟨p, xs, k, v, rfl, rfl, h, ha, q⟩
theorem w_ixT {p : Addr} {xs : List V} {k : Int} (h : SqT K H p xs) (ha : atI xs k = some v) (q : Q v H) : rIxA K (.ref p) (.int k) H Q := Or.inr (Or.inl ⟨p, xs, k, v, rfl, rfl, h, ha, q⟩)
theorem w_ixS {z : Str} {k : Int} {d : Nat} (hz : z.length ≤ 16777216) (ha : atI z.cps.toList k = some d) (q : Q (.str ⟨#[d]⟩) H) : rIxA K (.str z) (.int k) H Q := Or.inr (Or.inr ⟨z, k, d, rfl, rfl, sz_of hz, ha, q⟩)
theorem w_slS {z : Str} {lo hi : Option Int} (hz : z.length ≤ 16777216) (q : Q (.str (cutS z lo hi)) H) : rSlA K (.str z) lo hi H Q := Or.inl ⟨z, rfl, sz_of hz, q⟩
theorem w_slL {p : Addr} {xs : List V} {lo hi : Option Int} (h : SqL K H p xs) (q : ∀ p H', Gr [] H H' → H p = none → H' p = some (.lst (cutV xs lo hi)) → Q (.ref p) H') : rSlA K (.ref p) lo hi H Q := Or.inr (Or.inl ⟨p, xs, rfl, h, new_obj q⟩)
theorem w_lenS {z : Str} (hz : z.length ≤ 16777216) (q : Q (.int z.length) H) : rLenA K [.str z] H Q := ⟨.str z, z.length, rfl, ⟨sz_of hz, rfl⟩, q⟩
theorem w_lenL {p : Addr} {xs : List V} (h : SqL K H p xs) (q : Q (.int xs.length) H) : rLenA K [.ref p] H Q := ⟨.ref p, xs.length, rfl, .inl ⟨xs, h, rfl⟩, q⟩
theorem w_lenT {p : Addr} {xs : List V} (h : SqT K H p xs) (q : Q (.int xs.length) H) : rLenA K [.ref p] H Q := ⟨.ref p, xs.length, rfl, .inr ⟨xs, h, rfl⟩, q⟩
theorem w_abs {a : Int} (q : Q (.int (if a < 0 then -a else a)) H) : rAbs [.int a] H Q := ⟨a, rfl, q⟩
theorem w_max2 {a b : Int} (q : Q (.int (if b > a then b else a)) H) : rMaxA [.int a, .int b] H Q := ⟨a, b, rfl, q⟩
theorem w_min2 {a b : Int} (q : Q (.int (if b < a then b else a)) H) : rMinA [.int a, .int b] H Q := ⟨a, b, rfl, q⟩
theorem w_intI {a : Int} (q : Q (.int a) H) : rIntA [.int a] H Q := q
theorem w_intB {a : Bool} (q : Q (.int (if a then 1 else 0)) H) : rIntA [.bl a] H Q := q
theorem w_intS {a : Str} {k : Int} (h1 : PySem.intText? a = some k) (h2 : a.length ≤ 640) (q : Q (.int k) H) : rIntA [.str a] H Q := ⟨k, h1, h2, q⟩
theorem w_strI {a : Int} (h : a.natAbs.log2 < 1920) (q : Q (.str (toString a)) H) : rStrI [.int a] H Q := ⟨a, rfl, h, q⟩
theorem w_isi {T k : String} (hk : kindOf H x = some k) (hT : T = "int" ∨ T = "str" ∨ T = "bool" ∨ T = "list" ∨ T = "tuple") (q : Q (.bl (isa k T)) H) : rIsiAll K [x, .ty T] H Q := Or.inl ⟨x, T, k, rfl, hk, hT, q⟩
theorem w_isi2 {p : Addr} {T U k : String} (hp : H p = some (.tup [.ty T, .ty U])) (hk : kindOf H x = some k) (hT : T = "int" ∨ T = "str" ∨ T = "bool" ∨ T = "list" ∨ T = "tuple") (hU : U = "int" ∨ U = "str" ∨ U = "bool" ∨ U = "list" ∨ U = "tuple")
    (q : Q (.bl (isa k T || isa k U)) H) : rIsiAll K [x, .ref p] H Q := Or.inr ⟨x, p, T, U, k, rfl, hp, hk, hT, hU, q⟩
theorem w_all {p : Addr} {bs : List Bool} (h : SqL K H p (bs.map V.bl)) (q : Q (.bl (bs.all id)) H) : rAll K [.ref p] H Q := ⟨p, bs, rfl, h, q⟩
theorem w_any {p : Addr} {bs : List Bool} (h : SqL K H p (bs.map V.bl)) (q : Q (.bl (bs.any id)) H) : rAny K [.ref p] H Q := ⟨p, bs, rfl, h, q⟩
theorem w_app {l : Addr} {xs : List V} (hl : H l = some (.lst xs)) (hz : xs.length < 16777216) (q : ∀ H', Gr [l] H H' → H' l = some (.lst (xs ++ [y])) → Q .non H') : rAppend (.ref l) [y] H Q := ⟨l, xs, y, rfl, rfl, hl, sz_lt hz, put_obj (Q := Q .non) hl rfl q⟩
theorem w_ext {l b : Addr} {xs zs : List V} (hl : H l = some (.lst xs)) (hb : H b = some (.lst zs)) (hz : xs.length + zs.length ≤ 16777216) (q : ∀ H', Gr [l] H H' → H' l = some (.lst (xs ++ zs)) → Q .non H') : rExtend (.ref l) [.ref b] H Q := ⟨l, b, xs, zs, rfl, rfl, hl, hb, sz_of hz, put_obj (Q := Q .non) hl rfl q⟩
theorem w_rev {l : Addr} {xs : List V} (hl : H l = some (.lst xs)) (q : ∀ H', Gr [l] H H' → H' l = some (.lst xs.reverse) → Q .non H') : rReverse (.ref l) [] H Q := ⟨l, xs, rfl, rfl, hl, put_obj (Q := Q .non) hl rfl q⟩
theorem w_split {a b : Str} (hb : (b.length == 0) = false) (hz : a.length + 2 ≤ 16777216) (q : ∀ p H', Gr [] H H' → H p = none → H' p = some (.lst ((PySem.Txt.split a b).map V.str)) → Q (.ref p) H') : rSplit (.str a) [.str b] H Q := ⟨a, b, rfl, rfl, hb, sz_of hz, new_obj q⟩
theorem w_part1 {a b : Str} (hb : (b.length == 0) = false) (hz : a.length ≤ 16777216) (q : ∀ p H', Gr [] H H' → H p = none → H' p = some (.tup [.str (PySem.Txt.partition a b).1, .str (PySem.Txt.partition a b).2.1, .str (PySem.Txt.partition a b).2.2]) → Q (.ref p) H') : rPart (.str a) [.str b] H Q := ⟨a, b, rfl, rfl, hb, sz_of hz, new_obj q⟩
theorem w_rpart1 {a b : Str} (hb : (b.length == 0) = false) (hz : a.length ≤ 16777216) (q : ∀ p H', Gr [] H H' → H p = none → H' p = some (.tup [.str (PySem.Txt.rpartition a b).1, .str (PySem.Txt.rpartition a b).2.1, .str (PySem.Txt.rpartition a b).2.2]) → Q (.ref p) H') : rRpart (.str a) [.str b] H Q := ⟨a, b, rfl, rfl, hb, sz_of hz, new_obj q⟩
theorem w_join {a : Str} {p : Addr} {ys : List Str} (h : SqL K H p (ys.map V.str)) (hz : (ys.map (·.length)).sum + ys.length * a.length ≤ 16777216) (q : Q (.str (PySem.Txt.join a ys)) H) : rJoin K (.str a) [.ref p] H Q := ⟨a, p, ys, rfl, rfl, .inl h, hz, q⟩
theorem w_starts {a b : Str} (q : Q (.bl (PySem.Txt.startswith a b)) H) : rStarts (.str a) [.str b] H Q := ⟨a, b, rfl, rfl, q⟩
theorem w_lstrip {a b : Str} (hz : a.length ≤ 16777216) (q : Q (.str (PySem.Txt.lstripChars a b)) H) : rLstrip (.str a) [.str b] H Q := ⟨a, b, rfl, rfl, sz_of hz, q⟩
theorem w_ipI {a b : Int} (q : Q (.int (a + b)) H) : ipAdd (.int a) (.int b) H Q := q
theorem w_ipS {a b : Str} (hz : a.length + b.length ≤ 16777216) (q : Q (.str (a ++ b)) H) : ipAdd (.str a) (.str b) H Q := ⟨sz_of hz, q⟩
theorem w_list {p : Addr} {ys : List V} (h : SqL K H p ys ∨ SqT K H p ys) (q : ∀ p H', Gr [] H H' → H p = none → H' p = some (.lst ys) → Q (.ref p) H') : rListA K [.ref p] H Q := ⟨p, ys, rfl, h, new_obj q⟩
theorem w_tuple {p : Addr} {ys : List V} (h : SqL K H p ys) (q : ∀ p H', Gr [] H H' → H p = none → H' p = some (.tup ys) → Q (.ref p) H') : rTupA K [.ref p] H Q := ⟨p, ys, rfl, .inl ⟨h, new_obj q⟩⟩
theorem w_divmod {a b : Int} (h : CDiv a b) (q : ∀ p H', Gr [] H H' → H p = none → H' p = some (.tup [.int (a / b), .int (a % b)]) → Q (.ref p) H') : rDivmod [.int a, .int b] H Q := ⟨a, b, rfl, h, new_obj q⟩
/-- a tuple taken apart -/
theorem w_gtup {n : Nat} {t : TGs} {a : Addr} {xs : List V} {Q : L2.St → Hp → Prop} (h : SqT K H a xs) (hn : xs.length = n) (q : t xs σ H Q) : gTup K n t (.ref a) σ H Q := ⟨a, xs, rfl, h, hn, q⟩
theorem w_gcons {t : TG} {u : TGs} {xs : List V} {Q : L2.St → Hp → Prop} (h : t x σ H (fun σ' H' => u xs σ' H' Q)) : gCons t u (x :: xs) σ H Q := ⟨x, xs, rfl, h⟩
theorem w_gnil {Q : L2.St → Hp → Prop} (h : Q σ H) : gNil [] σ H Q := ⟨rfl, h⟩
theorem w_cut {Mid : L2.St → Hp → Prop} (h : t { D with nx := Mid } σ H) (k : ∀ σ' H', Mid σ' H' → u D σ' H') : Evl.tCut t u D σ H := ⟨Mid, h, k⟩
theorem iteB {b : Bool} {A B : Prop} (h1 : b = true → A) (h2 : b = false → B) : if b = true then A else B := by
  cases b with
  | true => exact (if_pos rfl).mpr (h1 rfl)
  | false => exact (if_neg Bool.false_ne_true).mpr (h2 rfl)
end

/-! ### the same, the written part told -/
section
variable {X : Cx} {K : PySem.W.Frag} {e a b o : Expr} {es : List Expr} {te ta tb to : TE} {tA : TA} {pos apos cpos : Pos}
theorem op_addK (h : X.K = K) : OpR X (binaryOp .Add) (rAddA K) := by subst h; exact op_addA
theorem op_eqK (h : X.K = K) (hu : X.A.units + 64 < cLine) : OpR X (compareOp .Eq) (rEqA K) := by subst h; exact op_eqA hu
theorem op_neK (h : X.K = K) (hu : X.A.units + 64 < cLine) : OpR X (compareOp .NotEq) (rNeA K) := by subst h; exact op_neA hu
theorem op_inK (h : X.K = K) : OpR X (compareOp .In) (rInA K) := by subst h; exact op_inA
theorem op_ninK (h : X.K = K) : OpR X (compareOp .NotIn) (rNinA K) := by subst h; exact op_ninA
theorem ix_anyK (h : X.K = K) : IxR X (rIxA K) := by subst h; exact ix_any
theorem sl_anyK (h : X.K = K) : SlR X (rSlA K) := by subst h; exact sl_any
theorem pi_anyK {tg : Expr} (h : X.K = K) (he : PE X e te) : PI X tg e (iAny K te) := by subst h; exact pi_any he
theorem call_lenK (h : X.K = K) : CallR X (.builtin "len") (rLenA K) := by subst h; exact call_lenA
theorem call_isiK' (h : X.K = K) : CallR X (.builtin "isinstance") (rIsiAll K) := by subst h; exact call_isiAll
theorem call_listK (h : X.K = K) : CallR X (.type "list") (rListA K) := by subst h; exact call_listA
theorem call_tupK (h : X.K = K) : CallR X (.type "tuple") (rTupA K) := by subst h; exact call_tupA
theorem cr_allK (h : X.K = K) (hc : X.calm = true) : CallR X (.builtin "all") (rAll K) := by subst h; exact cr_all hc
theorem cr_anyK (h : X.K = K) (hc : X.calm = true) : CallR X (.builtin "any") (rAny K) := by subst h; exact cr_any hc
theorem cr_sumK (h : X.K = K) (hc : X.calm = true) : CallR X (.builtin "sum") (rSum K) := by subst h; exact cr_sum hc
theorem mt_joinK (h : X.K = K) : MtR X "str.join" (rJoin K) := by subst h; exact mt_joinA
/-- the reading of a rule over X.K, told over K -/
theorem peK {f : PySem.W.Frag → TE} (h : X.K = K) (p : PE X e (f X.K)) : PE X e (f K) := by subst h; exact p
theorem pgK {f : PySem.W.Frag → TG} (h : X.K = K) (p : PG X e (f X.K)) : PG X e (f K) := by subst h; exact p
theorem psK {st : Stmt} {f : PySem.W.Frag → TS} (h : X.K = K) (p : PS X st (f X.K)) : PS X st (f K) := by subst h; exact p
theorem piK {tg : Expr} {f : PySem.W.Frag → TI} (h : X.K = K) (p : PI X tg e (f X.K)) : PI X tg e (f K) := by subst h; exact p
theorem ptK {f : PySem.W.Frag → TT} (h : X.K = K) (p : PT X e (f X.K)) : PT X e (f K) := by subst h; exact p
theorem pe_fldK {f : Str} (h : X.K = K) (he : PE X e te) (hb : attributeBase e f X.env (eval e X.env) = eval e X.env) : PE X (.Attribute e f pos) (tFld K te f) := peK (f := fun K => tFld K te f) h (pe_fld he hb)
theorem pg_tupK {k n : Nat} {t : TGs} (h : X.K = K) (hc : X.calm = true) (hp : PGs X es t) (hn : (assignEach es X.env).length = n := by rfl) (hst : (assignEach es X.env).findIdx? (·.1) = none := by rfl) : PG X (.Tuple es k pos) (gTup K n t) :=
  pgK (f := fun K => gTup K n t) h (pg_tup hc hp hn hst)
theorem pe_bmK {T id : String} {name : Str} {r : V → List V → Hp → VK → Prop} (h : X.K = K) (pa : PlainAttrs T) (slot : PySem.Slot T name id) (hty : typeOf (.builtin id) = pure (.type "method_descriptor")) (hm : MtR X id r) (ho : PE X o to) (ha : PA X (e :: es) tA)
    (hbase : attributeBase o name X.env (eval o X.env) = eval o X.env := by rfl)
    (hfew : ((backTo cpos (starEach (e :: es) X.env)).all (fun x => !x.1) && (backToKw cpos (keywordEach [] X.env)).all (fun x => x.1.isSome)
      && decide ((e :: es).length + ([] : List Keyword).length + (if ([] : List Keyword).isEmpty then 0 else 1) < 30)) = true := by rfl)
    (hline : (apos.endLine == cpos.line) = true := by rfl) (hs : starEach (e :: es) X.env = (false, eval e X.env) :: starEach es X.env := by rfl) (hplain : (backTo cpos (starEach es X.env)).any (·.1) = false := by rfl) :
    PE X (.Call (.Attribute o name apos) (e :: es) [] cpos) (tBM K T r to tA) := peK (f := fun K => tBM K T r to tA) h (pe_bm pa slot hty hm ho ha hbase hfew hline hs hplain)
end

/-! isinstance, case by case -/
section
variable {K : PySem.W.Frag} {H : Hp} {Q : VK}
theorem isi_N_str (q : Q (.bl false) H) : rIsiAll K [.non, .ty "str"] H Q := w_isi (k := "NoneType") rfl (by simp) (by rw [show isa "NoneType" "str" = false by decide +kernel]; exact q)
theorem isi_N_int (q : Q (.bl false) H) : rIsiAll K [.non, .ty "int"] H Q := w_isi (k := "NoneType") rfl (by simp) (by rw [show isa "NoneType" "int" = false by decide +kernel]; exact q)
theorem isi_N_bool (q : Q (.bl false) H) : rIsiAll K [.non, .ty "bool"] H Q := w_isi (k := "NoneType") rfl (by simp) (by rw [show isa "NoneType" "bool" = false by decide +kernel]; exact q)
theorem isi_N_list (q : Q (.bl false) H) : rIsiAll K [.non, .ty "list"] H Q := w_isi (k := "NoneType") rfl (by simp) (by rw [show isa "NoneType" "list" = false by decide +kernel]; exact q)
theorem isi_N_tuple (q : Q (.bl false) H) : rIsiAll K [.non, .ty "tuple"] H Q := w_isi (k := "NoneType") rfl (by simp) (by rw [show isa "NoneType" "tuple" = false by decide +kernel]; exact q)
theorem isi_N_lt {p : Addr} (hp : H p = some (.tup [.ty "list", .ty "tuple"])) (q : Q (.bl false) H) : rIsiAll K [.non, .ref p] H Q := w_isi2 (k := "NoneType") hp rfl (by simp) (by simp) (by rw [show (isa "NoneType" "list" || isa "NoneType" "tuple") = false by decide +kernel]; exact q)
theorem isi_B_str {b : Bool} (q : Q (.bl false) H) : rIsiAll K [(.bl b), .ty "str"] H Q := w_isi (k := "bool") rfl (by simp) (by rw [show isa "bool" "str" = false by decide +kernel]; exact q)
theorem isi_B_int {b : Bool} (q : Q (.bl true) H) : rIsiAll K [(.bl b), .ty "int"] H Q := w_isi (k := "bool") rfl (by simp) (by rw [show isa "bool" "int" = true by decide +kernel]; exact q)
theorem isi_B_bool {b : Bool} (q : Q (.bl true) H) : rIsiAll K [(.bl b), .ty "bool"] H Q := w_isi (k := "bool") rfl (by simp) (by rw [show isa "bool" "bool" = true by decide +kernel]; exact q)
theorem isi_B_list {b : Bool} (q : Q (.bl false) H) : rIsiAll K [(.bl b), .ty "list"] H Q := w_isi (k := "bool") rfl (by simp) (by rw [show isa "bool" "list" = false by decide +kernel]; exact q)
theorem isi_B_tuple {b : Bool} (q : Q (.bl false) H) : rIsiAll K [(.bl b), .ty "tuple"] H Q := w_isi (k := "bool") rfl (by simp) (by rw [show isa "bool" "tuple" = false by decide +kernel]; exact q)
theorem isi_B_lt {b : Bool} {p : Addr} (hp : H p = some (.tup [.ty "list", .ty "tuple"])) (q : Q (.bl false) H) : rIsiAll K [(.bl b), .ref p] H Q := w_isi2 (k := "bool") hp rfl (by simp) (by simp) (by rw [show (isa "bool" "list" || isa "bool" "tuple") = false by decide +kernel]; exact q)
theorem isi_I_str {i : Int} (q : Q (.bl false) H) : rIsiAll K [(.int i), .ty "str"] H Q := w_isi (k := "int") rfl (by simp) (by rw [show isa "int" "str" = false by decide +kernel]; exact q)
theorem isi_I_int {i : Int} (q : Q (.bl true) H) : rIsiAll K [(.int i), .ty "int"] H Q := w_isi (k := "int") rfl (by simp) (by rw [show isa "int" "int" = true by decide +kernel]; exact q)
theorem isi_I_bool {i : Int} (q : Q (.bl false) H) : rIsiAll K [(.int i), .ty "bool"] H Q := w_isi (k := "int") rfl (by simp) (by rw [show isa "int" "bool" = false by decide +kernel]; exact q)
theorem isi_I_list {i : Int} (q : Q (.bl false) H) : rIsiAll K [(.int i), .ty "list"] H Q := w_isi (k := "int") rfl (by simp) (by rw [show isa "int" "list" = false by decide +kernel]; exact q)
theorem isi_I_tuple {i : Int} (q : Q (.bl false) H) : rIsiAll K [(.int i), .ty "tuple"] H Q := w_isi (k := "int") rfl (by simp) (by rw [show isa "int" "tuple" = false by decide +kernel]; exact q)
theorem isi_I_lt {i : Int} {p : Addr} (hp : H p = some (.tup [.ty "list", .ty "tuple"])) (q : Q (.bl false) H) : rIsiAll K [(.int i), .ref p] H Q := w_isi2 (k := "int") hp rfl (by simp) (by simp) (by rw [show (isa "int" "list" || isa "int" "tuple") = false by decide +kernel]; exact q)
theorem isi_S_str {z : Str} (q : Q (.bl true) H) : rIsiAll K [(.str z), .ty "str"] H Q := w_isi (k := "str") rfl (by simp) (by rw [show isa "str" "str" = true by decide +kernel]; exact q)
theorem isi_S_int {z : Str} (q : Q (.bl false) H) : rIsiAll K [(.str z), .ty "int"] H Q := w_isi (k := "str") rfl (by simp) (by rw [show isa "str" "int" = false by decide +kernel]; exact q)
theorem isi_S_bool {z : Str} (q : Q (.bl false) H) : rIsiAll K [(.str z), .ty "bool"] H Q := w_isi (k := "str") rfl (by simp) (by rw [show isa "str" "bool" = false by decide +kernel]; exact q)
theorem isi_S_list {z : Str} (q : Q (.bl false) H) : rIsiAll K [(.str z), .ty "list"] H Q := w_isi (k := "str") rfl (by simp) (by rw [show isa "str" "list" = false by decide +kernel]; exact q)
theorem isi_S_tuple {z : Str} (q : Q (.bl false) H) : rIsiAll K [(.str z), .ty "tuple"] H Q := w_isi (k := "str") rfl (by simp) (by rw [show isa "str" "tuple" = false by decide +kernel]; exact q)
theorem isi_S_lt {z : Str} {p : Addr} (hp : H p = some (.tup [.ty "list", .ty "tuple"])) (q : Q (.bl false) H) : rIsiAll K [(.str z), .ref p] H Q := w_isi2 (k := "str") hp rfl (by simp) (by simp) (by rw [show (isa "str" "list" || isa "str" "tuple") = false by decide +kernel]; exact q)
theorem isi_L_str {a : Addr} {xs : List V} (h : H a = some (.lst xs)) (q : Q (.bl false) H) : rIsiAll K [(.ref a), .ty "str"] H Q := w_isi (k := "list") (by simp [kindOf, h]) (by simp) (by rw [show isa "list" "str" = false by decide +kernel]; exact q)
theorem isi_L_int {a : Addr} {xs : List V} (h : H a = some (.lst xs)) (q : Q (.bl false) H) : rIsiAll K [(.ref a), .ty "int"] H Q := w_isi (k := "list") (by simp [kindOf, h]) (by simp) (by rw [show isa "list" "int" = false by decide +kernel]; exact q)
theorem isi_L_bool {a : Addr} {xs : List V} (h : H a = some (.lst xs)) (q : Q (.bl false) H) : rIsiAll K [(.ref a), .ty "bool"] H Q := w_isi (k := "list") (by simp [kindOf, h]) (by simp) (by rw [show isa "list" "bool" = false by decide +kernel]; exact q)
theorem isi_L_list {a : Addr} {xs : List V} (h : H a = some (.lst xs)) (q : Q (.bl true) H) : rIsiAll K [(.ref a), .ty "list"] H Q := w_isi (k := "list") (by simp [kindOf, h]) (by simp) (by rw [show isa "list" "list" = true by decide +kernel]; exact q)
theorem isi_L_tuple {a : Addr} {xs : List V} (h : H a = some (.lst xs)) (q : Q (.bl false) H) : rIsiAll K [(.ref a), .ty "tuple"] H Q := w_isi (k := "list") (by simp [kindOf, h]) (by simp) (by rw [show isa "list" "tuple" = false by decide +kernel]; exact q)
theorem isi_L_lt {a : Addr} {xs : List V} {p : Addr} (h : H a = some (.lst xs)) (hp : H p = some (.tup [.ty "list", .ty "tuple"])) (q : Q (.bl true) H) : rIsiAll K [(.ref a), .ref p] H Q := w_isi2 (k := "list") hp (by simp [kindOf, h]) (by simp) (by simp) (by rw [show (isa "list" "list" || isa "list" "tuple") = true by decide +kernel]; exact q)
theorem isi_T_str {a : Addr} {xs : List V} (h : H a = some (.tup xs)) (q : Q (.bl false) H) : rIsiAll K [(.ref a), .ty "str"] H Q := w_isi (k := "tuple") (by simp [kindOf, h]) (by simp) (by rw [show isa "tuple" "str" = false by decide +kernel]; exact q)
theorem isi_T_int {a : Addr} {xs : List V} (h : H a = some (.tup xs)) (q : Q (.bl false) H) : rIsiAll K [(.ref a), .ty "int"] H Q := w_isi (k := "tuple") (by simp [kindOf, h]) (by simp) (by rw [show isa "tuple" "int" = false by decide +kernel]; exact q)
theorem isi_T_bool {a : Addr} {xs : List V} (h : H a = some (.tup xs)) (q : Q (.bl false) H) : rIsiAll K [(.ref a), .ty "bool"] H Q := w_isi (k := "tuple") (by simp [kindOf, h]) (by simp) (by rw [show isa "tuple" "bool" = false by decide +kernel]; exact q)
theorem isi_T_list {a : Addr} {xs : List V} (h : H a = some (.tup xs)) (q : Q (.bl false) H) : rIsiAll K [(.ref a), .ty "list"] H Q := w_isi (k := "tuple") (by simp [kindOf, h]) (by simp) (by rw [show isa "tuple" "list" = false by decide +kernel]; exact q)
theorem isi_T_tuple {a : Addr} {xs : List V} (h : H a = some (.tup xs)) (q : Q (.bl true) H) : rIsiAll K [(.ref a), .ty "tuple"] H Q := w_isi (k := "tuple") (by simp [kindOf, h]) (by simp) (by rw [show isa "tuple" "tuple" = true by decide +kernel]; exact q)
theorem isi_T_lt {a : Addr} {xs : List V} {p : Addr} (h : H a = some (.tup xs)) (hp : H p = some (.tup [.ty "list", .ty "tuple"])) (q : Q (.bl true) H) : rIsiAll K [(.ref a), .ref p] H Q := w_isi2 (k := "tuple") hp (by simp [kindOf, h]) (by simp) (by simp) (by rw [show (isa "tuple" "list" || isa "tuple" "tuple") = true by decide +kernel]; exact q)
theorem w_ifT {c : Bool} {A B : Prop} (h : c = true) (q : A) : if c = true then A else B := by rw [if_pos h]; exact q
theorem w_ifF {c : Bool} {A B : Prop} (h : c = false) (q : B) : if c = true then A else B := by rw [if_neg (by rw [h]; exact Bool.false_ne_true)]; exact q
end

/-! ### comprehensions -/
section
variable {K : PySem.W.Frag} {σ : L2.St} {H : Hp} {Q : VK} {g : TG} {tt : TT} {te : TE} {vs : List Nat} {J : It} {n : Nat} {G : Hp → Prop} {xs : List V}
theorem take_succ_get {α : Type} {xs : List α} {i : Nat} {x : α} (h : xs[i]? = some x) : xs.take (i + 1) = xs.take i ++ [x] := by
  rw [List.take_succ, h]; rfl
/-- elements and tests that change nothing -/
theorem lc_pure (σw : L2.St) (hw : wipe σ vs = σw) (w : Walk J n G (fun i H x H' => H' = H ∧ xs[i]? = some x)) (hn : n = xs.length) (hG : ∀ H', Gr [] H H' → G H') (p : V → Bool) (f : V → V)
    (hs : ∀ x H1, x ∈ xs → Gr [] H H1 → ∀ (R : Hp → Prop) (A : VK), (∀ H2, Gr [] H1 H2 → p x = true → A (f x) H2) → (∀ H2, Gr [] H1 H2 → p x = false → R H2) →
      g x σw H1 fun σ2 H2 => wipe σ2 vs = σw ∧ tt σ2 H2 fun b H3 => if b = true then te σ2 H3 A else R H3)
    (hz : xs.length ≤ 16000000) (q : ∀ D H', Gr [] H H' → H D = none → H' D = some (.lst ((xs.filter p).map f)) → Q (.ref D) H') : kLc g tt te vs σ Q J H := by
  intro D hD
  subst hn
  subst hw
  refine lc_it w (fun i H' => Gr [] H H' ∧ H' D = some (.lst (((xs.take i).filter p).map f))) ⟨Gr.new hD, by rw [upd_same]; simp⟩ (fun i H' _ h => hG H' h.1) ?_ ?_
  · rintro i x H1 H1' hi ⟨g1, d1⟩ ⟨rfl, hx⟩
    have hm : x ∈ xs := List.mem_of_getElem? hx
    have hlen : (((xs.take i).filter p).map f).length ≤ 16000000 := by
      rw [List.length_map]
      refine Nat.le_trans (List.length_filter_le _ _) ?_
      rw [List.length_take]; omega
    refine hs x _ hm g1 _ _ (fun H2 g2 hp => ?_) (fun H2 g2 hp => ?_)
    · refine ⟨_, g2.get0 d1, sz_lt (by omega), ?_, ?_⟩
      · have gg : Gr [D] H (upd H2 D (.lst ((((xs.take i).filter p).map f) ++ [f x]))) := (g1.trans g2).wide.trans (Gr.put (g2.get0 d1) rfl (List.mem_cons_self))
        exact gg.fresh hD
      · rw [upd_same, take_succ_get hx, List.filter_append, List.map_append]
        simp [hp]
    · refine ⟨g1.trans g2, ?_⟩
      rw [g2.get0 d1, take_succ_get hx, List.filter_append, List.map_append]
      simp [hp]
  · rintro H' ⟨g1, d1⟩
    rw [List.take_length] at d1
    exact q D H' g1 hD d1
/-- the walked things as a list -/
theorem walk_listE {a : Addr} : Walk (Itl K a) xs.length (fun H => SqL K H a xs) (fun i H x H' => H' = H ∧ xs[i]? = some x) := walk_list
theorem walk_tupE {a : Addr} : Walk (Itt K a) xs.length (fun H => SqT K H a xs) (fun i H x H' => H' = H ∧ xs[i]? = some x) := walk_tup
def signs (z : Str) : List V := z.cps.toList.map fun c => .str ⟨#[c]⟩
theorem walk_strE {z : Str} : Walk (Its z) (signs z).length (fun _ => True) (fun i H x H' => H' = H ∧ (signs z)[i]? = some x) := by
  have e : (signs z).length = z.cps.size := by simp [signs]
  rw [e]
  refine walk_str.mono (fun _ h => h) fun i H x H' hi _ y => ?_
  obtain ⟨h1, c, h2, h3⟩ := y
  refine ⟨h1, ?_⟩
  simp [signs, h2, h3]
def intsV (n : Nat) : List V := (List.range n).map fun (i : Nat) => .int (i : Int)
theorem walk_rangeE {n : Nat} : Walk (Itr 0 n) (intsV n).length (fun _ => True) (fun i H x H' => H' = H ∧ (intsV n)[i]? = some x) := by
  have e : (intsV n).length = n := by simp [intsV]
  rw [e]
  refine walk_range.mono (fun _ h => h) fun i H x H' hi _ y => ?_
  obtain ⟨h1, h3⟩ := y
  refine ⟨h1, ?_⟩
  simp [intsV, hi, h3]
/-- elements that change what stands at fp; P tells what has been made -/
theorem lc_fx (σw : L2.St) (hw : wipe σ vs = σw) {Y : Nat → Hp → V → Hp → Prop} {fp : List Addr} (w : Walk J n G Y) (hfp : ∀ a ∈ fp, ∃ o, H a = some o) (P : Nat → List V → Hp → Prop) (h0 : ∀ H', Gr [] H H' → P 0 [] H')
    (st : ∀ i acc H1 D o, H D = none → P i acc H1 → P i acc (upd H1 D o)) (hG : ∀ i acc H', Gr fp H H' → P i acc H' → G H') (hl : ∀ i acc H', P i acc H' → acc.length < 16000000)
    (hs : ∀ i x acc H1 H2, i < n → Gr fp H H1 → P i acc H1 → Y i H1 x H2 → ∀ (R : Hp → Prop) (A : VK), (∀ y H3, Gr fp H1 H3 → P (i + 1) (acc ++ [y]) H3 → A y H3) → (∀ H3, Gr fp H1 H3 → P (i + 1) acc H3 → R H3) →
      g x σw H2 fun σ2 H2 => wipe σ2 vs = σw ∧ tt σ2 H2 fun b H3 => if b = true then te σ2 H3 A else R H3)
    (q : ∀ D acc H', Gr fp H H' → H D = none → H' D = some (.lst acc) → P n acc H' → Q (.ref D) H') : kLc g tt te vs σ Q J H := by
  intro D hD
  subst hw
  have nD : D ∉ fp := fun m => by obtain ⟨o, e⟩ := hfp D m; rw [hD] at e; cases e
  refine lc_it w (fun i H' => ∃ acc, Gr fp H H' ∧ H' D = some (.lst acc) ∧ P i acc H') ⟨[], Gr.new hD, upd_same, h0 _ (Gr.new hD)⟩ (fun i H' _ ⟨acc, h1, _, h3⟩ => hG i acc H' h1 h3) ?_ ?_
  · rintro i x H1 H1' hi ⟨acc, g1, d1, p1⟩ y
    refine hs i x acc H1 H1' hi g1 p1 y _ _ (fun y H3 g3 p3 => ?_) (fun H3 g3 p3 => ?_)
    · refine ⟨acc, g3.get d1 nD, sz_lt (by have := hl _ _ _ p1; omega), acc ++ [y], ?_, upd_same, st _ _ _ _ _ hD p3⟩
      have gg : Gr (D :: fp) H (upd H3 D (.lst (acc ++ [y]))) := ((g1.trans g3).mono fun a h => List.mem_cons_of_mem _ h).trans (Gr.put (g3.get d1 nD) rfl List.mem_cons_self)
      exact gg.fresh hD
    · exact ⟨acc, g1.trans g3, g3.get d1 nD, p3⟩
  · rintro H' ⟨acc, g1, d1, p1⟩
    exact q D acc H' g1 hD d1 p1
end

/-! ### one text in, a datum out -/
def one (f : Str → PD) : List V → Option PD
  | [.str z] => if z.length ≤ 1000000 then some (f z) else none
  | _ => none
theorem one_open {f : Str → PD} {vs : List V} {d : PD} (h : one f vs = some d) : ∃ z, vs = [.str z] ∧ z.length ≤ 1000000 ∧ d = f z := by
  unfold one at h
  split at h
  · split at h
    · cases h; exact ⟨_, rfl, by assumption, rfl⟩
    · cases h
  · cases h
theorem one_len {f : Str → PD} {vs : List V} {H : Hp} {Q : VK} {E : XK} (h : spD (one f) vs H Q E) : vs.length = 1 := by
  obtain ⟨d, h, _⟩ := h
  obtain ⟨z, rfl, _⟩ := one_open h
  rfl
theorem one_use {f : Str → PD} {z : Str} {H : Hp} {Q : VK} {E : XK} (hz : z.length ≤ 1000000) (k : ∀ v H', Gr [] H H' → TRep H' (f z) v → Q v H') : spD (one f) [.str z] H Q E :=
  ⟨f z, if_pos hz, k⟩
theorem rep_bl {H : Hp} {b c : Bool} (h : b = c) : TRep H (.bl c) (.bl b) := by unfold TRep; rw [h]
theorem rep_int {H : Hp} {b c : Int} (h : b = c) : TRep H (.int c) (.int b) := by unfold TRep; rw [h]
theorem rep_str {H : Hp} {b c : Str} (h : b = c) : TRep H (.str c) (.str b) := by unfold TRep; rw [h]
theorem rep_non {H : Hp} : TRep H .non .non := by unfold TRep; rfl
theorem rep_tup {H : Hp} {a : Addr} {xs : List V} {ds : List PD} (h : H a = some (.tup xs)) (r : TReps H ds xs) : TRep H (.tup ds) (.ref a) := by unfold TRep; exact ⟨a, xs, rfl, h, r⟩
theorem rep_lst {H : Hp} {a : Addr} {xs : List V} {ds : List PD} (h : H a = some (.lst xs)) (r : TReps H ds xs) : TRep H (.lst ds) (.ref a) := by unfold TRep; exact ⟨a, xs, rfl, h, r⟩
theorem rep_bl' {H : Hp} {b : Bool} {v : V} (h : TRep H (.bl b) v) : v = .bl b := by unfold TRep at h; exact h
theorem rep_int' {H : Hp} {b : Int} {v : V} (h : TRep H (.int b) v) : v = .int b := by unfold TRep at h; exact h
theorem rep_str' {H : Hp} {b : Str} {v : V} (h : TRep H (.str b) v) : v = .str b := by unfold TRep at h; exact h
theorem rep_non' {H : Hp} {v : V} (h : TRep H .non v) : v = .non := by unfold TRep at h; exact h
theorem rep_tup' {H : Hp} {ds : List PD} {v : V} (h : TRep H (.tup ds) v) : ∃ a xs, v = .ref a ∧ H a = some (.tup xs) ∧ TReps H ds xs := by unfold TRep at h; exact h
theorem rep_lst' {H : Hp} {ds : List PD} {v : V} (h : TRep H (.lst ds) v) : ∃ a xs, v = .ref a ∧ H a = some (.lst xs) ∧ TReps H ds xs := by unfold TRep at h; exact h
theorem Qv {Q : VK} {v v' : V} {H : Hp} (e : v = v') (h : Q v' H) : Q v H := by rw [e]; exact h
section
variable {K : PySem.W.Frag} {σ : L2.St} {H : Hp} {Q : VK} {g : TG} {te : TE} {vs : List Nat} {z : Str}
theorem filter_true {α : Type} (xs : List α) : xs.filter (fun _ => true) = xs := by simp
/-- over a text, sign by sign -/
theorem lc_signs (σw : L2.St) (hw : wipe σ vs = σw) (f : Nat → V) (hz : z.length ≤ 16000000)
    (hs : ∀ c H1, c ∈ z.cps.toList → Gr [] H H1 → ∀ (R : Hp → Prop) (A : VK), (∀ H2, Gr [] H1 H2 → A (f c) H2) →
      g (.str ⟨#[c]⟩) σw H1 fun σ2 H2 => wipe σ2 vs = σw ∧ tYes σ2 H2 fun b H3 => if b = true then te σ2 H3 A else R H3)
    (q : ∀ D H', Gr [] H H' → H D = none → H' D = some (.lst (z.cps.toList.map f)) → Q (.ref D) H') : kLc g tYes te vs σ Q (Its z) H := by
  refine lc_pure σw hw (xs := signs z) walk_strE rfl (fun _ _ => trivial) (fun _ => true) (fun x => match x with | .str s => f (s.cps.getD 0 0) | _ => .non) (fun x H1 hx g1 R A kA kR => ?_) (by simpa [signs, Str.length] using hz) (fun D H' g1 hD e => ?_)
  · obtain ⟨c, hc, rfl⟩ := List.mem_map.mp hx
    exact hs c H1 hc g1 R A (fun H2 g2 => kA H2 g2 rfl)
  · refine q D H' g1 hD ?_
    rw [e, filter_true]
    simp [signs]
end

section
variable {K : PySem.W.Frag} {σ : L2.St} {H : Hp} {Q : VK} {tt : TT} {ta tb : TE} {c : Bool} {v : V}
/-- both ways give one value -/
theorem if_join (hc : ∀ QB : Bool → Hp → Prop, QB c H → tt σ H QB) (h1 : c = true → ∀ Q' : VK, Q' v H → ta σ H Q') (h2 : c = false → ∀ Q' : VK, Q' v H → tb σ H Q') (q : Q v H) : tIf tt ta tb σ H Q := by
  refine hc _ ?_
  cases c with
  | true => exact (if_pos rfl).mpr (h1 rfl _ q)
  | false => exact (if_neg Bool.false_ne_true).mpr (h2 rfl _ q)
theorem cutS_len (z : Str) (lo hi : Option Int) : (cutS z lo hi).length ≤ z.length := by
  have e : (cutS z lo hi).length = ((z.cps.toList.drop (HT.sIx z.length 0 lo)).take (HT.sIx z.length z.length hi - HT.sIx z.length 0 lo)).length := by simp [cutS, Str.length]
  rw [e, List.length_take, List.length_drop]
  have : z.length = z.cps.toList.length := by simp [Str.length]
  omega
theorem atI_zero {α : Type} {xs : List α} {c : α} {r : List α} (h : xs = c :: r) : atI xs 0 = some c := by
  subst h
  simp [atI, ixN]
end

/-! ### the steps as a class: found by the head of what is to be shown -/
class Stp (P : Prop) (P' : outParam Prop) : Prop where
  h : P' → P
class Look (σ : L2.St) (i : Nat) (v : outParam V) : Prop where
  h : σ[i]? = some (some v)
instance {v : V} {r : L2.St} : Look (some v :: r) 0 v := ⟨rfl⟩
instance {v : V} {x : Option V} {r : L2.St} {i : Nat} [l : Look r i v] : Look (x :: r) (i + 1) v := ⟨by simpa using l.h⟩
class SetS (σ : L2.St) (i : Nat) (v : Option V) (σ' : outParam L2.St) : Prop where
  h : σ.set i v = σ'
instance {v x : Option V} {r : L2.St} : SetS (x :: r) 0 v (v :: r) := ⟨rfl⟩
instance {v x : Option V} {r r' : L2.St} {i : Nat} [l : SetS r i v r'] : SetS (x :: r) (i + 1) v (x :: r') := ⟨by simp [l.h]⟩
class WipeS (σ : L2.St) (vs : List Nat) (σ' : outParam L2.St) : Prop where
  h : wipe σ vs = σ'
instance {σ : L2.St} : WipeS σ [] σ := ⟨rfl⟩
instance {σ σ1 σ2 : L2.St} {v : Nat} {vs : List Nat} [a : WipeS σ vs σ1] [b : SetS σ1 v none σ2] : WipeS σ (v :: vs) σ2 := ⟨by unfold wipe; rw [a.h, b.h]⟩
/-- a bound on a size: left to arithmetic -/
def SzC (p : Prop) : Prop := p
theorem szc {p q : Prop} (h : p) (k : q) : SzC p ∧ q := ⟨h, k⟩
/-- a thing of the heap: left to the look-up -/
def FrC (p : Prop) : Prop := p
theorem frc {p q : Prop} (h : p) (k : q) : FrC p ∧ q := ⟨h, k⟩
def kB (Q : Bool → Hp → Prop) : VK := fun x H' => ∃ k, x = .bl k ∧ Q k H'
def kI (Q : Int → Hp → Prop) : VK := fun x H' => ∃ k, x = .int k ∧ Q k H'
def kStr (R : V → Hp → Prop) : VK := fun x H' => (∃ a, x = .str a) ∧ R x H'
def kIL (K : PySem.W.Frag) (R : It → Hp → Prop) : VK := fun x H1 => ∃ a, x = .ref a ∧ (∃ xs, SqL K H1 a xs) ∧ R (Itl K a) H1
def kIT (K : PySem.W.Frag) (R : It → Hp → Prop) : VK := fun x H1 => ∃ a, x = .ref a ∧ (∃ xs, SqT K H1 a xs) ∧ R (Itt K a) H1
def kIS (R : It → Hp → Prop) : VK := fun x H1 => ∃ z, x = .str z ∧ R (Its z) H1
def kIR (R : It → Hp → Prop) : List V → Hp → Prop := fun vs H1 => ∃ j : Int, vs = [.int j] ∧ -(2 ^ 62) ≤ j ∧ j < 2 ^ 62 ∧ R (Itr 0 j.toNat) H1
def kIE (K : PySem.W.Frag) (R : It → Hp → Prop) : List V → Hp → Prop := fun vs H1 => ∃ a xs, vs = [.ref a] ∧ SqL K H1 a xs ∧ R (Ite K a) H1
def kTy (K : PySem.W.Frag) (T : String) (R : V → Hp → Prop) : VK := fun x H1 => tyV K T x H1 ∧ R x H1
section
variable {K : PySem.W.Frag} {σ σ' : L2.St} {σx : V → L2.St} {H : Hp} {Q : VK} {QB : Bool → Hp → Prop} {QI : Int → Hp → Prop} {QO : Option Int → Hp → Prop} {QA : List V → Hp → Prop} {QS : L2.St → Hp → Prop} {D : Ends} {t u : TS} {te ta tb tc : TE} {tt tu : TT} {tA : TA} {g : TG} {i j l : Nat} {v x y : V} {r r' : R2} {n b c : L2.St → Hp → Prop} {rt : VK} {A B : Prop}
instance : Stp (tSeq t u D σ H) (t { D with nx := u D } σ H) := ⟨id⟩
instance : Stp (tNext D σ H) (D.nx σ H) := ⟨id⟩
instance : Stp ((Ends.mk n rt b c).nx σ H) (n σ H) := ⟨id⟩
instance : Stp ((Ends.mk n rt b c).rt v H) (rt v H) := ⟨id⟩
instance : Stp ((Ends.mk n rt b c).bk σ H) (b σ H) := ⟨id⟩
instance : Stp ((Ends.mk n rt b c).ct σ H) (c σ H) := ⟨id⟩
instance (priority := high) [s : ∀ x, SetS σ i (some x) (σx x)] : Stp (tAsg te (gName i) D σ H) (te σ H (fun x H1 => D.nx (σx x) H1)) := ⟨fun h => by
  have e : (fun (x : V) (H1 : Hp) => D.nx (σx x) H1) = fun x H1 => D.nx (σ.set i (some x)) H1 := by funext x H1; rw [(s x).h]
  rw [e] at h; exact h⟩
instance : Stp (tAsg te g D σ H) (te σ H (fun x H1 => g x σ H1 D.nx)) := ⟨id⟩
instance [s : SetS σ i (some v) σ'] : Stp (gName i v σ H QS) (QS σ' H) := ⟨fun h => by rw [← s.h] at h; exact h⟩
instance : Stp (tRet te D σ H) (te σ H D.rt) := ⟨id⟩
instance : Stp (tRetN D σ H) (D.rt .non H) := ⟨id⟩
instance : Stp (tDrop te D σ H) (te σ H (fun _ H1 => D.nx σ H1)) := ⟨id⟩
instance [s : Look σ i v] : Stp (tVar i σ H Q) (Q v H) := ⟨w_var s.h⟩
instance : Stp (tC v σ H Q) (Q v H) := ⟨id⟩
instance : Stp (tOp r ta tb σ H Q) (ta σ H (fun x H1 => tb σ H1 (fun y H2 => r x y H2 Q))) := ⟨id⟩
instance {r : V → Hp → VK → Prop} : Stp (tUn r ta σ H Q) (ta σ H (fun x H1 => r x H1 Q)) := ⟨id⟩
instance : Stp (tTest te σ H QB) (te σ H (kB QB)) := ⟨id⟩
instance : Stp (tB te σ H QB) (te σ H (kB QB)) := ⟨id⟩
instance {b : Bool} : Stp (kB QB (.bl b) H) (QB b H) := ⟨fun h => ⟨b, rfl, h⟩⟩
instance {b : Int} : Stp (kI QI (.int b) H) (QI b H) := ⟨fun h => ⟨b, rfl, h⟩⟩
instance : Stp (tIfS tt t u D σ H) (tt σ H (fun b H1 => if b = true then t D σ H1 else u D σ H1)) := ⟨id⟩
instance : Stp (tIf tt ta tb σ H Q) (tt σ H (fun c H1 => if c = true then ta σ H1 Q else tb σ H1 Q)) := ⟨id⟩
instance : Stp (tAnd tt tu σ H QB) (tt σ H (fun c H1 => if c = true then tu σ H1 QB else QB false H1)) := ⟨id⟩
instance : Stp (tOr tt tu σ H QB) (tt σ H (fun c H1 => if c = true then QB true H1 else tu σ H1 QB)) := ⟨id⟩
instance : Stp (tNot tt σ H QB) (tt σ H (fun c H1 => QB (!c) H1)) := ⟨id⟩
instance : Stp (tAndV ta tb σ H Q) (ta σ H (kB fun c H1 => if c = true then tb σ H1 Q else Q (.bl false) H1)) := ⟨id⟩
instance : Stp (tOrV ta tb σ H Q) (ta σ H (kB fun c H1 => if c = true then Q (.bl true) H1 else tb σ H1 Q)) := ⟨id⟩
instance : Stp (tNotV ta σ H Q) (ta σ H (kB fun c H1 => Q (.bl (!c)) H1)) := ⟨id⟩
instance : Stp (tChain r r' ta tb tc σ H Q) (ta σ H (fun x H1 => tb σ H1 (fun y H2 => r x y H2 (kB fun k H3 => if k = true then tc σ H3 (fun w' H4 => r' y w' H4 Q) else Q (.bl false) H3)))) := ⟨id⟩
instance : Stp (tNil σ H QA) (QA [] H) := ⟨id⟩
instance : Stp (tCons ta tA σ H QA) (ta σ H (fun x H1 => tA σ H1 (fun xs H2 => QA (x :: xs) H2))) := ⟨id⟩
instance : Stp (tTup tA σ H Q) (tA σ H (kTup Q)) := ⟨id⟩
instance : Stp (tLst tA σ H Q) (tA σ H (kLst Q)) := ⟨id⟩
instance {sp : Sp} {dvs : List V} {E : XK} : Stp (tCall sp dvs E tA σ H Q) (tA σ H (fun vs H1 => sp (vs ++ dvs) H1 Q E)) := ⟨id⟩
instance {r : List V → Hp → VK → Prop} : Stp (tCB r tA σ H Q) (tA σ H (fun vs H1 => r vs H1 Q)) := ⟨id⟩
instance {r : V → List V → Hp → VK → Prop} : Stp (tM1 r ta tb σ H Q) (ta σ H (kStr fun x H1 => tb σ H1 (fun y H2 => r x [y] H2 Q))) := ⟨id⟩
instance {R : V → Hp → Prop} {s : Str} : Stp (kStr R (.str s) H) (R (.str s) H) := ⟨fun h => ⟨⟨s, rfl⟩, h⟩⟩
instance {T : String} {r : V → List V → Hp → VK → Prop} : Stp (tBM K T r ta tA σ H Q) (ta σ H (kTy K T fun x H1 => tA σ H1 (fun xs H2 => r x xs H2 Q))) := ⟨id⟩
instance {T : String} {r : V → List V → Hp → VK → Prop} : Stp (tBM0 K T r ta σ H Q) (ta σ H (kTy K T fun x H1 => r x [] H1 Q)) := ⟨id⟩
theorem w_kTyL {R : V → Hp → Prop} {a : Addr} {xs : List V} (hl : H a = some (.lst xs)) (h : R (.ref a) H) : kTy K "list" R (.ref a) H := w_tyL hl h
instance {r : V → Option Int → Option Int → Hp → VK → Prop} {tl th : TO} : Stp (tSl r ta tl th σ H Q) (ta σ H (fun x H1 => tl σ H1 (fun lo H2 => th σ H2 (fun hi H3 => r x lo hi H3 Q)))) := ⟨id⟩
instance : Stp (tNoPart σ H QO) (QO none H) := ⟨id⟩
instance : Stp (tPart ta σ H QO) (ta σ H (kI fun i H1 => QO (some i) H1)) := ⟨id⟩
instance {ti : TIp} [lk : Look σ i x] [s : ∀ z, SetS σ i (some z) (σx z)] : Stp (tAug i te ti D σ H) (te σ H (fun y H1 => ti x y H1 (fun z H2 => D.nx (σx z) H2))) := ⟨fun h => w_aug lk.h (by
  have e : σx = fun z => σ.set i (some z) := by funext z; rw [(s z).h]
  rw [e] at h; exact h)⟩
def kPar (i j : Nat) (D : Ends) (σ : L2.St) : List V → Hp → Prop := fun vs H1 => ∃ v w, vs = [v, w] ∧ D.nx ((σ.set i (some v)).set j (some w)) H1
instance : Stp (tPar i j tA D σ H) (tA σ H (kPar i j D σ)) := ⟨id⟩
instance {σ1 σ2 : L2.St} [a : SetS σ i (some x) σ1] [b : SetS σ1 j (some y) σ2] : Stp (kPar i j D σ [x, y] H) (D.nx σ2 H) := ⟨fun h => ⟨x, y, rfl, by rw [a.h, b.h]; exact h⟩⟩
def kPar3 (i j l : Nat) (D : Ends) (σ : L2.St) : List V → Hp → Prop := fun vs H1 => ∃ u v w, vs = [u, v, w] ∧ D.nx (((σ.set i (some u)).set j (some v)).set l (some w)) H1
instance {σ1 σ2 σ3 : L2.St} {z : V} [a : SetS σ i (some x) σ1] [b : SetS σ1 j (some y) σ2] [c : SetS σ2 l (some z) σ3] : Stp (kPar3 i j l D σ [x, y, z] H) (D.nx σ3 H) := ⟨fun h => ⟨x, y, z, rfl, by rw [a.h, b.h, c.h]; exact h⟩⟩
instance : Stp (tIsN ta σ H Q) (ta σ H (fun x H1 => Q (.bl (decide (x = .non))) H1)) := ⟨id⟩
instance : Stp (tNotN ta σ H Q) (ta σ H (fun x H1 => Q (.bl (!decide (x = .non))) H1)) := ⟨id⟩
instance {wi : TI} {tb : TS} : Stp (tFor wi g tb D σ H) (wi σ H (kFor g tb D σ)) := ⟨id⟩
instance {wi : TI} {vs : List Nat} : Stp (tLc wi g tt te vs σ H Q) (wi σ H (kLc g tt te vs σ Q)) := ⟨id⟩
instance {R : It → Hp → Prop} : Stp (iRng1 tA σ H R) (tA σ H (kIR R)) := ⟨id⟩
instance {R : It → Hp → Prop} : Stp (iEnum K tA σ H R) (tA σ H (kIE K R)) := ⟨id⟩
instance {R : It → Hp → Prop} {z : Str} : Stp (kIS R (.str z) H) (R (Its z) H) := ⟨fun h => ⟨z, rfl, h⟩⟩
theorem w_iL' {R : It → Hp → Prop} (h : te σ H (kIL K R)) : iAny K te σ H R := Or.inl h
theorem w_iT' {R : It → Hp → Prop} (h : te σ H (kIT K R)) : iAny K te σ H R := Or.inr (Or.inl h)
theorem w_iS' {R : It → Hp → Prop} (h : te σ H (kIS R)) : iAny K te σ H R := Or.inr (Or.inr h)
theorem w_kIL {R : It → Hp → Prop} {a : Addr} {xs : List V} (hl : SqL K H a xs) (h : R (Itl K a) H) : kIL K R (.ref a) H := ⟨a, rfl, ⟨xs, hl⟩, h⟩
theorem w_kIT {R : It → Hp → Prop} {a : Addr} {xs : List V} (hl : SqT K H a xs) (h : R (Itt K a) H) : kIT K R (.ref a) H := ⟨a, rfl, ⟨xs, hl⟩, h⟩
theorem w_kIE {R : It → Hp → Prop} {a : Addr} {xs : List V} (hl : SqL K H a xs) (h : R (Ite K a) H) : kIE K R [.ref a] H := ⟨a, xs, rfl, hl, h⟩
theorem w_kIR {R : It → Hp → Prop} {k : Int} (h1 : -1000000 ≤ k ∧ k ≤ 1000000) (h : R (Itr 0 k.toNat) H) : kIR R [.int k] H := ⟨k, rfl, by omega, by omega, h⟩
instance : Stp (tYes σ H QB) (QB true H) := ⟨id⟩
instance {u : TGs} {t : TG} {xs : List V} : Stp (gCons t u (x :: xs) σ H QS) (t x σ H (fun σ' H' => u xs σ' H' QS)) := ⟨fun h => ⟨x, xs, rfl, h⟩⟩
instance : Stp (gNil [] σ H QS) (QS σ H) := ⟨fun h => ⟨rfl, h⟩⟩
/-! decided tests -/
instance {d : Decidable (true = true)} : Stp (@ite Prop (true = true) d A B) A := ⟨fun h => by rw [if_pos rfl]; exact h⟩
instance {d : Decidable (false = true)} : Stp (@ite Prop (false = true) d A B) B := ⟨fun h => by rw [if_neg Bool.false_ne_true]; exact h⟩
instance {d : Decidable ((!true) = true)} : Stp (@ite Prop ((!true) = true) d A B) B := ⟨fun h => by rw [if_neg (show ¬ ((!true) = true) from Bool.false_ne_true)]; exact h⟩
instance {d : Decidable ((!false) = true)} : Stp (@ite Prop ((!false) = true) d A B) A := ⟨fun h => by rw [if_pos (show (!false) = true from rfl)]; exact h⟩
/-! .. of none -/
instance {a : Int} {i : Decidable (V.int a = V.non)} {d : Decidable (@decide (V.int a = V.non) i = true)} : Stp (@ite Prop (@decide (V.int a = V.non) i = true) d A B) B := ⟨fun h => by rw [if_neg (by rw [decide_eq_false (fun z => nomatch z)]; exact Bool.false_ne_true)]; exact h⟩
instance {a : Int} {i : Decidable (V.int a = V.non)} {d : Decidable ((!@decide (V.int a = V.non) i) = true)} : Stp (@ite Prop ((!@decide (V.int a = V.non) i) = true) d A B) A := ⟨fun h => by rw [if_pos (by rw [decide_eq_false (fun z => nomatch z)]; rfl)]; exact h⟩
instance {a : Str} {i : Decidable (V.str a = V.non)} {d : Decidable (@decide (V.str a = V.non) i = true)} : Stp (@ite Prop (@decide (V.str a = V.non) i = true) d A B) B := ⟨fun h => by rw [if_neg (by rw [decide_eq_false (fun z => nomatch z)]; exact Bool.false_ne_true)]; exact h⟩
instance {a : Str} {i : Decidable (V.str a = V.non)} {d : Decidable ((!@decide (V.str a = V.non) i) = true)} : Stp (@ite Prop ((!@decide (V.str a = V.non) i) = true) d A B) A := ⟨fun h => by rw [if_pos (by rw [decide_eq_false (fun z => nomatch z)]; rfl)]; exact h⟩
instance {a : Bool} {i : Decidable (V.bl a = V.non)} {d : Decidable (@decide (V.bl a = V.non) i = true)} : Stp (@ite Prop (@decide (V.bl a = V.non) i = true) d A B) B := ⟨fun h => by rw [if_neg (by rw [decide_eq_false (fun z => nomatch z)]; exact Bool.false_ne_true)]; exact h⟩
instance {a : Bool} {i : Decidable (V.bl a = V.non)} {d : Decidable ((!@decide (V.bl a = V.non) i) = true)} : Stp (@ite Prop ((!@decide (V.bl a = V.non) i) = true) d A B) A := ⟨fun h => by rw [if_pos (by rw [decide_eq_false (fun z => nomatch z)]; rfl)]; exact h⟩
instance {a : Addr} {i : Decidable (V.ref a = V.non)} {d : Decidable (@decide (V.ref a = V.non) i = true)} : Stp (@ite Prop (@decide (V.ref a = V.non) i = true) d A B) B := ⟨fun h => by rw [if_neg (by rw [decide_eq_false (fun z => nomatch z)]; exact Bool.false_ne_true)]; exact h⟩
instance {a : Addr} {i : Decidable (V.ref a = V.non)} {d : Decidable ((!@decide (V.ref a = V.non) i) = true)} : Stp (@ite Prop ((!@decide (V.ref a = V.non) i) = true) d A B) A := ⟨fun h => by rw [if_pos (by rw [decide_eq_false (fun z => nomatch z)]; rfl)]; exact h⟩
instance {i : Decidable (V.non = V.non)} {d : Decidable (@decide (V.non = V.non) i = true)} : Stp (@ite Prop (@decide (V.non = V.non) i = true) d A B) A := ⟨fun h => by rw [if_pos (decide_eq_true rfl)]; exact h⟩
instance {i : Decidable (V.non = V.non)} {d : Decidable ((!@decide (V.non = V.non) i) = true)} : Stp (@ite Prop ((!@decide (V.non = V.non) i) = true) d A B) B := ⟨fun h => by rw [if_neg (by rw [decide_eq_true rfl]; exact Bool.false_ne_true)]; exact h⟩
/-! the values' rules -/
instance {a b : Int} : Stp (rAddA K (.int a) (.int b) H Q) (Q (.int (a + b)) H) := ⟨id⟩
instance {a b : Str} : Stp (rAddA K (.str a) (.str b) H Q) (SzC (a.length + b.length ≤ 16777216) ∧ Q (.str (a ++ b)) H) := ⟨fun h => w_addS h.1 h.2⟩
instance {f : Int → Int → V} {a b : Int} : Stp (rI0 f (.int a) (.int b) H Q) (Q (f a b) H) := ⟨w_rI0⟩
instance {C : Int → Int → Prop} {f : Int → Int → V} {a b : Int} : Stp (rI C f (.int a) (.int b) H Q) (SzC (C a b) ∧ Q (f a b) H) := ⟨fun h => w_rI h.1 h.2⟩
instance {f : Int → V} {a : Int} : Stp (rU f (.int a) H Q) (Q (f a) H) := ⟨fun h => ⟨a, rfl, h⟩⟩
instance {a b : Int} : Stp (rMulA (.int a) (.int b) H Q) (SzC (CMul a b) ∧ Q (.int (a * b)) H) := ⟨fun h => h⟩
instance {a : Str} {k : Int} : Stp (rMulA (.str a) (.int k) H Q) (SzC (a.length ≤ 10 ∧ -10 ≤ k ∧ k ≤ 1000) ∧ Q (.str (PySem.Txt.mul a k)) H) := ⟨fun h => w_mulS h.1.1 h.1.2 h.2⟩
class Scal (x y : V) : Prop where
  h : scal x y = true
instance {a b : Int} : Scal (.int a) (.int b) := ⟨rfl⟩
instance {a b : Str} : Scal (.str a) (.str b) := ⟨rfl⟩
instance {a b : Bool} : Scal (.bl a) (.bl b) := ⟨rfl⟩
instance {a : Int} : Scal (.int a) .non := ⟨rfl⟩
instance {a : Str} : Scal (.str a) .non := ⟨rfl⟩
instance {b : Int} : Scal .non (.int b) := ⟨rfl⟩
instance {b : Str} : Scal .non (.str b) := ⟨rfl⟩
instance : Scal .non .non := ⟨rfl⟩
instance {a : Int} {b : Str} : Scal (.int a) (.str b) := ⟨rfl⟩
instance {a : Str} {b : Int} : Scal (.str a) (.int b) := ⟨rfl⟩
instance [s : Scal x y] : Stp (rEqA K x y H Q) (Q (.bl (decide (x = y))) H) := ⟨w_eqS s.h⟩
instance [s : Scal x y] : Stp (rNeA K x y H Q) (Q (.bl (!decide (x = y))) H) := ⟨w_neS s.h⟩
instance {a b : Int} : Stp (rLeA (.int a) (.int b) H Q) (Q (.bl (decide (a ≤ b))) H) := ⟨id⟩
instance {a b : Str} : Stp (rLeA (.str a) (.str b) H Q) (Q (.bl (!decide (b.cps.toList < a.cps.toList))) H) := ⟨id⟩
instance {k : Nat} {z : Str} : Stp (rInA K (.str ⟨#[k]⟩) (.str z) H Q) (Q (.bl (decide (k ∈ z.cps.toList))) H) := ⟨w_inS⟩
instance {k : Nat} {z : Str} : Stp (rNinA K (.str ⟨#[k]⟩) (.str z) H Q) (Q (.bl (!decide (k ∈ z.cps.toList))) H) := ⟨w_ninS⟩
instance {z : Str} {lo hi : Option Int} : Stp (rSlA K (.str z) lo hi H Q) (SzC (z.length ≤ 16777216) ∧ Q (.str (cutS z lo hi)) H) := ⟨fun h => w_slS h.1 h.2⟩
instance {z : Str} : Stp (rLenA K [.str z] H Q) (SzC (z.length ≤ 16777216) ∧ Q (.int z.length) H) := ⟨fun h => w_lenS h.1 h.2⟩
instance {a : Int} : Stp (rAbs [.int a] H Q) (Q (.int (if a < 0 then -a else a)) H) := ⟨w_abs⟩
instance {a b : Int} : Stp (rMaxA [.int a, .int b] H Q) (Q (.int (if b > a then b else a)) H) := ⟨w_max2⟩
instance {a b : Int} : Stp (rMinA [.int a, .int b] H Q) (Q (.int (if b < a then b else a)) H) := ⟨w_min2⟩
instance {a : Int} : Stp (rIntA [.int a] H Q) (Q (.int a) H) := ⟨id⟩
instance {a : Bool} : Stp (rIntA [.bl a] H Q) (Q (.int (if a then 1 else 0)) H) := ⟨id⟩
instance {a b : Str} : Stp (rStarts (.str a) [.str b] H Q) (Q (.bl (PySem.Txt.startswith a b)) H) := ⟨w_starts⟩
instance {a b : Str} : Stp (rLstrip (.str a) [.str b] H Q) (SzC (a.length ≤ 16777216) ∧ Q (.str (PySem.Txt.lstripChars a b)) H) := ⟨fun h => w_lstrip h.1 h.2⟩
instance {a b : Int} : Stp (ipAdd (.int a) (.int b) H Q) (Q (.int (a + b)) H) := ⟨id⟩
instance {a b : Str} : Stp (ipAdd (.str a) (.str b) H Q) (SzC (a.length + b.length ≤ 16777216) ∧ Q (.str (a ++ b)) H) := ⟨fun h => w_ipS h.1 h.2⟩
/-! isinstance of values -/
instance : Stp (rIsiAll K [.non, .ty "str"] H Q) (Q (.bl false) H) := ⟨isi_N_str⟩
instance : Stp (rIsiAll K [.non, .ty "int"] H Q) (Q (.bl false) H) := ⟨isi_N_int⟩
instance : Stp (rIsiAll K [.non, .ty "bool"] H Q) (Q (.bl false) H) := ⟨isi_N_bool⟩
instance : Stp (rIsiAll K [.non, .ty "list"] H Q) (Q (.bl false) H) := ⟨isi_N_list⟩
instance : Stp (rIsiAll K [.non, .ty "tuple"] H Q) (Q (.bl false) H) := ⟨isi_N_tuple⟩
instance {b : Bool} : Stp (rIsiAll K [(.bl b), .ty "str"] H Q) (Q (.bl false) H) := ⟨isi_B_str⟩
instance {b : Bool} : Stp (rIsiAll K [(.bl b), .ty "int"] H Q) (Q (.bl true) H) := ⟨isi_B_int⟩
instance {b : Bool} : Stp (rIsiAll K [(.bl b), .ty "bool"] H Q) (Q (.bl true) H) := ⟨isi_B_bool⟩
instance {b : Bool} : Stp (rIsiAll K [(.bl b), .ty "list"] H Q) (Q (.bl false) H) := ⟨isi_B_list⟩
instance {b : Bool} : Stp (rIsiAll K [(.bl b), .ty "tuple"] H Q) (Q (.bl false) H) := ⟨isi_B_tuple⟩
instance {i : Int} : Stp (rIsiAll K [(.int i), .ty "str"] H Q) (Q (.bl false) H) := ⟨isi_I_str⟩
instance {i : Int} : Stp (rIsiAll K [(.int i), .ty "int"] H Q) (Q (.bl true) H) := ⟨isi_I_int⟩
instance {i : Int} : Stp (rIsiAll K [(.int i), .ty "bool"] H Q) (Q (.bl false) H) := ⟨isi_I_bool⟩
instance {i : Int} : Stp (rIsiAll K [(.int i), .ty "list"] H Q) (Q (.bl false) H) := ⟨isi_I_list⟩
instance {i : Int} : Stp (rIsiAll K [(.int i), .ty "tuple"] H Q) (Q (.bl false) H) := ⟨isi_I_tuple⟩
instance {z : Str} : Stp (rIsiAll K [(.str z), .ty "str"] H Q) (Q (.bl true) H) := ⟨isi_S_str⟩
instance {z : Str} : Stp (rIsiAll K [(.str z), .ty "int"] H Q) (Q (.bl false) H) := ⟨isi_S_int⟩
instance {z : Str} : Stp (rIsiAll K [(.str z), .ty "bool"] H Q) (Q (.bl false) H) := ⟨isi_S_bool⟩
instance {z : Str} : Stp (rIsiAll K [(.str z), .ty "list"] H Q) (Q (.bl false) H) := ⟨isi_S_list⟩
instance {z : Str} : Stp (rIsiAll K [(.str z), .ty "tuple"] H Q) (Q (.bl false) H) := ⟨isi_S_tuple⟩
theorem at_start {t : TS} {D : Ends} {σ0 : L2.St} {H : Hp} (σ1 : L2.St) (e : σ0 = σ1) (h : t D σ1 H) : t D σ0 H := by rw [e]; exact h
end

theorem Gr.transF {H H1 H2 : Hp} {f : Addr} (g : Gr [] H H1) (g2 : Gr [f] H1 H2) (hf : H f = none) : Gr [] H H2 := (g.wide.trans g2).fresh hf
theorem Gr.reps1 {fp : List Addr} {H H' : Hp} {d : List PD} {v : List V} (g : Gr fp H H') (f : PD.fixs d = true) (h : TReps H d v) : TReps H' d v := TReps.tup g.tup f h
theorem fixs_append : ∀ {a b : List PD}, PD.fixs (a ++ b) = (PD.fixs a && PD.fixs b)
  | [], b => by simp [PD.fixs]
  | x :: a, b => by simp [PD.fixs, fixs_append, Bool.and_assoc]
theorem fixs_of : ∀ {a : List PD}, (∀ d ∈ a, d.fix = true) → PD.fixs a = true
  | [], _ => rfl
  | x :: a, h => by simp only [PD.fixs, Bool.and_eq_true]; exact ⟨h x (List.mem_cons_self), fixs_of fun d hd => h d (List.mem_cons_of_mem _ hd)⟩
theorem atI_nat' {α : Type} {xs : List α} {i : Nat} {c : α} (h : xs[i]? = some c) : atI xs (i : Int) = some c := by
  have hl := (List.getElem?_eq_some_iff.mp h).1
  unfold atI ixN
  rw [if_pos (by omega), if_pos (by omega)]
  simpa using h
end RS
set_option Elab.async false
set_option linter.all false
set_option maxRecDepth 100000
set_option maxHeartbeats 4000000
/-! Mir: what the defs of the texts' part compute, as plain functions. -/
namespace RS
open PySem L2
abbrev LETS : Str := "abcdefghijklmnopqrstuvwxyz"
abbrev FIGS : Str := "0123456789"
/-- a text short enough -/
def Sm (z : Str) : Bool := decide (z.length ≤ 1000000)
def isName (z : Str) : Bool := decide (1 ≤ (z.length : Int)) && (decide ((z.length : Int) ≤ 8) && (z.cps.toList.map fun c => decide (c ∈ LETS.cps.toList)).all id)
def isVal (z : Str) : Bool := (z.cps.toList.map fun c => !decide ([c] < [32]) && !decide ([126] < [c])).all id
def figsOf (w : Str) : Str := if Txt.startswith w "-" = true then cutS w (some 1) none else w
def figsOk (f : Str) (n : Int) : Bool := decide (1 ≤ (f.length : Int)) && (decide ((f.length : Int) ≤ n) && (f.cps.toList.map fun c => decide (c ∈ FIGS.cps.toList)).all id)
def numVal (w : Str) : Int := if Txt.startswith w "-" = true then -((NumText.digitsVal (figsOf w).cps.toList : Nat) : Int) else ((NumText.digitsVal w.cps.toList : Nat) : Int)
def lead0 (f : Str) : Bool := match f.cps.toList with
  | c :: _ => decide (c = 48)
  | [] => false
def numberIn (w : Str) : Option Int := if figsOk (figsOf w) 30 && !(lead0 (figsOf w) && !decide (w = ("0" : Str))) then some (numVal w) else none
def bareGo : List Nat → Str → Bool → Option Str
  | [], found, held => if held then none else some found
  | c :: r, found, held =>
    if held || !(decide (c = 39) || decide (c = 92)) then
      if held && !(decide (c = 39) || decide (c = 92)) then none else bareGo r (found ++ ⟨#[c]⟩) false
    else if c = 92 then bareGo r found true else none
def bareIn (q : Str) : Option Str := bareGo q.cps.toList "" false
def first? (w : Str) : Option Nat := w.cps.toList.head?
def last? (w : Str) : Option Nat := w.cps.toList.getLast?
def textIn (w : Str) : Option Str :=
  if decide ((w.length : Int) < 2) || !decide (first? w = some 39) || !decide (last? w = some 39) then none
  else match bareIn (cutS w (some 1) (some (-1))) with
    | none => none
    | some f => if decide (40 < (f.length : Int)) || !isVal f then none else some f
def valueIn (w : Str) : PD :=
  if cutS w none (some 1) = ("'" : Str) then (match textIn w with | some f => .str f | none => .non)
  else (match numberIn w with | some n => .int n | none => .non)
def setIn (rest : Str) : PD :=
  let name := (Txt.partition rest " ").1
  let more := (Txt.partition rest " ").2.2
  let word := (Txt.rpartition more " ").1
  let slot := (Txt.rpartition more " ").2.2
  match valueIn word with
  | .non => .non
  | v => if isName name && isName slot then .tup [.str "set", .str name, v, .str slot] else .non
def withName : List V := [.str "look", .str "back", .str "copy", .str "in"]
def alone : List V := [.str "begin", .str "late", .str "pass"]
def blocks : List V := [.str "begin", .str "late", .str "in"]
def stepIn (row : Str) : PD :=
  let word := (Txt.partition row " ").1
  let rest := (Txt.partition row " ").2.2
  if word = ("set" : Str) then setIn rest
  else if inV (.str word) withName && isName rest then .tup [.str word, .str rest]
  else if inV (.str row) alone then .tup [.str row]
  else .non
/-- a text's signs are numerals: int reads it -/
theorem mem_figs {c : Nat} : decide (c ∈ FIGS.cps.toList) = true ↔ 48 ≤ c ∧ c ≤ 57 := by
  rw [decide_eq_true_eq]
  have e : FIGS.cps.toList = [48, 49, 50, 51, 52, 53, 54, 55, 56, 57] := by decide +kernel
  rw [e]
  simp only [List.mem_cons, List.not_mem_nil, or_false]
  omega
theorem figs_digits {f : Str} {n : Int} (h : figsOk f n = true) : NumText.AllDigits f.cps.toList ∧ f.cps.toList ≠ [] ∧ (f.length : Int) ≤ n := by
  simp only [figsOk, Bool.and_eq_true, decide_eq_true_eq, List.all_eq_true, List.mem_map, forall_exists_index, and_imp, forall_apply_eq_imp_iff₂, id] at h
  obtain ⟨h1, h2, h3⟩ := h
  refine ⟨fun c hc => mem_figs.mp (decide_eq_true (h3 c hc)), fun e => ?_, h2⟩
  have : f.length = 0 := by simp [Str.length] at e ⊢; simp [e]
  omega
theorem arr_extract (a : Array Nat) (i j : Nat) : (a.extract i j).toList = (a.toList.drop i).take (j - i) := by simp [List.take_drop]
theorem len_cps (w : Str) : w.length = w.cps.toList.length := by simp [Str.length]
theorem starts_one {w : Str} {k : Nat} {y : Str} (hy : y.cps = #[k]) : Txt.startswith w y = true ↔ ∃ r, w.cps.toList = k :: r := by
  unfold Txt.startswith Builtin.Str.subAt
  have hl : y.length = 1 := by simp [Str.length, hy]
  rw [hl, hy, len_cps w]
  constructor
  · intro h
    simp only [Bool.and_eq_true, decide_eq_true_eq, beq_iff_eq] at h
    obtain ⟨h1, h2⟩ := h
    have h3 := congrArg Array.toList h2
    rw [arr_extract] at h3
    cases hw : w.cps.toList with
    | nil => rw [hw] at h1; simp at h1
    | cons c r =>
      rw [hw] at h3
      simp at h3
      exact ⟨r, by rw [h3]⟩
  · rintro ⟨r, h⟩
    simp only [Bool.and_eq_true, decide_eq_true_eq, beq_iff_eq]
    refine ⟨by rw [h]; simp, ?_⟩
    apply Array.toList_inj.mp
    rw [arr_extract, h]
    simp
theorem starts_minus {w : Str} : Txt.startswith w "-" = true ↔ ∃ r, w.cps.toList = 45 :: r := starts_one (by decide +kernel)
theorem cut1 {w : Str} {c : Nat} {r : List Nat} (h : w.cps.toList = c :: r) : (cutS w (some 1) none).cps.toList = r := by
  unfold cutS
  have hl : w.length = r.length + 1 := by rw [len_cps, h]; rfl
  have e0 : HT.sIx w.length 0 (some 1) = 1 := by
    have := HT.sIx_nat w.length 0 1
    rw [hl] at this ⊢
    refine Eq.trans this ?_
    omega
  rw [e0, HT.sIx_none, h, hl]
  simp
theorem number_reads {w : Str} (h : figsOk (figsOf w) 30 = true) : intText? w = some (numVal w) ∧ w.length ≤ 640 := by
  obtain ⟨h1, h2, h3⟩ := figs_digits h
  unfold numVal
  by_cases hm : Txt.startswith w "-" = true
  · obtain ⟨r, hr⟩ := starts_minus.mp hm
    have e : (figsOf w).cps.toList = r := by unfold figsOf; rw [if_pos hm]; exact cut1 hr
    have l : w.length = (figsOf w).length + 1 := by
      have a : w.length = w.cps.toList.length := by simp [Str.length]
      have b : (figsOf w).length = (figsOf w).cps.toList.length := by simp [Str.length]
      rw [a, b, e, hr]; rfl
    rw [if_pos hm]
    refine ⟨?_, by omega⟩
    rw [e] at h1 h2 ⊢
    exact PySem.intText_neg hr h1 h2 (by omega)
  · have e : figsOf w = w := by unfold figsOf; rw [if_neg hm]
    rw [if_neg hm]
    rw [e] at h1 h2 h3
    exact ⟨PySem.intText_digits h1 h2 (by omega), by omega⟩

def optI : Option Int → PD
  | some n => .int n
  | none => .non
def optS : Option Str → PD
  | some n => .str n
  | none => .non
theorem sign_eq {c k : Nat} {y : Str} (h : y = ⟨#[k]⟩) : decide ((V.str ⟨#[c]⟩ : V) = V.str y) = decide (c = k) := by
  subst h
  have : ((V.str ⟨#[c]⟩ : V) = V.str ⟨#[k]⟩) ↔ c = k := by
    constructor
    · intro h; injection h with h; injection h with h; simpa using h
    · intro h; subst h; rfl
  simp only [this]
theorem eqV_str (a b : Str) : eqV (.str a) (.str b) = decide (a = b) := by
  show (a == b) = _
  rw [Bool.beq_eq_decide_eq]
theorem inv_cons {x y : V} {ys : List V} : inV x (y :: ys) = (eqV y x || inV x ys) := by simp [inV]
theorem inv_q (c : Nat) : inV (.str ⟨#[c]⟩) [.str "'", .str "\\"] = (decide (c = 39) || decide (c = 92)) := by
  have e1 : eqV (.str "'") (.str ⟨#[c]⟩) = decide (c = 39) := by
    rw [eqV_str]
    have := sign_eq (c := c) (k := 39) (y := "'") (by decide +kernel)
    rw [← this]
    simp only [V.str.injEq, eq_comm]
  have e2 : eqV (.str "\\") (.str ⟨#[c]⟩) = decide (c = 92) := by
    rw [eqV_str]
    have := sign_eq (c := c) (k := 92) (y := "\\") (by decide +kernel)
    rw [← this]
    simp only [V.str.injEq, eq_comm]
  rw [inv_cons, inv_cons, e1, e2]
  simp [inV]
theorem slen_app (a b : Str) : (a ++ b).length = a.length + b.length := by
  have := TL.tl_append a b
  rw [TL.len_tl, TL.len_tl a, TL.len_tl b, this, List.length_append]

theorem atI_last' {xs : List Nat} {c : Nat} (h : xs.getLast? = some c) : atI xs (-1) = some c := by
  have hne : xs ≠ [] := by rintro rfl; simp at h
  have hl : 0 < xs.length := List.length_pos_iff.mpr hne
  unfold atI ixN
  rw [if_neg (by decide), if_pos (by omega)]
  show xs[((-1 : Int) + (xs.length : Int)).toNat]? = some c
  have e : ((-1 : Int) + (xs.length : Int)).toNat = xs.length - 1 := by omega
  rw [e, ← List.getLast?_eq_getElem?]
  exact h
theorem valueIn_text {w : Str} (h : cutS w none (some 1) = ("'" : Str)) : valueIn w = optS (textIn w) := by
  unfold valueIn; rw [if_pos h]; cases textIn w <;> rfl
theorem valueIn_num {w : Str} (h : ¬ cutS w none (some 1) = ("'" : Str)) : valueIn w = optI (numberIn w) := by
  unfold valueIn; rw [if_neg h]; cases numberIn w <;> rfl
theorem strSub_len (x : Str) (i j : Nat) : (Builtin.Str.strSub x i j).length ≤ x.length := by
  have h : (Builtin.Str.strSub x i j).cps.toList = _ := TL.tl_strSub x i j
  rw [len_cps, h, List.length_take, List.length_drop, ← TL.len_tl]; omega
theorem empty_len : Str.empty.length = 0 := rfl
theorem part_len (a b : Str) : (Txt.partition a b).1.length ≤ a.length ∧ (Txt.partition a b).2.2.length ≤ a.length := by
  unfold Txt.partition
  cases Builtin.Str.occurrences a b 0 a.length 1 with
  | nil => exact ⟨Nat.le_refl _, by show Str.empty.length ≤ _; rw [empty_len]; omega⟩
  | cons i r => exact ⟨strSub_len _ _ _, strSub_len _ _ _⟩
theorem rpart_len (a b : Str) : (Txt.rpartition a b).1.length ≤ a.length ∧ (Txt.rpartition a b).2.2.length ≤ a.length := by
  unfold Txt.rpartition
  cases Builtin.Str.lastOccurrence a b 0 a.length with
  | none => exact ⟨by show Str.empty.length ≤ _; rw [empty_len]; omega, Nat.le_refl _⟩
  | some i => exact ⟨strSub_len _ _ _, strSub_len _ _ _⟩
theorem bareGo_len : ∀ (l : List Nat) (f : Str) (held : Bool) (g : Str), bareGo l f held = some g → g.length ≤ f.length + l.length
  | [], f, held, g, h => by
    unfold bareGo at h; split at h
    · cases h
    · cases h; exact Nat.le_refl _
  | c :: r, f, held, g, h => by
    unfold bareGo at h
    split at h
    · split at h
      · cases h
      · have := bareGo_len r _ _ g h
        have e : (f ++ (⟨#[c]⟩ : Str)).length = f.length + 1 := by
          rw [TL.len_tl, TL.tl_append, List.length_append, ← TL.len_tl]; rfl
        rw [e] at this; simp only [List.length_cons]; omega
    · split at h
      · have := bareGo_len r _ _ g h
        simp only [List.length_cons]; omega
      · cases h
theorem bareIn_len {q g : Str} (h : bareIn q = some g) : g.length ≤ q.length := by
  have := bareGo_len _ _ _ _ h
  have e : ("" : Str).length = 0 := by decide +kernel
  rw [e, Nat.zero_add, ← len_cps] at this; exact this
theorem lstrip_len (a b : Str) : (Txt.lstripChars a b).length ≤ a.length := by
  unfold Txt.lstripChars
  rw [PyProof.Rows.stripBy_eq]
  exact strSub_len _ _ _
def inBlocks : PD → Bool
  | .tup (.str s :: _) => inV (.str s) blocks
  | _ => false
def blanksOf (r : Str) : Int := (r.length : Int) - ((Txt.lstripChars r " ").length : Int)
def rowOne (r : Str) (most : Int) : Option (Int × PD) :=
  match stepIn (Txt.lstripChars r " ") with
  | .non => none
  | st => if decide (0 < blanksOf r % 2) || decide (most < blanksOf r / 2) then none else some (blanksOf r / 2, st)
def rowsGo : List Str → Int → Option (List (Int × PD))
  | [], _ => some []
  | r :: rs, most => match rowOne r most with
    | none => none
    | some (d, st) => match rowsGo rs (d + (if inBlocks st then 1 else 0)) with
      | none => none
      | some l => some ((d, st) :: l)
def entry (p : Int × PD) : PD := .tup [.int p.1, p.2]
/-- a step: a tuple that begins with a word, tuples all the way -/
def stepOk (d : PD) : Prop := d.fix = true ∧ ∃ s r, d = .tup (.str s :: r) ∧ r.length ≤ 10
theorem valueIn_fix (w : Str) : (valueIn w).fix = true := by
  unfold valueIn; split
  · cases textIn w <;> rfl
  · cases numberIn w <;> rfl
theorem setIn_ok (z : Str) : setIn z = .non ∨ stepOk (setIn z) := by
  unfold setIn
  simp only []
  have hf := valueIn_fix (Txt.rpartition (Txt.partition z " ").2.2 " ").1
  cases hv : valueIn (Txt.rpartition (Txt.partition z " ").2.2 " ").1 with
  | non => exact .inl rfl
  | _ =>
    rw [hv] at hf
    simp only []
    split
    · refine .inr ⟨?_, _, _, rfl, by simp⟩
      simp_all [PD.fix, PD.fixs]
    · exact .inl rfl
theorem stepIn_ok (z : Str) : stepIn z = .non ∨ stepOk (stepIn z) := by
  unfold stepIn
  simp only []
  split
  · exact setIn_ok _
  · split
    · exact .inr ⟨rfl, _, _, rfl, by simp⟩
    · split
      · exact .inr ⟨rfl, _, _, rfl, by simp⟩
      · exact .inl rfl
theorem rowOne_ok {r : Str} {most : Int} {d : Int} {st : PD} (h : rowOne r most = some (d, st)) : stepIn (Txt.lstripChars r " ") = st ∧ stepOk st ∧ d = blanksOf r / 2 ∧ ¬ 0 < blanksOf r % 2 ∧ ¬ most < blanksOf r / 2 := by
  unfold rowOne at h
  have ho := stepIn_ok (Txt.lstripChars r " ")
  split at h
  · cases h
  · rename_i st' hne
    split at h
    · cases h
    · rename_i hc
      simp only [Option.some.injEq, Prod.mk.injEq] at h
      obtain ⟨rfl, rfl⟩ := h
      refine ⟨rfl, ho.resolve_left hne, rfl, ?_, ?_⟩
      · simp only [Bool.or_eq_true, decide_eq_true_eq, not_or] at hc; exact hc.1
      · simp only [Bool.or_eq_true, decide_eq_true_eq, not_or] at hc; exact hc.2
/-- the program of read steps -/
def addW (st : PD) (w : List PD) : PD := match st with
  | .tup l => .tup (l ++ [.tup w])
  | d => d
def progAt : Nat → List (Int × PD) → Int → List PD × List (Int × PD)
  | _, [], _ => ([], [])
  | 0, l, _ => ([], l)
  | n + 1, (e, st) :: r, d =>
    if e = d then
      if inBlocks st then (addW st (progAt n r (d + 1)).1 :: (progAt n (progAt n r (d + 1)).2 d).1, (progAt n (progAt n r (d + 1)).2 d).2)
      else (st :: (progAt n r d).1, (progAt n r d).2)
    else ([], (e, st) :: r)
theorem progAt_suffix : ∀ (n : Nat) (l : List (Int × PD)) (d : Int), ∃ k, k ≤ l.length ∧ (progAt n l d).2 = l.drop k
  | n, [], d => ⟨0, Nat.le_refl _, by cases n <;> rfl⟩
  | 0, (e, st) :: r, d => ⟨0, Nat.zero_le _, rfl⟩
  | n + 1, (e, st) :: r, d => by
    unfold progAt
    split
    · split
      · obtain ⟨k1, h1, e1⟩ := progAt_suffix n r (d + 1)
        obtain ⟨k2, h2, e2⟩ := progAt_suffix n (progAt n r (d + 1)).2 d
        refine ⟨k1 + k2 + 1, ?_, ?_⟩
        · rw [e1, List.length_drop] at h2
          simp only [List.length_cons]; omega
        · simp only []
          rw [e2, e1, List.drop_drop, List.drop_succ_cons]
      · obtain ⟨k1, h1, e1⟩ := progAt_suffix n r d
        refine ⟨k1 + 1, by simp only [List.length_cons]; omega, ?_⟩
        simp only []
        rw [e1, List.drop_succ_cons]
    · exact ⟨0, Nat.zero_le _, rfl⟩
theorem progAt_fuel : ∀ (n : Nat) (l : List (Int × PD)) (d : Int), l.length ≤ n → ∀ m, l.length ≤ m → progAt n l d = progAt m l d
  | n, [], d, _, m, _ => by cases n <;> cases m <;> rfl
  | 0, (e, st) :: r, d, h, _, _ => by simp at h
  | n + 1, (e, st) :: r, d, h, 0, h' => by simp at h'
  | n + 1, (e, st) :: r, d, h, m + 1, h' => by
    have hr : r.length ≤ n := by simpa using h
    have hr' : r.length ≤ m := by simpa using h'
    unfold progAt
    rw [progAt_fuel n r d hr m hr', progAt_fuel n r (d + 1) hr m hr']
    obtain ⟨k, hk, e1⟩ := progAt_suffix m r (d + 1)
    have hl : (progAt m r (d + 1)).2.length ≤ r.length := by rw [e1, List.length_drop]; omega
    rw [progAt_fuel n (progAt m r (d + 1)).2 d (by omega) m (by omega)]
def progC (l : List (Int × PD)) (d : Int) : List PD × List (Int × PD) := progAt l.length l d
theorem progC_nil (d : Int) : progC [] d = ([], []) := rfl
theorem progC_other {e d : Int} {st : PD} {r : List (Int × PD)} (h : e ≠ d) : progC ((e, st) :: r) d = ([], (e, st) :: r) := by
  unfold progC; show progAt (r.length + 1) _ _ = _
  unfold progAt; rw [if_neg h]
theorem progC_plain {d : Int} {st : PD} {r : List (Int × PD)} (h : inBlocks st = false) : progC ((d, st) :: r) d = (st :: (progC r d).1, (progC r d).2) := by
  unfold progC; show progAt (r.length + 1) _ _ = _
  rw [progAt, if_pos rfl, if_neg (by rw [h]; exact Bool.false_ne_true)]
theorem progC_block {d : Int} {st : PD} {r : List (Int × PD)} (h : inBlocks st = true) : progC ((d, st) :: r) d = (addW st (progC r (d + 1)).1 :: (progC (progC r (d + 1)).2 d).1, (progC (progC r (d + 1)).2 d).2) := by
  unfold progC; show progAt (r.length + 1) _ _ = _
  rw [show progAt (r.length + 1) ((d, st) :: r) d = (addW st (progAt r.length r (d + 1)).1 :: (progAt r.length (progAt r.length r (d + 1)).2 d).1, (progAt r.length (progAt r.length r (d + 1)).2 d).2) by
    rw [progAt, if_pos rfl, if_pos h]]
  obtain ⟨k, hk, e1⟩ := progAt_suffix r.length r (d + 1)
  have hl : (progAt r.length r (d + 1)).2.length ≤ r.length := by rw [e1, List.length_drop]; omega
  rw [progAt_fuel r.length (progAt r.length r (d + 1)).2 d hl _ (Nat.le_refl _)]
theorem progC_suffix (l : List (Int × PD)) (d : Int) : ∃ k, k ≤ l.length ∧ (progC l d).2 = l.drop k := progAt_suffix _ _ _

theorem addW_fix {st : PD} {ws : List PD} (h : st.fix = true) (hw : PD.fixs ws = true) : (addW st ws).fix = true := by
  unfold addW
  split
  · simp only [PD.fix, fixs_append] at h ⊢
    simp [PD.fixs, PD.fix, h, hw]
  · exact h
theorem progAt_fix : ∀ (n : Nat) (l : List (Int × PD)) (d : Int), (∀ p ∈ l, p.2.fix = true) → PD.fixs (progAt n l d).1 = true
  | n, [], d, _ => by cases n <;> rfl
  | 0, (e, st) :: r, d, _ => rfl
  | n + 1, (e, st) :: r, d, h => by
    have hr : ∀ p ∈ r, p.2.fix = true := fun p hp => h p (List.mem_cons_of_mem _ hp)
    have hst : st.fix = true := h (e, st) List.mem_cons_self
    unfold progAt
    split
    · split
      · obtain ⟨k, hk, e1⟩ := progAt_suffix n r (d + 1)
        simp only [PD.fixs, Bool.and_eq_true]
        refine ⟨addW_fix hst (progAt_fix n r (d + 1) hr), progAt_fix n _ d fun p hp => hr p ?_⟩
        rw [e1] at hp
        exact List.mem_of_mem_drop hp
      · simp only [PD.fixs, Bool.and_eq_true]
        exact ⟨hst, progAt_fix n r d hr⟩
    · rfl
theorem progC_fix {l : List (Int × PD)} {d : Int} (h : ∀ p ∈ l, p.2.fix = true) : PD.fixs (progC l d).1 = true := progAt_fix _ _ _ h

/-! the sheet's part -/
def settingIn (row : Str) : PD :=
  let word := (Txt.partition row " ").1
  let rest := (Txt.partition row " ").2.2
  let name := (Txt.partition rest " ").1
  let more := (Txt.partition rest " ").2.1
  let written := (Txt.partition rest " ").2.2
  if (!decide (word = ("setting" : Str)) || !isName name) = true then .non
  else if more = (" " : Str) then (match valueIn written with
    | .non => .non
    | v => .tup [.str name, v])
  else .tup [.str name, .non]
def pickIn (w : Str) : Option Int := if figsOk w 4 && !(lead0 w && !decide (w = ("0" : Str))) then some ((NumText.digitsVal w.cps.toList : Nat) : Int) else none
def allSome : List (Option Int) → Option (List Int)
  | [] => some []
  | some i :: r => (allSome r).map (i :: ·)
  | none :: _ => none
def picksIn (row : Str) : Option (List Int) :=
  match Txt.split row " " with
  | [] => none
  | w0 :: r => if w0 = ("weave" : Str) then allSome (r.map pickIn) else none
def settingsIn : List Str → List PD
  | [] => []
  | r :: rs => match settingIn r with
    | .non => []
    | d => d :: settingsIn rs
def nameOf : PD → Str
  | .tup (.str s :: _) => s
  | _ => ""
/-- a step's name is told where it sets or looks -/
def stepNamed (names : List Str) (st : PD) : Bool := match st with
  | .tup (.str s :: r) => if inV (.str s) [.str "set", .str "look"] then (match r with
      | .str n :: _ => inV (.str n) (names.map V.str)
      | _ => false) else true
  | _ => false
def sheetFrom (t : Str) : Option (List PD × List Int × List PD) :=
  let rows := Txt.split t "\n"
  let sets := settingsIn rows
  match rows.drop sets.length with
  | [] => none
  | r :: rs => match picksIn r with
    | none => none
    | some ps => match rowsGo rs 0 with
      | none => none
      | some steps => if decide ((sets.map nameOf).Nodup) && steps.all (fun p => stepNamed (sets.map nameOf) p.2) then some (sets, ps, (progC steps 0).1) else none
theorem spl_ne (S : List Nat) : ∀ (l : List Nat) (k : Nat) (acc : List Nat), TL.spl S k acc l ≠ []
  | [], k, acc => by rw [TL.spl_nil]; simp
  | c :: r, k, acc => by
    cases k with
    | zero =>
      by_cases h : TL.pre S (c :: r) = true
      · rw [TL.spl_hit h]; simp
      · rw [TL.spl_miss (by simpa using h)]; exact spl_ne S r 0 _
    | succ k =>
      show TL.spl S k acc r ≠ []
      exact spl_ne S r k acc
theorem spl_len (S : List Nat) : ∀ (l : List Nat) (k : Nat) (acc : List Nat), ∀ p ∈ TL.spl S k acc l, p.length ≤ acc.length + l.length
  | [], k, acc, p, hp => by rw [TL.spl_nil] at hp; simp at hp; subst hp; simp
  | c :: r, k, acc, p, hp => by
    cases k with
    | zero =>
      by_cases h : TL.pre S (c :: r) = true
      · rw [TL.spl_hit h] at hp
        rcases List.mem_cons.mp hp with rfl | hp
        · simp
        · have := spl_len S r _ _ p hp
          simp only [List.length_nil, List.length_cons] at this ⊢; omega
      · rw [TL.spl_miss (by simpa using h)] at hp
        have := spl_len S r _ _ p hp
        simp only [List.length_append, List.length_cons, List.length_nil] at this ⊢; omega
    | succ k =>
      have := spl_len S r k acc p hp
      simp only [List.length_cons]; omega
theorem spl_many (S : List Nat) : ∀ (l : List Nat) (k : Nat) (acc : List Nat), (TL.spl S k acc l).length ≤ l.length + 1
  | [], k, acc => by rw [TL.spl_nil]; simp
  | c :: r, k, acc => by
    cases k with
    | zero =>
      by_cases h : TL.pre S (c :: r) = true
      · rw [TL.spl_hit h]
        have := spl_many S r (S.length - 1) []
        simp only [List.length_cons]; omega
      · rw [TL.spl_miss (by simpa using h)]
        have := spl_many S r 0 (acc ++ [c])
        simp only [List.length_cons]; omega
    | succ k =>
      have := spl_many S r k acc
      simp only [List.length_cons]
      show (TL.spl S k acc r).length ≤ _
      omega
theorem split_facts {x y : Str} (hy : TL.tl y ≠ []) (hk : y.cps.all (· < 256) = true) : Txt.split x y ≠ [] ∧ (∀ p ∈ Txt.split x y, p.length ≤ x.length) ∧ (Txt.split x y).length ≤ x.length + 1 := by
  have e := TL.split_spl x y hy (TL.kind_ok hk)
  refine ⟨fun h => ?_, fun p hp => ?_, ?_⟩
  · rw [h] at e; exact spl_ne _ _ _ _ e.symm
  · have := spl_len (TL.tl y) (TL.tl x) 0 [] (TL.tl p) (by rw [← e]; exact List.mem_map_of_mem hp)
    rw [TL.len_tl, TL.len_tl x]; simpa using this
  · have := spl_many (TL.tl y) (TL.tl x) 0 []
    rw [← e, List.length_map] at this
    rw [TL.len_tl]; exact this
theorem split_blank (x : Str) : Txt.split x " " ≠ [] ∧ (∀ p ∈ Txt.split x " ", p.length ≤ x.length) ∧ (Txt.split x " ").length ≤ x.length + 1 := split_facts (by decide +kernel) (by decide +kernel)
theorem split_line (x : Str) : Txt.split x "\n" ≠ [] ∧ (∀ p ∈ Txt.split x "\n", p.length ≤ x.length) ∧ (Txt.split x "\n").length ≤ x.length + 1 := split_facts (by decide +kernel) (by decide +kernel)
theorem pick_reads {w : Str} (h : figsOk w 4 = true) : intText? w = some ((NumText.digitsVal w.cps.toList : Nat) : Int) ∧ w.length ≤ 640 := by
  obtain ⟨h1, h2, h3⟩ := figs_digits h
  exact ⟨PySem.intText_digits h1 h2 (by omega), by omega⟩
theorem settingIn_ok (row : Str) : settingIn row = .non ∨ ∃ s v, settingIn row = .tup [.str s, v] ∧ v.fix = true := by
  unfold settingIn
  simp only []
  split
  · exact .inl rfl
  · split
    · have hf := valueIn_fix (Txt.partition (Txt.partition row " ").2.2 " ").2.2
      cases hv : valueIn (Txt.partition (Txt.partition row " ").2.2 " ").2.2 with
      | non => exact .inl rfl
      | _ => rw [hv] at hf; exact .inr ⟨_, _, rfl, hf⟩
    · exact .inr ⟨_, _, rfl, rfl⟩
end RS
set_option Elab.async false
set_option linter.all false
set_option maxRecDepth 100000
set_option maxHeartbeats 4000000
/-! Nam: plain laws of names and values -/
namespace RS
open PySem L2
theorem lets_at : ∀ i : Fin 26, LETS.cps.toList[i.val]? = some (97 + i.val) := by decide +kernel
theorem let_at {v : Int} (h0 : 0 ≤ v) (h1 : v < 26) : atI LETS.cps.toList v = some (97 + v.toNat) := by
  have e : v = ((v.toNat : Nat) : Int) := by omega
  rw [e]
  exact atI_nat' (lets_at ⟨v.toNat, by omega⟩)
theorem lets_mem : ∀ c : Nat, 97 ≤ c ∧ c ≤ 122 → c ∈ LETS.cps.toList := by
  have e : LETS.cps.toList = List.range' 97 26 := by decide +kernel
  intro c h; rw [e]; simp [List.mem_range']; exact ⟨c - 97, by omega, by omega⟩
def Lets (l : List Nat) : Prop := ∀ c ∈ l, 97 ≤ c ∧ c ≤ 122
theorem isName_of {s : Str} (h1 : 1 ≤ (TL.tl s).length) (h8 : (TL.tl s).length ≤ 8) (hl : Lets (TL.tl s)) : isName s = true := by
  have hl' : s.length = (TL.tl s).length := TL.len_tl s
  unfold isName
  rw [decide_eq_true (by omega), decide_eq_true (by omega)]
  simp only [Bool.true_and, List.all_eq_true, List.mem_map, forall_exists_index, and_imp, forall_apply_eq_imp_iff₂, id]
  exact fun c hc => decide_eq_true (lets_mem c (hl c hc))
theorem lets_of_mem : ∀ c : Nat, c ∈ LETS.cps.toList → 97 ≤ c ∧ c ≤ 122 := by
  have e : LETS.cps.toList = List.range' 97 26 := by decide +kernel
  intro c h; rw [e] at h; simp [List.mem_range'] at h; omega
theorem isName_open {s : Str} (h : isName s = true) : 1 ≤ (TL.tl s).length ∧ (TL.tl s).length ≤ 8 ∧ Lets (TL.tl s) := by
  have hl' : s.length = (TL.tl s).length := TL.len_tl s
  simp only [isName, Bool.and_eq_true, decide_eq_true_eq, List.all_eq_true, List.mem_map, forall_exists_index, and_imp, forall_apply_eq_imp_iff₂, id] at h
  obtain ⟨h1, h2, h3⟩ := h
  exact ⟨by omega, by omega, fun c hc => lets_of_mem c (h3 c hc)⟩
theorem joinL_nil : ∀ (ls : List (List Nat)), TL.joinL [] ls = ls.flatten
  | [] => rfl
  | [a] => by simp [TL.joinL]
  | a :: b :: r => by
    show a ++ ([] ++ TL.joinL [] (b :: r)) = _
    rw [joinL_nil (b :: r)]; simp
theorem tl_empty : TL.tl ("" : Str) = [] := by decide +kernel
theorem join_tl (parts : List Str) : TL.tl (Txt.join "" parts) = (parts.map TL.tl).flatten := by
  rw [TL.join_eq, TL.tl_join, tl_empty, joinL_nil]
theorem join_signs (cs : List Nat) : TL.tl (Txt.join "" (cs.map fun c => (⟨#[c]⟩ : Str))) = cs := by
  rw [join_tl, List.map_map]
  induction cs with
  | nil => rfl
  | cons a r ih => simp only [List.map_cons, List.flatten_cons, ih]; rfl
theorem tl_cut_to (z : Str) (i : Nat) : TL.tl (cutS z none (some (i : Int))) = (TL.tl z).take i := by
  unfold cutS
  have e0 : HT.sIx z.length z.length (some (i : Int)) = min i z.length := HT.sIx_nat z.length z.length i
  rw [e0, HT.sIx_none]
  show ((TL.tl z).drop 0).take _ = _
  rw [List.drop_zero, Nat.sub_zero, TL.len_tl]
  by_cases h : i ≤ (TL.tl z).length
  · rw [Nat.min_eq_left h]
  · rw [Nat.min_eq_right (by omega), List.take_length, List.take_of_length_le (by omega)]
theorem tl_cut_from (z : Str) (i : Nat) : TL.tl (cutS z (some (i : Int)) none) = (TL.tl z).drop i := by
  unfold cutS
  have e0 : HT.sIx z.length 0 (some (i : Int)) = min i z.length := HT.sIx_nat z.length 0 i
  rw [e0, HT.sIx_none]
  show ((TL.tl z).drop _).take _ = _
  rw [TL.len_tl]
  by_cases h : i ≤ (TL.tl z).length
  · rw [Nat.min_eq_left h]
    apply List.take_of_length_le; rw [List.length_drop]; omega
  · rw [List.drop_eq_nil_of_le (show (TL.tl z).length ≤ i by omega), List.drop_eq_nil_of_le (show (TL.tl z).length ≤ min i (TL.tl z).length by omega)]; simp
/-- the k-th name of a stem -/
def nameAt (stem : Str) (at_ : Int) (v : Int) : Str :=
  (cutS stem none (some at_) ++ (⟨#[97 + (v / 26).toNat]⟩ : Str) ++ (⟨#[97 + (v % 26).toNat]⟩ : Str)) ++ cutS stem (some at_) none
theorem tl_nameAt (stem : Str) (a : Nat) (v : Int) : TL.tl (nameAt stem (a : Int) v) = (TL.tl stem).take a ++ ([97 + (v / 26).toNat, 97 + (v % 26).toNat] ++ (TL.tl stem).drop a) := by
  unfold nameAt
  rw [TL.tl_append, TL.tl_append, TL.tl_append, tl_cut_to, tl_cut_from]
  show (_ ++ [97 + (v / 26).toNat]) ++ [97 + (v % 26).toNat] ++ _ = _
  simp
theorem nameAt_name {stem : Str} {a : Nat} {v : Int} (hs : Lets (TL.tl stem)) (h6 : (TL.tl stem).length ≤ 6) (h0 : 0 ≤ v) (h1 : v < 676) : isName (nameAt stem (a : Int) v) = true := by
  have e := tl_nameAt stem a v
  have l : (TL.tl (nameAt stem (a : Int) v)).length = (TL.tl stem).length + 2 := by
    rw [e]; simp only [List.length_append, List.length_take, List.length_drop, List.length_cons, List.length_nil]; omega
  refine isName_of (by omega) (by omega) ?_
  intro c hc
  rw [e] at hc
  rcases List.mem_append.mp hc with hc | hc
  · exact hs c (List.mem_of_mem_take hc)
  · rcases List.mem_append.mp hc with hc | hc
    · simp only [List.mem_cons, List.not_mem_nil, or_false] at hc
      rcases hc with rfl | rfl <;> omega
    · exact hs c (List.mem_of_mem_drop hc)
theorem nameAt_inj {stem : Str} {a : Nat} {v u : Int} (h0 : 0 ≤ v) (h1 : v < 676) (k0 : 0 ≤ u) (k1 : u < 676) (h : nameAt stem (a : Int) v = nameAt stem (a : Int) u) : v = u := by
  have e := congrArg TL.tl h
  rw [tl_nameAt, tl_nameAt] at e
  have e1 := List.append_cancel_left e
  simp only [List.cons_append, List.nil_append, List.cons.injEq] at e1
  omega
def namesOf (stem : Str) (a : Nat) (first step : Int) (many : Nat) : List Str := (List.range many).map fun (k : Nat) => nameAt stem (a : Int) ((first + step * (k : Int)) % 676)
theorem namesOf_nodup {stem : Str} {a : Nat} {first step : Int} {many : Nat} (hs : step = 1 ∨ step = 27 ∨ step = 5 ∨ step = 251) (hm : many ≤ 100) : (namesOf stem a first step many).Nodup := by
  unfold namesOf
  rw [List.nodup_iff_pairwise_ne, List.pairwise_map]
  have := List.nodup_range (n := many)
  rw [List.nodup_iff_pairwise_ne] at this
  refine this.imp_of_mem ?_
  intro i j hi hj hij h
  have h2 := nameAt_inj (by omega) (by omega) (by omega) (by omega) h
  rw [List.mem_range] at hi hj
  rcases hs with rfl | rfl | rfl | rfl <;> omega
theorem namesOf_name {stem : Str} {a : Nat} {first step : Int} {many : Nat} (hs : Lets (TL.tl stem)) (h6 : (TL.tl stem).length ≤ 6) : ∀ s ∈ namesOf stem a first step many, isName s = true := by
  intro s h
  obtain ⟨k, _, rfl⟩ := List.mem_map.mp h
  exact nameAt_name hs h6 (by omega) (by omega)
/-- a value as the law draws it -/
def wfVal : PD → Prop
  | .int i => -(10 ^ 30) < i ∧ i < 10 ^ 30
  | .str s => (TL.tl s).length ≤ 40 ∧ ∀ c ∈ TL.tl s, 32 ≤ c ∧ c ≤ 126
  | _ => False
theorem atI_mem {α : Type} {xs : List α} {v : Int} (h0 : 0 ≤ v) (h1 : v < xs.length) : ∃ x, x ∈ xs ∧ atI xs v = some x := by
  obtain ⟨k, rfl⟩ : ∃ k : Nat, v = (k : Int) := ⟨v.toNat, by omega⟩
  exact ⟨xs[k]'(by omega), List.getElem_mem _, atI_nat' (List.getElem?_eq_getElem _)⟩
end RS
set_option Elab.async false
set_option linter.all false
set_option maxRecDepth 100000
set_option maxHeartbeats 4000000
/-! Flat: a program and its rows -/
namespace RS
open PySem L2
inductive WfSt (nm : List Str) : PD → Prop
  | set {n s : Str} {v : PD} : n ∈ nm → isName s = true → wfVal v → WfSt nm (.tup [.str "set", .str n, v, .str s])
  | look {n : Str} : n ∈ nm → WfSt nm (.tup [.str "look", .str n])
  | back {s : Str} : isName s = true → WfSt nm (.tup [.str "back", .str s])
  | copy {s : Str} : isName s = true → WfSt nm (.tup [.str "copy", .str s])
  | pass_ : WfSt nm (.tup [.str "pass"])
  | begin_ : WfSt nm (.tup [.str "begin"])
  | late : WfSt nm (.tup [.str "late"])
  | inn {s : Str} : isName s = true → WfSt nm (.tup [.str "in", .str s])
inductive Flat (nm : List Str) : Int → List PD → List (Int × PD) → Prop
  | nil {d : Int} : Flat nm d [] []
  | plain {d : Int} {st : PD} {pr : List PD} {l : List (Int × PD)} : WfSt nm st → inBlocks st = false → Flat nm d pr l → Flat nm d (st :: pr) ((d, st) :: l)
  | block {d : Int} {st : PD} {body pr : List PD} {lb l : List (Int × PD)} : WfSt nm st → inBlocks st = true → Flat nm (d + 1) body lb → Flat nm d pr l → Flat nm d (addW st body :: pr) ((d, st) :: (lb ++ l))
theorem Flat.append {nm : List Str} {d : Int} {p1 p2 : List PD} {l1 l2 : List (Int × PD)} (h1 : Flat nm d p1 l1) (h2 : Flat nm d p2 l2) : Flat nm d (p1 ++ p2) (l1 ++ l2) := by
  induction h1 with
  | nil => exact h2
  | plain w b _ ih => exact .plain w b (ih h2)
  | block w b hb _ _ ih => rw [List.cons_append, List.cons_append, List.append_assoc]; exact .block w b hb (ih h2)
theorem WfSt.fix {nm : List Str} {st : PD} (h : WfSt nm st) : st.fix = true := by
  cases h with
  | @set n s v h1 h2 h3 => cases v <;> first | rfl | exact h3.elim
  | _ => rfl
theorem Flat.fixs {nm : List Str} {d : Int} {p : List PD} {l : List (Int × PD)} (h : Flat nm d p l) : PD.fixs p = true := by
  induction h with
  | nil => rfl
  | plain w b _ ih => simp only [PD.fixs, w.fix, ih, Bool.and_self]
  | block w b _ _ ihb ih => simp only [PD.fixs, ih, addW_fix w.fix ihb, Bool.and_self]
def WfP (nm : List Str) (k m : Nat) (p : List PD) : Prop := ∀ d : Int, ∃ l, Flat nm d p l ∧ l.length ≤ m ∧ ∀ q ∈ l, q.1 ≤ d + (k : Int)
theorem WfP.nil {nm : List Str} {k m : Nat} : WfP nm k m [] := fun d => ⟨[], .nil, Nat.zero_le _, fun q h => nomatch h⟩
theorem WfP.append {nm : List Str} {k m1 m2 : Nat} {p1 p2 : List PD} (h1 : WfP nm k m1 p1) (h2 : WfP nm k m2 p2) : WfP nm k (m1 + m2) (p1 ++ p2) := fun d => by
  obtain ⟨l1, f1, e1, q1⟩ := h1 d
  obtain ⟨l2, f2, e2, q2⟩ := h2 d
  refine ⟨l1 ++ l2, f1.append f2, by rw [List.length_append]; omega, fun q h => ?_⟩
  rcases List.mem_append.mp h with h | h
  · exact q1 q h
  · exact q2 q h
theorem WfP.one {nm : List Str} {k : Nat} {st : PD} (w : WfSt nm st) (b : inBlocks st = false) : WfP nm k 1 [st] := fun d =>
  ⟨[(d, st)], .plain w b .nil, Nat.le_refl _, fun q h => by rcases List.mem_cons.mp h with rfl | h; exact (by show d ≤ d + (k : Int); omega); exact nomatch h⟩
theorem WfP.blk {nm : List Str} {k m : Nat} {st : PD} {body : List PD} (w : WfSt nm st) (b : inBlocks st = true) (h : WfP nm k m body) : WfP nm (k + 1) (m + 1) [addW st body] := fun d => by
  obtain ⟨l, f, e, q⟩ := h (d + 1)
  refine ⟨(d, st) :: (l ++ []), .block w b f .nil, by simp; omega, fun p hp => ?_⟩
  rcases List.mem_cons.mp hp with rfl | hp
  · show d ≤ _; omega
  · rw [List.append_nil] at hp; have := q p hp; omega
theorem WfP.mono {nm : List Str} {k m k' m' : Nat} {p : List PD} (h : WfP nm k m p) (hk : k ≤ k') (hm : m ≤ m') : WfP nm k' m' p := fun d => by
  obtain ⟨l, f, e, q⟩ := h d
  exact ⟨l, f, by omega, fun p hp => by have := q p hp; omega⟩
theorem WfP.fixs {nm : List Str} {k m : Nat} {p : List PD} (h : WfP nm k m p) : PD.fixs p = true := by obtain ⟨l, f, _⟩ := h 0; exact f.fixs
/-! the written rows -/
def escL (c : Nat) : List Nat := if c = 39 ∨ c = 92 then [92, c] else [c]
def writtenOf : PD → Str
  | .int i => Str.ofString (toString i)
  | .str s => ("'" : Str) ++ ⟨((TL.tl s).flatMap escL).toArray⟩ ++ ("'" : Str)
  | _ => ""
def strsOf : List PD → List Str
  | [] => []
  | .str s :: r => s :: strsOf r
  | _ :: r => strsOf r
def wordsOf : PD → List Str
  | .tup [.str w, .str n, v, .str s] => [w, n, writtenOf v, s]
  | .tup l => strsOf l
  | _ => []
def rowText (p : Int × PD) : Str := Txt.mul " " (2 * p.1) ++ Txt.join " " (wordsOf p.2)
theorem foldl_app (a : List Nat) : ∀ (n : Nat) (b : Array Nat), (List.foldl (fun x1 x2 => x1 ++ x2) b (List.replicate n a.toArray)).toList = b.toList ++ (List.replicate n a).flatten
  | 0, b => by simp
  | n + 1, b => by
    rw [List.replicate_succ, List.foldl_cons, foldl_app a n]
    simp [List.replicate_succ]
theorem tl_mul (x : Str) (n : Int) : TL.tl (Txt.mul x n) = (List.replicate n.toNat (TL.tl x)).flatten := by
  unfold Txt.mul
  split
  · rename_i h
    rw [show n.toNat = 0 by omega]; rfl
  · split
    · rename_i h
      simp only [Bool.or_eq_true, beq_iff_eq] at h
      rcases h with h | h
      · subst h; simp [List.replicate]
      · have : TL.tl x = [] := (TL.len0_tl x).mp h
        rw [this]; simp
    · have := foldl_app (TL.tl x) n.toNat #[]
      rw [show (TL.tl x).toArray = x.cps from rfl] at this
      simpa using this
theorem tl_blank : TL.tl (" " : Str) = [32] := by decide +kernel
theorem tl_blanks (k : Nat) : TL.tl (Txt.mul " " (k : Int)) = List.replicate k 32 := by
  rw [tl_mul, tl_blank]
  rw [show ((k : Int)).toNat = k from rfl]
  induction k with
  | zero => rfl
  | succ k ih => rw [List.replicate_succ, List.flatten_cons, ih, List.replicate_succ]; rfl
theorem neg_text (n : Nat) (h : n ≠ 0) : TL.tl (Str.ofString (toString (-((n : Nat) : Int)))) = 45 :: TL.numL n := by
  obtain ⟨m, rfl⟩ : ∃ m, n = m + 1 := ⟨n - 1, by omega⟩
  have e : (-((m + 1 : Nat) : Int)) = Int.negSucc m := rfl
  rw [e, TL.tl_ofString]
  show (String.toList ("-" ++ (toString (m + 1)))).map Char.toNat = _
  rw [String.toList_append, List.map_append]
  have h2 := TL.tl_num (m + 1)
  rw [TL.tl_ofString] at h2
  show [45] ++ _ = _
  show _ = [45] ++ TL.numL (m + 1)
  rw [← h2]; rfl
theorem int_forms (i : Int) : (∃ n : Nat, i = (n : Int) ∧ TL.tl (writtenOf (.int i)) = TL.numL n) ∨ (∃ n : Nat, n ≠ 0 ∧ i = -(n : Int) ∧ TL.tl (writtenOf (.int i)) = 45 :: TL.numL n) := by
  by_cases h : 0 ≤ i
  · obtain ⟨n, rfl⟩ := Int.eq_ofNat_of_zero_le h
    exact .inl ⟨n, rfl, TL.tl_num n⟩
  · refine .inr ⟨(-i).toNat, by omega, by omega, ?_⟩
    have := neg_text (-i).toNat (by omega)
    rw [show -(((-i).toNat : Nat) : Int) = i by omega] at this
    exact this
theorem esc_le : ∀ (l : List Nat), (l.flatMap escL).length ≤ 2 * l.length
  | [] => by simp
  | a :: r => by
    have := esc_le r
    rw [List.flatMap_cons, List.length_append, List.length_cons]
    have h : (escL a).length ≤ 2 := by unfold escL; split <;> simp
    omega
theorem tl_quote : TL.tl ("'" : Str) = [39] := by decide +kernel
theorem tl_writtenS (s : Str) : TL.tl (writtenOf (.str s)) = 39 :: ((TL.tl s).flatMap escL ++ [39]) := by
  show TL.tl (("'" : Str) ++ ⟨((TL.tl s).flatMap escL).toArray⟩ ++ ("'" : Str)) = _
  rw [TL.tl_append, TL.tl_append, tl_quote]; simp
theorem written_len {v : PD} (h : wfVal v) : (writtenOf v).length ≤ 100 := by
  cases v with
  | int i =>
    obtain ⟨h1, h2⟩ := h
    rw [TL.len_tl]
    rcases int_forms i with ⟨n, rfl, e⟩ | ⟨n, h0, rfl, e⟩
    · rw [e]; have := TL.numL_len (n := n) (k := 30) (by omega) (by omega); omega
    · rw [e]; have := TL.numL_len (n := n) (k := 30) (by omega) (by omega); simp only [List.length_cons]; omega
  | str s =>
    rw [TL.len_tl, tl_writtenS]
    have := esc_le (TL.tl s)
    have := h.1
    simp only [List.length_cons, List.length_append, List.length_nil]; omega
  | _ => exact h.elim
/-- the words of a step are few and short -/
theorem words_small {nm : List Str} {st : PD} (h : WfSt nm st) (hn : ∀ n ∈ nm, isName n = true) : (wordsOf st).length ≤ 4 ∧ ((wordsOf st).map (·.length)).sum ≤ 200 := by
  have nl : ∀ {s : Str}, isName s = true → s.length ≤ 8 := fun h => by rw [TL.len_tl]; exact (isName_open h).2.1
  have k1 : ("set" : Str).length = 3 := by decide +kernel
  have k2 : ("look" : Str).length = 4 := by decide +kernel
  have k3 : ("back" : Str).length = 4 := by decide +kernel
  have k4 : ("copy" : Str).length = 4 := by decide +kernel
  have k5 : ("pass" : Str).length = 4 := by decide +kernel
  have k6 : ("begin" : Str).length = 5 := by decide +kernel
  have k7 : ("late" : Str).length = 4 := by decide +kernel
  have k8 : ("in" : Str).length = 2 := by decide +kernel
  cases h with
  | set h1 h2 h3 =>
    have := nl (hn _ h1); have := nl h2; have := written_len h3
    simp only [wordsOf, List.length_cons, List.length_nil, List.map_cons, List.map_nil, List.sum_cons, List.sum_nil]; omega
  | look h1 => have := nl (hn _ h1); simp only [wordsOf, strsOf, List.length_cons, List.length_nil, List.map_cons, List.map_nil, List.sum_cons, List.sum_nil]; omega
  | back h1 => have := nl h1; simp only [wordsOf, strsOf, List.length_cons, List.length_nil, List.map_cons, List.map_nil, List.sum_cons, List.sum_nil]; omega
  | copy h1 => have := nl h1; simp only [wordsOf, strsOf, List.length_cons, List.length_nil, List.map_cons, List.map_nil, List.sum_cons, List.sum_nil]; omega
  | inn h1 => have := nl h1; simp only [wordsOf, strsOf, List.length_cons, List.length_nil, List.map_cons, List.map_nil, List.sum_cons, List.sum_nil]; omega
  | _ => simp only [wordsOf, strsOf, List.length_cons, List.length_nil, List.map_cons, List.map_nil, List.sum_cons, List.sum_nil]; omega
theorem joinL_len (S : List Nat) : ∀ (ls : List (List Nat)), (TL.joinL S ls).length ≤ (ls.map List.length).sum + ls.length * S.length
  | [] => by simp [TL.joinL]
  | [a] => by simp [TL.joinL]
  | a :: b :: r => by
    have := joinL_len S (b :: r)
    have e : TL.joinL S (a :: b :: r) = a ++ (S ++ TL.joinL S (b :: r)) := rfl
    rw [e]
    simp only [List.length_append, List.map_cons, List.sum_cons, List.length_cons, Nat.succ_mul] at this ⊢
    omega
theorem join_len (y : Str) (ls : List Str) : (Txt.join y ls).length ≤ (ls.map (·.length)).sum + ls.length * y.length := by
  rw [TL.len_tl, TL.join_eq, TL.tl_join]
  have := joinL_len (TL.tl y) (ls.map TL.tl)
  rw [List.map_map, List.length_map] at this
  rw [TL.len_tl y]
  have e : (ls.map (List.length ∘ TL.tl)) = ls.map (·.length) := List.map_congr_left fun a _ => (TL.len_tl a).symm
  rw [e] at this
  exact this
/-! the sheet's text -/
def setRow : PD → Str
  | .tup [.str n, .non] => ("setting " : Str) ++ n ++ ("" : Str)
  | .tup [.str n, v] => ("setting " : Str) ++ n ++ ((" " : Str) ++ writtenOf v)
  | _ => ""
def weaveRow (ps : List Int) : Str := Txt.join " " (("weave" : Str) :: ps.map fun i => Str.ofString (toString i))
def textRows (sets : List PD) (ps : List Int) (l : List (Int × PD)) : List Str := sets.map setRow ++ [weaveRow ps] ++ l.map rowText
def sheetText (sets : List PD) (ps : List Int) (l : List (Int × PD)) : Str := Txt.join "\n" (textRows sets ps l)
def WfSet (d : PD) : Prop := ∃ n v, d = .tup [.str n, v] ∧ isName n = true ∧ (v = .non ∨ wfVal v)
structure WfSh (sets : List PD) (ps : List Int) (prog : List PD) : Prop where
  wset : ∀ d ∈ sets, WfSet d
  few : sets.length ≤ 60
  nd : (sets.map nameOf).Nodup
  wpick : ∀ p ∈ ps, 0 ≤ p ∧ p < 10000
  fewp : ps.length ≤ 300
  wprog : WfP (sets.map nameOf) 6 150 prog
theorem WfSet.fix {d : PD} (h : WfSet d) : d.fix = true := by
  obtain ⟨n, v, rfl, _, h⟩ := h
  rcases h with rfl | h
  · rfl
  · cases v <;> first | rfl | exact h.elim
theorem setRow_val {n : Str} {v : PD} (h : wfVal v) : setRow (.tup [.str n, v]) = ("setting " : Str) ++ n ++ ((" " : Str) ++ writtenOf v) := by
  cases v <;> first | rfl | exact h.elim
theorem len_app (a b : Str) : (a ++ b).length = a.length + b.length := by rw [TL.len_tl, TL.tl_append, List.length_append, ← TL.len_tl, ← TL.len_tl]
theorem setRow_len {d : PD} (h : WfSet d) : (setRow d).length ≤ 200 := by
  obtain ⟨n, v, rfl, hn, h⟩ := h
  have l1 : ("setting " : Str).length = 8 := by decide +kernel
  have l2 : ("" : Str).length = 0 := by decide +kernel
  have l3 : (" " : Str).length = 1 := by decide +kernel
  have l4 : n.length ≤ 8 := by rw [TL.len_tl]; exact (isName_open hn).2.1
  rcases h with rfl | h
  · show (("setting " : Str) ++ n ++ ("" : Str)).length ≤ 200
    rw [len_app, len_app]; omega
  · rw [setRow_val h, len_app, len_app, len_app]
    have := written_len h
    omega
theorem sum_le {α : Type} {f : α → Nat} {B : Nat} : ∀ {l : List α}, (∀ x ∈ l, f x ≤ B) → (l.map f).sum ≤ l.length * B
  | [], _ => by simp
  | a :: r, h => by
    have h1 := h a List.mem_cons_self
    have h2 := sum_le fun x hx => h x (List.mem_cons_of_mem _ hx)
    rw [List.map_cons, List.sum_cons, List.length_cons, Nat.succ_mul]; omega
theorem pick_len {i : Int} (h : 0 ≤ i ∧ i < 10000) : (Str.ofString (toString i)).length ≤ 4 := by
  obtain ⟨n, rfl⟩ := Int.eq_ofNat_of_zero_le h.1
  rw [TL.len_tl, TL.tl_num]
  exact TL.numL_len (by omega) (by omega)
theorem weaveRow_len {ps : List Int} (h : ∀ p ∈ ps, 0 ≤ p ∧ p < 10000) (hl : ps.length ≤ 300) : (weaveRow ps).length ≤ 2000 := by
  have := join_len " " (("weave" : Str) :: ps.map fun i => Str.ofString (toString i))
  rw [List.map_cons, List.sum_cons, List.map_map, List.length_cons, List.length_map, show (" " : Str).length = 1 by decide +kernel, show ("weave" : Str).length = 5 by decide +kernel] at this
  have h2 : (ps.map (Str.length ∘ fun i => Str.ofString (toString i))).sum ≤ ps.length * 4 := sum_le fun x hx => pick_len (h x hx)
  unfold weaveRow
  have h3 : (ps.map ((fun x => x.length) ∘ fun i => Str.ofString (toString i))) = (ps.map (Str.length ∘ fun i => Str.ofString (toString i))) := rfl
  rw [h3] at this
  omega
theorem Flat.steps {nm : List Str} {d : Int} {p : List PD} {l : List (Int × PD)} (h : Flat nm d p l) : ∀ q ∈ l, WfSt nm q.2 ∧ d ≤ q.1 := by
  induction h with
  | nil => exact fun q h => nomatch h
  | plain w b _ ih =>
    intro q hq
    rcases List.mem_cons.mp hq with rfl | hq
    · exact ⟨w, Int.le_refl _⟩
    · exact ih q hq
  | block w b _ _ ihb ih =>
    intro q hq
    rcases List.mem_cons.mp hq with rfl | hq
    · exact ⟨w, Int.le_refl _⟩
    · rcases List.mem_append.mp hq with hq | hq
      · have := ihb q hq; exact ⟨this.1, by omega⟩
      · exact ih q hq
theorem rowText_len {nm : List Str} {d : Int} {st : PD} (w : WfSt nm st) (hn : ∀ n ∈ nm, isName n = true) (h0 : 0 ≤ d) (h6 : d ≤ 20) : (rowText (d, st)).length ≤ 300 := by
  obtain ⟨h1, h2⟩ := words_small w hn
  have jl := join_len " " (wordsOf st)
  rw [show (" " : Str).length = 1 by decide +kernel] at jl
  obtain ⟨k, rfl⟩ := Int.eq_ofNat_of_zero_le h0
  unfold rowText
  rw [len_app, show 2 * (k : Int) = ((2 * k : Nat) : Int) by omega]
  have ml : (Txt.mul " " ((2 * k : Nat) : Int)).length = 2 * k := by rw [TL.len_tl, tl_blanks, List.length_replicate]
  show (Txt.mul " " ((2 * k : Nat) : Int)).length + (Txt.join " " (wordsOf st)).length ≤ 300
  omega
end RS
set_option Elab.async false
set_option linter.all false
set_option maxRecDepth 100000
set_option maxHeartbeats 4000000
/-! M1: texts cut at blanks -/
namespace RS
open PySem L2
theorem tl_str (l : List Nat) : TL.tl (⟨l.toArray⟩ : Str) = l := rfl
theorem rpart_app {a b : Str} (h : ¬ 32 ∈ TL.tl b) : Txt.rpartition (a ++ (" " : Str) ++ b) " " = (a, (" " : Str), b) := by
  have tb := tl_blank
  have hx : TL.tl (a ++ " " ++ b) = TL.tl a ++ (32 :: TL.tl b) := by rw [TL.tl_append, TL.tl_append, tb]; simp
  have hy : TL.tl (" " : Str) ≠ [] := by rw [tb]; simp
  have hl : (a ++ " " ++ b).length = (TL.tl a).length + (TL.tl b).length + 1 := by rw [TL.len_tl, hx, List.length_append, List.length_cons]; omega
  have hat : ∀ i, PySem.StrLaws.At (a ++ " " ++ b) " " (a ++ " " ++ b).length i ↔ (TL.tl a ++ (32 :: TL.tl b))[i]? = some 32 := by
    intro i
    rw [TL.at_iff hy, tb, hx]
    unfold TL.pre
    cases hd : (TL.tl a ++ (32 :: TL.tl b)).drop i with
    | nil =>
      have : (TL.tl a ++ (32 :: TL.tl b))[i]? = none := by
        rw [List.getElem?_eq_none_iff]
        have := congrArg List.length hd
        rw [List.length_drop, List.length_nil] at this; omega
      rw [this]; simp
    | cons c r =>
      have : (TL.tl a ++ (32 :: TL.tl b))[i]? = some c := by
        have := congrArg (fun l => l[0]?) hd
        simpa using this
      rw [this]; simp
  have hmid : (TL.tl a ++ (32 :: TL.tl b))[(TL.tl a).length]? = some 32 := by simp
  have hlate : ∀ k, (TL.tl a).length < k → ¬ (TL.tl a ++ (32 :: TL.tl b))[k]? = some 32 := by
    intro k hk e
    rw [List.getElem?_append_right (by omega)] at e
    obtain ⟨j, hj⟩ : ∃ j, k - (TL.tl a).length = j + 1 := ⟨k - (TL.tl a).length - 1, by omega⟩
    rw [hj, List.getElem?_cons_succ] at e
    exact h (List.mem_of_getElem? e)
  rcases PySem.StrLaws.last_spec (a ++ " " ++ b) " " with ⟨_, h2⟩ | ⟨i, h1, h2, h3⟩
  · exact absurd ((hat _).mpr hmid) (h2 _)
  · have h4 := (hat i).mp h2
    have hi : i = (TL.tl a).length := by
      have n1 : ¬ (TL.tl a).length < i := fun hk => hlate i hk h4
      have n2 : ¬ i < (TL.tl a).length := fun hk => h3 _ hk ((hat _).mpr hmid)
      omega
    subst hi
    unfold Txt.rpartition
    rw [h1]
    simp only [Prod.mk.injEq, true_and]
    refine ⟨TL.ext_tl ?_, TL.ext_tl ?_⟩
    · rw [TL.tl_strSub, hx]; simp
    · rw [TL.tl_strSub_end, hx, show (" " : Str).length = 1 by decide +kernel]
      rw [List.drop_append, List.drop_of_length_le (by omega), show (TL.tl a).length + 1 - (TL.tl a).length = 1 by omega]; rfl
theorem part_app {a b : Str} (h : ¬ 32 ∈ TL.tl a) : Txt.partition (a ++ (" " : Str) ++ b) " " = (a, (" " : Str), b) := TL.partition_app (s := 32) (S := []) tl_blank h
theorem part_none {a : Str} (h : ¬ 32 ∈ TL.tl a) : Txt.partition a " " = (a, Str.empty, Str.empty) := TL.partition_none (s := 32) (S := []) tl_blank h
theorem lstrip_blanks (k : Nat) {r : Str} {c : Nat} {cs : List Nat} (h : TL.tl r = c :: cs) (hc : c ≠ 32) : Txt.lstripChars (Txt.mul " " (k : Int) ++ r) " " = r := by
  apply TL.ext_tl
  unfold Txt.lstripChars
  rw [PyProof.Rows.stripBy_eq]
  have hx : TL.tl (Txt.mul " " (k : Int) ++ r) = List.replicate k 32 ++ (c :: cs) := by rw [TL.tl_append, tl_blanks, h]
  have g32 : (" " : Str).cps.contains 32 = true := by decide +kernel
  have gc : (" " : Str).cps.contains c = false := by
    rw [show (" " : Str).cps = #[32] by decide +kernel]
    simp; omega
  have lo : PySem.stripLo (" " : Str).cps.contains true (Txt.mul " " (k : Int) ++ r) = k := by
    unfold PySem.stripLo
    rw [if_pos rfl, show (Txt.mul " " (k : Int) ++ r).cps.toList = List.replicate k 32 ++ (c :: cs) from hx]
    have : ∀ n : Nat, ((List.replicate n 32 ++ (c :: cs)).takeWhile (" " : Str).cps.contains).length = n := by
      intro n
      induction n with
      | zero => rw [List.replicate_zero, List.nil_append, List.takeWhile_cons_of_neg (by rw [gc]; exact Bool.false_ne_true)]; rfl
      | succ n ih => rw [List.replicate_succ, List.cons_append, List.takeWhile_cons_of_pos g32, List.length_cons, ih]
    exact this k
  rw [lo]
  unfold PySem.stripHi
  rw [if_neg Bool.false_ne_true, TL.tl_strSub_end, hx, h]
  rw [List.drop_append, List.drop_of_length_le (by simp)]
  simp
theorem len_blanks (k : Nat) (r : Str) : (Txt.mul " " (k : Int) ++ r).length = k + r.length := by
  rw [len_app, TL.len_tl, tl_blanks, List.length_replicate]
end RS
set_option Elab.async false
set_option linter.all false
set_option maxRecDepth 100000
set_option maxHeartbeats 4000000
/-! M2: a written value reads back -/
namespace RS
open PySem L2
theorem cut_first (w : Str) : TL.tl (cutS w none (some 1)) = (TL.tl w).take 1 := tl_cut_to w 1
theorem cut_mid (w : Str) : TL.tl (cutS w (some 1) (some (-1))) = ((TL.tl w).drop 1).take ((TL.tl w).length - 2) := by
  unfold cutS
  have e0 : HT.sIx w.length 0 (some (1 : Int)) = min 1 w.length := HT.sIx_nat w.length 0 1
  have e1 : HT.sIx w.length w.length (some (-1 : Int)) = w.length - 1 := by
    show (if (-1 : Int) < 0 then ((-1 : Int) + (w.length : Int)).toNat else min (-1 : Int).toNat w.length) = _
    rw [if_pos (by decide)]; omega
  rw [e0, e1]
  show ((TL.tl w).drop _).take _ = _
  rw [TL.len_tl]
  by_cases h : 1 ≤ (TL.tl w).length
  · rw [Nat.min_eq_left h, show (TL.tl w).length - 1 - 1 = (TL.tl w).length - 2 by omega]
  · have : TL.tl w = [] := List.eq_nil_of_length_eq_zero (by omega)
    rw [this]; rfl
theorem str_eq_of {a b : Str} (h : TL.tl a = TL.tl b) : a = b := TL.ext_tl h
theorem not_quote {w : Str} {c : Nat} {r : List Nat} (h : TL.tl w = c :: r) (hc : c ≠ 39) : ¬ cutS w none (some 1) = ("'" : Str) := by
  intro e
  have := congrArg TL.tl e
  rw [cut_first, h, tl_quote] at this
  simp at this
  exact hc this
theorem figs_of {f : Str} {n : Int} (hd : NumText.AllDigits (TL.tl f)) (h0 : TL.tl f ≠ []) (hn : ((TL.tl f).length : Int) ≤ n) : figsOk f n = true := by
  have h1 : 1 ≤ (TL.tl f).length := List.length_pos_iff.mpr h0
  unfold figsOk
  rw [TL.len_tl, decide_eq_true (by omega), decide_eq_true hn]
  simp only [Bool.true_and, List.all_eq_true, List.mem_map, forall_exists_index, and_imp, forall_apply_eq_imp_iff₂, id]
  exact fun c hc => mem_figs.mpr (hd c hc)
theorem numL_head : ∀ n : Nat, n ≠ 0 → ∃ c r, TL.numL n = c :: r ∧ c ≠ 48 := by
  intro n
  induction n using Nat.strongRecOn with
  | _ n ih =>
    intro h
    by_cases hn : n < 10
    · exact ⟨48 + n, [], TL.numL_lt hn, by omega⟩
    · obtain ⟨c, r, e, hc⟩ := ih (n / 10) (by omega) (by omega)
      exact ⟨c, r ++ [48 + n % 10], by rw [TL.numL_step (by omega), e]; rfl, hc⟩
theorem numL_first (n : Nat) : ∃ c r, TL.numL n = c :: r ∧ 48 ≤ c ∧ c ≤ 57 := by
  cases h : TL.numL n with
  | nil => exact absurd h (TL.numL_ne n)
  | cons c r =>
    have := TL.numL_digits n c (by rw [h]; exact List.mem_cons_self)
    exact ⟨c, r, rfl, this⟩
theorem lead_num {w : Str} {n : Nat} (h : TL.tl w = TL.numL n) : (lead0 w && !decide (w = ("0" : Str))) = false := by
  by_cases h0 : n = 0
  · subst h0
    have : w = ("0" : Str) := TL.ext_tl (by rw [h]; decide +kernel)
    subst this
    decide +kernel
  · obtain ⟨c, r, e, hc⟩ := numL_head n h0
    unfold lead0
    rw [show w.cps.toList = c :: r by rw [← e]; exact h]
    simp [hc]
theorem number_num {w : Str} {n : Nat} (h : TL.tl w = TL.numL n) (hn : n < 10 ^ 30) : numberIn w = some (n : Int) := by
  obtain ⟨c, r, e, hc⟩ := numL_first n
  have ns : Txt.startswith w "-" = false := by
    rw [Bool.eq_false_iff]
    intro hs
    obtain ⟨r', hr'⟩ := starts_minus.mp hs
    have : TL.tl w = 45 :: r' := hr'
    rw [h, e] at this
    injection this with h1 _
    omega
  have ef : figsOf w = w := by unfold figsOf; rw [if_neg (by rw [ns]; exact Bool.false_ne_true)]
  have len := TL.numL_len (n := n) (k := 30) (by omega) hn
  have ok : figsOk (figsOf w) 30 = true := by rw [ef]; exact figs_of (by rw [h]; exact TL.numL_digits n) (by rw [h]; exact TL.numL_ne n) (by rw [h]; omega)
  unfold numberIn
  rw [ok, ef, lead_num h]
  show some (numVal w) = _
  unfold numVal
  rw [if_neg (by rw [ns]; exact Bool.false_ne_true)]
  rw [show w.cps.toList = TL.numL n from h, TL.numL_val]
theorem number_neg {w : Str} {n : Nat} (h0 : n ≠ 0) (h : TL.tl w = 45 :: TL.numL n) (hn : n < 10 ^ 30) : numberIn w = some (-(n : Int)) := by
  have ns : Txt.startswith w "-" = true := starts_minus.mpr ⟨_, h⟩
  have ef : TL.tl (figsOf w) = TL.numL n := by unfold figsOf; rw [if_pos ns]; exact cut1 h
  have len := TL.numL_len (n := n) (k := 30) (by omega) hn
  have ok : figsOk (figsOf w) 30 = true := figs_of (by rw [ef]; exact TL.numL_digits n) (by rw [ef]; exact TL.numL_ne n) (by rw [ef]; omega)
  have l0 : lead0 (figsOf w) = false := by
    obtain ⟨c, r, e, hc⟩ := numL_head n h0
    unfold lead0
    rw [show (figsOf w).cps.toList = c :: r by rw [← e]; exact ef]
    simp [hc]
  unfold numberIn
  rw [ok, l0]
  show some (numVal w) = _
  unfold numVal
  rw [if_pos ns, show (figsOf w).cps.toList = TL.numL n from ef, TL.numL_val]
theorem bare_esc : ∀ (l : List Nat) (f : Str) (tail : List Nat), bareGo (l.flatMap escL ++ tail) f false = bareGo tail (f ++ ⟨l.toArray⟩) false
  | [], f, tail => by
    have : f ++ (⟨([] : List Nat).toArray⟩ : Str) = f := TL.ext_tl (by rw [TL.tl_append]; simp [TL.tl])
    rw [this]; rfl
  | c :: r, f, tail => by
    have e2 : (f ++ ⟨#[c]⟩) ++ (⟨r.toArray⟩ : Str) = f ++ (⟨(c :: r).toArray⟩ : Str) := TL.ext_tl (by
      rw [TL.tl_append, TL.tl_append, TL.tl_append]; simp [TL.tl])
    rw [List.flatMap_cons, List.append_assoc]
    have ih := bare_esc r (f ++ ⟨#[c]⟩) tail
    rw [e2] at ih
    unfold escL
    by_cases h : c = 39 ∨ c = 92
    · rw [if_pos h]
      show bareGo (92 :: c :: (r.flatMap escL ++ tail)) f false = _
      rw [← ih]
      have s1 : bareGo (92 :: c :: (r.flatMap escL ++ tail)) f false = bareGo (c :: (r.flatMap escL ++ tail)) f true := by
        rw [bareGo]; simp
      rw [s1, bareGo]
      have hb : (decide (c = 39) || decide (c = 92)) = true := by simpa using h
      simp [hb]
    · rw [if_neg h]
      show bareGo (c :: (r.flatMap escL ++ tail)) f false = _
      rw [← ih, bareGo]
      have hb : (decide (c = 39) || decide (c = 92)) = false := by simpa using h
      simp [hb]
theorem isVal_of {s : Str} (h : ∀ c ∈ TL.tl s, 32 ≤ c ∧ c ≤ 126) : isVal s = true := by
  unfold isVal
  simp only [List.all_eq_true, List.mem_map, forall_exists_index, and_imp, forall_apply_eq_imp_iff₂, id]
  intro c hc
  have := h c hc
  have h1 : ¬ [c] < [32] := fun hlt => by
    rcases List.cons_lt_cons_iff.mp hlt with h | ⟨_, h2⟩
    · omega
    · exact absurd h2 (by simp)
  have h2 : ¬ [126] < [c] := fun hlt => by
    rcases List.cons_lt_cons_iff.mp hlt with h | ⟨_, h2⟩
    · omega
    · exact absurd h2 (by simp)
  rw [decide_eq_false h1, decide_eq_false h2]; rfl
theorem value_back {v : PD} (h : wfVal v) : valueIn (writtenOf v) = v := by
  cases v with
  | int i =>
    obtain ⟨h1, h2⟩ := h
    rcases int_forms i with ⟨n, rfl, e⟩ | ⟨n, h0, rfl, e⟩
    · obtain ⟨c, r, ec, hc⟩ := numL_first n
      rw [valueIn_num (not_quote (c := c) (r := r) (by rw [e, ec]) (by omega)), number_num e (by omega)]; rfl
    · rw [valueIn_num (not_quote e (by decide)), number_neg h0 e (by omega)]; rfl
  | str s =>
    have e := tl_writtenS s
    have q1 : cutS (writtenOf (.str s)) none (some 1) = ("'" : Str) := TL.ext_tl (by rw [cut_first, e, tl_quote]; rfl)
    rw [valueIn_text q1]
    have hlen : (writtenOf (.str s)).length = ((TL.tl s).flatMap escL).length + 2 := by rw [TL.len_tl, e]; simp
    have hb : bareIn (cutS (writtenOf (.str s)) (some 1) (some (-1))) = some s := by
      unfold bareIn
      have : (cutS (writtenOf (.str s)) (some 1) (some (-1))).cps.toList = (TL.tl s).flatMap escL := by
        have := cut_mid (writtenOf (.str s))
        rw [e] at this
        rw [show (cutS (writtenOf (.str s)) (some 1) (some (-1))).cps.toList = TL.tl (cutS (writtenOf (.str s)) (some 1) (some (-1))) from rfl, this]
        simp
      rw [this]
      have hb := bare_esc (TL.tl s) "" []
      rw [List.append_nil] at hb
      rw [hb]
      have : ("" : Str) ++ (⟨(TL.tl s).toArray⟩ : Str) = s := TL.ext_tl (by rw [TL.tl_append, tl_empty]; rfl)
      rw [this]; rfl
    have ht : textIn (writtenOf (.str s)) = some s := by
      unfold textIn
      have c1 : (decide (((writtenOf (.str s)).length : Int) < 2) || !decide (first? (writtenOf (.str s)) = some 39) || !decide (last? (writtenOf (.str s)) = some 39)) = false := by
        have f1 : first? (writtenOf (.str s)) = some 39 := by
          unfold first?; rw [show (writtenOf (.str s)).cps.toList = _ from e]; rfl
        have f2 : last? (writtenOf (.str s)) = some 39 := by
          unfold last?; rw [show (writtenOf (.str s)).cps.toList = (39 :: (TL.tl s).flatMap escL) ++ [39] from e]; exact List.getLast?_concat
        rw [f1, f2, decide_eq_false (by omega)]; rfl
      rw [c1, hb]
      have c2 : (decide (40 < (s.length : Int)) || !isVal s) = false := by
        rw [isVal_of h.2, decide_eq_false (by have := h.1; rw [TL.len_tl]; omega)]; rfl
      simp only [c2]
      rfl
    rw [ht]; rfl
  | _ => exact h.elim
theorem pick_back {i : Int} (h : 0 ≤ i ∧ i < 10000) : pickIn (Str.ofString (toString i)) = some i := by
  obtain ⟨n, rfl⟩ := Int.eq_ofNat_of_zero_le h.1
  have e := TL.tl_num n
  have ok : figsOk (Str.ofString (toString ((n : Nat) : Int))) 4 = true := figs_of (by rw [e]; exact TL.numL_digits n) (by rw [e]; exact TL.numL_ne n) (by rw [e]; have := TL.numL_len (n := n) (k := 4) (by omega) (by omega); omega)
  unfold pickIn
  rw [ok, lead_num e]
  show some (((NumText.digitsVal (Str.ofString (toString ((n : Nat) : Int))).cps.toList : Nat) : Int)) = _
  rw [show (Str.ofString (toString ((n : Nat) : Int))).cps.toList = TL.numL n from e, TL.numL_val]
/-! the signs of what is written -/
def Plain (l : List Nat) : Prop := ∀ c ∈ l, 32 ≤ c ∧ c ≤ 126
theorem plain_num (n : Nat) : Plain (TL.numL n) := fun c hc => by have := TL.numL_digits n c hc; omega
theorem plain_written {v : PD} (h : wfVal v) : Plain (TL.tl (writtenOf v)) := by
  cases v with
  | int i =>
    rcases int_forms i with ⟨n, _, e⟩ | ⟨n, _, _, e⟩
    · rw [e]; exact plain_num n
    · rw [e]; intro c hc
      rcases List.mem_cons.mp hc with rfl | hc
      · omega
      · exact plain_num n c hc
  | str s =>
    rw [tl_writtenS]
    intro c hc
    rcases List.mem_cons.mp hc with rfl | hc
    · omega
    rcases List.mem_append.mp hc with hc | hc
    · obtain ⟨a, ha, hc⟩ := List.mem_flatMap.mp hc
      have := h.2 a ha
      unfold escL at hc
      split at hc
      · rcases List.mem_cons.mp hc with rfl | hc
        · omega
        · rcases List.mem_cons.mp hc with rfl | hc
          · exact this
          · exact nomatch hc
      · rcases List.mem_cons.mp hc with rfl | hc
        · exact this
        · exact nomatch hc
    · rcases List.mem_cons.mp hc with rfl | hc
      · omega
      · exact nomatch hc
  | _ => exact h.elim
theorem plain_name {s : Str} (h : isName s = true) : Plain (TL.tl s) := fun c hc => by have := (isName_open h).2.2 c hc; omega
theorem name_free {s : Str} (h : isName s = true) : ¬ 32 ∈ TL.tl s := fun hc => by have := (isName_open h).2.2 32 hc; omega
end RS
set_option Elab.async false
set_option linter.all false
set_option maxRecDepth 100000
set_option maxHeartbeats 4000000
/-! M: a sheet's text reads back -/
namespace RS
open PySem L2
theorem join_one (a : Str) : Txt.join " " [a] = a := TL.ext_tl (by rw [TL.join_eq, TL.tl_join]; rfl)
theorem join_cons (a b : Str) (r : List Str) : Txt.join " " (a :: b :: r) = a ++ (" " : Str) ++ Txt.join " " (b :: r) := TL.ext_tl (by
  rw [TL.tl_append, TL.tl_append, TL.join_eq, TL.join_eq, TL.tl_join, TL.tl_join]
  show TL.tl a ++ (TL.tl (" " : Str) ++ TL.joinL _ _) = _
  rw [List.append_assoc]; rfl)
theorem inV_nm (s : Str) (l : List Str) : inV (.str s) (l.map V.str) = decide (s ∈ l) := by
  induction l with
  | nil => rfl
  | cons a r ih =>
    rw [List.map_cons, inv_cons, ih, eqV_str]
    by_cases h : a = s <;> by_cases h2 : s ∈ r <;> simp [h, h2, eq_comm]
    intro e; exact absurd e.symm h
theorem WfSt.isTup {nm : List Str} {st : PD} (h : WfSt nm st) : ∃ L, st = .tup L := by cases h <;> exact ⟨_, rfl⟩
theorem step_word {w x : Str} (hw : ¬ 32 ∈ TL.tl w) (hs : w ≠ ("set" : Str)) (hi : inV (.str w) withName = true) (hx : isName x = true) : stepIn (Txt.join " " [w, x]) = .tup [.str w, .str x] := by
  rw [join_cons, join_one]
  unfold stepIn
  simp only [part_app hw]
  rw [if_neg hs, hi, hx]
  rfl
theorem step_alone {w : Str} (hw : ¬ 32 ∈ TL.tl w) (hs : w ≠ ("set" : Str)) (hi : inV (.str w) withName = false) (ha : inV (.str w) alone = true) : stepIn (Txt.join " " [w]) = .tup [.str w] := by
  rw [join_one]
  unfold stepIn
  simp only [part_none hw]
  rw [if_neg hs, hi, ha]
  rfl
theorem step_back {nm : List Str} {st : PD} (h : WfSt nm st) (hn : ∀ n ∈ nm, isName n = true) : stepIn (Txt.join " " (wordsOf st)) = st := by
  cases h with
  | @set n s v h1 h2 h3 =>
    have e : wordsOf (.tup [.str "set", .str n, v, .str s]) = [("set" : Str), n, writtenOf v, s] := rfl
    rw [e, join_cons, join_cons, join_cons, join_one]
    unfold stepIn
    simp only [part_app (a := "set") (b := n ++ (" " : Str) ++ (writtenOf v ++ (" " : Str) ++ s)) (by decide +kernel)]
    rw [if_pos trivial]
    unfold setIn
    simp only [part_app (a := n) (b := writtenOf v ++ (" " : Str) ++ s) (name_free (hn n h1)), rpart_app (a := writtenOf v) (b := s) (name_free h2), value_back h3, hn n h1, h2]
    cases v with
    | int i => rfl
    | str i => rfl
    | _ => exact h3.elim
  | look h1 => exact step_word (by decide +kernel) (by decide +kernel) (by decide +kernel) (hn _ h1)
  | back h1 => exact step_word (by decide +kernel) (by decide +kernel) (by decide +kernel) h1
  | copy h1 => exact step_word (by decide +kernel) (by decide +kernel) (by decide +kernel) h1
  | inn h1 => exact step_word (by decide +kernel) (by decide +kernel) (by decide +kernel) h1
  | pass_ => exact step_alone (by decide +kernel) (by decide +kernel) (by decide +kernel) (by decide +kernel)
  | begin_ => exact step_alone (by decide +kernel) (by decide +kernel) (by decide +kernel) (by decide +kernel)
  | late => exact step_alone (by decide +kernel) (by decide +kernel) (by decide +kernel) (by decide +kernel)
theorem join_head {w : Str} {r : List Str} {c : Nat} {cs : List Nat} (h : TL.tl w = c :: cs) : ∃ ds, TL.tl (Txt.join " " (w :: r)) = c :: ds := by
  cases r with
  | nil => exact ⟨cs, by rw [join_one, h]⟩
  | cons b r => rw [join_cons, TL.tl_append, TL.tl_append, h]; exact ⟨_, rfl⟩
theorem words_head {nm : List Str} {st : PD} (h : WfSt nm st) : ∃ c ds, c ≠ 32 ∧ TL.tl (Txt.join " " (wordsOf st)) = c :: ds := by
  have hh : ∀ (w : Str) (r : List Str) (c : Nat) (cs : List Nat), TL.tl w = c :: cs → c ≠ 32 → ∃ c ds, c ≠ 32 ∧ TL.tl (Txt.join " " (w :: r)) = c :: ds := by
    intro w r c cs h hc
    obtain ⟨ds, e⟩ := join_head (r := r) h
    exact ⟨c, ds, hc, e⟩
  cases h with
  | set => exact hh "set" _ 115 [101, 116] (by decide +kernel) (by decide)
  | look => exact hh "look" _ 108 [111, 111, 107] (by decide +kernel) (by decide)
  | back => exact hh "back" _ 98 [97, 99, 107] (by decide +kernel) (by decide)
  | copy => exact hh "copy" _ 99 [111, 112, 121] (by decide +kernel) (by decide)
  | inn => exact hh "in" _ 105 [110] (by decide +kernel) (by decide)
  | pass_ => exact hh "pass" _ 112 [97, 115, 115] (by decide +kernel) (by decide)
  | begin_ => exact hh "begin" _ 98 [101, 103, 105, 110] (by decide +kernel) (by decide)
  | late => exact hh "late" _ 108 [97, 116, 101] (by decide +kernel) (by decide)
theorem row_back {nm : List Str} {st : PD} {k : Nat} {most : Int} (w : WfSt nm st) (hn : ∀ n ∈ nm, isName n = true) (hm : (k : Int) ≤ most) : rowOne (rowText ((k : Int), st)) most = some ((k : Int), st) := by
  obtain ⟨c, ds, hc, e⟩ := words_head w
  have rt : rowText ((k : Int), st) = Txt.mul " " ((2 * k : Nat) : Int) ++ Txt.join " " (wordsOf st) := by
    unfold rowText; rw [show 2 * (k : Int) = ((2 * k : Nat) : Int) by omega]
  have ls : Txt.lstripChars (rowText ((k : Int), st)) " " = Txt.join " " (wordsOf st) := by rw [rt]; exact lstrip_blanks (2 * k) e hc
  have bl : blanksOf (rowText ((k : Int), st)) = 2 * (k : Int) := by
    unfold blanksOf; rw [ls, rt, len_blanks]; omega
  obtain ⟨L, rfl⟩ := w.isTup
  unfold rowOne
  rw [ls, step_back w hn, bl]
  have d1 : decide (0 < 2 * (k : Int) % 2) = false := decide_eq_false (by omega)
  have d2 : decide (most < 2 * (k : Int) / 2) = false := decide_eq_false (by omega)
  simp only [d1, d2]
  rw [show 2 * (k : Int) / 2 = (k : Int) by omega]
  rfl
theorem rowsGo_cons {r : Str} {rs : List Str} {most d : Int} {st : PD} {l : List (Int × PD)} (h1 : rowOne r most = some (d, st)) (h2 : rowsGo rs (d + (if inBlocks st then 1 else 0)) = some l) : rowsGo (r :: rs) most = some ((d, st) :: l) := by
  rw [rowsGo, h1]
  simp only [h2]
theorem rows_flat {nm : List Str} (hn : ∀ n ∈ nm, isName n = true) {d : Int} {p : List PD} {l : List (Int × PD)} (fl : Flat nm d p l) : 0 ≤ d → ∀ (rest : List Str) (lr : List (Int × PD)), (∀ m, d ≤ m → rowsGo rest m = some lr) → ∀ most, d ≤ most → rowsGo (l.map rowText ++ rest) most = some (l ++ lr) := by
  induction fl with
  | nil => exact fun _ rest lr h most hm => h most hm
  | @plain d st pr l w b _ ih =>
    intro h0 rest lr h most hm
    obtain ⟨k, rfl⟩ := Int.eq_ofNat_of_zero_le h0
    refine rowsGo_cons (row_back w hn hm) ?_
    rw [b]
    exact ih h0 rest lr h _ (by simp)
  | @block d st body pr lb l w b hb _ ihb ih =>
    intro h0 rest lr h most hm
    obtain ⟨k, rfl⟩ := Int.eq_ofNat_of_zero_le h0
    refine rowsGo_cons (row_back w hn hm) ?_
    rw [b, if_pos rfl]
    show rowsGo ((lb ++ l).map rowText ++ rest) _ = some ((lb ++ l) ++ lr)
    rw [List.map_append, List.append_assoc, List.append_assoc]
    exact ihb (by omega) (l.map rowText ++ rest) (l ++ lr) (fun m hm' => ih h0 rest lr h m (by omega)) _ (Int.le_refl _)
theorem prog_flat {nm : List Str} {d : Int} {p : List PD} {l : List (Int × PD)} (fl : Flat nm d p l) : ∀ rest : List (Int × PD), (∀ e st r, rest = (e, st) :: r → e < d) → progC (l ++ rest) d = (p, rest) := by
  induction fl with
  | nil =>
    intro rest h
    cases rest with
    | nil => exact progC_nil _
    | cons q r =>
      obtain ⟨e, st⟩ := q
      exact progC_other (by have := h e st r rfl; omega)
  | @plain d st pr l w b _ ih =>
    intro rest h
    rw [List.cons_append, progC_plain b, ih rest h]
  | @block d st body pr lb l w b hb fl' ihb ih =>
    intro rest h
    rw [List.cons_append, List.append_assoc]
    have hin : progC (lb ++ (l ++ rest)) (d + 1) = (body, l ++ rest) := ihb (l ++ rest) (by
      intro e st' r he
      cases l with
      | nil => have := h e st' r he; omega
      | cons q l' =>
        rw [List.cons_append] at he
        injection he with he _
        cases fl' with
        | plain => injection he with he _; omega
        | block => injection he with he _; omega)
    rw [progC_block b, hin, ih rest h]
theorem named_back {nm : List Str} {st : PD} (h : WfSt nm st) : stepNamed nm st = true := by
  have k1 : inV (V.str "set") [V.str "set", V.str "look"] = true := by decide +kernel
  have k2 : inV (V.str "look") [V.str "set", V.str "look"] = true := by decide +kernel
  have k3 : inV (V.str "back") [V.str "set", V.str "look"] = false := by decide +kernel
  have k4 : inV (V.str "copy") [V.str "set", V.str "look"] = false := by decide +kernel
  have k5 : inV (V.str "pass") [V.str "set", V.str "look"] = false := by decide +kernel
  have k6 : inV (V.str "begin") [V.str "set", V.str "look"] = false := by decide +kernel
  have k7 : inV (V.str "late") [V.str "set", V.str "look"] = false := by decide +kernel
  have k8 : inV (V.str "in") [V.str "set", V.str "look"] = false := by decide +kernel
  cases h with
  | set h1 => unfold stepNamed; simp only [k1, if_true, inV_nm]; exact decide_eq_true h1
  | look h1 => unfold stepNamed; simp only [k2, if_true, inV_nm]; exact decide_eq_true h1
  | back => unfold stepNamed; simp [k3]
  | copy => unfold stepNamed; simp [k4]
  | pass_ => unfold stepNamed; simp [k5]
  | begin_ => unfold stepNamed; simp [k6]
  | late => unfold stepNamed; simp [k7]
  | inn => unfold stepNamed; simp [k8]
/-! settings and picks -/
theorem setting_back {d : PD} (h : WfSet d) : settingIn (setRow d) = d := by
  obtain ⟨n, v, rfl, hn, hv⟩ := h
  have sb : TL.tl ("setting " : Str) = TL.tl ("setting" : Str) ++ TL.tl (" " : Str) := by decide +kernel
  rcases hv with rfl | hv
  · have e : setRow (.tup [.str n, .non]) = ("setting" : Str) ++ (" " : Str) ++ n := TL.ext_tl (by
      show TL.tl (("setting " : Str) ++ n ++ ("" : Str)) = _
      rw [TL.tl_append, TL.tl_append, TL.tl_append, TL.tl_append, sb, tl_empty]; simp)
    rw [e]
    unfold settingIn
    simp only [part_app (a := "setting") (b := n) (by decide +kernel), part_none (name_free hn), hn]
    rw [if_neg (by decide +kernel), if_neg (by decide +kernel)]
  · have e : setRow (.tup [.str n, v]) = ("setting" : Str) ++ (" " : Str) ++ (n ++ (" " : Str) ++ writtenOf v) := TL.ext_tl (by
      rw [setRow_val hv]
      simp only [TL.tl_append, sb, List.append_assoc])
    rw [e]
    unfold settingIn
    simp only [part_app (a := "setting") (b := n ++ (" " : Str) ++ writtenOf v) (by decide +kernel), part_app (a := n) (b := writtenOf v) (name_free hn), hn, value_back hv]
    rw [if_neg (by decide +kernel), if_pos trivial]
    cases v with
    | int i => rfl
    | str i => rfl
    | _ => exact hv.elim
theorem weave_not (ps : List Int) : settingIn (weaveRow ps) = .non := by
  have hw : (Txt.partition (weaveRow ps) " ").1 = ("weave" : Str) := by
    unfold weaveRow
    cases ps with
    | nil => rw [List.map_nil, join_one, part_none (by decide +kernel)]
    | cons p r => rw [List.map_cons, join_cons, part_app (by decide +kernel)]
  unfold settingIn
  simp only [hw]
  rw [if_pos]
  rw [show decide (("weave" : Str) = ("setting" : Str)) = false by decide +kernel]; rfl
theorem settings_non {r : Str} {rs : List Str} (h : settingIn r = .non) : settingsIn (r :: rs) = [] := by
  show (match settingIn r with | .non => [] | d => d :: settingsIn rs) = _
  rw [h]
theorem settings_tup {r : Str} {rs : List Str} {l : List PD} (h : settingIn r = .tup l) : settingsIn (r :: rs) = .tup l :: settingsIn rs := by
  show (match settingIn r with | .non => [] | d => d :: settingsIn rs) = _
  rw [h]
theorem settings_back : ∀ (sets : List PD), (∀ d ∈ sets, WfSet d) → ∀ (ps : List Int) (rest : List Str), settingsIn (sets.map setRow ++ ([weaveRow ps] ++ rest)) = sets
  | [], _, ps, rest => settings_non (weave_not ps)
  | d :: r, h, ps, rest => by
    have hd := h d List.mem_cons_self
    have e := setting_back hd
    obtain ⟨n, v, rfl, _, _⟩ := hd
    rw [List.map_cons, List.cons_append, settings_tup e, settings_back r (fun d hd => h d (List.mem_cons_of_mem _ hd)) ps rest]
theorem all_some : ∀ (ps : List Int), (∀ p ∈ ps, 0 ≤ p ∧ p < 10000) → allSome ((ps.map fun i => Str.ofString (toString i)).map pickIn) = some ps
  | [], _ => rfl
  | p :: r, h => by
    rw [List.map_cons, List.map_cons, pick_back (h p List.mem_cons_self)]
    show (allSome _).map (p :: ·) = _
    rw [all_some r fun q hq => h q (List.mem_cons_of_mem _ hq)]; rfl
theorem num_free {i : Int} (h : 0 ≤ i ∧ i < 10000) : ¬ 32 ∈ TL.tl (Str.ofString (toString i)) := by
  obtain ⟨n, rfl⟩ := Int.eq_ofNat_of_zero_le h.1
  rw [TL.tl_num]
  exact TL.numL_free (by omega)
theorem picks_back {ps : List Int} (h : ∀ p ∈ ps, 0 ≤ p ∧ p < 10000) : picksIn (weaveRow ps) = some ps := by
  have e : Txt.split (weaveRow ps) " " = ("weave" : Str) :: ps.map fun i => Str.ofString (toString i) := by
    unfold weaveRow
    refine TL.split_join (s := 32) (S := []) tl_blank (by decide +kernel) (by simp) fun p hp => ?_
    rcases List.mem_cons.mp hp with rfl | hp
    · decide +kernel
    · obtain ⟨i, hi, rfl⟩ := List.mem_map.mp hp
      exact num_free (h i hi)
  unfold picksIn
  rw [e]
  simp only []
  rw [if_pos trivial]
  exact all_some ps h
/-! no row breaks -/
theorem plain_app {a b : Str} (h1 : Plain (TL.tl a)) (h2 : Plain (TL.tl b)) : Plain (TL.tl (a ++ b)) := by
  rw [TL.tl_append]; intro c hc
  rcases List.mem_append.mp hc with hc | hc
  · exact h1 c hc
  · exact h2 c hc
theorem plain_chk {a : Str} (h : (TL.tl a).all (fun c => decide (32 ≤ c) && decide (c ≤ 126)) = true) : Plain (TL.tl a) := fun c hc => by
  have := List.all_eq_true.mp h c hc
  simpa using this
theorem plain_join : ∀ (ws : List Str), (∀ w ∈ ws, Plain (TL.tl w)) → Plain (TL.tl (Txt.join " " ws))
  | [], _ => fun c hc => by rw [TL.join_eq, TL.tl_join] at hc; exact nomatch hc
  | [a], h => by rw [join_one]; exact h a List.mem_cons_self
  | a :: b :: r, h => by
    rw [join_cons]
    exact plain_app (plain_app (h a List.mem_cons_self) (plain_chk (by decide +kernel))) (plain_join (b :: r) fun w hw => h w (List.mem_cons_of_mem _ hw))
theorem plain_words {nm : List Str} {st : PD} (h : WfSt nm st) (hn : ∀ n ∈ nm, isName n = true) : ∀ w ∈ wordsOf st, Plain (TL.tl w) := by
  have two : ∀ (a b : Str), Plain (TL.tl a) → Plain (TL.tl b) → ∀ w ∈ [a, b], Plain (TL.tl w) := fun a b h1 h2 w hw => by
    rcases List.mem_cons.mp hw with rfl | hw
    · exact h1
    rcases List.mem_cons.mp hw with rfl | hw
    · exact h2
    exact nomatch hw
  have one : ∀ (a : Str), Plain (TL.tl a) → ∀ w ∈ [a], Plain (TL.tl w) := fun a h1 w hw => by
    rcases List.mem_cons.mp hw with rfl | hw
    · exact h1
    exact nomatch hw
  cases h with
  | @set n s v h1 h2 h3 =>
    intro w hw
    rcases List.mem_cons.mp hw with rfl | hw
    · exact plain_chk (by decide +kernel)
    rcases List.mem_cons.mp hw with rfl | hw
    · exact plain_name (hn _ h1)
    exact two _ _ (plain_written h3) (plain_name h2) w hw
  | look h1 => exact two _ _ (plain_chk (by decide +kernel)) (plain_name (hn _ h1))
  | back h1 => exact two _ _ (plain_chk (by decide +kernel)) (plain_name h1)
  | copy h1 => exact two _ _ (plain_chk (by decide +kernel)) (plain_name h1)
  | inn h1 => exact two _ _ (plain_chk (by decide +kernel)) (plain_name h1)
  | _ => exact one _ (plain_chk (by decide +kernel))
theorem plain_row {nm : List Str} {st : PD} {d : Int} (h : WfSt nm st) (hn : ∀ n ∈ nm, isName n = true) : Plain (TL.tl (rowText (d, st))) := by
  unfold rowText
  refine plain_app ?_ (plain_join _ (plain_words h hn))
  intro c hc
  rw [tl_mul, tl_blank] at hc
  obtain ⟨l, hl, hc⟩ := List.mem_flatten.mp hc
  rw [(List.mem_replicate.mp hl).2] at hc
  rcases List.mem_cons.mp hc with rfl | hc
  · omega
  · exact nomatch hc
theorem plain_set {d : PD} (h : WfSet d) : Plain (TL.tl (setRow d)) := by
  obtain ⟨n, v, rfl, hn, hv⟩ := h
  rcases hv with rfl | hv
  · exact plain_app (plain_app (plain_chk (by decide +kernel)) (plain_name hn)) (plain_chk (by decide +kernel))
  · rw [setRow_val hv]
    exact plain_app (plain_app (plain_chk (by decide +kernel)) (plain_name hn)) (plain_app (plain_chk (by decide +kernel)) (plain_written hv))
theorem plain_weave {ps : List Int} (h : ∀ p ∈ ps, 0 ≤ p ∧ p < 10000) : Plain (TL.tl (weaveRow ps)) := by
  refine plain_join _ fun w hw => ?_
  rcases List.mem_cons.mp hw with rfl | hw
  · exact plain_chk (by decide +kernel)
  · obtain ⟨i, hi, rfl⟩ := List.mem_map.mp hw
    obtain ⟨n, rfl⟩ := Int.eq_ofNat_of_zero_le (h i hi).1
    rw [TL.tl_num]
    exact plain_num n
section
variable {sets : List PD} {ps : List Int} {prog : List PD} {l : List (Int × PD)}
theorem rows_read (hn : ∀ n ∈ sets.map nameOf, isName n = true) (fl : Flat (sets.map nameOf) 0 prog l) (h6 : ∀ q ∈ l, q.1 ≤ 6) : rowsGo (l.map rowText) 0 = some l := by
  have := rows_flat hn fl (Int.le_refl _) [] [] (fun m _ => rfl) 0 (Int.le_refl _)
  rw [List.append_nil, List.append_nil] at this
  exact this
theorem nm_names (wf : WfSh sets ps prog) : ∀ n ∈ sets.map nameOf, isName n = true := by
  intro n hn
  obtain ⟨d, hd, rfl⟩ := List.mem_map.mp hn
  obtain ⟨n, v, rfl, h1, _⟩ := wf.wset d hd
  exact h1
theorem sheet_split (wf : WfSh sets ps prog) (fl : Flat (sets.map nameOf) 0 prog l) (h6 : ∀ q ∈ l, q.1 ≤ 6) : Txt.split (sheetText sets ps l) "\n" = textRows sets ps l := by
  refine TL.split_join (s := 10) (S := []) (by decide +kernel) (by decide +kernel) (by unfold textRows; simp) fun p hp => ?_
  have pl : Plain (TL.tl p) := by
    unfold textRows at hp
    rcases List.mem_append.mp hp with hp | hp
    · rcases List.mem_append.mp hp with hp | hp
      · obtain ⟨d, hd, rfl⟩ := List.mem_map.mp hp
        exact plain_set (wf.wset d hd)
      · rcases List.mem_cons.mp hp with rfl | hp
        · exact plain_weave wf.wpick
        · exact nomatch hp
    · obtain ⟨q, hq, rfl⟩ := List.mem_map.mp hp
      exact plain_row (st := q.2) (d := q.1) (fl.steps q hq).1 (nm_names wf)
  intro h
  have := pl 10 h
  omega
theorem sheet_reads (wf : WfSh sets ps prog) (fl : Flat (sets.map nameOf) 0 prog l) (h6 : ∀ q ∈ l, q.1 ≤ 6) : sheetFrom (sheetText sets ps l) = some (sets, ps, prog) := by
  have e1 : settingsIn (textRows sets ps l) = sets := by
    unfold textRows; rw [List.append_assoc]; exact settings_back sets wf.wset ps _
  have hd : (textRows sets ps l).drop sets.length = weaveRow ps :: l.map rowText := by
    unfold textRows
    rw [List.append_assoc, List.drop_left' (by rw [List.length_map])]; rfl
  have hp := prog_flat fl [] (fun e st r h => nomatch h)
  rw [List.append_nil] at hp
  have hnm : (l.all fun p => stepNamed (sets.map nameOf) p.2) = true := List.all_eq_true.mpr fun q hq => named_back (fl.steps q hq).1
  unfold sheetFrom
  simp only [sheet_split wf fl h6, e1, hd, picks_back wf.wpick, rows_read (nm_names wf) fl h6, hnm, hp, decide_eq_true wf.nd]
  rfl
end
end RS
set_option Elab.async false
set_option linter.all false
set_option maxRecDepth 100000
set_option maxHeartbeats 4000000

namespace RS
open PySem L2
def top (i : Nat) : Stmt := PySem.Challenge.pw_roadsettings_k72_sheets_read.main.body.getD i (.Pass ⟨0, 0, 0, 0⟩)
abbrev s_is_name : Stmt := top 6
abbrev s_is_number : Stmt := top 7
abbrev s_is_value : Stmt := top 8
abbrev s_number_in : Stmt := top 19
abbrev s_bare_in : Stmt := top 20
abbrev s_text_in : Stmt := top 21
abbrev s_value_in : Stmt := top 22
abbrev s_set_in : Stmt := top 23
abbrev s_step_in : Stmt := top 24
abbrev s_rows_read : Stmt := top 25
abbrev s_program_at : Stmt := top 26
abbrev s_setting_in : Stmt := top 31
abbrev s_pick_in : Stmt := top 32
abbrev s_picks_in : Stmt := top 33
abbrev s_settings_in : Stmt := top 34
abbrev s_look_settings : Stmt := top 35
abbrev s_look_names : Stmt := top 36
abbrev s_sheet_from : Stmt := top 37
abbrev s_law_cell_at : Stmt := top 39
abbrev s_law_box : Stmt := top 40
abbrev s_law_take : Stmt := top 41
abbrev s_law_names : Stmt := top 42
abbrev s_law_value : Stmt := top 43
abbrev s_law_called : Stmt := top 44
abbrev s_law_worth : Stmt := top 45
abbrev s_law_program : Stmt := top 46
abbrev s_law_written : Stmt := top 47
abbrev s_law_rows : Stmt := top 48
abbrev s_law_same : Stmt := top 49
abbrev s_law_drawn : Stmt := top 50
abbrev s_law_sheet_text : Stmt := top 51
abbrev s_law : Stmt := top 52
structure TX (K : PySem.W.Frag) (mg : Str → Option Value) where
  z_len : mg "len" = none
  z_all : mg "all" = none
  z_abs : mg "abs" = none
  z_divmod : mg "divmod" = none
  z_isinstance : mg "isinstance" = none
  z_int : mg "int" = none
  z_str : mg "str" = none
  z_list : mg "list" = none
  z_tuple : mg "tuple" = none
  z_bool : mg "bool" = none
  z_set : mg "set" = none
  z_range : mg "range" = none
  z_enumerate : mg "enumerate" = none
  z_zip : mg "zip" = none
  z_max : mg "max" = none
  z_min : mg "min" = none
  k_ALONE : { a : Addr // mg "ALONE" = some (.ref a) ∧ ∀ H : Hp, SqT K H a [(.str "begin"), (.str "late"), (.str "pass")] }
  k_BLOCKS : { a : Addr // mg "BLOCKS" = some (.ref a) ∧ ∀ H : Hp, SqT K H a [(.str "begin"), (.str "late"), (.str "in")] }
  k_FIGURES : { t : Tok // mg "FIGURES" = some (.str "0123456789" t) }
  k_INSET : { t : Tok // mg "INSET" = some (.str "  " t) }
  k_LETTERS : { t : Tok // mg "LETTERS" = some (.str "abcdefghijklmnopqrstuvwxyz" t) }
  k_MOST_FIGURES_sheet : { t : Tok // mg "MOST_FIGURES_sheet" = some (.int 4 t) }
  k_MOST_FIGURES_texts : { t : Tok // mg "MOST_FIGURES_texts" = some (.int 30 t) }
  k_MOST_LETTERS : { t : Tok // mg "MOST_LETTERS" = some (.int 8 t) }
  k_MOST_SIGNS : { t : Tok // mg "MOST_SIGNS" = some (.int 40 t) }
  k_QUOTE : { t : Tok // mg "QUOTE" = some (.str "'" t) }
  k_SETTING : { t : Tok // mg "SETTING" = some (.str "setting" t) }
  k_STROKE : { t : Tok // mg "STROKE" = some (.str "\\" t) }
  k_WEAVE : { t : Tok // mg "WEAVE" = some (.str "weave" t) }
  k_WITH_NAME : { a : Addr // mg "WITH_NAME" = some (.ref a) ∧ ∀ H : Hp, SqT K H a [(.str "look"), (.str "back"), (.str "copy"), (.str "in")] }
  d_is_name : FnT K mg "is_name" "is_name" s_is_name ["thing"]
  d_is_number : FnT K mg "is_number" "is_number" s_is_number ["thing"]
  d_is_value : FnT K mg "is_value" "is_value" s_is_value ["thing"]
  d_number_in : FnT K mg "number_in" "number_in" s_number_in ["word"]
  d_bare_in : FnT K mg "bare_in" "bare_in" s_bare_in ["quoted"]
  d_text_in : FnT K mg "text_in" "text_in" s_text_in ["word"]
  d_value_in : FnT K mg "value_in" "value_in" s_value_in ["word"]
  d_set_in : FnT K mg "set_in" "set_in" s_set_in ["rest"]
  d_step_in : FnT K mg "step_in" "step_in" s_step_in ["row"]
  d_rows_read : FnT K mg "rows_read" "rows_read" s_rows_read ["rows", "first"]
  d_program_at : FnT K mg "program_at" "program_at" s_program_at ["found", "at", "depth"]
  d_setting_in : FnT K mg "setting_in" "setting_in" s_setting_in ["row"]
  d_pick_in : FnT K mg "pick_in" "pick_in" s_pick_in ["word"]
  d_picks_in : FnT K mg "picks_in" "picks_in" s_picks_in ["row"]
  d_settings_in : FnT K mg "settings_in" "settings_in" s_settings_in ["rows"]
  d_look_settings : FnT K mg "look_settings" "look_settings" s_look_settings ["settings"]
  d_look_names : FnT K mg "look_names" "look_names" s_look_names ["settings", "steps", "first"]
  d_sheet_from : FnT K mg "sheet_from" "sheet_from" s_sheet_from ["text"]
  d_law_cell_at : FnT K mg "_law_cell_at" "_law_cell_at" s_law_cell_at ["_law_script", "_law_k"]
  d_law_box : FnT K mg "_law_box" "_law_box" s_law_box ["_law_script", "_law_k"]
  d_law_take : FnT K mg "_law_take" "_law_take" s_law_take ["_law_box_here", "_law_many"]
  d_law_names : FnT K mg "_law_names" "_law_names" s_law_names ["_law_box_here", "_law_many"]
  d_law_value : FnT K mg "_law_value" "_law_value" s_law_value ["_law_box_here"]
  d_law_called : FnT K mg "_law_called" "_law_called" s_law_called ["_law_box_here", "_law_many"]
  d_law_worth : FnT K mg "_law_worth" "_law_worth" s_law_worth ["_law_box_here"]
  d_law_program : FnT K mg "_law_program" "_law_program" s_law_program ["_law_box_here", "_law_names_here", "_law_slots", "_law_many", "_law_blocks"]
  d_law_written : FnT K mg "_law_written" "_law_written" s_law_written ["_law_value_here"]
  d_law_rows : FnT K mg "_law_rows" "_law_rows" s_law_rows ["_law_program_here", "_law_blanks"]
  d_law_same : FnT K mg "_law_same" "_law_same" s_law_same ["_law_found", "_law_due"]
  d_law_drawn : FnT K mg "_law_drawn" "_law_drawn" s_law_drawn ["_law_box_here", "_law_most", "_law_picks", "_law_steps", "_law_blocks"]
  d_law_sheet_text : FnT K mg "_law_sheet_text" "_law_sheet_text" s_law_sheet_text ["_law_settings", "_law_picks", "_law_program_here"]
end RS
set_option Elab.async false
set_option linter.all false
set_option maxRecDepth 100000
set_option maxHeartbeats 4000000

namespace RS
open PySem L2
/-! steps by their heads -/
local macro_rules | `(tactic| walk_at "fr") => `(tactic| first
  | assumption
  | exact SqL.of (by assumption)
  | exact SqT.of (by assumption)
  | exact Or.inl (by assumption)
  | exact Or.inr (by assumption)
  | (refine Gr.get (by assumption) ?_ (by walk_at "nin"); walk_at "fr")
  | (refine Gr.tup (by assumption) _ _ ?_; walk_at "fr")
  | (refine SqL.of ?_; walk_at "fr1")
  | (refine SqT.of ?_; walk_at "fr1")
  | (refine Gr.sqL (by assumption) ?_ (by walk_at "nin"); walk_at "fr")
  | (refine Gr.sqT (by assumption) ?_ (by walk_at "nin"); walk_at "fr")
  | (refine Gr.rep0 (by assumption) ?_; walk_at "fr")
  | (refine Gr.reps0 (by assumption) ?_; walk_at "fr"))
local macro_rules | `(tactic| walk_at "fr1") => `(tactic| first
  | assumption
  | (refine Gr.tup (by assumption) _ _ ?_; walk_at "fr1")
  | (refine Gr.get (by assumption) ?_ (by walk_at "nin"); walk_at "fr1"))
local macro_rules | `(tactic| walk_at "nin") => `(tactic| first
  | exact nin_nil
  | assumption
  | (refine nin_one ?_; walk_at "ne"))
local macro_rules | `(tactic| walk_at "ne") => `(tactic| first
  | assumption
  | exact Ne.symm (by assumption)
  | exact ne_new (by assumption) (by assumption)
  | exact Ne.symm (ne_new (by assumption) (by assumption)))
local macro_rules | `(tactic| walk_at "sz") => `(tactic| first
  | assumption
  | omega
  | (simp only [List.length_cons, List.length_nil, List.length_append, List.length_map, CDiv, CDivN, CMul]; omega)
  | decide)
local macro_rules | `(tactic| walk_at "i1") => `(tactic| first
  | ((with_reducible refine' isi_L_list ?vh ?_); (case vh => walk_at "fr"))
  | ((with_reducible refine' isi_T_list ?vh ?_); (case vh => walk_at "fr"))
  | ((with_reducible refine' isi_L_tuple ?vh ?_); (case vh => walk_at "fr"))
  | ((with_reducible refine' isi_T_tuple ?vh ?_); (case vh => walk_at "fr"))
  | ((with_reducible refine' isi_L_str ?vh ?_); (case vh => walk_at "fr"))
  | ((with_reducible refine' isi_T_str ?vh ?_); (case vh => walk_at "fr"))
  | ((with_reducible refine' isi_L_int ?vh ?_); (case vh => walk_at "fr"))
  | ((with_reducible refine' isi_T_int ?vh ?_); (case vh => walk_at "fr"))
  | ((with_reducible refine' isi_L_bool ?vh ?_); (case vh => walk_at "fr"))
  | ((with_reducible refine' isi_T_bool ?vh ?_); (case vh => walk_at "fr")))
local macro_rules | `(tactic| walk_at "s") => `(tactic| repeat (first
  | with_reducible refine Stp.h ?_
  | (with_reducible refine szc ?_ ?_; walk_at "sz")
  | ((with_reducible refine' w_kTyL ?vh ?_); (case vh => walk_at "fr"))
  | ((with_reducible refine' w_lenL ?vh ?_); (case vh => walk_at "fr"))
  | ((with_reducible refine' w_lenT ?vh ?_); (case vh => walk_at "fr"))))
local macro_rules | `(tactic| walk_at "gr") => `(tactic| first
  | exact Gr.refl _ _
  | assumption
  | exact Gr.wide (by assumption)
  | (refine Gr.trans ?_ (by assumption); walk_at "gr")
  | (refine Gr.trans ?_ (Gr.wide (by assumption)); walk_at "gr"))
local macro_rules | `(tactic| walk_at "s2") => `(tactic| (with_reducible refine Stp.h ?_; with_reducible refine Stp.h ?_))

section
variable {P : Program} {w : World} {K : PySem.W.Frag} {mg : Str → Option Value} {base : Heap}
theorem sc_is_name : FnScope ["thing", "sign"] ["thing"] (defScope s_is_name) := ⟨rfl, rfl, rfl, by decide +kernel, rfl, by decide +kernel, by decide +kernel⟩
theorem ok_is_name (T : TX K mg) : FnOk P w K mg base CX0 1 T.d_is_name.a T.d_is_name.d ["thing"] (spD (one fun z => .bl (isName z))) := by
  refine T.d_is_name.F.ok sc_is_name (fun vs H Q E h => one_len h) (fun cdv A outer s H vs Q E hr h => ?_)
  obtain ⟨d, h, k⟩ := h
  obtain ⟨z, rfl, hz, rfl⟩ := one_open h
  refine ⟨_, (pss_cons (ps_if (PW.pt (pw_or (pt_not (pt_val (pe_callB (call_isiK' (K := K) rfl) (by rfl) T.z_isinstance bt_isinstance (pa_cons (pv 0) (pa_cons (pe_bltn (v := .ty "str") (by rfl) T.z_str bt_str rfl) pa_nil))))) (pw_or1 (pt_not (pt_chain op_leA op_leA pe_int (pe_callB (call_lenK (K := K) rfl) (by rfl) T.z_len bt_len (pa_cons (pv 0) pa_nil)) (pe_glob (v := (.int 8)) (by rfl) T.k_MOST_LETTERS.2 ⟨_, rfl⟩))))))
    (pss_one (ps_ret pe_bl))
    pss_nil)
  (pss_one (ps_ret (pe_callB (cr_allK (K := K) rfl rfl) (by rfl) T.z_all bt_all (pa_cons (pe_lc (own := [("sign", 1)]) rfl sc_is_name.nd (pi_anyK (K := K) rfl (pv 0)) (blkOk_by (N := ["thing", "sign"]) (sc := defScope s_is_name) (own := [("sign", 1)]) (by decide +kernel)) (fun _ _ _ _ _ => (pg_name (i := 1) sc_is_name.nd rfl (Or.inl rfl))) (fun _ _ _ _ _ => pts_nil) (fun _ _ _ _ _ => (pe_cmpR (op_inK (K := K) rfl) (pv 1) (pe_glob (v := (.str "abcdefghijklmnopqrstuvwxyz")) (by rfl) T.k_LETTERS.2 ⟨_, rfl⟩) (by rfl)))) pa_nil))))), ?_⟩
  refine at_start [some (.str z), none] rfl ?_
  walk_at "s"
  refine iteB (fun h1 => ?_) (fun h1 => ?_)
  · walk_at "s"
    refine iteB (fun h2 => ?_) (fun h2 => ?_)
    · walk_at "s"
      exact k _ _ (by walk_at "gr") (rep_bl (by simp only [isName, h1]; simp at h2; simp; omega))
    · walk_at "s"
      refine w_iS' ?_
      walk_at "s"
      refine lc_signs [some (.str z), none] rfl (fun c => .bl (decide (c ∈ LETS.cps.toList))) (by omega) (fun c H1 hc g1 R A kA => ?_) (fun D H1 g1 hD e => ?_)
      · walk_at "s"
        refine ⟨rfl, ?_⟩
        walk_at "s"
        exact kA _ (Gr.refl _ _)
      · walk_at "s"
        refine w_all (bs := z.cps.toList.map fun c => decide (c ∈ LETS.cps.toList)) (SqL.of (by rw [e, List.map_map]; rfl)) ?_
        walk_at "s"
        exact k _ _ (by walk_at "gr") (rep_bl (by simp only [isName, h1]; simp at h2; simp [h2]))
  · walk_at "s"
    exact k _ _ (by walk_at "gr") (rep_bl (by simp only [isName, h1]; rfl))
theorem sc_is_number : FnScope ["thing"] ["thing"] (defScope s_is_number) := ⟨rfl, rfl, rfl, by decide +kernel, rfl, by decide +kernel, by decide +kernel⟩
def numF : List V → Option PD
  | [.int _] => some (.bl true)
  | [.bl _] => some (.bl false)
  | [.str _] => some (.bl false)
  | [.non] => some (.bl false)
  | _ => none
theorem ok_is_number (T : TX K mg) : FnOk P w K mg base CX0 1 T.d_is_number.a T.d_is_number.d ["thing"] (spD numF) := by
  refine T.d_is_number.F.ok sc_is_number (fun vs H Q E h => ?_) (fun cdv A outer s H vs Q E hr h => ?_)
  · obtain ⟨d, h, _⟩ := h
    unfold numF at h
    split at h <;> first | rfl | cases h
  obtain ⟨d, h, k⟩ := h
  refine ⟨_, (pss_one (ps_ret (pe_and (pe_callB (call_isiK' (K := K) rfl) (by rfl) T.z_isinstance bt_isinstance (pa_cons (pv 0) (pa_cons (pe_bltn (v := .ty "int") (by rfl) T.z_int bt_int rfl) pa_nil))) (pe_one (pe_not (pe_callB (call_isiK' (K := K) rfl) (by rfl) T.z_isinstance bt_isinstance (pa_cons (pv 0) (pa_cons (pe_bltn (v := .ty "bool") (by rfl) T.z_bool bt_bool rfl) pa_nil)))))))), ?_⟩
  unfold numF at h
  split at h <;> cases h
  · refine at_start [some (.int _)] rfl ?_
    walk_at "s"; exact k _ _ (by walk_at "gr") (rep_bl rfl)
  · refine at_start [some (.bl _)] rfl ?_
    walk_at "s"; exact k _ _ (by walk_at "gr") (rep_bl rfl)
  · refine at_start [some (.str _)] rfl ?_
    walk_at "s"; exact k _ _ (by walk_at "gr") (rep_bl rfl)
  · refine at_start [some (.non)] rfl ?_
    walk_at "s"; exact k _ _ (by walk_at "gr") (rep_bl rfl)
theorem sc_is_value : FnScope ["thing", "sign"] ["thing"] (defScope s_is_value) := ⟨rfl, rfl, rfl, by decide +kernel, rfl, by decide +kernel, by decide +kernel⟩
theorem ok_is_value (T : TX K mg) : FnOk P w K mg base CX0 2 T.d_is_value.a T.d_is_value.d ["thing"] (spD (one fun z => .bl (isVal z))) := by
  refine T.d_is_value.F.ok sc_is_value (fun vs H Q E h => one_len h) (fun cdv A outer s H vs Q E hr h => ?_)
  obtain ⟨d, h, k⟩ := h
  obtain ⟨z, rfl, hz, rfl⟩ := one_open h
  refine ⟨_, (pss_cons (ps_if (pt_val (pe_callB (call_isiK' (K := K) rfl) (by rfl) T.z_isinstance bt_isinstance (pa_cons (pv 0) (pa_cons (pe_bltn (v := .ty "str") (by rfl) T.z_str bt_str rfl) pa_nil))))
    (pss_one (ps_ret (pe_callB (cr_allK (K := K) rfl rfl) (by rfl) T.z_all bt_all (pa_cons (pe_lc (own := [("sign", 1)]) rfl sc_is_value.nd (pi_anyK (K := K) rfl (pv 0)) (blkOk_by (N := ["thing", "sign"]) (sc := defScope s_is_value) (own := [("sign", 1)]) (by decide +kernel)) (fun _ _ _ _ _ => (pg_name (i := 1) sc_is_value.nd rfl (Or.inl rfl))) (fun _ _ _ _ _ => pts_nil) (fun _ _ _ _ _ => (pe_chain op_leA op_leA pe_str (pv 1) pe_str))) pa_nil))))
    pss_nil)
  (pss_one (ps_ret (pe_call (ok_is_number T) (hr.mono (by decide)) (by rfl) T.d_is_number.g T.d_is_number.F.kp T.d_is_number.b .nil pass0 (pa_cons (pv 0) pa_nil))))), ?_⟩
  refine at_start [some (.str z), none] rfl ?_
  walk_at "s"
  refine w_iS' ?_
  walk_at "s"
  refine lc_signs [some (.str z), none] rfl (fun c => .bl (!decide ([c] < [32]) && !decide ([126] < [c]))) (by omega) (fun c H1 hc g1 R A kA => ?_) (fun D H1 g1 hD e => ?_)
  · walk_at "s"
    refine ⟨rfl, ?_⟩
    walk_at "s"
    refine iteB (fun h1 => ?_) (fun h1 => ?_)
    · walk_at "s"
      refine Qv ?_ (kA _ (Gr.refl _ _))
      have h1' : (!decide ([c] < [32])) = true := h1
      rw [h1']; rfl
    · walk_at "s"
      refine Qv ?_ (kA _ (Gr.refl _ _))
      have h1' : (!decide ([c] < [32])) = false := h1
      rw [h1']; rfl
  · walk_at "s"
    refine w_all (bs := z.cps.toList.map fun c => (!decide ([c] < [32]) && !decide ([126] < [c]))) (SqL.of (by rw [e, List.map_map]; rfl)) ?_
    walk_at "s"
    exact k _ _ (by walk_at "gr") (rep_bl rfl)
end
end RS
set_option Elab.async false
set_option linter.all false
set_option maxRecDepth 100000
set_option maxHeartbeats 4000000

namespace RS
open PySem L2
/-! steps by their heads -/
local macro_rules | `(tactic| walk_at "fr") => `(tactic| first
  | assumption
  | exact SqL.of (by assumption)
  | exact SqT.of (by assumption)
  | exact Or.inl (by assumption)
  | exact Or.inr (by assumption)
  | (refine Gr.get (by assumption) ?_ (by walk_at "nin"); walk_at "fr")
  | (refine Gr.tup (by assumption) _ _ ?_; walk_at "fr")
  | (refine SqL.of ?_; walk_at "fr1")
  | (refine SqT.of ?_; walk_at "fr1")
  | (refine Gr.sqL (by assumption) ?_ (by walk_at "nin"); walk_at "fr")
  | (refine Gr.sqT (by assumption) ?_ (by walk_at "nin"); walk_at "fr")
  | (refine Gr.rep0 (by assumption) ?_; walk_at "fr")
  | (refine Gr.reps0 (by assumption) ?_; walk_at "fr"))
local macro_rules | `(tactic| walk_at "fr1") => `(tactic| first
  | assumption
  | (refine Gr.tup (by assumption) _ _ ?_; walk_at "fr1")
  | (refine Gr.get (by assumption) ?_ (by walk_at "nin"); walk_at "fr1"))
local macro_rules | `(tactic| walk_at "nin") => `(tactic| first
  | exact nin_nil
  | assumption
  | (refine nin_one ?_; walk_at "ne"))
local macro_rules | `(tactic| walk_at "ne") => `(tactic| first
  | assumption
  | exact Ne.symm (by assumption)
  | exact ne_new (by assumption) (by assumption)
  | exact Ne.symm (ne_new (by assumption) (by assumption)))
local macro_rules | `(tactic| walk_at "sz") => `(tactic| first
  | assumption
  | omega
  | (simp only [List.length_cons, List.length_nil, List.length_append, List.length_map, CDiv, CDivN, CMul]; omega)
  | decide)
local macro_rules | `(tactic| walk_at "i1") => `(tactic| first
  | ((with_reducible refine' isi_L_list ?vh ?_); (case vh => walk_at "fr"))
  | ((with_reducible refine' isi_T_list ?vh ?_); (case vh => walk_at "fr"))
  | ((with_reducible refine' isi_L_tuple ?vh ?_); (case vh => walk_at "fr"))
  | ((with_reducible refine' isi_T_tuple ?vh ?_); (case vh => walk_at "fr"))
  | ((with_reducible refine' isi_L_str ?vh ?_); (case vh => walk_at "fr"))
  | ((with_reducible refine' isi_T_str ?vh ?_); (case vh => walk_at "fr"))
  | ((with_reducible refine' isi_L_int ?vh ?_); (case vh => walk_at "fr"))
  | ((with_reducible refine' isi_T_int ?vh ?_); (case vh => walk_at "fr"))
  | ((with_reducible refine' isi_L_bool ?vh ?_); (case vh => walk_at "fr"))
  | ((with_reducible refine' isi_T_bool ?vh ?_); (case vh => walk_at "fr")))
local macro_rules | `(tactic| walk_at "s") => `(tactic| repeat (first
  | with_reducible refine Stp.h ?_
  | (with_reducible refine szc ?_ ?_; walk_at "sz")
  | ((with_reducible refine' w_kTyL ?vh ?_); (case vh => walk_at "fr"))
  | ((with_reducible refine' w_lenL ?vh ?_); (case vh => walk_at "fr"))
  | ((with_reducible refine' w_lenT ?vh ?_); (case vh => walk_at "fr"))))
local macro_rules | `(tactic| walk_at "gr") => `(tactic| first
  | exact Gr.refl _ _
  | assumption
  | exact Gr.wide (by assumption)
  | (refine Gr.trans ?_ (by assumption); walk_at "gr")
  | (refine Gr.trans ?_ (Gr.wide (by assumption)); walk_at "gr"))
local macro_rules | `(tactic| walk_at "s2") => `(tactic| (with_reducible refine Stp.h ?_; with_reducible refine Stp.h ?_))

section
variable {P : Program} {w : World} {K : PySem.W.Frag} {mg : Str → Option Value} {base : Heap}
theorem sc_number_in : FnScope ["word", "figures", "sign"] ["word"] (defScope s_number_in) := ⟨rfl, rfl, rfl, by decide +kernel, rfl, by decide +kernel, by decide +kernel⟩
theorem ok_number_in (T : TX K mg) : FnOk P w K mg base CX0 1 T.d_number_in.a T.d_number_in.d ["word"] (spD (one fun z => optI (numberIn z))) := by
  refine T.d_number_in.F.ok sc_number_in (fun vs H Q E h => one_len h) (fun cdv A outer s H vs Q E hr h => ?_)
  obtain ⟨d, h, k⟩ := h
  obtain ⟨z, rfl, hz, rfl⟩ := one_open h
  refine ⟨_, (pss_cons (ps_set (i := 1) sc_number_in.nd rfl (Or.inl rfl) (pe_ifExp (pt_val (pe_m1 PySem.F.slot_str_startswith PySem.F.type_str_startswith mt_startsA (pv 0) pe_str)) (pe_slice (sl_anyK (K := K) rfl) (pv 0) (po_some pe_int) po_none) (pv 0)))
  (pss_cons (ps_if (PW.pt (pw_or (pt_not (pt_chain op_leA op_leA pe_int (pe_callB (call_lenK (K := K) rfl) (by rfl) T.z_len bt_len (pa_cons (pv 1) pa_nil)) (pe_glob (v := (.int 30)) (by rfl) T.k_MOST_FIGURES_texts.2 ⟨_, rfl⟩))) (pw_or1 (pt_not (pt_val (pe_callB (cr_allK (K := K) rfl rfl) (by rfl) T.z_all bt_all (pa_cons (pe_lc (own := [("sign", 2)]) rfl sc_number_in.nd (pi_anyK (K := K) rfl (pv 1)) (blkOk_by (N := ["word", "figures", "sign"]) (sc := defScope s_number_in) (own := [("sign", 2)]) (by decide +kernel)) (fun _ _ _ _ _ => (pg_name (i := 2) sc_number_in.nd rfl (Or.inl rfl))) (fun _ _ _ _ _ => pts_nil) (fun _ _ _ _ _ => (pe_cmpR (op_inK (K := K) rfl) (pv 2) (pe_glob (v := (.str "0123456789")) (by rfl) T.k_FIGURES.2 ⟨_, rfl⟩) (by rfl)))) pa_nil)))))))
    (pss_one (ps_ret pe_non))
    pss_nil)
  (pss_cons (ps_if (PW.pt (pw_and (pt_cmpR (op_eqK (K := K) rfl (hu64 hr)) (pe_ix (ix_anyK (K := K) rfl) (pv 1) pe_int (fun _ _ => rfl)) pe_str (nomark _)) (pw_and1 (pt_cmpR (op_neK (K := K) rfl (hu64 hr)) (pv 0) pe_str (nomark _)))))
    (pss_one (ps_ret pe_non))
    pss_nil)
  (pss_one (ps_ret (pe_callTy call_intA (by rfl) T.z_int bt_int (pa_cons (pv 0) pa_nil))))))), ?_⟩
  refine at_start [some (.str z), none, none] rfl ?_
  have hf : (figsOf z).length ≤ z.length := by unfold figsOf; split; exact cutS_len _ _ _; exact Nat.le_refl _
  walk_at "s2"
  refine (if_join (c := Txt.startswith z "-") (v := .str (figsOf z)) (fun QB q => ?_) (fun e Q' q => ?_) (fun e Q' q => ?_) ?_)
  · walk_at "s"; exact q
  · walk_at "s"
    refine Qv ?_ q
    unfold figsOf; rw [if_pos e]
  · walk_at "s"
    refine Qv ?_ q
    unfold figsOf; rw [if_neg (by rw [e]; exact Bool.false_ne_true)]
  walk_at "s"
  have stop : figsOk (figsOf z) 30 = false → numberIn z = none := fun e => by unfold numberIn; rw [e]; rfl
  refine iteB (fun h1 => ?_) (fun h1 => ?_)
  · walk_at "s"
    refine iteB (fun h2 => ?_) (fun h2 => ?_)
    · walk_at "s"
      refine k _ _ (by walk_at "gr") ?_
      rw [stop (by simp only [figsOk, h1]; simp at h2; simp; omega)]; exact rep_non
    · walk_at "s"
      refine w_iS' ?_
      walk_at "s"
      refine lc_signs [some (.str z), some (.str (figsOf z)), none] rfl (fun c => .bl (decide (c ∈ FIGS.cps.toList))) (by omega) (fun c H1 hc g1 R A kA => ?_) (fun D H1 g1 hD e => ?_)
      · walk_at "s"
        refine ⟨rfl, ?_⟩
        walk_at "s"
        exact kA _ (Gr.refl _ _)
      · walk_at "s"
        refine w_all (bs := (figsOf z).cps.toList.map fun c => decide (c ∈ FIGS.cps.toList)) (SqL.of (by rw [e, List.map_map]; rfl)) ?_
        walk_at "s"
        have eo : figsOk (figsOf z) 30 = ((figsOf z).cps.toList.map fun c => decide (c ∈ FIGS.cps.toList)).all id := by simp only [figsOk, h1]; simp at h2; simp [h2]
        refine iteB (fun h3 => ?_) (fun h3 => ?_)
        · walk_at "s"
          refine k _ _ (by walk_at "gr") ?_
          rw [stop (by rw [eo]; simpa using h3)]; exact rep_non
        · have ok : figsOk (figsOf z) 30 = true := by rw [eo]; simpa using h3
          obtain ⟨hd, hn, _⟩ := figs_digits ok
          cases hl : (figsOf z).cps.toList with
          | nil => exact absurd hl hn
          | cons c r =>
            walk_at "s"
            refine w_ixS (by omega) (atI_zero hl) ?_
            walk_at "s"
            have l0 : lead0 (figsOf z) = decide (c = 48) := by unfold lead0; rw [hl]
            have c0 : decide ((V.str ⟨#[c]⟩ : V) = V.str "0") = decide (c = 48) := by
              have : ((V.str ⟨#[c]⟩ : V) = V.str "0") ↔ c = 48 := by
                constructor
                · intro h
                  injection h with h
                  have := congrArg (fun s : Str => s.cps.toList) h
                  have e0 : ("0" : Str).cps.toList = [48] := by decide +kernel
                  rw [e0] at this
                  simpa using this
                · intro h
                  subst h
                  exact congrArg V.str (by decide +kernel)
              simp only [this]
            have z0 : decide ((V.str z : V) = V.str "0") = decide (z = ("0" : Str)) := by simp only [V.str.injEq]
            have num : ∀ b : Bool, (lead0 (figsOf z) && !decide (z = ("0" : Str))) = b → numberIn z = if b then none else some (numVal z) := by
              intro b hb; unfold numberIn; rw [ok, hb]; cases b <;> rfl
            refine iteB (fun h4 => ?_) (fun h4 => ?_)
            · walk_at "s"
              refine iteB (fun h5 => ?_) (fun h5 => ?_)
              · walk_at "s"
                refine k _ _ (by walk_at "gr") ?_
                rw [num true (by rw [l0, ← c0, h4, ← z0]; exact h5)]; exact rep_non
              · walk_at "s"
                refine w_intS (number_reads ok).1 (number_reads ok).2 ?_
                walk_at "s"
                refine k _ _ (by walk_at "gr") ?_
                rw [num false (by rw [l0, ← c0, h4, ← z0]; exact h5)]; exact rep_int rfl
            · walk_at "s"
              refine w_intS (number_reads ok).1 (number_reads ok).2 ?_
              walk_at "s"
              refine k _ _ (by walk_at "gr") ?_
              rw [num false (by rw [l0, ← c0, h4]; rfl)]; exact rep_int rfl
  · walk_at "s"
    refine k _ _ (by walk_at "gr") ?_
    rw [stop (by simp only [figsOk, h1]; rfl)]; exact rep_non
theorem sc_bare_in : FnScope ["quoted", "found", "held", "sign"] ["quoted"] (defScope s_bare_in) := ⟨rfl, rfl, rfl, by decide +kernel, rfl, by decide +kernel, by decide +kernel⟩
theorem ok_bare_in (T : TX K mg) : FnOk P w K mg base CX0 1 T.d_bare_in.a T.d_bare_in.d ["quoted"] (spD (one fun z => optS (bareIn z))) := by
  refine T.d_bare_in.F.ok sc_bare_in (fun vs H Q E h => one_len h) (fun cdv A outer s H vs Q E hr h => ?_)
  obtain ⟨d, h, k⟩ := h
  obtain ⟨z, rfl, hz, rfl⟩ := one_open h
  refine ⟨_, (pss_cons (ps_set (i := 1) sc_bare_in.nd rfl (Or.inl rfl) pe_str)
  (pss_cons (ps_set (i := 2) sc_bare_in.nd rfl (Or.inl rfl) pe_bl)
  (pss_cons (ps_for PassesOwn.never rfl (pi_anyK (K := K) rfl (pv 0)) (pg_name (i := 3) sc_bare_in.nd rfl (Or.inl rfl))
    (pss_one (ps_if (PW.pt (pw_or (pt_val (pv 2)) (pw_or1 (pt_cmpR (op_ninK (K := K) rfl) (pv 3) (pe_tup (pa_cons (pe_glob (v := (.str "'")) (by rfl) T.k_QUOTE.2 ⟨_, rfl⟩) (pa_cons (pe_glob (v := (.str "\\")) (by rfl) T.k_STROKE.2 ⟨_, rfl⟩) pa_nil))) (by rfl)))))
    (pss_cons (ps_if (PW.pt (pw_and (pt_val (pv 2)) (pw_and1 (pt_cmpR (op_ninK (K := K) rfl) (pv 3) (pe_tup (pa_cons (pe_glob (v := (.str "'")) (by rfl) T.k_QUOTE.2 ⟨_, rfl⟩) (pa_cons (pe_glob (v := (.str "\\")) (by rfl) T.k_STROKE.2 ⟨_, rfl⟩) pa_nil))) (by rfl)))))
    (pss_one (ps_ret pe_non))
    pss_nil)
  (pss_cons (ps_aug (i := 1) sc_bare_in.nd rfl (Or.inl rfl) (pv 3) ip_addA)
  (pss_one (ps_set (i := 2) sc_bare_in.nd rfl (Or.inl rfl) pe_bl))))
    (pss_one (ps_if (pt_cmpR (op_eqK (K := K) rfl (hu64 hr)) (pv 3) (pe_glob (v := (.str "\\")) (by rfl) T.k_STROKE.2 ⟨_, rfl⟩) (nomark _))
    (pss_one (ps_set (i := 2) sc_bare_in.nd rfl (Or.inl rfl) pe_bl))
    (pss_one (ps_ret pe_non)))))))
  (pss_one (ps_ret (pe_ifExp (pt_val (pv 2)) pe_non (pv 1))))))), ?_⟩
  refine at_start [some (.str z), none, none, none] rfl ?_
  walk_at "s"
  refine w_iS' ?_
  walk_at "s"
  refine for_it walk_strE (fun i σ H' => ∃ f held sv, σ = [some (.str z), some (.str f), some (.bl held), sv] ∧ Gr [] H H' ∧ f.length ≤ i ∧ i ≤ z.cps.toList.length ∧ bareGo (z.cps.toList.drop i) f held = bareIn z) ?_ (fun _ _ _ _ _ => trivial) ?_ ?_
  · exact ⟨"", false, none, rfl, Gr.refl _ _, by decide, Nat.zero_le _, rfl⟩
  · rintro i x σ H1 H1' hi ⟨f, held, sv, rfl, g1, hl, hi2, e⟩ ⟨rfl, hx⟩
    simp only [signs, List.getElem?_map, Option.map_eq_some_iff] at hx
    obtain ⟨c, hc, rfl⟩ := hx
    have hlt : i < z.cps.toList.length := (List.getElem?_eq_some_iff.mp hc).1
    have hd : z.cps.toList.drop i = c :: z.cps.toList.drop (i + 1) := by
      rw [List.drop_eq_getElem_cons hlt]
      exact congrArg (· :: _) (List.getElem?_eq_some_iff.mp hc).2
    rw [hd] at e
    have hzl : z.length = z.cps.toList.length := by simp [Str.length]
    have l1 : (⟨#[c]⟩ : Str).length = 1 := rfl
    have hq : inV (.str ⟨#[c]⟩) [.str "'", .str "\\"] = (decide (c = 39) || decide (c = 92)) := inv_q c
    have tail : ∀ (f' : Str) (held' : Bool) (sv' : Option V) (H2 : Hp), Gr [] H1' H2 → f'.length ≤ i + 1 → bareGo (z.cps.toList.drop (i + 1)) f' held' = bareIn z →
        ∃ f held sv, ([some (.str z), some (.str f'), some (.bl held'), sv'] : L2.St) = [some (.str z), some (.str f), some (.bl held), sv] ∧ Gr [] H H2 ∧ f.length ≤ i + 1 ∧ i + 1 ≤ z.cps.toList.length ∧ bareGo (z.cps.toList.drop (i + 1)) f held = bareIn z :=
      fun f' held' sv' H2 g2 h1 h2 => ⟨f', held', sv', rfl, g1.trans g2, h1, hlt, h2⟩
    walk_at "s"
    cases held with
    | true =>
      walk_at "s"
      refine w_kTup (fun p H2 g2 hp e2 => ?_) (by decide)
      refine w_ninQ (Or.inr (SqT.of e2)) rfl rfl ?_
      rw [hq]
      walk_at "s"
      cases hb : (decide (c = 39) || decide (c = 92)) with
      | true =>
        walk_at "s"
        refine tail _ _ _ _ g2 (by rw [slen_app]; show f.length + 1 ≤ i + 1; omega) ?_
        unfold bareGo at e
        rw [hb] at e
        exact e
      | false =>
        walk_at "s"
        refine k _ _ (g1.trans g2) ?_
        unfold bareGo at e
        rw [hb] at e
        have e' : bareIn z = none := e.symm
        rw [e']; exact rep_non
    | false =>
      walk_at "s"
      refine w_kTup (fun p H2 g2 hp e2 => ?_) (by decide)
      refine w_ninQ (Or.inr (SqT.of e2)) rfl rfl ?_
      rw [hq]
      walk_at "s"
      cases hb : (decide (c = 39) || decide (c = 92)) with
      | true =>
        walk_at "s"
        have c0 : decide ((V.str ⟨#[c]⟩ : V) = V.str "\\") = decide (c = 92) := sign_eq (by decide +kernel)
        rw [c0]
        unfold bareGo at e
        rw [hb] at e
        by_cases h9 : c = 92
        · rw [decide_eq_true h9]
          walk_at "s"
          rw [if_neg (by decide), if_pos h9] at e
          exact tail _ _ _ _ g2 (by omega) e
        · rw [decide_eq_false h9]
          walk_at "s"
          rw [if_neg (by decide), if_neg h9] at e
          refine k _ _ (g1.trans g2) ?_
          rw [← e]; exact rep_non
      | false =>
        walk_at "s"
        refine tail _ _ _ _ g2 (by rw [slen_app]; show f.length + 1 ≤ i + 1; omega) ?_
        unfold bareGo at e
        rw [hb] at e
        exact e
  · rintro σ H1 ⟨f, held, sv, rfl, g1, hl, hi2, e⟩
    have hd : z.cps.toList.drop (signs z).length = [] := by simp [signs]
    rw [hd] at e
    walk_at "s"
    cases held with
    | true =>
      walk_at "s"
      refine k _ _ g1 ?_
      rw [show bareIn z = none from e.symm]; exact rep_non
    | false =>
      walk_at "s"
      refine k _ _ g1 ?_
      rw [show bareIn z = some f from e.symm]; exact rep_str rfl
end
end RS
set_option Elab.async false
set_option linter.all false
set_option maxRecDepth 100000
set_option maxHeartbeats 4000000

namespace RS
open PySem L2
/-! steps by their heads -/
local macro_rules | `(tactic| walk_at "fr") => `(tactic| first
  | assumption
  | exact SqL.of (by assumption)
  | exact SqT.of (by assumption)
  | exact Or.inl (by assumption)
  | exact Or.inr (by assumption)
  | (refine Gr.get (by assumption) ?_ (by walk_at "nin"); walk_at "fr")
  | (refine Gr.tup (by assumption) _ _ ?_; walk_at "fr")
  | (refine SqL.of ?_; walk_at "fr1")
  | (refine SqT.of ?_; walk_at "fr1")
  | (refine Gr.sqL (by assumption) ?_ (by walk_at "nin"); walk_at "fr")
  | (refine Gr.sqT (by assumption) ?_ (by walk_at "nin"); walk_at "fr")
  | (refine Gr.rep0 (by assumption) ?_; walk_at "fr")
  | (refine Gr.reps0 (by assumption) ?_; walk_at "fr"))
local macro_rules | `(tactic| walk_at "fr1") => `(tactic| first
  | assumption
  | (refine Gr.tup (by assumption) _ _ ?_; walk_at "fr1")
  | (refine Gr.get (by assumption) ?_ (by walk_at "nin"); walk_at "fr1"))
local macro_rules | `(tactic| walk_at "nin") => `(tactic| first
  | exact nin_nil
  | assumption
  | (refine nin_one ?_; walk_at "ne"))
local macro_rules | `(tactic| walk_at "ne") => `(tactic| first
  | assumption
  | exact Ne.symm (by assumption)
  | exact ne_new (by assumption) (by assumption)
  | exact Ne.symm (ne_new (by assumption) (by assumption)))
local macro_rules | `(tactic| walk_at "sz") => `(tactic| first
  | assumption
  | omega
  | (simp only [List.length_cons, List.length_nil, List.length_append, List.length_map, CDiv, CDivN, CMul]; omega)
  | decide)
local macro_rules | `(tactic| walk_at "i1") => `(tactic| first
  | ((with_reducible refine' isi_L_list ?vh ?_); (case vh => walk_at "fr"))
  | ((with_reducible refine' isi_T_list ?vh ?_); (case vh => walk_at "fr"))
  | ((with_reducible refine' isi_L_tuple ?vh ?_); (case vh => walk_at "fr"))
  | ((with_reducible refine' isi_T_tuple ?vh ?_); (case vh => walk_at "fr"))
  | ((with_reducible refine' isi_L_str ?vh ?_); (case vh => walk_at "fr"))
  | ((with_reducible refine' isi_T_str ?vh ?_); (case vh => walk_at "fr"))
  | ((with_reducible refine' isi_L_int ?vh ?_); (case vh => walk_at "fr"))
  | ((with_reducible refine' isi_T_int ?vh ?_); (case vh => walk_at "fr"))
  | ((with_reducible refine' isi_L_bool ?vh ?_); (case vh => walk_at "fr"))
  | ((with_reducible refine' isi_T_bool ?vh ?_); (case vh => walk_at "fr")))
local macro_rules | `(tactic| walk_at "s") => `(tactic| repeat (first
  | with_reducible refine Stp.h ?_
  | (with_reducible refine szc ?_ ?_; walk_at "sz")
  | ((with_reducible refine' w_kTyL ?vh ?_); (case vh => walk_at "fr"))
  | ((with_reducible refine' w_lenL ?vh ?_); (case vh => walk_at "fr"))
  | ((with_reducible refine' w_lenT ?vh ?_); (case vh => walk_at "fr"))))
local macro_rules | `(tactic| walk_at "gr") => `(tactic| first
  | exact Gr.refl _ _
  | assumption
  | exact Gr.wide (by assumption)
  | (refine Gr.trans ?_ (by assumption); walk_at "gr")
  | (refine Gr.trans ?_ (Gr.wide (by assumption)); walk_at "gr"))
local macro_rules | `(tactic| walk_at "s2") => `(tactic| (with_reducible refine Stp.h ?_; with_reducible refine Stp.h ?_))

section
variable {P : Program} {w : World} {K : PySem.W.Frag} {mg : Str → Option Value} {base : Heap}
theorem sc_text_in : FnScope ["word", "found"] ["word"] (defScope s_text_in) := ⟨rfl, rfl, rfl, by decide +kernel, rfl, by decide +kernel, by decide +kernel⟩
theorem ok_text_in (T : TX K mg) : FnOk P w K mg base CX0 3 T.d_text_in.a T.d_text_in.d ["word"] (spD (one fun z => optS (textIn z))) := by
  refine T.d_text_in.F.ok sc_text_in (fun vs H Q E h => one_len h) (fun cdv A outer s H vs Q E hr h => ?_)
  obtain ⟨d, h, k⟩ := h
  obtain ⟨z, rfl, hz, rfl⟩ := one_open h
  refine ⟨_, (pss_cons (ps_if (PW.pt (pw_or (pt_cmpR op_lt (pe_callB (call_lenK (K := K) rfl) (by rfl) T.z_len bt_len (pa_cons (pv 0) pa_nil)) pe_int (nomark _)) (pw_or (pt_cmpR (op_neK (K := K) rfl (hu64 hr)) (pe_ix (ix_anyK (K := K) rfl) (pv 0) pe_int (fun _ _ => rfl)) (pe_glob (v := (.str "'")) (by rfl) T.k_QUOTE.2 ⟨_, rfl⟩) (nomark _)) (pw_or1 (pt_cmpR (op_neK (K := K) rfl (hu64 hr)) (pe_ix (ix_anyK (K := K) rfl) (pv 0) (pe_un un_neg pe_int) (fun _ _ => rfl)) (pe_glob (v := (.str "'")) (by rfl) T.k_QUOTE.2 ⟨_, rfl⟩) (nomark _))))))
    (pss_one (ps_ret pe_non))
    pss_nil)
  (pss_cons (ps_set (i := 1) sc_text_in.nd rfl (Or.inl rfl) (pe_call (ok_bare_in T) (hr.mono (by decide)) (by rfl) T.d_bare_in.g T.d_bare_in.F.kp T.d_bare_in.b .nil pass0 (pa_cons (pe_slice (sl_anyK (K := K) rfl) (pv 0) (po_some pe_int) (po_some (pe_un un_neg pe_int))) pa_nil)))
  (pss_cons (ps_if (PW.pt (pw_or (pt_cmp (pc_isN (pv 1)) rfl) (pw_or (pt_cmpR op_gt (pe_callB (call_lenK (K := K) rfl) (by rfl) T.z_len bt_len (pa_cons (pv 1) pa_nil)) (pe_glob (v := (.int 40)) (by rfl) T.k_MOST_SIGNS.2 ⟨_, rfl⟩) (nomark _)) (pw_or1 (pt_not (pt_val (pe_call (ok_is_value T) (hr.mono (by decide)) (by rfl) T.d_is_value.g T.d_is_value.F.kp T.d_is_value.b .nil pass0 (pa_cons (pv 1) pa_nil))))))))
    (pss_one (ps_ret pe_non))
    pss_nil)
  (pss_one (ps_ret (pv 1)))))), ?_⟩
  refine at_start [some (.str z), none] rfl ?_
  walk_at "s"
  have none_of : (decide ((z.length : Int) < 2) || !decide (first? z = some 39) || !decide (last? z = some 39)) = true → textIn z = none := fun e => by unfold textIn; rw [if_pos e]
  refine iteB (fun h1 => ?_) (fun h1 => ?_)
  · walk_at "s"
    refine k _ _ (by walk_at "gr") ?_
    rw [none_of (by rw [h1]; rfl)]; exact rep_non
  · have hl2 : 2 ≤ z.cps.toList.length := by
      have := of_decide_eq_false h1
      rw [len_cps] at this; omega
    obtain ⟨c0, r, hc⟩ : ∃ c0 r, z.cps.toList = c0 :: r := by
      cases hh : z.cps.toList with
      | nil => rw [hh] at hl2; simp at hl2
      | cons c r => exact ⟨c, r, rfl⟩
    obtain ⟨c1, hc1⟩ : ∃ c1, z.cps.toList.getLast? = some c1 := by
      cases hh : z.cps.toList.getLast? with
      | none => rw [List.getLast?_eq_none_iff] at hh; rw [hh] at hl2; simp at hl2
      | some c => exact ⟨c, rfl⟩
    have f1 : first? z = some c0 := by unfold first?; rw [hc]; rfl
    have f2 : last? z = some c1 := hc1
    walk_at "s"
    refine w_ixS (by omega) (atI_zero hc) ?_
    walk_at "s"
    rw [sign_eq (k := 39) (by decide +kernel)]
    by_cases e0 : c0 = 39
    · rw [decide_eq_true e0]
      walk_at "s"
      refine w_ixS (by omega) (atI_last' hc1) ?_
      walk_at "s"
      rw [sign_eq (k := 39) (by decide +kernel)]
      by_cases e1 : c1 = 39
      · rw [decide_eq_true e1]
        walk_at "s"
        have un : textIn z = (match bareIn (cutS z (some 1) (some (-1))) with
            | none => none
            | some f => if decide (40 < (f.length : Int)) || !isVal f then none else some f) := by
          unfold textIn
          rw [f1, f2, h1, e0, e1]; rfl
        refine one_use (Nat.le_trans (cutS_len _ _ _) hz) (fun v H1 g1 t1 => ?_)
        cases hb : bareIn (cutS z (some 1) (some (-1))) with
        | none =>
          rw [hb] at t1 un
          obtain rfl := rep_non' t1
          walk_at "s"
          refine k _ _ (by walk_at "gr") ?_
          rw [un]; exact rep_non
        | some f =>
          rw [hb] at t1 un
          obtain rfl := rep_str' t1
          have hfl : f.length ≤ 1000000 := Nat.le_trans (bareIn_len hb) (Nat.le_trans (cutS_len _ _ _) hz)
          walk_at "s"
          refine iteB (fun h2 => ?_) (fun h2 => ?_)
          · walk_at "s"
            refine k _ _ (by walk_at "gr") ?_
            have : (decide (40 < (f.length : Int))) = true := h2
            rw [un]; simp only [this, Bool.true_or, if_true]; exact rep_non
          · have h2' : (decide (40 < (f.length : Int))) = false := h2
            walk_at "s"
            refine one_use hfl (fun v H2 g2 t2 => ?_)
            obtain rfl := rep_bl' t2
            walk_at "s"
            cases hv : isVal f with
            | true =>
              walk_at "s"
              refine k _ _ (by walk_at "gr") ?_
              rw [un]; simp only [h2', hv]; exact rep_str rfl
            | false =>
              walk_at "s"
              refine k _ _ (by walk_at "gr") ?_
              rw [un]; simp only [h2', hv]; exact rep_non
      · rw [decide_eq_false e1]
        walk_at "s"
        refine k _ _ (by walk_at "gr") ?_
        rw [none_of (by rw [f1, f2]; simp [e1])]; exact rep_non
    · rw [decide_eq_false e0]
      walk_at "s"
      refine k _ _ (by walk_at "gr") ?_
      rw [none_of (by rw [f1]; simp [e0])]; exact rep_non
theorem sc_value_in : FnScope ["word"] ["word"] (defScope s_value_in) := ⟨rfl, rfl, rfl, by decide +kernel, rfl, by decide +kernel, by decide +kernel⟩
theorem ok_value_in (T : TX K mg) : FnOk P w K mg base CX0 4 T.d_value_in.a T.d_value_in.d ["word"] (spD (one fun z => valueIn z)) := by
  refine T.d_value_in.F.ok sc_value_in (fun vs H Q E h => one_len h) (fun cdv A outer s H vs Q E hr h => ?_)
  obtain ⟨d, h, k⟩ := h
  obtain ⟨z, rfl, hz, rfl⟩ := one_open h
  refine ⟨_, (pss_cons (ps_if (pt_cmpR (op_eqK (K := K) rfl (hu64 hr)) (pe_slice (sl_anyK (K := K) rfl) (pv 0) po_none (po_some pe_int)) (pe_glob (v := (.str "'")) (by rfl) T.k_QUOTE.2 ⟨_, rfl⟩) (nomark _))
    (pss_one (ps_ret (pe_call (ok_text_in T) (hr.mono (by decide)) (by rfl) T.d_text_in.g T.d_text_in.F.kp T.d_text_in.b .nil pass0 (pa_cons (pv 0) pa_nil))))
    pss_nil)
  (pss_one (ps_ret (pe_call (ok_number_in T) (hr.mono (by decide)) (by rfl) T.d_number_in.g T.d_number_in.F.kp T.d_number_in.b .nil pass0 (pa_cons (pv 0) pa_nil))))), ?_⟩
  refine at_start [some (.str z)] rfl ?_
  walk_at "s"
  have e0 : decide ((V.str (cutS z none (some 1)) : V) = V.str "'") = decide (cutS z none (some 1) = ("'" : Str)) := by simp only [V.str.injEq]
  refine iteB (fun h1 => ?_) (fun h1 => ?_)
  · have h1' := of_decide_eq_true (e0.symm.trans h1)
    walk_at "s"
    refine one_use hz (fun v H1 g1 t1 => ?_)
    walk_at "s"
    refine k _ _ (by walk_at "gr") ?_
    rw [valueIn_text h1']; exact t1
  · have h1' := of_decide_eq_false (e0.symm.trans h1)
    walk_at "s"
    refine one_use hz (fun v H1 g1 t1 => ?_)
    walk_at "s"
    refine k _ _ (by walk_at "gr") ?_
    rw [valueIn_num h1']; exact t1
theorem sc_set_in : FnScope ["rest", "name", "gap", "more", "word", "slot", "value"] ["rest"] (defScope s_set_in) := ⟨rfl, rfl, rfl, by decide +kernel, rfl, by decide +kernel, by decide +kernel⟩
theorem ok_set_in (T : TX K mg) : FnOk P w K mg base CX0 5 T.d_set_in.a T.d_set_in.d ["rest"] (spD (one fun z => setIn z)) := by
  refine T.d_set_in.F.ok sc_set_in (fun vs H Q E h => one_len h) (fun cdv A outer s H vs Q E hr h => ?_)
  obtain ⟨d, h, k⟩ := h
  obtain ⟨z, rfl, hz, rfl⟩ := one_open h
  have pl := part_len z " "
  have rl := rpart_len (Txt.partition z " ").2.2 " "
  refine ⟨_, (pss_cons (ps_asg (pe_m1 PySem.F.slot_str_partition PySem.F.type_str_partition mt_partitionA (pv 0) pe_str) (pg_tupK (K := K) (n := 3) rfl rfl (pgs_cons (pg_name (i := 1) sc_set_in.nd rfl (Or.inl rfl)) (pgs_cons (pg_name (i := 2) sc_set_in.nd rfl (Or.inl rfl)) (pgs_cons (pg_name (i := 3) sc_set_in.nd rfl (Or.inl rfl)) pgs_nil)))))
  (pss_cons (ps_asg (pe_m1 PySem.F.slot_str_rpartition PySem.F.type_str_rpartition mt_rpartitionA (pv 3) pe_str) (pg_tupK (K := K) (n := 3) rfl rfl (pgs_cons (pg_name (i := 4) sc_set_in.nd rfl (Or.inl rfl)) (pgs_cons (pg_name (i := 2) sc_set_in.nd rfl (Or.inl rfl)) (pgs_cons (pg_name (i := 5) sc_set_in.nd rfl (Or.inl rfl)) pgs_nil)))))
  (pss_cons (ps_set (i := 6) sc_set_in.nd rfl (Or.inl rfl) (pe_call (ok_value_in T) (hr.mono (by decide)) (by rfl) T.d_value_in.g T.d_value_in.F.kp T.d_value_in.b .nil pass0 (pa_cons (pv 4) pa_nil)))
  (pss_cons (ps_if (PW.pt (pw_or (pt_cmp (pc_isN (pv 6)) rfl) (pw_or (pt_not (pt_val (pe_call (ok_is_name T) (hr.mono (by decide)) (by rfl) T.d_is_name.g T.d_is_name.F.kp T.d_is_name.b .nil pass0 (pa_cons (pv 1) pa_nil)))) (pw_or1 (pt_not (pt_val (pe_call (ok_is_name T) (hr.mono (by decide)) (by rfl) T.d_is_name.g T.d_is_name.F.kp T.d_is_name.b .nil pass0 (pa_cons (pv 5) pa_nil))))))))
    (pss_one (ps_ret pe_non))
    pss_nil)
  (pss_one (ps_ret (pe_tup (pa_cons pe_str (pa_cons (pv 1) (pa_cons (pv 6) (pa_cons (pv 5) pa_nil))))))))))), ?_⟩
  refine at_start [some (.str z), none, none, none, none, none, none] rfl ?_
  walk_at "s"
  refine w_part1 (by decide +kernel) (by omega) (fun p H1 g1 hp e1 => ?_)
  refine w_gtup (SqT.of e1) rfl ?_
  walk_at "s"
  refine w_rpart1 (by decide +kernel) (by omega) (fun p2 H2 g2 hp2 e2 => ?_)
  refine w_gtup (SqT.of e2) rfl ?_
  walk_at "s"
  refine one_use (by omega) (fun v H3 g3 t3 => ?_)
  walk_at "s"
  generalize hn : (Txt.partition z " ").1 = name at *
  generalize hm : (Txt.partition z " ").2.2 = more at *
  generalize hw : (Txt.rpartition more " ").1 = word at *
  generalize hs : (Txt.rpartition more " ").2.2 = slot at *
  have go : ∀ (v : V) (d : PD), TRep H3 d v → d = valueIn word → v ≠ .non → (∀ d', setIn z = d' ↔ d' = if isName name && isName slot then .tup [.str "set", .str name, d, .str slot] else .non) := by
    intro v d td hd hv d'
    have : setIn z = if isName name && isName slot then .tup [.str "set", .str name, d, .str slot] else .non := by
      unfold setIn
      simp only [hn, hm, hw, hs, ← hd]
      cases d with
      | non => exact absurd (rep_non' td) hv
      | _ => rfl
    rw [this]
    exact eq_comm
  by_cases hv : v = .non
  · subst hv
    walk_at "s"
    refine k _ _ (by walk_at "gr") ?_
    have : valueIn word = .non := by
      cases hd : valueIn word with
      | non => rfl
      | _ => rw [hd] at t3; first | (have := rep_str' t3; cases this) | (have := rep_int' t3; cases this) | (have := rep_bl' t3; cases this) | (obtain ⟨_, _, h, _⟩ := rep_tup' t3; cases h) | (obtain ⟨_, _, h, _⟩ := rep_lst' t3; cases h)
    have e : setIn z = .non := by unfold setIn; simp only [hn, hm, hw, hs, this]
    rw [e]; exact rep_non
  · rw [decide_eq_false hv]
    walk_at "s"
    refine one_use (by omega) (fun v4 H4 g4 t4 => ?_)
    obtain rfl := rep_bl' t4
    walk_at "s"
    cases hN : isName name with
    | false =>
      walk_at "s"
      refine k _ _ (by walk_at "gr") ?_
      rw [(go v _ t3 rfl hv _).mpr rfl, hN]; exact rep_non
    | true =>
      walk_at "s"
      refine one_use (by omega) (fun v5 H5 g5 t5 => ?_)
      obtain rfl := rep_bl' t5
      walk_at "s"
      cases hS : isName slot with
      | false =>
        walk_at "s"
        refine k _ _ (by walk_at "gr") ?_
        rw [(go v _ t3 rfl hv _).mpr rfl, hN, hS]; exact rep_non
      | true =>
        walk_at "s"
        refine w_kTup (fun q H6 g6 hq e6 => ?_) (by simp)
        walk_at "s"
        refine k _ _ (by walk_at "gr") ?_
        rw [(go v _ t3 rfl hv _).mpr rfl, hN, hS]
        exact rep_tup e6 (treps_cons (rep_str rfl) (treps_cons (rep_str rfl) (treps_cons (g6.rep0 (g5.rep0 (g4.rep0 t3))) (treps_cons (rep_str rfl) treps_nil))))
theorem sc_step_in : FnScope ["row", "word", "gap", "rest"] ["row"] (defScope s_step_in) := ⟨rfl, rfl, rfl, by decide +kernel, rfl, by decide +kernel, by decide +kernel⟩
theorem ok_step_in (T : TX K mg) : FnOk P w K mg base CX0 6 T.d_step_in.a T.d_step_in.d ["row"] (spD (one fun z => stepIn z)) := by
  refine T.d_step_in.F.ok sc_step_in (fun vs H Q E h => one_len h) (fun cdv A outer s H vs Q E hr h => ?_)
  obtain ⟨d, h, k⟩ := h
  obtain ⟨z, rfl, hz, rfl⟩ := one_open h
  have pl := part_len z " "
  refine ⟨_, (pss_cons (ps_asg (pe_m1 PySem.F.slot_str_partition PySem.F.type_str_partition mt_partitionA (pv 0) pe_str) (pg_tupK (K := K) (n := 3) rfl rfl (pgs_cons (pg_name (i := 1) sc_step_in.nd rfl (Or.inl rfl)) (pgs_cons (pg_name (i := 2) sc_step_in.nd rfl (Or.inl rfl)) (pgs_cons (pg_name (i := 3) sc_step_in.nd rfl (Or.inl rfl)) pgs_nil)))))
  (pss_cons (ps_if (pt_cmpR (op_eqK (K := K) rfl (hu64 hr)) (pv 1) pe_str (nomark _))
    (pss_one (ps_ret (pe_call (ok_set_in T) (hr.mono (by decide)) (by rfl) T.d_set_in.g T.d_set_in.F.kp T.d_set_in.b .nil pass0 (pa_cons (pv 3) pa_nil))))
    pss_nil)
  (pss_cons (ps_if (PW.pt (pw_and (pt_cmpR (op_inK (K := K) rfl) (pv 1) (pe_glob (v := .ref T.k_WITH_NAME.1) (by rfl) T.k_WITH_NAME.2.1 rfl) (by rfl)) (pw_and1 (pt_val (pe_call (ok_is_name T) (hr.mono (by decide)) (by rfl) T.d_is_name.g T.d_is_name.F.kp T.d_is_name.b .nil pass0 (pa_cons (pv 3) pa_nil))))))
    (pss_one (ps_ret (pe_tup (pa_cons (pv 1) (pa_cons (pv 3) pa_nil)))))
    pss_nil)
  (pss_cons (ps_if (pt_cmpR (op_inK (K := K) rfl) (pv 0) (pe_glob (v := .ref T.k_ALONE.1) (by rfl) T.k_ALONE.2.1 rfl) (by rfl))
    (pss_one (ps_ret (pe_tup (pa_cons (pv 0) pa_nil))))
    pss_nil)
  (pss_one (ps_ret pe_non)))))), ?_⟩
  refine at_start [some (.str z), none, none, none] rfl ?_
  walk_at "s"
  refine w_part1 (by decide +kernel) (by omega) (fun p H1 g1 hp e1 => ?_)
  refine w_gtup (SqT.of e1) rfl ?_
  walk_at "s"
  generalize hn : (Txt.partition z " ").1 = word at *
  generalize hm : (Txt.partition z " ").2.2 = rest at *
  have e0 : decide ((V.str word : V) = V.str "set") = decide (word = ("set" : Str)) := by simp only [V.str.injEq]
  rw [e0]
  by_cases hw : word = ("set" : Str)
  · rw [decide_eq_true hw]
    walk_at "s"
    refine one_use (by omega) (fun v H2 g2 t2 => ?_)
    walk_at "s"
    refine k _ _ (by walk_at "gr") ?_
    have e : stepIn z = setIn rest := by unfold stepIn; simp only [hn, hm]; rw [if_pos hw]
    rw [e]; exact t2
  · rw [decide_eq_false hw]
    have un : stepIn z = if inV (.str word) withName && isName rest then .tup [.str word, .str rest] else if inV (.str z) alone then .tup [.str z] else .non := by
      unfold stepIn; simp only [hn, hm]; rw [if_neg hw]
    walk_at "s"
    refine w_inQ (Or.inr (T.k_WITH_NAME.2.2 _)) rfl rfl ?_
    walk_at "s"
    cases hi : inV (.str word) withName with
    | true =>
      have hi' : inV (V.str word) [V.str "look", V.str "back", V.str "copy", V.str "in"] = true := hi
      rw [hi']
      walk_at "s"
      refine one_use (by omega) (fun v H2 g2 t2 => ?_)
      obtain rfl := rep_bl' t2
      walk_at "s"
      cases hN : isName rest with
      | true =>
        walk_at "s"
        refine w_kTup (fun q H3 g3 hq e3 => ?_) (by simp)
        walk_at "s"
        refine k _ _ (by walk_at "gr") ?_
        rw [un, hi, hN]
        exact rep_tup e3 (treps_cons (rep_str rfl) (treps_cons (rep_str rfl) treps_nil))
      | false =>
        walk_at "s"
        refine w_inQ (Or.inr (T.k_ALONE.2.2 _)) rfl rfl ?_
        walk_at "s"
        cases ha : inV (.str z) alone with
        | true =>
          have ha' : inV (V.str z) [V.str "begin", V.str "late", V.str "pass"] = true := ha
          rw [ha']
          walk_at "s"
          refine w_kTup (fun q H3 g3 hq e3 => ?_) (by simp)
          walk_at "s"
          refine k _ _ (by walk_at "gr") ?_
          rw [un, hi, hN, ha]
          exact rep_tup e3 (treps_cons (rep_str rfl) treps_nil)
        | false =>
          have ha' : inV (V.str z) [V.str "begin", V.str "late", V.str "pass"] = false := ha
          rw [ha']
          walk_at "s"
          refine k _ _ (by walk_at "gr") ?_
          rw [un, hi, hN, ha]; exact rep_non
    | false =>
      have hi' : inV (V.str word) [V.str "look", V.str "back", V.str "copy", V.str "in"] = false := hi
      rw [hi']
      walk_at "s"
      refine w_inQ (Or.inr (T.k_ALONE.2.2 _)) rfl rfl ?_
      walk_at "s"
      cases ha : inV (.str z) alone with
      | true =>
        have ha' : inV (V.str z) [V.str "begin", V.str "late", V.str "pass"] = true := ha
        rw [ha']
        walk_at "s"
        refine w_kTup (fun q H3 g3 hq e3 => ?_) (by simp)
        walk_at "s"
        refine k _ _ (by walk_at "gr") ?_
        rw [un, hi, ha]
        exact rep_tup e3 (treps_cons (rep_str rfl) treps_nil)
      | false =>
        have ha' : inV (V.str z) [V.str "begin", V.str "late", V.str "pass"] = false := ha
        rw [ha']
        walk_at "s"
        refine k _ _ (by walk_at "gr") ?_
        rw [un, hi, ha]; exact rep_non
end
end RS
set_option Elab.async false
set_option linter.all false
set_option maxRecDepth 100000
set_option maxHeartbeats 4000000

namespace RS
open PySem L2
/-! steps by their heads -/
local macro_rules | `(tactic| walk_at "fr") => `(tactic| first
  | assumption
  | exact SqL.of (by assumption)
  | exact SqT.of (by assumption)
  | exact Or.inl (by assumption)
  | exact Or.inr (by assumption)
  | (refine Gr.get (by assumption) ?_ (by walk_at "nin"); walk_at "fr")
  | (refine Gr.tup (by assumption) _ _ ?_; walk_at "fr")
  | (refine SqL.of ?_; walk_at "fr1")
  | (refine SqT.of ?_; walk_at "fr1")
  | (refine Gr.sqL (by assumption) ?_ (by walk_at "nin"); walk_at "fr")
  | (refine Gr.sqT (by assumption) ?_ (by walk_at "nin"); walk_at "fr")
  | (refine Gr.rep0 (by assumption) ?_; walk_at "fr")
  | (refine Gr.reps0 (by assumption) ?_; walk_at "fr"))
local macro_rules | `(tactic| walk_at "fr1") => `(tactic| first
  | assumption
  | (refine Gr.tup (by assumption) _ _ ?_; walk_at "fr1")
  | (refine Gr.get (by assumption) ?_ (by walk_at "nin"); walk_at "fr1"))
local macro_rules | `(tactic| walk_at "nin") => `(tactic| first
  | exact nin_nil
  | assumption
  | (refine nin_one ?_; walk_at "ne"))
local macro_rules | `(tactic| walk_at "ne") => `(tactic| first
  | assumption
  | exact Ne.symm (by assumption)
  | exact ne_new (by assumption) (by assumption)
  | exact Ne.symm (ne_new (by assumption) (by assumption)))
local macro_rules | `(tactic| walk_at "sz") => `(tactic| first
  | assumption
  | omega
  | (simp only [List.length_cons, List.length_nil, List.length_append, List.length_map, CDiv, CDivN, CMul]; omega)
  | decide)
local macro_rules | `(tactic| walk_at "i1") => `(tactic| first
  | ((with_reducible refine' isi_L_list ?vh ?_); (case vh => walk_at "fr"))
  | ((with_reducible refine' isi_T_list ?vh ?_); (case vh => walk_at "fr"))
  | ((with_reducible refine' isi_L_tuple ?vh ?_); (case vh => walk_at "fr"))
  | ((with_reducible refine' isi_T_tuple ?vh ?_); (case vh => walk_at "fr"))
  | ((with_reducible refine' isi_L_str ?vh ?_); (case vh => walk_at "fr"))
  | ((with_reducible refine' isi_T_str ?vh ?_); (case vh => walk_at "fr"))
  | ((with_reducible refine' isi_L_int ?vh ?_); (case vh => walk_at "fr"))
  | ((with_reducible refine' isi_T_int ?vh ?_); (case vh => walk_at "fr"))
  | ((with_reducible refine' isi_L_bool ?vh ?_); (case vh => walk_at "fr"))
  | ((with_reducible refine' isi_T_bool ?vh ?_); (case vh => walk_at "fr")))
local macro_rules | `(tactic| walk_at "s") => `(tactic| repeat (first
  | with_reducible refine Stp.h ?_
  | (with_reducible refine szc ?_ ?_; walk_at "sz")
  | ((with_reducible refine' w_kTyL ?vh ?_); (case vh => walk_at "fr"))
  | ((with_reducible refine' w_lenL ?vh ?_); (case vh => walk_at "fr"))
  | ((with_reducible refine' w_lenT ?vh ?_); (case vh => walk_at "fr"))))
local macro_rules | `(tactic| walk_at "gr") => `(tactic| first
  | exact Gr.refl _ _
  | assumption
  | exact Gr.wide (by assumption)
  | (refine Gr.trans ?_ (by assumption); walk_at "gr")
  | (refine Gr.trans ?_ (Gr.wide (by assumption)); walk_at "gr"))
local macro_rules | `(tactic| walk_at "s2") => `(tactic| (with_reducible refine Stp.h ?_; with_reducible refine Stp.h ?_))

section
variable {P : Program} {w : World} {K : PySem.W.Frag} {mg : Str → Option Value} {base : Heap}
def spRows (K : PySem.W.Frag) : Sp := fun vs H Q _ => ∃ (a : Addr) (rows : List Str) (first : Int) (l : List (Int × PD)), vs = [.ref a, .int first] ∧ SqL K H a (rows.map V.str) ∧ rows.length ≤ 1000 ∧ (∀ r ∈ rows, r.length ≤ 1000000) ∧ rowsGo rows 0 = some l ∧
  ∀ v H', Gr [] H H' → TRep H' (.lst (l.map entry)) v → Q v H'
theorem i2 : (Str.ofString "  ").length = 2 := by decide +kernel
theorem sc_rows_read : FnScope ["rows", "first", "found", "most", "number", "row", "inner", "step", "blanks", "depth"] ["rows", "first"] (defScope s_rows_read) := ⟨rfl, rfl, rfl, by decide +kernel, rfl, by decide +kernel, by decide +kernel⟩
theorem ok_rows_read (T : TX K mg) : FnOk P w K mg base CX0 7 T.d_rows_read.a T.d_rows_read.d ["rows", "first"] (spRows K) := by
  refine T.d_rows_read.F.ok sc_rows_read (fun vs H Q E h => ?_) (fun cdv A outer s H vs Q E hr h => ?_)
  · obtain ⟨a, rows, first, l, rfl, _⟩ := h; rfl
  obtain ⟨a, rows, first, l, rfl, hL, hn, hz, hg, k⟩ := h
  refine ⟨_, (pss_cons (ps_set (i := 2) sc_rows_read.nd rfl (Or.inl rfl) (pe_lst pa_nil))
  (pss_cons (ps_set (i := 3) sc_rows_read.nd rfl (Or.inl rfl) pe_int)
  (pss_cons (ps_for PassesOwn.never rfl (piK (f := fun K => iEnum K _) (K := K) rfl (pi_enum (by rfl) T.z_enumerate (pa_cons (pv 0) pa_nil))) (pg_tupK (K := K) (n := 2) rfl rfl (pgs_cons (pg_name (i := 4) sc_rows_read.nd rfl (Or.inl rfl)) (pgs_cons (pg_name (i := 5) sc_rows_read.nd rfl (Or.inl rfl)) pgs_nil)))
    (pss_cons (ps_set (i := 6) sc_rows_read.nd rfl (Or.inl rfl) (pe_m1 PySem.F.slot_str_lstrip PySem.F.type_str_lstrip mt_lstripA (pv 5) pe_str))
  (pss_cons (ps_set (i := 7) sc_rows_read.nd rfl (Or.inl rfl) (pe_call (ok_step_in T) (hr.mono (by decide)) (by rfl) T.d_step_in.g T.d_step_in.F.kp T.d_step_in.b .nil pass0 (pa_cons (pv 6) pa_nil)))
  (pss_cons (ps_set (i := 8) sc_rows_read.nd rfl (Or.inl rfl) (pe_op op_sub (pe_callB (call_lenK (K := K) rfl) (by rfl) T.z_len bt_len (pa_cons (pv 5) pa_nil)) (pe_callB (call_lenK (K := K) rfl) (by rfl) T.z_len bt_len (pa_cons (pv 6) pa_nil))))
  (pss_cons (ps_set (i := 9) sc_rows_read.nd rfl (Or.inl rfl) (pe_op op_fdivA (pv 8) (pe_callB (call_lenK (K := K) rfl) (by rfl) T.z_len bt_len (pa_cons (pe_glob (v := (.str "  ")) (by rfl) T.k_INSET.2 ⟨_, rfl⟩) pa_nil))))
  (pss_cons (ps_if (PW.pt (pw_or (pt_cmp (pc_isN (pv 7)) rfl) (pw_or (pt_cmpR op_gt (pe_op op_mod (pv 8) (pe_callB (call_lenK (K := K) rfl) (by rfl) T.z_len bt_len (pa_cons (pe_glob (v := (.str "  ")) (by rfl) T.k_INSET.2 ⟨_, rfl⟩) pa_nil))) pe_int (nomark _)) (pw_or1 (pt_cmpR op_gt (pv 9) (pv 3) (nomark _))))))
    (pss_one (ps_never))
    pss_nil)
  (pss_cons (ps_set (i := 3) sc_rows_read.nd rfl (Or.inl rfl) (pe_op (op_addK (K := K) rfl) (pv 9) (pe_callTy call_intA (by rfl) T.z_int bt_int (pa_cons (pe_cmpR (op_inK (K := K) rfl) (pe_ix (ix_anyK (K := K) rfl) (pv 7) pe_int (fun _ _ => rfl)) (pe_glob (v := .ref T.k_BLOCKS.1) (by rfl) T.k_BLOCKS.2.1 rfl) (by rfl)) pa_nil))))
  (pss_one (ps_expr (pe_bmK (K := K) rfl PySem.F.plainAttrs_list PySem.F.slot_list_append PySem.F.type_list_append mt_append (pv 2) (pa_cons (pe_tup (pa_cons (pv 9) (pa_cons (pv 7) pa_nil))) pa_nil)))))))))))
  (pss_one (ps_ret (pv 2)))))), ?_⟩
  refine at_start [some (.ref a), some (.int first), none, none, none, none, none, none, none, none] rfl ?_
  walk_at "s"
  refine w_kLst (fun f H1 g1 hf e1 => ?_) (by simp)
  walk_at "s"
  refine w_kIE (g1.sqL hL nin_nil) ?_
  refine for_it (walk_enum (xs := rows.map V.str)) (fun i σ H' => ∃ (xs : List V) (dn rest : List (Int × PD)) (most : Int) (v4 v5 v6 v7 v8 v9 : Option V), σ = [some (.ref a), some (.int first), some (.ref f), some (.int most), v4, v5, v6, v7, v8, v9] ∧
    Gr [] H H' ∧ H' f = some (.lst xs) ∧ TReps H' (dn.map entry) xs ∧ dn.length = i ∧ i ≤ rows.length ∧ rowsGo (rows.drop i) most = some rest ∧ dn ++ rest = l ∧ (∀ p ∈ dn, stepOk p.2)) ?_ ?_ ?_ ?_
  · exact ⟨[], [], l, 0, none, none, none, none, none, none, rfl, g1, e1, treps_nil, rfl, Nat.zero_le _, hg, rfl, fun p hp => nomatch hp⟩
  · rintro i σ H' hi ⟨xs, dn, rest, most, v4, v5, v6, v7, v8, v9, rfl, g, _⟩
    exact g.sqL hL nin_nil
  · rintro i x σ H2 H3 hi ⟨xs, dn, rest, most, v4, v5, v6, v7, v8, v9, rfl, g2, e2, t2, hdn, hle, hgo, happ, hok⟩ ⟨q, x0, y0, rfl, hq, rfl, hx, hy⟩
    cases hx
    have hlt : i < rows.length := by simpa using hi
    obtain ⟨row, hrow, rfl⟩ : ∃ row, rows[i]? = some row ∧ y0 = V.str row := by
      simp only [List.getElem?_map, Option.map_eq_some_iff] at hy
      obtain ⟨r, h1, h2⟩ := hy
      exact ⟨r, h1, h2.symm⟩
    have hm : row.length ≤ 1000000 := hz row (List.mem_of_getElem? hrow)
    have hd : rows.drop i = row :: rows.drop (i + 1) := by
      rw [List.drop_eq_getElem_cons hlt]
      exact congrArg (· :: _) (List.getElem?_eq_some_iff.mp hrow).2
    rw [hd] at hgo
    have g3 : Gr [] H2 (upd H2 q (.tup [.int (i : Nat), .str row])) := Gr.new hq
    have e3 : (upd H2 q (.tup [.int (i : Nat), .str row])) q = some (.tup [.int (i : Nat), .str row]) := upd_same
    generalize upd H2 q (.tup [.int (i : Nat), .str row]) = H3 at *
    -- what the row is
    unfold rowsGo at hgo
    split at hgo
    · cases hgo
    rename_i d st hone
    split at hgo
    · cases hgo
    rename_i l' hl'
    simp only [Option.some.injEq] at hgo
    obtain ⟨hst, hso, hde, hb1, hb2⟩ := rowOne_ok hone
    have ll := lstrip_len row " "
    refine w_gtup (SqT.of e3) rfl ?_
    walk_at "s"
    refine one_use (by omega) (fun v H4 g4 t4 => ?_)
    rw [hst] at t4
    walk_at "s"
    rw [i2]
    walk_at "s"
    obtain ⟨_, s, r, rfl, _⟩ := id hso
    obtain ⟨b, ys, rfl, eb, ty⟩ := rep_tup' t4
    have ty' := ty
    unfold TReps at ty'
    obtain ⟨x1, r1, rfl, tx, _⟩ := ty'
    obtain rfl := rep_str' tx
    walk_at "s"
    rw [i2]
    rw [decide_eq_false (show ¬ (0 : Int) < ((row.length : Int) - ((Txt.lstripChars row " ").length : Int)) % ((2 : Nat) : Int) from hb1)]
    walk_at "s"
    rw [decide_eq_false (show ¬ most < ((row.length : Int) - ((Txt.lstripChars row " ").length : Int)) / ((2 : Nat) : Int) from hb2)]
    walk_at "s"
    refine w_ixT (SqT.of eb) (atI_zero rfl) ?_
    walk_at "s"
    refine w_inQ (Or.inr (T.k_BLOCKS.2.2 _)) rfl rfl ?_
    walk_at "s"
    refine w_kTup (fun q5 H5 g5 hq5 e5 => ?_) (by simp)
    walk_at "s"
    have e2' : H5 f = some (.lst xs) := g5.get0 (g4.get0 (g3.get0 e2))
    have hlx := treps_len t2
    rw [List.length_map] at hlx
    refine w_app e2' (by omega) (fun H6 g6 e6 => ?_)
    walk_at "s"
    have g25 : Gr [] H2 H5 := g3.trans (g4.trans g5)
    refine ⟨xs ++ [.ref q5], dn ++ [(d, .tup (.str s :: r))], l', _, _, _, _, _, _, _, rfl, (g2.trans g25).transF g6 hf, e6, ?_, by rw [List.length_append, hdn]; rfl, hlt, (by have q := hl'; rw [hde] at q; exact q), by rw [List.append_assoc, ← happ, ← hgo]; rfl, ?_⟩
    · rw [List.map_append]
      refine treps_append ?_ (treps_cons ?_ treps_nil)
      · refine Gr.reps1 g6 ?_ (g25.reps0 t2)
        refine fixs_of fun d hd => ?_
        obtain ⟨p, hp, rfl⟩ := List.mem_map.mp hd
        have := (hok p hp).1
        simp [entry, PD.fix, PD.fixs, this]
      · refine g6.rep ?_ (by have := hso.1; simp only [entry, PD.fix, PD.fixs, Bool.true_and, Bool.and_true] at this ⊢; exact this)
        refine rep_tup e5 (treps_cons (rep_int ?_) (treps_cons (g5.rep0 t4) treps_nil))
        rw [hde]; rfl
    · intro p hp
      rcases List.mem_append.mp hp with hp | hp
      · exact hok p hp
      · rcases List.mem_cons.mp hp with rfl | hp
        · exact hso
        · exact nomatch hp
  · rintro σ H' ⟨xs, dn, rest, most, v4, v5, v6, v7, v8, v9, rfl, g2, e2, t2, hdn, hle, hgo, happ, hok⟩
    have hd : rows.drop (rows.map V.str).length = [] := by simp
    rw [hd] at hgo
    simp only [rowsGo, Option.some.injEq] at hgo
    subst hgo
    rw [List.append_nil] at happ
    subst happ
    walk_at "s"
    refine k _ _ g2 (rep_lst e2 t2)
def spProg (K : PySem.W.Frag) (m : Nat) : Sp := fun vs H Q _ => ∃ (a : Addr) (l : List (Int × PD)) (at_ : Nat) (d : Int), vs = [.ref a, .int (at_ : Int), .int d] ∧ TRep H (.lst (l.map entry)) (.ref a) ∧ l.length ≤ 1000 ∧ at_ ≤ l.length ∧ (∀ p ∈ l, stepOk p.2 ∧ p.1 < d + (m : Int)) ∧
  ∀ v H', Gr [] H H' → TRep H' (.tup [.tup (progC (l.drop at_) d).1, .int ((l.length : Int) - ((progC (l.drop at_) d).2.length : Int))]) v → Q v H'
def spPrev (K : PySem.W.Frag) : Nat → Sp
  | 0 => fun _ _ _ _ => False
  | j + 1 => spProg K j
theorem entry_rep {H : Hp} {p : Int × PD} {v : V} (h : TRep H (entry p) v) : ∃ t y, v = .ref t ∧ H t = some (.tup [.int p.1, y]) ∧ TRep H p.2 y := by
  obtain ⟨t, xs, rfl, e, r⟩ := rep_tup' h
  unfold TReps at r
  obtain ⟨x, r1, rfl, h1, r⟩ := r
  unfold TReps at r
  obtain ⟨y, r2, rfl, h2, r⟩ := r
  unfold TReps at r
  subst r
  obtain rfl := rep_int' h1
  exact ⟨t, y, rfl, e, h2⟩
theorem sc_program_at : FnScope ["found", "at", "depth", "steps", "step", "within"] ["found", "at", "depth"] (defScope s_program_at) := ⟨rfl, rfl, rfl, by decide +kernel, rfl, by decide +kernel, by decide +kernel⟩
theorem prog_turn (T : TX K mg) (m : Nat) (IH : FnOk P w K mg base CX0 m T.d_program_at.a T.d_program_at.d ["found", "at", "depth"] (spPrev K m)) :
    FnOk P w K mg base CX0 (m + 1) T.d_program_at.a T.d_program_at.d ["found", "at", "depth"] (spProg K m) := by
  refine T.d_program_at.F.ok sc_program_at (fun vs H Q E h => ?_) (fun cdv A outer s H vs Q E hr h => ?_)
  · obtain ⟨_, _, _, _, rfl, _⟩ := h; rfl
  obtain ⟨a, l, at_, d, rfl, tl, hn, hat, hp, k⟩ := h
  obtain ⟨_, zs, h0, ea, tz⟩ := rep_lst' tl
  cases h0
  have hzl := treps_len tz
  rw [List.length_map] at hzl
  refine ⟨_, (pss_cons (ps_set (i := 3) sc_program_at.nd rfl (Or.inl rfl) (pe_lst pa_nil))
  (pss_cons (ps_while PassesOwn.never (PW.pt (pw_and (pt_cmpR op_lt (pv 1) (pe_callB (call_lenK (K := K) rfl) (by rfl) T.z_len bt_len (pa_cons (pv 0) pa_nil)) (nomark _)) (pw_and1 (pt_cmpR (op_eqK (K := K) rfl (hu64 hr)) (pe_ix (ix_anyK (K := K) rfl) (pe_ix (ix_anyK (K := K) rfl) (pv 0) (pv 1) (fun _ _ => rfl)) pe_int (fun _ _ => rfl)) (pv 2) (nomark _)))))
    (pss_cons (ps_set (i := 4) sc_program_at.nd rfl (Or.inl rfl) (pe_ix (ix_anyK (K := K) rfl) (pe_ix (ix_anyK (K := K) rfl) (pv 0) (pv 1) (fun _ _ => rfl)) pe_int (fun _ _ => rfl)))
  (pss_cons (ps_aug (i := 1) sc_program_at.nd rfl (Or.inl rfl) pe_int ip_addA)
  (Evl.pss_cut (ps_if (pt_cmpR (op_inK (K := K) rfl) (pe_ix (ix_anyK (K := K) rfl) (pv 4) pe_int (fun _ _ => rfl)) (pe_glob (v := .ref T.k_BLOCKS.1) (by rfl) T.k_BLOCKS.2.1 rfl) (by rfl))
    (pss_cons (ps_asg (pe_call IH hr (by rfl) T.d_program_at.g T.d_program_at.F.kp T.d_program_at.b .nil pass0 (pa_cons (pv 0) (pa_cons (pv 1) (pa_cons (pe_op (op_addK (K := K) rfl) (pv 2) pe_int) pa_nil)))) (pg_tupK (K := K) (n := 2) rfl rfl (pgs_cons (pg_name (i := 5) sc_program_at.nd rfl (Or.inl rfl)) (pgs_cons (pg_name (i := 1) sc_program_at.nd rfl (Or.inl rfl)) pgs_nil))))
  (pss_one (ps_set (i := 4) sc_program_at.nd rfl (Or.inl rfl) (pe_op (op_addK (K := K) rfl) (pv 4) (pe_tup (pa_cons (pv 5) pa_nil))))))
    pss_nil)
  (pss_one (ps_expr (pe_bmK (K := K) rfl PySem.F.plainAttrs_list PySem.F.slot_list_append PySem.F.type_list_append mt_append (pv 3) (pa_cons (pv 4) pa_nil))))))))
  (pss_one (ps_ret (pe_tup (pa_cons (pe_callTy (call_tupK (K := K) rfl) (by rfl) T.z_tuple bt_tuple (pa_cons (pv 3) pa_nil)) (pa_cons (pv 1) pa_nil))))))), ?_⟩
  refine at_start [some (.ref a), some (.int (at_ : Int)), some (.int d), none, none, none] rfl ?_
  walk_at "s"
  refine w_kLst (fun f H1 g1 hf e1 => ?_) (by simp)
  walk_at "s"
  obtain ⟨W, hW⟩ : ∃ W : Nat → L2.St → Hp → Prop, W = fun μ σ H' => ∃ (at1 : Nat) (dn : List PD) (xs : List V) (v4 v5 : Option V), σ = [some (.ref a), some (.int (at1 : Int)), some (.int d), some (.ref f), v4, v5] ∧ Gr [] H H' ∧ H' f = some (.lst xs) ∧ TReps H' dn xs ∧ PD.fixs dn = true ∧
    at1 ≤ l.length ∧ μ = l.length - at1 ∧ dn.length ≤ at1 ∧ progC (l.drop at_) d = (dn ++ (progC (l.drop at1) d).1, (progC (l.drop at1) d).2) := ⟨_, rfl⟩
  refine ⟨W, ⟨l.length - at_, by rw [hW]; exact ⟨at_, [], [], none, none, rfl, g1, e1, treps_nil, rfl, hat, rfl, Nat.zero_le _, rfl⟩⟩, ?_⟩
  intro μ σ H2 hw2
  rw [hW] at hw2
  obtain ⟨at1, dn, xs, v4, v5, rfl, g2, e2, t2, fx, h1, rfl, hdl, hpc⟩ := hw2
  have ea2 : H2 a = some (.lst zs) := g2.get0 ea
  have fin : (progC (l.drop at1) d) = ([], l.drop at1) → ∀ q H3, Gr [] H2 H3 → H3 q = some (.tup xs) → ∀ q2 H4, Gr [] H3 H4 → H4 q2 = some (.tup [.ref q, .int (at1 : Int)]) → Q (.ref q2) H4 := by
    intro hnil q H3 g3 e3 q2 H4 g4 e4
    refine k _ _ (g2.trans (g3.trans g4)) ?_
    rw [hpc, hnil]
    refine rep_tup e4 (treps_cons (rep_tup (g4.get0 e3) ?_) (treps_cons (rep_int ?_) treps_nil))
    · rw [List.append_nil]; exact g4.reps0 (g3.reps0 t2)
    · simp only [List.length_drop]; omega
  have hlx := treps_len t2
  walk_at "s"
  by_cases hlt : at1 < l.length
  · rw [decide_eq_true (show (at1 : Int) < (zs.length : Int) by omega)]
    obtain ⟨e, st, hes⟩ : ∃ e st, l[at1]? = some (e, st) := ⟨_, _, List.getElem?_eq_getElem hlt⟩
    have hdr : l.drop at1 = (e, st) :: l.drop (at1 + 1) := by
      rw [List.drop_eq_getElem_cons hlt]
      exact congrArg (· :: _) (List.getElem?_eq_some_iff.mp hes).2
    obtain ⟨x, hx, tx⟩ := treps_get' (tz) (show (l.map entry)[at1]? = some (entry (e, st)) by rw [List.getElem?_map, hes]; rfl)
    obtain ⟨t, y, rfl, et, ty⟩ := entry_rep tx
    have et2 := g2.get0 et
    have ty2 := g2.rep0 ty
    obtain ⟨⟨sfx, sn, sr, rfl, hsr⟩, hlow⟩ := hp (e, st) (List.mem_of_getElem? hes)
    walk_at "s"
    refine w_ixL (SqL.of ea2) (atI_nat' hx) ?_
    walk_at "s"
    refine w_ixT (SqT.of et2) (atI_zero rfl) ?_
    walk_at "s"
    by_cases hed : e = d
    · subst hed
      rw [decide_eq_true rfl]
      walk_at "s"
      refine ⟨fun σ' H' => ∃ m', m' < l.length - at1 ∧ W m' σ' H', fun _ _ h => h, ?_⟩
      walk_at "s"
      refine w_ixL (SqL.of ea2) (atI_nat' hx) ?_
      walk_at "s"
      refine w_ixT (SqT.of et2) (show atI _ 1 = some y from rfl) ?_
      walk_at "s"
      obtain ⟨b, ys, rfl, eb, tys⟩ := rep_tup' ty2
      have tys' := tys
      unfold TReps at tys'
      obtain ⟨x1, r1, rfl, tx1, _⟩ := tys'
      obtain rfl := rep_str' tx1
      have hib : inBlocks (.tup (.str sn :: sr)) = inV (V.str sn) [V.str "begin", V.str "late", V.str "in"] := rfl
      refine w_cut (Mid := fun σ' H' => ∃ (at2 : Nat) (y2 : V) (st2 : PD) (v5 : Option V), σ' = [some (.ref a), some (.int (at2 : Int)), some (.int e), some (.ref f), some y2, v5] ∧ Gr [] H2 H' ∧ TRep H' st2 y2 ∧ st2.fix = true ∧ at1 + 1 ≤ at2 ∧ at2 ≤ l.length ∧
        progC (l.drop at1) e = (st2 :: (progC (l.drop at2) e).1, (progC (l.drop at2) e).2)) ?_ ?_
      · walk_at "s"
        refine w_ixT (SqT.of eb) (atI_zero rfl) ?_
        walk_at "s"
        refine w_inQ (Or.inr (T.k_BLOCKS.2.2 _)) rfl rfl ?_
        rw [← hib]
        walk_at "s"
        cases hb : inBlocks (.tup (.str sn :: sr)) with
        | false =>
          walk_at "s"
          refine ⟨at1 + 1, _, _, _, rfl, Gr.refl _ _, ty2, sfx, Nat.le_refl _, hlt, ?_⟩
          rw [hdr, progC_plain hb]
        | true =>
          walk_at "s"
          cases m with
          | zero => exact absurd hlow (by simp)
          | succ j =>
            obtain ⟨k1, hk1, hs1⟩ := progC_suffix (l.drop (at1 + 1)) (e + 1)
            rw [List.length_drop] at hk1
            rw [List.drop_drop] at hs1
            refine ⟨a, l, at1 + 1, e + 1, rfl, rep_lst ea2 (g2.reps0 tz), hn, hlt, fun p hp' => ⟨(hp p hp').1, by have := (hp p hp').2; omega⟩, fun v H3 g3 t3 => ?_⟩
            obtain ⟨q, us, rfl, eq, tu⟩ := rep_tup' t3
            unfold TReps at tu
            obtain ⟨u1, us1, rfl, tu1, tu⟩ := tu
            unfold TReps at tu
            obtain ⟨u2, us2, rfl, tu2, tu⟩ := tu
            unfold TReps at tu
            subst tu
            obtain rfl := rep_int' tu2
            refine w_gtup (SqT.of eq) rfl ?_
            walk_at "s"
            refine w_kTup (fun q4 H4 g4 hq4 e4 => ?_) (by simp)
            have eb4 := g4.get0 (g3.get0 eb)
            have hyl := treps_len tys
            refine w_addT (SqT.of eb4) (SqT.of e4) (by simp) (by simp) (by simp only [List.length_cons, List.length_nil] at hyl ⊢; omega) (fun q5 H5 g5 hq5 e5 => ?_)
            walk_at "s"
            have hat2 : ((l.length : Int) - ((progC (l.drop (at1 + 1)) (e + 1)).2.length : Int)) = ((at1 + 1 + k1 : Nat) : Int) := by
              rw [hs1, List.length_drop]; omega
            rw [hat2]
            refine ⟨at1 + 1 + k1, _, addW (.tup (.str sn :: sr)) (progC (l.drop (at1 + 1)) (e + 1)).1, _, rfl, g3.trans (g4.trans g5), ?_, ?_, by omega, by omega, ?_⟩
            · exact rep_tup e5 (treps_append (g5.reps0 (g4.reps0 (g3.reps0 tys))) (treps_cons (g5.rep0 (g4.rep0 tu1)) treps_nil))
            · exact addW_fix sfx (progC_fix fun p hp' => (hp p (List.mem_of_mem_drop hp')).1.1)
            · rw [hdr, progC_block hb, hs1]
      · rintro σ' H3 ⟨at2, y2, st2, v5', rfl, g3, t3, f3, ha1, ha2, hp2⟩
        have e3 := g3.get0 e2
        walk_at "s"
        refine w_app e3 (by omega) (fun H4 g4 e4 => ?_)
        walk_at "s"
        refine ⟨l.length - at2, by omega, ?_⟩
        rw [hW]
        refine ⟨at2, dn ++ [st2], xs ++ [y2], _, _, rfl, (g2.trans g3).transF g4 hf, e4, ?_, ?_, ha2, rfl, ?_, ?_⟩
        · exact treps_append (Gr.reps1 g4 fx (g3.reps0 t2)) (treps_cons (g4.rep t3 f3) treps_nil)
        · rw [fixs_append, fx]; simp [PD.fixs, f3]
        · rw [List.length_append, List.length_singleton]; omega
        · rw [hpc, hp2, List.append_assoc]; rfl
    · rw [decide_eq_false (show ¬ (V.int e = V.int d) from fun h => hed (by injection h))]
      walk_at "s"
      refine w_tuple (SqL.of e2) (fun q H3 g3 hq e3 => ?_)
      walk_at "s"
      refine w_kTup (fun q2 H4 g4 hq2 e4 => ?_) (by simp)
      walk_at "s"
      exact fin (by rw [hdr]; exact progC_other hed) q H3 g3 e3 q2 H4 g4 e4
  · rw [decide_eq_false (show ¬ (at1 : Int) < (zs.length : Int) by omega)]
    walk_at "s"
    refine w_tuple (SqL.of e2) (fun q H3 g3 hq e3 => ?_)
    walk_at "s"
    refine w_kTup (fun q2 H4 g4 hq2 e4 => ?_) (by simp)
    walk_at "s"
    have hnil : l.drop at1 = [] := by apply List.drop_eq_nil_of_le; omega
    exact fin (by rw [hnil]; rfl) q H3 g3 e3 q2 H4 g4 e4
theorem ok_program_at (T : TX K mg) : ∀ m : Nat, FnOk P w K mg base CX0 (m + 1) T.d_program_at.a T.d_program_at.d ["found", "at", "depth"] (spProg K m)
  | 0 => prog_turn T 0 ⟨fun _ _ _ _ h => h.elim, fun _ _ _ _ _ _ _ _ _ _ _ _ _ h => h.elim⟩
  | m + 1 => prog_turn T (m + 1) (ok_program_at T m)
end
end RS
set_option Elab.async false
set_option linter.all false
set_option maxRecDepth 100000
set_option maxHeartbeats 4000000

namespace RS
open PySem L2
/-! steps by their heads -/
local macro_rules | `(tactic| walk_at "fr") => `(tactic| first
  | assumption
  | exact SqL.of (by assumption)
  | exact SqT.of (by assumption)
  | exact Or.inl (by assumption)
  | exact Or.inr (by assumption)
  | (refine Gr.get (by assumption) ?_ (by walk_at "nin"); walk_at "fr")
  | (refine Gr.tup (by assumption) _ _ ?_; walk_at "fr")
  | (refine SqL.of ?_; walk_at "fr1")
  | (refine SqT.of ?_; walk_at "fr1")
  | (refine Gr.sqL (by assumption) ?_ (by walk_at "nin"); walk_at "fr")
  | (refine Gr.sqT (by assumption) ?_ (by walk_at "nin"); walk_at "fr")
  | (refine Gr.rep0 (by assumption) ?_; walk_at "fr")
  | (refine Gr.reps0 (by assumption) ?_; walk_at "fr"))
local macro_rules | `(tactic| walk_at "fr1") => `(tactic| first
  | assumption
  | (refine Gr.tup (by assumption) _ _ ?_; walk_at "fr1")
  | (refine Gr.get (by assumption) ?_ (by walk_at "nin"); walk_at "fr1"))
local macro_rules | `(tactic| walk_at "nin") => `(tactic| first
  | exact nin_nil
  | assumption
  | (refine nin_one ?_; walk_at "ne"))
local macro_rules | `(tactic| walk_at "ne") => `(tactic| first
  | assumption
  | exact Ne.symm (by assumption)
  | exact ne_new (by assumption) (by assumption)
  | exact Ne.symm (ne_new (by assumption) (by assumption)))
local macro_rules | `(tactic| walk_at "sz") => `(tactic| first
  | assumption
  | omega
  | (simp only [List.length_cons, List.length_nil, List.length_append, List.length_map, CDiv, CDivN, CMul]; omega)
  | decide)
local macro_rules | `(tactic| walk_at "i1") => `(tactic| first
  | ((with_reducible refine' isi_L_list ?vh ?_); (case vh => walk_at "fr"))
  | ((with_reducible refine' isi_T_list ?vh ?_); (case vh => walk_at "fr"))
  | ((with_reducible refine' isi_L_tuple ?vh ?_); (case vh => walk_at "fr"))
  | ((with_reducible refine' isi_T_tuple ?vh ?_); (case vh => walk_at "fr"))
  | ((with_reducible refine' isi_L_str ?vh ?_); (case vh => walk_at "fr"))
  | ((with_reducible refine' isi_T_str ?vh ?_); (case vh => walk_at "fr"))
  | ((with_reducible refine' isi_L_int ?vh ?_); (case vh => walk_at "fr"))
  | ((with_reducible refine' isi_T_int ?vh ?_); (case vh => walk_at "fr"))
  | ((with_reducible refine' isi_L_bool ?vh ?_); (case vh => walk_at "fr"))
  | ((with_reducible refine' isi_T_bool ?vh ?_); (case vh => walk_at "fr")))
local macro_rules | `(tactic| walk_at "s") => `(tactic| repeat (first
  | with_reducible refine Stp.h ?_
  | (with_reducible refine szc ?_ ?_; walk_at "sz")
  | ((with_reducible refine' w_kTyL ?vh ?_); (case vh => walk_at "fr"))
  | ((with_reducible refine' w_lenL ?vh ?_); (case vh => walk_at "fr"))
  | ((with_reducible refine' w_lenT ?vh ?_); (case vh => walk_at "fr"))))
local macro_rules | `(tactic| walk_at "gr") => `(tactic| first
  | exact Gr.refl _ _
  | assumption
  | exact Gr.wide (by assumption)
  | (refine Gr.trans ?_ (by assumption); walk_at "gr")
  | (refine Gr.trans ?_ (Gr.wide (by assumption)); walk_at "gr"))
local macro_rules | `(tactic| walk_at "s2") => `(tactic| (with_reducible refine Stp.h ?_; with_reducible refine Stp.h ?_))

section
variable {P : Program} {w : World} {K : PySem.W.Frag} {mg : Str → Option Value} {base : Heap}
theorem deq_str (a b : Str) : decide ((V.str a : V) = V.str b) = decide (a = b) := by simp only [V.str.injEq]
theorem sc_setting_in : FnScope ["row", "word", "gap", "rest", "name", "more", "written", "value"] ["row"] (defScope s_setting_in) := ⟨rfl, rfl, rfl, by decide +kernel, rfl, by decide +kernel, by decide +kernel⟩
theorem ok_setting_in (T : TX K mg) : FnOk P w K mg base CX0 5 T.d_setting_in.a T.d_setting_in.d ["row"] (spD (one fun z => settingIn z)) := by
  refine T.d_setting_in.F.ok sc_setting_in (fun vs H Q E h => one_len h) (fun cdv A outer s H vs Q E hr h => ?_)
  obtain ⟨d, h, k⟩ := h
  obtain ⟨z, rfl, hz, rfl⟩ := one_open h
  have pl := part_len z " "
  have pl2 := part_len (Txt.partition z " ").2.2 " "
  refine ⟨_, (pss_cons (ps_asg (pe_m1 PySem.F.slot_str_partition PySem.F.type_str_partition mt_partitionA (pv 0) pe_str) (pg_tupK (K := K) (n := 3) rfl rfl (pgs_cons (pg_name (i := 1) sc_setting_in.nd rfl (Or.inl rfl)) (pgs_cons (pg_name (i := 2) sc_setting_in.nd rfl (Or.inl rfl)) (pgs_cons (pg_name (i := 3) sc_setting_in.nd rfl (Or.inl rfl)) pgs_nil)))))
  (pss_cons (ps_asg (pe_m1 PySem.F.slot_str_partition PySem.F.type_str_partition mt_partitionA (pv 3) pe_str) (pg_tupK (K := K) (n := 3) rfl rfl (pgs_cons (pg_name (i := 4) sc_setting_in.nd rfl (Or.inl rfl)) (pgs_cons (pg_name (i := 5) sc_setting_in.nd rfl (Or.inl rfl)) (pgs_cons (pg_name (i := 6) sc_setting_in.nd rfl (Or.inl rfl)) pgs_nil)))))
  (pss_cons (ps_if (PW.pt (pw_or (pt_cmpR (op_neK (K := K) rfl (hu64 hr)) (pv 1) (pe_glob (v := (.str "setting")) (by rfl) T.k_SETTING.2 ⟨_, rfl⟩) (nomark _)) (pw_or1 (pt_not (pt_val (pe_call (ok_is_name T) (hr.mono (by decide)) (by rfl) T.d_is_name.g T.d_is_name.F.kp T.d_is_name.b .nil pass0 (pa_cons (pv 4) pa_nil)))))))
    (pss_one (ps_ret pe_non))
    pss_nil)
  (pss_cons (ps_set (i := 7) sc_setting_in.nd rfl (Or.inl rfl) pe_non)
  (Evl.pss_cut (ps_if (pt_cmpR (op_eqK (K := K) rfl (hu64 hr)) (pv 5) pe_str (nomark _))
    (pss_cons (ps_set (i := 7) sc_setting_in.nd rfl (Or.inl rfl) (pe_call (ok_value_in T) (hr.mono (by decide)) (by rfl) T.d_value_in.g T.d_value_in.F.kp T.d_value_in.b .nil pass0 (pa_cons (pv 6) pa_nil)))
  (pss_one (ps_if (pt_cmp (pc_isN (pv 7)) rfl)
    (pss_one (ps_ret pe_non))
    pss_nil)))
    pss_nil)
  (pss_one (ps_ret (pe_tup (pa_cons (pv 4) (pa_cons (pv 7) pa_nil)))))))))), ?_⟩
  refine at_start [some (.str z), none, none, none, none, none, none, none] rfl ?_
  walk_at "s"
  refine w_part1 (by decide +kernel) (by omega) (fun p H1 g1 hp e1 => ?_)
  refine w_gtup (SqT.of e1) rfl ?_
  walk_at "s"
  refine w_part1 (by decide +kernel) (by omega) (fun p2 H2 g2 hp2 e2 => ?_)
  refine w_gtup (SqT.of e2) rfl ?_
  walk_at "s"
  obtain ⟨d0, un⟩ : ∃ d0, d0 = settingIn z := ⟨_, rfl⟩
  rw [← un] at k
  unfold settingIn at un
  simp only [] at un
  generalize hn : (Txt.partition z " ").1 = word at *
  generalize hm : (Txt.partition z " ").2.2 = rest at *
  generalize hn2 : (Txt.partition rest " ").1 = name at *
  generalize hm2 : (Txt.partition rest " ").2.1 = more at *
  generalize hw2 : (Txt.partition rest " ").2.2 = written at *
  rw [deq_str]
  by_cases hw : word = ("setting" : Str)
  · rw [decide_eq_true hw]
    walk_at "s"
    refine one_use (by omega) (fun v3 H3 g3 t3 => ?_)
    obtain rfl := rep_bl' t3
    walk_at "s"
    cases hN : isName name with
    | false =>
      walk_at "s"
      refine k _ _ (by walk_at "gr") ?_
      rw [un, hN]; simp only [Bool.not_false, Bool.or_true, if_true]; exact rep_non
    | true =>
      rw [if_neg (by rw [decide_eq_true hw, hN]; decide)] at un
      walk_at "s"
      refine w_cut (Mid := fun σ' H' => ∃ (v : V) (dv : PD), σ' = [some (.str z), some (.str word), some (.str (Txt.partition z " ").2.1), some (.str rest), some (.str name), some (.str more), some (.str written), some v] ∧ Gr [] H3 H' ∧ TRep H' dv v ∧ d0 = .tup [.str name, dv]) ?_ ?_
      · walk_at "s"
        rw [deq_str]
        by_cases hb : more = (" " : Str)
        · rw [decide_eq_true hb]
          rw [if_pos hb] at un
          walk_at "s"
          refine one_use (by omega) (fun v4 H4 g4 t4 => ?_)
          walk_at "s"
          cases hv : valueIn written with
          | non =>
            rw [hv] at t4 un
            obtain rfl := rep_non' t4
            walk_at "s"
            refine k _ _ (by walk_at "gr") ?_
            rw [un]; exact rep_non
          | int i =>
            rw [hv] at t4 un
            obtain rfl := rep_int' t4
            walk_at "s"
            exact ⟨_, .int i, rfl, g4, rep_int rfl, un⟩
          | str i =>
            rw [hv] at t4 un
            obtain rfl := rep_str' t4
            walk_at "s"
            exact ⟨_, .str i, rfl, g4, rep_str rfl, un⟩
          | bl i =>
            rw [hv] at t4 un
            obtain rfl := rep_bl' t4
            walk_at "s"
            exact ⟨_, .bl i, rfl, g4, rep_bl rfl, un⟩
          | tup i =>
            rw [hv] at t4 un
            obtain ⟨b, xs, rfl, _, _⟩ := rep_tup' t4
            walk_at "s"
            exact ⟨_, .tup i, rfl, g4, t4, un⟩
          | lst i =>
            rw [hv] at t4 un
            obtain ⟨b, xs, rfl, _, _⟩ := rep_lst' t4
            walk_at "s"
            exact ⟨_, .lst i, rfl, g4, t4, un⟩
        · rw [decide_eq_false hb]
          rw [if_neg hb] at un
          walk_at "s"
          exact ⟨_, .non, rfl, Gr.refl _ _, rep_non, un⟩
      · rintro σ' H' ⟨v, dv, rfl, g, tv, e⟩
        walk_at "s"
        refine w_kTup (fun q H6 g6 hq e6 => ?_) (by simp)
        walk_at "s"
        refine k _ _ (by walk_at "gr") ?_
        rw [e]
        exact rep_tup e6 (treps_cons (rep_str rfl) (treps_cons (g6.rep0 tv) treps_nil))
  · rw [decide_eq_false hw]
    walk_at "s"
    refine k _ _ (by walk_at "gr") ?_
    rw [un, decide_eq_false hw]; simp only [Bool.not_false, Bool.true_or, if_true]; exact rep_non
theorem sc_pick_in : FnScope ["word", "sign"] ["word"] (defScope s_pick_in) := ⟨rfl, rfl, rfl, by decide +kernel, rfl, by decide +kernel, by decide +kernel⟩
theorem ok_pick_in (T : TX K mg) : FnOk P w K mg base CX0 1 T.d_pick_in.a T.d_pick_in.d ["word"] (spD (one fun z => optI (pickIn z))) := by
  refine T.d_pick_in.F.ok sc_pick_in (fun vs H Q E h => one_len h) (fun cdv A outer s H vs Q E hr h => ?_)
  obtain ⟨d, h, k⟩ := h
  obtain ⟨z, rfl, hz, rfl⟩ := one_open h
  refine ⟨_, (pss_cons (ps_if (PW.pt (pw_or (pt_not (pt_chain op_leA op_leA pe_int (pe_callB (call_lenK (K := K) rfl) (by rfl) T.z_len bt_len (pa_cons (pv 0) pa_nil)) (pe_glob (v := (.int 4)) (by rfl) T.k_MOST_FIGURES_sheet.2 ⟨_, rfl⟩))) (pw_or1 (pt_not (pt_val (pe_callB (cr_allK (K := K) rfl rfl) (by rfl) T.z_all bt_all (pa_cons (pe_lc (own := [("sign", 1)]) rfl sc_pick_in.nd (pi_anyK (K := K) rfl (pv 0)) (blkOk_by (N := ["word", "sign"]) (sc := defScope s_pick_in) (own := [("sign", 1)]) (by decide +kernel)) (fun _ _ _ _ _ => (pg_name (i := 1) sc_pick_in.nd rfl (Or.inl rfl))) (fun _ _ _ _ _ => pts_nil) (fun _ _ _ _ _ => (pe_cmpR (op_inK (K := K) rfl) (pv 1) (pe_glob (v := (.str "0123456789")) (by rfl) T.k_FIGURES.2 ⟨_, rfl⟩) (by rfl)))) pa_nil)))))))
    (pss_one (ps_ret pe_non))
    pss_nil)
  (pss_cons (ps_if (PW.pt (pw_and (pt_cmpR (op_eqK (K := K) rfl (hu64 hr)) (pe_ix (ix_anyK (K := K) rfl) (pv 0) pe_int (fun _ _ => rfl)) pe_str (nomark _)) (pw_and1 (pt_cmpR (op_neK (K := K) rfl (hu64 hr)) (pv 0) pe_str (nomark _)))))
    (pss_one (ps_ret pe_non))
    pss_nil)
  (pss_one (ps_ret (pe_callTy call_intA (by rfl) T.z_int bt_int (pa_cons (pv 0) pa_nil)))))), ?_⟩
  refine at_start [some (.str z), none] rfl ?_
  walk_at "s"
  have stop : figsOk z 4 = false → pickIn z = none := fun e => by unfold pickIn; rw [e]; rfl
  refine iteB (fun h1 => ?_) (fun h1 => ?_)
  · walk_at "s"
    refine iteB (fun h2 => ?_) (fun h2 => ?_)
    · walk_at "s"
      refine k _ _ (by walk_at "gr") ?_
      rw [stop (by simp only [figsOk, h1]; simp at h2; simp; omega)]; exact rep_non
    · walk_at "s"
      refine w_iS' ?_
      walk_at "s"
      refine lc_signs [some (.str z), none] rfl (fun c => .bl (decide (c ∈ FIGS.cps.toList))) (by omega) (fun c H1 hc g1 R A kA => ?_) (fun D H1 g1 hD e => ?_)
      · walk_at "s"
        refine ⟨rfl, ?_⟩
        walk_at "s"
        exact kA _ (Gr.refl _ _)
      · walk_at "s"
        refine w_all (bs := z.cps.toList.map fun c => decide (c ∈ FIGS.cps.toList)) (SqL.of (by rw [e, List.map_map]; rfl)) ?_
        walk_at "s"
        have eo : figsOk z 4 = (z.cps.toList.map fun c => decide (c ∈ FIGS.cps.toList)).all id := by simp only [figsOk, h1]; simp at h2; simp [h2]
        refine iteB (fun h3 => ?_) (fun h3 => ?_)
        · walk_at "s"
          refine k _ _ (by walk_at "gr") ?_
          rw [stop (by rw [eo]; simpa using h3)]; exact rep_non
        · have ok : figsOk z 4 = true := by rw [eo]; simpa using h3
          obtain ⟨hd, hn, _⟩ := figs_digits ok
          cases hl : z.cps.toList with
          | nil => exact absurd hl hn
          | cons c r =>
            walk_at "s"
            refine w_ixS (by omega) (atI_zero hl) ?_
            walk_at "s"
            have l0 : lead0 z = decide (c = 48) := by unfold lead0; rw [hl]
            rw [sign_eq (k := 48) (by decide +kernel)]
            have num : ∀ b : Bool, (lead0 z && !decide (z = ("0" : Str))) = b → pickIn z = if b then none else some ((NumText.digitsVal z.cps.toList : Nat) : Int) := by
              intro b hb; unfold pickIn; rw [ok, hb]; cases b <;> rfl
            refine iteB (fun h4 => ?_) (fun h4 => ?_)
            · walk_at "s"
              rw [deq_str]
              refine iteB (fun h5 => ?_) (fun h5 => ?_)
              · walk_at "s"
                refine k _ _ (by walk_at "gr") ?_
                rw [num true (by rw [l0, h4]; exact h5)]; exact rep_non
              · walk_at "s"
                refine w_intS (pick_reads ok).1 (pick_reads ok).2 ?_
                walk_at "s"
                refine k _ _ (by walk_at "gr") ?_
                rw [num false (by rw [l0, h4]; exact h5)]; exact rep_int rfl
            · walk_at "s"
              refine w_intS (pick_reads ok).1 (pick_reads ok).2 ?_
              walk_at "s"
              refine k _ _ (by walk_at "gr") ?_
              rw [num false (by rw [l0, h4]; rfl)]; exact rep_int rfl
  · walk_at "s"
    refine k _ _ (by walk_at "gr") ?_
    rw [stop (by simp only [figsOk, h1]; rfl)]; exact rep_non
def optIV : Option Int → V
  | some i => .int i
  | none => .non
theorem rep_optI {H : Hp} {o : Option Int} {v : V} (h : TRep H (optI o) v) : v = optIV o := by
  cases o with
  | none => exact rep_non' h
  | some i => exact rep_int' h
theorem allSome_none : ∀ {l : List (Option Int)}, inV .non (l.map optIV) = (allSome l).isNone
  | [] => rfl
  | none :: r => by simp [inV, allSome, optIV, eqV]
  | some i :: r => by
    have := allSome_none (l := r)
    simp only [List.map_cons, inv_cons, this, optIV, allSome, Option.isNone_map]
    rfl
theorem allSome_map : ∀ {l : List (Option Int)} {ps : List Int}, allSome l = some ps → l.map optIV = ps.map V.int
  | [], ps, h => by cases h; rfl
  | none :: r, ps, h => by cases h
  | some i :: r, ps, h => by
    simp only [allSome, Option.map_eq_some_iff] at h
    obtain ⟨q, h1, rfl⟩ := h
    simp only [List.map_cons, allSome_map h1]; rfl
def spPicks : Sp := fun vs H Q _ => ∃ z, vs = [.str z] ∧ z.length ≤ 1000000 ∧ ∀ v H', Gr [] H H' → (match picksIn z with
  | none => v = .non
  | some ps => ∃ p, v = .ref p ∧ H p = none ∧ H' p = some (.lst (ps.map V.int))) → Q v H'
theorem cutV_tail (x : V) (xs : List V) : cutV (x :: xs) (some 1) none = xs := by
  unfold cutV
  have e0 : HT.sIx (x :: xs).length 0 (some 1) = 1 := by
    have := HT.sIx_nat (x :: xs).length 0 1
    refine Eq.trans this ?_
    simp
  rw [e0, HT.sIx_none]; simp
theorem sc_picks_in : FnScope ["row", "words", "picks", "word"] ["row"] (defScope s_picks_in) := ⟨rfl, rfl, rfl, by decide +kernel, rfl, by decide +kernel, by decide +kernel⟩
theorem ok_picks_in (T : TX K mg) : FnOk P w K mg base CX0 2 T.d_picks_in.a T.d_picks_in.d ["row"] spPicks := by
  refine T.d_picks_in.F.ok sc_picks_in (fun vs H Q E h => ?_) (fun cdv A outer s H vs Q E hr h => ?_)
  · obtain ⟨z, rfl, _⟩ := h; rfl
  obtain ⟨z, rfl, hz, k⟩ := h
  obtain ⟨sne, sl, sm⟩ := split_blank z
  refine ⟨_, (pss_cons (ps_set (i := 1) sc_picks_in.nd rfl (Or.inl rfl) (pe_m1 PySem.F.slot_str_split PySem.F.type_str_split mt_splitA (pv 0) pe_str))
  (pss_cons (ps_setLc (i := 2) (own := [("word", 3)]) rfl sc_picks_in.nd rfl rfl (sw_true rfl rfl rfl (by decide +kernel)) (pi_anyK (K := K) rfl (pe_slice (sl_anyK (K := K) rfl) (pv 1) (po_some pe_int) po_none)) (blkOk_by (N := ["row", "words", "picks", "word"]) (sc := defScope s_picks_in) (own := [("word", 3)]) (by decide +kernel)) (fun _ _ _ _ _ => (pg_name (i := 3) sc_picks_in.nd rfl (Or.inl rfl))) (fun _ _ _ _ _ => pts_nil) (fun _ _ _ _ _ => (pe_call (ok_pick_in T) (hr.mono (by decide)) (by rfl) T.d_pick_in.g T.d_pick_in.F.kp T.d_pick_in.b .nil pass0 (pa_cons (pv 3) pa_nil))))
  (pss_cons (ps_if (PW.pt (pw_or (pt_cmpR (op_neK (K := K) rfl (hu64 hr)) (pe_ix (ix_anyK (K := K) rfl) (pv 1) pe_int (fun _ _ => rfl)) (pe_glob (v := (.str "weave")) (by rfl) T.k_WEAVE.2 ⟨_, rfl⟩) (nomark _)) (pw_or1 (pt_cmpR (op_inK (K := K) rfl) pe_non (pv 2) (by rfl)))))
    (pss_one (ps_ret pe_non))
    pss_nil)
  (pss_one (ps_ret (pv 2)))))), ?_⟩
  refine at_start [some (.str z), none, none, none] rfl ?_
  walk_at "s"
  refine w_split (by decide +kernel) (by omega) (fun p H1 g1 hp e1 => ?_)
  have un : picksIn z = match Txt.split z " " with
    | [] => none
    | w0 :: r => if w0 = ("weave" : Str) then allSome (r.map pickIn) else none := rfl
  generalize hs : Txt.split z " " = ws at *
  cases ws with
  | nil => exact absurd rfl sne
  | cons w0 r =>
    simp only [] at un
    walk_at "s"
    refine w_iL' ?_
    walk_at "s"
    refine w_slL (SqL.of e1) (fun p2 H2 g2 hp2 e2 => ?_)
    rw [List.map_cons, cutV_tail] at e2
    refine w_kIL (SqL.of e2) ?_
    refine lc_pure [some (.str z), some (.ref p), none, none] rfl (walk_listE (xs := r.map V.str)) rfl (fun H' g => g.sqL (SqL.of e2) nin_nil) (fun _ => true) (fun x => match x with | .str s => optIV (pickIn s) | _ => .non) (fun x H3 hx g3 R A kA kR => ?_) (by simp only [List.length_map, List.length_cons] at sm ⊢; omega) (fun D H3 g3 hD e3 => ?_)
    · obtain ⟨w1, hw1, rfl⟩ := List.mem_map.mp hx
      walk_at "s"
      refine ⟨rfl, ?_⟩
      walk_at "s"
      refine one_use (Nat.le_trans (sl w1 (List.mem_cons_of_mem _ hw1)) hz) (fun v4 H4 g4 t4 => ?_)
      obtain rfl := rep_optI t4
      exact kA _ g4 rfl
    · have e3' : H3 D = some (.lst ((r.map pickIn).map optIV)) := by
        rw [e3, filter_true, List.map_map, List.map_map]; rfl
      walk_at "s"
      refine w_ixL (SqL.of (g3.get0 (g2.get0 e1))) (atI_zero rfl) ?_
      walk_at "s"
      rw [deq_str]
      by_cases h0 : w0 = ("weave" : Str)
      · rw [decide_eq_true h0]
        rw [if_pos h0] at un
        walk_at "s"
        refine w_inQ (Or.inl (SqL.of e3')) rfl (by simp only [List.all_map]; simp only [List.all_eq_true]; intro q _; cases hq : pickIn q <;> simp [optIV, flatV, hq]) ?_
        rw [allSome_none]
        walk_at "s"
        cases ha : allSome (r.map pickIn) with
        | none =>
          rw [ha] at un
          rw [show (none : Option (List Int)).isNone = true from rfl]
          walk_at "s"
          exact k _ _ (by walk_at "gr") (by rw [un])
        | some ps =>
          rw [ha] at un
          rw [show (some ps).isNone = false from rfl]
          walk_at "s"
          refine k _ _ (by walk_at "gr") ?_
          rw [un]
          exact ⟨D, rfl, (g1.trans g2).free hD, by rw [e3', allSome_map ha]⟩
      · rw [decide_eq_false h0]
        rw [if_neg h0] at un
        walk_at "s"
        exact k _ _ (by walk_at "gr") (by rw [un])
end
end RS
set_option Elab.async false
set_option linter.all false
set_option maxRecDepth 100000
set_option maxHeartbeats 4000000

namespace RS
open PySem L2
/-! steps by their heads -/
local macro_rules | `(tactic| walk_at "fr") => `(tactic| first
  | assumption
  | exact SqL.of (by assumption)
  | exact SqT.of (by assumption)
  | exact Or.inl (by assumption)
  | exact Or.inr (by assumption)
  | (refine Gr.get (by assumption) ?_ (by walk_at "nin"); walk_at "fr")
  | (refine Gr.tup (by assumption) _ _ ?_; walk_at "fr")
  | (refine SqL.of ?_; walk_at "fr1")
  | (refine SqT.of ?_; walk_at "fr1")
  | (refine Gr.sqL (by assumption) ?_ (by walk_at "nin"); walk_at "fr")
  | (refine Gr.sqT (by assumption) ?_ (by walk_at "nin"); walk_at "fr")
  | (refine Gr.rep0 (by assumption) ?_; walk_at "fr")
  | (refine Gr.reps0 (by assumption) ?_; walk_at "fr"))
local macro_rules | `(tactic| walk_at "fr1") => `(tactic| first
  | assumption
  | (refine Gr.tup (by assumption) _ _ ?_; walk_at "fr1")
  | (refine Gr.get (by assumption) ?_ (by walk_at "nin"); walk_at "fr1"))
local macro_rules | `(tactic| walk_at "nin") => `(tactic| first
  | exact nin_nil
  | assumption
  | (refine nin_one ?_; walk_at "ne"))
local macro_rules | `(tactic| walk_at "ne") => `(tactic| first
  | assumption
  | exact Ne.symm (by assumption)
  | exact ne_new (by assumption) (by assumption)
  | exact Ne.symm (ne_new (by assumption) (by assumption)))
local macro_rules | `(tactic| walk_at "sz") => `(tactic| first
  | assumption
  | omega
  | (simp only [List.length_cons, List.length_nil, List.length_append, List.length_map, CDiv, CDivN, CMul]; omega)
  | decide)
local macro_rules | `(tactic| walk_at "i1") => `(tactic| first
  | ((with_reducible refine' isi_L_list ?vh ?_); (case vh => walk_at "fr"))
  | ((with_reducible refine' isi_T_list ?vh ?_); (case vh => walk_at "fr"))
  | ((with_reducible refine' isi_L_tuple ?vh ?_); (case vh => walk_at "fr"))
  | ((with_reducible refine' isi_T_tuple ?vh ?_); (case vh => walk_at "fr"))
  | ((with_reducible refine' isi_L_str ?vh ?_); (case vh => walk_at "fr"))
  | ((with_reducible refine' isi_T_str ?vh ?_); (case vh => walk_at "fr"))
  | ((with_reducible refine' isi_L_int ?vh ?_); (case vh => walk_at "fr"))
  | ((with_reducible refine' isi_T_int ?vh ?_); (case vh => walk_at "fr"))
  | ((with_reducible refine' isi_L_bool ?vh ?_); (case vh => walk_at "fr"))
  | ((with_reducible refine' isi_T_bool ?vh ?_); (case vh => walk_at "fr")))
local macro_rules | `(tactic| walk_at "s") => `(tactic| repeat (first
  | with_reducible refine Stp.h ?_
  | (with_reducible refine szc ?_ ?_; walk_at "sz")
  | ((with_reducible refine' w_kTyL ?vh ?_); (case vh => walk_at "fr"))
  | ((with_reducible refine' w_lenL ?vh ?_); (case vh => walk_at "fr"))
  | ((with_reducible refine' w_lenT ?vh ?_); (case vh => walk_at "fr"))))
local macro_rules | `(tactic| walk_at "gr") => `(tactic| first
  | exact Gr.refl _ _
  | assumption
  | exact Gr.wide (by assumption)
  | (refine Gr.trans ?_ (by assumption); walk_at "gr")
  | (refine Gr.trans ?_ (Gr.wide (by assumption)); walk_at "gr"))
local macro_rules | `(tactic| walk_at "s2") => `(tactic| (with_reducible refine Stp.h ?_; with_reducible refine Stp.h ?_))

section
variable {P : Program} {w : World} {K : PySem.W.Frag} {mg : Str → Option Value} {base : Heap}
def spSets (K : PySem.W.Frag) : Sp := fun vs H Q _ => ∃ (a : Addr) (rows : List Str), vs = [.ref a] ∧ SqL K H a (rows.map V.str) ∧ rows.length ≤ 1000 ∧ (∀ r ∈ rows, r.length ≤ 1000000) ∧
  ∀ p xs H', Gr [] H H' → H p = none → H' p = some (.lst xs) → TReps H' (settingsIn rows) xs → Q (.ref p) H'
theorem settingsIn_non {r : Str} {rs : List Str} (h : settingIn r = .non) : settingsIn (r :: rs) = [] := by
  show (match settingIn r with | .non => [] | d => d :: settingsIn rs) = _
  rw [h]
theorem settingsIn_tup {r : Str} {rs : List Str} {l : List PD} (h : settingIn r = .tup l) : settingsIn (r :: rs) = .tup l :: settingsIn rs := by
  show (match settingIn r with | .non => [] | d => d :: settingsIn rs) = _
  rw [h]
theorem settingsIn_fix : ∀ (rows : List Str), PD.fixs (settingsIn rows) = true
  | [] => rfl
  | r :: rs => by
    rcases settingIn_ok r with h1 | ⟨s, v, h1, h2⟩
    · rw [settingsIn_non h1]; rfl
    · rw [settingsIn_tup h1]; simp [PD.fixs, PD.fix, h2, settingsIn_fix rs]
theorem sc_settings_in : FnScope ["rows", "found", "row", "setting"] ["rows"] (defScope s_settings_in) := ⟨rfl, rfl, rfl, by decide +kernel, rfl, by decide +kernel, by decide +kernel⟩
theorem ok_settings_in (T : TX K mg) : FnOk P w K mg base CX0 6 T.d_settings_in.a T.d_settings_in.d ["rows"] (spSets K) := by
  refine T.d_settings_in.F.ok sc_settings_in (fun vs H Q E h => ?_) (fun cdv A outer s H vs Q E hr h => ?_)
  · obtain ⟨a, rows, rfl, _⟩ := h; rfl
  obtain ⟨a, rows, rfl, hL, hn, hz, k⟩ := h
  refine ⟨_, (pss_cons (ps_set (i := 1) sc_settings_in.nd rfl (Or.inl rfl) (pe_lst pa_nil))
  (pss_cons (ps_for PassesOwn.never rfl (pi_anyK (K := K) rfl (pv 0)) (pg_name (i := 2) sc_settings_in.nd rfl (Or.inl rfl))
    (pss_cons (ps_set (i := 3) sc_settings_in.nd rfl (Or.inl rfl) (pe_call (ok_setting_in T) (hr.mono (by decide)) (by rfl) T.d_setting_in.g T.d_setting_in.F.kp T.d_setting_in.b .nil pass0 (pa_cons (pv 2) pa_nil)))
  (pss_cons (ps_if (pt_cmp (pc_isN (pv 3)) rfl)
    (pss_one (ps_ret (pv 1)))
    pss_nil)
  (pss_one (ps_expr (pe_bmK (K := K) rfl PySem.F.plainAttrs_list PySem.F.slot_list_append PySem.F.type_list_append mt_append (pv 1) (pa_cons (pv 3) pa_nil)))))))
  (pss_one (ps_ret (pv 1))))), ?_⟩
  refine at_start [some (.ref a), none, none, none] rfl ?_
  walk_at "s"
  refine w_kLst (fun f H1 g1 hf e1 => ?_) (by simp)
  walk_at "s"
  refine w_iL' ?_
  walk_at "s"
  refine w_kIL (g1.sqL hL nin_nil) ?_
  refine for_it (walk_listE (xs := rows.map V.str)) (fun i σ H' => ∃ (xs : List V) (dn : List PD) (v2 v3 : Option V), σ = [some (.ref a), some (.ref f), v2, v3] ∧
    Gr [] H H' ∧ H' f = some (.lst xs) ∧ TReps H' dn xs ∧ dn.length = i ∧ i ≤ rows.length ∧ settingsIn rows = dn ++ settingsIn (rows.drop i) ∧ PD.fixs dn = true) ?_ ?_ ?_ ?_
  · exact ⟨[], [], none, none, rfl, g1, e1, treps_nil, rfl, Nat.zero_le _, rfl, rfl⟩
  · rintro i σ H' hi ⟨xs, dn, v2, v3, rfl, g, _⟩
    exact g.sqL hL nin_nil
  · rintro i x σ H2 H3 hi ⟨xs, dn, v2, v3, rfl, g2, e2, t2, hdn, hle, hgo, hfx⟩ ⟨rfl, hx⟩
    have hlt : i < rows.length := by simpa using hi
    obtain ⟨row, hrow, rfl⟩ : ∃ row, rows[i]? = some row ∧ x = V.str row := by
      simp only [List.getElem?_map, Option.map_eq_some_iff] at hx
      obtain ⟨r, h1, h2⟩ := hx
      exact ⟨r, h1, h2.symm⟩
    have hm : row.length ≤ 1000000 := hz row (List.mem_of_getElem? hrow)
    have hd : rows.drop i = row :: rows.drop (i + 1) := by
      rw [List.drop_eq_getElem_cons hlt]
      exact congrArg (· :: _) (List.getElem?_eq_some_iff.mp hrow).2
    rw [hd] at hgo
    walk_at "s"
    refine one_use (by omega) (fun v H4 g4 t4 => ?_)
    walk_at "s"
    rcases settingIn_ok row with hs | ⟨s, dv, hs, hsf⟩
    · rw [settingsIn_non hs] at hgo
      rw [hs] at t4
      obtain rfl := rep_non' t4
      walk_at "s"
      refine k f xs H4 (g2.trans g4) hf (g4.get0 e2) ?_
      rw [hgo, List.append_nil]
      exact g4.reps0 t2
    · rw [settingsIn_tup hs] at hgo
      rw [hs] at t4
      obtain ⟨b, ys, rfl, eb, ty⟩ := rep_tup' t4
      walk_at "s"
      have hlx := treps_len t2
      refine w_app (g4.get0 e2) (by omega) (fun H5 g5 e5 => ?_)
      walk_at "s"
      refine ⟨xs ++ [.ref b], dn ++ [.tup [.str s, dv]], _, _, rfl, (g2.trans g4).transF g5 hf, e5, ?_, by rw [List.length_append, hdn]; rfl, hlt, ?_, ?_⟩
      · refine treps_append (Gr.reps1 g5 hfx (g4.reps0 t2)) (treps_cons (g5.rep t4 (by simp [PD.fix, PD.fixs, hsf])) treps_nil)
      · rw [hgo, List.append_assoc]; rfl
      · rw [fixs_append, hfx]; simp [PD.fixs, PD.fix, hsf]
  · rintro σ H' ⟨xs, dn, v2, v3, rfl, g2, e2, t2, hdn, hle, hgo, hfx⟩
    walk_at "s"
    refine k f xs H' g2 hf e2 ?_
    have hd : rows.drop (rows.map V.str).length = [] := by simp
    rw [hgo, hd, show settingsIn [] = [] from rfl, List.append_nil]
    exact t2
def nmVs (sets : List PD) : List V := sets.map fun d => V.str (nameOf d)
def pairOk (d : PD) : Prop := ∃ s v, d = .tup [.str s, v]
theorem pair_rep {H : Hp} {s : Str} {d : PD} {v : V} (h : TRep H (.tup [.str s, d]) v) : ∃ t y, v = .ref t ∧ H t = some (.tup [.str s, y]) ∧ TRep H d y := by
  obtain ⟨t, xs, rfl, e, r⟩ := rep_tup' h
  unfold TReps at r
  obtain ⟨x, r1, rfl, h1, r⟩ := r
  unfold TReps at r
  obtain ⟨y, r2, rfl, h2, r⟩ := r
  unfold TReps at r
  subst r
  obtain rfl := rep_str' h1
  exact ⟨t, y, rfl, e, h2⟩
/-- the first cell of a tuple that is there -/
def fstV (H : Hp) : V → V
  | .ref t => (match H t with | some (.tup (x :: _)) => x | _ => .non)
  | _ => .non
theorem fst_names {H : Hp} : ∀ {sets : List PD} {xs : List V}, TReps H sets xs → (∀ d ∈ sets, pairOk d) → xs.map (fstV H) = nmVs sets
  | [], xs, h, _ => by unfold TReps at h; subst h; rfl
  | d :: ds, xs, h, hp => by
    unfold TReps at h
    obtain ⟨x, r, rfl, h1, h2⟩ := h
    obtain ⟨s, v, rfl⟩ := hp d List.mem_cons_self
    obtain ⟨t, y, rfl, e, _⟩ := pair_rep h1
    rw [List.map_cons, fst_names h2 (fun d hd => hp d (List.mem_cons_of_mem _ hd))]
    simp [fstV, e, nmVs, nameOf]
theorem mem_reps {H : Hp} {x : V} : ∀ {ds : List PD} {xs : List V}, TReps H ds xs → x ∈ xs → ∃ d ∈ ds, TRep H d x
  | [], xs, h, hx => by unfold TReps at h; subst h; exact nomatch hx
  | d :: ds, xs, h, hx => by
    unfold TReps at h
    obtain ⟨y, r, rfl, h1, h2⟩ := h
    rcases List.mem_cons.mp hx with rfl | hx
    · exact ⟨d, List.mem_cons_self, h1⟩
    · obtain ⟨e, he, h3⟩ := mem_reps h2 hx
      exact ⟨e, List.mem_cons_of_mem _ he, h3⟩
def spLookS (K : PySem.W.Frag) : Sp := fun vs H Q _ => ∃ (a : Addr) (sets : List PD) (xs : List V), vs = [.ref a] ∧ H a = some (.lst xs) ∧ TReps H sets xs ∧ (∀ d ∈ sets, pairOk d) ∧ sets.length ≤ 1000 ∧ (sets.map nameOf).Nodup ∧
  ∀ H', Gr [] H H' → Q .non H'
theorem names_flat (sets : List PD) : (nmVs sets).all flatV = true := by simp [nmVs, flatV]
theorem inV_strs (s : Str) (l : List Str) : inV (.str s) (l.map V.str) = decide (s ∈ l) := by
  induction l with
  | nil => rfl
  | cons a r ih =>
    rw [List.map_cons, inv_cons, ih, eqV_str]
    by_cases h : a = s <;> by_cases h2 : s ∈ r <;> simp [h, h2, eq_comm]
    intro e; exact absurd e.symm h
theorem nmVs_eq (sets : List PD) : nmVs sets = (sets.map nameOf).map V.str := by simp [nmVs, Function.comp_def]
theorem cutV_take (xs : List V) (i : Nat) : cutV xs none (some (i : Int)) = xs.take i := by
  unfold cutV
  have e0 : HT.sIx xs.length xs.length (some (i : Int)) = min i xs.length := HT.sIx_nat xs.length xs.length i
  rw [e0, HT.sIx_none]
  simp only [Nat.sub_zero, List.drop_zero]
  by_cases h : i ≤ xs.length
  · rw [Nat.min_eq_left h]
  · rw [Nat.min_eq_right (by omega), List.take_length, List.take_of_length_le (by omega)]
theorem nodup_take {sets : List PD} {i : Nat} (hnd : (sets.map nameOf).Nodup) (hi : i < sets.length) : ¬ nameOf (sets[i]) ∈ (sets.map nameOf).take i := by
  intro hm
  have hl : i < (sets.map nameOf).length := by simpa using hi
  have e : (sets.map nameOf) = (sets.map nameOf).take i ++ ((sets.map nameOf)[i] :: (sets.map nameOf).drop (i + 1)) := by
    rw [← List.drop_eq_getElem_cons hl, List.take_append_drop]
  rw [e] at hnd
  have := (List.nodup_append.mp hnd).2.2 _ hm _ List.mem_cons_self
  simp at this
theorem sc_look_settings : FnScope ["settings", "names", "name", "value", "number"] ["settings"] (defScope s_look_settings) := ⟨rfl, rfl, rfl, by decide +kernel, rfl, by decide +kernel, by decide +kernel⟩
theorem ok_look_settings (T : TX K mg) : FnOk P w K mg base CX0 1 T.d_look_settings.a T.d_look_settings.d ["settings"] (spLookS K) := by
  refine T.d_look_settings.F.ok sc_look_settings (fun vs H Q E h => ?_) (fun cdv A outer s H vs Q E hr h => ?_)
  · obtain ⟨a, rows, xs, rfl, _⟩ := h; rfl
  obtain ⟨a, sets, xs, rfl, hL, tL, hp, hn, hnd, k⟩ := h
  have hlx := treps_len tL
  refine ⟨_, (pss_cons (ps_setLc (i := 1) (own := [("name", 2), ("value", 3)]) rfl sc_look_settings.nd rfl rfl (sw_true rfl rfl rfl (by decide +kernel)) (pi_anyK (K := K) rfl (pv 0)) (blkOk_by (N := ["settings", "names", "name", "value", "number"]) (sc := defScope s_look_settings) (own := [("name", 2), ("value", 3)]) (by decide +kernel)) (fun _ _ _ _ _ => (pg_tupK (K := K) (n := 2) rfl rfl (pgs_cons (pg_name (i := 2) sc_look_settings.nd rfl (Or.inl rfl)) (pgs_cons (pg_name (i := 3) sc_look_settings.nd rfl (Or.inl rfl)) pgs_nil)))) (fun _ _ _ _ _ => pts_nil) (fun _ _ _ _ _ => (pv 2)))
  (pss_one (ps_for PassesOwn.never rfl (piK (f := fun K => iEnum K _) (K := K) rfl (pi_enum (by rfl) T.z_enumerate (pa_cons (pv 1) pa_nil))) (pg_tupK (K := K) (n := 2) rfl rfl (pgs_cons (pg_name (i := 4) sc_look_settings.nd rfl (Or.inl rfl)) (pgs_cons (pg_name (i := 2) sc_look_settings.nd rfl (Or.inl rfl)) pgs_nil)))
    (pss_one (ps_if (pt_cmpR (op_inK (K := K) rfl) (pv 2) (pe_slice (sl_anyK (K := K) rfl) (pv 1) po_none (po_some (pv 4))) (by rfl))
    (pss_one (ps_never))
    pss_nil))))), ?_⟩
  refine at_start [some (.ref a), none, none, none, none] rfl ?_
  walk_at "s"
  refine w_iL' ?_
  walk_at "s"
  refine w_kIL (SqL.of hL) ?_
  refine lc_pure [some (.ref a), none, none, none, none] rfl (walk_listE (xs := xs)) rfl (fun H' g => SqL.of (g.get0 hL)) (fun _ => true) (fstV H) (fun x H3 hx g3 R A kA kR => ?_) (by omega) (fun D H3 g3 hD e3 => ?_)
  · obtain ⟨d, hd, td⟩ := mem_reps tL hx
    obtain ⟨s, v, rfl⟩ := hp d hd
    obtain ⟨t, y, rfl, et, _⟩ := pair_rep td
    refine w_gtup (SqT.of (g3.get0 et)) rfl ?_
    walk_at "s"
    refine ⟨rfl, ?_⟩
    walk_at "s"
    have := kA _ (Gr.refl _ _) rfl
    simpa [fstV, et] using this
  · rw [filter_true, fst_names tL hp] at e3
    walk_at "s"
    refine w_kIE (SqL.of e3) ?_
    refine for_it (walk_enum (xs := nmVs sets)) (fun i σ H' => ∃ (v2 v3 v4 v5 : Option V), σ = [some (.ref a), some (.ref D), v2, v3, v4] ∧ Gr [] H3 H') ?_ ?_ ?_ ?_
    · exact ⟨_, _, _, none, rfl, Gr.refl _ _⟩
    · rintro i σ H' hi ⟨v2, v3, v4, v5, rfl, g⟩
      exact SqL.of (g.get0 e3)
    · rintro i x σ H4 H5 hi ⟨v2, v3, v4, v5, rfl, g4⟩ ⟨q, x0, y0, rfl, hq, rfl, hx, hy⟩
      cases hx
      have g5 : Gr [] H4 (upd H4 q (.tup [.int (i : Nat), y0])) := Gr.new hq
      have e5 : (upd H4 q (.tup [.int (i : Nat), y0])) q = some (.tup [.int (i : Nat), y0]) := upd_same
      generalize upd H4 q (.tup [.int (i : Nat), y0]) = H5 at *
      refine w_gtup (SqT.of e5) rfl ?_
      walk_at "s"
      refine w_slL (SqL.of (g5.get0 (g4.get0 e3))) (fun p6 H6 g6 hp6 e6 => ?_)
      rw [cutV_take] at e6
      have hlt : i < sets.length := by simpa [nmVs] using hi
      have hy' : y0 = V.str (nameOf (sets[i])) := by
        have : (nmVs sets)[i]? = some (V.str (nameOf (sets[i]))) := by simp [nmVs, List.getElem?_map, List.getElem?_eq_getElem hlt]
        exact (Option.some.inj (this.symm.trans hy)).symm
      subst hy'
      refine w_inQ (Or.inl (SqL.of e6)) rfl (by
        rw [List.all_eq_true]; intro x hx; exact List.all_eq_true.mp (names_flat sets) x (List.mem_of_mem_take hx)) ?_
      rw [nmVs_eq, ← List.map_take, inV_strs, decide_eq_false (nodup_take hnd hlt)]
      walk_at "s"
      exact ⟨_, _, _, none, rfl, g4.trans (g5.trans g6)⟩
    · rintro σ H' ⟨v2, v3, v4, v5, rfl, g⟩
      walk_at "s"
      exact k _ (g3.trans g)
def spLookN (K : PySem.W.Frag) : Sp := fun vs H Q _ => ∃ (a b : Addr) (first : Int) (sets : List PD) (l : List (Int × PD)) (xs ys : List V), vs = [.ref a, .ref b, .int first] ∧ H a = some (.lst xs) ∧ TReps H sets xs ∧ (∀ d ∈ sets, pairOk d) ∧ sets.length ≤ 1000 ∧
  H b = some (.lst ys) ∧ TReps H (l.map entry) ys ∧ (∀ p ∈ l, stepOk p.2) ∧ l.all (fun p => stepNamed (sets.map nameOf) p.2) = true ∧ ∀ H', Gr [] H H' → Q .non H'
theorem sc_look_names : FnScope ["settings", "steps", "first", "names", "name", "value", "number", "depth", "step"] ["settings", "steps", "first"] (defScope s_look_names) := ⟨rfl, rfl, rfl, by decide +kernel, rfl, by decide +kernel, by decide +kernel⟩
theorem ok_look_names (T : TX K mg) : FnOk P w K mg base CX0 1 T.d_look_names.a T.d_look_names.d ["settings", "steps", "first"] (spLookN K) := by
  refine T.d_look_names.F.ok sc_look_names (fun vs H Q E h => ?_) (fun cdv A outer s H vs Q E hr h => ?_)
  · obtain ⟨a, b, f, sets, l, xs, ys, rfl, _⟩ := h; rfl
  obtain ⟨a, b, first, sets, l, xs, ys, rfl, hL, tL, hp, hn, hb, tb, hso, hna, k⟩ := h
  have hlx := treps_len tL
  refine ⟨_, (pss_cons (ps_setLc (i := 3) (own := [("name", 4), ("value", 5)]) rfl sc_look_names.nd rfl rfl (sw_true rfl rfl rfl (by decide +kernel)) (pi_anyK (K := K) rfl (pv 0)) (blkOk_by (N := ["settings", "steps", "first", "names", "name", "value", "number", "depth", "step"]) (sc := defScope s_look_names) (own := [("name", 4), ("value", 5)]) (by decide +kernel)) (fun _ _ _ _ _ => (pg_tupK (K := K) (n := 2) rfl rfl (pgs_cons (pg_name (i := 4) sc_look_names.nd rfl (Or.inl rfl)) (pgs_cons (pg_name (i := 5) sc_look_names.nd rfl (Or.inl rfl)) pgs_nil)))) (fun _ _ _ _ _ => pts_nil) (fun _ _ _ _ _ => (pv 4)))
  (pss_one (ps_for PassesOwn.never rfl (piK (f := fun K => iEnum K _) (K := K) rfl (pi_enum (by rfl) T.z_enumerate (pa_cons (pv 1) pa_nil))) (pg_tupK (K := K) (n := 2) rfl rfl (pgs_cons (pg_name (i := 6) sc_look_names.nd rfl (Or.inl rfl)) (pgs_cons (pg_tupK (K := K) (n := 2) rfl rfl (pgs_cons (pg_name (i := 7) sc_look_names.nd rfl (Or.inl rfl)) (pgs_cons (pg_name (i := 8) sc_look_names.nd rfl (Or.inl rfl)) pgs_nil))) pgs_nil)))
    (pss_one (ps_if (PW.pt (pw_and (pt_cmpR (op_inK (K := K) rfl) (pe_ix (ix_anyK (K := K) rfl) (pv 8) pe_int (fun _ _ => rfl)) (pe_tup (pa_cons pe_str (pa_cons pe_str pa_nil))) (by rfl)) (pw_and1 (pt_cmpR (op_ninK (K := K) rfl) (pe_ix (ix_anyK (K := K) rfl) (pv 8) pe_int (fun _ _ => rfl)) (pv 3) (by rfl)))))
    (pss_one (ps_never))
    pss_nil))))), ?_⟩
  refine at_start [some (.ref a), some (.ref b), some (.int first), none, none, none, none, none, none] rfl ?_
  walk_at "s"
  refine w_iL' ?_
  walk_at "s"
  refine w_kIL (SqL.of hL) ?_
  refine lc_pure [some (.ref a), some (.ref b), some (.int first), none, none, none, none, none, none] rfl (walk_listE (xs := xs)) rfl (fun H' g => SqL.of (g.get0 hL)) (fun _ => true) (fstV H) (fun x H3 hx g3 R A kA kR => ?_) (by omega) (fun D H3 g3 hD e3 => ?_)
  · obtain ⟨d, hd, td⟩ := mem_reps tL hx
    obtain ⟨s, v, rfl⟩ := hp d hd
    obtain ⟨t, y, rfl, et, _⟩ := pair_rep td
    refine w_gtup (SqT.of (g3.get0 et)) rfl ?_
    walk_at "s"
    refine ⟨rfl, ?_⟩
    walk_at "s"
    have := kA _ (Gr.refl _ _) rfl
    simpa [fstV, et] using this
  · rw [filter_true, fst_names tL hp] at e3
    walk_at "s"
    refine w_kIE (SqL.of (g3.get0 hb)) ?_
    refine for_it (walk_enum (xs := ys)) (fun i σ H' => ∃ (v3 v4 v5 v6 v7 v8 : Option V), σ = [some (.ref a), some (.ref b), some (.int first), some (.ref D), v3, v4, v5, v6, v7] ∧ Gr [] H3 H') ?_ ?_ ?_ ?_
    · exact ⟨_, _, _, _, _, none, rfl, Gr.refl _ _⟩
    · rintro i σ H' hi ⟨v3, v4, v5, v6, v7, v8, rfl, g⟩
      exact SqL.of (g.get0 (g3.get0 hb))
    · rintro i x σ H4 H5 hi ⟨v3, v4, v5, v6, v7, v8, rfl, g4⟩ ⟨q, x0, y0, rfl, hq, rfl, hx, hy⟩
      cases hx
      have g5 : Gr [] H4 (upd H4 q (.tup [.int (i : Nat), y0])) := Gr.new hq
      have e5 : (upd H4 q (.tup [.int (i : Nat), y0])) q = some (.tup [.int (i : Nat), y0]) := upd_same
      generalize upd H4 q (.tup [.int (i : Nat), y0]) = H5 at *
      refine w_gtup (SqT.of e5) rfl ?_
      walk_at "s"
      obtain ⟨d0, hd0, td0⟩ := treps_get tb hy
      obtain ⟨p0, hp0, rfl⟩ : ∃ p0, p0 ∈ l ∧ entry p0 = d0 := by
        have := List.mem_of_getElem? hd0
        exact List.mem_map.mp this
      obtain ⟨t, y, rfl, et, ty⟩ := entry_rep td0
      refine w_gtup (SqT.of (g5.get0 (g4.get0 (g3.get0 et)))) rfl ?_
      walk_at "s"
      obtain ⟨_, sn, sr, he, _⟩ := hso p0 hp0
      rw [he] at ty
      have hnm := List.all_eq_true.mp hna p0 hp0
      rw [he] at hnm
      obtain ⟨u, us, rfl, eu, tu⟩ := rep_tup' ty
      have tu' := tu
      unfold TReps at tu'
      obtain ⟨x1, r1, rfl, tx1, tr1⟩ := tu'
      obtain rfl := rep_str' tx1
      have eu5 := g5.get0 (g4.get0 (g3.get0 eu))
      refine w_ixT (SqT.of eu5) (atI_zero rfl) ?_
      walk_at "s"
      refine w_kTup (fun q6 H6 g6 hq6 e6 => ?_) (by simp)
      refine w_inQ (Or.inr (SqT.of e6)) rfl rfl ?_
      walk_at "s"
      have fin : ∀ v3 v4 v6 v7 H', Gr [] H5 H' → ∃ w3 w4 w5 w6 w7 w8 : Option V, [some (V.ref a), some (.ref b), some (.int first), some (.ref D), v3, v4, some (.int i), v6, v7] = [some (V.ref a), some (.ref b), some (.int first), some (.ref D), w3, w4, w5, w6, w7] ∧ Gr [] H3 H' :=
        fun v3 v4 v6 v7 H' g => ⟨_, _, _, _, _, none, rfl, g4.trans (g5.trans g)⟩
      unfold stepNamed at hnm
      simp only [] at hnm
      refine iteB (fun hb1 => ?_) (fun hb1 => ?_)
      · have hb1' : inV (.str sn) [.str "set", .str "look"] = true := hb1
        rw [if_pos hb1'] at hnm
        cases sr with
        | nil => exact absurd hnm Bool.false_ne_true
        | cons d1 sr1 =>
          cases d1 with
          | str n =>
            unfold TReps at tr1
            obtain ⟨x2, r2, rfl, tx2, _⟩ := tr1
            obtain rfl := rep_str' tx2
            walk_at "s"
            refine w_ixT (SqT.of (g6.get0 eu5)) (show atI _ ((1 : Nat) : Int) = some (V.str n) from atI_nat' rfl) ?_
            walk_at "s"
            refine w_ninQ (Or.inl (SqL.of (g6.get0 (g5.get0 (g4.get0 e3))))) rfl (names_flat sets) ?_
            have hnm' : inV (.str n) ((sets.map nameOf).map V.str) = true := hnm
            rw [nmVs_eq, hnm']
            walk_at "s"
            exact fin _ _ _ _ _ g6
          | _ => exact absurd hnm Bool.false_ne_true
      · walk_at "s"
        exact fin _ _ _ _ _ g6
    · rintro σ H' ⟨v3, v4, v5, v6, v7, v8, rfl, g⟩
      walk_at "s"
      exact k _ (g3.trans g)
theorem cutV_drop (xs : List V) (i : Nat) : cutV xs (some (i : Int)) none = xs.drop i := by
  unfold cutV
  have e0 : HT.sIx xs.length 0 (some (i : Int)) = min i xs.length := HT.sIx_nat xs.length 0 i
  rw [e0, HT.sIx_none]
  by_cases h : i ≤ xs.length
  · rw [Nat.min_eq_left h]
    apply List.take_of_length_le; rw [List.length_drop]; omega
  · rw [List.drop_eq_nil_of_le (show xs.length ≤ i by omega), List.drop_eq_nil_of_le (show xs.length ≤ min i xs.length by omega)]; simp
theorem rowsGo_ok : ∀ {rs : List Str} {m : Int} {l : List (Int × PD)}, rowsGo rs m = some l → ∀ p ∈ l, stepOk p.2
  | [], m, l, h => by simp only [rowsGo, Option.some.injEq] at h; subst h; exact fun p hp => nomatch hp
  | r :: rs, m, l, h => by
    unfold rowsGo at h
    split at h
    · cases h
    rename_i d st hone
    split at h
    · cases h
    rename_i l' hl'
    simp only [Option.some.injEq] at h
    subst h
    intro p hp
    rcases List.mem_cons.mp hp with rfl | hp
    · exact (rowOne_ok hone).2.1
    · exact rowsGo_ok hl' p hp
theorem rowsGo_len : ∀ {rs : List Str} {m : Int} {l : List (Int × PD)}, rowsGo rs m = some l → l.length = rs.length
  | [], m, l, h => by simp only [rowsGo, Option.some.injEq] at h; subst h; rfl
  | r :: rs, m, l, h => by
    unfold rowsGo at h
    split at h
    · cases h
    rename_i d st hone
    split at h
    · cases h
    rename_i l' hl'
    simp only [Option.some.injEq] at h
    subst h
    rw [List.length_cons, List.length_cons, rowsGo_len hl']
theorem settingsIn_pairs : ∀ (rows : List Str), ∀ d ∈ settingsIn rows, pairOk d
  | [], d, h => nomatch h
  | r :: rs, d, h => by
    rcases settingIn_ok r with h1 | ⟨s, v, h1, h2⟩
    · rw [settingsIn_non h1] at h; exact nomatch h
    · rw [settingsIn_tup h1] at h
      rcases List.mem_cons.mp h with rfl | h
      · exact ⟨s, v, rfl⟩
      · exact settingsIn_pairs rs d h
def spSheet : Sp := fun vs H Q _ => ∃ (z : Str) (sets : List PD) (ps : List Int) (prog : List PD), vs = [.str z] ∧ z.length ≤ 1000000 ∧ (Txt.split z "\n").length ≤ 1000 ∧ sheetFrom z = some (sets, ps, prog) ∧
  (∀ l r, rowsGo (r : List Str) 0 = some l → (∃ q, (Txt.split z "\n").drop sets.length = q :: r) → ∀ p ∈ l, p.1 < 20) ∧
  ∀ t s p y H', Gr [] H H' → H' t = some (.tup [.ref s, .ref p, y]) → H s = none → H p = none → s ≠ p → TRep H' (.lst sets) (.ref s) → H' p = some (.lst (ps.map V.int)) → TRep H' (.tup prog) y → Q (.ref t) H'
theorem sc_sheet_from : FnScope ["text", "rows", "settings", "first", "steps"] ["text"] (defScope s_sheet_from) := ⟨rfl, rfl, rfl, by decide +kernel, rfl, by decide +kernel, by decide +kernel⟩
theorem ok_sheet_from (T : TX K mg) : FnOk P w K mg base CX0 22 T.d_sheet_from.a T.d_sheet_from.d ["text"] spSheet := by
  refine T.d_sheet_from.F.ok sc_sheet_from (fun vs H Q E h => ?_) (fun cdv A outer s H vs Q E hr h => ?_)
  · obtain ⟨z, sets, ps, prog, rfl, _⟩ := h; rfl
  obtain ⟨z, sets, ps, prog, rfl, hz, hm, hs, hdp, k⟩ := h
  obtain ⟨sne, sl, sm⟩ := split_line z
  refine ⟨_, (pss_cons (ps_set (i := 1) sc_sheet_from.nd rfl (Or.inl rfl) (pe_m1 PySem.F.slot_str_split PySem.F.type_str_split mt_splitA (pv 0) pe_str))
  (pss_cons (ps_set (i := 2) sc_sheet_from.nd rfl (Or.inl rfl) (pe_call (ok_settings_in T) (hr.mono (by decide)) (by rfl) T.d_settings_in.g T.d_settings_in.F.kp T.d_settings_in.b .nil pass0 (pa_cons (pv 1) pa_nil)))
  (pss_cons (ps_set (i := 3) sc_sheet_from.nd rfl (Or.inl rfl) (pe_callB (call_lenK (K := K) rfl) (by rfl) T.z_len bt_len (pa_cons (pv 2) pa_nil)))
  (pss_cons (ps_if (PW.pt (pw_or (pt_cmpR (op_eqK (K := K) rfl (hu64 hr)) (pv 3) (pe_callB (call_lenK (K := K) rfl) (by rfl) T.z_len bt_len (pa_cons (pv 1) pa_nil)) (nomark _)) (pw_or1 (pt_cmp (pc_isN (pe_call (ok_picks_in T) (hr.mono (by decide)) (by rfl) T.d_picks_in.g T.d_picks_in.F.kp T.d_picks_in.b .nil pass0 (pa_cons (pe_ix (ix_anyK (K := K) rfl) (pv 1) (pv 3) (fun _ _ => rfl)) pa_nil))) rfl))))
    (pss_one (ps_never))
    pss_nil)
  (pss_cons (ps_set (i := 4) sc_sheet_from.nd rfl (Or.inl rfl) (pe_call (ok_rows_read T) (hr.mono (by decide)) (by rfl) T.d_rows_read.g T.d_rows_read.F.kp T.d_rows_read.b .nil pass0 (pa_cons (pe_slice (sl_anyK (K := K) rfl) (pv 1) (po_some (pe_op (op_addK (K := K) rfl) (pv 3) pe_int)) po_none) (pa_cons (pe_op (op_addK (K := K) rfl) (pv 3) pe_int) pa_nil))))
  (pss_cons (ps_expr (pe_call (ok_look_settings T) (hr.mono (by decide)) (by rfl) T.d_look_settings.g T.d_look_settings.F.kp T.d_look_settings.b .nil pass0 (pa_cons (pv 2) pa_nil)))
  (pss_cons (ps_expr (pe_call (ok_look_names T) (hr.mono (by decide)) (by rfl) T.d_look_names.g T.d_look_names.F.kp T.d_look_names.b .nil pass0 (pa_cons (pv 2) (pa_cons (pv 4) (pa_cons (pe_op (op_addK (K := K) rfl) (pv 3) pe_int) pa_nil)))))
  (pss_one (ps_ret (pe_tup (pa_cons (pv 2) (pa_cons (pe_call (ok_picks_in T) (hr.mono (by decide)) (by rfl) T.d_picks_in.g T.d_picks_in.F.kp T.d_picks_in.b .nil pass0 (pa_cons (pe_ix (ix_anyK (K := K) rfl) (pv 1) (pv 3) (fun _ _ => rfl)) pa_nil)) (pa_cons (pe_ix (ix_anyK (K := K) rfl) (pe_call (ok_program_at T 20) (hr.mono (by decide)) (by rfl) T.d_program_at.g T.d_program_at.F.kp T.d_program_at.b .nil pass0 (pa_cons (pv 4) (pa_cons pe_int (pa_cons pe_int pa_nil)))) pe_int (fun _ _ => rfl)) pa_nil))))))))))))), ?_⟩
  refine at_start [some (.str z), none, none, none, none] rfl ?_
  walk_at "s"
  refine w_split (by decide +kernel) (by omega) (fun p1 H1 g1 hp1 e1 => ?_)
  unfold sheetFrom at hs
  simp only [] at hs
  generalize hrw : Txt.split z "\n" = rows at *
  split at hs
  · cases hs
  rename_i r rs hdrop
  split at hs
  · cases hs
  rename_i ps' hpk
  split at hs
  · cases hs
  rename_i l hgo
  split at hs
  case isFalse => cases hs
  rename_i hcond
  simp only [Option.some.injEq, Prod.mk.injEq] at hs
  obtain ⟨hset, rfl, hpr⟩ := hs
  simp only [Bool.and_eq_true, decide_eq_true_eq] at hcond
  obtain ⟨hnd, hnm⟩ := hcond
  rw [hset] at hdrop hnd hnm
  have hsl : sets.length < rows.length := by
    have := congrArg List.length hdrop
    rw [List.length_drop, List.length_cons] at this; omega
  have hrow : rows[sets.length]? = some r := by
    have := congrArg (fun q => q[0]?) hdrop
    simpa using this
  have hrl : r.length ≤ 1000000 := Nat.le_trans (sl r (List.mem_of_getElem? hrow)) hz
  have hrs : rs = rows.drop (sets.length + 1) := by
    have := congrArg (List.drop 1) hdrop
    rw [List.drop_drop] at this; simpa using this.symm
  have hso : ∀ p ∈ l, stepOk p.2 := rowsGo_ok hgo
  have hpo : ∀ d ∈ sets, pairOk d := by rw [← hset]; exact settingsIn_pairs rows
  walk_at "s"
  refine ⟨p1, rows, rfl, SqL.of e1, hm, fun q hq => Nat.le_trans (sl q hq) hz, fun p2 xs H2 g2 hp2 e2 t2 => ?_⟩
  rw [hset] at t2
  have hxl := treps_len t2
  walk_at "s"
  refine w_lenL (SqL.of (g2.get0 e1)) ?_
  walk_at "s"
  rw [decide_eq_false (show ¬ (V.int ((xs.length : Nat) : Int) = V.int (((rows.map V.str).length : Nat) : Int)) from fun h => by injection h with h; rw [List.length_map] at h; omega)]
  walk_at "s"
  have hix : ∀ H', SqL K H' p1 (rows.map V.str) → ∀ (Q : VK), Q (.str r) H' → rIxA K (.ref p1) (.int (xs.length : Int)) H' Q := fun H' h Q q => w_ixL h (by rw [hxl]; exact atI_nat' (by rw [List.getElem?_map, hrow]; rfl)) q
  refine hix _ (SqL.of (g2.get0 e1)) _ ?_
  walk_at "s"
  refine ⟨r, rfl, hrl, fun v3 H3 g3 m3 => ?_⟩
  rw [hpk] at m3
  simp only [] at m3
  obtain ⟨p3, rfl, hp3, e3⟩ := m3
  walk_at "s"
  refine w_slL (SqL.of (g3.get0 (g2.get0 e1))) (fun p4 H4 g4 hp4 e4 => ?_)
  rw [show ((xs.length : Nat) : Int) + 1 = ((sets.length + 1 : Nat) : Int) by omega, cutV_drop, ← List.map_drop, ← hrs] at e4
  walk_at "s"
  refine ⟨p4, rs, _, l, rfl, SqL.of e4, by rw [hrs, List.length_drop]; omega, fun q hq => Nat.le_trans (sl q (by rw [hrs] at hq; exact List.mem_of_mem_drop hq)) hz, hgo, fun v5 H5 g5 t5 => ?_⟩
  obtain ⟨p5, ys, rfl, e5, ty5⟩ := rep_lst' t5
  walk_at "s"
  have g25 : Gr [] H2 H5 := (g3.trans g4).trans g5
  refine ⟨p2, sets, xs, rfl, g25.get0 e2, g25.reps0 t2, hpo, by omega, hnd, fun H6 g6 => ?_⟩
  walk_at "s"
  have g26 := g25.trans g6
  refine ⟨p2, p5, _, sets, l, xs, ys, rfl, g26.get0 e2, g26.reps0 t2, hpo, by omega, g6.get0 e5, g6.reps0 ty5, hso, hnm, fun H7 g7 => ?_⟩
  have g27 := g26.trans g7
  have g57 := g6.trans g7
  walk_at "s"
  refine hix _ (SqL.of (g27.get0 (g2.get0 e1))) _ ?_
  walk_at "s"
  refine ⟨r, rfl, hrl, fun v8 H8 g8 m8 => ?_⟩
  rw [hpk] at m8
  simp only [] at m8
  obtain ⟨p8, rfl, hp8, e8⟩ := m8
  walk_at "s"
  refine ⟨p5, l, 0, 0, rfl, g8.rep0 (g57.rep0 t5), (by have := rowsGo_len hgo; rw [this, hrs, List.length_drop]; omega), Nat.zero_le _, fun p hp => ⟨hso p hp, by have := hdp l rs hgo ⟨r, hdrop⟩ p hp; omega⟩, fun v9 H9 g9 t9 => ?_⟩
  obtain ⟨p9, us, rfl, e9, tu⟩ := rep_tup' t9
  unfold TReps at tu
  obtain ⟨u1, us1, rfl, tu1, _⟩ := tu
  refine w_ixT (SqT.of e9) (atI_zero rfl) ?_
  walk_at "s"
  refine w_kTup (fun p10 H10 g10 hp10 e10 => ?_) (by simp)
  have g210 : Gr [] H2 H10 := g27.trans (g8.trans (g9.trans g10))
  rw [List.drop_zero, hpr] at tu1
  refine k p10 p2 p8 u1 H10 (g1.trans (g2.trans g210)) e10 (g1.free hp2) ((g1.trans (g2.trans g27)).free hp8) ?_ (rep_lst (g210.get0 e2) (g210.reps0 t2)) (g10.get0 (g9.get0 e8)) (g10.rep0 tu1)
  exact ne_new (g27.get0 e2) hp8
end
end RS
set_option Elab.async false
set_option linter.all false
set_option maxRecDepth 100000
set_option maxHeartbeats 4000000

namespace RS
open PySem L2
/-! steps by their heads -/
local macro_rules | `(tactic| walk_at "fr") => `(tactic| first
  | assumption
  | exact SqL.of (by assumption)
  | exact SqT.of (by assumption)
  | exact Or.inl (by assumption)
  | exact Or.inr (by assumption)
  | (refine Gr.get (by assumption) ?_ (by walk_at "nin"); walk_at "fr")
  | (refine Gr.tup (by assumption) _ _ ?_; walk_at "fr")
  | (refine SqL.of ?_; walk_at "fr1")
  | (refine SqT.of ?_; walk_at "fr1")
  | (refine Gr.sqL (by assumption) ?_ (by walk_at "nin"); walk_at "fr")
  | (refine Gr.sqT (by assumption) ?_ (by walk_at "nin"); walk_at "fr")
  | (refine Gr.rep0 (by assumption) ?_; walk_at "fr")
  | (refine Gr.reps0 (by assumption) ?_; walk_at "fr"))
local macro_rules | `(tactic| walk_at "fr1") => `(tactic| first
  | assumption
  | (refine Gr.tup (by assumption) _ _ ?_; walk_at "fr1")
  | (refine Gr.get (by assumption) ?_ (by walk_at "nin"); walk_at "fr1"))
local macro_rules | `(tactic| walk_at "nin") => `(tactic| first
  | exact nin_nil
  | assumption
  | (refine nin_one ?_; walk_at "ne"))
local macro_rules | `(tactic| walk_at "ne") => `(tactic| first
  | assumption
  | exact Ne.symm (by assumption)
  | exact ne_new (by assumption) (by assumption)
  | exact Ne.symm (ne_new (by assumption) (by assumption)))
local macro_rules | `(tactic| walk_at "sz") => `(tactic| first
  | assumption
  | omega
  | (simp only [List.length_cons, List.length_nil, List.length_append, List.length_map, CDiv, CDivN, CMul]; omega)
  | decide)
local macro_rules | `(tactic| walk_at "i1") => `(tactic| first
  | ((with_reducible refine' isi_L_list ?vh ?_); (case vh => walk_at "fr"))
  | ((with_reducible refine' isi_T_list ?vh ?_); (case vh => walk_at "fr"))
  | ((with_reducible refine' isi_L_tuple ?vh ?_); (case vh => walk_at "fr"))
  | ((with_reducible refine' isi_T_tuple ?vh ?_); (case vh => walk_at "fr"))
  | ((with_reducible refine' isi_L_str ?vh ?_); (case vh => walk_at "fr"))
  | ((with_reducible refine' isi_T_str ?vh ?_); (case vh => walk_at "fr"))
  | ((with_reducible refine' isi_L_int ?vh ?_); (case vh => walk_at "fr"))
  | ((with_reducible refine' isi_T_int ?vh ?_); (case vh => walk_at "fr"))
  | ((with_reducible refine' isi_L_bool ?vh ?_); (case vh => walk_at "fr"))
  | ((with_reducible refine' isi_T_bool ?vh ?_); (case vh => walk_at "fr")))
local macro_rules | `(tactic| walk_at "s") => `(tactic| repeat (first
  | with_reducible refine Stp.h ?_
  | (with_reducible refine szc ?_ ?_; walk_at "sz")
  | ((with_reducible refine' w_kTyL ?vh ?_); (case vh => walk_at "fr"))
  | ((with_reducible refine' w_lenL ?vh ?_); (case vh => walk_at "fr"))
  | ((with_reducible refine' w_lenT ?vh ?_); (case vh => walk_at "fr"))))
local macro_rules | `(tactic| walk_at "gr") => `(tactic| first
  | exact Gr.refl _ _
  | assumption
  | exact Gr.wide (by assumption)
  | (refine Gr.trans ?_ (by assumption); walk_at "gr")
  | (refine Gr.trans ?_ (Gr.wide (by assumption)); walk_at "gr"))
local macro_rules | `(tactic| walk_at "s2") => `(tactic| (with_reducible refine Stp.h ?_; with_reducible refine Stp.h ?_))

section
variable {P : Program} {w : World} {K : PySem.W.Frag} {mg : Str → Option Value} {base : Heap}
def BoxAt (H : Hp) (b : Addr) (n : Int) : Prop := ∃ x y z : Int, H b = some (.lst [.int x, .int y, .int z]) ∧ 0 ≤ x ∧ 0 ≤ z ∧ z ≤ n ∧ n ≤ 1000000000000
theorem BoxAt.live {H : Hp} {b : Addr} {n : Int} (h : BoxAt H b n) : ∃ o, H b = some o := by obtain ⟨x, y, z, h, _⟩ := h; exact ⟨_, h⟩
theorem Gr.box {H H' : Hp} {b : Addr} {n : Int} (g : Gr [] H H') (h : BoxAt H b n) : BoxAt H' b n := by
  obtain ⟨x, y, z, h, r⟩ := h; exact ⟨x, y, z, g.get0 h, r⟩
theorem Gr.boxF {H H' : Hp} {b : Addr} {n : Int} {fp : List Addr} (g : Gr fp H H') (h : BoxAt H b n) (nb : b ∉ fp) : BoxAt H' b n := by
  obtain ⟨x, y, z, h, r⟩ := h; exact ⟨x, y, z, g.get h nb, r⟩
theorem BoxAt.mono {H : Hp} {b : Addr} {n m : Int} (h : BoxAt H b n) (hm : n ≤ m) (h2 : m ≤ 1000000000000) : BoxAt H b m := by
  obtain ⟨x, y, z, h, h0, h1, h2', h3⟩ := h; exact ⟨x, y, z, h, h0, h1, by omega, h2⟩
def spCell (K : PySem.W.Frag) : Sp := fun vs H Q _ => ∃ (s : Addr) (ns : List Int) (k : Nat), vs = [.ref s, .int (k : Int)] ∧ SqL K H s (ns.map V.int) ∧ ∀ i H', Gr [] H H' → Q (.int i) H'
theorem sc_law_cell_at : FnScope ["_law_script", "_law_k"] ["_law_script", "_law_k"] (defScope s_law_cell_at) := ⟨rfl, rfl, rfl, by decide +kernel, rfl, by decide +kernel, by decide +kernel⟩
theorem ok_law_cell_at (T : TX K mg) : FnOk P w K mg base CX0 1 T.d_law_cell_at.a T.d_law_cell_at.d ["_law_script", "_law_k"] (spCell K) := by
  refine T.d_law_cell_at.F.ok sc_law_cell_at (fun vs H Q E h => ?_) (fun cdv A outer s H vs Q E hr h => ?_)
  · obtain ⟨s, ns, k, rfl, _⟩ := h; rfl
  obtain ⟨s, ns, k, rfl, hL, q⟩ := h
  refine ⟨_, (pss_cons (ps_if (pt_cmpR op_lt (pv 1) (pe_callB (call_lenK (K := K) rfl) (by rfl) T.z_len bt_len (pa_cons (pv 0) pa_nil)) (nomark _))
    (pss_one (ps_ret (pe_ix (ix_anyK (K := K) rfl) (pv 0) (pv 1) (fun _ _ => rfl))))
    pss_nil)
  (pss_one (ps_ret pe_int))), ?_⟩
  refine at_start [some (.ref s), some (.int (k : Int))] rfl ?_
  walk_at "s"
  by_cases hlt : k < ns.length
  · rw [decide_eq_true (show (k : Int) < ((ns.map V.int).length : Int) by rw [List.length_map]; omega)]
    walk_at "s"
    refine w_ixL hL (atI_nat' (show (ns.map V.int)[k]? = some (V.int ns[k]) by rw [List.getElem?_map, List.getElem?_eq_getElem hlt]; rfl)) ?_
    walk_at "s"
    exact q _ _ (Gr.refl _ _)
  · rw [decide_eq_false (show ¬ (k : Int) < ((ns.map V.int).length : Int) by rw [List.length_map]; omega)]
    walk_at "s"
    exact q _ _ (Gr.refl _ _)
def spBox (K : PySem.W.Frag) : Sp := fun vs H Q _ => ∃ (s : Addr) (ns : List Int) (k : Nat), vs = [.ref s, .int (k : Int)] ∧ SqL K H s (ns.map V.int) ∧ k ≤ 1000 ∧ ∀ p H', Gr [] H H' → H p = none → BoxAt H' p 0 → Q (.ref p) H'
theorem sc_law_box : FnScope ["_law_script", "_law_k", "_law_cell"] ["_law_script", "_law_k"] (defScope s_law_box) := ⟨rfl, rfl, rfl, by decide +kernel, rfl, by decide +kernel, by decide +kernel⟩
theorem ok_law_box (T : TX K mg) : FnOk P w K mg base CX0 2 T.d_law_box.a T.d_law_box.d ["_law_script", "_law_k"] (spBox K) := by
  refine T.d_law_box.F.ok sc_law_box (fun vs H Q E h => ?_) (fun cdv A outer s H vs Q E hr h => ?_)
  · obtain ⟨s, ns, k, rfl, _⟩ := h; rfl
  obtain ⟨s, ns, k, rfl, hL, hk, q⟩ := h
  refine ⟨_, (pss_cons (ps_set (i := 2) sc_law_box.nd rfl (Or.inl rfl) (pe_call (ok_law_cell_at T) (hr.mono (by decide)) (by rfl) T.d_law_cell_at.g T.d_law_cell_at.F.kp T.d_law_cell_at.b .nil pass0 (pa_cons (pv 0) (pa_cons (pv 1) pa_nil))))
  (pss_one (ps_ret (pe_lst (pa_cons (pe_op op_mulA (pe_callB call_absA (by rfl) T.z_abs bt_abs (pa_cons (pv 2) pa_nil)) (pe_callTy call_intA (by rfl) T.z_int bt_int (pa_cons (pe_cmpR op_ge (pe_callB call_absA (by rfl) T.z_abs bt_abs (pa_cons (pv 2) pa_nil)) (pe_op op_pow pe_int pe_int) (nomark _)) pa_nil))) (pa_cons (pe_op (op_addK (K := K) rfl) (pe_op (op_addK (K := K) rfl) (pe_op op_mod (pv 2) pe_int) (pe_op op_mulA pe_int (pv 1))) pe_int) (pa_cons pe_int pa_nil))))))), ?_⟩
  refine at_start [some (.ref s), some (.int (k : Int)), none] rfl ?_
  walk_at "s"
  refine ⟨s, ns, k, rfl, hL, fun i H1 g1 => ?_⟩
  walk_at "s"
  refine szc ?_ ?_
  · show CPow 10 18; unfold CPow; decide
  walk_at "s"
  refine w_kLst (fun p H2 g2 hp e2 => ?_) (by simp only [List.length_cons, List.length_nil]; omega)
  walk_at "s"
  have nn : ∀ bb : Bool, 0 ≤ (if i < 0 then -i else i) * (if bb = true then (1 : Int) else 0) := by
    intro bb
    apply Int.mul_nonneg
    · split <;> omega
    · cases bb <;> decide
  refine q p H2 (g1.trans g2) (g1.free hp) ⟨_, _, 0, e2, nn _, Int.le_refl _, Int.le_refl _, by decide⟩
theorem w_setL {p : Addr} {xs : List V} {k : Int} {j : Nat} {v : V} {H : Hp} {Q : Hp → Prop} (h : H p = some (.lst xs)) (hj : ixN xs.length k = some j) (q : ∀ H', Gr [p] H H' → H' p = some (.lst (xs.set j v)) → Q H') : rSetL (.ref p) (.int k) v H Q :=
  ⟨p, xs, k, j, rfl, rfl, h, hj, put_obj (Q := Q) h rfl q⟩
instance {to ti : TE} {t : TSet} {v : V} {σ : L2.St} {H : Hp} {Q : L2.St → Hp → Prop} : Stp (gSub to ti t v σ H Q) (to σ H fun o H1 => ti σ H1 fun i H2 => t o i v H2 fun H3 => Q σ H3) := ⟨id⟩
def spTake : Sp := fun vs H Q _ => ∃ (b : Addr) (n m : Int), vs = [.ref b, .int m] ∧ BoxAt H b n ∧ n < 1000000000000 ∧ 0 < m ∧ m < 1073741824 ∧ ∀ v H', Gr [b] H H' → BoxAt H' b (n + 1) → 0 ≤ v → v < m → Q (.int v) H'
theorem sc_law_take : FnScope ["_law_box_here", "_law_many", "_law_found", "_law_once", "_law_twice"] ["_law_box_here", "_law_many"] (defScope s_law_take) := ⟨rfl, rfl, rfl, by decide +kernel, rfl, by decide +kernel, by decide +kernel⟩
theorem ok_law_take (T : TX K mg) : FnOk P w K mg base CX0 1 T.d_law_take.a T.d_law_take.d ["_law_box_here", "_law_many"] spTake := by
  refine T.d_law_take.F.ok sc_law_take (fun vs H Q E h => ?_) (fun cdv A outer s H vs Q E hr h => ?_)
  · obtain ⟨b, n, m, rfl, _⟩ := h; rfl
  obtain ⟨b, n, m, rfl, hb, hn, hm, hm2, q⟩ := h
  obtain ⟨x, y, z, eb, hx, hz, hzn, hn2⟩ := hb
  refine ⟨_, (pss_cons (ps_if (pt_cmpR op_gt (pe_ix (ix_anyK (K := K) rfl) (pv 0) pe_int (fun _ _ => rfl)) pe_int (nomark _))
    (pss_cons (ps_set (i := 2) sc_law_take.nd rfl (Or.inl rfl) (pe_op op_mod (pe_ix (ix_anyK (K := K) rfl) (pv 0) pe_int (fun _ _ => rfl)) (pv 1)))
  (pss_cons (ps_asg (pe_op op_fdivA (pe_ix (ix_anyK (K := K) rfl) (pv 0) pe_int (fun _ _ => rfl)) (pv 1)) (pg_sub (pv 0) pe_int set_list))
  (pss_one (ps_ret (pv 2)))))
    pss_nil)
  (pss_cons (ps_asg (pe_op (op_addK (K := K) rfl) (pe_ix (ix_anyK (K := K) rfl) (pv 0) pe_int (fun _ _ => rfl)) pe_int) (pg_sub (pv 0) pe_int set_list))
  (pss_cons (ps_set (i := 3) sc_law_take.nd rfl (Or.inl rfl) (pe_op op_mod (pe_op op_mulA (pe_op (op_addK (K := K) rfl) (pe_ix (ix_anyK (K := K) rfl) (pv 0) pe_int (fun _ _ => rfl)) (pe_op op_mulA pe_int (pe_ix (ix_anyK (K := K) rfl) (pv 0) pe_int (fun _ _ => rfl)))) (pe_op (op_addK (K := K) rfl) pe_int (pe_ix (ix_anyK (K := K) rfl) (pv 0) pe_int (fun _ _ => rfl)))) pe_int))
  (pss_cons (ps_set (i := 4) sc_law_take.nd rfl (Or.inl rfl) (pe_op op_mod (pe_op op_mulA (pe_op (op_addK (K := K) rfl) (pv 3) (pe_ix (ix_anyK (K := K) rfl) (pv 0) pe_int (fun _ _ => rfl))) (pe_op (op_addK (K := K) rfl) (pe_op op_mod (pv 3) pe_int) pe_int)) pe_int))
  (pss_one (ps_ret (pe_op op_mod (pe_op op_fdivA (pe_op op_mod (pe_op (op_addK (K := K) rfl) (pe_op op_mulA (pv 4) pe_int) (pv 3)) pe_int) pe_int) (pv 1)))))))), ?_⟩
  refine at_start [some (.ref b), some (.int m), none, none, none] rfl ?_
  walk_at "s"
  have i0 : ∀ (H' : Hp) (x z : Int) (Q : VK), H' b = some (.lst [.int x, .int y, .int z]) → Q (.int x) H' → rIxA K (.ref b) (.int 0) H' Q := fun H' x z Q e q => w_ixL (SqL.of e) (atI_zero rfl) q
  have i1 : ∀ (H' : Hp) (x z : Int) (Q : VK), H' b = some (.lst [.int x, .int y, .int z]) → Q (.int y) H' → rIxA K (.ref b) (.int 1) H' Q := fun H' x z Q e q => w_ixL (SqL.of e) (show atI _ ((1 : Nat) : Int) = some (V.int y) from atI_nat' rfl) q
  have i2 : ∀ (H' : Hp) (x z : Int) (Q : VK), H' b = some (.lst [.int x, .int y, .int z]) → Q (.int z) H' → rIxA K (.ref b) (.int 2) H' Q := fun H' x z Q e q => w_ixL (SqL.of e) (show atI _ ((2 : Nat) : Int) = some (V.int z) from atI_nat' rfl) q
  refine i0 _ _ _ _ eb ?_
  walk_at "s"
  refine iteB (fun h1 => ?_) (fun h1 => ?_)
  · walk_at "s"
    refine i0 _ _ _ _ eb ?_
    walk_at "s"
    refine i0 _ _ _ _ eb ?_
    walk_at "s"
    refine w_setL eb rfl (fun H1 g1 e1 => ?_)
    walk_at "s"
    refine q _ H1 g1 ⟨_, _, _, e1, Int.ediv_nonneg hx (by omega), hz, by omega, by omega⟩ (Int.emod_nonneg _ (by omega)) (Int.emod_lt_of_pos _ hm)
  · walk_at "s"
    refine i2 _ _ _ _ eb ?_
    walk_at "s"
    refine w_setL eb rfl (fun H1 g1 e1 => ?_)
    have e1' : H1 b = some (.lst [.int x, .int y, .int (z + 1)]) := e1
    walk_at "s"
    refine i1 _ _ _ _ e1' ?_
    walk_at "s"
    refine i2 _ _ _ _ e1' ?_
    walk_at "s"
    refine i2 _ _ _ _ e1' ?_
    walk_at "s"
    refine i2 _ _ _ _ e1' ?_
    walk_at "s"
    refine q _ H1 g1 ⟨_, _, _, e1', hx, by omega, by omega, by omega⟩ (Int.emod_nonneg _ (by omega)) (Int.emod_lt_of_pos _ hm)
end
end RS
set_option Elab.async false
set_option linter.all false
set_option maxRecDepth 100000
set_option maxHeartbeats 4000000

namespace RS
open PySem L2
/-! steps by their heads -/
local macro_rules | `(tactic| walk_at "fr") => `(tactic| first
  | assumption
  | exact SqL.of (by assumption)
  | exact SqT.of (by assumption)
  | exact Or.inl (by assumption)
  | exact Or.inr (by assumption)
  | (refine Gr.get (by assumption) ?_ (by walk_at "nin"); walk_at "fr")
  | (refine Gr.tup (by assumption) _ _ ?_; walk_at "fr")
  | (refine SqL.of ?_; walk_at "fr1")
  | (refine SqT.of ?_; walk_at "fr1")
  | (refine Gr.sqL (by assumption) ?_ (by walk_at "nin"); walk_at "fr")
  | (refine Gr.sqT (by assumption) ?_ (by walk_at "nin"); walk_at "fr")
  | (refine Gr.rep0 (by assumption) ?_; walk_at "fr")
  | (refine Gr.reps0 (by assumption) ?_; walk_at "fr"))
local macro_rules | `(tactic| walk_at "fr1") => `(tactic| first
  | assumption
  | (refine Gr.tup (by assumption) _ _ ?_; walk_at "fr1")
  | (refine Gr.get (by assumption) ?_ (by walk_at "nin"); walk_at "fr1"))
local macro_rules | `(tactic| walk_at "nin") => `(tactic| first
  | exact nin_nil
  | assumption
  | (refine nin_one ?_; walk_at "ne"))
local macro_rules | `(tactic| walk_at "ne") => `(tactic| first
  | assumption
  | exact Ne.symm (by assumption)
  | exact ne_new (by assumption) (by assumption)
  | exact Ne.symm (ne_new (by assumption) (by assumption)))
local macro_rules | `(tactic| walk_at "sz") => `(tactic| first
  | assumption
  | omega
  | (simp only [List.length_cons, List.length_nil, List.length_append, List.length_map, CDiv, CDivN, CMul]; omega)
  | decide)
local macro_rules | `(tactic| walk_at "i1") => `(tactic| first
  | ((with_reducible refine' isi_L_list ?vh ?_); (case vh => walk_at "fr"))
  | ((with_reducible refine' isi_T_list ?vh ?_); (case vh => walk_at "fr"))
  | ((with_reducible refine' isi_L_tuple ?vh ?_); (case vh => walk_at "fr"))
  | ((with_reducible refine' isi_T_tuple ?vh ?_); (case vh => walk_at "fr"))
  | ((with_reducible refine' isi_L_str ?vh ?_); (case vh => walk_at "fr"))
  | ((with_reducible refine' isi_T_str ?vh ?_); (case vh => walk_at "fr"))
  | ((with_reducible refine' isi_L_int ?vh ?_); (case vh => walk_at "fr"))
  | ((with_reducible refine' isi_T_int ?vh ?_); (case vh => walk_at "fr"))
  | ((with_reducible refine' isi_L_bool ?vh ?_); (case vh => walk_at "fr"))
  | ((with_reducible refine' isi_T_bool ?vh ?_); (case vh => walk_at "fr")))
local macro_rules | `(tactic| walk_at "s") => `(tactic| repeat (first
  | with_reducible refine Stp.h ?_
  | (with_reducible refine szc ?_ ?_; walk_at "sz")
  | ((with_reducible refine' w_kTyL ?vh ?_); (case vh => walk_at "fr"))
  | ((with_reducible refine' w_lenL ?vh ?_); (case vh => walk_at "fr"))
  | ((with_reducible refine' w_lenT ?vh ?_); (case vh => walk_at "fr"))))
local macro_rules | `(tactic| walk_at "gr") => `(tactic| first
  | exact Gr.refl _ _
  | assumption
  | exact Gr.wide (by assumption)
  | (refine Gr.trans ?_ (by assumption); walk_at "gr")
  | (refine Gr.trans ?_ (Gr.wide (by assumption)); walk_at "gr"))
local macro_rules | `(tactic| walk_at "s2") => `(tactic| (with_reducible refine Stp.h ?_; with_reducible refine Stp.h ?_))

section
variable {P : Program} {w : World} {K : PySem.W.Frag} {mg : Str → Option Value} {base : Heap}
theorem BoxAt.upd {H : Hp} {b D : Addr} {n : Int} {o : HO} (h : BoxAt H b n) (hD : D ≠ b) : BoxAt (upd H D o) b n := by
  obtain ⟨x, y, z, h, r⟩ := h; exact ⟨x, y, z, by rw [upd_ne (Ne.symm hD)]; exact h, r⟩
theorem ne_box {H : Hp} {b D : Addr} {n : Int} (h : BoxAt H b n) (hD : H D = none) : D ≠ b := by
  obtain ⟨o, e⟩ := h.live; rintro rfl; rw [hD] at e; cases e
instance {i j l : Nat} {tA : TA} {D : Ends} {σ : L2.St} {H : Hp} : Stp (tPar3 i j l tA D σ H) (tA σ H (kPar3 i j l D σ)) := ⟨id⟩
theorem BoxAt.of11 {H H' : Hp} {b f : Addr} {n : Int} (h : BoxAt H b n) (g : Gr [f] H H') (nf : f ≠ b) : BoxAt H' b n := g.boxF h (nin_one (Ne.symm nf))
theorem Gr.trans11 {b f : Addr} {H H1 H2 : Hp} (g : Gr [b] H H1) (g2 : Gr [f] H1 H2) (hf : H f = none) : Gr [b] H H2 :=
  ((g.mono fun a h => List.mem_cons_of_mem f h).trans (g2.mono fun a h => by rcases List.mem_cons.mp h with rfl | h; exact List.mem_cons_self; exact nomatch h)).fresh hf
theorem atI_map {α β : Type} {f : α → β} {xs : List α} {v : Int} {x : α} (h : atI xs v = some x) : atI (xs.map f) v = some (f x) := by
  unfold atI at h ⊢
  rw [List.length_map]
  cases hx : ixN xs.length v with
  | none => rw [hx] at h; cases h
  | some i =>
    rw [hx] at h
    simp only [Option.bind_some] at h ⊢
    rw [List.getElem?_map, h]; rfl
theorem lets_nil : Lets [] := fun c h => nomatch h
theorem sum_ones : ∀ (cs : List Nat), (cs.map (Str.length ∘ fun c => (⟨#[c]⟩ : Str))).sum = cs.length
  | [] => rfl
  | a :: r => by rw [List.map_cons, List.sum_cons, sum_ones r, List.length_cons]; show 1 + _ = _; omega
theorem take_use {H : Hp} {b : Addr} {n m : Int} {Q : VK} {E : XK} (hb : BoxAt H b n) (hn : n < 1000000000000) (hm : 0 < m) (hm2 : m < 1073741824) (k : ∀ v H', Gr [b] H H' → BoxAt H' b (n + 1) → 0 ≤ v → v < m → Q (.int v) H') : spTake [.ref b, .int m] H Q E :=
  ⟨b, n, m, rfl, hb, hn, hm, hm2, k⟩
def spNames : Sp := fun vs H Q _ => ∃ (b : Addr) (n : Int) (many : Nat), vs = [.ref b, .int (many : Int)] ∧ BoxAt H b n ∧ n + 100 ≤ 1000000000000 ∧ many ≤ 100 ∧
  ∀ (p : Addr) (ns : List Str) (H' : Hp), Gr [b] H H' → BoxAt H' b (n + 20) → H p = none → H' p = some (.lst (ns.map V.str)) → ns.length = many → (∀ s ∈ ns, isName s = true) → ns.Nodup → Q (.ref p) H'
theorem sc_law_names : FnScope ["_law_box_here", "_law_many", "_law_letters", "_law_size", "_law_stem", "_law_place", "_law_first", "_law_step", "_law_at", "_law_found", "_law_k", "_law_one", "_law_other"] ["_law_box_here", "_law_many"] (defScope s_law_names) := ⟨rfl, rfl, rfl, by decide +kernel, rfl, by decide +kernel, by decide +kernel⟩
theorem ok_law_names (T : TX K mg) : FnOk P w K mg base CX0 2 T.d_law_names.a T.d_law_names.d ["_law_box_here", "_law_many"] spNames := by
  refine T.d_law_names.F.ok sc_law_names (fun vs H Q E h => ?_) (fun cdv A outer s H vs Q E hr h => ?_)
  · obtain ⟨b, n, m, rfl, _⟩ := h; rfl
  obtain ⟨b, n, many, rfl, hb, hn, hm, q⟩ := h
  refine ⟨_, (pss_cons (ps_asg (pe_tup (pa_cons pe_str (pa_cons (pe_op (op_addK (K := K) rfl) pe_int (pe_call (ok_law_take T) (hr.mono (by decide)) (by rfl) T.d_law_take.g T.d_law_take.F.kp T.d_law_take.b .nil pass0 (pa_cons (pv 0) (pa_cons pe_int pa_nil)))) pa_nil))) (pg_tupK (K := K) (n := 2) rfl rfl (pgs_cons (pg_name (i := 2) sc_law_names.nd rfl (Or.inr rfl)) (pgs_cons (pg_name (i := 3) sc_law_names.nd rfl (Or.inl rfl)) pgs_nil))))
  (pss_cons (ps_set (i := 4) sc_law_names.nd rfl (Or.inl rfl) (pe_m1 PySem.F.slot_str_join PySem.F.type_str_join (mt_joinK (K := K) rfl) pe_str (pe_lc (own := [("_law_place", 5)]) rfl sc_law_names.nd (pi_range1 (by rfl) T.z_range (pa_cons (pe_op op_sub (pv 3) pe_int) pa_nil)) (blkOk_by (N := ["_law_box_here", "_law_many", "_law_letters", "_law_size", "_law_stem", "_law_place", "_law_first", "_law_step", "_law_at", "_law_found", "_law_k", "_law_one", "_law_other"]) (sc := defScope s_law_names) (own := [("_law_place", 5)]) (by decide +kernel)) (fun _ _ _ _ _ => (pg_name (i := 5) sc_law_names.nd rfl (Or.inl rfl))) (fun _ _ _ _ _ => pts_nil) (fun _ _ _ _ _ => (pe_ix (ix_anyK (K := K) rfl) (pv 2) (pe_call (ok_law_take T) (hr.mono (by decide)) (by rfl) T.d_law_take.g T.d_law_take.F.kp T.d_law_take.b .nil pass0 (pa_cons (pv 0) (pa_cons pe_int pa_nil))) (fun _ _ => rfl))))))
  (pss_cons (ps_par3 (i := 6) (j := 7) (l := 8) rfl sc_law_names.nd rfl rfl rfl (by decide) (by decide) (by decide) rfl rfl rfl (pa_cons (pe_call (ok_law_take T) (hr.mono (by decide)) (by rfl) T.d_law_take.g T.d_law_take.F.kp T.d_law_take.b .nil pass0 (pa_cons (pv 0) (pa_cons pe_int pa_nil))) (pa_cons (pe_ix (ix_anyK (K := K) rfl) (pe_lst (pa_cons pe_int (pa_cons pe_int (pa_cons pe_int (pa_cons pe_int pa_nil))))) (pe_call (ok_law_take T) (hr.mono (by decide)) (by rfl) T.d_law_take.g T.d_law_take.F.kp T.d_law_take.b .nil pass0 (pa_cons (pv 0) (pa_cons pe_int pa_nil))) (fun _ _ => rfl)) (pa_cons (pe_call (ok_law_take T) (hr.mono (by decide)) (by rfl) T.d_law_take.g T.d_law_take.F.kp T.d_law_take.b .nil pass0 (pa_cons (pv 0) (pa_cons (pe_op op_sub (pv 3) pe_int) pa_nil))) pa_nil))) (by rfl))
  (pss_cons (ps_set (i := 9) sc_law_names.nd rfl (Or.inl rfl) (pe_lst pa_nil))
  (pss_cons (ps_for PassesOwn.never rfl (pi_range1 (by rfl) T.z_range (pa_cons (pv 1) pa_nil)) (pg_name (i := 10) sc_law_names.nd rfl (Or.inl rfl))
    (pss_cons (ps_asg (pe_callB call_divmodA (by rfl) T.z_divmod bt_divmod (pa_cons (pe_op op_mod (pe_op (op_addK (K := K) rfl) (pv 6) (pe_op op_mulA (pv 7) (pv 10))) pe_int) (pa_cons pe_int pa_nil))) (pg_tupK (K := K) (n := 2) rfl rfl (pgs_cons (pg_name (i := 11) sc_law_names.nd rfl (Or.inl rfl)) (pgs_cons (pg_name (i := 12) sc_law_names.nd rfl (Or.inl rfl)) pgs_nil))))
  (pss_one (ps_expr (pe_bmK (K := K) rfl PySem.F.plainAttrs_list PySem.F.slot_list_append PySem.F.type_list_append mt_append (pv 9) (pa_cons (pe_op (op_addK (K := K) rfl) (pe_op (op_addK (K := K) rfl) (pe_op (op_addK (K := K) rfl) (pe_slice (sl_anyK (K := K) rfl) (pv 4) po_none (po_some (pv 8))) (pe_ix (ix_anyK (K := K) rfl) (pv 2) (pv 11) (fun _ _ => rfl))) (pe_ix (ix_anyK (K := K) rfl) (pv 2) (pv 12) (fun _ _ => rfl))) (pe_slice (sl_anyK (K := K) rfl) (pv 4) (po_some (pv 8)) po_none)) pa_nil))))))
  (pss_one (ps_ret (pv 9)))))))), ?_⟩
  refine at_start [some (.ref b), some (.int (many : Int)), none, none, none, none, none, none, none, none, none, none, none] rfl ?_
  walk_at "s"
  refine take_use hb (by omega) (by omega) (by omega) (fun v1 H1 g1 b1 l1 u1 => ?_)
  walk_at "s"
  refine w_kTup (fun pt Ht gt hpt et => ?_) (by simp)
  refine w_gtup (SqT.of et) rfl ?_
  walk_at "s"
  have bt := gt.box b1
  have gT : Gr [b] H Ht := g1.trans gt.wide
  refine w_kIR (by omega) ?_
  refine lc_fx [some (.ref b), some (.int (many : Int)), some (.str LETS), some (.int (2 + v1)), none, none, none, none, none, none, none, none, none] rfl (fp := [b]) (walk_range (lo := 0) (n := (2 + v1 - 2).toNat)) (fun a ha => by
      rcases List.mem_cons.mp ha with rfl | ha
      · exact bt.live
      · exact nomatch ha)
    (fun i acc H' => ∃ cs : List Nat, acc = cs.map (fun c => V.str ⟨#[c]⟩) ∧ (cs.length = i ∧ i ≤ 6) ∧ Lets cs ∧ BoxAt H' b (n + 1 + i)) ?_ ?_ ?_ ?_ ?_ ?_
  · exact fun H' g => ⟨[], rfl, ⟨rfl, by omega⟩, lets_nil, by have := g.box bt; simpa using this⟩
  · rintro i acc H1' D o hD ⟨cs, h1, h2, h3, h4⟩
    exact ⟨cs, h1, h2, h3, h4.upd (ne_box bt hD)⟩
  · exact fun _ _ _ _ _ => trivial
  · rintro i acc H' ⟨cs, rfl, h2, h3, h4⟩
    rw [List.length_map]; omega
  · rintro i x acc H1' H2' hi g1' ⟨cs, rfl, h2, h3, h4⟩ ⟨rfl, rfl⟩ R A kA kR
    walk_at "s"
    refine ⟨rfl, ?_⟩
    walk_at "s"
    refine take_use h4 (by omega) (by omega) (by omega) (fun v2 H3 g3 b3 l3 u3 => ?_)
    refine w_ixS (by decide +kernel) (let_at l3 u3) ?_
    refine kA _ H3 g3 ⟨cs ++ [97 + v2.toNat], by rw [List.map_append]; rfl, ⟨by rw [List.length_append, h2.1]; rfl, by omega⟩, ?_, ?_⟩
    · intro c hc
      rcases List.mem_append.mp hc with hc | hc
      · exact h3 c hc
      · rcases List.mem_cons.mp hc with rfl | hc
        · omega
        · exact nomatch hc
    · have := b3
      rw [show n + 1 + ((i + 1 : Nat) : Int) = n + 1 + (i : Int) + 1 by omega]; exact this
  · rintro D acc H' gD hD eD ⟨cs, rfl, hcs, hls, hbx⟩
    refine w_join (ys := cs.map fun c => (⟨#[c]⟩ : Str)) (SqL.of (by rw [List.map_map]; exact eD)) ?_ ?_
    · rw [List.map_map, show (cs.map (Str.length ∘ fun c => (⟨#[c]⟩ : Str))).sum = cs.length from sum_ones cs, List.length_map, show ("" : Str).length = 0 by decide +kernel]; omega
    walk_at "s"
    have hst := join_signs cs
    generalize Txt.join "" (cs.map fun c => (⟨#[c]⟩ : Str)) = stem at *
    walk_at "s"
    have hb2 : BoxAt H' b (n + 10) := hbx.mono (by omega) (by omega)
    refine take_use hb2 (by omega) (by omega) (by omega) (fun first H3 g3 b3 l3 u3 => ?_)
    walk_at "s"
    refine w_kLst (fun pl H4 g4 hpl e4 => ?_) (by simp)
    walk_at "s"
    refine take_use (g4.box b3) (by omega) (by omega) (by omega) (fun v5 H5 g5 b5 l5 u5 => ?_)
    have nbl : pl ≠ b := ne_box b3 hpl
    have e5 := g5.get e4 (nin_one nbl)
    obtain ⟨step, hst0, hat⟩ : ∃ step : Int, (step = 1 ∨ step = 27 ∨ step = 5 ∨ step = 251) ∧ atI [V.int 1, V.int 27, V.int 5, V.int 251] v5 = some (V.int step) := by
      have : v5 = 0 ∨ v5 = 1 ∨ v5 = 2 ∨ v5 = 3 := by omega
      rcases this with rfl | rfl | rfl | rfl
      · exact ⟨1, by decide, rfl⟩
      · exact ⟨27, by decide, rfl⟩
      · exact ⟨5, by decide, rfl⟩
      · exact ⟨251, by decide, rfl⟩
    refine w_ixL (SqL.of e5) hat ?_
    walk_at "s"
    refine take_use b5 (by omega) (by omega) (by omega) (fun v6 H6 g6 b6 l6 u6 => ?_)
    obtain ⟨a, rfl⟩ : ∃ a : Nat, v6 = (a : Int) := ⟨v6.toNat, by omega⟩
    walk_at "s"
    refine w_kLst (fun f H7 g7 hf e7 => ?_) (by simp)
    walk_at "s"
    refine w_kIR (by omega) ?_
    have nfb : f ≠ b := ne_box b6 hf
    have g07 : Gr [b] H H7 := gT.trans (gD.trans (g3.trans (g4.wide.trans (g5.trans (g6.trans g7.wide)))))
    have b7 := g7.box b6
    have hst6 : (TL.tl stem).length ≤ 6 := by rw [hst]; omega
    have hlst : stem.length ≤ 6 := by rw [TL.len_tl]; exact hst6
    rw [← hst] at hls
    refine for_it (walk_range (lo := 0) (n := (many : Int).toNat)) (fun i σ H' => ∃ v10 v11 v12 : Option V, σ = [some (.ref b), some (.int (many : Int)), some (.str LETS), some (.int (2 + v1)), some (.str stem), none, some (.int first), some (.int step), some (.int a), some (.ref f), v10, v11, v12] ∧
      Gr [b] H H' ∧ BoxAt H' b (n + 20) ∧ H' f = some (.lst ((namesOf stem a first step i).map V.str)) ∧ i ≤ many) ?_ ?_ ?_ ?_
    · exact ⟨none, none, none, rfl, g07, b7.mono (by omega) (by omega), e7, Nat.zero_le _⟩
    · exact fun _ _ _ _ _ => trivial
    · rintro i x σ H8 H9 hi ⟨v10, v11, v12, rfl, g8, b8, e8, hi8⟩ ⟨rfl, rfl⟩
      walk_at "s"
      obtain ⟨v, hv⟩ : ∃ v, v = (first + step * (0 + (i : Int))) % 676 := ⟨_, rfl⟩
      rw [← hv]
      have hv0 : 0 ≤ v := by omega
      have hv1 : v < 676 := by omega
      refine w_divmod (by unfold CDiv; decide) (fun p1 H10 g10 hp1 e10 => ?_)
      refine w_gtup (SqT.of e10) rfl ?_
      walk_at "s"
      refine w_ixS (by decide +kernel) (let_at (v := v / 26) (by omega) (by omega)) ?_
      have lc := fun c : Nat => (show (⟨#[c]⟩ : Str).length = 1 from rfl)
      have l1' : (cutS stem none (some (a : Int))).length ≤ 6 := by rw [TL.len_tl, tl_cut_to, List.length_take]; omega
      have l2' : (cutS stem (some (a : Int)) none).length ≤ 6 := by rw [TL.len_tl, tl_cut_from, List.length_drop]; omega
      walk_at "s"
      refine szc (by rw [lc]; omega) ?_
      walk_at "s"
      refine w_ixS (by decide +kernel) (let_at (v := v % 26) (by omega) (by omega)) ?_
      walk_at "s"
      refine szc (by rw [slen_app, lc, lc]; omega) ?_
      walk_at "s"
      refine szc (by rw [slen_app, slen_app, lc, lc]; omega) ?_
      walk_at "s"
      have e10' := g10.get0 e8
      refine w_app e10' (by simp only [namesOf, List.length_map, List.length_range]; omega) (fun H11 g11 e11 => ?_)
      walk_at "s"
      have hmany : i < many := by simpa using hi
      refine ⟨_, _, _, rfl, ?_, (g10.box b8).of11 g11 nfb, ?_, hmany⟩
      · exact (g8.trans g10.wide).trans11 g11 (gT.free (gD.free (g3.free (g4.free (g5.free (g6.free hf))))))
      · rw [e11]
        simp only [namesOf, List.range_succ, List.map_append, List.map_cons, List.map_nil]
        rw [hv]
        simp only [Int.zero_add, nameAt]
    · rintro σ H8 ⟨v10, v11, v12, rfl, g8, b8, e8, hi8⟩
      walk_at "s"
      refine q f _ H8 g8 b8 ?_ e8 (by simp [namesOf]) (namesOf_name hls hst6) (namesOf_nodup hst0 (by simpa using hm))
      exact gT.free (gD.free (g3.free (g4.free (g5.free (g6.free hf)))))
def spVal : Sp := fun vs H Q _ => ∃ (b : Addr) (n : Int), vs = [.ref b] ∧ BoxAt H b n ∧ n + 100 ≤ 1000000000000 ∧
  ∀ (v : V) (d : PD) (H' : Hp), Gr [b] H H' → BoxAt H' b (n + 60) → wfVal d → TRep H' d v → Q v H'
theorem sc_law_value : FnScope ["_law_box_here", "_law_way", "_law_signs", "_law_place"] ["_law_box_here"] (defScope s_law_value) := ⟨rfl, rfl, rfl, by decide +kernel, rfl, by decide +kernel, by decide +kernel⟩
theorem ok_law_value (T : TX K mg) : FnOk P w K mg base CX0 2 T.d_law_value.a T.d_law_value.d ["_law_box_here"] spVal := by
  refine T.d_law_value.F.ok sc_law_value (fun vs H Q E h => ?_) (fun cdv A outer s H vs Q E hr h => ?_)
  · obtain ⟨b, n, rfl, _⟩ := h; rfl
  obtain ⟨b, n, rfl, hb, hn, q⟩ := h
  refine ⟨_, (pss_cons (ps_set (i := 1) sc_law_value.nd rfl (Or.inl rfl) (pe_call (ok_law_take T) (hr.mono (by decide)) (by rfl) T.d_law_take.g T.d_law_take.F.kp T.d_law_take.b .nil pass0 (pa_cons (pv 0) (pa_cons pe_int pa_nil))))
  (pss_cons (ps_if (pt_cmpR op_lt (pv 1) pe_int (nomark _))
    (pss_one (ps_ret (pe_op op_sub (pe_call (ok_law_take T) (hr.mono (by decide)) (by rfl) T.d_law_take.g T.d_law_take.F.kp T.d_law_take.b .nil pass0 (pa_cons (pv 0) (pa_cons pe_int pa_nil))) pe_int)))
    pss_nil)
  (pss_cons (ps_if (pt_cmpR (op_eqK (K := K) rfl (hu64 hr)) (pv 1) pe_int (nomark _))
    (pss_one (ps_ret (pe_ix (ix_anyK (K := K) rfl) (pe_lst (pa_cons (pe_op op_sub (pe_op op_pow pe_int pe_int) pe_int) (pa_cons (pe_op op_sub pe_int (pe_op op_pow pe_int pe_int)) (pa_cons (pe_op op_pow pe_int pe_int) (pa_cons pe_int pa_nil))))) (pe_call (ok_law_take T) (hr.mono (by decide)) (by rfl) T.d_law_take.g T.d_law_take.F.kp T.d_law_take.b .nil pass0 (pa_cons (pv 0) (pa_cons pe_int pa_nil))) (fun _ _ => rfl))))
    pss_nil)
  (pss_cons (ps_if (pt_cmpR (op_eqK (K := K) rfl (hu64 hr)) (pv 1) pe_int (nomark _))
    (pss_one (ps_ret (pe_ix (ix_anyK (K := K) rfl) (pe_lst (pa_cons pe_str (pa_cons pe_str (pa_cons pe_str (pa_cons pe_str (pa_cons pe_str (pa_cons pe_str (pa_cons pe_str (pa_cons pe_str pa_nil))))))))) (pe_call (ok_law_take T) (hr.mono (by decide)) (by rfl) T.d_law_take.g T.d_law_take.F.kp T.d_law_take.b .nil pass0 (pa_cons (pv 0) (pa_cons pe_int pa_nil))) (fun _ _ => rfl))))
    pss_nil)
  (pss_cons (ps_set (i := 2) sc_law_value.nd rfl (Or.inr rfl) pe_str)
  (pss_one (ps_ret (pe_m1 PySem.F.slot_str_join PySem.F.type_str_join (mt_joinK (K := K) rfl) pe_str (pe_lc (own := [("_law_place", 3)]) rfl sc_law_value.nd (pi_range1 (by rfl) T.z_range (pa_cons (pe_call (ok_law_take T) (hr.mono (by decide)) (by rfl) T.d_law_take.g T.d_law_take.F.kp T.d_law_take.b .nil pass0 (pa_cons (pv 0) (pa_cons (pe_ifExp (pt_cmpR (op_eqK (K := K) rfl (hu64 hr)) (pv 1) pe_int (nomark _)) pe_int pe_int) pa_nil))) pa_nil)) (blkOk_by (N := ["_law_box_here", "_law_way", "_law_signs", "_law_place"]) (sc := defScope s_law_value) (own := [("_law_place", 3)]) (by decide +kernel)) (fun _ _ _ _ _ => (pg_name (i := 3) sc_law_value.nd rfl (Or.inl rfl))) (fun _ _ _ _ _ => pts_nil) (fun _ _ _ _ _ => (pe_ix (ix_anyK (K := K) rfl) (pv 2) (pe_call (ok_law_take T) (hr.mono (by decide)) (by rfl) T.d_law_take.g T.d_law_take.F.kp T.d_law_take.b .nil pass0 (pa_cons (pv 0) (pa_cons (pe_callB (call_lenK (K := K) rfl) (by rfl) T.z_len bt_len (pa_cons (pv 2) pa_nil)) pa_nil))) (fun _ _ => rfl)))))))))))), ?_⟩
  refine at_start [some (.ref b), none, none, none] rfl ?_
  walk_at "s"
  refine take_use hb (by omega) (by omega) (by omega) (fun way H1 g1 b1 l1 u1 => ?_)
  walk_at "s"
  refine iteB (fun c1 => ?_) (fun c1 => ?_)
  · walk_at "s"
    refine take_use b1 (by omega) (by omega) (by omega) (fun v H2 g2 b2 l2 u2 => ?_)
    walk_at "s"
    refine q _ (.int (v - 3)) H2 (g1.trans g2) (b2.mono (by omega) (by omega)) ⟨by omega, by omega⟩ (rep_int rfl)
  · walk_at "s"
    refine iteB (fun c2 => ?_) (fun c2 => ?_)
    · walk_at "s"
      refine szc ?_ ?_
      · show CPow 10 30; unfold CPow; decide
      walk_at "s"
      refine szc ?_ ?_
      · show CPow 10 30; unfold CPow; decide
      walk_at "s"
      refine szc ?_ ?_
      · show CPow 10 29; unfold CPow; decide
      walk_at "s"
      refine w_kLst (fun p2 H2 g2 hp2 e2 => ?_) (by simp)
      walk_at "s"
      refine take_use (g2.box b1) (by omega) (by omega) (by omega) (fun v H3 g3 b3 l3 u3 => ?_)
      obtain ⟨i, hi, hat⟩ : ∃ i : Int, wfVal (.int i) ∧ atI [V.int (10 ^ Int.toNat 30 - 1), V.int (1 - 10 ^ Int.toNat 30), V.int (10 ^ Int.toNat 29), V.int 0] v = some (V.int i) := by
        have : v = 0 ∨ v = 1 ∨ v = 2 ∨ v = 3 := by omega
        rcases this with rfl | rfl | rfl | rfl
        · exact ⟨_, ⟨by decide, by decide⟩, rfl⟩
        · exact ⟨_, ⟨by decide, by decide⟩, rfl⟩
        · exact ⟨_, ⟨by decide, by decide⟩, rfl⟩
        · exact ⟨_, ⟨by decide, by decide⟩, rfl⟩
      refine w_ixL (SqL.of (g3.get e2 (nin_one (ne_box b1 hp2)))) hat ?_
      walk_at "s"
      exact q _ (.int i) H3 (g1.trans (g2.wide.trans g3)) (b3.mono (by omega) (by omega)) hi (rep_int rfl)
    · walk_at "s"
      refine iteB (fun c3 => ?_) (fun c3 => ?_)
      · walk_at "s"
        refine w_kLst (fun p2 H2 g2 hp2 e2 => ?_) (by simp)
        walk_at "s"
        refine take_use (g2.box b1) (by omega) (by omega) (by omega) (fun v H3 g3 b3 l3 u3 => ?_)
        obtain ⟨x, hx, hat⟩ := atI_mem (xs := ([("" : Str), "0", "-1", "a", "none", "'", "\\", " "] : List Str)) l3 u3
        have hw : wfVal (.str x) := (show ∀ x ∈ ([("" : Str), "0", "-1", "a", "none", "'", "\\", " "] : List Str), wfVal (.str x) by
          intro x hx
          have h : ([("" : Str), "0", "-1", "a", "none", "'", "\\", " "] : List Str).all (fun x => decide ((TL.tl x).length ≤ 40) && (TL.tl x).all fun c => decide (32 ≤ c) && decide (c ≤ 126)) = true := by decide +kernel
          have := List.all_eq_true.mp h x hx
          simp only [Bool.and_eq_true, decide_eq_true_eq, List.all_eq_true] at this
          exact this) x hx
        refine w_ixL (SqL.of (g3.get e2 (nin_one (ne_box b1 hp2)))) (atI_map (f := V.str) hat) ?_
        walk_at "s"
        exact q _ (.str x) H3 (g1.trans (g2.wide.trans g3)) (b3.mono (by omega) (by omega)) hw (rep_str rfl)
      · walk_at "s"
        have sg : ∃ z : Str, (∀ c ∈ z.cps.toList, 32 ≤ c ∧ c ≤ 126) ∧ 0 < z.cps.toList.length ∧ z.cps.toList.length < 1000 ∧ z = (" !\"#$&'()*+,-./0123456789:;<=>?@ABCDEFGHIJKLMNOPQRSTUVWXYZ[\\]^_`abcdefghijklmnopqrstuvwxyz{|}~" : Str) := ⟨_, by
          have h : ((" !\"#$&'()*+,-./0123456789:;<=>?@ABCDEFGHIJKLMNOPQRSTUVWXYZ[\\]^_`abcdefghijklmnopqrstuvwxyz{|}~" : Str)).cps.toList.all (fun c => decide (32 ≤ c) && decide (c ≤ 126)) = true := by decide +kernel
          intro c hc
          have := List.all_eq_true.mp h c hc
          simpa using this, by decide +kernel, by decide +kernel, rfl⟩
        obtain ⟨SIG, s1, s2, s3, s4⟩ := sg
        rw [← s4]
        clear s4
        refine iteB (fun _ => ?_) (fun _ => ?_)
        all_goals
          walk_at "s"
          refine take_use b1 (by omega) (by omega) (by omega) (fun m H2 g2 b2 l2 u2 => ?_)
          walk_at "s"
          refine w_kIR (by omega) ?_
          refine lc_fx [some (.ref b), some (.int way), some (.str SIG), none] rfl (fp := [b]) (walk_range (lo := 0) (n := m.toNat)) (fun a ha => by
              rcases List.mem_cons.mp ha with rfl | ha
              · exact b2.live
              · exact nomatch ha)
            (fun i acc H' => ∃ cs : List Nat, acc = cs.map (fun c => V.str ⟨#[c]⟩) ∧ (cs.length = i ∧ i ≤ 40) ∧ (∀ c ∈ cs, 32 ≤ c ∧ c ≤ 126) ∧ BoxAt H' b (n + 2 + i)) ?_ ?_ ?_ ?_ ?_ ?_
          · exact fun H' g => ⟨[], rfl, ⟨rfl, by omega⟩, (fun c h => nomatch h), by have := (g.box b2).mono (m := n + 2 + ((0 : Nat) : Int)) (by omega) (by omega); exact this⟩
          · rintro i acc H1' D o hD ⟨cs, h1, h2, h3, h4⟩
            exact ⟨cs, h1, h2, h3, h4.upd (ne_box b2 hD)⟩
          · exact fun _ _ _ _ _ => trivial
          · rintro i acc H' ⟨cs, rfl, h2, h3, h4⟩
            rw [List.length_map]; omega
          · rintro i x acc H1' H2' hi g1' ⟨cs, rfl, h2, h3, h4⟩ ⟨rfl, rfl⟩ R A kA kR
            walk_at "s"
            refine ⟨rfl, ?_⟩
            walk_at "s"
            refine szc (by rw [len_cps]; omega) ?_
            walk_at "s"
            refine take_use h4 (by omega) (by rw [len_cps]; omega) (by rw [len_cps]; omega) (fun v2 H3 g3 b3 l3 u3 => ?_)
            obtain ⟨c0, hc0, hat⟩ := atI_mem (xs := SIG.cps.toList) l3 (by rw [len_cps] at u3; exact u3)
            refine w_ixS (by rw [len_cps]; omega) hat ?_
            refine kA _ H3 g3 ⟨cs ++ [c0], by rw [List.map_append]; rfl, ⟨by rw [List.length_append, h2.1]; rfl, by omega⟩, ?_, ?_⟩
            · intro c hc
              rcases List.mem_append.mp hc with hc | hc
              · exact h3 c hc
              · rcases List.mem_cons.mp hc with rfl | hc
                · exact s1 _ hc0
                · exact nomatch hc
            · have := b3
              rw [show n + 2 + ((i + 1 : Nat) : Int) = n + 2 + (i : Int) + 1 by omega]; exact this
          · rintro D acc H' gD hD eD ⟨cs, rfl, hcs, hls, hbx⟩
            refine w_join (ys := cs.map fun c => (⟨#[c]⟩ : Str)) (SqL.of (by rw [List.map_map]; exact eD)) ?_ ?_
            · rw [List.map_map, show (cs.map (Str.length ∘ fun c => (⟨#[c]⟩ : Str))).sum = cs.length from sum_ones cs, List.length_map, show ("" : Str).length = 0 by decide +kernel]; omega
            walk_at "s"
            have hst := join_signs cs
            refine q _ (.str _) H' (g1.trans (g2.trans gD)) (hbx.mono (by omega) (by omega)) ⟨by rw [hst]; omega, by rw [hst]; exact hls⟩ (rep_str rfl)
end
end RS
set_option Elab.async false
set_option linter.all false
set_option maxRecDepth 100000
set_option maxHeartbeats 4000000

namespace RS
open PySem L2
/-! steps by their heads -/
local macro_rules | `(tactic| walk_at "fr") => `(tactic| first
  | assumption
  | exact SqL.of (by assumption)
  | exact SqT.of (by assumption)
  | exact Or.inl (by assumption)
  | exact Or.inr (by assumption)
  | (refine Gr.get (by assumption) ?_ (by walk_at "nin"); walk_at "fr")
  | (refine Gr.tup (by assumption) _ _ ?_; walk_at "fr")
  | (refine SqL.of ?_; walk_at "fr1")
  | (refine SqT.of ?_; walk_at "fr1")
  | (refine Gr.sqL (by assumption) ?_ (by walk_at "nin"); walk_at "fr")
  | (refine Gr.sqT (by assumption) ?_ (by walk_at "nin"); walk_at "fr")
  | (refine Gr.rep0 (by assumption) ?_; walk_at "fr")
  | (refine Gr.reps0 (by assumption) ?_; walk_at "fr"))
local macro_rules | `(tactic| walk_at "fr1") => `(tactic| first
  | assumption
  | (refine Gr.tup (by assumption) _ _ ?_; walk_at "fr1")
  | (refine Gr.get (by assumption) ?_ (by walk_at "nin"); walk_at "fr1"))
local macro_rules | `(tactic| walk_at "nin") => `(tactic| first
  | exact nin_nil
  | assumption
  | (refine nin_one ?_; walk_at "ne"))
local macro_rules | `(tactic| walk_at "ne") => `(tactic| first
  | assumption
  | exact Ne.symm (by assumption)
  | exact ne_new (by assumption) (by assumption)
  | exact Ne.symm (ne_new (by assumption) (by assumption)))
local macro_rules | `(tactic| walk_at "sz") => `(tactic| first
  | assumption
  | omega
  | (simp only [List.length_cons, List.length_nil, List.length_append, List.length_map, CDiv, CDivN, CMul]; omega)
  | decide)
local macro_rules | `(tactic| walk_at "i1") => `(tactic| first
  | ((with_reducible refine' isi_L_list ?vh ?_); (case vh => walk_at "fr"))
  | ((with_reducible refine' isi_T_list ?vh ?_); (case vh => walk_at "fr"))
  | ((with_reducible refine' isi_L_tuple ?vh ?_); (case vh => walk_at "fr"))
  | ((with_reducible refine' isi_T_tuple ?vh ?_); (case vh => walk_at "fr"))
  | ((with_reducible refine' isi_L_str ?vh ?_); (case vh => walk_at "fr"))
  | ((with_reducible refine' isi_T_str ?vh ?_); (case vh => walk_at "fr"))
  | ((with_reducible refine' isi_L_int ?vh ?_); (case vh => walk_at "fr"))
  | ((with_reducible refine' isi_T_int ?vh ?_); (case vh => walk_at "fr"))
  | ((with_reducible refine' isi_L_bool ?vh ?_); (case vh => walk_at "fr"))
  | ((with_reducible refine' isi_T_bool ?vh ?_); (case vh => walk_at "fr")))
local macro_rules | `(tactic| walk_at "s") => `(tactic| repeat (first
  | with_reducible refine Stp.h ?_
  | (with_reducible refine szc ?_ ?_; walk_at "sz")
  | ((with_reducible refine' w_kTyL ?vh ?_); (case vh => walk_at "fr"))
  | ((with_reducible refine' w_lenL ?vh ?_); (case vh => walk_at "fr"))
  | ((with_reducible refine' w_lenT ?vh ?_); (case vh => walk_at "fr"))))
local macro_rules | `(tactic| walk_at "gr") => `(tactic| first
  | exact Gr.refl _ _
  | assumption
  | exact Gr.wide (by assumption)
  | (refine Gr.trans ?_ (by assumption); walk_at "gr")
  | (refine Gr.trans ?_ (Gr.wide (by assumption)); walk_at "gr"))
local macro_rules | `(tactic| walk_at "s2") => `(tactic| (with_reducible refine Stp.h ?_; with_reducible refine Stp.h ?_))

section
variable {P : Program} {w : World} {K : PySem.W.Frag} {mg : Str → Option Value} {base : Heap}
abbrev WORDS : List Str := ["begin", "late", "in", "set", "look", "back", "copy", "pass", "weave", "setting", "task"]
theorem words_name : ∀ x ∈ WORDS, isName x = true := by
  have h : WORDS.all isName = true := by decide +kernel
  exact fun x hx => List.all_eq_true.mp h x hx
theorem words_nodup : WORDS.Nodup := by
  have h : (WORDS.map TL.tl).Nodup := by decide +kernel
  rw [List.nodup_iff_pairwise_ne] at h ⊢
  rw [List.pairwise_map] at h
  exact h.imp fun hab e => hab (by rw [e])
def firstOf (a s : Nat) : List Str := (WORDS.drop a ++ WORDS.take a).take s
theorem firstOf_mem {a s : Nat} : ∀ x ∈ firstOf a s, x ∈ WORDS := by
  intro x hx
  have := List.mem_of_mem_take hx
  rcases List.mem_append.mp this with h | h
  · exact List.mem_of_mem_drop h
  · exact List.mem_of_mem_take h
theorem firstOf_nodup {a s : Nat} : (firstOf a s).Nodup := by
  have h : (WORDS.drop a ++ WORDS.take a).Nodup := by
    have p : (WORDS.drop a ++ WORDS.take a).Perm WORDS := (List.perm_append_comm).trans (by rw [List.take_append_drop])
    exact p.nodup_iff.mpr words_nodup
  exact h.sublist (List.take_sublist _ _)
def calledOf (a s : Nat) (ns : List Str) (many : Nat) : List Str := (firstOf a s ++ ns.filter fun x => !decide (x ∈ firstOf a s)).take many
theorem calledOf_name {a s : Nat} {ns : List Str} {many : Nat} (h : ∀ x ∈ ns, isName x = true) : ∀ x ∈ calledOf a s ns many, isName x = true := by
  intro x hx
  rcases List.mem_append.mp (List.mem_of_mem_take hx) with h1 | h1
  · exact words_name x (firstOf_mem x h1)
  · exact h x (List.mem_filter.mp h1).1
theorem calledOf_nodup {a s : Nat} {ns : List Str} {many : Nat} (h : ns.Nodup) : (calledOf a s ns many).Nodup := by
  refine List.Nodup.sublist (List.take_sublist _ _) ?_
  rw [List.nodup_append]
  refine ⟨firstOf_nodup, h.sublist List.filter_sublist, ?_⟩
  intro x hx y hy e
  subst e
  have := (List.mem_filter.mp hy).2
  simp [hx] at this
theorem calledOf_ne {a s : Nat} {ns : List Str} {many : Nat} (hm : 0 < many) (hn : ns ≠ []) : calledOf a s ns many ≠ [] := by
  unfold calledOf
  cases hf : firstOf a s with
  | nil =>
    cases ns with
    | nil => exact absurd rfl hn
    | cons x r =>
      cases many with
      | zero => omega
      | succ k => simp
  | cons x r =>
    cases many with
    | zero => omega
    | succ k => simp
def spCalled : Sp := fun vs H Q _ => ∃ (b : Addr) (n : Int) (many : Nat), vs = [.ref b, .int (many : Int)] ∧ BoxAt H b n ∧ n + 200 ≤ 1000000000000 ∧ many ≤ 61 ∧
  ∀ (p : Addr) (ns : List Str) (H' : Hp), Gr [b] H H' → BoxAt H' b (n + 40) → H p = none → H' p = some (.lst (ns.map V.str)) → ns.length ≤ many → (0 < many → ns ≠ []) → (∀ s ∈ ns, isName s = true) → ns.Nodup → Q (.ref p) H'
theorem sc_law_called : FnScope ["_law_box_here", "_law_many", "_law_words", "_law_at", "_law_some", "_law_first", "_law_name"] ["_law_box_here", "_law_many"] (defScope s_law_called) := ⟨rfl, rfl, rfl, by decide +kernel, rfl, by decide +kernel, by decide +kernel⟩
theorem ok_law_called (T : TX K mg) : FnOk P w K mg base CX0 3 T.d_law_called.a T.d_law_called.d ["_law_box_here", "_law_many"] spCalled := by
  refine T.d_law_called.F.ok sc_law_called (fun vs H Q E h => ?_) (fun cdv A outer s H vs Q E hr h => ?_)
  · obtain ⟨b, n, m, rfl, _⟩ := h; rfl
  obtain ⟨b, n, many, rfl, hb, hn, hm, q⟩ := h
  refine ⟨_, (pss_cons (ps_set (i := 2) sc_law_called.nd rfl (Or.inl rfl) (pe_lst (pa_cons pe_str (pa_cons pe_str (pa_cons pe_str (pa_cons pe_str (pa_cons pe_str (pa_cons pe_str (pa_cons pe_str (pa_cons pe_str (pa_cons pe_str (pa_cons pe_str (pa_cons pe_str pa_nil)))))))))))))
  (pss_cons (ps_par (i := 3) (j := 4) rfl sc_law_called.nd rfl rfl (by decide) rfl rfl (pa_cons (pe_call (ok_law_take T) (hr.mono (by decide)) (by rfl) T.d_law_take.g T.d_law_take.F.kp T.d_law_take.b .nil pass0 (pa_cons (pv 0) (pa_cons pe_int pa_nil))) (pa_cons (pe_ix (ix_anyK (K := K) rfl) (pe_lst (pa_cons pe_int (pa_cons pe_int (pa_cons (pe_call (ok_law_take T) (hr.mono (by decide)) (by rfl) T.d_law_take.g T.d_law_take.F.kp T.d_law_take.b .nil pass0 (pa_cons (pv 0) (pa_cons pe_int pa_nil))) pa_nil)))) (pe_call (ok_law_take T) (hr.mono (by decide)) (by rfl) T.d_law_take.g T.d_law_take.F.kp T.d_law_take.b .nil pass0 (pa_cons (pv 0) (pa_cons pe_int pa_nil))) (fun _ _ => rfl)) pa_nil)) (by rfl))
  (pss_cons (ps_set (i := 5) sc_law_called.nd rfl (Or.inr rfl) (pe_slice (sl_anyK (K := K) rfl) (pe_op (op_addK (K := K) rfl) (pe_slice (sl_anyK (K := K) rfl) (pv 2) (po_some (pv 3)) po_none) (pe_slice (sl_anyK (K := K) rfl) (pv 2) po_none (po_some (pv 3)))) po_none (po_some (pv 4))))
  (pss_one (ps_ret (pe_slice (sl_anyK (K := K) rfl) (pe_op (op_addK (K := K) rfl) (pv 5) (pe_lc (own := [("_law_name", 6)]) rfl sc_law_called.nd (pi_anyK (K := K) rfl (pe_call (ok_law_names T) (hr.mono (by decide)) (by rfl) T.d_law_names.g T.d_law_names.F.kp T.d_law_names.b .nil pass0 (pa_cons (pv 0) (pa_cons (pv 1) pa_nil)))) (blkOk_by (N := ["_law_box_here", "_law_many", "_law_words", "_law_at", "_law_some", "_law_first", "_law_name"]) (sc := defScope s_law_called) (own := [("_law_name", 6)]) (by decide +kernel)) (fun _ _ _ _ _ => (pg_name (i := 6) sc_law_called.nd rfl (Or.inl rfl))) (fun _ _ _ _ _ => pts_one (pt_cmpR (op_ninK (K := K) rfl) (pv 6) (pv 5) (by rfl))) (fun _ _ _ _ _ => (pv 6)))) po_none (po_some (pv 1)))))))), ?_⟩
  refine at_start [some (.ref b), some (.int (many : Int)), none, none, none, none, none] rfl ?_
  walk_at "s"
  refine w_kLst (fun pw H1 g1 hpw e1 => ?_) (by simp)
  walk_at "s"
  refine take_use (g1.box hb) (by omega) (by omega) (by omega) (fun v2 H2 g2 b2 l2 u2 => ?_)
  walk_at "s"
  refine take_use b2 (by omega) (by omega) (by omega) (fun v3 H3 g3 b3 l3 u3 => ?_)
  walk_at "s"
  refine w_kLst (fun p4 H4 g4 hp4 e4 => ?_) (by simp)
  walk_at "s"
  refine take_use (g4.box b3) (by omega) (by omega) (by omega) (fun v5 H5 g5 b5 l5 u5 => ?_)
  obtain ⟨some_, hs4, hat⟩ : ∃ k : Nat, k ≤ 4 ∧ atI [V.int 0, V.int 0, V.int v3] v5 = some (V.int (k : Int)) := by
    have : v5 = 0 ∨ v5 = 1 ∨ v5 = 2 := by omega
    rcases this with rfl | rfl | rfl
    · exact ⟨0, by omega, rfl⟩
    · exact ⟨0, by omega, rfl⟩
    · exact ⟨v3.toNat, by omega, by rw [show ((v3.toNat : Nat) : Int) = v3 by omega]; rfl⟩
  refine w_ixL (SqL.of (g5.get e4 (nin_one (ne_box b3 hp4)))) hat ?_
  walk_at "s"
  obtain ⟨a, rfl⟩ : ∃ a : Nat, v2 = (a : Int) := ⟨v2.toNat, by omega⟩
  have npw : pw ≠ b := ne_box hb hpw
  have ew1 : H1 pw = some (.lst (WORDS.map V.str)) := e1
  have ew5 : H5 pw = some (.lst (WORDS.map V.str)) := g5.get (g4.get0 (g3.get (g2.get ew1 (nin_one npw)) (nin_one npw))) (nin_one npw)
  have wl : WORDS.length = 11 := rfl
  refine w_slL (SqL.of ew5) (fun p6 H6 g6 hp6 e6 => ?_)
  rw [cutV_drop] at e6
  walk_at "s"
  refine w_slL (SqL.of (g6.get0 ew5)) (fun p7 H7 g7 hp7 e7 => ?_)
  rw [cutV_take] at e7
  refine w_addL (g7.get0 e6) e7 (by rw [List.length_drop, List.length_take, List.length_map, wl]; omega) (fun p8 H8 g8 hp8 e8 => ?_)
  walk_at "s"
  refine w_slL (SqL.of e8) (fun p9 H9 g9 hp9 e9 => ?_)
  rw [cutV_take] at e9
  have e9' : H9 p9 = some (.lst ((firstOf a some_).map V.str)) := by
    rw [e9]; simp only [firstOf, List.map_take, List.map_append, List.map_drop]
  walk_at "s"
  have g59 : Gr [] H5 H9 := g6.trans (g7.trans (g8.trans g9))
  have b9 : BoxAt H9 b (n + 3) := (g59.box b5).mono (by omega) (by omega)
  refine w_iL' ?_
  walk_at "s"
  refine ⟨b, n + 3, many, rfl, b9, by omega, by omega, fun p10 ns H10 g10 b10 hp10 e10 hl10 hn10 hd10 => ?_⟩
  have np9 : p9 ≠ b := ne_box (((g6.trans (g7.trans g8)).box b5).mono (m := n + 3) (by omega) (by omega)) hp9
  have e9'' : H10 p9 = some (.lst ((firstOf a some_).map V.str)) := g10.get e9' (nin_one np9)
  refine w_kIL (SqL.of e10) ?_
  refine lc_pure [some (.ref b), some (.int (many : Int)), some (.ref pw), some (.int (a : Int)), some (.int (some_ : Int)), some (.ref p9), none] rfl (walk_listE (xs := ns.map V.str)) rfl (fun H' g => SqL.of (g.get0 e10))
    (fun x => !inV x ((firstOf a some_).map V.str)) (fun x => x) (fun x H11 hx g11 R A kA kR => ?_) (by rw [List.length_map]; omega) (fun D H11 g11 hD e11 => ?_)
  · obtain ⟨nm, hnm, rfl⟩ := List.mem_map.mp hx
    walk_at "s"
    refine ⟨rfl, ?_⟩
    walk_at "s"
    refine w_ninQ (Or.inl (SqL.of (g11.get0 e9''))) rfl (by simp [flatV]) ?_
    walk_at "s"
    refine iteB (fun h => ?_) (fun h => ?_)
    · walk_at "s"
      exact kA _ (Gr.refl _ _) h
    · exact kR _ (Gr.refl _ _) h
  · have e11' : H11 D = some (.lst ((ns.filter fun x => !decide (x ∈ firstOf a some_)).map V.str)) := by
      rw [e11, List.map_id', List.filter_map]
      congr 4
      funext x
      simp only [Function.comp_apply, inV_strs]
    have lf : (firstOf a some_).length ≤ 11 := by unfold firstOf; simp only [List.length_take, List.length_append, List.length_drop, wl]; omega
    refine w_addL (g11.get0 e9'') e11' (by
      rw [List.length_map, List.length_map]
      have := List.length_filter_le (fun x => !decide (x ∈ firstOf a some_)) ns
      omega) (fun p12 H12 g12 hp12 e12 => ?_)
    walk_at "s"
    refine w_slL (SqL.of e12) (fun p13 H13 g13 hp13 e13 => ?_)
    rw [cutV_take, ← List.map_append, ← List.map_take] at e13
    have g1013 : Gr [] H10 H13 := g11.trans (g12.trans g13)
    have g05 : Gr [b] H H5 := g1.wide.trans (g2.trans (g3.trans (g4.wide.trans g5)))
    have gA : Gr [b] H H13 := (g05.trans g59.wide).trans (g10.trans g1013.wide)
    refine q p13 (calledOf a some_ ns many) H13 gA ((g1013.box b10).mono (by omega) (by omega)) ?_ e13 ?_ ?_ (calledOf_name hn10) (calledOf_nodup hd10)
    · exact (g05.trans g59.wide).free (g10.free ((g11.trans g12).free hp13))
    · unfold calledOf; rw [List.length_take]; omega
    · exact fun h => calledOf_ne h (by rintro rfl; simp at hl10; omega)
end
end RS
set_option Elab.async false
set_option linter.all false
set_option maxRecDepth 100000
set_option maxHeartbeats 4000000

namespace RS
open PySem L2
/-! steps by their heads -/
local macro_rules | `(tactic| walk_at "fr") => `(tactic| first
  | assumption
  | exact SqL.of (by assumption)
  | exact SqT.of (by assumption)
  | exact Or.inl (by assumption)
  | exact Or.inr (by assumption)
  | (refine Gr.get (by assumption) ?_ (by walk_at "nin"); walk_at "fr")
  | (refine Gr.tup (by assumption) _ _ ?_; walk_at "fr")
  | (refine SqL.of ?_; walk_at "fr1")
  | (refine SqT.of ?_; walk_at "fr1")
  | (refine Gr.sqL (by assumption) ?_ (by walk_at "nin"); walk_at "fr")
  | (refine Gr.sqT (by assumption) ?_ (by walk_at "nin"); walk_at "fr")
  | (refine Gr.rep0 (by assumption) ?_; walk_at "fr")
  | (refine Gr.reps0 (by assumption) ?_; walk_at "fr"))
local macro_rules | `(tactic| walk_at "fr1") => `(tactic| first
  | assumption
  | (refine Gr.tup (by assumption) _ _ ?_; walk_at "fr1")
  | (refine Gr.get (by assumption) ?_ (by walk_at "nin"); walk_at "fr1"))
local macro_rules | `(tactic| walk_at "nin") => `(tactic| first
  | exact nin_nil
  | assumption
  | (refine nin_one ?_; walk_at "ne"))
local macro_rules | `(tactic| walk_at "ne") => `(tactic| first
  | assumption
  | exact Ne.symm (by assumption)
  | exact ne_new (by assumption) (by assumption)
  | exact Ne.symm (ne_new (by assumption) (by assumption)))
local macro_rules | `(tactic| walk_at "sz") => `(tactic| first
  | assumption
  | omega
  | (simp only [List.length_cons, List.length_nil, List.length_append, List.length_map, CDiv, CDivN, CMul]; omega)
  | decide)
local macro_rules | `(tactic| walk_at "i1") => `(tactic| first
  | ((with_reducible refine' isi_L_list ?vh ?_); (case vh => walk_at "fr"))
  | ((with_reducible refine' isi_T_list ?vh ?_); (case vh => walk_at "fr"))
  | ((with_reducible refine' isi_L_tuple ?vh ?_); (case vh => walk_at "fr"))
  | ((with_reducible refine' isi_T_tuple ?vh ?_); (case vh => walk_at "fr"))
  | ((with_reducible refine' isi_L_str ?vh ?_); (case vh => walk_at "fr"))
  | ((with_reducible refine' isi_T_str ?vh ?_); (case vh => walk_at "fr"))
  | ((with_reducible refine' isi_L_int ?vh ?_); (case vh => walk_at "fr"))
  | ((with_reducible refine' isi_T_int ?vh ?_); (case vh => walk_at "fr"))
  | ((with_reducible refine' isi_L_bool ?vh ?_); (case vh => walk_at "fr"))
  | ((with_reducible refine' isi_T_bool ?vh ?_); (case vh => walk_at "fr")))
local macro_rules | `(tactic| walk_at "s") => `(tactic| repeat (first
  | with_reducible refine Stp.h ?_
  | (with_reducible refine szc ?_ ?_; walk_at "sz")
  | ((with_reducible refine' w_kTyL ?vh ?_); (case vh => walk_at "fr"))
  | ((with_reducible refine' w_lenL ?vh ?_); (case vh => walk_at "fr"))
  | ((with_reducible refine' w_lenT ?vh ?_); (case vh => walk_at "fr"))))
local macro_rules | `(tactic| walk_at "gr") => `(tactic| first
  | exact Gr.refl _ _
  | assumption
  | exact Gr.wide (by assumption)
  | (refine Gr.trans ?_ (by assumption); walk_at "gr")
  | (refine Gr.trans ?_ (Gr.wide (by assumption)); walk_at "gr"))
local macro_rules | `(tactic| walk_at "s2") => `(tactic| (with_reducible refine Stp.h ?_; with_reducible refine Stp.h ?_))

section
variable {P : Program} {w : World} {K : PySem.W.Frag} {mg : Str → Option Value} {base : Heap}
abbrev WORTH : List Str := ["begin", "x in y", "late ", " in", "a begin b", "in", "set a 5 b", "weave 3"]
theorem worth_ok : ∀ x ∈ WORTH, wfVal (.str x) := by
  intro x hx
  have h : WORTH.all (fun x => decide ((TL.tl x).length ≤ 40) && (TL.tl x).all fun c => decide (32 ≤ c) && decide (c ≤ 126)) = true := by decide +kernel
  have := List.all_eq_true.mp h x hx
  simp only [Bool.and_eq_true, decide_eq_true_eq, List.all_eq_true] at this
  exact this
theorem inb_in {r : List PD} : inBlocks (.tup (.str "in" :: r)) = true := (show inV (V.str "in") blocks = true by decide +kernel)
theorem inb_look {r : List PD} : inBlocks (.tup (.str "look" :: r)) = false := (show inV (V.str "look") blocks = false by decide +kernel)
theorem inb_back {r : List PD} : inBlocks (.tup (.str "back" :: r)) = false := (show inV (V.str "back") blocks = false by decide +kernel)
theorem inb_copy {r : List PD} : inBlocks (.tup (.str "copy" :: r)) = false := (show inV (V.str "copy") blocks = false by decide +kernel)
theorem inb_set {r : List PD} : inBlocks (.tup (.str "set" :: r)) = false := (show inV (V.str "set") blocks = false by decide +kernel)
def spWorth : Sp := fun vs H Q _ => ∃ (b : Addr) (n : Int), vs = [.ref b] ∧ BoxAt H b n ∧ n + 150 ≤ 1000000000000 ∧
  ∀ (v : V) (d : PD) (H' : Hp), Gr [b] H H' → BoxAt H' b (n + 70) → wfVal d → TRep H' d v → Q v H'
theorem sc_law_worth : FnScope ["_law_box_here", "_law_words"] ["_law_box_here"] (defScope s_law_worth) := ⟨rfl, rfl, rfl, by decide +kernel, rfl, by decide +kernel, by decide +kernel⟩
theorem ok_law_worth (T : TX K mg) : FnOk P w K mg base CX0 3 T.d_law_worth.a T.d_law_worth.d ["_law_box_here"] spWorth := by
  refine T.d_law_worth.F.ok sc_law_worth (fun vs H Q E h => ?_) (fun cdv A outer s H vs Q E hr h => ?_)
  · obtain ⟨b, n, rfl, _⟩ := h; rfl
  obtain ⟨b, n, rfl, hb, hn, q⟩ := h
  refine ⟨_, (pss_cons (ps_set (i := 1) sc_law_worth.nd rfl (Or.inl rfl) (pe_lst (pa_cons pe_str (pa_cons pe_str (pa_cons pe_str (pa_cons pe_str (pa_cons pe_str (pa_cons pe_str (pa_cons pe_str (pa_cons pe_str pa_nil))))))))))
  (pss_one (ps_ret (pe_ifExp (pt_cmpR (op_eqK (K := K) rfl (hu64 hr)) (pe_call (ok_law_take T) (hr.mono (by decide)) (by rfl) T.d_law_take.g T.d_law_take.F.kp T.d_law_take.b .nil pass0 (pa_cons (pv 0) (pa_cons pe_int pa_nil))) pe_int (nomark _)) (pe_ix (ix_anyK (K := K) rfl) (pv 1) (pe_call (ok_law_take T) (hr.mono (by decide)) (by rfl) T.d_law_take.g T.d_law_take.F.kp T.d_law_take.b .nil pass0 (pa_cons (pv 0) (pa_cons pe_int pa_nil))) (fun _ _ => rfl)) (pe_call (ok_law_value T) (hr.mono (by decide)) (by rfl) T.d_law_value.g T.d_law_value.F.kp T.d_law_value.b .nil pass0 (pa_cons (pv 0) pa_nil)))))), ?_⟩
  refine at_start [some (.ref b), none] rfl ?_
  walk_at "s"
  refine w_kLst (fun p1 H1 g1 hp1 e1 => ?_) (by simp)
  have np1 : p1 ≠ b := ne_box hb hp1
  walk_at "s"
  refine take_use (g1.box hb) (by omega) (by omega) (by omega) (fun v2 H2 g2 b2 l2 u2 => ?_)
  walk_at "s"
  refine iteB (fun c1 => ?_) (fun c1 => ?_)
  · walk_at "s"
    refine take_use b2 (by omega) (by omega) (by omega) (fun v3 H3 g3 b3 l3 u3 => ?_)
    obtain ⟨x, hx, hat⟩ := atI_mem (xs := WORTH) l3 u3
    refine w_ixL (SqL.of (g3.get (g2.get e1 (nin_one np1)) (nin_one np1))) (atI_map (f := V.str) hat) ?_
    walk_at "s"
    exact q _ (.str x) H3 (g1.wide.trans (g2.trans g3)) (b3.mono (by omega) (by omega)) (worth_ok x hx) (rep_str rfl)
  · walk_at "s"
    refine ⟨b, _, rfl, b2, by omega, fun v d H3 g3 b3 hd t3 => ?_⟩
    walk_at "s"
    exact q v d H3 (g1.wide.trans (g2.trans g3)) (b3.mono (by omega) (by omega)) hd t3
def spPr (k : Nat) : Sp := fun vs H Q _ => ∃ (b an as_ : Addr) (n : Int) (many : Nat) (nm sl : List Str), vs = [.ref b, .ref an, .ref as_, .int (many : Int), .int (k : Int)] ∧ BoxAt H b n ∧ n + 200 * many + 300 ≤ 1000000000000 ∧ many ≤ 200 ∧
  H an = some (.lst (nm.map V.str)) ∧ nm ≠ [] ∧ nm.length ≤ 1000 ∧ an ≠ b ∧ H as_ = some (.lst (sl.map V.str)) ∧ sl ≠ [] ∧ sl.length ≤ 1000 ∧ (∀ s ∈ sl, isName s = true) ∧ as_ ≠ b ∧
  ∀ (v : V) (p : List PD) (H' : Hp), Gr [b] H H' → BoxAt H' b (n + 200 * many) → TRep H' (.tup p) v → WfP nm k many p → Q v H'
def spPrv : Nat → Sp
  | 0 => fun _ _ _ _ => False
  | j + 1 => spPr j
theorem sc_law_program : FnScope ["_law_box_here", "_law_names_here", "_law_slots", "_law_many", "_law_blocks", "_law_steps", "_law_way", "_law_name", "_law_slot", "_law_inner", "_law_within", "_law_rows_here"] ["_law_box_here", "_law_names_here", "_law_slots", "_law_many", "_law_blocks"] (defScope s_law_program) := ⟨rfl, rfl, rfl, by decide +kernel, rfl, by decide +kernel, by decide +kernel⟩
theorem program_turn (T : TX K mg) (k : Nat) (IH : FnOk P w K mg base CX0 (k + 3) T.d_law_program.a T.d_law_program.d ["_law_box_here", "_law_names_here", "_law_slots", "_law_many", "_law_blocks"] (spPrv k)) :
    FnOk P w K mg base CX0 (k + 1 + 3) T.d_law_program.a T.d_law_program.d ["_law_box_here", "_law_names_here", "_law_slots", "_law_many", "_law_blocks"] (spPr k) := by
  refine T.d_law_program.F.ok sc_law_program (fun vs H Q E h => ?_) (fun cdv A outer s H vs Q E hr h => ?_)
  · obtain ⟨_, _, _, _, _, _, _, rfl, _⟩ := h; rfl
  obtain ⟨b, an, as_, n, many, nm, sl, rfl, hb, hn, hm, en, nn, ln, nab, es, ns, ls, hs, nsb, q⟩ := h
  refine ⟨_, (pss_cons (ps_set (i := 5) sc_law_program.nd rfl (Or.inl rfl) (pe_lst pa_nil))
  (pss_cons (ps_while PassesOwn.never (pt_cmpR op_gt (pv 3) pe_int (nomark _))
    (pss_cons (ps_par (i := 6) (j := 3) rfl sc_law_program.nd rfl rfl (by decide) rfl rfl (pa_cons (pe_call (ok_law_take T) (hr.mono (by omega)) (by rfl) T.d_law_take.g T.d_law_take.F.kp T.d_law_take.b .nil pass0 (pa_cons (pv 0) (pa_cons pe_int pa_nil))) (pa_cons (pe_op op_sub (pv 3) pe_int) pa_nil)) (by rfl))
  (pss_cons (ps_par (i := 7) (j := 8) rfl sc_law_program.nd rfl rfl (by decide) rfl rfl (pa_cons (pe_ix (ix_anyK (K := K) rfl) (pv 1) (pe_call (ok_law_take T) (hr.mono (by omega)) (by rfl) T.d_law_take.g T.d_law_take.F.kp T.d_law_take.b .nil pass0 (pa_cons (pv 0) (pa_cons (pe_callB (call_lenK (K := K) rfl) (by rfl) T.z_len bt_len (pa_cons (pv 1) pa_nil)) pa_nil))) (fun _ _ => rfl)) (pa_cons (pe_ix (ix_anyK (K := K) rfl) (pv 2) (pe_call (ok_law_take T) (hr.mono (by omega)) (by rfl) T.d_law_take.g T.d_law_take.F.kp T.d_law_take.b .nil pass0 (pa_cons (pv 0) (pa_cons (pe_callB (call_lenK (K := K) rfl) (by rfl) T.z_len bt_len (pa_cons (pv 2) pa_nil)) pa_nil))) (fun _ _ => rfl)) pa_nil)) (by rfl))
  (pss_one (ps_if (PW.pt (pw_and (pt_cmpR op_lt (pv 6) pe_int (nomark _)) (pw_and1 (pt_cmpR op_gt (pv 4) pe_int (nomark _)))))
    (pss_cons (ps_set (i := 9) sc_law_program.nd rfl (Or.inl rfl) (pe_call (ok_law_take T) (hr.mono (by omega)) (by rfl) T.d_law_take.g T.d_law_take.F.kp T.d_law_take.b .nil pass0 (pa_cons (pv 0) (pa_cons (pe_op (op_addK (K := K) rfl) (pv 3) pe_int) pa_nil))))
  (pss_cons (ps_par (i := 10) (j := 3) rfl sc_law_program.nd rfl rfl (by decide) rfl rfl (pa_cons (pe_call IH hr (by rfl) T.d_law_program.g T.d_law_program.F.kp T.d_law_program.b .nil pass0 (pa_cons (pv 0) (pa_cons (pv 1) (pa_cons (pv 2) (pa_cons (pv 9) (pa_cons (pe_op op_sub (pv 4) pe_int) pa_nil)))))) (pa_cons (pe_op op_sub (pv 3) (pv 9)) pa_nil)) (by rfl))
  (pss_one (ps_expr (pe_bmK (K := K) rfl PySem.F.plainAttrs_list PySem.F.slot_list_append PySem.F.type_list_append mt_append (pv 5) (pa_cons (pe_ix (ix_anyK (K := K) rfl) (pe_lst (pa_cons (pe_tup (pa_cons pe_str (pa_cons (pv 10) pa_nil))) (pa_cons (pe_tup (pa_cons pe_str (pa_cons (pv 10) pa_nil))) (pa_cons (pe_tup (pa_cons pe_str (pa_cons (pv 8) (pa_cons (pv 10) pa_nil)))) pa_nil)))) (pe_ix (ix_anyK (K := K) rfl) (pe_lst (pa_cons pe_int (pa_cons pe_int (pa_cons pe_int (pa_cons pe_int (pa_cons pe_int pa_nil)))))) (pv 6) (fun _ _ => rfl)) (fun _ _ => rfl)) pa_nil))))))
    (pss_one (ps_if (pt_cmpR op_lt (pv 6) pe_int (nomark _))
    (pss_one (ps_expr (pe_bmK (K := K) rfl PySem.F.plainAttrs_list PySem.F.slot_list_append PySem.F.type_list_append mt_append (pv 5) (pa_cons (pe_tup (pa_cons pe_str (pa_cons (pv 7) (pa_cons (pe_call (ok_law_worth T) (hr.mono (by omega)) (by rfl) T.d_law_worth.g T.d_law_worth.F.kp T.d_law_worth.b .nil pass0 (pa_cons (pv 0) pa_nil)) (pa_cons (pv 8) pa_nil))))) pa_nil))))
    (pss_cons (ps_set (i := 11) sc_law_program.nd rfl (Or.inl rfl) (pe_lst (pa_cons (pe_tup (pa_cons pe_str (pa_cons (pv 7) pa_nil))) (pa_cons (pe_tup (pa_cons pe_str (pa_cons (pv 7) pa_nil))) (pa_cons (pe_tup (pa_cons pe_str (pa_cons (pv 8) pa_nil))) (pa_cons (pe_tup (pa_cons pe_str (pa_cons (pv 8) pa_nil))) (pa_cons (pe_tup (pa_cons pe_str (pa_cons (pv 8) pa_nil))) (pa_cons (pe_tup (pa_cons pe_str pa_nil)) pa_nil))))))))
  (pss_one (ps_expr (pe_bmK (K := K) rfl PySem.F.plainAttrs_list PySem.F.slot_list_append PySem.F.type_list_append mt_append (pv 5) (pa_cons (pe_ix (ix_anyK (K := K) rfl) (pv 11) (pe_op op_mod (pe_op op_sub (pv 6) pe_int) pe_int) (fun _ _ => rfl)) pa_nil))))))))))))
  (pss_one (ps_ret (pe_callTy (call_tupK (K := K) rfl) (by rfl) T.z_tuple bt_tuple (pa_cons (pv 5) pa_nil)))))), ?_⟩
  refine at_start [some (.ref b), some (.ref an), some (.ref as_), some (.int (many : Int)), some (.int (k : Int)), none, none, none, none, none, none, none] rfl ?_
  walk_at "s"
  refine w_kLst (fun f H1 g1 hf e1 => ?_) (by simp)
  walk_at "s"
  have hnf : f ≠ b := ne_box hb hf
  obtain ⟨W, hW⟩ : ∃ W : Nat → L2.St → Hp → Prop, W = fun μ σ H' => ∃ (m' : Nat) (dn : List PD) (xs : List V) (v6 v7 v8 v9 v10 v11 : Option V), σ = [some (.ref b), some (.ref an), some (.ref as_), some (.int (m' : Int)), some (.int (k : Int)), some (.ref f), v6, v7, v8, v9, v10, v11] ∧ μ = m' ∧ m' ≤ many ∧ Gr [b] H H' ∧
    BoxAt H' b (n + 200 * ((many - m' : Nat) : Int)) ∧ H' f = some (.lst xs) ∧ TReps H' dn xs ∧ WfP nm k (many - m') dn ∧ dn.length ≤ many - m' := ⟨_, rfl⟩
  refine ⟨W, ⟨many, by rw [hW]; exact ⟨many, [], [], none, none, none, none, none, none, rfl, rfl, Nat.le_refl _, g1.wide, (g1.box hb).mono (by omega) (by omega), e1, treps_nil, WfP.nil, Nat.zero_le _⟩⟩, ?_⟩
  intro μ σ H2 hw2
  rw [hW] at hw2
  obtain ⟨m', dn, xs, v6, v7, v8, v9, v10, v11, rfl, rfl, hm', g2, b2, e2, t2, hp2, hdl⟩ := hw2
  walk_at "s"
  cases μ with
  | zero =>
    rw [decide_eq_false (by omega)]
    walk_at "s"
    refine w_tuple (SqL.of e2) (fun p3 H3 g3 hp3 e3 => ?_)
    walk_at "s"
    exact q _ dn H3 (g2.trans g3.wide) ((g3.box b2).mono (by omega) (by omega)) (rep_tup e3 (g3.reps0 t2)) (hp2.mono (Nat.le_refl _) (by omega))
  | succ j =>
    rw [decide_eq_true (by omega)]
    walk_at "s"
    refine ⟨fun σ' H' => ∃ m', m' < j + 1 ∧ W m' σ' H', fun _ _ h => h, ?_⟩
    walk_at "s"
    refine take_use b2 (by omega) (by omega) (by omega) (fun way H3 g3 b3 l3 u3 => ?_)
    walk_at "s"
    rw [show ((j + 1 : Nat) : Int) - 1 = (j : Int) by omega]
    walk_at "s"
    have hfx := hp2.fixs
    have fin : ∀ (j2 : Nat) (st : PD) (y : V) (H4 : Hp) (R : VK), Gr [b] H2 H4 → BoxAt H4 b (n + 200 * ((many - j2 : Nat) : Int)) → TRep H4 st y → st.fix = true → j2 ≤ j → WfP nm k (j + 1 - j2) [st] →
        (∀ H5, (∀ w6 w7 w8 w9 w10 w11 : Option V, ∃ m', m' < j + 1 ∧ W m' [some (.ref b), some (.ref an), some (.ref as_), some (.int (j2 : Int)), some (.int (k : Int)), some (.ref f), w6, w7, w8, w9, w10, w11] H5) → R .non H5) → rAppend (.ref f) [y] H4 R := by
      intro j2 st y H4 R g4 b4 t4 sf hj hw4 hR
      have hlx := treps_len t2
      refine w_app (g4.get e2 (nin_one hnf)) (by omega) (fun H5 g5 e5 => ?_)
      refine hR H5 fun w6 w7 w8 w9 w10 w11 => ⟨j2, by omega, ?_⟩
      rw [hW]
      refine ⟨j2, dn ++ [st], xs ++ [y], w6, w7, w8, w9, w10, w11, rfl, rfl, by omega, (g2.trans g4).trans11 g5 hf, b4.of11 g5 hnf, e5, ?_, ?_, ?_⟩
      · exact treps_append (Gr.reps1 g5 hfx (Gr.reps1 g4 hfx t2)) (treps_cons (g5.rep t4 sf) treps_nil)
      · exact (hp2.append hw4).mono (Nat.le_refl _) (by omega)
      · rw [List.length_append, List.length_singleton]; omega
    have ean : ∀ {H' : Hp}, Gr [b] H2 H' → H' an = some (.lst (nm.map V.str)) := fun g => (g2.trans g).get en (nin_one nab)
    have eas : ∀ {H' : Hp}, Gr [b] H2 H' → H' as_ = some (.lst (sl.map V.str)) := fun g => (g2.trans g).get es (nin_one nsb)
    have pn : 0 < nm.length := List.length_pos_iff.mpr nn
    have ps : 0 < sl.length := List.length_pos_iff.mpr ns
    refine w_lenL (SqL.of (ean g3)) ?_
    rw [List.length_map]
    walk_at "s"
    refine take_use b3 (by omega) (by omega) (by omega) (fun vi H4 g4 b4 l4 u4 => ?_)
    obtain ⟨nme, hnme, hat⟩ := atI_mem (xs := nm) l4 u4
    have g24 := g3.trans g4
    refine w_ixL (SqL.of (ean g24)) (atI_map (f := V.str) hat) ?_
    walk_at "s"
    refine w_lenL (SqL.of (eas g24)) ?_
    rw [List.length_map]
    walk_at "s"
    refine take_use b4 (by omega) (by omega) (by omega) (fun vs H5 g5 b5 l5 u5 => ?_)
    obtain ⟨slt, hslt, hat2⟩ := atI_mem (xs := sl) l5 u5
    have hsn := hs slt hslt
    have g25 := g24.trans g5
    refine w_ixL (SqL.of (eas g25)) (atI_map (f := V.str) hat2) ?_
    walk_at "s"
    have b5' : BoxAt H5 b (n + 200 * ((many - (j + 1) : Nat) : Int) + 3) := b5.mono (by omega) (by omega)
    refine iteB (fun c1 => ?_) (fun c1 => ?_)
    · walk_at "s"
      refine iteB (fun c2 => ?_) (fun c2 => ?_)
      · skip
        walk_at "s"
        refine take_use b5' (by omega) (by omega) (by omega) (fun inn H6 g6 b6 l6 u6 => ?_)
        obtain ⟨i, rfl⟩ : ∃ i : Nat, inn = (i : Int) := ⟨inn.toNat, by omega⟩
        walk_at "s"
        simp only [decide_eq_true_eq] at c1 c2
        obtain ⟨k', rfl⟩ : ∃ k', k = k' + 1 := ⟨k - 1, by omega⟩
        rw [show ((k' + 1 : Nat) : Int) - 1 = (k' : Int) by omega]
        have g26 := g25.trans g6
        refine ⟨b, an, as_, _, i, nm, sl, rfl, b6, by omega, by omega, ean g26, nn, ln, nab, eas g26, ns, ls, hs, nsb, fun v body H7 g7 b7 t7 w7 => ?_⟩
        walk_at "s"
        rw [show (j : Int) - (i : Int) = ((j - i : Nat) : Int) by omega]
        obtain ⟨pb, ybs, rfl, epb, tyb⟩ := rep_tup' t7
        walk_at "s"
        have g27 := g26.trans g7
        refine w_kTup (fun q1 K1 k1 hq1 f1 => ?_) (by simp)
        walk_at "s"
        refine w_kTup (fun q2 K2 k2 hq2 f2 => ?_) (by simp)
        walk_at "s"
        refine w_kTup (fun q3 K3 k3 hq3 f3 => ?_) (by simp)
        walk_at "s"
        refine w_kLst (fun q4 K4 k4 hq4 f4 => ?_) (by simp)
        walk_at "s"
        refine w_kLst (fun q5 K5 k5 hq5 f5 => ?_) (by simp)
        walk_at "s"
        have kk : Gr [] H7 K5 := k1.trans (k2.trans (k3.trans (k4.trans k5)))
        have g2k := g27.trans kk.wide
        have pick : ∃ ix st y, atI [V.int 0, .int 0, .int 1, .int 2, .int 2] way = some (.int ix) ∧ atI [V.ref q1, .ref q2, .ref q3] ix = some y ∧ TRep K5 (addW st body) y ∧ WfSt nm st ∧ inBlocks st = true := by
          have r1 := k5.get0 (k4.get0 (k3.get0 (k2.get0 f1)))
          have r2 := k5.get0 (k4.get0 (k3.get0 f2))
          have r3 := k5.get0 (k4.get0 f3)
          have tb := kk.rep0 t7
          have : way = 0 ∨ way = 1 ∨ way = 2 ∨ way = 3 ∨ way = 4 := by omega
          rcases this with rfl | rfl | rfl | rfl | rfl
          · exact ⟨0, .tup [.str "begin"], _, rfl, rfl, rep_tup r1 (treps_cons (rep_str rfl) (treps_cons tb treps_nil)), .begin_, by decide +kernel⟩
          · exact ⟨0, .tup [.str "begin"], _, rfl, rfl, rep_tup r1 (treps_cons (rep_str rfl) (treps_cons tb treps_nil)), .begin_, by decide +kernel⟩
          · exact ⟨1, .tup [.str "late"], _, rfl, rfl, rep_tup r2 (treps_cons (rep_str rfl) (treps_cons tb treps_nil)), .late, by decide +kernel⟩
          · exact ⟨2, .tup [.str "in", .str slt], _, rfl, rfl, rep_tup r3 (treps_cons (rep_str rfl) (treps_cons (rep_str rfl) (treps_cons tb treps_nil))), .inn hsn, inb_in⟩
          · exact ⟨2, .tup [.str "in", .str slt], _, rfl, rfl, rep_tup r3 (treps_cons (rep_str rfl) (treps_cons (rep_str rfl) (treps_cons tb treps_nil))), .inn hsn, inb_in⟩
        obtain ⟨ix, st, y, ha1, ha2, ty, wst, ib⟩ := pick
        refine w_ixL (SqL.of f5) ha1 ?_
        refine w_ixL (SqL.of (k5.get0 f4)) ha2 ?_
        walk_at "s"
        refine fin (j - i) (addW st body) y K5 _ g2k ((kk.box b7).mono (by omega) (by omega)) ty (addW_fix wst.fix w7.fixs) (by omega) ?_ (fun H8 h8 => ?_)
        · exact (WfP.blk wst ib w7).mono (Nat.le_refl _) (by omega)
        · walk_at "s"
          exact h8 _ _ _ _ _ _
      · skip
        walk_at "s"
        refine iteB (fun c3 => ?_) (fun c3 => ?_)
        · walk_at "s"
          refine ⟨b, _, rfl, b5', by omega, fun v dv H6 g6 b6 hdv t6 => ?_⟩
          walk_at "s"
          refine w_kTup (fun p7 H7 g7 hp7 e7 => ?_) (by simp)
          walk_at "s"
          have g27 := g25.trans (g6.trans g7.wide)
          refine fin j (.tup [.str "set", .str nme, dv, .str slt]) (.ref p7) H7 _ g27 ((g7.box b6).mono (by omega) (by omega)) (rep_tup e7 (treps_cons (rep_str rfl) (treps_cons (rep_str rfl) (treps_cons (g7.rep0 t6) (treps_cons (rep_str rfl) treps_nil))))) (WfSt.set hnme hsn hdv).fix (Nat.le_refl _) ?_ (fun H8 h8 => ?_)
          · exact (WfP.one (.set hnme hsn hdv) inb_set).mono (Nat.le_refl _) (by omega)
          · walk_at "s"
            exact h8 _ _ _ _ _ _
        · walk_at "s"
          refine w_kTup (fun q1 K1 k1 hq1 f1 => ?_) (by simp)
          walk_at "s"
          refine w_kTup (fun q2 K2 k2 hq2 f2 => ?_) (by simp)
          walk_at "s"
          refine w_kTup (fun q3 K3 k3 hq3 f3 => ?_) (by simp)
          walk_at "s"
          refine w_kTup (fun q4 K4 k4 hq4 f4 => ?_) (by simp)
          walk_at "s"
          refine w_kTup (fun q5 K5 k5 hq5 f5 => ?_) (by simp)
          walk_at "s"
          refine w_kTup (fun q6 K6 k6 hq6 f6 => ?_) (by simp)
          walk_at "s"
          refine w_kLst (fun q7 K7 k7 hq7 f7 => ?_) (by simp)
          walk_at "s"
          have kk : Gr [] H5 K7 := k1.trans (k2.trans (k3.trans (k4.trans (k5.trans (k6.trans k7)))))
          have g27 := g25.trans kk.wide
          have pick : ∃ st y, atI [V.ref q1, .ref q2, .ref q3, .ref q4, .ref q5, .ref q6] ((way - 8) % 6) = some y ∧ TRep K7 st y ∧ WfSt nm st ∧ inBlocks st = false := by
            have r1 := k7.get0 (k6.get0 (k5.get0 (k4.get0 (k3.get0 (k2.get0 f1)))))
            have r2 := k7.get0 (k6.get0 (k5.get0 (k4.get0 (k3.get0 f2))))
            have r3 := k7.get0 (k6.get0 (k5.get0 (k4.get0 f3)))
            have r4 := k7.get0 (k6.get0 (k5.get0 f4))
            have r5 := k7.get0 (k6.get0 f5)
            have r6 := k7.get0 f6
            have : (way - 8) % 6 = 0 ∨ (way - 8) % 6 = 1 ∨ (way - 8) % 6 = 2 ∨ (way - 8) % 6 = 3 ∨ (way - 8) % 6 = 4 ∨ (way - 8) % 6 = 5 := by omega
            rcases this with h | h | h | h | h | h <;> rw [h]
            · exact ⟨.tup [.str "look", .str nme], _, rfl, rep_tup r1 (treps_cons (rep_str rfl) (treps_cons (rep_str rfl) treps_nil)), .look hnme, inb_look⟩
            · exact ⟨.tup [.str "look", .str nme], _, rfl, rep_tup r2 (treps_cons (rep_str rfl) (treps_cons (rep_str rfl) treps_nil)), .look hnme, inb_look⟩
            · exact ⟨.tup [.str "back", .str slt], _, rfl, rep_tup r3 (treps_cons (rep_str rfl) (treps_cons (rep_str rfl) treps_nil)), .back hsn, inb_back⟩
            · exact ⟨.tup [.str "copy", .str slt], _, rfl, rep_tup r4 (treps_cons (rep_str rfl) (treps_cons (rep_str rfl) treps_nil)), .copy hsn, inb_copy⟩
            · exact ⟨.tup [.str "copy", .str slt], _, rfl, rep_tup r5 (treps_cons (rep_str rfl) (treps_cons (rep_str rfl) treps_nil)), .copy hsn, inb_copy⟩
            · exact ⟨.tup [.str "pass"], _, rfl, rep_tup r6 (treps_cons (rep_str rfl) treps_nil), .pass_, by decide +kernel⟩
          obtain ⟨st, y, ha, ty, wst, ib⟩ := pick
          refine w_ixL (SqL.of f7) ha ?_
          walk_at "s"
          refine fin j st y K7 _ g27 ((kk.box b5').mono (by omega) (by omega)) ty wst.fix (Nat.le_refl _) ?_ (fun H8 h8 => ?_)
          · exact (WfP.one wst ib).mono (Nat.le_refl _) (by omega)
          · walk_at "s"
            exact h8 _ _ _ _ _ _
    · skip
      walk_at "s"
      refine iteB (fun c3 => ?_) (fun c3 => ?_)
      · walk_at "s"
        refine ⟨b, _, rfl, b5', by omega, fun v dv H6 g6 b6 hdv t6 => ?_⟩
        walk_at "s"
        refine w_kTup (fun p7 H7 g7 hp7 e7 => ?_) (by simp)
        walk_at "s"
        have g27 := g25.trans (g6.trans g7.wide)
        refine fin j (.tup [.str "set", .str nme, dv, .str slt]) (.ref p7) H7 _ g27 ((g7.box b6).mono (by omega) (by omega)) (rep_tup e7 (treps_cons (rep_str rfl) (treps_cons (rep_str rfl) (treps_cons (g7.rep0 t6) (treps_cons (rep_str rfl) treps_nil))))) (WfSt.set hnme hsn hdv).fix (Nat.le_refl _) ?_ (fun H8 h8 => ?_)
        · exact (WfP.one (.set hnme hsn hdv) inb_set).mono (Nat.le_refl _) (by omega)
        · walk_at "s"
          exact h8 _ _ _ _ _ _
      · walk_at "s"
        refine w_kTup (fun q1 K1 k1 hq1 f1 => ?_) (by simp)
        walk_at "s"
        refine w_kTup (fun q2 K2 k2 hq2 f2 => ?_) (by simp)
        walk_at "s"
        refine w_kTup (fun q3 K3 k3 hq3 f3 => ?_) (by simp)
        walk_at "s"
        refine w_kTup (fun q4 K4 k4 hq4 f4 => ?_) (by simp)
        walk_at "s"
        refine w_kTup (fun q5 K5 k5 hq5 f5 => ?_) (by simp)
        walk_at "s"
        refine w_kTup (fun q6 K6 k6 hq6 f6 => ?_) (by simp)
        walk_at "s"
        refine w_kLst (fun q7 K7 k7 hq7 f7 => ?_) (by simp)
        walk_at "s"
        have kk : Gr [] H5 K7 := k1.trans (k2.trans (k3.trans (k4.trans (k5.trans (k6.trans k7)))))
        have g27 := g25.trans kk.wide
        have pick : ∃ st y, atI [V.ref q1, .ref q2, .ref q3, .ref q4, .ref q5, .ref q6] ((way - 8) % 6) = some y ∧ TRep K7 st y ∧ WfSt nm st ∧ inBlocks st = false := by
          have r1 := k7.get0 (k6.get0 (k5.get0 (k4.get0 (k3.get0 (k2.get0 f1)))))
          have r2 := k7.get0 (k6.get0 (k5.get0 (k4.get0 (k3.get0 f2))))
          have r3 := k7.get0 (k6.get0 (k5.get0 (k4.get0 f3)))
          have r4 := k7.get0 (k6.get0 (k5.get0 f4))
          have r5 := k7.get0 (k6.get0 f5)
          have r6 := k7.get0 f6
          have : (way - 8) % 6 = 0 ∨ (way - 8) % 6 = 1 ∨ (way - 8) % 6 = 2 ∨ (way - 8) % 6 = 3 ∨ (way - 8) % 6 = 4 ∨ (way - 8) % 6 = 5 := by omega
          rcases this with h | h | h | h | h | h <;> rw [h]
          · exact ⟨.tup [.str "look", .str nme], _, rfl, rep_tup r1 (treps_cons (rep_str rfl) (treps_cons (rep_str rfl) treps_nil)), .look hnme, inb_look⟩
          · exact ⟨.tup [.str "look", .str nme], _, rfl, rep_tup r2 (treps_cons (rep_str rfl) (treps_cons (rep_str rfl) treps_nil)), .look hnme, inb_look⟩
          · exact ⟨.tup [.str "back", .str slt], _, rfl, rep_tup r3 (treps_cons (rep_str rfl) (treps_cons (rep_str rfl) treps_nil)), .back hsn, inb_back⟩
          · exact ⟨.tup [.str "copy", .str slt], _, rfl, rep_tup r4 (treps_cons (rep_str rfl) (treps_cons (rep_str rfl) treps_nil)), .copy hsn, inb_copy⟩
          · exact ⟨.tup [.str "copy", .str slt], _, rfl, rep_tup r5 (treps_cons (rep_str rfl) (treps_cons (rep_str rfl) treps_nil)), .copy hsn, inb_copy⟩
          · exact ⟨.tup [.str "pass"], _, rfl, rep_tup r6 (treps_cons (rep_str rfl) treps_nil), .pass_, by decide +kernel⟩
        obtain ⟨st, y, ha, ty, wst, ib⟩ := pick
        refine w_ixL (SqL.of f7) ha ?_
        walk_at "s"
        refine fin j st y K7 _ g27 ((kk.box b5').mono (by omega) (by omega)) ty wst.fix (Nat.le_refl _) ?_ (fun H8 h8 => ?_)
        · exact (WfP.one wst ib).mono (Nat.le_refl _) (by omega)
        · walk_at "s"
          exact h8 _ _ _ _ _ _
theorem ok_program (T : TX K mg) : ∀ k : Nat, FnOk P w K mg base CX0 (k + 1 + 3) T.d_law_program.a T.d_law_program.d ["_law_box_here", "_law_names_here", "_law_slots", "_law_many", "_law_blocks"] (spPr k)
  | 0 => program_turn T 0 ⟨fun _ _ _ _ h => h.elim, fun _ _ _ _ _ _ _ _ _ _ _ _ _ h => h.elim⟩
  | k + 1 => program_turn T (k + 1) (ok_program T k)
end
end RS
set_option Elab.async false
set_option linter.all false
set_option maxRecDepth 100000
set_option maxHeartbeats 4000000

namespace RS
open PySem L2
/-! steps by their heads -/
local macro_rules | `(tactic| walk_at "fr") => `(tactic| first
  | assumption
  | exact SqL.of (by assumption)
  | exact SqT.of (by assumption)
  | exact Or.inl (by assumption)
  | exact Or.inr (by assumption)
  | (refine Gr.get (by assumption) ?_ (by walk_at "nin"); walk_at "fr")
  | (refine Gr.tup (by assumption) _ _ ?_; walk_at "fr")
  | (refine SqL.of ?_; walk_at "fr1")
  | (refine SqT.of ?_; walk_at "fr1")
  | (refine Gr.sqL (by assumption) ?_ (by walk_at "nin"); walk_at "fr")
  | (refine Gr.sqT (by assumption) ?_ (by walk_at "nin"); walk_at "fr")
  | (refine Gr.rep0 (by assumption) ?_; walk_at "fr")
  | (refine Gr.reps0 (by assumption) ?_; walk_at "fr"))
local macro_rules | `(tactic| walk_at "fr1") => `(tactic| first
  | assumption
  | (refine Gr.tup (by assumption) _ _ ?_; walk_at "fr1")
  | (refine Gr.get (by assumption) ?_ (by walk_at "nin"); walk_at "fr1"))
local macro_rules | `(tactic| walk_at "nin") => `(tactic| first
  | exact nin_nil
  | assumption
  | (refine nin_one ?_; walk_at "ne"))
local macro_rules | `(tactic| walk_at "ne") => `(tactic| first
  | assumption
  | exact Ne.symm (by assumption)
  | exact ne_new (by assumption) (by assumption)
  | exact Ne.symm (ne_new (by assumption) (by assumption)))
local macro_rules | `(tactic| walk_at "sz") => `(tactic| first
  | assumption
  | omega
  | (simp only [List.length_cons, List.length_nil, List.length_append, List.length_map, CDiv, CDivN, CMul]; omega)
  | decide)
local macro_rules | `(tactic| walk_at "i1") => `(tactic| first
  | ((with_reducible refine' isi_L_list ?vh ?_); (case vh => walk_at "fr"))
  | ((with_reducible refine' isi_T_list ?vh ?_); (case vh => walk_at "fr"))
  | ((with_reducible refine' isi_L_tuple ?vh ?_); (case vh => walk_at "fr"))
  | ((with_reducible refine' isi_T_tuple ?vh ?_); (case vh => walk_at "fr"))
  | ((with_reducible refine' isi_L_str ?vh ?_); (case vh => walk_at "fr"))
  | ((with_reducible refine' isi_T_str ?vh ?_); (case vh => walk_at "fr"))
  | ((with_reducible refine' isi_L_int ?vh ?_); (case vh => walk_at "fr"))
  | ((with_reducible refine' isi_T_int ?vh ?_); (case vh => walk_at "fr"))
  | ((with_reducible refine' isi_L_bool ?vh ?_); (case vh => walk_at "fr"))
  | ((with_reducible refine' isi_T_bool ?vh ?_); (case vh => walk_at "fr")))
local macro_rules | `(tactic| walk_at "s") => `(tactic| repeat (first
  | with_reducible refine Stp.h ?_
  | (with_reducible refine szc ?_ ?_; walk_at "sz")
  | ((with_reducible refine' w_kTyL ?vh ?_); (case vh => walk_at "fr"))
  | ((with_reducible refine' w_lenL ?vh ?_); (case vh => walk_at "fr"))
  | ((with_reducible refine' w_lenT ?vh ?_); (case vh => walk_at "fr"))))
local macro_rules | `(tactic| walk_at "gr") => `(tactic| first
  | exact Gr.refl _ _
  | assumption
  | exact Gr.wide (by assumption)
  | (refine Gr.trans ?_ (by assumption); walk_at "gr")
  | (refine Gr.trans ?_ (Gr.wide (by assumption)); walk_at "gr"))
local macro_rules | `(tactic| walk_at "s2") => `(tactic| (with_reducible refine Stp.h ?_; with_reducible refine Stp.h ?_))

section
variable {P : Program} {w : World} {K : PySem.W.Frag} {mg : Str → Option Value} {base : Heap}
theorem esc_eq (c : Nat) : Txt.mul "\\" (if (decide (c = 39) || decide (c = 92)) = true then 1 else 0) ++ (⟨#[c]⟩ : Str) = ⟨(escL c).toArray⟩ := by
  apply TL.ext_tl
  rw [TL.tl_append, tl_mul, show TL.tl ("\\" : Str) = [92] by decide +kernel]
  show _ ++ [c] = escL c
  unfold escL
  by_cases h : c = 39 ∨ c = 92
  · rw [if_pos h, if_pos (by simpa using h)]; rfl
  · rw [if_neg h, if_neg (by simpa using h)]; rfl
theorem esc_len : ∀ (l : List Nat), (l.flatMap escL).length ≤ 2 * l.length
  | [] => by simp
  | a :: r => by
    have := esc_len r
    rw [List.flatMap_cons, List.length_append, List.length_cons]
    have h : (escL a).length ≤ 2 := by unfold escL; split <;> simp
    omega
theorem esc_sum : ∀ (l : List Nat), (l.map (Str.length ∘ fun c => (⟨(escL c).toArray⟩ : Str))).sum ≤ 2 * l.length
  | [] => by simp
  | a :: r => by
    have := esc_sum r
    rw [List.map_cons, List.sum_cons, List.length_cons]
    have h : (escL a).length ≤ 2 := by unfold escL; split <;> simp
    have h2 : (Str.length ∘ fun c => (⟨(escL c).toArray⟩ : Str)) a = (escL a).length := by simp [Str.length]
    omega
def spWr : Sp := fun vs H Q _ => ∃ (v : V) (d : PD), vs = [v] ∧ wfVal d ∧ TRep H d v ∧ ∀ H', Gr [] H H' → Q (.str (writtenOf d)) H'
theorem sc_law_written : FnScope ["_law_value_here", "_law_sign"] ["_law_value_here"] (defScope s_law_written) := ⟨rfl, rfl, rfl, by decide +kernel, rfl, by decide +kernel, by decide +kernel⟩
theorem ok_law_written (T : TX K mg) : FnOk P w K mg base CX0 1 T.d_law_written.a T.d_law_written.d ["_law_value_here"] spWr := by
  refine T.d_law_written.F.ok sc_law_written (fun vs H Q E h => ?_) (fun cdv A outer s H vs Q E hr h => ?_)
  · obtain ⟨v, d, rfl, _⟩ := h; rfl
  obtain ⟨v, d, rfl, hd, tv, q⟩ := h
  refine ⟨_, (pss_cons (ps_if (pt_val (pe_callB (call_isiK' (K := K) rfl) (by rfl) T.z_isinstance bt_isinstance (pa_cons (pv 0) (pa_cons (pe_bltn (v := .ty "int") (by rfl) T.z_int bt_int rfl) pa_nil))))
    (pss_one (ps_ret (pe_callTy call_strA (by rfl) T.z_str bt_str (pa_cons (pv 0) pa_nil))))
    pss_nil)
  (pss_one (ps_ret (pe_op (op_addK (K := K) rfl) (pe_op (op_addK (K := K) rfl) pe_str (pe_m1 PySem.F.slot_str_join PySem.F.type_str_join (mt_joinK (K := K) rfl) pe_str (pe_lc (own := [("_law_sign", 1)]) rfl sc_law_written.nd (pi_anyK (K := K) rfl (pv 0)) (blkOk_by (N := ["_law_value_here", "_law_sign"]) (sc := defScope s_law_written) (own := [("_law_sign", 1)]) (by decide +kernel)) (fun _ _ _ _ _ => (pg_name (i := 1) sc_law_written.nd rfl (Or.inl rfl))) (fun _ _ _ _ _ => pts_nil) (fun _ _ _ _ _ => (pe_op (op_addK (K := K) rfl) (pe_op op_mulA pe_str (pe_callTy call_intA (by rfl) T.z_int bt_int (pa_cons (pe_cmpR (op_inK (K := K) rfl) (pv 1) (pe_tup (pa_cons pe_str (pa_cons pe_str pa_nil))) (by rfl)) pa_nil))) (pv 1)))))) pe_str)))), ?_⟩
  cases d with
  | int i =>
    obtain rfl := rep_int' tv
    refine at_start [some (.int i), none] rfl ?_
    walk_at "s"
    refine w_strI ?_ ?_
    · have h1 : i.natAbs < 2 ^ 100 := by
        have : i.natAbs < 10 ^ 30 := by obtain ⟨h1, h2⟩ := hd; omega
        exact Nat.lt_of_lt_of_le this (by decide)
      by_cases h0 : i.natAbs = 0
      · rw [h0]; decide
      · exact Nat.lt_of_lt_of_le ((Nat.log2_lt h0).mpr h1) (by decide)
    walk_at "s"
    exact q H (Gr.refl _ _)
  | str z =>
    obtain rfl := rep_str' tv
    refine at_start [some (.str z), none] rfl ?_
    have hz : z.length ≤ 40 := by rw [TL.len_tl]; exact hd.1
    walk_at "s"
    refine w_iS' ?_
    walk_at "s"
    refine lc_signs [some (.str z), none] rfl (fun c => .str ⟨(escL c).toArray⟩) (by omega) (fun c H1 hc g1 R A kA => ?_) (fun D H1 g1 hD e => ?_)
    · walk_at "s"
      refine ⟨rfl, ?_⟩
      walk_at "s"
      refine w_kTup (fun p2 H2 g2 hp2 e2 => ?_) (by simp)
      refine w_inQ (Or.inr (SqT.of e2)) rfl (by rfl) ?_
      rw [inv_q]
      walk_at "s"
      refine szc ⟨by decide +kernel, by split <;> omega, by split <;> omega⟩ ?_
      walk_at "s"
      refine szc ?_ ?_
      · rw [TL.len_tl, tl_mul, show (⟨#[c]⟩ : Str).length = 1 from rfl]
        split <;> decide +kernel
      rw [esc_eq]
      exact kA _ g2
    · refine w_join (ys := z.cps.toList.map fun c => (⟨(escL c).toArray⟩ : Str)) (SqL.of (by rw [List.map_map]; exact e)) ?_ ?_
      · have := esc_sum z.cps.toList
        rw [List.map_map, List.length_map, show ("" : Str).length = 0 by decide +kernel]
        rw [len_cps] at hz
        refine Nat.le_trans (Nat.add_le_add_right this _) (by omega)
      have hl : TL.tl (Txt.join "" (z.cps.toList.map fun c => (⟨(escL c).toArray⟩ : Str))) = (TL.tl z).flatMap escL := by
        rw [join_tl, List.map_map]; rfl
      have hj : Txt.join "" (z.cps.toList.map fun c => (⟨(escL c).toArray⟩ : Str)) = ⟨((TL.tl z).flatMap escL).toArray⟩ := TL.ext_tl hl
      have hjl : (⟨((TL.tl z).flatMap escL).toArray⟩ : Str).length ≤ 1000 := by
        rw [TL.len_tl]
        show ((TL.tl z).flatMap escL).length ≤ 1000
        have := esc_len (TL.tl z)
        rw [TL.len_tl] at hz; omega
      rw [hj]
      have l1 : ("'" : Str).length = 1 := by decide +kernel
      walk_at "s"
      refine szc (by rw [slen_app, l1]; omega) ?_
      walk_at "s"
      exact q H1 g1
  | _ => exact hd.elim
end
end RS
set_option Elab.async false
set_option linter.all false
set_option maxRecDepth 100000
set_option maxHeartbeats 4000000

namespace RS
open PySem L2
/-! steps by their heads -/
local macro_rules | `(tactic| walk_at "fr") => `(tactic| first
  | assumption
  | exact SqL.of (by assumption)
  | exact SqT.of (by assumption)
  | exact Or.inl (by assumption)
  | exact Or.inr (by assumption)
  | (refine Gr.get (by assumption) ?_ (by walk_at "nin"); walk_at "fr")
  | (refine Gr.tup (by assumption) _ _ ?_; walk_at "fr")
  | (refine SqL.of ?_; walk_at "fr1")
  | (refine SqT.of ?_; walk_at "fr1")
  | (refine Gr.sqL (by assumption) ?_ (by walk_at "nin"); walk_at "fr")
  | (refine Gr.sqT (by assumption) ?_ (by walk_at "nin"); walk_at "fr")
  | (refine Gr.rep0 (by assumption) ?_; walk_at "fr")
  | (refine Gr.reps0 (by assumption) ?_; walk_at "fr"))
local macro_rules | `(tactic| walk_at "fr1") => `(tactic| first
  | assumption
  | (refine Gr.tup (by assumption) _ _ ?_; walk_at "fr1")
  | (refine Gr.get (by assumption) ?_ (by walk_at "nin"); walk_at "fr1"))
local macro_rules | `(tactic| walk_at "nin") => `(tactic| first
  | exact nin_nil
  | assumption
  | (refine nin_one ?_; walk_at "ne"))
local macro_rules | `(tactic| walk_at "ne") => `(tactic| first
  | assumption
  | exact Ne.symm (by assumption)
  | exact ne_new (by assumption) (by assumption)
  | exact Ne.symm (ne_new (by assumption) (by assumption)))
local macro_rules | `(tactic| walk_at "sz") => `(tactic| first
  | assumption
  | omega
  | (simp only [List.length_cons, List.length_nil, List.length_append, List.length_map, CDiv, CDivN, CMul]; omega)
  | decide)
local macro_rules | `(tactic| walk_at "i1") => `(tactic| first
  | ((with_reducible refine' isi_L_list ?vh ?_); (case vh => walk_at "fr"))
  | ((with_reducible refine' isi_T_list ?vh ?_); (case vh => walk_at "fr"))
  | ((with_reducible refine' isi_L_tuple ?vh ?_); (case vh => walk_at "fr"))
  | ((with_reducible refine' isi_T_tuple ?vh ?_); (case vh => walk_at "fr"))
  | ((with_reducible refine' isi_L_str ?vh ?_); (case vh => walk_at "fr"))
  | ((with_reducible refine' isi_T_str ?vh ?_); (case vh => walk_at "fr"))
  | ((with_reducible refine' isi_L_int ?vh ?_); (case vh => walk_at "fr"))
  | ((with_reducible refine' isi_T_int ?vh ?_); (case vh => walk_at "fr"))
  | ((with_reducible refine' isi_L_bool ?vh ?_); (case vh => walk_at "fr"))
  | ((with_reducible refine' isi_T_bool ?vh ?_); (case vh => walk_at "fr")))
local macro_rules | `(tactic| walk_at "s") => `(tactic| repeat (first
  | with_reducible refine Stp.h ?_
  | (with_reducible refine szc ?_ ?_; walk_at "sz")
  | ((with_reducible refine' w_kTyL ?vh ?_); (case vh => walk_at "fr"))
  | ((with_reducible refine' w_lenL ?vh ?_); (case vh => walk_at "fr"))
  | ((with_reducible refine' w_lenT ?vh ?_); (case vh => walk_at "fr"))))
local macro_rules | `(tactic| walk_at "gr") => `(tactic| first
  | exact Gr.refl _ _
  | assumption
  | exact Gr.wide (by assumption)
  | (refine Gr.trans ?_ (by assumption); walk_at "gr")
  | (refine Gr.trans ?_ (Gr.wide (by assumption)); walk_at "gr"))
local macro_rules | `(tactic| walk_at "s2") => `(tactic| (with_reducible refine Stp.h ?_; with_reducible refine Stp.h ?_))

section
variable {P : Program} {w : World} {K : PySem.W.Frag} {mg : Str → Option Value} {base : Heap}
def isStrV : V → Bool
  | .str _ => true
  | _ => false
theorem strs_rep {H : Hp} : ∀ {ds : List PD} {xs : List V}, TReps H ds xs → (xs.filter isStrV).map (fun x => x) = (strsOf ds).map V.str
  | [], xs, h => by unfold TReps at h; subst h; rfl
  | d :: ds, xs, h => by
    unfold TReps at h
    obtain ⟨x, r, rfl, h1, h2⟩ := h
    have ih := strs_rep h2
    rw [List.map_id'] at ih ⊢
    cases d with
    | str s => obtain rfl := rep_str' h1; rw [List.filter_cons_of_pos rfl, ih]; rfl
    | non => obtain rfl := rep_non' h1; rw [List.filter_cons_of_neg (by simp [isStrV]), ih]; rfl
    | int s => obtain rfl := rep_int' h1; rw [List.filter_cons_of_neg (by simp [isStrV]), ih]; rfl
    | bl s => obtain rfl := rep_bl' h1; rw [List.filter_cons_of_neg (by simp [isStrV]), ih]; rfl
    | tup s => obtain ⟨a, ys, rfl, _⟩ := rep_tup' h1; rw [List.filter_cons_of_neg (by simp [isStrV]), ih]; rfl
    | lst s => obtain ⟨a, ys, rfl, _⟩ := rep_lst' h1; rw [List.filter_cons_of_neg (by simp [isStrV]), ih]; rfl
theorem isi_str {H : Hp} {d : PD} {x : V} {Q : VK} (h : TRep H d x) (q : Q (.bl (isStrV x)) H) : rIsiAll K [x, .ty "str"] H Q := by
  cases d with
  | str s => obtain rfl := rep_str' h; exact isi_S_str q
  | non => obtain rfl := rep_non' h; exact isi_N_str q
  | int s => obtain rfl := rep_int' h; exact isi_I_str q
  | bl s => obtain rfl := rep_bl' h; exact isi_B_str q
  | tup s => obtain ⟨a, ys, rfl, e, _⟩ := rep_tup' h; exact isi_T_str e q
  | lst s => obtain ⟨a, ys, rfl, e, _⟩ := rep_lst' h; exact isi_L_str e q
theorem atI_end {xs : List V} {x : V} : atI (xs ++ [x]) (-1) = some x := by
  unfold atI ixN
  rw [if_neg (by decide), if_pos (by rw [List.length_append, List.length_singleton]; omega)]
  have e : ((-1 : Int) + ((xs ++ [x]).length : Int)).toNat = xs.length := by rw [List.length_append, List.length_singleton]; omega
  show (xs ++ [x])[((-1 : Int) + ((xs ++ [x]).length : Int)).toNat]? = some x
  rw [e, List.getElem?_concat_length]
theorem treps_split {H : Hp} : ∀ {ds es : List PD} {xs : List V}, TReps H (ds ++ es) xs → ∃ ys zs, xs = ys ++ zs ∧ TReps H ds ys ∧ TReps H es zs
  | [], es, xs, h => ⟨[], xs, rfl, treps_nil, h⟩
  | d :: ds, es, xs, h => by
    rw [List.cons_append] at h
    unfold TReps at h
    obtain ⟨x, r, rfl, h1, h2⟩ := h
    obtain ⟨ys, zs, rfl, h3, h4⟩ := treps_split h2
    exact ⟨x :: ys, zs, rfl, treps_cons h1 h3, h4⟩
theorem treps_one {H : Hp} {d : PD} {xs : List V} (h : TReps H [d] xs) : ∃ x, xs = [x] ∧ TRep H d x := by
  unfold TReps at h
  obtain ⟨x, r, rfl, h1, h2⟩ := h
  unfold TReps at h2
  subst h2
  exact ⟨x, rfl, h1⟩
/-- the last datum of a plain step is a text -/
theorem last_str {nm : List Str} {st : PD} (h : WfSt nm st) : ∃ r s, r.length ≤ 3 ∧ st = .tup (r ++ [.str s]) := by
  cases h with
  | set => exact ⟨[_, _, _], _, by simp, rfl⟩
  | look => exact ⟨[_], _, by simp, rfl⟩
  | back => exact ⟨[_], _, by simp, rfl⟩
  | copy => exact ⟨[_], _, by simp, rfl⟩
  | inn => exact ⟨[_], _, by simp, rfl⟩
  | _ => exact ⟨[], _, by simp, rfl⟩
/-- a step is a set or its words are its texts -/
theorem words_of {nm : List Str} {st : PD} (h : WfSt nm st) : (∃ n s v, st = .tup [.str "set", .str n, v, .str s] ∧ wfVal v) ∨ (∃ w r, st = .tup (.str w :: r) ∧ w ≠ ("set" : Str) ∧ wordsOf st = strsOf (.str w :: r)) := by
  cases h with
  | set _ _ hv => exact .inl ⟨_, _, _, rfl, hv⟩
  | look => exact .inr ⟨_, _, rfl, by decide +kernel, rfl⟩
  | back => exact .inr ⟨_, _, rfl, by decide +kernel, rfl⟩
  | copy => exact .inr ⟨_, _, rfl, by decide +kernel, rfl⟩
  | inn => exact .inr ⟨_, _, rfl, by decide +kernel, rfl⟩
  | _ => exact .inr ⟨_, _, rfl, by decide +kernel, rfl⟩
theorem strsOf_append (a b : List PD) : strsOf (a ++ b) = strsOf a ++ strsOf b := by
  induction a with
  | nil => rfl
  | cons d r ih => cases d <;> simp [strsOf, ih]
def spRw (m : Nat) : Sp := fun vs H Q _ => ∃ (v : V) (nm : List Str) (p : List PD) (d : Nat) (l : List (Int × PD)), vs = [v, .int ((2 * d : Nat) : Int)] ∧ TRep H (.tup p) v ∧ (∀ n ∈ nm, isName n = true) ∧ Flat nm (d : Int) p l ∧ (∀ q ∈ l, q.1 < (d : Int) + (m : Int)) ∧ d + m ≤ 20 ∧ l.length ≤ 200 ∧
  ∀ (q : Addr) (H' : Hp), Gr [] H H' → H q = none → H' q = some (.lst ((l.map rowText).map V.str)) → Q (.ref q) H'
def spRwv : Nat → Sp
  | 0 => fun _ _ _ _ => False
  | j + 1 => spRw j
theorem sc_law_rows : FnScope ["_law_program_here", "_law_blanks", "_law_rows_here", "_law_step", "_law_words", "_law_word"] ["_law_program_here", "_law_blanks"] (defScope s_law_rows) := ⟨rfl, rfl, rfl, by decide +kernel, rfl, by decide +kernel, by decide +kernel⟩
theorem rows_turn (T : TX K mg) (m : Nat) (IH : FnOk P w K mg base CX0 (m + 1) T.d_law_rows.a T.d_law_rows.d ["_law_program_here", "_law_blanks"] (spRwv m)) :
    FnOk P w K mg base CX0 (m + 1 + 1) T.d_law_rows.a T.d_law_rows.d ["_law_program_here", "_law_blanks"] (spRw m) := by
  refine T.d_law_rows.F.ok sc_law_rows (fun vs H Q E h => ?_) (fun cdv A outer s H vs Q E hr h => ?_)
  · obtain ⟨_, _, _, _, _, rfl, _⟩ := h; rfl
  obtain ⟨v, nm, p, d, l, rfl, tp, hnm, fl, hdp, hd, hll, q⟩ := h
  obtain ⟨a, xs, rfl, ea, tx⟩ := rep_tup' tp
  refine ⟨_, (pss_cons (ps_set (i := 2) sc_law_rows.nd rfl (Or.inl rfl) (pe_lst pa_nil))
  (pss_cons (ps_for PassesOwn.never rfl (pi_anyK (K := K) rfl (pv 0)) (pg_name (i := 3) sc_law_rows.nd rfl (Or.inl rfl))
    (pss_cons (ps_setLc (i := 4) (own := [("_law_word", 5)]) rfl sc_law_rows.nd rfl rfl (sw_true rfl rfl rfl (by decide +kernel)) (pi_anyK (K := K) rfl (pv 3)) (blkOk_by (N := ["_law_program_here", "_law_blanks", "_law_rows_here", "_law_step", "_law_words", "_law_word"]) (sc := defScope s_law_rows) (own := [("_law_word", 5)]) (by decide +kernel)) (fun _ _ _ _ _ => (pg_name (i := 5) sc_law_rows.nd rfl (Or.inl rfl))) (fun _ _ _ _ _ => pts_one (pt_val (pe_callB (call_isiK' (K := K) rfl) (by rfl) T.z_isinstance bt_isinstance (pa_cons (pv 5) (pa_cons (pe_bltn (v := .ty "str") (by rfl) T.z_str bt_str rfl) pa_nil))))) (fun _ _ _ _ _ => (pv 5)))
  (Evl.pss_cut (ps_if (pt_cmpR (op_eqK (K := K) rfl (hu64 hr)) (pe_ix (ix_anyK (K := K) rfl) (pv 3) pe_int (fun _ _ => rfl)) pe_str (nomark _))
    (pss_one (ps_set (i := 4) sc_law_rows.nd rfl (Or.inl rfl) (pe_lst (pa_cons pe_str (pa_cons (pe_ix (ix_anyK (K := K) rfl) (pv 3) pe_int (fun _ _ => rfl)) (pa_cons (pe_call (ok_law_written T) (hr.mono (by omega)) (by rfl) T.d_law_written.g T.d_law_written.F.kp T.d_law_written.b .nil pass0 (pa_cons (pe_ix (ix_anyK (K := K) rfl) (pv 3) pe_int (fun _ _ => rfl)) pa_nil)) (pa_cons (pe_ix (ix_anyK (K := K) rfl) (pv 3) pe_int (fun _ _ => rfl)) pa_nil)))))))
    pss_nil)
  (pss_cons (ps_expr (pe_bmK (K := K) rfl PySem.F.plainAttrs_list PySem.F.slot_list_append PySem.F.type_list_append mt_append (pv 2) (pa_cons (pe_op (op_addK (K := K) rfl) (pe_op op_mulA pe_str (pv 1)) (pe_m1 PySem.F.slot_str_join PySem.F.type_str_join (mt_joinK (K := K) rfl) pe_str (pv 4))) pa_nil)))
  (pss_one (ps_if (pt_val (pe_callB (call_isiK' (K := K) rfl) (by rfl) T.z_isinstance bt_isinstance (pa_cons (pe_ix (ix_anyK (K := K) rfl) (pv 3) (pe_un un_neg pe_int) (fun _ _ => rfl)) (pa_cons (pe_bltn (v := .ty "tuple") (by rfl) T.z_tuple bt_tuple rfl) pa_nil))))
    (pss_one (ps_expr (pe_bmK (K := K) rfl PySem.F.plainAttrs_list PySem.F.slot_list_extend PySem.F.type_list_extend mt_extend (pv 2) (pa_cons (pe_call IH hr (by rfl) T.d_law_rows.g T.d_law_rows.F.kp T.d_law_rows.b .nil pass0 (pa_cons (pe_ix (ix_anyK (K := K) rfl) (pv 3) (pe_un un_neg pe_int) (fun _ _ => rfl)) (pa_cons (pe_op (op_addK (K := K) rfl) (pv 1) pe_int) pa_nil))) pa_nil))))
    pss_nil))))))
  (pss_one (ps_ret (pv 2))))), ?_⟩
  refine at_start [some (.ref a), some (.int ((2 * d : Nat) : Int)), none, none, none, none] rfl ?_
  walk_at "s"
  refine w_kLst (fun f H1 g1 hf e1 => ?_) (by simp)
  walk_at "s"
  refine w_iT' ?_
  walk_at "s"
  refine w_kIT (SqT.of (g1.get0 ea)) ?_
  have hxl := treps_len tx
  refine for_it (walk_tupE (xs := xs)) (fun i σ H' => ∃ (dn rest : List (Int × PD)) (v3 v4 : Option V), σ = [some (.ref a), some (.int ((2 * d : Nat) : Int)), some (.ref f), v3, v4, none] ∧
    Gr [] H H' ∧ H' f = some (.lst ((dn.map rowText).map V.str)) ∧ l = dn ++ rest ∧ Flat nm (d : Int) (p.drop i) rest) ?_ ?_ ?_ ?_
  · exact ⟨[], l, none, none, rfl, g1, e1, rfl, fl⟩
  · rintro i σ H' hi ⟨dn, rest, v3, v4, rfl, g, _⟩
    exact SqT.of (g.get0 ea)
  · rintro i x σ H2 H3 hi ⟨dn, rest, v3, v4, rfl, g2, e2, hl, f2⟩ ⟨rfl, hx⟩
    obtain ⟨st', hst', ts⟩ := treps_get tx hx
    have ts2 := g2.rep0 ts
    have hlt : i < p.length := by omega
    have hpd : p.drop i = st' :: p.drop (i + 1) := by
      rw [List.drop_eq_getElem_cons hlt]
      exact congrArg (· :: _) (List.getElem?_eq_some_iff.mp hst').2
    rw [hpd] at f2
    -- what the step is
    have what : ∃ (st : PD) (L L0 : List PD) (lb l' : List (Int × PD)) (nb : Option (List PD)), WfSt nm st ∧ st' = .tup L ∧ st = .tup L0 ∧ rest = ((d : Int), st) :: (lb ++ l') ∧ Flat nm (d : Int) (p.drop (i + 1)) l' ∧
        L.length ≤ 5 ∧ (∃ r s, L0 = r ++ [.str s]) ∧ (match nb with | none => L = L0 ∧ lb = [] | some body => L = L0 ++ [.tup body] ∧ Flat nm ((d : Int) + 1) body lb) := by
      generalize p.drop (i + 1) = pr at f2 ⊢
      cases f2 with
      | plain wst ib fl' =>
        obtain ⟨r, s, hr3, rfl⟩ := last_str wst
        exact ⟨_, _, _, [], _, none, wst, rfl, rfl, rfl, fl', by simp; omega, ⟨r, s, rfl⟩, rfl, rfl⟩
      | block wst ib fb fl' =>
        obtain ⟨r, s, hr3, rfl⟩ := last_str wst
        exact ⟨_, _, _, _, _, some _, wst, rfl, rfl, rfl, fl', by simp; omega, ⟨r, s, rfl⟩, rfl, fb⟩
    obtain ⟨st, L, L0, lb, l', nb, wst, rfl, rfl, rfl, fl', hL5, ⟨r0, s0, hr0⟩, hnb⟩ := what
    obtain ⟨u, us, rfl, eu, tu⟩ := rep_tup' ts2
    walk_at "s"
    refine w_iT' ?_
    walk_at "s"
    refine w_kIT (SqT.of eu) ?_
    refine lc_pure [some (.ref a), some (.int ((2 * d : Nat) : Int)), some (.ref f), some (.ref u), v4, none] rfl (walk_tupE (xs := us)) rfl (fun H' g => SqT.of (g.get0 eu)) isStrV (fun x => x) (fun x H4 hx g4 R A kA kR => ?_) (by have := treps_len tu; omega) (fun D H4 g4 hD e4 => ?_)
    · obtain ⟨dd, _, hdd⟩ := mem_reps tu hx
      walk_at "s"
      refine ⟨rfl, ?_⟩
      walk_at "s"
      refine isi_str (g4.rep0 hdd) ?_
      walk_at "s"
      refine iteB (fun h => ?_) (fun h => ?_)
      · walk_at "s"
        exact kA _ (Gr.refl _ _) h
      · exact kR _ (Gr.refl _ _) h
    · rw [strs_rep tu] at e4
      walk_at "s"
      obtain ⟨tl, hLt, htl⟩ : ∃ tl, L = L0 ++ tl ∧ strsOf tl = [] := by
        cases nb with
        | none => exact ⟨[], by rw [hnb.1, List.append_nil], rfl⟩
        | some body => exact ⟨[.tup body], hnb.1, rfl⟩
      have eu4 := g4.get0 eu
      have tu4 := g4.reps0 tu
      refine w_cut (Mid := fun σ' H' => ∃ wv, σ' = [some (.ref a), some (.int ((2 * d : Nat) : Int)), some (.ref f), some (.ref u), some (.ref wv), none] ∧ Gr [] H4 H' ∧ H' wv = some (.lst ((wordsOf (.tup L0)).map V.str))) ?_ ?_
      · walk_at "s"
        rcases words_of wst with ⟨n1, s1, v1, hst, hv1⟩ | ⟨w1, r1, hst, hw1, hws⟩
        · injection hst with hst
          subst hst
          rw [hLt] at tu4
          unfold TReps at tu4
          obtain ⟨x1, us1, rfl, t1, tu4⟩ := tu4
          unfold TReps at tu4
          obtain ⟨x2, us2, rfl, t2, tu4⟩ := tu4
          unfold TReps at tu4
          obtain ⟨x3, us3, rfl, t3, tu4⟩ := tu4
          unfold TReps at tu4
          obtain ⟨x4, us4, rfl, t4, tu4⟩ := tu4
          obtain rfl := rep_str' t1
          obtain rfl := rep_str' t2
          obtain rfl := rep_str' t4
          refine w_ixT (SqT.of eu4) (atI_zero rfl) ?_
          walk_at "s"
          rw [decide_eq_true rfl]
          walk_at "s"
          refine w_ixT (SqT.of eu4) (show atI _ ((1 : Nat) : Int) = some (V.str n1) from atI_nat' rfl) ?_
          walk_at "s"
          refine w_ixT (SqT.of eu4) (show atI _ ((2 : Nat) : Int) = some x3 from atI_nat' rfl) ?_
          walk_at "s"
          refine ⟨x3, v1, rfl, hv1, t3, fun H5 g5 => ?_⟩
          walk_at "s"
          refine w_ixT (SqT.of (g5.get0 eu4)) (show atI _ ((3 : Nat) : Int) = some (V.str s1) from atI_nat' rfl) ?_
          walk_at "s"
          refine w_kLst (fun p6 H6 g6 hp6 e6 => ?_) (by simp)
          walk_at "s"
          exact ⟨p6, rfl, g5.trans g6, e6⟩
        · injection hst with hst
          subst hst
          have tu4' := tu4
          rw [hLt] at tu4'
          unfold TReps at tu4'
          obtain ⟨x1, us1, rfl, t1, _⟩ := tu4'
          obtain rfl := rep_str' t1
          refine w_ixT (SqT.of eu4) (atI_zero rfl) ?_
          walk_at "s"
          rw [deq_str, decide_eq_false hw1]
          walk_at "s"
          exact ⟨D, rfl, Gr.refl _ _, by rw [e4, hws, hLt, strsOf_append, htl, List.append_nil]⟩
      · rintro σ' H5 ⟨wv, rfl, g5, e5⟩
        obtain ⟨wl, wsm⟩ := words_small wst hnm
        have jl := join_len " " (wordsOf (.tup L0))
        rw [show (" " : Str).length = 1 by decide +kernel] at jl
        have ml : (Txt.mul " " ((2 * d : Nat) : Int)).length = 2 * d := by rw [TL.len_tl, tl_blanks, List.length_replicate]
        have g25 := g4.trans g5
        walk_at "s"
        refine szc ⟨by decide +kernel, by omega, by omega⟩ ?_
        walk_at "s"
        refine w_join (ys := wordsOf (.tup L0)) (SqL.of e5) (by rw [show (" " : Str).length = 1 by decide +kernel]; omega) ?_
        walk_at "s"
        refine w_app (g25.get0 e2) (by rw [List.length_map, List.length_map]; have := congrArg List.length hl; rw [List.length_append] at this; omega) (fun H6 g6 e6 => ?_)
        walk_at "s"
        have eu6 := g6.tup _ _ (g5.get0 eu4)
        have rt : rowText ((d : Int), .tup L0) = Txt.mul " " ((2 * d : Nat) : Int) ++ Txt.join " " (wordsOf (.tup L0)) := by
          unfold rowText; rw [show 2 * (d : Int) = ((2 * d : Nat) : Int) by omega]
        have gf : Gr [] H H6 := (g2.trans g25).transF g6 hf
        have e6' : H6 f = some (.lst (((dn ++ [((d : Int), PD.tup L0)]).map rowText).map V.str)) := by
          rw [e6, List.map_append, List.map_append]; simp only [List.map_cons, List.map_nil, rt]
        cases nb with
        | none =>
          obtain ⟨hLL, rfl⟩ := hnb
          subst hLL
          rw [hr0] at tu
          obtain ⟨ys, zs, rfl, _, tz⟩ := treps_split tu
          obtain ⟨x, rfl, tx1⟩ := treps_one tz
          obtain rfl := rep_str' tx1
          refine w_ixT (SqT.of eu6) atI_end ?_
          walk_at "s"
          exact ⟨dn ++ [((d : Int), PD.tup L)], l', _, _, rfl, gf, e6', by rw [hl, List.nil_append, List.append_assoc]; rfl, fl'⟩
        | some body =>
          obtain ⟨hLL, fb⟩ := hnb
          rw [hLL] at tu
          obtain ⟨ys, zs, rfl, _, tz⟩ := treps_split tu
          obtain ⟨x, rfl, tx1⟩ := treps_one tz
          have tb := g6.rep (g25.rep0 tx1) (by simp only [PD.fix, fb.fixs])
          obtain ⟨c, cs, rfl, ec, _⟩ := rep_tup' tb
          refine w_ixT (SqT.of eu6) atI_end ?_
          walk_at "s"
          refine isi_T_tuple ec ?_
          walk_at "s"
          refine w_ixT (SqT.of eu6) atI_end ?_
          walk_at "s"
          have hmem : ((d : Int), PD.tup L0) ∈ l := by rw [hl]; exact List.mem_append_right _ List.mem_cons_self
          have hm0 := hdp _ hmem
          obtain ⟨m', rfl⟩ : ∃ m', m = m' + 1 := ⟨m - 1, by have : (d : Int) < d + m := hm0; omega⟩
          have hlb : ∀ q ∈ lb, q ∈ l := fun q hq => by rw [hl]; exact List.mem_append_right _ (List.mem_cons_of_mem _ (List.mem_append_left _ hq))
          have hlen := congrArg List.length hl
          rw [List.length_append, List.length_cons, List.length_append] at hlen
          refine ⟨.ref c, nm, body, d + 1, lb, by rw [show ((2 * (d + 1) : Nat) : Int) = ((2 * d : Nat) : Int) + 2 by omega]; rfl, tb, hnm, fb, fun q hq => by have := hdp q (hlb q hq); omega, by omega, by omega, fun p9 H9 g9 hp9 e9 => ?_⟩
          walk_at "s"
          refine w_ext (g9.get0 e6') e9 (by simp only [List.length_map, List.length_append, List.length_cons, List.length_nil]; omega) (fun H10 g10 e10 => ?_)
          walk_at "s"
          refine ⟨dn ++ [((d : Int), PD.tup L0)] ++ lb, l', _, _, rfl, (gf.trans g9).transF g10 hf, by rw [e10]; simp only [List.map_append], by rw [hl]; simp, fl'⟩
  · rintro σ H' ⟨dn, rest, v3, v4, rfl, g2, e2, hl, f2⟩
    walk_at "s"
    have : p.drop xs.length = [] := by rw [hxl]; simp
    rw [this] at f2
    cases f2
    rw [List.append_nil] at hl
    subst hl
    exact q f H' g2 hf e2
theorem ok_rows (T : TX K mg) : ∀ m : Nat, FnOk P w K mg base CX0 (m + 1 + 1) T.d_law_rows.a T.d_law_rows.d ["_law_program_here", "_law_blanks"] (spRw m)
  | 0 => rows_turn T 0 ⟨fun _ _ _ _ h => h.elim, fun _ _ _ _ _ _ _ _ _ _ _ _ _ h => h.elim⟩
  | m + 1 => rows_turn T (m + 1) (ok_rows T m)
end
end RS
set_option Elab.async false
set_option linter.all false
set_option maxRecDepth 100000
set_option maxHeartbeats 4000000

namespace RS
open PySem L2 RZ
/-! steps by their heads -/
local macro_rules | `(tactic| walk_at "fr") => `(tactic| first
  | assumption
  | exact SqL.of (by assumption)
  | exact SqT.of (by assumption)
  | exact Or.inl (by assumption)
  | exact Or.inr (by assumption)
  | (refine Gr.get (by assumption) ?_ (by walk_at "nin"); walk_at "fr")
  | (refine Gr.tup (by assumption) _ _ ?_; walk_at "fr")
  | (refine SqL.of ?_; walk_at "fr1")
  | (refine SqT.of ?_; walk_at "fr1")
  | (refine Gr.sqL (by assumption) ?_ (by walk_at "nin"); walk_at "fr")
  | (refine Gr.sqT (by assumption) ?_ (by walk_at "nin"); walk_at "fr")
  | (refine Gr.rep0 (by assumption) ?_; walk_at "fr")
  | (refine Gr.reps0 (by assumption) ?_; walk_at "fr"))
local macro_rules | `(tactic| walk_at "fr1") => `(tactic| first
  | assumption
  | (refine Gr.tup (by assumption) _ _ ?_; walk_at "fr1")
  | (refine Gr.get (by assumption) ?_ (by walk_at "nin"); walk_at "fr1"))
local macro_rules | `(tactic| walk_at "nin") => `(tactic| first
  | exact nin_nil
  | assumption
  | (refine nin_one ?_; walk_at "ne"))
local macro_rules | `(tactic| walk_at "ne") => `(tactic| first
  | assumption
  | exact Ne.symm (by assumption)
  | exact ne_new (by assumption) (by assumption)
  | exact Ne.symm (ne_new (by assumption) (by assumption)))
local macro_rules | `(tactic| walk_at "sz") => `(tactic| first
  | assumption
  | omega
  | (simp only [List.length_cons, List.length_nil, List.length_append, List.length_map, CDiv, CDivN, CMul]; omega)
  | decide)
local macro_rules | `(tactic| walk_at "i1") => `(tactic| first
  | ((with_reducible refine' isi_L_list ?vh ?_); (case vh => walk_at "fr"))
  | ((with_reducible refine' isi_T_list ?vh ?_); (case vh => walk_at "fr"))
  | ((with_reducible refine' isi_L_tuple ?vh ?_); (case vh => walk_at "fr"))
  | ((with_reducible refine' isi_T_tuple ?vh ?_); (case vh => walk_at "fr"))
  | ((with_reducible refine' isi_L_str ?vh ?_); (case vh => walk_at "fr"))
  | ((with_reducible refine' isi_T_str ?vh ?_); (case vh => walk_at "fr"))
  | ((with_reducible refine' isi_L_int ?vh ?_); (case vh => walk_at "fr"))
  | ((with_reducible refine' isi_T_int ?vh ?_); (case vh => walk_at "fr"))
  | ((with_reducible refine' isi_L_bool ?vh ?_); (case vh => walk_at "fr"))
  | ((with_reducible refine' isi_T_bool ?vh ?_); (case vh => walk_at "fr")))
local macro_rules | `(tactic| walk_at "s") => `(tactic| repeat (first
  | with_reducible refine Stp.h ?_
  | (with_reducible refine szc ?_ ?_; walk_at "sz")
  | ((with_reducible refine' w_kTyL ?vh ?_); (case vh => walk_at "fr"))
  | ((with_reducible refine' w_lenL ?vh ?_); (case vh => walk_at "fr"))
  | ((with_reducible refine' w_lenT ?vh ?_); (case vh => walk_at "fr"))))
local macro_rules | `(tactic| walk_at "gr") => `(tactic| first
  | exact Gr.refl _ _
  | assumption
  | exact Gr.wide (by assumption)
  | (refine Gr.trans ?_ (by assumption); walk_at "gr")
  | (refine Gr.trans ?_ (Gr.wide (by assumption)); walk_at "gr"))
local macro_rules | `(tactic| walk_at "s2") => `(tactic| (with_reducible refine Stp.h ?_; with_reducible refine Stp.h ?_))

section
variable {P : Program} {w : World} {K : PySem.W.Frag} {mg : Str → Option Value} {base : Heap}
/-- a datum of a sheet, of a depth -/
def okD : Nat → PD → Prop
  | _, .non => True
  | _, .int _ => True
  | _, .str _ => True
  | _, .bl _ => False
  | 0, .tup _ => False
  | 0, .lst _ => False
  | m + 1, .tup l => l.length ≤ 1000 ∧ ∀ d ∈ l, okD m d
  | m + 1, .lst l => l.length ≤ 1000 ∧ ∀ d ∈ l, okD m d
theorem walk_zipT {a b : Addr} {xs ys : List V} {n : Nat} (hn : n = min xs.length ys.length) : Walk (ItzT K a b) n (fun H => SqT K H a xs ∧ SqT K H b ys) (YPair (fun i => xs[i]?) (fun i => ys[i]?)) := by
  have lt : ∀ i, i < n → i < xs.length ∧ i < ys.length := fun i hi => by omega
  refine Walk.mk (fun i Ht hi q => ⟨xs, ys, xs[i]'(lt i hi).1, ys[i]'(lt i hi).2, q.1, q.2, List.getElem?_eq_getElem (lt i hi).1, List.getElem?_eq_getElem (lt i hi).2⟩) (fun Ht q => ⟨xs, ys, q.1, q.2, by omega⟩) ?_
  rintro i Ht v Hu _ q ⟨tt, x, z, e1, e2, e3, e4, e5⟩
  exact ⟨tt, x, z, e1, e2, e3, e4 xs q.1, e5 ys q.2⟩
theorem all_true : ∀ n : Nat, (List.replicate n true).all id = true
  | 0 => rfl
  | n + 1 => by rw [List.replicate_succ, List.all_cons, all_true n]; rfl
def kZip (K : PySem.W.Frag) (R : It → Hp → Prop) : List V → Hp → Prop := fun vs H1 => ∃ a b xs ys, vs = [.ref a, .ref b] ∧ ((SqL K H1 a xs ∧ SqL K H1 b ys ∧ R (Itz K a b) H1) ∨ (SqT K H1 a xs ∧ SqT K H1 b ys ∧ R (ItzT K a b) H1))
instance {tA : TA} {σ : L2.St} {H : Hp} {R : It → Hp → Prop} : Stp (iZipA K tA σ H R) (tA σ H (kZip K R)) := ⟨id⟩
theorem w_kZL {R : It → Hp → Prop} {H : Hp} {a b : Addr} {xs ys : List V} (h1 : SqL K H a xs) (h2 : SqL K H b ys) (r : R (Itz K a b) H) : kZip K R [.ref a, .ref b] H := ⟨a, b, xs, ys, rfl, .inl ⟨h1, h2, r⟩⟩
theorem w_kZT {R : It → Hp → Prop} {H : Hp} {a b : Addr} {xs ys : List V} (h1 : SqT K H a xs) (h2 : SqT K H b ys) (r : R (ItzT K a b) H) : kZip K R [.ref a, .ref b] H := ⟨a, b, xs, ys, rfl, .inr ⟨h1, h2, r⟩⟩
def spSm (m : Nat) : Sp := fun vs H Q _ => ∃ (u v : V) (d : PD), vs = [u, v] ∧ TRep H d u ∧ TRep H d v ∧ okD m d ∧ ∀ H', Gr [] H H' → Q (.bl true) H'
def spSmv : Nat → Sp
  | 0 => fun _ _ _ _ => False
  | j + 1 => spSm j
theorem sc_law_same : FnScope ["_law_found", "_law_due", "_law_one", "_law_other"] ["_law_found", "_law_due"] (defScope s_law_same) := ⟨rfl, rfl, rfl, by decide +kernel, rfl, by decide +kernel, by decide +kernel⟩
theorem same_turn (T : TX K mg) (m : Nat) (IH : FnOk P w K mg base CX0 m T.d_law_same.a T.d_law_same.d ["_law_found", "_law_due"] (spSmv m)) :
    FnOk P w K mg base CX0 (m + 1) T.d_law_same.a T.d_law_same.d ["_law_found", "_law_due"] (spSm m) := by
  refine T.d_law_same.F.ok sc_law_same (fun vs H Q E h => ?_) (fun cdv A outer s H vs Q E hr h => ?_)
  · obtain ⟨_, _, _, rfl, _⟩ := h; rfl
  obtain ⟨u, v, d, rfl, tu, tv, hd, q⟩ := h
  refine ⟨_, (pss_cons (ps_if (pt_val (pe_callB (call_isiK' (K := K) rfl) (by rfl) T.z_isinstance bt_isinstance (pa_cons (pv 1) (pa_cons (pe_tup (pa_cons (pe_bltn (v := .ty "list") (by rfl) T.z_list bt_list rfl) (pa_cons (pe_bltn (v := .ty "tuple") (by rfl) T.z_tuple bt_tuple rfl) pa_nil))) pa_nil))))
    (pss_cons (ps_if (PW.pt (pw_or (pt_cmpR (op_neK (K := K) rfl (hu64 hr)) (pe_callB (call_isiK' (K := K) rfl) (by rfl) T.z_isinstance bt_isinstance (pa_cons (pv 0) (pa_cons (pe_bltn (v := .ty "list") (by rfl) T.z_list bt_list rfl) pa_nil))) (pe_callB (call_isiK' (K := K) rfl) (by rfl) T.z_isinstance bt_isinstance (pa_cons (pv 1) (pa_cons (pe_bltn (v := .ty "list") (by rfl) T.z_list bt_list rfl) pa_nil))) (nomark _)) (pw_or1 (pt_cmpR (op_neK (K := K) rfl (hu64 hr)) (pe_callB (call_isiK' (K := K) rfl) (by rfl) T.z_isinstance bt_isinstance (pa_cons (pv 0) (pa_cons (pe_bltn (v := .ty "tuple") (by rfl) T.z_tuple bt_tuple rfl) pa_nil))) (pe_callB (call_isiK' (K := K) rfl) (by rfl) T.z_isinstance bt_isinstance (pa_cons (pv 1) (pa_cons (pe_bltn (v := .ty "tuple") (by rfl) T.z_tuple bt_tuple rfl) pa_nil))) (nomark _)))))
    (pss_one (ps_ret pe_bl))
    pss_nil)
  (pss_one (ps_ret (pe_and (pe_cmpR (op_eqK (K := K) rfl (hu64 hr)) (pe_callB (call_lenK (K := K) rfl) (by rfl) T.z_len bt_len (pa_cons (pv 0) pa_nil)) (pe_callB (call_lenK (K := K) rfl) (by rfl) T.z_len bt_len (pa_cons (pv 1) pa_nil)) (nomark _)) (pe_one (pe_callB (cr_allK (K := K) rfl rfl) (by rfl) T.z_all bt_all (pa_cons (pe_lc (own := [("_law_one", 2), ("_law_other", 3)]) rfl sc_law_same.nd (piK (f := fun K => iZipA K _) (K := K) rfl (pi_zipA (by rfl) T.z_zip (pa_cons (pv 0) (pa_cons (pv 1) pa_nil)))) (blkOk_by (N := ["_law_found", "_law_due", "_law_one", "_law_other"]) (sc := defScope s_law_same) (own := [("_law_one", 2), ("_law_other", 3)]) (by decide +kernel)) (fun _ _ _ _ _ => (pg_tupK (K := K) (n := 2) rfl rfl (pgs_cons (pg_name (i := 2) sc_law_same.nd rfl (Or.inl rfl)) (pgs_cons (pg_name (i := 3) sc_law_same.nd rfl (Or.inl rfl)) pgs_nil)))) (fun _ _ _ _ _ => pts_nil) (fun _ _ _ _ _ => (pe_call IH hr (by rfl) T.d_law_same.g T.d_law_same.F.kp T.d_law_same.b .nil pass0 (pa_cons (pv 2) (pa_cons (pv 3) pa_nil))))) pa_nil)))))))
    pss_nil)
  (pss_cons (ps_if (PW.pt (pw_or (pt_cmp (pc_isN (pv 1)) rfl) (pw_or1 (pt_val (pe_callB (call_isiK' (K := K) rfl) (by rfl) T.z_isinstance bt_isinstance (pa_cons (pv 1) (pa_cons (pe_bltn (v := .ty "str") (by rfl) T.z_str bt_str rfl) pa_nil)))))))
    (pss_one (ps_ret (pe_and (pe_cmpR (op_eqK (K := K) rfl (hu64 hr)) (pv 0) (pv 1) (nomark _)) (pe_one (pe_cmpR (op_eqK (K := K) rfl (hu64 hr)) (pe_callB (call_isiK' (K := K) rfl) (by rfl) T.z_isinstance bt_isinstance (pa_cons (pv 0) (pa_cons (pe_bltn (v := .ty "str") (by rfl) T.z_str bt_str rfl) pa_nil))) (pe_callB (call_isiK' (K := K) rfl) (by rfl) T.z_isinstance bt_isinstance (pa_cons (pv 1) (pa_cons (pe_bltn (v := .ty "str") (by rfl) T.z_str bt_str rfl) pa_nil))) (nomark _))))))
    pss_nil)
  (pss_one (ps_ret (pe_and (pe_callB (call_isiK' (K := K) rfl) (by rfl) T.z_isinstance bt_isinstance (pa_cons (pv 0) (pa_cons (pe_bltn (v := .ty "int") (by rfl) T.z_int bt_int rfl) pa_nil))) (pe_and (pe_not (pe_callB (call_isiK' (K := K) rfl) (by rfl) T.z_isinstance bt_isinstance (pa_cons (pv 0) (pa_cons (pe_bltn (v := .ty "bool") (by rfl) T.z_bool bt_bool rfl) pa_nil)))) (pe_one (pe_cmpR (op_eqK (K := K) rfl (hu64 hr)) (pv 0) (pv 1) (nomark _))))))))), ?_⟩
  refine at_start [some u, some v, none, none] rfl ?_
  walk_at "s"
  refine w_kTup (fun p2 H2 g2 hp2 e2 => ?_) (by simp)
  walk_at "s"
  cases d with
  | non =>
    obtain rfl := rep_non' tu
    obtain rfl := rep_non' tv
    refine isi_N_lt e2 ?_
    walk_at "s"
    rw [decide_eq_true rfl]
    walk_at "s"
    exact q H2 g2
  | str z =>
    obtain rfl := rep_str' tu
    obtain rfl := rep_str' tv
    refine isi_S_lt e2 ?_
    walk_at "s"
    rw [decide_eq_true rfl]
    walk_at "s"
    rw [decide_eq_true rfl]
    exact q H2 g2
  | int z =>
    obtain rfl := rep_int' tu
    obtain rfl := rep_int' tv
    refine isi_I_lt e2 ?_
    walk_at "s"
    rw [decide_eq_true rfl]
    exact q H2 g2
  | bl z => cases m <;> exact hd.elim
  | lst l =>
    obtain ⟨a, xs, rfl, ea, txs⟩ := rep_lst' tu
    obtain ⟨b, ys, rfl, eb, tys⟩ := rep_lst' tv
    have la := treps_len txs
    have lb := treps_len tys
    refine isi_L_lt (g2.get0 eb) e2 ?_
    walk_at "s"
    refine isi_L_list (g2.get0 ea) ?_
    walk_at "s"
    refine isi_L_list (g2.get0 eb) ?_
    walk_at "s"
    rw [decide_eq_true rfl]
    walk_at "s"
    refine isi_L_tuple (g2.get0 ea) ?_
    walk_at "s"
    refine isi_L_tuple (g2.get0 eb) ?_
    walk_at "s"
    rw [decide_eq_true rfl]
    walk_at "s"
    refine w_lenL (SqL.of (g2.get0 ea)) ?_
    walk_at "s"
    refine w_lenL (SqL.of (g2.get0 eb)) ?_
    walk_at "s"
    rw [decide_eq_true (by rw [la, lb])]
    walk_at "s"
    refine w_kZL (SqL.of (g2.get0 ea)) (SqL.of (g2.get0 eb)) ?_
    · skip
      refine lc_fx [some (.ref a), some (.ref b), none, none] rfl (fp := []) (walk_zip (xs := xs) (ys := ys) rfl) (fun a ha => nomatch ha) (fun i acc H' => acc = List.replicate i (V.bl true) ∧ i ≤ 1000) (fun H' _ => ⟨rfl, by omega⟩) (fun i acc H1 D o _ h => h) (fun i acc H' g _ => ⟨SqL.of (g.get0 (g2.get0 ea)), SqL.of (g.get0 (g2.get0 eb))⟩) (fun i acc H' h => by rw [h.1, List.length_replicate]; omega) ?_ ?_
      · rintro i x acc H3 H4 hi g3 ⟨rfl, hi'⟩ ⟨t, y1, y2, rfl, ht, rfl, hx1, hx2⟩ R A kA kR
        have g4 : Gr [] H3 (upd H3 t (.tup [y1, y2])) := Gr.new ht
        have e4 : (upd H3 t (.tup [y1, y2])) t = some (.tup [y1, y2]) := upd_same
        generalize upd H3 t (.tup [y1, y2]) = H4 at *
        refine w_gtup (SqT.of e4) rfl ?_
        walk_at "s"
        refine ⟨rfl, ?_⟩
        walk_at "s"
        obtain ⟨d1, hd1, td1⟩ := treps_get txs hx1
        obtain ⟨y2', hy2', td2⟩ := treps_get' tys hd1
        rw [show ys[i]? = some y2 from hx2] at hy2'
        injection hy2' with hy2'
        subst hy2'
        cases m with
        | zero => exact hd.elim
        | succ m' =>
          refine ⟨y1, y2, d1, rfl, g4.rep0 (g3.rep0 (g2.rep0 td1)), g4.rep0 (g3.rep0 (g2.rep0 td2)), hd.2 d1 (List.mem_of_getElem? hd1), fun H5 g5 => ?_⟩
          refine kA _ H5 (g4.trans g5) ⟨by rw [List.replicate_succ'], ?_⟩
          have := hd.1
          have := treps_len txs
          have : i < min xs.length ys.length := hi
          omega
      · rintro D acc H5 g5 hD e5 ⟨rfl, hi'⟩
        refine w_all (bs := List.replicate _ true) (SqL.of (by rw [e5, List.map_replicate])) ?_
        rw [all_true]
        walk_at "s"
        exact q H5 (g2.trans g5)
  | tup l =>
    obtain ⟨a, xs, rfl, ea, txs⟩ := rep_tup' tu
    obtain ⟨b, ys, rfl, eb, tys⟩ := rep_tup' tv
    have la := treps_len txs
    have lb := treps_len tys
    refine isi_T_lt (g2.get0 eb) e2 ?_
    walk_at "s"
    refine isi_T_list (g2.get0 ea) ?_
    walk_at "s"
    refine isi_T_list (g2.get0 eb) ?_
    walk_at "s"
    rw [decide_eq_true rfl]
    walk_at "s"
    refine isi_T_tuple (g2.get0 ea) ?_
    walk_at "s"
    refine isi_T_tuple (g2.get0 eb) ?_
    walk_at "s"
    rw [decide_eq_true rfl]
    walk_at "s"
    refine w_lenT (SqT.of (g2.get0 ea)) ?_
    walk_at "s"
    refine w_lenT (SqT.of (g2.get0 eb)) ?_
    walk_at "s"
    rw [decide_eq_true (by rw [la, lb])]
    walk_at "s"
    refine w_kZT (SqT.of (g2.get0 ea)) (SqT.of (g2.get0 eb)) ?_
    · skip
      refine lc_fx [some (.ref a), some (.ref b), none, none] rfl (fp := []) (walk_zipT (xs := xs) (ys := ys) rfl) (fun a ha => nomatch ha) (fun i acc H' => acc = List.replicate i (V.bl true) ∧ i ≤ 1000) (fun H' _ => ⟨rfl, by omega⟩) (fun i acc H1 D o _ h => h) (fun i acc H' g _ => ⟨SqT.of (g.get0 (g2.get0 ea)), SqT.of (g.get0 (g2.get0 eb))⟩) (fun i acc H' h => by rw [h.1, List.length_replicate]; omega) ?_ ?_
      · rintro i x acc H3 H4 hi g3 ⟨rfl, hi'⟩ ⟨t, y1, y2, rfl, ht, rfl, hx1, hx2⟩ R A kA kR
        have g4 : Gr [] H3 (upd H3 t (.tup [y1, y2])) := Gr.new ht
        have e4 : (upd H3 t (.tup [y1, y2])) t = some (.tup [y1, y2]) := upd_same
        generalize upd H3 t (.tup [y1, y2]) = H4 at *
        refine w_gtup (SqT.of e4) rfl ?_
        walk_at "s"
        refine ⟨rfl, ?_⟩
        walk_at "s"
        obtain ⟨d1, hd1, td1⟩ := treps_get txs hx1
        obtain ⟨y2', hy2', td2⟩ := treps_get' tys hd1
        rw [show ys[i]? = some y2 from hx2] at hy2'
        injection hy2' with hy2'
        subst hy2'
        cases m with
        | zero => exact hd.elim
        | succ m' =>
          refine ⟨y1, y2, d1, rfl, g4.rep0 (g3.rep0 (g2.rep0 td1)), g4.rep0 (g3.rep0 (g2.rep0 td2)), hd.2 d1 (List.mem_of_getElem? hd1), fun H5 g5 => ?_⟩
          refine kA _ H5 (g4.trans g5) ⟨by rw [List.replicate_succ'], ?_⟩
          have := hd.1
          have := treps_len txs
          have : i < min xs.length ys.length := hi
          omega
      · rintro D acc H5 g5 hD e5 ⟨rfl, hi'⟩
        refine w_all (bs := List.replicate _ true) (SqL.of (by rw [e5, List.map_replicate])) ?_
        rw [all_true]
        walk_at "s"
        exact q H5 (g2.trans g5)
theorem ok_same (T : TX K mg) : ∀ m : Nat, FnOk P w K mg base CX0 (m + 1) T.d_law_same.a T.d_law_same.d ["_law_found", "_law_due"] (spSm m)
  | 0 => same_turn T 0 ⟨fun _ _ _ _ h => h.elim, fun _ _ _ _ _ _ _ _ _ _ _ _ _ h => h.elim⟩
  | m + 1 => same_turn T (m + 1) (ok_same T m)
end
end RS
set_option Elab.async false
set_option linter.all false
set_option maxRecDepth 100000
set_option maxHeartbeats 4000000

namespace RS
open PySem L2 RZ
/-! steps by their heads -/
local macro_rules | `(tactic| walk_at "fr") => `(tactic| first
  | assumption
  | exact SqL.of (by assumption)
  | exact SqT.of (by assumption)
  | exact Or.inl (by assumption)
  | exact Or.inr (by assumption)
  | (refine Gr.get (by assumption) ?_ (by walk_at "nin"); walk_at "fr")
  | (refine Gr.tup (by assumption) _ _ ?_; walk_at "fr")
  | (refine SqL.of ?_; walk_at "fr1")
  | (refine SqT.of ?_; walk_at "fr1")
  | (refine Gr.sqL (by assumption) ?_ (by walk_at "nin"); walk_at "fr")
  | (refine Gr.sqT (by assumption) ?_ (by walk_at "nin"); walk_at "fr")
  | (refine Gr.rep0 (by assumption) ?_; walk_at "fr")
  | (refine Gr.reps0 (by assumption) ?_; walk_at "fr"))
local macro_rules | `(tactic| walk_at "fr1") => `(tactic| first
  | assumption
  | (refine Gr.tup (by assumption) _ _ ?_; walk_at "fr1")
  | (refine Gr.get (by assumption) ?_ (by walk_at "nin"); walk_at "fr1"))
local macro_rules | `(tactic| walk_at "nin") => `(tactic| first
  | exact nin_nil
  | assumption
  | (refine nin_one ?_; walk_at "ne"))
local macro_rules | `(tactic| walk_at "ne") => `(tactic| first
  | assumption
  | exact Ne.symm (by assumption)
  | exact ne_new (by assumption) (by assumption)
  | exact Ne.symm (ne_new (by assumption) (by assumption)))
local macro_rules | `(tactic| walk_at "sz") => `(tactic| first
  | assumption
  | omega
  | (simp only [List.length_cons, List.length_nil, List.length_append, List.length_map, CDiv, CDivN, CMul]; omega)
  | decide)
local macro_rules | `(tactic| walk_at "i1") => `(tactic| first
  | ((with_reducible refine' isi_L_list ?vh ?_); (case vh => walk_at "fr"))
  | ((with_reducible refine' isi_T_list ?vh ?_); (case vh => walk_at "fr"))
  | ((with_reducible refine' isi_L_tuple ?vh ?_); (case vh => walk_at "fr"))
  | ((with_reducible refine' isi_T_tuple ?vh ?_); (case vh => walk_at "fr"))
  | ((with_reducible refine' isi_L_str ?vh ?_); (case vh => walk_at "fr"))
  | ((with_reducible refine' isi_T_str ?vh ?_); (case vh => walk_at "fr"))
  | ((with_reducible refine' isi_L_int ?vh ?_); (case vh => walk_at "fr"))
  | ((with_reducible refine' isi_T_int ?vh ?_); (case vh => walk_at "fr"))
  | ((with_reducible refine' isi_L_bool ?vh ?_); (case vh => walk_at "fr"))
  | ((with_reducible refine' isi_T_bool ?vh ?_); (case vh => walk_at "fr")))
local macro_rules | `(tactic| walk_at "s") => `(tactic| repeat (first
  | with_reducible refine Stp.h ?_
  | (with_reducible refine szc ?_ ?_; walk_at "sz")
  | ((with_reducible refine' w_kTyL ?vh ?_); (case vh => walk_at "fr"))
  | ((with_reducible refine' w_lenL ?vh ?_); (case vh => walk_at "fr"))
  | ((with_reducible refine' w_lenT ?vh ?_); (case vh => walk_at "fr"))))
local macro_rules | `(tactic| walk_at "gr") => `(tactic| first
  | exact Gr.refl _ _
  | assumption
  | exact Gr.wide (by assumption)
  | (refine Gr.trans ?_ (by assumption); walk_at "gr")
  | (refine Gr.trans ?_ (Gr.wide (by assumption)); walk_at "gr"))
local macro_rules | `(tactic| walk_at "s2") => `(tactic| (with_reducible refine Stp.h ?_; with_reducible refine Stp.h ?_))

section
variable {P : Program} {w : World} {K : PySem.W.Frag} {mg : Str → Option Value} {base : Heap}
/-- comprehension whose turns do things, with data in the heap -/
theorem lc_gx {J : It} {n : Nat} {G : Hp → Prop} {g : TG} {tt : TT} {te : TE} {vs : List Nat} {σ : L2.St} {H : Hp} {Q : VK} (σw : L2.St) (hw : wipe σ vs = σw) {Y : Nat → Hp → V → Hp → Prop} {fp : List Addr} (w : Walk J n G Y) (hfp : ∀ a ∈ fp, ∃ o, H a = some o) (P : Nat → List V → Hp → Prop) (h0 : ∀ H', Gr [] H H' → P 0 [] H')
    (st : ∀ i acc H1 D xs ys, H D = none → H1 D = some (.lst xs) → P i acc H1 → P i acc (upd H1 D (.lst ys))) (hG : ∀ i acc H', Gr fp H H' → P i acc H' → G H') (hl : ∀ i acc H', P i acc H' → acc.length < 16000000)
    (hs : ∀ i x acc H1 H2, i < n → Gr fp H H1 → P i acc H1 → Y i H1 x H2 → ∀ (R : Hp → Prop) (A : VK), (∀ y H3, Gr fp H1 H3 → P (i + 1) (acc ++ [y]) H3 → A y H3) → (∀ H3, Gr fp H1 H3 → P (i + 1) acc H3 → R H3) →
      g x σw H2 fun σ2 H2 => wipe σ2 vs = σw ∧ tt σ2 H2 fun b H3 => if b = true then te σ2 H3 A else R H3)
    (q : ∀ D acc H', Gr fp H H' → H D = none → H' D = some (.lst acc) → P n acc H' → Q (.ref D) H') : kLc g tt te vs σ Q J H := by
  intro D hD
  subst hw
  have nD : D ∉ fp := fun m => by obtain ⟨o, e⟩ := hfp D m; rw [hD] at e; cases e
  refine lc_it w (fun i H' => ∃ acc, Gr fp H H' ∧ H' D = some (.lst acc) ∧ P i acc H') ⟨[], Gr.new hD, upd_same, h0 _ (Gr.new hD)⟩ (fun i H' _ ⟨acc, h1, _, h3⟩ => hG i acc H' h1 h3) ?_ ?_
  · rintro i x H1 H1' hi ⟨acc, g1, d1, p1⟩ y
    refine hs i x acc H1 H1' hi g1 p1 y _ _ (fun y H3 g3 p3 => ?_) (fun H3 g3 p3 => ?_)
    · refine ⟨acc, g3.get d1 nD, sz_lt (by have := hl _ _ _ p1; omega), acc ++ [y], ?_, upd_same, st _ _ _ _ _ _ hD (g3.get d1 nD) p3⟩
      have gg : Gr (D :: fp) H (upd H3 D (.lst (acc ++ [y]))) := ((g1.trans g3).mono fun a h => List.mem_cons_of_mem _ h).trans (Gr.put (g3.get d1 nD) rfl List.mem_cons_self)
      exact gg.fresh hD
    · exact ⟨acc, g1.trans g3, g3.get d1 nD, p3⟩
  · rintro H' ⟨acc, g1, d1, p1⟩
    exact q D acc H' g1 hD d1 p1
theorem treps_take {H : Hp} : ∀ (n : Nat) {ds : List PD} {xs : List V}, TReps H ds xs → TReps H (ds.take n) (xs.take n)
  | 0, ds, xs, h => by rw [List.take_zero, List.take_zero]; exact treps_nil
  | n + 1, [], xs, h => by unfold TReps at h; subst h; exact treps_nil
  | n + 1, d :: ds, xs, h => by
    unfold TReps at h
    obtain ⟨x, r, rfl, h1, h2⟩ := h
    exact treps_cons h1 (treps_take n h2)
theorem few_ok {nm : List Str} {slt : Str} (h : isName slt = true) (m : Nat) : WfP nm 6 150 (([.tup [.str "pass"], .tup [.str "copy", .str slt], .tup [.str "back", .str slt], .tup [.str "in", .str slt, .tup []], .tup [.str "begin", .tup [.tup [.str "pass"]]]] : List PD).take m) := by
  have p1 : WfP nm 6 10 [.tup [.str "pass"]] := (WfP.one (k := 0) .pass_ (by decide +kernel)).mono (by omega) (by omega)
  have p2 : WfP nm 6 10 [.tup [.str "copy", .str slt]] := (WfP.one (k := 0) (.copy h) inb_copy).mono (by omega) (by omega)
  have p3 : WfP nm 6 10 [.tup [.str "back", .str slt]] := (WfP.one (k := 0) (.back h) inb_back).mono (by omega) (by omega)
  have p4 : WfP nm 6 10 [.tup [.str "in", .str slt, .tup []]] := (WfP.blk (k := 5) (m := 1) (.inn h) inb_in WfP.nil).mono (by omega) (by omega)
  have p5 : WfP nm 6 10 [.tup [.str "begin", .tup [.tup [.str "pass"]]]] := (WfP.blk (k := 5) (m := 1) .begin_ (by decide +kernel) (WfP.one .pass_ (by decide +kernel))).mono (by omega) (by omega)
  have e : m = 0 ∨ m = 1 ∨ m = 2 ∨ m = 3 ∨ m = 4 ∨ 5 ≤ m := by omega
  rcases e with rfl | rfl | rfl | rfl | rfl | hm
  · exact WfP.nil
  · exact p1.mono (by omega) (by omega)
  · exact (p1.append p2).mono (by omega) (by omega)
  · exact (p1.append (p2.append p3)).mono (by omega) (by omega)
  · exact (p1.append (p2.append (p3.append p4))).mono (by omega) (by omega)
  · rw [List.take_of_length_le (by simpa using hm)]
    exact (p1.append (p2.append (p3.append (p4.append p5)))).mono (by omega) (by omega)
theorem eq_nil {a e : Addr} {ns : List Str} {H : Hp} {Q : VK} (h : H a = some (.lst (ns.map V.str))) (he : H e = some (.lst [])) (hn : ∀ s ∈ ns, isName s = true) (q : Q (.bl (decide (ns = []))) H) : rEqA K (.ref a) (.ref e) H Q := by
  refine Or.inr ⟨.list (ns.map PyData.str), .list [], .lst (SqL.of h) ?_, .lst (SqL.of he) .nil, ?_, by decide +kernel, ?_⟩
  · clear q h hn
    induction ns with
    | nil => exact .nil
    | cons a r ih => exact .cons (.str _) ih
  · have h1 : ∀ (l : List Str), (∀ s ∈ l, isName s = true) → PyData.canLayAll0 (l.map PyData.str) = true ∧ PyData.depthAll (l.map PyData.str) = 0 := by
      intro l
      induction l with
      | nil => exact fun _ => ⟨rfl, rfl⟩
      | cons a r ih =>
        intro hl
        obtain ⟨i1, i2⟩ := ih fun s hs => hl s (List.mem_cons_of_mem _ hs)
        obtain ⟨_, _, ha⟩ := isName_open (hl a List.mem_cons_self)
        refine ⟨?_, ?_⟩
        · rw [List.map_cons]
          show (PyData.canLay0 (.str a) && PyData.canLayAll0 (r.map PyData.str)) = true
          rw [i1, Bool.and_true]
          show a.cps.all (· < 0x110000) = true
          rw [← Array.all_toList, List.all_eq_true]
          intro c hc
          have := ha c hc
          exact decide_eq_true (by omega)
        · rw [List.map_cons]
          show max (PyData.depth (.str a)) (PyData.depthAll (r.map PyData.str)) = 0
          rw [i2]; rfl
    obtain ⟨i1, i2⟩ := h1 ns hn
    show (PyData.canLayAll0 (ns.map PyData.str) && decide (PyData.depthAll (ns.map PyData.str) + 1 ≤ 64)) = true
    rw [i1, i2]; rfl
  · have e : PyData.eqv (.list (ns.map PyData.str)) (.list []) = decide (ns = []) := by
      cases ns with
      | nil => rfl
      | cons a r => simp [PyData.eqv, PyData.eqvAll]
    rw [e]; exact q
def spDr : Sp := fun vs H Q _ => ∃ (b : Addr) (n : Int) (most picks steps : Nat), vs = [.ref b, .int (most : Int), .int (picks : Int), .int (steps : Int), .int 6] ∧ BoxAt H b n ∧ n + 100000 ≤ 1000000000000 ∧ most ≤ 60 ∧ picks ≤ 300 ∧ steps ≤ 150 ∧
  ∀ (t s p : Addr) (y : V) (sets : List PD) (ps : List Int) (prog : List PD) (H' : Hp), Gr [b] H H' → H s = none → H p = none → H' t = some (.tup [.ref s, .ref p, y]) → TRep H' (.lst sets) (.ref s) → H' p = some (.lst (ps.map V.int)) → TRep H' (.tup prog) y → WfSh sets ps prog → Q (.ref t) H'
theorem sc_law_drawn : FnScope ["_law_box_here", "_law_most", "_law_picks", "_law_steps", "_law_blocks", "_law_names_here", "_law_slots", "_law_settings", "_law_name", "_law_some", "_law_turn", "_law_rows_here"] ["_law_box_here", "_law_most", "_law_picks", "_law_steps", "_law_blocks"] (defScope s_law_drawn) := ⟨rfl, rfl, rfl, by decide +kernel, rfl, by decide +kernel, by decide +kernel⟩
theorem ok_law_drawn (T : TX K mg) : FnOk P w K mg base CX0 11 T.d_law_drawn.a T.d_law_drawn.d ["_law_box_here", "_law_most", "_law_picks", "_law_steps", "_law_blocks"] spDr := by
  refine T.d_law_drawn.F.ok sc_law_drawn (fun vs H Q E h => ?_) (fun cdv A outer s H vs Q E hr h => ?_)
  · obtain ⟨_, _, _, _, _, rfl, _⟩ := h; rfl
  obtain ⟨b, n, most, picks, steps, rfl, hb, hn, hm1, hm2, hm3, q⟩ := h
  refine ⟨_, (pss_cons (ps_par (i := 5) (j := 6) rfl sc_law_drawn.nd rfl rfl (by decide) rfl rfl (pa_cons (pe_call (ok_law_called T) (hr.mono (by decide)) (by rfl) T.d_law_called.g T.d_law_called.F.kp T.d_law_called.b .nil pass0 (pa_cons (pv 0) (pa_cons (pe_call (ok_law_take T) (hr.mono (by decide)) (by rfl) T.d_law_take.g T.d_law_take.F.kp T.d_law_take.b .nil pass0 (pa_cons (pv 0) (pa_cons (pe_op (op_addK (K := K) rfl) (pv 1) pe_int) pa_nil))) pa_nil))) (pa_cons (pe_call (ok_law_called T) (hr.mono (by decide)) (by rfl) T.d_law_called.g T.d_law_called.F.kp T.d_law_called.b .nil pass0 (pa_cons (pv 0) (pa_cons (pe_op (op_addK (K := K) rfl) pe_int (pe_call (ok_law_take T) (hr.mono (by decide)) (by rfl) T.d_law_take.g T.d_law_take.F.kp T.d_law_take.b .nil pass0 (pa_cons (pv 0) (pa_cons pe_int pa_nil)))) pa_nil))) pa_nil)) (by rfl))
  (pss_cons (ps_setLc (i := 7) (own := [("_law_name", 8)]) rfl sc_law_drawn.nd rfl rfl (sw_true rfl rfl rfl (by decide +kernel)) (pi_anyK (K := K) rfl (pv 5)) (blkOk_by (N := ["_law_box_here", "_law_most", "_law_picks", "_law_steps", "_law_blocks", "_law_names_here", "_law_slots", "_law_settings", "_law_name", "_law_some", "_law_turn", "_law_rows_here"]) (sc := defScope s_law_drawn) (own := [("_law_name", 8)]) (by decide +kernel)) (fun _ _ _ _ _ => (pg_name (i := 8) sc_law_drawn.nd rfl (Or.inl rfl))) (fun _ _ _ _ _ => pts_nil) (fun _ _ _ _ _ => (pe_tup (pa_cons (pv 8) (pa_cons (pe_ix (ix_anyK (K := K) rfl) (pe_lst (pa_cons pe_non (pa_cons (pe_call (ok_law_worth T) (hr.mono (by decide)) (by rfl) T.d_law_worth.g T.d_law_worth.F.kp T.d_law_worth.b .nil pass0 (pa_cons (pv 0) pa_nil)) pa_nil))) (pe_call (ok_law_take T) (hr.mono (by decide)) (by rfl) T.d_law_take.g T.d_law_take.F.kp T.d_law_take.b .nil pass0 (pa_cons (pv 0) (pa_cons pe_int pa_nil))) (fun _ _ => rfl)) pa_nil)))))
  (pss_cons (ps_setLc (i := 9) (own := [("_law_turn", 10)]) rfl sc_law_drawn.nd rfl rfl (sw_true rfl rfl rfl (by decide +kernel)) (pi_range1 (by rfl) T.z_range (pa_cons (pe_call (ok_law_take T) (hr.mono (by decide)) (by rfl) T.d_law_take.g T.d_law_take.F.kp T.d_law_take.b .nil pass0 (pa_cons (pv 0) (pa_cons (pe_op (op_addK (K := K) rfl) (pv 2) pe_int) pa_nil))) pa_nil)) (blkOk_by (N := ["_law_box_here", "_law_most", "_law_picks", "_law_steps", "_law_blocks", "_law_names_here", "_law_slots", "_law_settings", "_law_name", "_law_some", "_law_turn", "_law_rows_here"]) (sc := defScope s_law_drawn) (own := [("_law_turn", 10)]) (by decide +kernel)) (fun _ _ _ _ _ => (pg_name (i := 10) sc_law_drawn.nd rfl (Or.inl rfl))) (fun _ _ _ _ _ => pts_nil) (fun _ _ _ _ _ => (pe_ix (ix_anyK (K := K) rfl) (pe_lst (pa_cons (pe_call (ok_law_take T) (hr.mono (by decide)) (by rfl) T.d_law_take.g T.d_law_take.F.kp T.d_law_take.b .nil pass0 (pa_cons (pv 0) (pa_cons pe_int pa_nil))) (pa_cons (pe_call (ok_law_take T) (hr.mono (by decide)) (by rfl) T.d_law_take.g T.d_law_take.F.kp T.d_law_take.b .nil pass0 (pa_cons (pv 0) (pa_cons pe_int pa_nil))) pa_nil))) (pe_call (ok_law_take T) (hr.mono (by decide)) (by rfl) T.d_law_take.g T.d_law_take.F.kp T.d_law_take.b .nil pass0 (pa_cons (pv 0) (pa_cons pe_int pa_nil))) (fun _ _ => rfl))))
  (pss_cons (ps_if (pt_cmpR (op_eqK (K := K) rfl (hu64 hr)) (pv 5) (pe_lst pa_nil) (nomark _))
    (pss_cons (ps_set (i := 11) sc_law_drawn.nd rfl (Or.inl rfl) (pe_lst (pa_cons (pe_tup (pa_cons pe_str pa_nil)) (pa_cons (pe_tup (pa_cons pe_str (pa_cons (pe_ix (ix_anyK (K := K) rfl) (pv 6) pe_int (fun _ _ => rfl)) pa_nil))) (pa_cons (pe_tup (pa_cons pe_str (pa_cons (pe_ix (ix_anyK (K := K) rfl) (pv 6) pe_int (fun _ _ => rfl)) pa_nil))) (pa_cons (pe_tup (pa_cons pe_str (pa_cons (pe_ix (ix_anyK (K := K) rfl) (pv 6) pe_int (fun _ _ => rfl)) (pa_cons (pe_tup pa_nil) pa_nil)))) (pa_cons (pe_tup (pa_cons pe_str (pa_cons (pe_tup (pa_cons (pe_tup (pa_cons pe_str pa_nil)) pa_nil)) pa_nil))) pa_nil)))))))
  (pss_one (ps_ret (pe_tup (pa_cons (pv 7) (pa_cons (pv 9) (pa_cons (pe_callTy (call_tupK (K := K) rfl) (by rfl) T.z_tuple bt_tuple (pa_cons (pe_slice (sl_anyK (K := K) rfl) (pv 11) po_none (po_some (pe_call (ok_law_take T) (hr.mono (by decide)) (by rfl) T.d_law_take.g T.d_law_take.F.kp T.d_law_take.b .nil pass0 (pa_cons (pv 0) (pa_cons pe_int pa_nil))))) pa_nil)) pa_nil)))))))
    pss_nil)
  (pss_one (ps_ret (pe_tup (pa_cons (pv 7) (pa_cons (pv 9) (pa_cons (pe_call (ok_program T 6) (hr.mono (by decide)) (by rfl) T.d_law_program.g T.d_law_program.F.kp T.d_law_program.b .nil pass0 (pa_cons (pv 0) (pa_cons (pv 5) (pa_cons (pe_op (op_addK (K := K) rfl) (pv 6) (pe_slice (sl_anyK (K := K) rfl) (pv 5) po_none (po_some pe_int))) (pa_cons (pe_call (ok_law_take T) (hr.mono (by decide)) (by rfl) T.d_law_take.g T.d_law_take.F.kp T.d_law_take.b .nil pass0 (pa_cons (pv 0) (pa_cons (pe_op (op_addK (K := K) rfl) (pv 3) pe_int) pa_nil))) (pa_cons (pv 4) pa_nil)))))) pa_nil)))))))))), ?_⟩
  refine at_start [some (.ref b), some (.int (most : Int)), some (.int (picks : Int)), some (.int (steps : Int)), some (.int 6), none, none, none, none, none, none, none] rfl ?_
  walk_at "s"
  refine take_use hb (by omega) (by omega) (by omega) (fun v1 H1 g1 b1 l1 u1 => ?_)
  obtain ⟨m1, rfl⟩ : ∃ m : Nat, v1 = (m : Int) := ⟨v1.toNat, by omega⟩
  walk_at "s"
  refine ⟨b, _, m1, rfl, b1, by omega, by omega, fun an nm H2 g2 b2 fan ean lan nan wan dan => ?_⟩
  walk_at "s"
  refine take_use b2 (by omega) (by omega) (by omega) (fun v3 H3 g3 b3 l3 u3 => ?_)
  obtain ⟨m3, rfl⟩ : ∃ m : Nat, v3 = (m : Int) := ⟨v3.toNat, by omega⟩
  walk_at "s"
  rw [show (1 : Int) + (m3 : Int) = ((m3 + 1 : Nat) : Int) by omega]
  refine ⟨b, _, m3 + 1, rfl, b3, by omega, by omega, fun as_ sl H4 g4 b4 fas eas las nas was das => ?_⟩
  walk_at "s"
  have nab : an ≠ b := ne_box b1 fan
  have nsb : as_ ≠ b := ne_box b3 fas
  have ean4 : H4 an = some (.lst (nm.map V.str)) := g4.get (g3.get ean (nin_one nab)) (nin_one nab)
  have bb4 : BoxAt H4 b (n + 200) := b4.mono (by omega) (by omega)
  have G04 : Gr [b] H H4 := g1.trans (g2.trans (g3.trans g4))
  refine w_iL' ?_
  walk_at "s"
  refine w_kIL (SqL.of ean4) ?_
  refine lc_gx [some (.ref b), some (.int (most : Int)), some (.int (picks : Int)), some (.int (steps : Int)), some (.int 6), some (.ref an), some (.ref as_), none, none, none, none, none] rfl (fp := [b]) (walk_listE (xs := nm.map V.str)) (fun a ha => by
      rcases List.mem_cons.mp ha with rfl | ha
      · exact bb4.live
      · exact nomatch ha)
    (fun i acc H' => ∃ ds : List PD, TReps H' ds acc ∧ (∀ d ∈ ds, WfSet d) ∧ ds.length = i ∧ i ≤ 60 ∧ ds.map nameOf = nm.take i ∧ BoxAt H' b (n + 200 + 80 * i)) ?_ ?_ ?_ ?_ ?_ ?_
  · exact fun H' g => ⟨[], treps_nil, (fun d h => nomatch h), rfl, by omega, rfl, by have := (g.box bb4).mono (m := n + 200 + 80 * ((0 : Nat) : Int)) (by omega) (by omega); exact this⟩
  · rintro i acc H1' D xs' ys' hD hD1 ⟨ds, h1, h2, h3, h4, h5, h6⟩
    refine ⟨ds, ?_, h2, h3, h4, h5, h6.upd (ne_box bb4 hD)⟩
    exact Gr.reps1 (fp := [D]) (Gr.put hD1 rfl List.mem_cons_self) (fixs_of fun d hd => (h2 d hd).fix) h1
  · rintro i acc H' g _
    exact SqL.of (g.get ean4 (nin_one nab))
  · rintro i acc H' ⟨ds, h1, h2, h3, h4, h5, h6⟩
    have := treps_len h1; omega
  · rintro i x acc H1' H2' hi g1' ⟨ds, h1, h2, h3, h4, h5, h6⟩ ⟨rfl, hx⟩ R A kA kR
    obtain ⟨nme, hnme, rfl⟩ : ∃ nme, nm[i]? = some nme ∧ x = V.str nme := by
      simp only [List.getElem?_map, Option.map_eq_some_iff] at hx
      obtain ⟨r, h1, h2⟩ := hx
      exact ⟨r, h1, h2.symm⟩
    have hlt : i < nm.length := by simpa using hi
    walk_at "s"
    refine ⟨rfl, ?_⟩
    walk_at "s"
    refine ⟨b, _, rfl, h6, by omega, fun v d H5 g5 b5 hd t5 => ?_⟩
    walk_at "s"
    refine w_kLst (fun p6 H6 g6 hp6 e6 => ?_) (by simp)
    walk_at "s"
    refine take_use (g6.box b5) (by omega) (by omega) (by omega) (fun v7 H7 g7 b7 l7 u7 => ?_)
    have pick : ∃ y dv, atI [V.non, v] v7 = some y ∧ TRep H7 dv y ∧ (dv = .non ∨ wfVal dv) := by
      have : v7 = 0 ∨ v7 = 1 := by omega
      rcases this with rfl | rfl
      · exact ⟨_, .non, rfl, rep_non, .inl rfl⟩
      · refine ⟨v, d, rfl, g7.rep (g6.rep0 t5) ?_, .inr hd⟩
        cases d <;> first | rfl | exact hd.elim
    obtain ⟨y, dv, hat, ty, hdv⟩ := pick
    refine w_ixL (SqL.of (g7.get e6 (nin_one (ne_box b5 hp6)))) hat ?_
    walk_at "s"
    refine w_kTup (fun p8 H8 g8 hp8 e8 => ?_) (by simp)
    have g18 : Gr [b] _ H8 := g5.trans (g6.wide.trans (g7.trans g8.wide))
    refine kA _ H8 g18 ⟨ds ++ [.tup [.str nme, dv]], ?_, ?_, by rw [List.length_append, h3]; rfl, by omega, ?_, ?_⟩
    · exact treps_append (Gr.reps1 g18 (fixs_of fun d hd => (h2 d hd).fix) h1) (treps_cons (rep_tup e8 (treps_cons (rep_str rfl) (treps_cons (g8.rep0 ty) treps_nil))) treps_nil)
    · intro d hd
      rcases List.mem_append.mp hd with hd | hd
      · exact h2 d hd
      · rcases List.mem_cons.mp hd with rfl | hd
        · exact ⟨nme, dv, rfl, wan nme (List.mem_of_getElem? hnme), hdv⟩
        · exact nomatch hd
    · rw [List.map_append, h5, List.take_succ, hnme]; rfl
    · exact (g8.box b7).mono (by omega) (by omega)
  · rintro D acc H5 g5 hD eD ⟨ds, td, wd, ld, hd60, hnm, b5⟩
    rw [List.length_map] at ld hnm b5
    rw [List.take_length] at hnm
    walk_at "s"
    have bb5 : BoxAt H5 b (n + 6000) := b5.mono (by omega) (by omega)
    refine take_use bb5 (by omega) (by omega) (by omega) (fun v6 H6 g6 b6 l6 u6 => ?_)
    walk_at "s"
    refine w_kIR (by omega) ?_
    refine lc_gx [some (.ref b), some (.int (most : Int)), some (.int (picks : Int)), some (.int (steps : Int)), some (.int 6), some (.ref an), some (.ref as_), some (.ref D), none, none, none, none] rfl (fp := [b]) (walk_range (lo := 0) (n := v6.toNat)) (fun a ha => by
        rcases List.mem_cons.mp ha with rfl | ha
        · exact b6.live
        · exact nomatch ha)
      (fun i acc H' => ∃ cs : List Int, acc = cs.map V.int ∧ cs.length = i ∧ i ≤ 300 ∧ (∀ c ∈ cs, 0 ≤ c ∧ c < 10000) ∧ BoxAt H' b (n + 6001 + 4 * i)) ?_ ?_ ?_ ?_ ?_ ?_
    · exact fun H' g => ⟨[], rfl, rfl, by omega, (fun c h => nomatch h), by have := (g.box b6).mono (m := n + 6001 + 4 * ((0 : Nat) : Int)) (by omega) (by omega); exact this⟩
    · rintro i acc H1' D' xs' ys' hD' hD1 ⟨cs, h1, h2, h3, h4, h5⟩
      exact ⟨cs, h1, h2, h3, h4, h5.upd (ne_box b6 hD')⟩
    · exact fun _ _ _ _ _ => trivial
    · rintro i acc H' ⟨cs, rfl, h2, h3, h4, h5⟩
      rw [List.length_map]; omega
    · rintro i x acc H1' H2' hi g1' ⟨cs, rfl, h2, h3, h4, h5⟩ ⟨rfl, rfl⟩ R A kA kR
      walk_at "s"
      refine ⟨rfl, ?_⟩
      walk_at "s"
      refine take_use h5 (by omega) (by omega) (by omega) (fun v7 H7 g7 b7 l7 u7 => ?_)
      walk_at "s"
      refine take_use b7 (by omega) (by omega) (by omega) (fun v8 H8 g8 b8 l8 u8 => ?_)
      walk_at "s"
      refine w_kLst (fun p9 H9 g9 hp9 e9 => ?_) (by simp)
      walk_at "s"
      refine take_use (g9.box b8) (by omega) (by omega) (by omega) (fun v10 H10 g10 b10 l10 u10 => ?_)
      obtain ⟨c, hat, hc⟩ : ∃ c, atI [V.int v7, V.int v8] v10 = some (V.int c) ∧ 0 ≤ c ∧ c < 10000 := by
        have : v10 = 0 ∨ v10 = 1 := by omega
        rcases this with rfl | rfl
        · exact ⟨v7, rfl, by omega, by omega⟩
        · exact ⟨v8, rfl, by omega, by omega⟩
      refine w_ixL (SqL.of (g10.get e9 (nin_one (ne_box b8 hp9)))) hat ?_
      refine kA _ H10 (g7.trans (g8.trans (g9.wide.trans g10))) ⟨cs ++ [c], by rw [List.map_append]; rfl, by rw [List.length_append, h2]; rfl, by omega, ?_, b10.mono (by omega) (by omega)⟩
      intro c' hc'
      rcases List.mem_append.mp hc' with hc' | hc'
      · exact h4 c' hc'
      · rcases List.mem_cons.mp hc' with rfl | hc'
        · exact hc
        · exact nomatch hc'
    · rintro DP acc H7 g7 hDP eDP ⟨cs, rfl, lcs, l300, wcs, b7⟩
      walk_at "s"
      refine w_kLst (fun p8 H8 g8 hp8 e8 => ?_) (by simp)
      have G48 : Gr [b] H4 H8 := g5.trans (g6.trans (g7.trans g8.wide))
      have G57 : Gr [b] H5 H8 := g6.trans (g7.trans g8.wide)
      have ean8 : H8 an = some (.lst (nm.map V.str)) := G48.get ean4 (nin_one nab)
      have eas8 : H8 as_ = some (.lst (sl.map V.str)) := G48.get eas (nin_one nsb)
      have b8 : BoxAt H8 b (n + 8000) := (g8.box b7).mono (by omega) (by omega)
      have nDb : D ≠ b := ne_box bb4 hD
      have nDP : DP ≠ b := ne_box b6 hDP
      have fxd : PD.fixs ds = true := fixs_of fun d hd => (wd d hd).fix
      have eD8 : H8 D = some (.lst acc) := G57.get eD (nin_one nDb)
      have td8 : TReps H8 ds acc := Gr.reps1 G57 fxd td
      have eDP8 : H8 DP = some (.lst (cs.map V.int)) := g8.get0 eDP
      have nas' := nas (by omega)
      refine eq_nil ean8 e8 wan ?_
      walk_at "s"
      have fin : ∀ (prog : List PD) (y : V) (t : Addr) (H9 H10 : Hp), Gr [b] H8 H9 → TRep H9 (.tup prog) y → WfP nm 6 150 prog → Gr [] H9 H10 → H10 t = some (.tup [.ref D, .ref DP, y]) → Q (.ref t) H10 := by
        intro prog y t H9 H10 g9 ty wp g10 et
        have g810 := g9.trans g10.wide
        refine q t D DP y ds cs prog H10 (G04.trans (G48.trans g810)) (G04.free hD) ((G04.trans (g5.trans g6)).free hDP) et (rep_lst (g810.get eD8 (nin_one nDb)) (Gr.reps1 g810 fxd td8)) (g810.get eDP8 (nin_one nDP)) (g10.rep0 ty) ⟨wd, hd60 |> fun h => by omega, by rw [hnm]; exact dan, wcs, by omega, by rw [hnm]; exact wp⟩
      obtain ⟨slt, slr, hsl⟩ : ∃ a r, sl = a :: r := by
        cases sl with
        | nil => exact absurd rfl nas'
        | cons a r => exact ⟨a, r, rfl⟩
      have hsn : isName slt = true := was slt (by rw [hsl]; exact List.mem_cons_self)
      refine iteB (fun hnil => ?_) (fun hnil => ?_)
      · walk_at "s"
        have ix0 : ∀ {H' : Hp} {Q' : VK}, Gr [] H8 H' → Q' (.str slt) H' → rIxA K (.ref as_) (.int 0) H' Q' := fun g q => w_ixL (SqL.of (g.get0 eas8)) (atI_zero (by rw [hsl]; rfl)) q
        refine w_kTup (fun q1 K1 k1 hq1 f1 => ?_) (by simp)
        walk_at "s"
        refine ix0 k1 ?_
        walk_at "s"
        refine w_kTup (fun q2 K2 k2 hq2 f2 => ?_) (by simp)
        walk_at "s"
        have k12 := k1.trans k2
        refine ix0 k12 ?_
        walk_at "s"
        refine w_kTup (fun q3 K3 k3 hq3 f3 => ?_) (by simp)
        walk_at "s"
        have k13 := k12.trans k3
        refine ix0 k13 ?_
        walk_at "s"
        refine w_kTup (fun q4 K4 k4 hq4 f4 => ?_) (by simp)
        walk_at "s"
        refine w_kTup (fun q5 K5 k5 hq5 f5 => ?_) (by simp)
        walk_at "s"
        refine w_kTup (fun q6 K6 k6 hq6 f6 => ?_) (by simp)
        walk_at "s"
        refine w_kTup (fun q7 K7 k7 hq7 f7 => ?_) (by simp)
        walk_at "s"
        refine w_kTup (fun q8 K8 k8 hq8 f8 => ?_) (by simp)
        walk_at "s"
        refine w_kLst (fun q9 K9 k9 hq9 f9 => ?_) (by simp)
        walk_at "s"
        have k49 : Gr [] K4 K9 := k5.trans (k6.trans (k7.trans (k8.trans k9)))
        have k89 : Gr [] H8 K9 := k13.trans (k4.trans k49)
        refine take_use (k89.box b8) (by omega) (by omega) (by omega) (fun v10 H10 g10 b10 l10 u10 => ?_)
        obtain ⟨m10, rfl⟩ : ∃ m : Nat, v10 = (m : Int) := ⟨v10.toNat, by omega⟩
        walk_at "s"
        refine w_slL (SqL.of (g10.get f9 (nin_one (ne_box ((k13.trans (k4.trans (k5.trans (k6.trans (k7.trans k8))))).box b8) hq9)))) (fun q11 H11 g11 hq11 f11 => ?_)
        rw [cutV_take] at f11
        walk_at "s"
        refine w_tuple (SqL.of f11) (fun q12 H12 g12 hq12 f12 => ?_)
        walk_at "s"
        refine w_kTup (fun q13 H13 g13 hq13 f13 => ?_) (by simp)
        walk_at "s"
        have r1 := (k2.trans (k3.trans (k4.trans k49))).get0 f1
        have r2 := (k3.trans (k4.trans k49)).get0 f2
        have r3 := (k4.trans k49).get0 f3
        have r4 := k49.get0 f4
        have r5 := (k6.trans (k7.trans (k8.trans k9))).get0 f5
        have r6 := (k7.trans (k8.trans k9)).get0 f6
        have r7 := (k8.trans k9).get0 f7
        have r8 := k9.get0 f8
        have all : TReps K9 [.tup [.str "pass"], .tup [.str "copy", .str slt], .tup [.str "back", .str slt], .tup [.str "in", .str slt, .tup []], .tup [.str "begin", .tup [.tup [.str "pass"]]]] [.ref q1, .ref q2, .ref q3, .ref q5, .ref q8] :=
          treps_cons (rep_tup r1 (treps_cons (rep_str rfl) treps_nil)) (treps_cons (rep_tup r2 (treps_cons (rep_str rfl) (treps_cons (rep_str rfl) treps_nil)))
            (treps_cons (rep_tup r3 (treps_cons (rep_str rfl) (treps_cons (rep_str rfl) treps_nil))) (treps_cons (rep_tup r5 (treps_cons (rep_str rfl) (treps_cons (rep_str rfl) (treps_cons (rep_tup r4 treps_nil) treps_nil))))
              (treps_cons (rep_tup r8 (treps_cons (rep_str rfl) (treps_cons (rep_tup r7 (treps_cons (rep_tup r6 (treps_cons (rep_str rfl) treps_nil)) treps_nil)) treps_nil))) treps_nil))))
        refine fin _ (.ref q12) q13 H12 H13 (k89.wide.trans (g10.trans (g11.wide.trans g12.wide))) (rep_tup f12 (treps_take m10 (Gr.reps1 (g10.trans (g11.wide.trans g12.wide)) ?_ all))) (few_ok (nm := nm) hsn m10) g13 f13
        rfl
      · walk_at "s"
        refine w_slL (SqL.of ean8) (fun q9 H9 g9 hq9 e9 => ?_)
        rw [show (some (1 : Int)) = some ((1 : Nat) : Int) from rfl, cutV_take, ← List.map_take] at e9
        refine w_addL (g9.get0 eas8) e9 (by simp only [List.length_map, List.length_take]; omega) (fun q10 H10 g10 hq10 e10 => ?_)
        rw [← List.map_append] at e10
        walk_at "s"
        have g810 := g9.trans g10
        refine take_use (g810.box b8) (by omega) (by omega) (by omega) (fun v11 H11 g11 b11 l11 u11 => ?_)
        obtain ⟨m11, rfl⟩ : ∃ m : Nat, v11 = (m : Int) := ⟨v11.toNat, by omega⟩
        walk_at "s"
        have nq10 : q10 ≠ b := ne_box (g9.box b8) hq10
        have hnn : nm ≠ [] := fun e => by rw [e] at hnil; exact absurd hnil (by decide)
        refine ⟨b, an, q10, _, m11, nm, sl ++ nm.take 1, rfl, b11, by omega, by omega, g11.get (g810.get0 ean8) (nin_one nab), hnn, by omega, nab, g11.get e10 (nin_one nq10), by rw [hsl]; simp, by simp only [List.length_append, List.length_take]; omega, ?_, nq10, fun y prog H12 g12 b12 t12 w12 => ?_⟩
        · intro s hs
          rcases List.mem_append.mp hs with hs | hs
          · exact was s hs
          · exact wan s (List.mem_of_mem_take hs)
        · walk_at "s"
          refine w_kTup (fun q13 H13 g13 hq13 f13 => ?_) (by simp)
          walk_at "s"
          exact fin prog y q13 H12 H13 (g810.wide.trans (g11.trans g12)) t12 (w12.mono (Nat.le_refl _) (by omega)) g13 f13
end
end RS
set_option Elab.async false
set_option linter.all false
set_option maxRecDepth 100000
set_option maxHeartbeats 4000000

namespace RS
open PySem L2 RZ
/-! steps by their heads -/
local macro_rules | `(tactic| walk_at "fr") => `(tactic| first
  | assumption
  | exact SqL.of (by assumption)
  | exact SqT.of (by assumption)
  | exact Or.inl (by assumption)
  | exact Or.inr (by assumption)
  | (refine Gr.get (by assumption) ?_ (by walk_at "nin"); walk_at "fr")
  | (refine Gr.tup (by assumption) _ _ ?_; walk_at "fr")
  | (refine SqL.of ?_; walk_at "fr1")
  | (refine SqT.of ?_; walk_at "fr1")
  | (refine Gr.sqL (by assumption) ?_ (by walk_at "nin"); walk_at "fr")
  | (refine Gr.sqT (by assumption) ?_ (by walk_at "nin"); walk_at "fr")
  | (refine Gr.rep0 (by assumption) ?_; walk_at "fr")
  | (refine Gr.reps0 (by assumption) ?_; walk_at "fr"))
local macro_rules | `(tactic| walk_at "fr1") => `(tactic| first
  | assumption
  | (refine Gr.tup (by assumption) _ _ ?_; walk_at "fr1")
  | (refine Gr.get (by assumption) ?_ (by walk_at "nin"); walk_at "fr1"))
local macro_rules | `(tactic| walk_at "nin") => `(tactic| first
  | exact nin_nil
  | assumption
  | (refine nin_one ?_; walk_at "ne"))
local macro_rules | `(tactic| walk_at "ne") => `(tactic| first
  | assumption
  | exact Ne.symm (by assumption)
  | exact ne_new (by assumption) (by assumption)
  | exact Ne.symm (ne_new (by assumption) (by assumption)))
local macro_rules | `(tactic| walk_at "sz") => `(tactic| first
  | assumption
  | omega
  | (simp only [List.length_cons, List.length_nil, List.length_append, List.length_map, CDiv, CDivN, CMul]; omega)
  | decide)
local macro_rules | `(tactic| walk_at "i1") => `(tactic| first
  | ((with_reducible refine' isi_L_list ?vh ?_); (case vh => walk_at "fr"))
  | ((with_reducible refine' isi_T_list ?vh ?_); (case vh => walk_at "fr"))
  | ((with_reducible refine' isi_L_tuple ?vh ?_); (case vh => walk_at "fr"))
  | ((with_reducible refine' isi_T_tuple ?vh ?_); (case vh => walk_at "fr"))
  | ((with_reducible refine' isi_L_str ?vh ?_); (case vh => walk_at "fr"))
  | ((with_reducible refine' isi_T_str ?vh ?_); (case vh => walk_at "fr"))
  | ((with_reducible refine' isi_L_int ?vh ?_); (case vh => walk_at "fr"))
  | ((with_reducible refine' isi_T_int ?vh ?_); (case vh => walk_at "fr"))
  | ((with_reducible refine' isi_L_bool ?vh ?_); (case vh => walk_at "fr"))
  | ((with_reducible refine' isi_T_bool ?vh ?_); (case vh => walk_at "fr")))
local macro_rules | `(tactic| walk_at "s") => `(tactic| repeat (first
  | with_reducible refine Stp.h ?_
  | (with_reducible refine szc ?_ ?_; walk_at "sz")
  | ((with_reducible refine' w_kTyL ?vh ?_); (case vh => walk_at "fr"))
  | ((with_reducible refine' w_lenL ?vh ?_); (case vh => walk_at "fr"))
  | ((with_reducible refine' w_lenT ?vh ?_); (case vh => walk_at "fr"))))
local macro_rules | `(tactic| walk_at "gr") => `(tactic| first
  | exact Gr.refl _ _
  | assumption
  | exact Gr.wide (by assumption)
  | (refine Gr.trans ?_ (by assumption); walk_at "gr")
  | (refine Gr.trans ?_ (Gr.wide (by assumption)); walk_at "gr"))
local macro_rules | `(tactic| walk_at "s2") => `(tactic| (with_reducible refine Stp.h ?_; with_reducible refine Stp.h ?_))

section
variable {P : Program} {w : World} {K : PySem.W.Frag} {mg : Str → Option Value} {base : Heap}
def spText : Sp := fun vs H Q _ => ∃ (s p : Addr) (y : V) (sets : List PD) (ps : List Int) (prog : List PD) (l : List (Int × PD)), vs = [.ref s, .ref p, y] ∧ TRep H (.lst sets) (.ref s) ∧ H p = some (.lst (ps.map V.int)) ∧ TRep H (.tup prog) y ∧ WfSh sets ps prog ∧
  Flat (sets.map nameOf) 0 prog l ∧ l.length ≤ 150 ∧ (∀ q ∈ l, q.1 ≤ 6) ∧ ∀ H', Gr [] H H' → Q (.str (sheetText sets ps l)) H'
theorem sc_law_sheet_text : FnScope ["_law_settings", "_law_picks", "_law_program_here", "_law_rows_here", "_law_name", "_law_value_here", "_law_pick"] ["_law_settings", "_law_picks", "_law_program_here"] (defScope s_law_sheet_text) := ⟨rfl, rfl, rfl, by decide +kernel, rfl, by decide +kernel, by decide +kernel⟩
theorem ok_law_sheet_text (T : TX K mg) : FnOk P w K mg base CX0 13 T.d_law_sheet_text.a T.d_law_sheet_text.d ["_law_settings", "_law_picks", "_law_program_here"] spText := by
  refine T.d_law_sheet_text.F.ok sc_law_sheet_text (fun vs H Q E h => ?_) (fun cdv A outer s H vs Q E hr h => ?_)
  · obtain ⟨_, _, _, _, _, _, _, rfl, _⟩ := h; rfl
  obtain ⟨a, p, y, sets, ps, prog, l, rfl, ts, ep, ty, wf, fl, hl, h6, q⟩ := h
  obtain ⟨_, xs, h0, ea, tx⟩ := rep_lst' ts
  cases h0
  refine ⟨_, (pss_cons (ps_set (i := 3) sc_law_sheet_text.nd rfl (Or.inl rfl) (pe_lst pa_nil))
  (pss_cons (ps_for PassesOwn.never rfl (pi_anyK (K := K) rfl (pv 0)) (pg_tupK (K := K) (n := 2) rfl rfl (pgs_cons (pg_name (i := 4) sc_law_sheet_text.nd rfl (Or.inl rfl)) (pgs_cons (pg_name (i := 5) sc_law_sheet_text.nd rfl (Or.inl rfl)) pgs_nil)))
    (pss_one (ps_expr (pe_bmK (K := K) rfl PySem.F.plainAttrs_list PySem.F.slot_list_append PySem.F.type_list_append mt_append (pv 3) (pa_cons (pe_op (op_addK (K := K) rfl) (pe_op (op_addK (K := K) rfl) pe_str (pv 4)) (pe_ifExp (pt_cmp (pc_isN (pv 5)) rfl) pe_str (pe_op (op_addK (K := K) rfl) pe_str (pe_call (ok_law_written T) (hr.mono (by decide)) (by rfl) T.d_law_written.g T.d_law_written.F.kp T.d_law_written.b .nil pass0 (pa_cons (pv 5) pa_nil))))) pa_nil)))))
  (pss_cons (ps_expr (pe_bmK (K := K) rfl PySem.F.plainAttrs_list PySem.F.slot_list_append PySem.F.type_list_append mt_append (pv 3) (pa_cons (pe_m1 PySem.F.slot_str_join PySem.F.type_str_join (mt_joinK (K := K) rfl) pe_str (pe_op (op_addK (K := K) rfl) (pe_lst (pa_cons pe_str pa_nil)) (pe_lc (own := [("_law_pick", 6)]) rfl sc_law_sheet_text.nd (pi_anyK (K := K) rfl (pv 1)) (blkOk_by (N := ["_law_settings", "_law_picks", "_law_program_here", "_law_rows_here", "_law_name", "_law_value_here", "_law_pick"]) (sc := defScope s_law_sheet_text) (own := [("_law_pick", 6)]) (by decide +kernel)) (fun _ _ _ _ _ => (pg_name (i := 6) sc_law_sheet_text.nd rfl (Or.inl rfl))) (fun _ _ _ _ _ => pts_nil) (fun _ _ _ _ _ => (pe_callTy call_strA (by rfl) T.z_str bt_str (pa_cons (pv 6) pa_nil)))))) pa_nil)))
  (pss_one (ps_ret (pe_m1 PySem.F.slot_str_join PySem.F.type_str_join (mt_joinK (K := K) rfl) pe_str (pe_op (op_addK (K := K) rfl) (pv 3) (pe_call (ok_rows T 10) (hr.mono (by decide)) (by rfl) T.d_law_rows.g T.d_law_rows.F.kp T.d_law_rows.b .nil pass0 (pa_cons (pv 2) (pa_cons pe_int pa_nil)))))))))), ?_⟩
  refine at_start [some (.ref a), some (.ref p), some (y), none, none, none, none] rfl ?_
  walk_at "s"
  refine w_kLst (fun f H1 g1 hf e1 => ?_) (by simp)
  walk_at "s"
  refine w_iL' ?_
  walk_at "s"
  refine w_kIL (SqL.of (g1.get0 ea)) ?_
  have hxl := treps_len tx
  have hsl := wf.few
  have hnm : ∀ n ∈ sets.map nameOf, isName n = true := by
    intro n hn
    obtain ⟨d, hd, rfl⟩ := List.mem_map.mp hn
    obtain ⟨n, v, rfl, h1, _⟩ := wf.wset d hd
    exact h1
  refine for_it (walk_listE (xs := xs)) (fun i σ H' => ∃ v4 v5 : Option V, σ = [some (.ref a), some (.ref p), some y, some (.ref f), v4, v5, none] ∧ Gr [] H H' ∧ H' f = some (.lst (((sets.take i).map setRow).map V.str))) ?_ ?_ ?_ ?_
  · exact ⟨none, none, rfl, g1, e1⟩
  · rintro i σ H' hi ⟨v4, v5, rfl, g, _⟩
    exact SqL.of (g.get0 ea)
  · rintro i x σ H2 H3 hi ⟨v4, v5, rfl, g2, e2⟩ ⟨rfl, hx⟩
    obtain ⟨d, hd, td⟩ := treps_get tx hx
    obtain ⟨n, v, rfl, hn, hv⟩ := wf.wset d (List.mem_of_getElem? hd)
    obtain ⟨t, z, rfl, et, tz⟩ := pair_rep (g2.rep0 td)
    have tk : sets.take (i + 1) = sets.take i ++ [.tup [.str n, v]] := by rw [List.take_succ, hd]; rfl
    have l1 : ("setting " : Str).length = 8 := by decide +kernel
    have l2 : ("" : Str).length = 0 := by decide +kernel
    have l3 : (" " : Str).length = 1 := by decide +kernel
    have l4 : n.length ≤ 8 := by rw [TL.len_tl]; exact (isName_open hn).2.1
    refine w_gtup (SqT.of et) rfl ?_
    walk_at "s"
    rcases hv with rfl | hv
    · obtain rfl := rep_non' tz
      walk_at "s"
      refine szc (by rw [len_app, l1, l2]; omega) ?_
      walk_at "s"
      refine w_app e2 (by simp only [List.length_map, List.length_take]; omega) (fun H5 g5 e5 => ?_)
      walk_at "s"
      exact ⟨_, _, rfl, g2.transF g5 hf, by rw [e5, tk, List.map_append, List.map_append]; rfl⟩
    · have wl := written_len hv
      have go : z ≠ .non := by
        rintro rfl
        cases v with
        | int i => exact nomatch (rep_int' tz)
        | str i => exact nomatch (rep_str' tz)
        | _ => exact hv.elim
      rw [decide_eq_false go]
      walk_at "s"
      refine ⟨z, v, rfl, hv, tz, fun H4 g4 => ?_⟩
      walk_at "s"
      refine szc (by rw [len_app, len_app, l1, l3]; omega) ?_
      walk_at "s"
      refine w_app (g4.get0 e2) (by simp only [List.length_map, List.length_take]; omega) (fun H5 g5 e5 => ?_)
      walk_at "s"
      exact ⟨_, _, rfl, (g2.trans g4).transF g5 hf, by rw [e5, tk, List.map_append, List.map_append]; simp only [List.map_cons, List.map_nil, setRow_val hv]⟩
  · rintro σ H2 ⟨v4, v5, rfl, g2, e2⟩
    rw [hxl, List.take_length] at e2
    walk_at "s"
    refine w_kLst (fun p3 H3 g3 hp3 e3 => ?_) (by simp)
    walk_at "s"
    refine w_iL' ?_
    walk_at "s"
    have ep3 := (g2.trans g3).get0 ep
    refine w_kIL (SqL.of ep3) ?_
    refine lc_pure [some (.ref a), some (.ref p), some y, some (.ref f), v4, v5, none] rfl (walk_listE (xs := ps.map V.int)) rfl (fun H' g => SqL.of (g.get0 ep3)) (fun _ => true) (fun x => match x with | .int i => .str (Str.ofString (toString i)) | _ => .non) (fun x H4 hx g4 R A kA kR => ?_) (by rw [List.length_map]; have := wf.fewp; omega) (fun D H4 g4 hD e4 => ?_)
    · obtain ⟨i, hi, rfl⟩ := List.mem_map.mp hx
      have hw := wf.wpick i hi
      walk_at "s"
      refine ⟨rfl, ?_⟩
      walk_at "s"
      refine w_strI ?_ ?_
      · have h1 : i.natAbs < 2 ^ 100 := by omega
        by_cases h0 : i.natAbs = 0
        · rw [h0]; decide
        · exact Nat.lt_of_lt_of_le ((Nat.log2_lt h0).mpr h1) (by decide)
      exact kA _ (Gr.refl _ _) rfl
    · rw [filter_true, List.map_map] at e4
      have e4' : H4 D = some (.lst ((ps.map fun i => Str.ofString (toString i)).map V.str)) := by rw [e4, List.map_map]; rfl
      refine w_addL (zs := (ps.map fun i => Str.ofString (toString i)).map V.str) (g4.get0 e3) e4' (by have := wf.fewp; simp only [List.length_map, List.length_cons, List.length_nil]; omega) (fun p5 H5 g5 hp5 e5 => ?_)
      have g25 : Gr [] H2 H5 := g3.trans (g4.trans g5)
      have wl := weaveRow_len wf.wpick wf.fewp
      have ps4 : (ps.map (Str.length ∘ fun i => Str.ofString (toString i))).sum ≤ ps.length * 4 := sum_le fun x hx => pick_len (wf.wpick x hx)
      refine w_join (ys := ("weave" : Str) :: ps.map fun i => Str.ofString (toString i)) (SqL.of e5) (by
        have := wf.fewp
        rw [List.map_cons, List.sum_cons, List.map_map, List.length_cons, List.length_map, show (" " : Str).length = 1 by decide +kernel, show ("weave" : Str).length = 5 by decide +kernel]
        have h3 : (ps.map ((fun x => x.length) ∘ fun i => Str.ofString (toString i))) = (ps.map (Str.length ∘ fun i => Str.ofString (toString i))) := rfl
        rw [h3]; omega) ?_
      walk_at "s"
      refine w_app (g25.get0 e2) (by simp only [List.length_map]; omega) (fun H6 g6 e6 => ?_)
      have gg : Gr [] H H6 := (g2.trans g25).transF g6 hf
      walk_at "s"
      refine ⟨y, _, prog, 0, l, rfl, gg.rep0 ty, hnm, fl, fun q hq => by have := h6 q hq; omega, by omega, by omega, fun p7 H7 g7 hp7 e7 => ?_⟩
      have e6' : H7 f = some (.lst ((sets.map setRow ++ [weaveRow ps]).map V.str)) := by
        rw [g7.get0 e6, List.map_append]; rfl
      refine w_addL e6' e7 (by simp only [List.length_map, List.length_append, List.length_cons, List.length_nil]; omega) (fun p8 H8 g8 hp8 e8 => ?_)
      have s1 : (sets.map (Str.length ∘ setRow)).sum ≤ sets.length * 200 := sum_le fun d hd => setRow_len (wf.wset d hd)
      have s2 : (l.map (Str.length ∘ rowText)).sum ≤ l.length * 300 := sum_le fun r hr => by
        have := fl.steps r hr
        exact rowText_len (st := r.2) (d := r.1) this.1 hnm this.2 (by have := h6 r hr; omega)
      refine w_join (ys := textRows sets ps l) (SqL.of (by rw [e8, ← List.map_append]; rfl)) (by
        unfold textRows
        rw [show ("\n" : Str).length = 1 by decide +kernel]
        simp only [List.map_append, List.map_map, List.sum_append, List.map_cons, List.map_nil, List.sum_cons, List.sum_nil, List.length_append, List.length_map, List.length_cons, List.length_nil]
        have h3 : (sets.map ((fun x => x.length) ∘ setRow)) = (sets.map (Str.length ∘ setRow)) := rfl
        have h4 : (l.map ((fun x => x.length) ∘ rowText)) = (l.map (Str.length ∘ rowText)) := rfl
        rw [h3, h4]; omega) ?_
      walk_at "s"
      exact q H8 (gg.trans (g7.trans g8))
end
end RS
set_option Elab.async false
set_option linter.all false
set_option maxRecDepth 100000
set_option maxHeartbeats 4000000

namespace RS
open PySem L2 RZ
/-! steps by their heads -/
local macro_rules | `(tactic| walk_at "fr") => `(tactic| first
  | assumption
  | exact SqL.of (by assumption)
  | exact SqT.of (by assumption)
  | exact Or.inl (by assumption)
  | exact Or.inr (by assumption)
  | (refine Gr.get (by assumption) ?_ (by walk_at "nin"); walk_at "fr")
  | (refine Gr.tup (by assumption) _ _ ?_; walk_at "fr")
  | (refine SqL.of ?_; walk_at "fr1")
  | (refine SqT.of ?_; walk_at "fr1")
  | (refine Gr.sqL (by assumption) ?_ (by walk_at "nin"); walk_at "fr")
  | (refine Gr.sqT (by assumption) ?_ (by walk_at "nin"); walk_at "fr")
  | (refine Gr.rep0 (by assumption) ?_; walk_at "fr")
  | (refine Gr.reps0 (by assumption) ?_; walk_at "fr"))
local macro_rules | `(tactic| walk_at "fr1") => `(tactic| first
  | assumption
  | (refine Gr.tup (by assumption) _ _ ?_; walk_at "fr1")
  | (refine Gr.get (by assumption) ?_ (by walk_at "nin"); walk_at "fr1"))
local macro_rules | `(tactic| walk_at "nin") => `(tactic| first
  | exact nin_nil
  | assumption
  | (refine nin_one ?_; walk_at "ne"))
local macro_rules | `(tactic| walk_at "ne") => `(tactic| first
  | assumption
  | exact Ne.symm (by assumption)
  | exact ne_new (by assumption) (by assumption)
  | exact Ne.symm (ne_new (by assumption) (by assumption)))
local macro_rules | `(tactic| walk_at "sz") => `(tactic| first
  | assumption
  | omega
  | (simp only [List.length_cons, List.length_nil, List.length_append, List.length_map, CDiv, CDivN, CMul]; omega)
  | decide)
local macro_rules | `(tactic| walk_at "i1") => `(tactic| first
  | ((with_reducible refine' isi_L_list ?vh ?_); (case vh => walk_at "fr"))
  | ((with_reducible refine' isi_T_list ?vh ?_); (case vh => walk_at "fr"))
  | ((with_reducible refine' isi_L_tuple ?vh ?_); (case vh => walk_at "fr"))
  | ((with_reducible refine' isi_T_tuple ?vh ?_); (case vh => walk_at "fr"))
  | ((with_reducible refine' isi_L_str ?vh ?_); (case vh => walk_at "fr"))
  | ((with_reducible refine' isi_T_str ?vh ?_); (case vh => walk_at "fr"))
  | ((with_reducible refine' isi_L_int ?vh ?_); (case vh => walk_at "fr"))
  | ((with_reducible refine' isi_T_int ?vh ?_); (case vh => walk_at "fr"))
  | ((with_reducible refine' isi_L_bool ?vh ?_); (case vh => walk_at "fr"))
  | ((with_reducible refine' isi_T_bool ?vh ?_); (case vh => walk_at "fr")))
local macro_rules | `(tactic| walk_at "s") => `(tactic| repeat (first
  | with_reducible refine Stp.h ?_
  | (with_reducible refine szc ?_ ?_; walk_at "sz")
  | ((with_reducible refine' w_kTyL ?vh ?_); (case vh => walk_at "fr"))
  | ((with_reducible refine' w_lenL ?vh ?_); (case vh => walk_at "fr"))
  | ((with_reducible refine' w_lenT ?vh ?_); (case vh => walk_at "fr"))))
local macro_rules | `(tactic| walk_at "gr") => `(tactic| first
  | exact Gr.refl _ _
  | assumption
  | exact Gr.wide (by assumption)
  | (refine Gr.trans ?_ (by assumption); walk_at "gr")
  | (refine Gr.trans ?_ (Gr.wide (by assumption)); walk_at "gr"))
local macro_rules | `(tactic| walk_at "s2") => `(tactic| (with_reducible refine Stp.h ?_; with_reducible refine Stp.h ?_))

section
variable {P : Program} {w : World} {K : PySem.W.Frag} {mg : Str → Option Value} {base : Heap}
theorem okD_str (m : Nat) (s : Str) : okD m (.str s) := by cases m <;> exact trivial
theorem okD_int (m : Nat) (s : Int) : okD m (.int s) := by cases m <;> exact trivial
theorem okD_non (m : Nat) : okD m .non := by cases m <;> exact trivial
theorem okD_val {v : PD} (m : Nat) (h : wfVal v) : okD m v := by
  cases v with
  | int i => exact okD_int m i
  | str i => exact okD_str m i
  | _ => exact h.elim
theorem okD_tup {m : Nat} {l : List PD} (h1 : l.length ≤ 1000) (h2 : ∀ d ∈ l, okD m d) : okD (m + 1) (.tup l) := ⟨h1, h2⟩
theorem okD_lst {m : Nat} {l : List PD} (h1 : l.length ≤ 1000) (h2 : ∀ d ∈ l, okD m d) : okD (m + 1) (.lst l) := ⟨h1, h2⟩
theorem Flat.len {nm : List Str} {d : Int} {p : List PD} {l : List (Int × PD)} (h : Flat nm d p l) : p.length ≤ l.length := by
  induction h with
  | nil => simp
  | plain w b _ ih => simp only [List.length_cons]; omega
  | block w b _ _ ihb ih => simp only [List.length_cons, List.length_append]; omega
theorem WfSt.okCells {nm : List Str} {st : PD} (h : WfSt nm st) (m : Nat) : ∃ L, st = .tup L ∧ L.length ≤ 4 ∧ ∀ d ∈ L, okD m d := by
  have s1 : ∀ {a : Str}, ∀ d ∈ [PD.str a], okD m d := fun d hd => by rcases List.mem_cons.mp hd with rfl | hd; exact okD_str m _; exact nomatch hd
  have s2 : ∀ {a b : Str}, ∀ d ∈ [PD.str a, PD.str b], okD m d := fun d hd => by rcases List.mem_cons.mp hd with rfl | hd; exact okD_str m _; exact s1 d hd
  cases h with
  | @set n s v h1 h2 h3 =>
    refine ⟨_, rfl, by simp, fun d hd => ?_⟩
    rcases List.mem_cons.mp hd with rfl | hd
    · exact okD_str m _
    rcases List.mem_cons.mp hd with rfl | hd
    · exact okD_str m _
    rcases List.mem_cons.mp hd with rfl | hd
    · exact okD_val m h3
    exact s1 d hd
  | look => exact ⟨_, rfl, by simp, s2⟩
  | back => exact ⟨_, rfl, by simp, s2⟩
  | copy => exact ⟨_, rfl, by simp, s2⟩
  | inn => exact ⟨_, rfl, by simp, s2⟩
  | _ => exact ⟨_, rfl, by simp, s1⟩
theorem Flat.okD {nm : List Str} {d : Int} {p : List PD} {l : List (Int × PD)} (h : Flat nm d p l) : ∀ k : Nat, (∀ q ∈ l, q.1 ≤ d + (k : Int)) → l.length ≤ 500 → ∀ x ∈ p, RS.okD (2 * k + 3) x := by
  induction h with
  | nil => exact fun k _ _ x hx => nomatch hx
  | plain w b _ ih =>
    intro k hk hl x hx
    rcases List.mem_cons.mp hx with rfl | hx
    · obtain ⟨L, rfl, h1, h2⟩ := w.okCells (2 * k + 2)
      exact okD_tup (by omega) h2
    · exact ih k (fun q hq => hk q (List.mem_cons_of_mem _ hq)) (by simp only [List.length_cons] at hl; omega) x hx
  | @block d st body pr lb l w b hb _ ihb ih =>
    intro k hk hl x hx
    simp only [List.length_cons, List.length_append] at hl
    rcases List.mem_cons.mp hx with rfl | hx
    · obtain ⟨L, rfl, h1, h2⟩ := w.okCells (2 * k + 2)
      have hbl := hb.len
      refine okD_tup (m := 2 * k + 2) (l := L ++ [.tup body]) (by rw [List.length_append, List.length_singleton]; omega) fun y hy => ?_
      rcases List.mem_append.mp hy with hy | hy
      · exact h2 y hy
      · rcases List.mem_cons.mp hy with rfl | hy
        · refine okD_tup (m := 2 * k + 1) (by omega) fun z hz => ?_
          cases k with
          | zero =>
            have hlb : lb = [] := by
              cases lb with
              | nil => rfl
              | cons q r =>
                have h3 := (hb.steps q List.mem_cons_self).2
                have h4 := hk q (List.mem_cons_of_mem _ List.mem_cons_self)
                omega
            subst hlb
            have : body = [] := List.eq_nil_of_length_eq_zero (by simpa using hbl)
            subst this
            exact nomatch hz
          | succ k' =>
            exact ihb k' (fun q hq => by have := hk q (List.mem_cons_of_mem _ (List.mem_append_left _ hq)); omega) (by omega) z hz
        · exact nomatch hy
    · exact ih k (fun q hq => hk q (List.mem_cons_of_mem _ (List.mem_append_right _ hq))) (by omega) x hx
def shD (sets : List PD) (ps : List Int) (prog : List PD) : PD := .tup [.lst sets, .lst (ps.map .int), .tup prog]
theorem sh_ok {sets : List PD} {ps : List Int} {prog : List PD} {l : List (Int × PD)} (wf : WfSh sets ps prog) (fl : Flat (sets.map nameOf) 0 prog l) (hl : l.length ≤ 150) (h6 : ∀ q ∈ l, q.1 ≤ 6) : okD 17 (shD sets ps prog) := by
  have hp := fl.len
  have few := wf.few
  have fewp := wf.fewp
  refine okD_tup (m := 16) (by simp) fun d hd => ?_
  rcases List.mem_cons.mp hd with rfl | hd
  · refine okD_lst (m := 15) (by omega) fun d hd => ?_
    obtain ⟨n, v, rfl, _, hv⟩ := wf.wset d hd
    refine okD_tup (m := 14) (by simp) fun d hd => ?_
    rcases List.mem_cons.mp hd with rfl | hd
    · exact okD_str _ _
    rcases List.mem_cons.mp hd with rfl | hd
    · rcases hv with rfl | hv
      · exact okD_non _
      · exact okD_val _ hv
    exact nomatch hd
  rcases List.mem_cons.mp hd with rfl | hd
  · refine okD_lst (m := 15) (by rw [List.length_map]; omega) fun d hd => ?_
    obtain ⟨i, _, rfl⟩ := List.mem_map.mp hd
    exact okD_int _ _
  rcases List.mem_cons.mp hd with rfl | hd
  · exact okD_tup (m := 15) (by omega) fun d hd => fl.okD 6 (fun q hq => by have := h6 q hq; omega) (by omega) d hd
  exact nomatch hd
theorem nm_ok {sets : List PD} {ps : List Int} {prog : List PD} (wf : WfSh sets ps prog) : ∀ n ∈ sets.map nameOf, isName n = true := by
  intro n hn
  obtain ⟨d, hd, rfl⟩ := List.mem_map.mp hn
  obtain ⟨n, v, rfl, h1, _⟩ := wf.wset d hd
  exact h1
theorem text_len {sets : List PD} {ps : List Int} {prog : List PD} {l : List (Int × PD)} (wf : WfSh sets ps prog) (fl : Flat (sets.map nameOf) 0 prog l) (hl : l.length ≤ 150) (h6 : ∀ q ∈ l, q.1 ≤ 6) : (sheetText sets ps l).length ≤ 1000000 ∧ (textRows sets ps l).length ≤ 1000 := by
  have few := wf.few
  have s1 : (sets.map (Str.length ∘ setRow)).sum ≤ sets.length * 200 := sum_le fun d hd => setRow_len (wf.wset d hd)
  have s2 : (l.map (Str.length ∘ rowText)).sum ≤ l.length * 300 := sum_le fun r hr => by
    have := fl.steps r hr
    exact rowText_len (st := r.2) (d := r.1) this.1 (nm_ok wf) this.2 (by have := h6 r hr; omega)
  have wl := weaveRow_len wf.wpick wf.fewp
  have jl := join_len "\n" (textRows sets ps l)
  have e : (textRows sets ps l).length = sets.length + 1 + l.length := by unfold textRows; simp only [List.length_append, List.length_map, List.length_cons, List.length_nil]
  refine ⟨Nat.le_trans jl ?_, by omega⟩
  rw [e]
  unfold textRows
  rw [show ("\n" : Str).length = 1 by decide +kernel]
  simp only [List.map_append, List.map_map, List.sum_append, List.map_cons, List.map_nil, List.sum_cons, List.sum_nil]
  have h3 : (sets.map ((fun x => x.length) ∘ setRow)) = (sets.map (Str.length ∘ setRow)) := rfl
  have h4 : (l.map ((fun x => x.length) ∘ rowText)) = (l.map (Str.length ∘ rowText)) := rfl
  rw [h3, h4]; omega
theorem sheet_call {sets : List PD} {ps : List Int} {prog : List PD} {l : List (Int × PD)} {H : Hp} {Q : VK} {E : XK} (wf : WfSh sets ps prog) (fl : Flat (sets.map nameOf) 0 prog l) (hl : l.length ≤ 150) (h6 : ∀ q ∈ l, q.1 ≤ 6)
    (q : ∀ t s p y H', Gr [] H H' → H' t = some (.tup [.ref s, .ref p, y]) → H s = none → H p = none → s ≠ p → TRep H' (.lst sets) (.ref s) → H' p = some (.lst (ps.map V.int)) → TRep H' (.tup prog) y → Q (.ref t) H') : spSheet [.str (sheetText sets ps l)] H Q E := by
  obtain ⟨h1, h2⟩ := text_len wf fl hl h6
  refine ⟨_, sets, ps, prog, rfl, h1, by rw [sheet_split wf fl h6]; exact h2, sheet_reads wf fl h6, ?_, q⟩
  intro l' r hr ⟨q0, hq0⟩ p hp
  rw [sheet_split wf fl h6] at hq0
  have hd : (textRows sets ps l).drop sets.length = weaveRow ps :: l.map rowText := by
    unfold textRows
    rw [List.append_assoc, List.drop_left' (by rw [List.length_map])]; rfl
  rw [hd] at hq0
  injection hq0 with _ hq0
  subst hq0
  rw [rows_read (nm_ok wf) fl h6] at hr
  injection hr with hr
  subst hr
  have := h6 p hp
  omega
instance {te : TE} {σ : L2.St} {H : Hp} {Q : VK} : Stp (tRevL K te σ H Q) (te σ H fun x H1 => ∃ a xs, x = .ref a ∧ SqL K H1 a xs ∧ ∀ p, H1 p = none → Q (.ref p) (upd H1 p (.lst xs.reverse))) := ⟨id⟩
theorem ints_rep {H : Hp} (ps : List Int) : TReps H (ps.map PD.int) (ps.map V.int) := treps_ints ps
/-- a drawn sheet in the heap, its lists not f -/
def SheetAt (f : Addr) (H : Hp) (v : V) : Prop := ∃ t s p y sets ps prog, v = .ref t ∧ H t = some (.tup [.ref s, .ref p, y]) ∧ TRep H (.lst sets) (.ref s) ∧ H p = some (.lst (ps.map V.int)) ∧ TRep H (.tup prog) y ∧ WfSh sets ps prog ∧ s ≠ f ∧ p ≠ f
theorem SheetAt.keep {f : Addr} {H H' : Hp} {v : V} (h : SheetAt f H v) (g : Gr [f] H H') : SheetAt f H' v := by
  obtain ⟨t, s, p, y, sets, ps, prog, rfl, et, ts, ep, ty, wf, n1, n2⟩ := h
  obtain ⟨_, xs, h0, es, tx⟩ := rep_lst' ts
  cases h0
  have fx : PD.fixs sets = true := fixs_of fun d hd => (wf.wset d hd).fix
  exact ⟨t, s, p, y, sets, ps, prog, rfl, g.tup _ _ et, rep_lst (g.get es (nin_one n1)) (Gr.reps1 g fx tx), g.get ep (nin_one n2), g.rep ty (by simp only [PD.fix, wf.wprog.fixs]), wf, n1, n2⟩
def sp_law (K : PySem.W.Frag) : Sp := fun vs H Q _ => ∃ (a : Addr) (ns : List Int), vs = [.ref a] ∧ SqL K H a (ns.map V.int) ∧ ns.length ≤ 63 ∧ ∀ H', Q (.bl true) H'
theorem sc_law : FnScope ["_law_script", "_law_sheets", "_law_k", "_law_box_here", "_law_far", "_law_most", "_law_picks", "_law_steps", "_law_settings", "_law_program_here", "_law_told"] ["_law_script"] (defScope s_law) := ⟨rfl, rfl, rfl, by decide +kernel, rfl, by decide +kernel, by decide +kernel⟩
theorem ok_law (T : TX K mg) {F : Addr} {f : FuncData} (FF : Fun K "law" "law" s_law F f) : FnOk P w K mg base CX0 23 F f ["_law_script"] (sp_law K) := by
  refine FF.ok sc_law (fun vs H Q E h => ?_) (fun cdv A outer s H vs Q E hr h => ?_)
  · obtain ⟨_, _, rfl, _⟩ := h; rfl
  obtain ⟨a, ns, rfl, hL, hn, q⟩ := h
  refine ⟨_, (pss_cons (ps_set (i := 1) sc_law.nd rfl (Or.inl rfl) (pe_lst pa_nil))
  (pss_cons (ps_for PassesOwn.never rfl (pi_range1 (by rfl) T.z_range (pa_cons (pe_callB (call_max2A rfl) (by rfl) T.z_max bt_max (pa_cons pe_int (pa_cons (pe_callB (call_min2A rfl) (by rfl) T.z_min bt_min (pa_cons (pe_callB (call_lenK (K := K) rfl) (by rfl) T.z_len bt_len (pa_cons (pv 0) pa_nil)) (pa_cons pe_int pa_nil))) pa_nil))) pa_nil)) (pg_name (i := 2) sc_law.nd rfl (Or.inl rfl))
    (pss_cons (ps_set (i := 3) sc_law.nd rfl (Or.inl rfl) (pe_call (ok_law_box T) (hr.mono (by decide)) (by rfl) T.d_law_box.g T.d_law_box.F.kp T.d_law_box.b .nil pass0 (pa_cons (pv 0) (pa_cons (pv 2) pa_nil))))
  (pss_cons (ps_set (i := 4) sc_law.nd rfl (Or.inl rfl) (pe_and (pe_cmpR (op_eqK (K := K) rfl (hu64 hr)) (pv 2) pe_int (nomark _)) (pe_one (pe_cmpR (op_eqK (K := K) rfl (hu64 hr)) (pe_call (ok_law_take T) (hr.mono (by decide)) (by rfl) T.d_law_take.g T.d_law_take.F.kp T.d_law_take.b .nil pass0 (pa_cons (pv 3) (pa_cons pe_int pa_nil))) pe_int (nomark _)))))
  (pss_cons (ps_par3 (i := 5) (j := 6) (l := 7) rfl sc_law.nd rfl rfl rfl (by decide) (by decide) (by decide) rfl rfl rfl (pa_cons (pe_ix (ix_anyK (K := K) rfl) (pe_lst (pa_cons pe_int (pa_cons pe_int pa_nil))) (pe_callTy call_intA (by rfl) T.z_int bt_int (pa_cons (pv 4) pa_nil)) (fun _ _ => rfl)) (pa_cons (pe_ix (ix_anyK (K := K) rfl) (pe_lst (pa_cons pe_int (pa_cons pe_int pa_nil))) (pe_callTy call_intA (by rfl) T.z_int bt_int (pa_cons (pv 4) pa_nil)) (fun _ _ => rfl)) (pa_cons (pe_ix (ix_anyK (K := K) rfl) (pe_lst (pa_cons pe_int (pa_cons pe_int pa_nil))) (pe_callTy call_intA (by rfl) T.z_int bt_int (pa_cons (pv 4) pa_nil)) (fun _ _ => rfl)) pa_nil))) (by rfl))
  (pss_one (ps_expr (pe_bmK (K := K) rfl PySem.F.plainAttrs_list PySem.F.slot_list_append PySem.F.type_list_append mt_append (pv 1) (pa_cons (pe_call (ok_law_drawn T) (hr.mono (by decide)) (by rfl) T.d_law_drawn.g T.d_law_drawn.F.kp T.d_law_drawn.b .nil pass0 (pa_cons (pv 3) (pa_cons (pv 5) (pa_cons (pv 6) (pa_cons (pv 7) (pa_cons pe_int pa_nil)))))) pa_nil))))))))
  (pss_cons (ps_for PassesOwn.never rfl (pi_anyK (K := K) rfl (pe_op (op_addK (K := K) rfl) (pv 1) (peK (f := fun K => tRevL K _) (K := K) rfl (pe_revL (pv 1))))) (pg_tupK (K := K) (n := 3) rfl rfl (pgs_cons (pg_name (i := 8) sc_law.nd rfl (Or.inl rfl)) (pgs_cons (pg_name (i := 6) sc_law.nd rfl (Or.inl rfl)) (pgs_cons (pg_name (i := 9) sc_law.nd rfl (Or.inl rfl)) pgs_nil))))
    (pss_cons (ps_set (i := 10) sc_law.nd rfl (Or.inl rfl) (pe_call (ok_sheet_from T) (hr.mono (by decide)) (by rfl) T.d_sheet_from.g T.d_sheet_from.F.kp T.d_sheet_from.b .nil pass0 (pa_cons (pe_call (ok_law_sheet_text T) (hr.mono (by decide)) (by rfl) T.d_law_sheet_text.g T.d_law_sheet_text.F.kp T.d_law_sheet_text.b .nil pass0 (pa_cons (pv 8) (pa_cons (pv 6) (pa_cons (pv 9) pa_nil)))) pa_nil)))
  (pss_cons (ps_if (pt_not (pt_val (pe_call (ok_same T 17) (hr.mono (by decide)) (by rfl) T.d_law_same.g T.d_law_same.F.kp T.d_law_same.b .nil pass0 (pa_cons (pv 10) (pa_cons (pe_tup (pa_cons (pv 8) (pa_cons (pv 6) (pa_cons (pv 9) pa_nil)))) pa_nil)))))
    (pss_one (ps_ret pe_bl))
    pss_nil)
  (pss_cons (ps_expr (pe_bmK (K := K) rfl PySem.F.plainAttrs_list PySem.F.slot_list_append PySem.F.type_list_append mt_append (pe_ix (ix_anyK (K := K) rfl) (pv 10) pe_int (fun _ _ => rfl)) (pa_cons (pe_tup (pa_cons pe_str (pa_cons pe_non pa_nil))) pa_nil)))
  (pss_cons (ps_expr (peK (f := fun K => tBM0 K "list" _ _) (K := K) rfl (pe_bm0 PySem.F.plainAttrs_list PySem.F.slot_list_reverse PySem.F.type_list_reverse mt_reverse (pe_ix (ix_anyK (K := K) rfl) (pv 10) pe_int (fun _ _ => rfl)))))
  (pss_one (ps_expr (pe_bmK (K := K) rfl PySem.F.plainAttrs_list PySem.F.slot_list_append PySem.F.type_list_append mt_append (pe_ix (ix_anyK (K := K) rfl) (pv 10) pe_int (fun _ _ => rfl)) (pa_cons pe_int pa_nil)))))))))
  (pss_one (ps_ret (pe_call (ok_same T 17) (hr.mono (by decide)) (by rfl) T.d_law_same.g T.d_law_same.F.kp T.d_law_same.b .nil pass0 (pa_cons (pe_call (ok_sheet_from T) (hr.mono (by decide)) (by rfl) T.d_sheet_from.g T.d_sheet_from.F.kp T.d_sheet_from.b .nil pass0 (pa_cons pe_str pa_nil)) (pa_cons (pe_tup (pa_cons (pe_lst pa_nil) (pa_cons (pe_lst pa_nil) (pa_cons (pe_tup pa_nil) pa_nil)))) pa_nil)))))))), ?_⟩
  refine at_start [some (.ref a), none, none, none, none, none, none, none, none, none, none] rfl ?_
  walk_at "s"
  refine w_kLst (fun f H1 g1 hf e1 => ?_) (by simp)
  walk_at "s"
  refine w_lenL (g1.sqL hL nin_nil) ?_
  walk_at "s"
  refine w_kIR (by split <;> split <;> omega) ?_
  generalize hkk : (if (if (3 : Int) < ((ns.map V.int).length : Int) then (3 : Int) else ((ns.map V.int).length : Int)) > 1 then (if (3 : Int) < ((ns.map V.int).length : Int) then (3 : Int) else ((ns.map V.int).length : Int)) else 1) = kk
  have hk3 : kk ≤ 3 := by rw [← hkk]; split <;> split <;> omega
  clear hkk
  refine for_it (walk_range (lo := 0) (n := kk.toNat)) (fun i σ H' => ∃ (xs : List V) (v2 v3 v4 v5 v6 v7 : Option V), σ = [some (.ref a), some (.ref f), v2, v3, v4, v5, v6, v7, none, none, none] ∧ Gr [] H H' ∧ H' f = some (.lst xs) ∧ (∀ x ∈ xs, SheetAt f H' x) ∧ xs.length ≤ i) ?_ ?_ ?_ ?_
  · exact ⟨[], none, none, none, none, none, none, rfl, g1, e1, (fun x h => nomatch h), Nat.le_refl _⟩
  · exact fun _ _ _ _ _ => trivial
  · rintro i x σ H2 H2' hi ⟨xs, v2, v3, v4, v5, v6, v7, rfl, g2, e2, hsh, hxl⟩ ⟨rfl, rfl⟩
    walk_at "s"
    refine ⟨a, ns, i, congrArg (fun z => [V.ref a, V.int z]) (show (0 : Int) + (i : Int) = (i : Int) by omega), g2.sqL hL nin_nil, by omega, fun p3 H3 g3 hp3 b3 => ?_⟩
    have nfp : f ≠ p3 := fun e => by rw [← e, e2] at hp3; cases hp3
    walk_at "s"
    refine iteB (fun c => ?_) (fun c => ?_)
    · walk_at "s"
      refine take_use b3 (by omega) (by omega) (by omega) (fun v4 H4 gb b4 l4 u4 => ?_)
      walk_at "s"
      generalize decide (V.int v4 = V.int 0) = fr
      walk_at "s"
      refine w_kLst (fun q5 H5 g5 hq5 e5 => ?_) (by simp)
      walk_at "s"
      obtain ⟨mo, hmo, hat5⟩ : ∃ m : Nat, m ≤ 60 ∧ atI [V.int 10, V.int 60] (if fr = true then 1 else 0) = some (V.int (m : Int)) := by cases (fr) <;> first | exact ⟨10, by omega, rfl⟩ | exact ⟨60, by omega, rfl⟩
      refine w_ixL (SqL.of e5) hat5 ?_
      walk_at "s"
      refine w_kLst (fun q6 H6 g6 hq6 e6 => ?_) (by simp)
      walk_at "s"
      obtain ⟨pi_, hpi, hat6⟩ : ∃ m : Nat, m ≤ 300 ∧ atI [V.int 12, V.int 300] (if fr = true then 1 else 0) = some (V.int (m : Int)) := by cases (fr) <;> first | exact ⟨12, by omega, rfl⟩ | exact ⟨300, by omega, rfl⟩
      refine w_ixL (SqL.of e6) hat6 ?_
      walk_at "s"
      refine w_kLst (fun q7 H7 g7 hq7 e7 => ?_) (by simp)
      walk_at "s"
      obtain ⟨st_, hst, hat7⟩ : ∃ m : Nat, m ≤ 150 ∧ atI [V.int 40, V.int 150] (if fr = true then 1 else 0) = some (V.int (m : Int)) := by cases (fr) <;> first | exact ⟨40, by omega, rfl⟩ | exact ⟨150, by omega, rfl⟩
      refine w_ixL (SqL.of e7) hat7 ?_
      walk_at "s"
      have g47 : Gr [] H4 H7 := g5.trans (g6.trans g7)
      have f7 := (gb.trans g47.wide).get (g3.get0 e2) (nin_one nfp)
      refine ⟨p3, _, mo, pi_, st_, rfl, g47.box b4, by omega, hmo, hpi, hst, fun t s p y sets ps prog H8 g8 hs hp et ts ep ty wf => ?_⟩
      have nsf : s ≠ f := fun e => by rw [e, f7] at hs; cases hs
      have npf : p ≠ f := fun e => by rw [e, f7] at hp; cases hp
      have g28 : Gr [] _ H8 := (g3.wide.trans ((gb.trans g47.wide).trans g8)).fresh hp3
      walk_at "s"
      refine w_app (g28.get0 e2) (by omega) (fun H9 g9 e9 => ?_)
      walk_at "s"
      refine ⟨xs ++ [.ref t], _, _, _, _, _, _, rfl, (g2.trans g28).transF g9 hf, e9, fun x hx => ?_, by rw [List.length_append, List.length_singleton]; omega⟩
      rcases List.mem_append.mp hx with hx | hx
      · exact ((hsh x hx).keep g28.wide).keep g9
      · rcases List.mem_cons.mp hx with rfl | hx
        · exact (show SheetAt f H8 (.ref t) from ⟨t, s, p, y, sets, ps, prog, rfl, et, ts, ep, ty, wf, nsf, npf⟩).keep g9
        · exact nomatch hx
    · skip
      walk_at "s"
      refine w_kLst (fun q5 H5 g5 hq5 e5 => ?_) (by simp)
      walk_at "s"
      obtain ⟨mo, hmo, hat5⟩ : ∃ m : Nat, m ≤ 60 ∧ atI [V.int 10, V.int 60] (if false = true then 1 else 0) = some (V.int (m : Int)) := by cases (false) <;> first | exact ⟨10, by omega, rfl⟩ | exact ⟨60, by omega, rfl⟩
      refine w_ixL (SqL.of e5) hat5 ?_
      walk_at "s"
      refine w_kLst (fun q6 H6 g6 hq6 e6 => ?_) (by simp)
      walk_at "s"
      obtain ⟨pi_, hpi, hat6⟩ : ∃ m : Nat, m ≤ 300 ∧ atI [V.int 12, V.int 300] (if false = true then 1 else 0) = some (V.int (m : Int)) := by cases (false) <;> first | exact ⟨12, by omega, rfl⟩ | exact ⟨300, by omega, rfl⟩
      refine w_ixL (SqL.of e6) hat6 ?_
      walk_at "s"
      refine w_kLst (fun q7 H7 g7 hq7 e7 => ?_) (by simp)
      walk_at "s"
      obtain ⟨st_, hst, hat7⟩ : ∃ m : Nat, m ≤ 150 ∧ atI [V.int 40, V.int 150] (if false = true then 1 else 0) = some (V.int (m : Int)) := by cases (false) <;> first | exact ⟨40, by omega, rfl⟩ | exact ⟨150, by omega, rfl⟩
      refine w_ixL (SqL.of e7) hat7 ?_
      walk_at "s"
      have g47 : Gr [] H3 H7 := g5.trans (g6.trans g7)
      have f7 := (Gr.wide (fp := [p3]) g47).get (g3.get0 e2) (nin_one nfp)
      refine ⟨p3, _, mo, pi_, st_, rfl, g47.box b3, by omega, hmo, hpi, hst, fun t s p y sets ps prog H8 g8 hs hp et ts ep ty wf => ?_⟩
      have nsf : s ≠ f := fun e => by rw [e, f7] at hs; cases hs
      have npf : p ≠ f := fun e => by rw [e, f7] at hp; cases hp
      have g28 : Gr [] _ H8 := (g3.wide.trans ((Gr.wide (fp := [p3]) g47).trans g8)).fresh hp3
      walk_at "s"
      refine w_app (g28.get0 e2) (by omega) (fun H9 g9 e9 => ?_)
      walk_at "s"
      refine ⟨xs ++ [.ref t], _, _, _, _, _, _, rfl, (g2.trans g28).transF g9 hf, e9, fun x hx => ?_, by rw [List.length_append, List.length_singleton]; omega⟩
      rcases List.mem_append.mp hx with hx | hx
      · exact ((hsh x hx).keep g28.wide).keep g9
      · rcases List.mem_cons.mp hx with rfl | hx
        · exact (show SheetAt f H8 (.ref t) from ⟨t, s, p, y, sets, ps, prog, rfl, et, ts, ep, ty, wf, nsf, npf⟩).keep g9
        · exact nomatch hx
  · rintro σ H2 ⟨xs, v2, v3, v4, v5, v6, v7, rfl, g2, e2, hsh, hxl⟩
    walk_at "s"
    refine w_iL' ?_
    walk_at "s"
    refine ⟨f, xs, rfl, SqL.of e2, ?_⟩
    refine new_obj (Q := fun v H' => rAddA K (.ref f) v H' _) (fun p3 H3 g3 hp3 e3 => ?_)
    refine w_addL (g3.get0 e2) e3 (by rw [List.length_reverse]; omega) (fun p4 H4 g4 hp4 e4 => ?_)
    have hsh4 : ∀ x ∈ xs ++ xs.reverse, SheetAt f H4 x := by
      intro x hx
      have hx' : x ∈ xs := by
        rcases List.mem_append.mp hx with h | h
        · exact h
        · exact List.mem_reverse.mp h
      exact (hsh x hx').keep (g3.trans g4).wide
    walk_at "s"
    refine w_kIL (SqL.of e4) ?_
    refine for_it (walk_listE (xs := xs ++ xs.reverse)) (fun i σ H' => ∃ w2 w3 w4 w5 w6 w7 w8 w9 w10 : Option V, σ = [some (.ref a), some (.ref f), w2, w3, w4, w5, w6, w7, w8, w9, w10] ∧ Gr [] H4 H') ?_ ?_ ?_ ?_
    · exact ⟨_, _, _, _, _, _, _, _, _, rfl, Gr.refl _ _⟩
    · rintro i σ H' hi ⟨w2, w3, w4, w5, w6, w7, w8, w9, w10, rfl, g⟩
      exact SqL.of (g.get0 e4)
    · rintro i x σ H5 H5' hi ⟨w2, w3, w4, w5, w6, w7, w8, w9, w10, rfl, g5⟩ ⟨rfl, hx⟩
      obtain ⟨t, s, p, y, sets, ps, prog, rfl, et, ts, ep, ty, wf, _, _⟩ := (hsh4 x (List.mem_of_getElem? hx)).keep g5.wide
      obtain ⟨l, fl, hl, h6'⟩ := wf.wprog 0
      have h6 : ∀ q ∈ l, q.1 ≤ 6 := fun q hq => by have := h6' q hq; omega
      refine w_gtup (SqT.of et) rfl ?_
      walk_at "s"
      refine ⟨s, p, y, sets, ps, prog, l, rfl, ts, ep, ty, wf, fl, hl, h6, fun H6 g6 => ?_⟩
      walk_at "s"
      refine sheet_call wf fl hl h6 (fun t' s' p' y' H7 g7 et' hs' hp' nsp ts' ep' ty' => ?_)
      walk_at "s"
      refine w_kTup (fun q8 H8 g8 hq8 e8 => ?_) (by simp)
      have g58 := g6.trans (g7.trans g8)
      have wsx : ∃ ws, H7 s' = some (.lst ws) ∧ TReps H7 sets ws := by
        obtain ⟨_, ws, h0, ews, tws⟩ := rep_lst' ts'
        cases h0
        exact ⟨ws, ews, tws⟩
      obtain ⟨ws, ews, tws⟩ := wsx
      have lws := treps_len tws
      have few := wf.few
      have fewp := wf.fewp
      refine ⟨.ref t', .ref q8, shD sets ps prog, rfl, g8.rep0 (rep_tup et' (treps_cons ts' (treps_cons (rep_lst ep' (ints_rep ps)) (treps_cons ty' treps_nil)))), rep_tup e8 (treps_cons (g58.rep0 ts) (treps_cons (rep_lst (g58.get0 ep) (ints_rep ps)) (treps_cons (g58.rep0 ty) treps_nil))), sh_ok wf fl hl h6, fun H9 g9 => ?_⟩
      have g79 := g8.trans g9
      walk_at "s"
      refine w_ixT (SqT.of (g79.get0 et')) (atI_zero rfl) ?_
      have ews9 := g79.get0 ews
      have ep9 := g79.get0 ep'
      have et9 := g79.get0 et'
      walk_at "s"
      refine w_kTup (fun q10 H10 g10 hq10 e10 => ?_) (by simp)
      walk_at "s"
      refine w_app (g10.get0 ews9) (by omega) (fun H11 g11 e11 => ?_)
      walk_at "s"
      have et11 := g11.tup _ _ (g10.get0 et9)
      have ep11 := g11.get (g10.get0 ep9) (nin_one (Ne.symm nsp))
      refine w_ixT (SqT.of et11) (show atI _ ((1 : Nat) : Int) = some (V.ref p') from atI_nat' rfl) ?_
      walk_at "s"
      refine w_rev ep11 (fun H12 g12 e12 => ?_)
      walk_at "s"
      have et12 := g12.tup _ _ et11
      refine w_ixT (SqT.of et12) (show atI _ ((1 : Nat) : Int) = some (V.ref p') from atI_nat' rfl) ?_
      walk_at "s"
      refine w_app e12 (by rw [List.length_reverse, List.length_map]; omega) (fun H13 g13 e13 => ?_)
      walk_at "s"
      have ga : Gr [] H5' H11 := (g6.trans (g7.trans (g79.trans g10))).transF g11 (g6.free hs')
      have gc : Gr [] H5' H12 := ga.transF g12 (g6.free hp')
      exact ⟨_, _, _, _, _, _, _, _, _, rfl, g5.trans (gc.transF g13 (g6.free hp'))⟩
    · rintro σ H5 ⟨w2, w3, w4, w5, w6, w7, w8, w9, w10, rfl, g5⟩
      walk_at "s"
      have wf : WfSh [] [] [] := ⟨(fun d h => nomatch h), by simp, List.nodup_nil, (fun d h => nomatch h), by simp, WfP.nil⟩
      have ew : ("weave" : Str) = sheetText [] [] [] := by
        apply TL.ext_tl
        decide +kernel
      rw [ew]
      refine sheet_call wf .nil (by simp) (fun q h => nomatch h) (fun t' s' p' y' H7 g7 et' hs' hp' nsp ts' ep' ty' => ?_)
      walk_at "s"
      refine w_kLst (fun q8 H8 g8 hq8 e8 => ?_) (by simp)
      walk_at "s"
      refine w_kLst (fun q9 H9 g9 hq9 e9 => ?_) (by simp)
      walk_at "s"
      refine w_kTup (fun q10 H10 g10 hq10 e10 => ?_) (by simp)
      walk_at "s"
      refine w_kTup (fun q11 H11 g11 hq11 e11 => ?_) (by simp)
      walk_at "s"
      have g711 := g8.trans (g9.trans (g10.trans g11))
      refine ⟨.ref t', .ref q11, shD [] [] [], rfl, g711.rep0 (rep_tup et' (treps_cons ts' (treps_cons (rep_lst ep' (ints_rep [])) (treps_cons ty' treps_nil)))), rep_tup e11 (treps_cons (rep_lst ((g9.trans (g10.trans g11)).get0 e8) treps_nil) (treps_cons (rep_lst ((g10.trans g11).get0 e9) treps_nil) (treps_cons (rep_tup (g11.get0 e10) treps_nil) treps_nil))), sh_ok wf .nil (by simp) (fun q h => nomatch h), fun H12 g12 => ?_⟩
      exact q H12
end
end RS
set_option Elab.async false
set_option linter.all false
set_option maxRecDepth 100000
set_option maxHeartbeats 4000000

namespace RS
open PySem L2 RZ
theorem all_mk {l : PySem.W.OpenLaw} {w : World} {K : PySem.W.Frag} {h : Heap} {mg : Str → Option Value} {fa : Addr} (X : K.In h) (G : h.Ns mainGlobals mg) (hfa : mg "law" = some (.ref fa))
    {a_ALONE : Addr} {d_ALONE : Option Addr} {n_ALONE : Nat} {sl_ALONE : Array (Option Value)} {t_ALONE_0 : Tok} {t_ALONE_1 : Tok} {t_ALONE_2 : Tok}
    {a_BLOCKS : Addr} {d_BLOCKS : Option Addr} {n_BLOCKS : Nat} {sl_BLOCKS : Array (Option Value)} {t_BLOCKS_0 : Tok} {t_BLOCKS_1 : Tok} {t_BLOCKS_2 : Tok}
    {t_FIGURES : Tok}
    {t_INSET : Tok}
    {t_LETTERS : Tok}
    {t_MOST_FIGURES_sheet : Tok}
    {t_MOST_FIGURES_texts : Tok}
    {t_MOST_LETTERS : Tok}
    {t_MOST_SIGNS : Tok}
    {t_QUOTE : Tok}
    {t_SETTING : Tok}
    {t_STROKE : Tok}
    {t_WEAVE : Tok}
    {a_WITH_NAME : Addr} {d_WITH_NAME : Option Addr} {n_WITH_NAME : Nat} {sl_WITH_NAME : Array (Option Value)} {t_WITH_NAME_0 : Tok} {t_WITH_NAME_1 : Tok} {t_WITH_NAME_2 : Tok} {t_WITH_NAME_3 : Tok}
    {f_is_name : Addr} {od_is_name an_is_name : Option Addr} {sl_is_name : Array (Option Value)} {oc_is_name kV_is_name dc_is_name pm_is_name cd_is_name ct_is_name : Value}
    {f_is_number : Addr} {od_is_number an_is_number : Option Addr} {sl_is_number : Array (Option Value)} {oc_is_number kV_is_number dc_is_number pm_is_number cd_is_number ct_is_number : Value}
    {f_is_value : Addr} {od_is_value an_is_value : Option Addr} {sl_is_value : Array (Option Value)} {oc_is_value kV_is_value dc_is_value pm_is_value cd_is_value ct_is_value : Value}
    {f_number_in : Addr} {od_number_in an_number_in : Option Addr} {sl_number_in : Array (Option Value)} {oc_number_in kV_number_in dc_number_in pm_number_in cd_number_in ct_number_in : Value}
    {f_bare_in : Addr} {od_bare_in an_bare_in : Option Addr} {sl_bare_in : Array (Option Value)} {oc_bare_in kV_bare_in dc_bare_in pm_bare_in cd_bare_in ct_bare_in : Value}
    {f_text_in : Addr} {od_text_in an_text_in : Option Addr} {sl_text_in : Array (Option Value)} {oc_text_in kV_text_in dc_text_in pm_text_in cd_text_in ct_text_in : Value}
    {f_value_in : Addr} {od_value_in an_value_in : Option Addr} {sl_value_in : Array (Option Value)} {oc_value_in kV_value_in dc_value_in pm_value_in cd_value_in ct_value_in : Value}
    {f_set_in : Addr} {od_set_in an_set_in : Option Addr} {sl_set_in : Array (Option Value)} {oc_set_in kV_set_in dc_set_in pm_set_in cd_set_in ct_set_in : Value}
    {f_step_in : Addr} {od_step_in an_step_in : Option Addr} {sl_step_in : Array (Option Value)} {oc_step_in kV_step_in dc_step_in pm_step_in cd_step_in ct_step_in : Value}
    {f_rows_read : Addr} {od_rows_read an_rows_read : Option Addr} {sl_rows_read : Array (Option Value)} {oc_rows_read kV_rows_read dc_rows_read pm_rows_read cd_rows_read ct_rows_read : Value}
    {f_program_at : Addr} {od_program_at an_program_at : Option Addr} {sl_program_at : Array (Option Value)} {oc_program_at kV_program_at dc_program_at pm_program_at cd_program_at ct_program_at : Value}
    {f_setting_in : Addr} {od_setting_in an_setting_in : Option Addr} {sl_setting_in : Array (Option Value)} {oc_setting_in kV_setting_in dc_setting_in pm_setting_in cd_setting_in ct_setting_in : Value}
    {f_pick_in : Addr} {od_pick_in an_pick_in : Option Addr} {sl_pick_in : Array (Option Value)} {oc_pick_in kV_pick_in dc_pick_in pm_pick_in cd_pick_in ct_pick_in : Value}
    {f_picks_in : Addr} {od_picks_in an_picks_in : Option Addr} {sl_picks_in : Array (Option Value)} {oc_picks_in kV_picks_in dc_picks_in pm_picks_in cd_picks_in ct_picks_in : Value}
    {f_settings_in : Addr} {od_settings_in an_settings_in : Option Addr} {sl_settings_in : Array (Option Value)} {oc_settings_in kV_settings_in dc_settings_in pm_settings_in cd_settings_in ct_settings_in : Value}
    {f_look_settings : Addr} {od_look_settings an_look_settings : Option Addr} {sl_look_settings : Array (Option Value)} {oc_look_settings kV_look_settings dc_look_settings pm_look_settings cd_look_settings ct_look_settings : Value}
    {f_look_names : Addr} {od_look_names an_look_names : Option Addr} {sl_look_names : Array (Option Value)} {oc_look_names kV_look_names dc_look_names pm_look_names cd_look_names ct_look_names : Value}
    {f_sheet_from : Addr} {od_sheet_from an_sheet_from : Option Addr} {sl_sheet_from : Array (Option Value)} {oc_sheet_from kV_sheet_from dc_sheet_from pm_sheet_from cd_sheet_from ct_sheet_from : Value}
    {f_law_cell_at : Addr} {od_law_cell_at an_law_cell_at : Option Addr} {sl_law_cell_at : Array (Option Value)} {oc_law_cell_at kV_law_cell_at dc_law_cell_at pm_law_cell_at cd_law_cell_at ct_law_cell_at : Value}
    {f_law_box : Addr} {od_law_box an_law_box : Option Addr} {sl_law_box : Array (Option Value)} {oc_law_box kV_law_box dc_law_box pm_law_box cd_law_box ct_law_box : Value}
    {f_law_take : Addr} {od_law_take an_law_take : Option Addr} {sl_law_take : Array (Option Value)} {oc_law_take kV_law_take dc_law_take pm_law_take cd_law_take ct_law_take : Value}
    {f_law_names : Addr} {od_law_names an_law_names : Option Addr} {sl_law_names : Array (Option Value)} {oc_law_names kV_law_names dc_law_names pm_law_names cd_law_names ct_law_names : Value}
    {f_law_value : Addr} {od_law_value an_law_value : Option Addr} {sl_law_value : Array (Option Value)} {oc_law_value kV_law_value dc_law_value pm_law_value cd_law_value ct_law_value : Value}
    {f_law_called : Addr} {od_law_called an_law_called : Option Addr} {sl_law_called : Array (Option Value)} {oc_law_called kV_law_called dc_law_called pm_law_called cd_law_called ct_law_called : Value}
    {f_law_worth : Addr} {od_law_worth an_law_worth : Option Addr} {sl_law_worth : Array (Option Value)} {oc_law_worth kV_law_worth dc_law_worth pm_law_worth cd_law_worth ct_law_worth : Value}
    {f_law_program : Addr} {od_law_program an_law_program : Option Addr} {sl_law_program : Array (Option Value)} {oc_law_program kV_law_program dc_law_program pm_law_program cd_law_program ct_law_program : Value}
    {f_law_written : Addr} {od_law_written an_law_written : Option Addr} {sl_law_written : Array (Option Value)} {oc_law_written kV_law_written dc_law_written pm_law_written cd_law_written ct_law_written : Value}
    {f_law_rows : Addr} {od_law_rows an_law_rows : Option Addr} {sl_law_rows : Array (Option Value)} {oc_law_rows kV_law_rows dc_law_rows pm_law_rows cd_law_rows ct_law_rows : Value}
    {f_law_same : Addr} {od_law_same an_law_same : Option Addr} {sl_law_same : Array (Option Value)} {oc_law_same kV_law_same dc_law_same pm_law_same cd_law_same ct_law_same : Value}
    {f_law_drawn : Addr} {od_law_drawn an_law_drawn : Option Addr} {sl_law_drawn : Array (Option Value)} {oc_law_drawn kV_law_drawn dc_law_drawn pm_law_drawn cd_law_drawn ct_law_drawn : Value}
    {f_law_sheet_text : Addr} {od_law_sheet_text an_law_sheet_text : Option Addr} {sl_law_sheet_text : Array (Option Value)} {oc_law_sheet_text kV_law_sheet_text dc_law_sheet_text pm_law_sheet_text cd_law_sheet_text ct_law_sheet_text : Value}
    {f_law : Addr} {od_law an_law : Option Addr} {sl_law : Array (Option Value)} {oc_law kV_law dc_law pm_law cd_law ct_law : Value}
    (z_len : PySem.W.nsIn K mainGlobals "len" = some none)
    (z_all : PySem.W.nsIn K mainGlobals "all" = some none)
    (z_abs : PySem.W.nsIn K mainGlobals "abs" = some none)
    (z_divmod : PySem.W.nsIn K mainGlobals "divmod" = some none)
    (z_isinstance : PySem.W.nsIn K mainGlobals "isinstance" = some none)
    (z_int : PySem.W.nsIn K mainGlobals "int" = some none)
    (z_str : PySem.W.nsIn K mainGlobals "str" = some none)
    (z_list : PySem.W.nsIn K mainGlobals "list" = some none)
    (z_tuple : PySem.W.nsIn K mainGlobals "tuple" = some none)
    (z_bool : PySem.W.nsIn K mainGlobals "bool" = some none)
    (z_set : PySem.W.nsIn K mainGlobals "set" = some none)
    (z_range : PySem.W.nsIn K mainGlobals "range" = some none)
    (z_enumerate : PySem.W.nsIn K mainGlobals "enumerate" = some none)
    (z_zip : PySem.W.nsIn K mainGlobals "zip" = some none)
    (z_max : PySem.W.nsIn K mainGlobals "max" = some none)
    (z_min : PySem.W.nsIn K mainGlobals "min" = some none)
    (k_ALONE : PySem.W.nsIn K mainGlobals "ALONE" = some (some (.ref a_ALONE)))
    (l_ALONE : K.lookup a_ALONE = some ⟨.type "tuple", d_ALONE, .seq #[.str "begin" t_ALONE_0, .str "late" t_ALONE_1, .str "pass" t_ALONE_2] n_ALONE, sl_ALONE⟩)
    (k_BLOCKS : PySem.W.nsIn K mainGlobals "BLOCKS" = some (some (.ref a_BLOCKS)))
    (l_BLOCKS : K.lookup a_BLOCKS = some ⟨.type "tuple", d_BLOCKS, .seq #[.str "begin" t_BLOCKS_0, .str "late" t_BLOCKS_1, .str "in" t_BLOCKS_2] n_BLOCKS, sl_BLOCKS⟩)
    (k_FIGURES : PySem.W.nsIn K mainGlobals "FIGURES" = some (some (.str "0123456789" t_FIGURES)))
    (k_INSET : PySem.W.nsIn K mainGlobals "INSET" = some (some (.str "  " t_INSET)))
    (k_LETTERS : PySem.W.nsIn K mainGlobals "LETTERS" = some (some (.str "abcdefghijklmnopqrstuvwxyz" t_LETTERS)))
    (k_MOST_FIGURES_sheet : PySem.W.nsIn K mainGlobals "MOST_FIGURES_sheet" = some (some (.int 4 t_MOST_FIGURES_sheet)))
    (k_MOST_FIGURES_texts : PySem.W.nsIn K mainGlobals "MOST_FIGURES_texts" = some (some (.int 30 t_MOST_FIGURES_texts)))
    (k_MOST_LETTERS : PySem.W.nsIn K mainGlobals "MOST_LETTERS" = some (some (.int 8 t_MOST_LETTERS)))
    (k_MOST_SIGNS : PySem.W.nsIn K mainGlobals "MOST_SIGNS" = some (some (.int 40 t_MOST_SIGNS)))
    (k_QUOTE : PySem.W.nsIn K mainGlobals "QUOTE" = some (some (.str "'" t_QUOTE)))
    (k_SETTING : PySem.W.nsIn K mainGlobals "SETTING" = some (some (.str "setting" t_SETTING)))
    (k_STROKE : PySem.W.nsIn K mainGlobals "STROKE" = some (some (.str "\\" t_STROKE)))
    (k_WEAVE : PySem.W.nsIn K mainGlobals "WEAVE" = some (some (.str "weave" t_WEAVE)))
    (k_WITH_NAME : PySem.W.nsIn K mainGlobals "WITH_NAME" = some (some (.ref a_WITH_NAME)))
    (l_WITH_NAME : K.lookup a_WITH_NAME = some ⟨.type "tuple", d_WITH_NAME, .seq #[.str "look" t_WITH_NAME_0, .str "back" t_WITH_NAME_1, .str "copy" t_WITH_NAME_2, .str "in" t_WITH_NAME_3] n_WITH_NAME, sl_WITH_NAME⟩)
    (a_is_name : PySem.W.nsIn K mainGlobals "is_name" = some (some (.ref f_is_name)))
    (l_is_name : K.lookup f_is_name = some ⟨oc_is_name, od_is_name, .func (PySem.W.fnOf "is_name" "is_name" (defArgs s_is_name) (defBody s_is_name) (defScope s_is_name) .none kV_is_name dc_is_name pm_is_name an_is_name cd_is_name ct_is_name), sl_is_name⟩)
    (q_is_name : PySem.W.codeIn K cd_is_name "is_name" = true)
    (p_is_name : PySem.W.keepIn K (.ref f_is_name) = true)
    (a_is_number : PySem.W.nsIn K mainGlobals "is_number" = some (some (.ref f_is_number)))
    (l_is_number : K.lookup f_is_number = some ⟨oc_is_number, od_is_number, .func (PySem.W.fnOf "is_number" "is_number" (defArgs s_is_number) (defBody s_is_number) (defScope s_is_number) .none kV_is_number dc_is_number pm_is_number an_is_number cd_is_number ct_is_number), sl_is_number⟩)
    (q_is_number : PySem.W.codeIn K cd_is_number "is_number" = true)
    (p_is_number : PySem.W.keepIn K (.ref f_is_number) = true)
    (a_is_value : PySem.W.nsIn K mainGlobals "is_value" = some (some (.ref f_is_value)))
    (l_is_value : K.lookup f_is_value = some ⟨oc_is_value, od_is_value, .func (PySem.W.fnOf "is_value" "is_value" (defArgs s_is_value) (defBody s_is_value) (defScope s_is_value) .none kV_is_value dc_is_value pm_is_value an_is_value cd_is_value ct_is_value), sl_is_value⟩)
    (q_is_value : PySem.W.codeIn K cd_is_value "is_value" = true)
    (p_is_value : PySem.W.keepIn K (.ref f_is_value) = true)
    (a_number_in : PySem.W.nsIn K mainGlobals "number_in" = some (some (.ref f_number_in)))
    (l_number_in : K.lookup f_number_in = some ⟨oc_number_in, od_number_in, .func (PySem.W.fnOf "number_in" "number_in" (defArgs s_number_in) (defBody s_number_in) (defScope s_number_in) .none kV_number_in dc_number_in pm_number_in an_number_in cd_number_in ct_number_in), sl_number_in⟩)
    (q_number_in : PySem.W.codeIn K cd_number_in "number_in" = true)
    (p_number_in : PySem.W.keepIn K (.ref f_number_in) = true)
    (a_bare_in : PySem.W.nsIn K mainGlobals "bare_in" = some (some (.ref f_bare_in)))
    (l_bare_in : K.lookup f_bare_in = some ⟨oc_bare_in, od_bare_in, .func (PySem.W.fnOf "bare_in" "bare_in" (defArgs s_bare_in) (defBody s_bare_in) (defScope s_bare_in) .none kV_bare_in dc_bare_in pm_bare_in an_bare_in cd_bare_in ct_bare_in), sl_bare_in⟩)
    (q_bare_in : PySem.W.codeIn K cd_bare_in "bare_in" = true)
    (p_bare_in : PySem.W.keepIn K (.ref f_bare_in) = true)
    (a_text_in : PySem.W.nsIn K mainGlobals "text_in" = some (some (.ref f_text_in)))
    (l_text_in : K.lookup f_text_in = some ⟨oc_text_in, od_text_in, .func (PySem.W.fnOf "text_in" "text_in" (defArgs s_text_in) (defBody s_text_in) (defScope s_text_in) .none kV_text_in dc_text_in pm_text_in an_text_in cd_text_in ct_text_in), sl_text_in⟩)
    (q_text_in : PySem.W.codeIn K cd_text_in "text_in" = true)
    (p_text_in : PySem.W.keepIn K (.ref f_text_in) = true)
    (a_value_in : PySem.W.nsIn K mainGlobals "value_in" = some (some (.ref f_value_in)))
    (l_value_in : K.lookup f_value_in = some ⟨oc_value_in, od_value_in, .func (PySem.W.fnOf "value_in" "value_in" (defArgs s_value_in) (defBody s_value_in) (defScope s_value_in) .none kV_value_in dc_value_in pm_value_in an_value_in cd_value_in ct_value_in), sl_value_in⟩)
    (q_value_in : PySem.W.codeIn K cd_value_in "value_in" = true)
    (p_value_in : PySem.W.keepIn K (.ref f_value_in) = true)
    (a_set_in : PySem.W.nsIn K mainGlobals "set_in" = some (some (.ref f_set_in)))
    (l_set_in : K.lookup f_set_in = some ⟨oc_set_in, od_set_in, .func (PySem.W.fnOf "set_in" "set_in" (defArgs s_set_in) (defBody s_set_in) (defScope s_set_in) .none kV_set_in dc_set_in pm_set_in an_set_in cd_set_in ct_set_in), sl_set_in⟩)
    (q_set_in : PySem.W.codeIn K cd_set_in "set_in" = true)
    (p_set_in : PySem.W.keepIn K (.ref f_set_in) = true)
    (a_step_in : PySem.W.nsIn K mainGlobals "step_in" = some (some (.ref f_step_in)))
    (l_step_in : K.lookup f_step_in = some ⟨oc_step_in, od_step_in, .func (PySem.W.fnOf "step_in" "step_in" (defArgs s_step_in) (defBody s_step_in) (defScope s_step_in) .none kV_step_in dc_step_in pm_step_in an_step_in cd_step_in ct_step_in), sl_step_in⟩)
    (q_step_in : PySem.W.codeIn K cd_step_in "step_in" = true)
    (p_step_in : PySem.W.keepIn K (.ref f_step_in) = true)
    (a_rows_read : PySem.W.nsIn K mainGlobals "rows_read" = some (some (.ref f_rows_read)))
    (l_rows_read : K.lookup f_rows_read = some ⟨oc_rows_read, od_rows_read, .func (PySem.W.fnOf "rows_read" "rows_read" (defArgs s_rows_read) (defBody s_rows_read) (defScope s_rows_read) .none kV_rows_read dc_rows_read pm_rows_read an_rows_read cd_rows_read ct_rows_read), sl_rows_read⟩)
    (q_rows_read : PySem.W.codeIn K cd_rows_read "rows_read" = true)
    (p_rows_read : PySem.W.keepIn K (.ref f_rows_read) = true)
    (a_program_at : PySem.W.nsIn K mainGlobals "program_at" = some (some (.ref f_program_at)))
    (l_program_at : K.lookup f_program_at = some ⟨oc_program_at, od_program_at, .func (PySem.W.fnOf "program_at" "program_at" (defArgs s_program_at) (defBody s_program_at) (defScope s_program_at) .none kV_program_at dc_program_at pm_program_at an_program_at cd_program_at ct_program_at), sl_program_at⟩)
    (q_program_at : PySem.W.codeIn K cd_program_at "program_at" = true)
    (p_program_at : PySem.W.keepIn K (.ref f_program_at) = true)
    (a_setting_in : PySem.W.nsIn K mainGlobals "setting_in" = some (some (.ref f_setting_in)))
    (l_setting_in : K.lookup f_setting_in = some ⟨oc_setting_in, od_setting_in, .func (PySem.W.fnOf "setting_in" "setting_in" (defArgs s_setting_in) (defBody s_setting_in) (defScope s_setting_in) .none kV_setting_in dc_setting_in pm_setting_in an_setting_in cd_setting_in ct_setting_in), sl_setting_in⟩)
    (q_setting_in : PySem.W.codeIn K cd_setting_in "setting_in" = true)
    (p_setting_in : PySem.W.keepIn K (.ref f_setting_in) = true)
    (a_pick_in : PySem.W.nsIn K mainGlobals "pick_in" = some (some (.ref f_pick_in)))
    (l_pick_in : K.lookup f_pick_in = some ⟨oc_pick_in, od_pick_in, .func (PySem.W.fnOf "pick_in" "pick_in" (defArgs s_pick_in) (defBody s_pick_in) (defScope s_pick_in) .none kV_pick_in dc_pick_in pm_pick_in an_pick_in cd_pick_in ct_pick_in), sl_pick_in⟩)
    (q_pick_in : PySem.W.codeIn K cd_pick_in "pick_in" = true)
    (p_pick_in : PySem.W.keepIn K (.ref f_pick_in) = true)
    (a_picks_in : PySem.W.nsIn K mainGlobals "picks_in" = some (some (.ref f_picks_in)))
    (l_picks_in : K.lookup f_picks_in = some ⟨oc_picks_in, od_picks_in, .func (PySem.W.fnOf "picks_in" "picks_in" (defArgs s_picks_in) (defBody s_picks_in) (defScope s_picks_in) .none kV_picks_in dc_picks_in pm_picks_in an_picks_in cd_picks_in ct_picks_in), sl_picks_in⟩)
    (q_picks_in : PySem.W.codeIn K cd_picks_in "picks_in" = true)
    (p_picks_in : PySem.W.keepIn K (.ref f_picks_in) = true)
    (a_settings_in : PySem.W.nsIn K mainGlobals "settings_in" = some (some (.ref f_settings_in)))
    (l_settings_in : K.lookup f_settings_in = some ⟨oc_settings_in, od_settings_in, .func (PySem.W.fnOf "settings_in" "settings_in" (defArgs s_settings_in) (defBody s_settings_in) (defScope s_settings_in) .none kV_settings_in dc_settings_in pm_settings_in an_settings_in cd_settings_in ct_settings_in), sl_settings_in⟩)
    (q_settings_in : PySem.W.codeIn K cd_settings_in "settings_in" = true)
    (p_settings_in : PySem.W.keepIn K (.ref f_settings_in) = true)
    (a_look_settings : PySem.W.nsIn K mainGlobals "look_settings" = some (some (.ref f_look_settings)))
    (l_look_settings : K.lookup f_look_settings = some ⟨oc_look_settings, od_look_settings, .func (PySem.W.fnOf "look_settings" "look_settings" (defArgs s_look_settings) (defBody s_look_settings) (defScope s_look_settings) .none kV_look_settings dc_look_settings pm_look_settings an_look_settings cd_look_settings ct_look_settings), sl_look_settings⟩)
    (q_look_settings : PySem.W.codeIn K cd_look_settings "look_settings" = true)
    (p_look_settings : PySem.W.keepIn K (.ref f_look_settings) = true)
    (a_look_names : PySem.W.nsIn K mainGlobals "look_names" = some (some (.ref f_look_names)))
    (l_look_names : K.lookup f_look_names = some ⟨oc_look_names, od_look_names, .func (PySem.W.fnOf "look_names" "look_names" (defArgs s_look_names) (defBody s_look_names) (defScope s_look_names) .none kV_look_names dc_look_names pm_look_names an_look_names cd_look_names ct_look_names), sl_look_names⟩)
    (q_look_names : PySem.W.codeIn K cd_look_names "look_names" = true)
    (p_look_names : PySem.W.keepIn K (.ref f_look_names) = true)
    (a_sheet_from : PySem.W.nsIn K mainGlobals "sheet_from" = some (some (.ref f_sheet_from)))
    (l_sheet_from : K.lookup f_sheet_from = some ⟨oc_sheet_from, od_sheet_from, .func (PySem.W.fnOf "sheet_from" "sheet_from" (defArgs s_sheet_from) (defBody s_sheet_from) (defScope s_sheet_from) .none kV_sheet_from dc_sheet_from pm_sheet_from an_sheet_from cd_sheet_from ct_sheet_from), sl_sheet_from⟩)
    (q_sheet_from : PySem.W.codeIn K cd_sheet_from "sheet_from" = true)
    (p_sheet_from : PySem.W.keepIn K (.ref f_sheet_from) = true)
    (a_law_cell_at : PySem.W.nsIn K mainGlobals "_law_cell_at" = some (some (.ref f_law_cell_at)))
    (l_law_cell_at : K.lookup f_law_cell_at = some ⟨oc_law_cell_at, od_law_cell_at, .func (PySem.W.fnOf "_law_cell_at" "_law_cell_at" (defArgs s_law_cell_at) (defBody s_law_cell_at) (defScope s_law_cell_at) .none kV_law_cell_at dc_law_cell_at pm_law_cell_at an_law_cell_at cd_law_cell_at ct_law_cell_at), sl_law_cell_at⟩)
    (q_law_cell_at : PySem.W.codeIn K cd_law_cell_at "_law_cell_at" = true)
    (p_law_cell_at : PySem.W.keepIn K (.ref f_law_cell_at) = true)
    (a_law_box : PySem.W.nsIn K mainGlobals "_law_box" = some (some (.ref f_law_box)))
    (l_law_box : K.lookup f_law_box = some ⟨oc_law_box, od_law_box, .func (PySem.W.fnOf "_law_box" "_law_box" (defArgs s_law_box) (defBody s_law_box) (defScope s_law_box) .none kV_law_box dc_law_box pm_law_box an_law_box cd_law_box ct_law_box), sl_law_box⟩)
    (q_law_box : PySem.W.codeIn K cd_law_box "_law_box" = true)
    (p_law_box : PySem.W.keepIn K (.ref f_law_box) = true)
    (a_law_take : PySem.W.nsIn K mainGlobals "_law_take" = some (some (.ref f_law_take)))
    (l_law_take : K.lookup f_law_take = some ⟨oc_law_take, od_law_take, .func (PySem.W.fnOf "_law_take" "_law_take" (defArgs s_law_take) (defBody s_law_take) (defScope s_law_take) .none kV_law_take dc_law_take pm_law_take an_law_take cd_law_take ct_law_take), sl_law_take⟩)
    (q_law_take : PySem.W.codeIn K cd_law_take "_law_take" = true)
    (p_law_take : PySem.W.keepIn K (.ref f_law_take) = true)
    (a_law_names : PySem.W.nsIn K mainGlobals "_law_names" = some (some (.ref f_law_names)))
    (l_law_names : K.lookup f_law_names = some ⟨oc_law_names, od_law_names, .func (PySem.W.fnOf "_law_names" "_law_names" (defArgs s_law_names) (defBody s_law_names) (defScope s_law_names) .none kV_law_names dc_law_names pm_law_names an_law_names cd_law_names ct_law_names), sl_law_names⟩)
    (q_law_names : PySem.W.codeIn K cd_law_names "_law_names" = true)
    (p_law_names : PySem.W.keepIn K (.ref f_law_names) = true)
    (a_law_value : PySem.W.nsIn K mainGlobals "_law_value" = some (some (.ref f_law_value)))
    (l_law_value : K.lookup f_law_value = some ⟨oc_law_value, od_law_value, .func (PySem.W.fnOf "_law_value" "_law_value" (defArgs s_law_value) (defBody s_law_value) (defScope s_law_value) .none kV_law_value dc_law_value pm_law_value an_law_value cd_law_value ct_law_value), sl_law_value⟩)
    (q_law_value : PySem.W.codeIn K cd_law_value "_law_value" = true)
    (p_law_value : PySem.W.keepIn K (.ref f_law_value) = true)
    (a_law_called : PySem.W.nsIn K mainGlobals "_law_called" = some (some (.ref f_law_called)))
    (l_law_called : K.lookup f_law_called = some ⟨oc_law_called, od_law_called, .func (PySem.W.fnOf "_law_called" "_law_called" (defArgs s_law_called) (defBody s_law_called) (defScope s_law_called) .none kV_law_called dc_law_called pm_law_called an_law_called cd_law_called ct_law_called), sl_law_called⟩)
    (q_law_called : PySem.W.codeIn K cd_law_called "_law_called" = true)
    (p_law_called : PySem.W.keepIn K (.ref f_law_called) = true)
    (a_law_worth : PySem.W.nsIn K mainGlobals "_law_worth" = some (some (.ref f_law_worth)))
    (l_law_worth : K.lookup f_law_worth = some ⟨oc_law_worth, od_law_worth, .func (PySem.W.fnOf "_law_worth" "_law_worth" (defArgs s_law_worth) (defBody s_law_worth) (defScope s_law_worth) .none kV_law_worth dc_law_worth pm_law_worth an_law_worth cd_law_worth ct_law_worth), sl_law_worth⟩)
    (q_law_worth : PySem.W.codeIn K cd_law_worth "_law_worth" = true)
    (p_law_worth : PySem.W.keepIn K (.ref f_law_worth) = true)
    (a_law_program : PySem.W.nsIn K mainGlobals "_law_program" = some (some (.ref f_law_program)))
    (l_law_program : K.lookup f_law_program = some ⟨oc_law_program, od_law_program, .func (PySem.W.fnOf "_law_program" "_law_program" (defArgs s_law_program) (defBody s_law_program) (defScope s_law_program) .none kV_law_program dc_law_program pm_law_program an_law_program cd_law_program ct_law_program), sl_law_program⟩)
    (q_law_program : PySem.W.codeIn K cd_law_program "_law_program" = true)
    (p_law_program : PySem.W.keepIn K (.ref f_law_program) = true)
    (a_law_written : PySem.W.nsIn K mainGlobals "_law_written" = some (some (.ref f_law_written)))
    (l_law_written : K.lookup f_law_written = some ⟨oc_law_written, od_law_written, .func (PySem.W.fnOf "_law_written" "_law_written" (defArgs s_law_written) (defBody s_law_written) (defScope s_law_written) .none kV_law_written dc_law_written pm_law_written an_law_written cd_law_written ct_law_written), sl_law_written⟩)
    (q_law_written : PySem.W.codeIn K cd_law_written "_law_written" = true)
    (p_law_written : PySem.W.keepIn K (.ref f_law_written) = true)
    (a_law_rows : PySem.W.nsIn K mainGlobals "_law_rows" = some (some (.ref f_law_rows)))
    (l_law_rows : K.lookup f_law_rows = some ⟨oc_law_rows, od_law_rows, .func (PySem.W.fnOf "_law_rows" "_law_rows" (defArgs s_law_rows) (defBody s_law_rows) (defScope s_law_rows) .none kV_law_rows dc_law_rows pm_law_rows an_law_rows cd_law_rows ct_law_rows), sl_law_rows⟩)
    (q_law_rows : PySem.W.codeIn K cd_law_rows "_law_rows" = true)
    (p_law_rows : PySem.W.keepIn K (.ref f_law_rows) = true)
    (a_law_same : PySem.W.nsIn K mainGlobals "_law_same" = some (some (.ref f_law_same)))
    (l_law_same : K.lookup f_law_same = some ⟨oc_law_same, od_law_same, .func (PySem.W.fnOf "_law_same" "_law_same" (defArgs s_law_same) (defBody s_law_same) (defScope s_law_same) .none kV_law_same dc_law_same pm_law_same an_law_same cd_law_same ct_law_same), sl_law_same⟩)
    (q_law_same : PySem.W.codeIn K cd_law_same "_law_same" = true)
    (p_law_same : PySem.W.keepIn K (.ref f_law_same) = true)
    (a_law_drawn : PySem.W.nsIn K mainGlobals "_law_drawn" = some (some (.ref f_law_drawn)))
    (l_law_drawn : K.lookup f_law_drawn = some ⟨oc_law_drawn, od_law_drawn, .func (PySem.W.fnOf "_law_drawn" "_law_drawn" (defArgs s_law_drawn) (defBody s_law_drawn) (defScope s_law_drawn) .none kV_law_drawn dc_law_drawn pm_law_drawn an_law_drawn cd_law_drawn ct_law_drawn), sl_law_drawn⟩)
    (q_law_drawn : PySem.W.codeIn K cd_law_drawn "_law_drawn" = true)
    (p_law_drawn : PySem.W.keepIn K (.ref f_law_drawn) = true)
    (a_law_sheet_text : PySem.W.nsIn K mainGlobals "_law_sheet_text" = some (some (.ref f_law_sheet_text)))
    (l_law_sheet_text : K.lookup f_law_sheet_text = some ⟨oc_law_sheet_text, od_law_sheet_text, .func (PySem.W.fnOf "_law_sheet_text" "_law_sheet_text" (defArgs s_law_sheet_text) (defBody s_law_sheet_text) (defScope s_law_sheet_text) .none kV_law_sheet_text dc_law_sheet_text pm_law_sheet_text an_law_sheet_text cd_law_sheet_text ct_law_sheet_text), sl_law_sheet_text⟩)
    (q_law_sheet_text : PySem.W.codeIn K cd_law_sheet_text "_law_sheet_text" = true)
    (p_law_sheet_text : PySem.W.keepIn K (.ref f_law_sheet_text) = true)
    (a_law : PySem.W.nsIn K mainGlobals "law" = some (some (.ref f_law)))
    (l_law : K.lookup f_law = some ⟨oc_law, od_law, .func (PySem.W.fnOf "law" "law" (defArgs s_law) (defBody s_law) (defScope s_law) .none kV_law dc_law pm_law an_law cd_law ct_law), sl_law⟩)
    (q_law : PySem.W.codeIn K cd_law "law" = true)
    (p_law : PySem.W.keepIn K (.ref f_law) = true)
    : ∃ fd : FuncData, (∀ (s : Shared) (v : Value), BindsTo s fd ⟨[v], []⟩ [("_law_script", v)]) ∧ ∀ base : Heap, K.In base → base.Ns mainGlobals mg → FnOk l.prog w K mg base CX0 23 fa fd ["_law_script"] (sp_law K) := by
  have e := hfa.symm.trans (PySem.W.mg_of X G a_law)
  cases e
  have T : TX K mg := { z_len := PySem.W.mg_none_of X G z_len, z_all := PySem.W.mg_none_of X G z_all, z_abs := PySem.W.mg_none_of X G z_abs, z_divmod := PySem.W.mg_none_of X G z_divmod, z_isinstance := PySem.W.mg_none_of X G z_isinstance, z_int := PySem.W.mg_none_of X G z_int, z_str := PySem.W.mg_none_of X G z_str, z_list := PySem.W.mg_none_of X G z_list, z_tuple := PySem.W.mg_none_of X G z_tuple, z_bool := PySem.W.mg_none_of X G z_bool, z_set := PySem.W.mg_none_of X G z_set, z_range := PySem.W.mg_none_of X G z_range, z_enumerate := PySem.W.mg_none_of X G z_enumerate, z_zip := PySem.W.mg_none_of X G z_zip, z_max := PySem.W.mg_none_of X G z_max, z_min := PySem.W.mg_none_of X G z_min, k_ALONE := ⟨a_ALONE, PySem.W.mg_of X G k_ALONE, fun H => .inr ⟨_, _, _, l_ALONE, rfl, rfl, by show 3 ≤ sizeLine; decide, (.cons ⟨_, rfl⟩ (.cons ⟨_, rfl⟩ (.cons ⟨_, rfl⟩ .nil)))⟩⟩, k_BLOCKS := ⟨a_BLOCKS, PySem.W.mg_of X G k_BLOCKS, fun H => .inr ⟨_, _, _, l_BLOCKS, rfl, rfl, by show 3 ≤ sizeLine; decide, (.cons ⟨_, rfl⟩ (.cons ⟨_, rfl⟩ (.cons ⟨_, rfl⟩ .nil)))⟩⟩, k_FIGURES := ⟨t_FIGURES, PySem.W.mg_of X G k_FIGURES⟩, k_INSET := ⟨t_INSET, PySem.W.mg_of X G k_INSET⟩, k_LETTERS := ⟨t_LETTERS, PySem.W.mg_of X G k_LETTERS⟩, k_MOST_FIGURES_sheet := ⟨t_MOST_FIGURES_sheet, PySem.W.mg_of X G k_MOST_FIGURES_sheet⟩, k_MOST_FIGURES_texts := ⟨t_MOST_FIGURES_texts, PySem.W.mg_of X G k_MOST_FIGURES_texts⟩, k_MOST_LETTERS := ⟨t_MOST_LETTERS, PySem.W.mg_of X G k_MOST_LETTERS⟩, k_MOST_SIGNS := ⟨t_MOST_SIGNS, PySem.W.mg_of X G k_MOST_SIGNS⟩, k_QUOTE := ⟨t_QUOTE, PySem.W.mg_of X G k_QUOTE⟩, k_SETTING := ⟨t_SETTING, PySem.W.mg_of X G k_SETTING⟩, k_STROKE := ⟨t_STROKE, PySem.W.mg_of X G k_STROKE⟩, k_WEAVE := ⟨t_WEAVE, PySem.W.mg_of X G k_WEAVE⟩, k_WITH_NAME := ⟨a_WITH_NAME, PySem.W.mg_of X G k_WITH_NAME, fun H => .inr ⟨_, _, _, l_WITH_NAME, rfl, rfl, by show 4 ≤ sizeLine; decide, (.cons ⟨_, rfl⟩ (.cons ⟨_, rfl⟩ (.cons ⟨_, rfl⟩ (.cons ⟨_, rfl⟩ .nil))))⟩⟩, d_is_name := ⟨f_is_name, _, fun_mk (st := s_is_name) l_is_name q_is_name p_is_name, (fun_mk (st := s_is_name) l_is_name q_is_name p_is_name).binds (fun _ _ _ _ _ _ us hl => match us, hl with | [_], _ => rfl), PySem.W.mg_of X G a_is_name⟩, d_is_number := ⟨f_is_number, _, fun_mk (st := s_is_number) l_is_number q_is_number p_is_number, (fun_mk (st := s_is_number) l_is_number q_is_number p_is_number).binds (fun _ _ _ _ _ _ us hl => match us, hl with | [_], _ => rfl), PySem.W.mg_of X G a_is_number⟩, d_is_value := ⟨f_is_value, _, fun_mk (st := s_is_value) l_is_value q_is_value p_is_value, (fun_mk (st := s_is_value) l_is_value q_is_value p_is_value).binds (fun _ _ _ _ _ _ us hl => match us, hl with | [_], _ => rfl), PySem.W.mg_of X G a_is_value⟩, d_number_in := ⟨f_number_in, _, fun_mk (st := s_number_in) l_number_in q_number_in p_number_in, (fun_mk (st := s_number_in) l_number_in q_number_in p_number_in).binds (fun _ _ _ _ _ _ us hl => match us, hl with | [_], _ => rfl), PySem.W.mg_of X G a_number_in⟩, d_bare_in := ⟨f_bare_in, _, fun_mk (st := s_bare_in) l_bare_in q_bare_in p_bare_in, (fun_mk (st := s_bare_in) l_bare_in q_bare_in p_bare_in).binds (fun _ _ _ _ _ _ us hl => match us, hl with | [_], _ => rfl), PySem.W.mg_of X G a_bare_in⟩, d_text_in := ⟨f_text_in, _, fun_mk (st := s_text_in) l_text_in q_text_in p_text_in, (fun_mk (st := s_text_in) l_text_in q_text_in p_text_in).binds (fun _ _ _ _ _ _ us hl => match us, hl with | [_], _ => rfl), PySem.W.mg_of X G a_text_in⟩, d_value_in := ⟨f_value_in, _, fun_mk (st := s_value_in) l_value_in q_value_in p_value_in, (fun_mk (st := s_value_in) l_value_in q_value_in p_value_in).binds (fun _ _ _ _ _ _ us hl => match us, hl with | [_], _ => rfl), PySem.W.mg_of X G a_value_in⟩, d_set_in := ⟨f_set_in, _, fun_mk (st := s_set_in) l_set_in q_set_in p_set_in, (fun_mk (st := s_set_in) l_set_in q_set_in p_set_in).binds (fun _ _ _ _ _ _ us hl => match us, hl with | [_], _ => rfl), PySem.W.mg_of X G a_set_in⟩, d_step_in := ⟨f_step_in, _, fun_mk (st := s_step_in) l_step_in q_step_in p_step_in, (fun_mk (st := s_step_in) l_step_in q_step_in p_step_in).binds (fun _ _ _ _ _ _ us hl => match us, hl with | [_], _ => rfl), PySem.W.mg_of X G a_step_in⟩, d_rows_read := ⟨f_rows_read, _, fun_mk (st := s_rows_read) l_rows_read q_rows_read p_rows_read, (fun_mk (st := s_rows_read) l_rows_read q_rows_read p_rows_read).binds (fun _ _ _ _ _ _ us hl => match us, hl with | [_, _], _ => rfl), PySem.W.mg_of X G a_rows_read⟩, d_program_at := ⟨f_program_at, _, fun_mk (st := s_program_at) l_program_at q_program_at p_program_at, (fun_mk (st := s_program_at) l_program_at q_program_at p_program_at).binds (fun _ _ _ _ _ _ us hl => match us, hl with | [_, _, _], _ => rfl), PySem.W.mg_of X G a_program_at⟩, d_setting_in := ⟨f_setting_in, _, fun_mk (st := s_setting_in) l_setting_in q_setting_in p_setting_in, (fun_mk (st := s_setting_in) l_setting_in q_setting_in p_setting_in).binds (fun _ _ _ _ _ _ us hl => match us, hl with | [_], _ => rfl), PySem.W.mg_of X G a_setting_in⟩, d_pick_in := ⟨f_pick_in, _, fun_mk (st := s_pick_in) l_pick_in q_pick_in p_pick_in, (fun_mk (st := s_pick_in) l_pick_in q_pick_in p_pick_in).binds (fun _ _ _ _ _ _ us hl => match us, hl with | [_], _ => rfl), PySem.W.mg_of X G a_pick_in⟩, d_picks_in := ⟨f_picks_in, _, fun_mk (st := s_picks_in) l_picks_in q_picks_in p_picks_in, (fun_mk (st := s_picks_in) l_picks_in q_picks_in p_picks_in).binds (fun _ _ _ _ _ _ us hl => match us, hl with | [_], _ => rfl), PySem.W.mg_of X G a_picks_in⟩, d_settings_in := ⟨f_settings_in, _, fun_mk (st := s_settings_in) l_settings_in q_settings_in p_settings_in, (fun_mk (st := s_settings_in) l_settings_in q_settings_in p_settings_in).binds (fun _ _ _ _ _ _ us hl => match us, hl with | [_], _ => rfl), PySem.W.mg_of X G a_settings_in⟩, d_look_settings := ⟨f_look_settings, _, fun_mk (st := s_look_settings) l_look_settings q_look_settings p_look_settings, (fun_mk (st := s_look_settings) l_look_settings q_look_settings p_look_settings).binds (fun _ _ _ _ _ _ us hl => match us, hl with | [_], _ => rfl), PySem.W.mg_of X G a_look_settings⟩, d_look_names := ⟨f_look_names, _, fun_mk (st := s_look_names) l_look_names q_look_names p_look_names, (fun_mk (st := s_look_names) l_look_names q_look_names p_look_names).binds (fun _ _ _ _ _ _ us hl => match us, hl with | [_, _, _], _ => rfl), PySem.W.mg_of X G a_look_names⟩, d_sheet_from := ⟨f_sheet_from, _, fun_mk (st := s_sheet_from) l_sheet_from q_sheet_from p_sheet_from, (fun_mk (st := s_sheet_from) l_sheet_from q_sheet_from p_sheet_from).binds (fun _ _ _ _ _ _ us hl => match us, hl with | [_], _ => rfl), PySem.W.mg_of X G a_sheet_from⟩, d_law_cell_at := ⟨f_law_cell_at, _, fun_mk (st := s_law_cell_at) l_law_cell_at q_law_cell_at p_law_cell_at, (fun_mk (st := s_law_cell_at) l_law_cell_at q_law_cell_at p_law_cell_at).binds (fun _ _ _ _ _ _ us hl => match us, hl with | [_, _], _ => rfl), PySem.W.mg_of X G a_law_cell_at⟩, d_law_box := ⟨f_law_box, _, fun_mk (st := s_law_box) l_law_box q_law_box p_law_box, (fun_mk (st := s_law_box) l_law_box q_law_box p_law_box).binds (fun _ _ _ _ _ _ us hl => match us, hl with | [_, _], _ => rfl), PySem.W.mg_of X G a_law_box⟩, d_law_take := ⟨f_law_take, _, fun_mk (st := s_law_take) l_law_take q_law_take p_law_take, (fun_mk (st := s_law_take) l_law_take q_law_take p_law_take).binds (fun _ _ _ _ _ _ us hl => match us, hl with | [_, _], _ => rfl), PySem.W.mg_of X G a_law_take⟩, d_law_names := ⟨f_law_names, _, fun_mk (st := s_law_names) l_law_names q_law_names p_law_names, (fun_mk (st := s_law_names) l_law_names q_law_names p_law_names).binds (fun _ _ _ _ _ _ us hl => match us, hl with | [_, _], _ => rfl), PySem.W.mg_of X G a_law_names⟩, d_law_value := ⟨f_law_value, _, fun_mk (st := s_law_value) l_law_value q_law_value p_law_value, (fun_mk (st := s_law_value) l_law_value q_law_value p_law_value).binds (fun _ _ _ _ _ _ us hl => match us, hl with | [_], _ => rfl), PySem.W.mg_of X G a_law_value⟩, d_law_called := ⟨f_law_called, _, fun_mk (st := s_law_called) l_law_called q_law_called p_law_called, (fun_mk (st := s_law_called) l_law_called q_law_called p_law_called).binds (fun _ _ _ _ _ _ us hl => match us, hl with | [_, _], _ => rfl), PySem.W.mg_of X G a_law_called⟩, d_law_worth := ⟨f_law_worth, _, fun_mk (st := s_law_worth) l_law_worth q_law_worth p_law_worth, (fun_mk (st := s_law_worth) l_law_worth q_law_worth p_law_worth).binds (fun _ _ _ _ _ _ us hl => match us, hl with | [_], _ => rfl), PySem.W.mg_of X G a_law_worth⟩, d_law_program := ⟨f_law_program, _, fun_mk (st := s_law_program) l_law_program q_law_program p_law_program, (fun_mk (st := s_law_program) l_law_program q_law_program p_law_program).binds (fun _ _ _ _ _ _ us hl => match us, hl with | [_, _, _, _, _], _ => rfl), PySem.W.mg_of X G a_law_program⟩, d_law_written := ⟨f_law_written, _, fun_mk (st := s_law_written) l_law_written q_law_written p_law_written, (fun_mk (st := s_law_written) l_law_written q_law_written p_law_written).binds (fun _ _ _ _ _ _ us hl => match us, hl with | [_], _ => rfl), PySem.W.mg_of X G a_law_written⟩, d_law_rows := ⟨f_law_rows, _, fun_mk (st := s_law_rows) l_law_rows q_law_rows p_law_rows, (fun_mk (st := s_law_rows) l_law_rows q_law_rows p_law_rows).binds (fun _ _ _ _ _ _ us hl => match us, hl with | [_, _], _ => rfl), PySem.W.mg_of X G a_law_rows⟩, d_law_same := ⟨f_law_same, _, fun_mk (st := s_law_same) l_law_same q_law_same p_law_same, (fun_mk (st := s_law_same) l_law_same q_law_same p_law_same).binds (fun _ _ _ _ _ _ us hl => match us, hl with | [_, _], _ => rfl), PySem.W.mg_of X G a_law_same⟩, d_law_drawn := ⟨f_law_drawn, _, fun_mk (st := s_law_drawn) l_law_drawn q_law_drawn p_law_drawn, (fun_mk (st := s_law_drawn) l_law_drawn q_law_drawn p_law_drawn).binds (fun _ _ _ _ _ _ us hl => match us, hl with | [_, _, _, _, _], _ => rfl), PySem.W.mg_of X G a_law_drawn⟩, d_law_sheet_text := ⟨f_law_sheet_text, _, fun_mk (st := s_law_sheet_text) l_law_sheet_text q_law_sheet_text p_law_sheet_text, (fun_mk (st := s_law_sheet_text) l_law_sheet_text q_law_sheet_text p_law_sheet_text).binds (fun _ _ _ _ _ _ us hl => match us, hl with | [_, _, _], _ => rfl), PySem.W.mg_of X G a_law_sheet_text⟩ }
  exact ⟨_, fun s v => .of_eq rfl, fun base _ _ => ok_law T (fun_mk (st := s_law) l_law q_law p_law)⟩
theorem walk {l : PySem.W.OpenLaw} {q : Program} {loose : List Str} {XP : (Str → Option Value) → Heap → Prop} {YP : World → Heap → Prop} {d : DefRec} {K : Params → PySem.W.Frag} (hn : l.most = some 63) (hdf : d.params.defaults = [])
    (hY : ∀ (w : World) (h : Heap), YP w h → (K w.params).In h)
    (F : ∀ (w : World) (mg : Str → Option Value) (fa : Addr) (h : Heap), (K w.params).In h → h.Ns mainGlobals mg → mg d.name = some (.ref fa) →
      ∃ fd : FuncData, (∀ (s : Shared) (u : Value), BindsTo s fd ⟨[u], []⟩ [("_law_script", u)]) ∧ ∀ base : Heap, (K w.params).In base → base.Ns mainGlobals mg → FnOk l.prog w (K w.params) mg base CX0 23 fa fd ["_law_script"] (sp_law (K w.params))) :
    PySem.W.WalkO q loose XP YP l.row.toRowW d [] (fun f vs => PySem.call f vs) :=
  L2.walk_of (n := 63) (k := 23) (x := "_law_script") (CX := fun _ => CX0) (sp := fun w => sp_law (K w.params)) hn (by decide) hdf ⟨rfl, by decide, by decide⟩ hY F (fun _ _ a ns hl _ hS => ⟨a, ns, rfl, hS, hl, fun _ => rfl⟩) fun _ _ _ _ _ z => z
end RS
open PySem PySem.W PyProof.Rows in
set_option maxRecDepth 100000 in
set_option maxHeartbeats 0 in
theorem PySem.Challenge.cw_roadsettings_k72_sheets_read_holds : PySem.Challenge.rw_roadsettings_k72_sheets_read.Holds := by
  w_on; o_law; k_head; (case hw => w_witness2)
  k_fill
  refine RS.walk (l := PySem.Challenge.rw_roadsettings_k72_sheets_read) rfl rfl (fun w h Y => PySem.W.kIn_of Y) ?F
  case F =>
    intro w mg fa h KX G hmg
    refine' RS.all_mk KX G hmg ?z_len ?z_all ?z_abs ?z_divmod ?z_isinstance ?z_int ?z_str ?z_list ?z_tuple ?z_bool ?z_set ?z_range ?z_enumerate ?z_zip ?z_max ?z_min ?k_ALONE ?l_ALONE ?k_BLOCKS ?l_BLOCKS ?k_FIGURES ?k_INSET ?k_LETTERS ?k_MOST_FIGURES_sheet ?k_MOST_FIGURES_texts ?k_MOST_LETTERS ?k_MOST_SIGNS ?k_QUOTE ?k_SETTING ?k_STROKE ?k_WEAVE ?k_WITH_NAME ?l_WITH_NAME ?a_is_name ?l_is_name ?q_is_name ?p_is_name ?a_is_number ?l_is_number ?q_is_number ?p_is_number ?a_is_value ?l_is_value ?q_is_value ?p_is_value ?a_number_in ?l_number_in ?q_number_in ?p_number_in ?a_bare_in ?l_bare_in ?q_bare_in ?p_bare_in ?a_text_in ?l_text_in ?q_text_in ?p_text_in ?a_value_in ?l_value_in ?q_value_in ?p_value_in ?a_set_in ?l_set_in ?q_set_in ?p_set_in ?a_step_in ?l_step_in ?q_step_in ?p_step_in ?a_rows_read ?l_rows_read ?q_rows_read ?p_rows_read ?a_program_at ?l_program_at ?q_program_at ?p_program_at ?a_setting_in ?l_setting_in ?q_setting_in ?p_setting_in ?a_pick_in ?l_pick_in ?q_pick_in ?p_pick_in ?a_picks_in ?l_picks_in ?q_picks_in ?p_picks_in ?a_settings_in ?l_settings_in ?q_settings_in ?p_settings_in ?a_look_settings ?l_look_settings ?q_look_settings ?p_look_settings ?a_look_names ?l_look_names ?q_look_names ?p_look_names ?a_sheet_from ?l_sheet_from ?q_sheet_from ?p_sheet_from ?a_law_cell_at ?l_law_cell_at ?q_law_cell_at ?p_law_cell_at ?a_law_box ?l_law_box ?q_law_box ?p_law_box ?a_law_take ?l_law_take ?q_law_take ?p_law_take ?a_law_names ?l_law_names ?q_law_names ?p_law_names ?a_law_value ?l_law_value ?q_law_value ?p_law_value ?a_law_called ?l_law_called ?q_law_called ?p_law_called ?a_law_worth ?l_law_worth ?q_law_worth ?p_law_worth ?a_law_program ?l_law_program ?q_law_program ?p_law_program ?a_law_written ?l_law_written ?q_law_written ?p_law_written ?a_law_rows ?l_law_rows ?q_law_rows ?p_law_rows ?a_law_same ?l_law_same ?q_law_same ?p_law_same ?a_law_drawn ?l_law_drawn ?q_law_drawn ?p_law_drawn ?a_law_sheet_text ?l_law_sheet_text ?q_law_sheet_text ?p_law_sheet_text ?a_law ?l_law ?q_law ?p_law
    (case z_len => k_is)
    (case z_all => k_is)
    (case z_abs => k_is)
    (case z_divmod => k_is)
    (case z_isinstance => k_is)
    (case z_int => k_is)
    (case z_str => k_is)
    (case z_list => k_is)
    (case z_tuple => k_is)
    (case z_bool => k_is)
    (case z_set => k_is)
    (case z_range => k_is)
    (case z_enumerate => k_is)
    (case z_zip => k_is)
    (case z_max => k_is)
    (case z_min => k_is)
    (case k_ALONE => k_is)
    (case l_ALONE => k_is)
    (case k_BLOCKS => k_is)
    (case l_BLOCKS => k_is)
    (case k_FIGURES => k_is)
    (case k_INSET => k_is)
    (case k_LETTERS => k_is)
    (case k_MOST_FIGURES_sheet => k_is)
    (case k_MOST_FIGURES_texts => k_is)
    (case k_MOST_LETTERS => k_is)
    (case k_MOST_SIGNS => k_is)
    (case k_QUOTE => k_is)
    (case k_SETTING => k_is)
    (case k_STROKE => k_is)
    (case k_WEAVE => k_is)
    (case k_WITH_NAME => k_is)
    (case l_WITH_NAME => k_is)
    (case a_is_name => k_is)
    (case l_is_name => k_is)
    (case q_is_name => k_is)
    (case p_is_name => k_is)
    (case a_is_number => k_is)
    (case l_is_number => k_is)
    (case q_is_number => k_is)
    (case p_is_number => k_is)
    (case a_is_value => k_is)
    (case l_is_value => k_is)
    (case q_is_value => k_is)
    (case p_is_value => k_is)
    (case a_number_in => k_is)
    (case l_number_in => k_is)
    (case q_number_in => k_is)
    (case p_number_in => k_is)
    (case a_bare_in => k_is)
    (case l_bare_in => k_is)
    (case q_bare_in => k_is)
    (case p_bare_in => k_is)
    (case a_text_in => k_is)
    (case l_text_in => k_is)
    (case q_text_in => k_is)
    (case p_text_in => k_is)
    (case a_value_in => k_is)
    (case l_value_in => k_is)
    (case q_value_in => k_is)
    (case p_value_in => k_is)
    (case a_set_in => k_is)
    (case l_set_in => k_is)
    (case q_set_in => k_is)
    (case p_set_in => k_is)
    (case a_step_in => k_is)
    (case l_step_in => k_is)
    (case q_step_in => k_is)
    (case p_step_in => k_is)
    (case a_rows_read => k_is)
    (case l_rows_read => k_is)
    (case q_rows_read => k_is)
    (case p_rows_read => k_is)
    (case a_program_at => k_is)
    (case l_program_at => k_is)
    (case q_program_at => k_is)
    (case p_program_at => k_is)
    (case a_setting_in => k_is)
    (case l_setting_in => k_is)
    (case q_setting_in => k_is)
    (case p_setting_in => k_is)
    (case a_pick_in => k_is)
    (case l_pick_in => k_is)
    (case q_pick_in => k_is)
    (case p_pick_in => k_is)
    (case a_picks_in => k_is)
    (case l_picks_in => k_is)
    (case q_picks_in => k_is)
    (case p_picks_in => k_is)
    (case a_settings_in => k_is)
    (case l_settings_in => k_is)
    (case q_settings_in => k_is)
    (case p_settings_in => k_is)
    (case a_look_settings => k_is)
    (case l_look_settings => k_is)
    (case q_look_settings => k_is)
    (case p_look_settings => k_is)
    (case a_look_names => k_is)
    (case l_look_names => k_is)
    (case q_look_names => k_is)
    (case p_look_names => k_is)
    (case a_sheet_from => k_is)
    (case l_sheet_from => k_is)
    (case q_sheet_from => k_is)
    (case p_sheet_from => k_is)
    (case a_law_cell_at => k_is)
    (case l_law_cell_at => k_is)
    (case q_law_cell_at => k_is)
    (case p_law_cell_at => k_is)
    (case a_law_box => k_is)
    (case l_law_box => k_is)
    (case q_law_box => k_is)
    (case p_law_box => k_is)
    (case a_law_take => k_is)
    (case l_law_take => k_is)
    (case q_law_take => k_is)
    (case p_law_take => k_is)
    (case a_law_names => k_is)
    (case l_law_names => k_is)
    (case q_law_names => k_is)
    (case p_law_names => k_is)
    (case a_law_value => k_is)
    (case l_law_value => k_is)
    (case q_law_value => k_is)
    (case p_law_value => k_is)
    (case a_law_called => k_is)
    (case l_law_called => k_is)
    (case q_law_called => k_is)
    (case p_law_called => k_is)
    (case a_law_worth => k_is)
    (case l_law_worth => k_is)
    (case q_law_worth => k_is)
    (case p_law_worth => k_is)
    (case a_law_program => k_is)
    (case l_law_program => k_is)
    (case q_law_program => k_is)
    (case p_law_program => k_is)
    (case a_law_written => k_is)
    (case l_law_written => k_is)
    (case q_law_written => k_is)
    (case p_law_written => k_is)
    (case a_law_rows => k_is)
    (case l_law_rows => k_is)
    (case q_law_rows => k_is)
    (case p_law_rows => k_is)
    (case a_law_same => k_is)
    (case l_law_same => k_is)
    (case q_law_same => k_is)
    (case p_law_same => k_is)
    (case a_law_drawn => k_is)
    (case l_law_drawn => k_is)
    (case q_law_drawn => k_is)
    (case p_law_drawn => k_is)
    (case a_law_sheet_text => k_is)
    (case l_law_sheet_text => k_is)
    (case q_law_sheet_text => k_is)
    (case p_law_sheet_text => k_is)
    (case a_law => k_is)
    (case l_law => k_is)
    (case q_law => k_is)
    (case p_law => k_is)
