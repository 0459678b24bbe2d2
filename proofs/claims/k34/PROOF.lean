import PyProof.Rows.All
import Wide.All
import OpenK.AllK
import Wide.FinOn
import HandS.ForMost
import HandS.Exc
import HandS.TryOnly
import HandS.ExcOwn
import HandS.WordsExc
import HandS.ExcIs
import HandS.IsInst
import HandS.Wide
import HandS.EndBits
import HandS.Codes
import HandS.StrMore
import HandS.TupAny
import HandS.Rev
import HandS.Text
import HandS.WideBits
import HandS.Dict
import HandS.Small
import HandS.Style
import HandS.RevTup
import HandS.Conv
import HandS.More
import PyProof.ListStr
import HandS.Defaults
import PyProof.DictUpdate
import PyProof.Rows.SumAny
import PyProof.Draws
import PyProof.EnumMake
import HandS.CallSlots
import PyProof.Rows.StrPadFill
import PyProof.Rows.StrPadWhole
import PyProof.Laws
import HandS.SortInts
import HandS.ExcCtx
import HandS.SuiteRaise
import HandS.Zip
import KE.GoesMore
import KE.GoesEnum
import PySem.Challenge.RW_boughpress_k34_worth_by_a_tree
set_option Elab.async false
set_option linter.all false
set_option maxRecDepth 100000
set_option maxHeartbeats 4000000
namespace B
open PySem PySem.Spec PyProof.Rows L2

/-! ### data without the heap -/
inductive Dat where
  | non
  | bl (b : Bool)
  | int (i : Int)
  | str (s : Str)
  | tup (ds : List Dat)
  | lst (ds : List Dat)
  | dic (kvs : List (Key × Dat))

mutual
/-- nothing in it may be changed -/
def flat : Dat → Bool
  | .non => true
  | .bl _ => true
  | .int _ => true
  | .str _ => true
  | .tup ds => flats ds
  | .lst _ => false
  | .dic _ => false
def flats : List Dat → Bool
  | [] => true
  | d :: r => flat d && flats r
end

mutual
inductive At (K : PySem.W.Frag) (H : Hp) : V → Dat → Prop where
  | non : At K H .non .non
  | bl (b : Bool) : At K H (.bl b) (.bl b)
  | int (i : Int) : At K H (.int i) (.int i)
  | str (s : Str) : At K H (.str s) (.str s)
  | tup {p : Addr} {vs : List V} {ds : List Dat} : SqT K H p vs → Ats K H vs ds → At K H (.ref p) (.tup ds)
  | lst {p : Addr} {vs : List V} {ds : List Dat} : SqL K H p vs → Ats K H vs ds → At K H (.ref p) (.lst ds)
  | dic {p : Addr} {vs : List (Key × V)} {ds : List (Key × Dat)} : Rd H p (.dK vs) → Atk K H vs ds → At K H (.ref p) (.dic ds)
inductive Ats (K : PySem.W.Frag) (H : Hp) : List V → List Dat → Prop where
  | nil : Ats K H [] []
  | cons {v : V} {d : Dat} {vs : List V} {ds : List Dat} : At K H v d → Ats K H vs ds → Ats K H (v :: vs) (d :: ds)
inductive Atk (K : PySem.W.Frag) (H : Hp) : List (Key × V) → List (Key × Dat) → Prop where
  | nil : Atk K H [] []
  | cons {k : Key} {v : V} {d : Dat} {vs : List (Key × V)} {ds : List (Key × Dat)} : At K H v d → Atk K H vs ds → Atk K H ((k, v) :: vs) ((k, d) :: ds)
end

theorem sql_same {K : PySem.W.Frag} {H H' : Hp} {a : Addr} {xs : List V} (e : Same H H') (h : SqL K H a xs) : SqL K H' a xs := e.seq h
theorem sqt_same {K : PySem.W.Frag} {H H' : Hp} {a : Addr} {xs : List V} (e : Same H H') (h : SqT K H a xs) : SqT K H' a xs := by
  rcases h with (h | ⟨o, h⟩) | h
  · exact .inl (.inl (e _ _ h))
  · exact .inl (.inr ⟨o, e _ _ h⟩)
  · exact .inr h

theorem rd_same {H H' : Hp} {a : Addr} {u : HO} (e : Same H H') (h : Rd H a u) : Rd H' a u := by
  rcases h with h | ⟨o, h⟩
  · exact .inl (e _ _ h)
  · exact .inr ⟨o, e _ _ h⟩
mutual
theorem At.mono {K : PySem.W.Frag} {H H' : Hp} (e : Same H H') : ∀ {v : V} {d : Dat}, At K H v d → At K H' v d
  | _, _, .non => .non
  | _, _, .bl b => .bl b
  | _, _, .int i => .int i
  | _, _, .str s => .str s
  | _, _, .tup h t => .tup (sqt_same e h) (Ats.mono e t)
  | _, _, .lst h t => .lst (sql_same e h) (Ats.mono e t)
  | _, _, .dic h t => .dic (rd_same e h) (Atk.mono e t)
theorem Ats.mono {K : PySem.W.Frag} {H H' : Hp} (e : Same H H') : ∀ {vs : List V} {ds : List Dat}, Ats K H vs ds → Ats K H' vs ds
  | _, _, .nil => .nil
  | _, _, .cons a t => .cons (At.mono e a) (Ats.mono e t)
theorem Atk.mono {K : PySem.W.Frag} {H H' : Hp} (e : Same H H') : ∀ {vs : List (Key × V)} {ds : List (Key × Dat)}, Atk K H vs ds → Atk K H' vs ds
  | _, _, .nil => .nil
  | _, _, .cons a t => .cons (At.mono e a) (Atk.mono e t)
end

open Classical in
/-- what of a heap no one can change -/
noncomputable def Imm (H : Hp) : Hp := fun a => if Mut (H a) then none else H a
theorem imm_sub (H : Hp) : Same (Imm H) H := fun a o h => by
  unfold Imm at h
  split at h
  · cases h
  · exact h
theorem imm_of {H : Hp} {a : Addr} {o : HO} (h : H a = some o) (n : ¬ Mut (some o)) : Imm H a = some o := by
  unfold Imm
  rw [if_neg (by rw [h]; exact n)]
  exact h
theorem imm_not {H : Hp} {a : Addr} {o : HO} (h : Imm H a = some o) : ¬ Mut (some o) := by
  intro m
  have e := imm_sub H a o h
  unfold Imm at h
  rw [if_pos (by rw [e]; exact m)] at h
  cases h
theorem imm_same {H H' : Hp} (e : Same H H') : Same (Imm H) (Imm H') := fun a o h => imm_of (e a o (imm_sub H a o h)) (imm_not h)
theorem sqt_imm {K : PySem.W.Frag} {H : Hp} {a : Addr} {xs : List V} (h : SqT K H a xs) : SqT K (Imm H) a xs := by
  rcases h with (h | ⟨o, h⟩) | h
  · exact .inl (.inl (imm_of h fun z => z))
  · exact .inl (.inr ⟨o, imm_of h fun z => z⟩)
  · exact .inr h
mutual
theorem At.imm {K : PySem.W.Frag} {H : Hp} : ∀ {v : V} {d : Dat}, At K H v d → flat d = true → At K (Imm H) v d
  | _, _, .non, _ => .non
  | _, _, .bl b, _ => .bl b
  | _, _, .int i, _ => .int i
  | _, _, .str s, _ => .str s
  | _, _, .tup h t, f => .tup (sqt_imm h) (Ats.imm t (by simpa only [flat] using f))
  | _, _, .lst _ _, f => by simp [flat] at f
  | _, _, .dic _ _, f => by simp [flat] at f
theorem Ats.imm {K : PySem.W.Frag} {H : Hp} : ∀ {vs : List V} {ds : List Dat}, Ats K H vs ds → flats ds = true → Ats K (Imm H) vs ds
  | _, _, .nil, _ => .nil
  | _, _, .cons a t, f => by
    simp only [flats, Bool.and_eq_true] at f
    exact .cons (At.imm a f.1) (Ats.imm t f.2)
end
theorem Ats.length {K : PySem.W.Frag} {H : Hp} : ∀ {vs : List V} {ds : List Dat}, Ats K H vs ds → vs.length = ds.length
  | _, _, .nil => rfl
  | _, _, .cons _ t => by rw [List.length_cons, List.length_cons, Ats.length t]
theorem Ats.get {K : PySem.W.Frag} {H : Hp} : ∀ {vs : List V} {ds : List Dat} {i : Nat} {d : Dat}, Ats K H vs ds → ds[i]? = some d → ∃ v, vs[i]? = some v ∧ At K H v d
  | _, _, i, _, .nil, e => by simp at e
  | _, _, 0, _, .cons a _, e => by
    simp at e
    subst e
    exact ⟨_, rfl, a⟩
  | _, _, i + 1, d, .cons _ t, e => by
    obtain ⟨v, h1, h2⟩ := Ats.get (i := i) (d := d) t (by simpa using e)
    exact ⟨v, by simpa using h1, h2⟩
theorem Ats.getV {K : PySem.W.Frag} {H : Hp} : ∀ {vs : List V} {ds : List Dat} {i : Nat} {v : V}, Ats K H vs ds → vs[i]? = some v → ∃ d, ds[i]? = some d ∧ At K H v d
  | _, _, i, _, .nil, e => by simp at e
  | _, _, 0, _, .cons a _, e => by
    simp at e
    subst e
    exact ⟨_, rfl, a⟩
  | _, _, i + 1, d, .cons _ t, e => by
    obtain ⟨v, h1, h2⟩ := Ats.getV (i := i) (v := d) t (by simpa using e)
    exact ⟨v, by simpa using h1, h2⟩
theorem Ats.append {K : PySem.W.Frag} {H : Hp} : ∀ {vs us : List V} {ds es : List Dat}, Ats K H vs ds → Ats K H us es → Ats K H (vs ++ us) (ds ++ es)
  | _, _, _, _, .nil, s => s
  | _, _, _, _, .cons a t, s => .cons a (Ats.append t s)
theorem Ats.set {K : PySem.W.Frag} {H : Hp} {v : V} {d : Dat} (a : At K H v d) : ∀ {vs : List V} {ds : List Dat} (i : Nat), Ats K H vs ds → Ats K H (vs.set i v) (ds.set i d)
  | _, _, _, .nil => .nil
  | _, _, 0, .cons _ t => .cons a t
  | _, _, i + 1, .cons b t => .cons b (Ats.set a i t)
theorem Ats.take {K : PySem.W.Frag} {H : Hp} : ∀ {vs : List V} {ds : List Dat} (n : Nat), Ats K H vs ds → Ats K H (vs.take n) (ds.take n)
  | _, _, 0, _ => .nil
  | _, _, _ + 1, .nil => .nil
  | _, _, n + 1, .cons a t => .cons a (Ats.take n t)
theorem Ats.drop {K : PySem.W.Frag} {H : Hp} : ∀ {vs : List V} {ds : List Dat} (n : Nat), Ats K H vs ds → Ats K H (vs.drop n) (ds.drop n)
  | _, _, 0, r => r
  | _, _, _ + 1, .nil => .nil
  | _, _, n + 1, .cons _ t => Ats.drop n t
theorem Ats.ints {K : PySem.W.Frag} {H : Hp} : ∀ {vs : List V} {ns : List Int}, Ats K H vs (ns.map .int) → vs = ns.map .int
  | [], [], _ => rfl
  | _ :: _, n :: ns, .cons a t => by
    cases a
    rw [Ats.ints t]
    rfl
  | [], _ :: _, h => by cases h
  | _ :: _, [], h => by cases h
theorem Ats.ofInts {K : PySem.W.Frag} {H : Hp} : ∀ (ns : List Int), Ats K H (ns.map .int) (ns.map .int)
  | [] => .nil
  | n :: ns => .cons (.int n) (Ats.ofInts ns)

/-! ### what a def's names hold -/
inductive Ent where
  /-- no value, or one that is not asked for -/
  | no
  /-- data that nobody changes -/
  | im (d : Dat)
  /-- handed in: stands as it was at the entry -/
  | ol (d : Dat)
  /-- a list or dict of the def's own, that it may change -/
  | ow (d : Dat)
  /-- the thing at that address -/
  | rf (a : Addr)
abbrev Env' := List Ent

def Own (K : PySem.W.Frag) (H N : Hp) (p : Addr) : Dat → Prop
  | .lst ds => ∃ vs, H p = some (.lst vs) ∧ Ats K N vs ds
  | .dic ds => ∃ vs, H p = some (.dK vs) ∧ Atk K N vs ds
  | _ => False

structure Rep (K : PySem.W.Frag) (H0 : Hp) (ρ : Env') (σ : L2.St) (H N : Hp) : Prop where
  old : Same H0 H
  sub : Same N H
  imm : Same (Imm H0) N
  fresh : ∀ a o, N a = some o → Mut (some o) → H0 a = none
  len : ρ.length = σ.length
  im : ∀ (i : Nat) d, ρ[i]? = some (Ent.im d) → ∃ v, σ[i]? = some (some v) ∧ At K N v d
  ol : ∀ (i : Nat) d, ρ[i]? = some (Ent.ol d) → ∃ v, σ[i]? = some (some v) ∧ At K H0 v d
  ow : ∀ (i : Nat) d, ρ[i]? = some (Ent.ow d) → ∃ p, σ[i]? = some (some (V.ref p)) ∧ H0 p = none ∧ N p = none ∧ Own K H N p d
  rf : ∀ (i : Nat) a, ρ[i]? = some (Ent.rf a) → σ[i]? = some (some (V.ref a))
  apart : ∀ (i j : Nat) d d' p, i ≠ j → ρ[i]? = some (Ent.ow d) → ρ[j]? = some (Ent.ow d') → σ[i]? = some (some (V.ref p)) → σ[j]? ≠ some (some (V.ref p))

/-- what is handed out: nothing of it was there ahead and may be changed -/
def Ret (K : PySem.W.Frag) (H0 : Hp) (v : V) (d : Dat) (H : Hp) : Prop := ∃ N, Same N H ∧ (∀ a o, N a = some o → Mut (some o) → H0 a = none) ∧ At K N v d

/-! ### the machine's own wishes, as readings -/
section
variable (X : Cx)
@[irreducible] def WE (e : Expr) : TE := fun σ H Q => ∀ (pins : List (Addr × Obj)) (s : Shared), Inv X pins σ H s → wpAny (model X.prog X.w) X.A (eval e X.env) (EP X pins σ Q) X.xe s
@[irreducible] def WT (e : Expr) : TT := fun σ H Q => ∀ (pins : List (Addr × Obj)) (s : Shared), Inv X pins σ H s → wpAny (model X.prog X.w) X.A (isTrue e X.env (eval e X.env)) (TP X pins σ Q) X.xe s
@[irreducible] def WW (e : Expr) : TT := fun σ H Q => ∀ (whole : Sem Value) (pins : List (Addr × Obj)) (s : Shared), Inv X pins σ H s → wpAny (model X.prog X.w) X.A (isTrue e X.env whole) (TP X pins σ Q) X.xe s
@[irreducible] def WA (es : List Expr) : TA := fun σ H Q => ∀ (pos : Pos) (pins : List (Addr × Obj)) (s : Shared), Inv X pins σ H s → wpAny (model X.prog X.w) X.A (spliced (backTo pos (starEach es X.env))) (AP X pins σ Q) X.xe s
@[irreducible] def WS (st : Stmt) : TS := fun D σ H => ∀ (pins : List (Addr × Obj)) (s : Shared), Inv X pins σ H s → wpAny (model X.prog X.w) X.A (exec st X.env) (SP X pins D) X.xe s
@[irreducible] def WB (sts : List Stmt) : TS := fun D σ H => ∀ (pins : List (Addr × Obj)) (s : Shared), Inv X pins σ H s → wpAny (model X.prog X.w) X.A (execs sts X.env) (SP X pins D) X.xe s
end
section
variable {X : Cx} {e : Expr} {es : List Expr} {st : Stmt} {sts : List Stmt}
theorem pe_w : PE X e (WE X e) := ⟨fun pins s _ _ _ I h => by unfold WE at h; exact h pins s I⟩
theorem pt_w : PT X e (WT X e) := ⟨fun pins s _ _ _ I h => by unfold WT at h; exact h pins s I⟩
theorem pw_w : PW X e (WW X e) := ⟨fun wh pins s _ _ _ I h => by unfold WW at h; exact h wh pins s I⟩
theorem pa_w : PA X es (WA X es) := ⟨fun pos pins s _ _ _ I h => by unfold WA at h; exact h pos pins s I⟩
theorem ps_w : PS X st (WS X st) := ⟨fun pins s _ _ _ I h => by unfold WS at h; exact h pins s I⟩
theorem pb_w : PSs X sts (WB X sts) := ⟨fun pins s _ _ _ I h => by unfold WB at h; exact h pins s I⟩
theorem WE.go {σ : L2.St} {H : Hp} {Q : VK} (h : WE X e σ H Q) : ∀ (pins : List (Addr × Obj)) (s : Shared), Inv X pins σ H s → wpAny (model X.prog X.w) X.A (eval e X.env) (EP X pins σ Q) X.xe s := by unfold WE at h; exact h
theorem WT.go {σ : L2.St} {H : Hp} {Q : Bool → Hp → Prop} (h : WT X e σ H Q) : ∀ (pins : List (Addr × Obj)) (s : Shared), Inv X pins σ H s → wpAny (model X.prog X.w) X.A (isTrue e X.env (eval e X.env)) (TP X pins σ Q) X.xe s := by unfold WT at h; exact h
theorem WS.go {D : Ends} {σ : L2.St} {H : Hp} (h : WS X st D σ H) : ∀ (pins : List (Addr × Obj)) (s : Shared), Inv X pins σ H s → wpAny (model X.prog X.w) X.A (exec st X.env) (SP X pins D) X.xe s := by unfold WS at h; exact h
theorem WB.go {D : Ends} {σ : L2.St} {H : Hp} (h : WB X sts D σ H) : ∀ (pins : List (Addr × Obj)) (s : Shared), Inv X pins σ H s → wpAny (model X.prog X.w) X.A (execs sts X.env) (SP X pins D) X.xe s := by unfold WB at h; exact h
theorem we_of {t : TE} {σ : L2.St} {H : Hp} {Q : VK} (p : PE X e t) (h : t σ H Q) : WE X e σ H Q := by unfold WE; exact fun pins s I => p.run pins s σ H Q I h
theorem wt_of {t : TT} {σ : L2.St} {H : Hp} {Q : Bool → Hp → Prop} (p : PT X e t) (h : t σ H Q) : WT X e σ H Q := by unfold WT; exact fun pins s I => p.run pins s σ H Q I h
theorem ww_of {t : TT} {σ : L2.St} {H : Hp} {Q : Bool → Hp → Prop} (p : PW X e t) (h : t σ H Q) : WW X e σ H Q := by unfold WW; exact fun wh pins s I => p.run wh pins s σ H Q I h
theorem wa_of {t : TA} {σ : L2.St} {H : Hp} {Q : List V → Hp → Prop} (p : PA X es t) (h : t σ H Q) : WA X es σ H Q := by unfold WA; exact fun pos pins s I => p.run pos pins s σ H Q I h
theorem ws_of {t : TS} {D : Ends} {σ : L2.St} {H : Hp} (p : PS X st t) (h : t D σ H) : WS X st D σ H := by unfold WS; exact fun pins s I => p.run pins s σ H D I h
theorem wb_of {t : TS} {D : Ends} {σ : L2.St} {H : Hp} (p : PSs X sts t) (h : t D σ H) : WB X sts D σ H := by unfold WB; exact fun pins s I => p.run pins s σ H D I h
theorem WE.imp {σ : L2.St} {H : Hp} {Q Q' : VK} (h : WE X e σ H Q) (k : ∀ v H', Q v H' → Q' v H') : WE X e σ H Q' := by unfold WE at h ⊢; exact fun pins s I => thn (h pins s I) fun _ _ ⟨v, H', I', r, q⟩ => ⟨v, H', I', r, k v H' q⟩
theorem WT.imp {σ : L2.St} {H : Hp} {Q Q' : Bool → Hp → Prop} (h : WT X e σ H Q) (k : ∀ v H', Q v H' → Q' v H') : WT X e σ H Q' := by unfold WT at h ⊢; exact fun pins s I => thn (h pins s I) fun _ _ ⟨H', I', q⟩ => ⟨H', I', k _ H' q⟩
theorem WW.imp {σ : L2.St} {H : Hp} {Q Q' : Bool → Hp → Prop} (h : WW X e σ H Q) (k : ∀ v H', Q v H' → Q' v H') : WW X e σ H Q' := by unfold WW at h ⊢; exact fun wh pins s I => thn (h wh pins s I) fun _ _ ⟨H', I', q⟩ => ⟨H', I', k _ H' q⟩
theorem WW.wt {σ : L2.St} {H : Hp} {Q : Bool → Hp → Prop} (h : WW X e σ H Q) : WT X e σ H Q := by unfold WW at h; unfold WT; exact fun pins s I => h _ pins s I
theorem WA.imp {σ : L2.St} {H : Hp} {Q Q' : List V → Hp → Prop} (h : WA X es σ H Q) (k : ∀ v H', Q v H' → Q' v H') : WA X es σ H Q' := by unfold WA at h ⊢; exact fun pos pins s I => thn (h pos pins s I) fun _ _ ⟨v, H', I', r, q⟩ => ⟨v, H', I', r, k v H' q⟩
theorem sp_imp {pins : List (Addr × Obj)} {D D' : Ends} {f : Flow} {s : Shared} (h : SP X pins D f s) (h1 : ∀ σ H, D.nx σ H → D'.nx σ H) (h2 : ∀ v H, D.rt v H → D'.rt v H) (h3 : ∀ σ H, D.bk σ H → D'.bk σ H) (h4 : ∀ σ H, D.ct σ H → D'.ct σ H) : SP X pins D' f s := by
  cases f with
  | next => obtain ⟨σ', H', I, q⟩ := h; exact ⟨σ', H', I, h1 _ _ q⟩
  | brk => obtain ⟨σ', H', I, q⟩ := h; exact ⟨σ', H', I, h3 _ _ q⟩
  | cont => obtain ⟨σ', H', I, q⟩ := h; exact ⟨σ', H', I, h4 _ _ q⟩
  | ret u => obtain ⟨v, σ', H', I, r, q⟩ := h; exact ⟨v, σ', H', I, r, h2 _ _ q⟩
end

/-! ### what an expression is worth -/
section
variable (X : Cx) (H0 : Hp) (ρ : Env')
/-- data that nobody changes -/
def Ev (e : Expr) (d : Dat) : Prop := ∀ σ H N, Rep X.K H0 ρ σ H N → WE X e σ H fun v H' => ∃ N', Same H H' ∧ Same N N' ∧ Rep X.K H0 ρ σ H' N' ∧ At X.K N' v d
/-- data to be read -/
def EvB (e : Expr) (d : Dat) : Prop := ∀ σ H N, Rep X.K H0 ρ σ H N → WE X e σ H fun v H' => ∃ N', Same H H' ∧ Same N N' ∧ Rep X.K H0 ρ σ H' N' ∧ At X.K H' v d
def EvT (e : Expr) (b : Bool) : Prop := ∀ σ H N, Rep X.K H0 ρ σ H N → WT X e σ H fun c H' => c = b ∧ ∃ N', Same H H' ∧ Same N N' ∧ Rep X.K H0 ρ σ H' N'
def EvW (e : Expr) (b : Bool) : Prop := ∀ σ H N, Rep X.K H0 ρ σ H N → WW X e σ H fun c H' => c = b ∧ ∃ N', Same H H' ∧ Same N N' ∧ Rep X.K H0 ρ σ H' N'
def EvA (es : List Expr) (ds : List Dat) : Prop := ∀ σ H N, Rep X.K H0 ρ σ H N → WA X es σ H fun vs H' => ∃ N', Same H H' ∧ Same N N' ∧ Rep X.K H0 ρ σ H' N' ∧ Ats X.K N' vs ds
def EvAB (es : List Expr) (ds : List Dat) : Prop := ∀ σ H N, Rep X.K H0 ρ σ H N → WA X es σ H fun vs H' => ∃ N', Same H H' ∧ Same N N' ∧ Rep X.K H0 ρ σ H' N' ∧ Ats X.K H' vs ds
/-- it raises the class of that name -/
def EvX (e : Expr) (n : Str) : Prop := ∀ σ H N, Rep X.K H0 ρ σ H N → ∀ W : WX, Takes X W → (∀ C H' N', X.mg n = some (.ref C) → Same N N' → Rep X.K H0 ρ σ H' N' → W (.ref C) none σ H') → ∀ Q, WE X e σ H Q
end
theorem Same.of_none {H : Hp} {p : Addr} {o : HO} (h : H p = none) : Same H (upd H p o) := fun b u e => by
  rw [upd_ne (ne_of_none e h)]
  exact e
/-- the heap grows by a thing that nobody asks for -/
theorem Rep.grow {K : PySem.W.Frag} {H0 H N H' : Hp} {ρ : Env'} {σ : L2.St} (r : Rep K H0 ρ σ H N) (e : Same H H') : Rep K H0 ρ σ H' N where
  old := r.old.trans e
  sub := r.sub.trans e
  imm := r.imm
  fresh := r.fresh
  len := r.len
  im := r.im
  ol := r.ol
  ow := fun i d h => by
    obtain ⟨p, h1, h2, h3, h4⟩ := r.ow i d h
    refine ⟨p, h1, h2, h3, ?_⟩
    cases d with
    | lst ds =>
      obtain ⟨vs, q1, q2⟩ := h4
      exact ⟨vs, e _ _ q1, q2⟩
    | dic ds =>
      obtain ⟨vs, q1, q2⟩ := h4
      exact ⟨vs, e _ _ q1, q2⟩
    | _ => exact h4
  rf := r.rf
  apart := r.apart
/-- more of the heap is data that nobody changes -/
theorem Rep.more {K : PySem.W.Frag} {H0 H N N' : Hp} {ρ : Env'} {σ : L2.St} (r : Rep K H0 ρ σ H N) (e : Same N N') (sub : Same N' H) (fresh : ∀ a o, N' a = some o → Mut (some o) → H0 a = none)
    (own : ∀ (i : Nat) d p, ρ[i]? = some (Ent.ow d) → σ[i]? = some (some (V.ref p)) → N p = none → N' p = none) : Rep K H0 ρ σ H N' where
  old := r.old
  sub := sub
  imm := r.imm.trans e
  fresh := fresh
  len := r.len
  im := fun i d h => by
    obtain ⟨v, h1, h2⟩ := r.im i d h
    exact ⟨v, h1, h2.mono e⟩
  ol := r.ol
  ow := fun i d h => by
    obtain ⟨p, h1, h2, h3, h4⟩ := r.ow i d h
    refine ⟨p, h1, h2, own i d p h h1 h3, ?_⟩
    cases d with
    | lst ds =>
      obtain ⟨vs, q1, q2⟩ := h4
      exact ⟨vs, q1, q2.mono e⟩
    | dic ds =>
      obtain ⟨vs, q1, q2⟩ := h4
      exact ⟨vs, q1, q2.mono e⟩
    | _ => exact h4
  rf := r.rf
  apart := r.apart
/-- an owned thing stands in the heap -/
theorem Rep.own_some {K : PySem.W.Frag} {H0 H N : Hp} {ρ : Env'} {σ : L2.St} (r : Rep K H0 ρ σ H N) {i : Nat} {d : Dat} (h : ρ[i]? = some (Ent.ow d)) : ∃ p o, σ[i]? = some (some (V.ref p)) ∧ H p = some o ∧ Mut (some o) := by
  obtain ⟨p, h1, _, _, h4⟩ := r.ow i d h
  cases d with
  | lst ds =>
    obtain ⟨vs, q1, _⟩ := h4
    exact ⟨p, _, h1, q1, True.intro⟩
  | dic ds =>
    obtain ⟨vs, q1, _⟩ := h4
    exact ⟨p, _, h1, q1, True.intro⟩
  | _ => exact h4.elim
/-- something new comes, that nobody changes -/
theorem Rep.new {K : PySem.W.Frag} {H0 H N : Hp} {ρ : Env'} {σ : L2.St} (r : Rep K H0 ρ σ H N) {p : Addr} {o : HO} (hp : H p = none) : Rep K H0 ρ σ (upd H p o) (upd N p o) ∧ Same N (upd N p o) := by
  have np : N p = none := r.sub.free hp
  have e : Same N (upd N p o) := Same.of_none np
  refine ⟨(r.grow (Same.of_none hp)).more e (fun b u h => ?_) (fun b u h m => ?_) (fun i d q h1 h2 h3 => ?_), e⟩
  · by_cases hb : b = p
    · subst hb; rw [upd_same] at h ⊢; exact h
    · rw [upd_ne hb] at h ⊢; exact r.sub b u h
  · by_cases hb : b = p
    · subst hb; exact r.old.free hp
    · rw [upd_ne hb] at h; exact r.fresh b u h m
  · obtain ⟨p', o', e1, e2, _⟩ := r.own_some h1
    rw [h2] at e1
    cases e1
    rw [upd_ne (ne_of_none e2 hp)]
    exact h3
open Classical in
/-- two heaps of data, one beside the other -/
noncomputable def both (N M : Hp) : Hp := fun a => if N a = none then M a else N a
theorem both_l (N M : Hp) : Same N (both N M) := fun a o h => by
  unfold both
  rw [if_neg (by rw [h]; exact fun z => nomatch z)]
  exact h
theorem both_sub {N M H : Hp} (a : Same N H) (b : Same M H) : Same (both N M) H := fun x o h => by
  unfold both at h
  split at h
  · exact b x o h
  · exact a x o h
theorem both_r {N M H : Hp} (a : Same N H) (b : Same M H) : Same M (both N M) := fun x o h => by
  unfold both
  split
  · exact h
  · rename_i q
    cases e : N x with
    | none => exact (q e).elim
    | some u => rw [← a x u e, b x o h]
/-- what a call hands out is data that nobody changes -/
theorem Rep.ret {K : PySem.W.Frag} {H0 H N H' : Hp} {ρ : Env'} {σ : L2.St} {v : V} {d : Dat} (r : Rep K H0 ρ σ H N) (e : Same H H') (h : Ret K H v d H') : ∃ N', Same N N' ∧ Rep K H0 ρ σ H' N' ∧ At K N' v d := by
  obtain ⟨M, m1, m2, m3⟩ := h
  have r' := r.grow e
  refine ⟨both N M, both_l N M, r'.more (both_l N M) (both_sub r'.sub m1) (fun a o h m => ?_) (fun i d q h1 h2 h3 => ?_), m3.mono (both_r r'.sub m1)⟩
  · unfold both at h
    split at h
    · exact r.old.free (m2 a o h m)
    · exact r.fresh a o h m
  · unfold both
    rw [if_pos h3]
    obtain ⟨p', o', e1, e2, m⟩ := r.own_some h1
    rw [h2] at e1
    cases e1
    cases z : M q with
    | none => rfl
    | some u =>
      have e3 := m1 q u z
      rw [e _ _ e2] at e3
      cases e3
      have := m2 q _ z m
      rw [e2] at this
      cases this

/-! ### a name is given a value -/
theorem get_set {α : Type} {l : List α} {i j : Nat} {x y : α} (h : (l.set i x)[j]? = some y) : (j = i ∧ y = x) ∨ (j ≠ i ∧ l[j]? = some y) := by
  by_cases e : i = j
  · subst e
    by_cases hi : i < l.length
    · rw [List.getElem?_set_self hi] at h
      exact .inl ⟨rfl, (Option.some.inj h).symm⟩
    · rw [List.getElem?_eq_none (by rw [List.length_set]; omega)] at h
      cases h
  · rw [List.getElem?_set_ne e] at h
    exact .inr ⟨fun z => e z.symm, h⟩
theorem lt_of_get {α : Type} {l : List α} {i : Nat} {y : α} (h : l[i]? = some y) : i < l.length := (List.getElem?_eq_some_iff.mp h).1
/-- what holds of the value that entry i is to have -/
def EntOk (K : PySem.W.Frag) (H0 H N : Hp) (σ : L2.St) (ρ : Env') (i : Nat) (v : V) : Ent → Prop
  | .no => True
  | .im d => At K N v d
  | .ol d => At K H0 v d
  | .ow d => ∃ p, v = .ref p ∧ H0 p = none ∧ N p = none ∧ Own K H N p d ∧ ∀ j d', j ≠ i → ρ[j]? = some (.ow d') → σ[j]? ≠ some (some (V.ref p))
  | .rf a => v = .ref a
theorem Rep.setE {K : PySem.W.Frag} {H0 H N : Hp} {ρ : Env'} {σ : L2.St} (r : Rep K H0 ρ σ H N) {i : Nat} {v : V} {e : Ent} (h : EntOk K H0 H N σ ρ i v e) : Rep K H0 (ρ.set i e) (σ.set i (some v)) H N where
  old := r.old
  sub := r.sub
  imm := r.imm
  fresh := r.fresh
  len := by rw [List.length_set, List.length_set, r.len]
  im := fun j d q => by
    have hj := lt_of_get q
    rcases get_set q with ⟨rfl, q'⟩ | ⟨n, q'⟩
    · subst q'
      rw [List.length_set, r.len] at hj
      exact ⟨v, List.getElem?_set_self hj, h⟩
    · obtain ⟨u, h1, h2⟩ := r.im j d q'
      exact ⟨u, by rw [List.getElem?_set_ne (Ne.symm n)]; exact h1, h2⟩
  ol := fun j d q => by
    have hj := lt_of_get q
    rcases get_set q with ⟨rfl, q'⟩ | ⟨n, q'⟩
    · subst q'
      rw [List.length_set, r.len] at hj
      exact ⟨v, List.getElem?_set_self hj, h⟩
    · obtain ⟨u, h1, h2⟩ := r.ol j d q'
      exact ⟨u, by rw [List.getElem?_set_ne (Ne.symm n)]; exact h1, h2⟩
  ow := fun j d q => by
    have hj := lt_of_get q
    rcases get_set q with ⟨rfl, q'⟩ | ⟨n, q'⟩
    · subst q'
      rw [List.length_set, r.len] at hj
      obtain ⟨p, rfl, h1, h2, h3, _⟩ := h
      exact ⟨p, List.getElem?_set_self hj, h1, h2, h3⟩
    · obtain ⟨u, h1, h2⟩ := r.ow j d q'
      exact ⟨u, by rw [List.getElem?_set_ne (Ne.symm n)]; exact h1, h2⟩
  rf := fun j a q => by
    have hj := lt_of_get q
    rcases get_set q with ⟨rfl, q'⟩ | ⟨n, q'⟩
    · subst q'
      rw [List.length_set, r.len] at hj
      have e : v = .ref a := h
      rw [List.getElem?_set_self hj, e]
    · rw [List.getElem?_set_ne (Ne.symm n)]
      exact r.rf j a q'
  apart := fun j k d d' p ne q1 q2 z1 z2 => by
    rcases get_set q1 with ⟨rfl, e1⟩ | ⟨n1, q1'⟩
    · subst e1
      rcases get_set q2 with ⟨rfl, e2⟩ | ⟨n2, q2'⟩
      · exact ne rfl
      · obtain ⟨p', rfl, _, _, _, h4⟩ := h
        rcases get_set z1 with ⟨_, z1'⟩ | ⟨n3, _⟩
        · cases z1'
          rw [List.getElem?_set_ne (Ne.symm n2)] at z2
          exact h4 k d' n2 q2' z2
        · exact n3 rfl
    · rw [List.getElem?_set_ne (Ne.symm n1)] at z1
      rcases get_set q2 with ⟨rfl, e2⟩ | ⟨n2, q2'⟩
      · subst e2
        obtain ⟨p', rfl, _, _, _, h4⟩ := h
        rcases get_set z2 with ⟨_, z2'⟩ | ⟨n3, _⟩
        · cases z2'
          exact h4 j d n1 q1' z1
        · exact n3 rfl
      · rw [List.getElem?_set_ne (Ne.symm n2)] at z2
        exact r.apart j k d d' p ne q1' q2' z1 z2
/-- an owned thing is changed in place -/
theorem Rep.write {K : PySem.W.Frag} {H0 H N : Hp} {ρ : Env'} {σ : L2.St} (r : Rep K H0 ρ σ H N) {i : Nat} {p : Addr} {d d' : Dat} {o : HO} (hi : ρ[i]? = some (.ow d)) (hp : σ[i]? = some (some (V.ref p))) (ho : Own K (upd H p o) N p d') : Rep K H0 (ρ.set i (.ow d')) σ (upd H p o) N := by
  obtain ⟨p', q1, q2, q3, q4⟩ := r.ow i d hi
  rw [hp] at q1
  cases q1
  have hl := lt_of_get hi
  refine ⟨fun b u e => ?_, fun b u e => ?_, r.imm, r.fresh, by rw [List.length_set, r.len], fun j x q => ?_, fun j x q => ?_, fun j x q => ?_, fun j x q => ?_, fun j k x y z ne a b c => ?_⟩
  · rw [upd_ne (ne_of_none e q2)]
    exact r.old b u e
  · rw [upd_ne (ne_of_none e q3)]
    exact r.sub b u e
  · rcases get_set q with ⟨_, q'⟩ | ⟨_, q'⟩
    · cases q'
    · exact r.im j x q'
  · rcases get_set q with ⟨_, q'⟩ | ⟨_, q'⟩
    · cases q'
    · exact r.ol j x q'
  · rcases get_set q with ⟨rfl, q'⟩ | ⟨n, q'⟩
    · cases q'
      exact ⟨p, hp, q2, q3, ho⟩
    · obtain ⟨t, t1, t2, t3, t4⟩ := r.ow j x q'
      have tp : t ≠ p := by
        rintro rfl
        exact r.apart i j d x t (Ne.symm n) hi q' hp t1
      refine ⟨t, t1, t2, t3, ?_⟩
      cases x with
      | lst ds =>
        obtain ⟨vs, w1, w2⟩ := t4
        exact ⟨vs, by rw [upd_ne tp]; exact w1, w2⟩
      | dic ds =>
        obtain ⟨vs, w1, w2⟩ := t4
        exact ⟨vs, by rw [upd_ne tp]; exact w1, w2⟩
      | _ => exact t4
  · rcases get_set q with ⟨_, q'⟩ | ⟨_, q'⟩
    · cases q'
    · exact r.rf j x q'
  · have own : ∀ {m : Nat} {w : Dat}, (ρ.set i (Ent.ow d'))[m]? = some (.ow w) → ∃ w', ρ[m]? = some (.ow w') := fun {m w} h => by
      rcases get_set h with ⟨rfl, _⟩ | ⟨_, h'⟩
      · exact ⟨_, hi⟩
      · exact ⟨_, h'⟩
    obtain ⟨x', a'⟩ := own a
    obtain ⟨y', b'⟩ := own b
    exact r.apart j k x' y' z ne a' b' c
/-- an owned thing is given out of hand: from now on nobody changes it -/
theorem Rep.freeze {K : PySem.W.Frag} {H0 H N : Hp} {ρ : Env'} {σ : L2.St} (r : Rep K H0 ρ σ H N) {p : Addr} {d : Dat} (h0 : H0 p = none) (hn : N p = none) (ho : Own K H N p d) (hx : ∀ (j : Nat) d', ρ[j]? = some (Ent.ow d') → σ[j]? ≠ some (some (V.ref p))) :
    ∃ N', Same N N' ∧ Rep K H0 ρ σ H N' ∧ At K N' (.ref p) d := by
  have go : ∀ o, H p = some o → Rep K H0 ρ σ H (upd N p o) ∧ Same N (upd N p o) := fun o e => by
    have s : Same N (upd N p o) := Same.of_none hn
    refine ⟨r.more s (fun b u q => ?_) (fun b u q m => ?_) (fun j x q a1 a2 a3 => ?_), s⟩
    · by_cases hb : b = p
      · subst hb; rw [upd_same] at q; rw [e]; exact q
      · rw [upd_ne hb] at q; exact r.sub b u q
    · by_cases hb : b = p
      · subst hb; exact h0
      · rw [upd_ne hb] at q; exact r.fresh b u q m
    · rw [upd_ne]
      · exact a3
      · rintro rfl
        exact hx j x a1 a2
  cases d with
  | lst ds =>
    obtain ⟨vs, q1, q2⟩ := ho
    obtain ⟨r', s⟩ := go _ q1
    exact ⟨_, s, r', .lst (.inl (.inl upd_same)) (q2.mono s)⟩
  | dic ds =>
    obtain ⟨vs, q1, q2⟩ := ho
    obtain ⟨r', s⟩ := go _ q1
    exact ⟨_, s, r', .dic (.inl upd_same) (q2.mono s)⟩
  | _ => exact ho.elim
/-- a slot is forgotten -/
theorem Rep.drop {K : PySem.W.Frag} {H0 H N : Hp} {ρ : Env'} {σ : L2.St} (r : Rep K H0 ρ σ H N) (i : Nat) : Rep K H0 (ρ.set i .no) σ H N where
  old := r.old
  sub := r.sub
  imm := r.imm
  fresh := r.fresh
  len := by rw [List.length_set, r.len]
  im := fun j d q => by
    rcases get_set q with ⟨_, q'⟩ | ⟨_, q'⟩
    · cases q'
    · exact r.im j d q'
  ol := fun j d q => by
    rcases get_set q with ⟨_, q'⟩ | ⟨_, q'⟩
    · cases q'
    · exact r.ol j d q'
  ow := fun j d q => by
    rcases get_set q with ⟨_, q'⟩ | ⟨_, q'⟩
    · cases q'
    · exact r.ow j d q'
  rf := fun j d q => by
    rcases get_set q with ⟨_, q'⟩ | ⟨_, q'⟩
    · cases q'
    · exact r.rf j d q'
  apart := fun j k x y z ne a b c => by
    rcases get_set a with ⟨_, a'⟩ | ⟨_, a'⟩
    · cases a'
    · rcases get_set b with ⟨_, b'⟩ | ⟨_, b'⟩
      · cases b'
      · exact r.apart j k x y z ne a' b' c
/-- what is flat may be kept -/
theorem Rep.keep {K : PySem.W.Frag} {H0 H N : Hp} {ρ : Env'} {σ : L2.St} (r : Rep K H0 ρ σ H N) : ∃ N', Same N N' ∧ Rep K H0 ρ σ H N' ∧ Same (Imm H) N' := by
  refine ⟨both N (Imm H), both_l _ _, r.more (both_l _ _) (both_sub r.sub (imm_sub H)) (fun a o h m => ?_) (fun i d q h1 h2 h3 => ?_), both_r r.sub (imm_sub H)⟩
  · unfold both at h
    split at h
    · exact (imm_not h m).elim
    · exact r.fresh a o h m
  · unfold both
    rw [if_pos h3]
    obtain ⟨p', o', e1, e2, m⟩ := r.own_some h1
    rw [h2] at e1
    cases e1
    cases z : Imm H q with
    | none => rfl
    | some u =>
      have e3 := imm_sub H q u z
      rw [e2] at e3
      cases e3
      exact (imm_not z m).elim
end B

namespace B
open PySem PySem.Spec PyProof.Rows L2

section
variable {X : Cx} {H0 : Hp} {ρ : Env'} {a b c e : Expr} {es : List Expr} {d d1 d2 d3 : Dat} {ds : List Dat} {pos : Pos}

theorem at_int {K : PySem.W.Frag} {H : Hp} {v : V} {i : Int} (h : At K H v (.int i)) : v = .int i := by cases h; rfl
theorem at_bl {K : PySem.W.Frag} {H : Hp} {v : V} {i : Bool} (h : At K H v (.bl i)) : v = .bl i := by cases h; rfl
theorem at_str {K : PySem.W.Frag} {H : Hp} {v : V} {i : Str} (h : At K H v (.str i)) : v = .str i := by cases h; rfl
theorem at_non {K : PySem.W.Frag} {H : Hp} {v : V} (h : At K H v .non) : v = .non := by cases h; rfl

theorem Ev.toB (h : Ev X H0 ρ e d) : EvB X H0 ρ e d := fun σ H N r => (h σ H N r).imp fun v H' ⟨N', s, n, r', a⟩ => ⟨N', s, n, r', a.mono r'.sub⟩
theorem EvB.flat (h : EvB X H0 ρ e d) (f : flat d = true) : Ev X H0 ρ e d := fun σ H N r => (h σ H N r).imp fun v H' ⟨N', s, n, r', a⟩ =>
  let ⟨N2, n2, r2, k⟩ := r'.keep
  ⟨N2, s, n.trans n2, r2, (a.imm f).mono k⟩

/-! ### names, constants -/
theorem ev_int {i j} : Ev X H0 ρ (.Constant (.int i) j pos) (.int i) := fun _ H N r => we_of pe_int ⟨N, Same.refl _, Same.refl _, r, .int i⟩
theorem ev_bl {i j} : Ev X H0 ρ (.Constant (.bool i) j pos) (.bl i) := fun _ H N r => we_of pe_bl ⟨N, Same.refl _, Same.refl _, r, .bl i⟩
theorem ev_str {i j} : Ev X H0 ρ (.Constant (.str i) j pos) (.str i) := fun _ H N r => we_of pe_str ⟨N, Same.refl _, Same.refl _, r, .str i⟩
theorem ev_non {j} : Ev X H0 ρ (.Constant .none j pos) .non := fun _ H N r => we_of pe_non ⟨N, Same.refl _, Same.refl _, r, .non⟩
theorem ev_name (i : Nat) {x : Str} (h : ρ[i]? = some (.im d)) (hN : X.N[i]? = some x := by rfl) (hv : Vis X.env.scope x := by first | exact Or.inl rfl | exact Or.inr (Or.inl rfl) | exact Or.inr (Or.inr rfl)) (hd : (x == ("__debug__" : Str)) = false := by decide)
    (hcd : (x == ("__classdict__" : Str)) = false := by decide) : Ev X H0 ρ (.Name x pos) d := fun σ H N r => we_of (pv i hN hv hd hcd)
  (let ⟨v, h1, h2⟩ := r.im i d h; ⟨v, h1, N, Same.refl _, Same.refl _, r, h2⟩)
theorem eb_name_ol (i : Nat) {x : Str} (h : ρ[i]? = some (.ol d)) (hN : X.N[i]? = some x := by rfl) (hv : Vis X.env.scope x := by first | exact Or.inl rfl | exact Or.inr (Or.inl rfl) | exact Or.inr (Or.inr rfl)) (hd : (x == ("__debug__" : Str)) = false := by decide)
    (hcd : (x == ("__classdict__" : Str)) = false := by decide) : EvB X H0 ρ (.Name x pos) d := fun σ H N r => we_of (pv i hN hv hd hcd)
  (let ⟨v, h1, h2⟩ := r.ol i d h; ⟨v, h1, N, Same.refl _, Same.refl _, r, h2.mono r.old⟩)
theorem own_at {K : PySem.W.Frag} {H N : Hp} {p : Addr} (s : Same N H) (h : Own K H N p d) : At K H (.ref p) d := by
  cases d with
  | lst ds => obtain ⟨vs, q1, q2⟩ := h; exact .lst (.inl (.inl q1)) (q2.mono s)
  | dic ds => obtain ⟨vs, q1, q2⟩ := h; exact .dic (.inl q1) (q2.mono s)
  | _ => exact h.elim
theorem eb_name_ow (i : Nat) {x : Str} (h : ρ[i]? = some (.ow d)) (hN : X.N[i]? = some x := by rfl) (hv : Vis X.env.scope x := by first | exact Or.inl rfl | exact Or.inr (Or.inl rfl) | exact Or.inr (Or.inr rfl)) (hd : (x == ("__debug__" : Str)) = false := by decide)
    (hcd : (x == ("__classdict__" : Str)) = false := by decide) : EvB X H0 ρ (.Name x pos) d := fun σ H N r => we_of (pv i hN hv hd hcd)
  (let ⟨p, h1, _, _, h2⟩ := r.ow i d h; ⟨.ref p, h1, N, Same.refl _, Same.refl _, r, own_at r.sub h2⟩)

/-! ### two operands, one -/
/-- what an operation's reading is to lead to -/
abbrev Goes (K : PySem.W.Frag) (H0 : Hp) (ρ : Env') (σ : L2.St) (H N : Hp) (d : Dat) (Q : VK) : Prop := ∀ v H' N', Same H H' → Same N N' → Rep K H0 ρ σ H' N' → At K N' v d → Q v H'
theorem ev_bin {r : R2} (p : ∀ ta tb, PE X a ta → PE X b tb → PE X e (tOp r ta tb)) (ha : EvB X H0 ρ a d1) (hb : EvB X H0 ρ b d2)
    (hr : ∀ x y σ H N Q, Rep X.K H0 ρ σ H N → At X.K H x d1 → At X.K H y d2 → Goes X.K H0 ρ σ H N d Q → r x y H Q) : Ev X H0 ρ e d := fun σ H N rp =>
  we_of (p _ _ pe_w pe_w) ((ha σ H N rp).imp fun x H1 ⟨N1, s1, n1, r1, a1⟩ => (hb σ H1 N1 r1).imp fun y H2 ⟨N2, s2, n2, r2, a2⟩ =>
    hr x y σ H2 N2 _ r2 (a1.mono s2) a2 fun v H' N' s n rr aa => ⟨N', (s1.trans s2).trans s, (n1.trans n2).trans n, rr, aa⟩)
theorem evt_bin {r : R2} {k : Bool} (p : ∀ ta tb, PE X a ta → PE X b tb → PT X e (tTest (tOp r ta tb))) (ha : EvB X H0 ρ a d1) (hb : EvB X H0 ρ b d2)
    (hr : ∀ x y σ H N Q, Rep X.K H0 ρ σ H N → At X.K H x d1 → At X.K H y d2 → Goes X.K H0 ρ σ H N (.bl k) Q → r x y H Q) : EvT X H0 ρ e k := fun σ H N rp =>
  wt_of (p _ _ pe_w pe_w) ((ha σ H N rp).imp fun x H1 ⟨N1, s1, n1, r1, a1⟩ => (hb σ H1 N1 r1).imp fun y H2 ⟨N2, s2, n2, r2, a2⟩ =>
    hr x y σ H2 N2 _ r2 (a1.mono s2) a2 fun v H' N' s n rr aa => ⟨k, at_bl aa, rfl, N', (s1.trans s2).trans s, (n1.trans n2).trans n, rr⟩)
theorem goes_self {K : PySem.W.Frag} {H0 : Hp} {ρ : Env'} {σ : L2.St} {H N : Hp} {d : Dat} {Q : VK} {v : V} (g : Goes K H0 ρ σ H N d Q) (r : Rep K H0 ρ σ H N) (a : At K N v d) : Q v H := g v H N (Same.refl _) (Same.refl _) r a

section arith
variable {i j : Int} (ha : Ev X H0 ρ a (.int i)) (hb : Ev X H0 ρ b (.int j))
include ha hb
theorem ev_intop {op : Operator} {C : Int → Int → Prop} {g : Int → Int → Int} (o : OpR X (binaryOp op) (rI C fun i j => .int (g i j))) (hc : C i j) : Ev X H0 ρ (.BinOp a op b pos) (.int (g i j)) :=
  ev_bin (fun _ _ h k => pe_op o h k) ha.toB hb.toB fun x y σ H N Q r p q g => ⟨i, j, at_int p, at_int q, hc, goes_self g r (.int _)⟩
theorem ev_add : Ev X H0 ρ (.BinOp a .Add b pos) (.int (i + j)) := ev_bin (fun _ _ h k => pe_op op_add h k) ha.toB hb.toB fun x y σ H N Q r p q g => ⟨i, j, at_int p, at_int q, goes_self g r (.int _)⟩
theorem ev_sub : Ev X H0 ρ (.BinOp a .Sub b pos) (.int (i - j)) := ev_bin (fun _ _ h k => pe_op op_sub h k) ha.toB hb.toB fun x y σ H N Q r p q g => ⟨i, j, at_int p, at_int q, goes_self g r (.int _)⟩
theorem ev_mul (h : IntMulOk i j) : Ev X H0 ρ (.BinOp a .Mult b pos) (.int (i * j)) := ev_intop ha hb (op := .Mult) (C := IntMulOk) (g := fun i j => i * j) (opI fun _ _ _ _ _ _ _ hc q => mul_int q hc) h
theorem ev_fdiv (h0 : 0 < j) (h : j.natAbs.log2 < 9000) : Ev X H0 ρ (.BinOp a .FloorDiv b pos) (.int (i / j)) := ev_intop ha hb (g := fun i j => i / j) op_fdivW ⟨h0, h⟩
theorem ev_fdivN (h0 : j ≠ 0) (h : j.natAbs.log2 < 9000) : Ev X H0 ρ (.BinOp a .FloorDiv b pos) (.int (i.fdiv j)) := ev_intop ha hb (op := .FloorDiv) (C := fun _ j => j ≠ 0 ∧ j.natAbs.log2 < 9000) (g := fun i j => i.fdiv j)
  (opI fun _ _ _ _ _ _ _ hc q => floordiv_int hc.1 q (.inl (PyProof.noPylong_of_log2 hc.2))) ⟨h0, h⟩
theorem ev_mod (h : 0 < j) : Ev X H0 ρ (.BinOp a .Mod b pos) (.int (i % j)) := ev_intop ha hb (g := fun i j => i % j) op_mod h
theorem ev_modN (h : j ≠ 0) : Ev X H0 ρ (.BinOp a .Mod b pos) (.int (i.fmod j)) := ev_intop ha hb (g := fun i j => i.fmod j) op_modN h
theorem ev_pow (h : CPow i j) : Ev X H0 ρ (.BinOp a .Pow b pos) (.int (i ^ j.toNat)) := ev_intop ha hb (g := fun i j => i ^ j.toNat) op_pow h
theorem ev_shl (h : CPow i j) : Ev X H0 ρ (.BinOp a .LShift b pos) (.int (i * 2 ^ j.toNat)) := ev_intop ha hb (g := fun i j => i * 2 ^ j.toNat) op_shl h
theorem ev_shr (h : 0 ≤ j) : Ev X H0 ρ (.BinOp a .RShift b pos) (.int (i / 2 ^ j.toNat)) := ev_intop ha hb (g := fun i j => i / 2 ^ j.toNat) op_shr h
theorem ev_and : Ev X H0 ρ (.BinOp a .BitAnd b pos) (.int (Builtin.bitAnd i j)) := ev_bin (fun _ _ h k => pe_op op_and h k) ha.toB hb.toB fun x y σ H N Q r p q g => ⟨i, j, at_int p, at_int q, goes_self g r (.int _)⟩
theorem et_lt : EvT X H0 ρ (.Compare a [.Lt] [b] pos) (decide (i < j)) := evt_bin (fun _ _ h k => pt_cmpR op_lt h k (nomark _)) ha.toB hb.toB fun x y σ H N Q r p q g => ⟨i, j, at_int p, at_int q, goes_self g r (.bl _)⟩
theorem et_le : EvT X H0 ρ (.Compare a [.LtE] [b] pos) (decide (i ≤ j)) := evt_bin (fun _ _ h k => pt_cmpR op_le h k (nomark _)) ha.toB hb.toB fun x y σ H N Q r p q g => ⟨i, j, at_int p, at_int q, goes_self g r (.bl _)⟩
theorem et_gt : EvT X H0 ρ (.Compare a [.Gt] [b] pos) (decide (j < i)) := evt_bin (fun _ _ h k => pt_cmpR op_gt h k (nomark _)) ha.toB hb.toB fun x y σ H N Q r p q g => ⟨i, j, at_int p, at_int q, goes_self g r (.bl _)⟩
theorem et_ge : EvT X H0 ρ (.Compare a [.GtE] [b] pos) (decide (j ≤ i)) := evt_bin (fun _ _ h k => pt_cmpR op_ge h k (nomark _)) ha.toB hb.toB fun x y σ H N Q r p q g => ⟨i, j, at_int p, at_int q, goes_self g r (.bl _)⟩
theorem ev_lt : Ev X H0 ρ (.Compare a [.Lt] [b] pos) (.bl (decide (i < j))) := ev_bin (fun _ _ h k => pe_cmpR op_lt h k (nomark _)) ha.toB hb.toB fun x y σ H N Q r p q g => ⟨i, j, at_int p, at_int q, goes_self g r (.bl _)⟩
theorem ev_le : Ev X H0 ρ (.Compare a [.LtE] [b] pos) (.bl (decide (i ≤ j))) := ev_bin (fun _ _ h k => pe_cmpR op_le h k (nomark _)) ha.toB hb.toB fun x y σ H N Q r p q g => ⟨i, j, at_int p, at_int q, goes_self g r (.bl _)⟩
theorem ev_gt : Ev X H0 ρ (.Compare a [.Gt] [b] pos) (.bl (decide (j < i))) := ev_bin (fun _ _ h k => pe_cmpR op_gt h k (nomark _)) ha.toB hb.toB fun x y σ H N Q r p q g => ⟨i, j, at_int p, at_int q, goes_self g r (.bl _)⟩
theorem ev_ge : Ev X H0 ρ (.Compare a [.GtE] [b] pos) (.bl (decide (j ≤ i))) := ev_bin (fun _ _ h k => pe_cmpR op_ge h k (nomark _)) ha.toB hb.toB fun x y σ H N Q r p q g => ⟨i, j, at_int p, at_int q, goes_self g r (.bl _)⟩
theorem et_eq : EvT X H0 ρ (.Compare a [.Eq] [b] pos) (decide (i = j)) := evt_bin (fun _ _ h k => pt_cmpR op_eq h k (nomark _)) ha.toB hb.toB fun x y σ H N Q r p q g => by
  rw [at_int p, at_int q]
  exact ⟨rfl, goes_self (Q := Q) (by rw [show decide (V.int i = V.int j) = decide (i = j) from by simp]; exact g) r (.bl _)⟩
theorem et_ne : EvT X H0 ρ (.Compare a [.NotEq] [b] pos) (!decide (i = j)) := evt_bin (fun _ _ h k => pt_cmpR op_ne h k (nomark _)) ha.toB hb.toB fun x y σ H N Q r p q g => by
  rw [at_int p, at_int q]
  exact ⟨rfl, goes_self (Q := Q) (by rw [show decide (V.int i = V.int j) = decide (i = j) from by simp]; exact g) r (.bl _)⟩
theorem ev_eq : Ev X H0 ρ (.Compare a [.Eq] [b] pos) (.bl (decide (i = j))) := ev_bin (fun _ _ h k => pe_cmpR op_eq h k (nomark _)) ha.toB hb.toB fun x y σ H N Q r p q g => by
  rw [at_int p, at_int q]
  exact ⟨rfl, goes_self (Q := Q) (by rw [show decide (V.int i = V.int j) = decide (i = j) from by simp]; exact g) r (.bl _)⟩
theorem ev_ne : Ev X H0 ρ (.Compare a [.NotEq] [b] pos) (.bl (!decide (i = j))) := ev_bin (fun _ _ h k => pe_cmpR op_ne h k (nomark _)) ha.toB hb.toB fun x y σ H N Q r p q g => by
  rw [at_int p, at_int q]
  exact ⟨rfl, goes_self (Q := Q) (by rw [show decide (V.int i = V.int j) = decide (i = j) from by simp]; exact g) r (.bl _)⟩
end arith
theorem ev_neg {i : Int} (ha : Ev X H0 ρ a (.int i)) : Ev X H0 ρ (.UnaryOp .USub a pos) (.int (-i)) := fun σ H N rp =>
  we_of (pe_un un_neg pe_w) ((ha σ H N rp).imp fun x H1 ⟨N1, s1, n1, r1, a1⟩ => ⟨i, at_int a1, N1, s1, n1, r1, .int _⟩)
/-- texts, == and + -/
theorem et_eqS {i j : Str} (ha : Ev X H0 ρ a (.str i)) (hb : Ev X H0 ρ b (.str j)) : EvT X H0 ρ (.Compare a [.Eq] [b] pos) (decide (i = j)) := evt_bin (fun _ _ h k => pt_cmpR op_eq h k (nomark _)) ha.toB hb.toB fun x y σ H N Q r p q g => by
  rw [at_str p, at_str q]
  exact ⟨rfl, goes_self (Q := Q) (by rw [show decide (V.str i = V.str j) = decide (i = j) from by simp]; exact g) r (.bl _)⟩
theorem et_neS {i j : Str} (ha : Ev X H0 ρ a (.str i)) (hb : Ev X H0 ρ b (.str j)) : EvT X H0 ρ (.Compare a [.NotEq] [b] pos) (!decide (i = j)) := evt_bin (fun _ _ h k => pt_cmpR op_ne h k (nomark _)) ha.toB hb.toB fun x y σ H N Q r p q g => by
  rw [at_str p, at_str q]
  exact ⟨rfl, goes_self (Q := Q) (by rw [show decide (V.str i = V.str j) = decide (i = j) from by simp]; exact g) r (.bl _)⟩
theorem ev_eqS {i j : Str} (ha : Ev X H0 ρ a (.str i)) (hb : Ev X H0 ρ b (.str j)) : Ev X H0 ρ (.Compare a [.Eq] [b] pos) (.bl (decide (i = j))) := ev_bin (fun _ _ h k => pe_cmpR op_eq h k (nomark _)) ha.toB hb.toB fun x y σ H N Q r p q g => by
  rw [at_str p, at_str q]
  exact ⟨rfl, goes_self (Q := Q) (by rw [show decide (V.str i = V.str j) = decide (i = j) from by simp]; exact g) r (.bl _)⟩
theorem ev_neS {i j : Str} (ha : Ev X H0 ρ a (.str i)) (hb : Ev X H0 ρ b (.str j)) : Ev X H0 ρ (.Compare a [.NotEq] [b] pos) (.bl (!decide (i = j))) := ev_bin (fun _ _ h k => pe_cmpR op_ne h k (nomark _)) ha.toB hb.toB fun x y σ H N Q r p q g => by
  rw [at_str p, at_str q]
  exact ⟨rfl, goes_self (Q := Q) (by rw [show decide (V.str i = V.str j) = decide (i = j) from by simp]; exact g) r (.bl _)⟩
theorem ev_cat {i j : Str} (ha : Ev X H0 ρ a (.str i)) (hb : Ev X H0 ρ b (.str j)) (hz : i.length + j.length ≤ sizeLine) : Ev X H0 ρ (.BinOp a .Add b pos) (.str (i ++ j)) :=
  ev_bin (fun _ _ h k => pe_op op_add_str h k) ha.toB hb.toB fun x y σ H N Q r p q g => ⟨i, j, at_str p, at_str q, hz, goes_self g r (.str _)⟩
/-- is None -/
theorem isnon {K : PySem.W.Frag} {H : Hp} {v : V} (h : At K H v d) : decide (v = .non) = (match d with | .non => true | _ => false) := by
  cases h <;> simp
def isNon : Dat → Bool
  | .non => true
  | _ => false
theorem at_isNon {K : PySem.W.Frag} {H : Hp} {v : V} (h : At K H v d) : decide (v = .non) = isNon d := by cases h <;> simp [isNon]
theorem et_isN {j pos'} (ha : EvB X H0 ρ a d) : EvT X H0 ρ (.Compare a [.Is] [.Constant .none j pos'] pos) (isNon d) :=
  evt_bin (d2 := .non) (fun _ _ h k => pt_cmpR op_isN h k (nomark _)) ha ev_non.toB fun x y σ H N Q r p q g => ⟨at_non q, by rw [at_isNon p]; exact goes_self (Q := Q) g r (.bl _)⟩
theorem et_notN {j pos'} (ha : EvB X H0 ρ a d) : EvT X H0 ρ (.Compare a [.IsNot] [.Constant .none j pos'] pos) (!isNon d) :=
  evt_bin (d2 := .non) (fun _ _ h k => pt_cmpR op_notN h k (nomark _)) ha ev_non.toB fun x y σ H N Q r p q g => ⟨at_non q, by rw [at_isNon p]; exact goes_self (Q := Q) g r (.bl _)⟩

/-! ### and, or, not, if -/
theorem et_val {k : Bool} (h : Ev X H0 ρ e (.bl k)) (he : ∀ whole, isTrue e X.env whole = (do let v ← whole; standAt e.pos; holding [v] (truthy v)) := by intro _; rfl) : EvT X H0 ρ e k := fun σ H N rp =>
  wt_of (pt_val pe_w he) ((h σ H N rp).imp fun x H1 ⟨N1, s1, n1, r1, a1⟩ => ⟨k, at_bl a1, rfl, N1, s1, n1, r1⟩)
theorem ew_and1 {k : Bool} (h : EvT X H0 ρ a k) : EvW X H0 ρ (.BoolOp .And [a] pos) k := fun σ H N rp => ww_of (pw_and1 pt_w) (h σ H N rp)
theorem ew_or1 {k : Bool} (h : EvT X H0 ρ a k) : EvW X H0 ρ (.BoolOp .Or [a] pos) k := fun σ H N rp => ww_of (pw_or1 pt_w) (h σ H N rp)
theorem ew_and {k l : Bool} {rest : List Expr} (h : EvT X H0 ρ a k) (g : k = true → EvW X H0 ρ (.BoolOp .And (b :: rest) pos) l) : EvW X H0 ρ (.BoolOp .And (a :: b :: rest) pos) (k && l) := fun σ H N rp =>
  ww_of (pw_and pt_w pw_w) ((h σ H N rp).imp fun c H1 ⟨e1, N1, s1, n1, r1⟩ => by
    subst e1
    cases c with
    | true => exact (g rfl σ H1 N1 r1).imp fun c2 H2 ⟨e2, N2, s2, n2, r2⟩ => ⟨e2, N2, s1.trans s2, n1.trans n2, r2⟩
    | false => exact ⟨rfl, N1, s1, n1, r1⟩)
theorem ew_or {k l : Bool} {rest : List Expr} (h : EvT X H0 ρ a k) (g : k = false → EvW X H0 ρ (.BoolOp .Or (b :: rest) pos) l) : EvW X H0 ρ (.BoolOp .Or (a :: b :: rest) pos) (k || l) := fun σ H N rp =>
  ww_of (pw_or pt_w pw_w) ((h σ H N rp).imp fun c H1 ⟨e1, N1, s1, n1, r1⟩ => by
    subst e1
    cases c with
    | false => exact (g rfl σ H1 N1 r1).imp fun c2 H2 ⟨e2, N2, s2, n2, r2⟩ => ⟨e2, N2, s1.trans s2, n1.trans n2, r2⟩
    | true => exact ⟨rfl, N1, s1, n1, r1⟩)
theorem EvW.t {k : Bool} (h : EvW X H0 ρ e k) : EvT X H0 ρ e k := fun σ H N rp => (h σ H N rp).wt
theorem et_not {k : Bool} (h : EvT X H0 ρ a k) : EvT X H0 ρ (.UnaryOp .Not a pos) (!k) := fun σ H N rp =>
  wt_of (pt_not pt_w) ((h σ H N rp).imp fun c H1 ⟨e1, N1, s1, n1, r1⟩ => ⟨by rw [e1], N1, s1, n1, r1⟩)
theorem ev_one {op} (h : Ev X H0 ρ a d) : Ev X H0 ρ (.BoolOp op [a] pos) d := fun σ H N rp => we_of (pe_one pe_w) (h σ H N rp)
theorem ev_andB {k l : Bool} {rest : List Expr} (h : Ev X H0 ρ a (.bl k)) (g : k = true → Ev X H0 ρ (.BoolOp .And (b :: rest) pos) (.bl l)) : Ev X H0 ρ (.BoolOp .And (a :: b :: rest) pos) (.bl (k && l)) := fun σ H N rp =>
  we_of (pe_and pe_w pe_w) ((h σ H N rp).imp fun x H1 ⟨N1, s1, n1, r1, a1⟩ => ⟨k, at_bl a1, by
    cases k with
    | true => exact iteT ((g rfl σ H1 N1 r1).imp fun x2 H2 ⟨N2, s2, n2, r2, a2⟩ => ⟨N2, s1.trans s2, n1.trans n2, r2, a2⟩)
    | false => exact iteF ⟨N1, s1, n1, r1, .bl _⟩⟩)
theorem ev_orB {k l : Bool} {rest : List Expr} (h : Ev X H0 ρ a (.bl k)) (g : k = false → Ev X H0 ρ (.BoolOp .Or (b :: rest) pos) (.bl l)) : Ev X H0 ρ (.BoolOp .Or (a :: b :: rest) pos) (.bl (k || l)) := fun σ H N rp =>
  we_of (pe_or pe_w pe_w) ((h σ H N rp).imp fun x H1 ⟨N1, s1, n1, r1, a1⟩ => ⟨k, at_bl a1, by
    cases k with
    | false => exact iteF ((g rfl σ H1 N1 r1).imp fun x2 H2 ⟨N2, s2, n2, r2, a2⟩ => ⟨N2, s1.trans s2, n1.trans n2, r2, a2⟩)
    | true => exact iteT ⟨N1, s1, n1, r1, .bl _⟩⟩)
theorem ev_not {k : Bool} (h : Ev X H0 ρ a (.bl k)) : Ev X H0 ρ (.UnaryOp .Not a pos) (.bl (!k)) := fun σ H N rp =>
  we_of (pe_not pe_w) ((h σ H N rp).imp fun x H1 ⟨N1, s1, n1, r1, a1⟩ => ⟨k, at_bl a1, N1, s1, n1, r1, .bl _⟩)
theorem ev_ifT (hc : EvT X H0 ρ c true) (h : Ev X H0 ρ a d) : Ev X H0 ρ (.IfExp c a b pos) d := fun σ H N rp =>
  we_of (pe_ifExp pt_w pe_w pe_w) ((hc σ H N rp).imp fun x H1 ⟨e1, N1, s1, n1, r1⟩ => by
    subst e1
    exact iteT ((h σ H1 N1 r1).imp fun x2 H2 ⟨N2, s2, n2, r2, a2⟩ => ⟨N2, s1.trans s2, n1.trans n2, r2, a2⟩))
theorem ev_ifF (hc : EvT X H0 ρ c false) (h : Ev X H0 ρ b d) : Ev X H0 ρ (.IfExp c a b pos) d := fun σ H N rp =>
  we_of (pe_ifExp pt_w pe_w pe_w) ((hc σ H N rp).imp fun x H1 ⟨e1, N1, s1, n1, r1⟩ => by
    subst e1
    exact iteF ((h σ H1 N1 r1).imp fun x2 H2 ⟨N2, s2, n2, r2, a2⟩ => ⟨N2, s1.trans s2, n1.trans n2, r2, a2⟩))

/-! ### argument lists, displays -/
theorem ea_nil : EvA X H0 ρ [] [] := fun σ H N rp => wa_of pa_nil ⟨N, Same.refl _, Same.refl _, rp, .nil⟩
theorem ea_cons (h : Ev X H0 ρ e d) (t : EvA X H0 ρ es ds) (hs : starEach (e :: es) X.env = (false, eval e X.env) :: starEach es X.env := by rfl) : EvA X H0 ρ (e :: es) (d :: ds) := fun σ H N rp =>
  wa_of (pa_cons pe_w pa_w hs) ((h σ H N rp).imp fun x H1 ⟨N1, s1, n1, r1, a1⟩ => (t σ H1 N1 r1).imp fun xs H2 ⟨N2, s2, n2, r2, a2⟩ => ⟨N2, s1.trans s2, n1.trans n2, r2, .cons (a1.mono n2) a2⟩)
theorem eab_nil : EvAB X H0 ρ [] [] := fun σ H N rp => wa_of pa_nil ⟨N, Same.refl _, Same.refl _, rp, .nil⟩
theorem eab_cons (h : EvB X H0 ρ e d) (t : EvAB X H0 ρ es ds) (hs : starEach (e :: es) X.env = (false, eval e X.env) :: starEach es X.env := by rfl) : EvAB X H0 ρ (e :: es) (d :: ds) := fun σ H N rp =>
  wa_of (pa_cons pe_w pa_w hs) ((h σ H N rp).imp fun x H1 ⟨N1, s1, n1, r1, a1⟩ => (t σ H1 N1 r1).imp fun xs H2 ⟨N2, s2, n2, r2, a2⟩ => ⟨N2, s1.trans s2, n1.trans n2, r2, .cons (a1.mono s2) a2⟩)
theorem ev_tup {x1} (h : EvA X H0 ρ es ds) (hz : ds.length ≤ sizeLine) : Ev X H0 ρ (.Tuple es x1 pos) (.tup ds) := fun σ H N rp =>
  we_of (pe_tup pa_w) ((h σ H N rp).imp fun xs H1 ⟨N1, s1, n1, r1, a1⟩ => ⟨by rw [a1.length]; exact hz, fun p hp =>
    let ⟨r2, n2⟩ := r1.new (o := .tup xs) hp
    ⟨_, s1.trans (Same.of_none hp), n1.trans n2, r2, .tup (.inl (.inl upd_same)) (a1.mono n2)⟩⟩)

/-- a new list or dict, for one to own -/
def EvO (X : Cx) (H0 : Hp) (ρ : Env') (e : Expr) (d : Dat) : Prop := ∀ σ H N, Rep X.K H0 ρ σ H N → WE X e σ H fun v H' => ∃ N' p, v = .ref p ∧ H p = none ∧ Same H H' ∧ Same N N' ∧ Rep X.K H0 ρ σ H' N' ∧ N' p = none ∧ Own X.K H' N' p d
theorem no_own {K : PySem.W.Frag} {H N : Hp} {σ : L2.St} (r : Rep K H0 ρ σ H N) {p : Addr} (h : H p = none) (j : Nat) (d' : Dat) (q : ρ[j]? = some (.ow d')) : σ[j]? ≠ some (some (V.ref p)) := fun z => by
  obtain ⟨p', o, e1, e2, _⟩ := r.own_some q
  rw [z] at e1
  cases e1
  rw [h] at e2
  cases e2
theorem EvO.ev (h : EvO X H0 ρ e d) : Ev X H0 ρ e d := fun σ H N rp => (h σ H N rp).imp fun v H' ⟨N', p, e1, hp, s, n, r, np, o⟩ => by
  subst e1
  obtain ⟨N2, n2, r2, a2⟩ := r.freeze (rp.old.free hp) np o (no_own rp hp)
  exact ⟨N2, s, n.trans n2, r2, a2⟩
theorem eo_new {H' : Hp} {K : PySem.W.Frag} {N : Hp} {σ : L2.St} {p : Addr} {o : HO} (r : Rep K H0 ρ σ H' N) (hp : H' p = none) : Rep K H0 ρ σ (upd H' p o) N ∧ N p = none := ⟨r.grow (Same.of_none hp), r.sub.free hp⟩
theorem eo_lst (h : EvA X H0 ρ es ds) (hz : ds.length ≤ sizeLine) : EvO X H0 ρ (.List es pos) (.lst ds) := fun σ H N rp =>
  we_of (pe_lst pa_w) ((h σ H N rp).imp fun xs H1 ⟨N1, s1, n1, r1, a1⟩ => ⟨by rw [a1.length]; exact hz, fun p hp =>
    let ⟨r2, n2⟩ := eo_new (o := .lst xs) r1 hp
    ⟨N1, p, rfl, s1.free hp, s1.trans (Same.of_none hp), n1, r2, n2, xs, upd_same, a1⟩⟩)
theorem eo_dic0 : EvO X H0 ρ (.Dict [] [] pos) (.dic []) := fun σ H N rp => we_of pe_dnewK (fun p hp =>
    let ⟨r2, n2⟩ := eo_new (o := .dK []) rp hp
    ⟨N, p, rfl, hp, Same.of_none hp, Same.refl _, r2, n2, [], upd_same, .nil⟩)

/-! ### items, slices -/
theorem at_seq {K : PySem.W.Frag} {H : Hp} {v : V} (h : At K H v (.tup ds)) : ∃ p vs, v = .ref p ∧ SqT K H p vs ∧ Ats K H vs ds := by cases h with | tup a b => exact ⟨_, _, rfl, a, b⟩
theorem at_lst {K : PySem.W.Frag} {H : Hp} {v : V} (h : At K H v (.lst ds)) : ∃ p vs, v = .ref p ∧ SqL K H p vs ∧ Ats K H vs ds := by cases h with | lst a b => exact ⟨_, _, rfl, a, b⟩
theorem atI_ats {K : PySem.W.Frag} {H : Hp} {vs : List V} (h : Ats K H vs ds) {i : Int} (q : atI ds i = some d) : ∃ v, atI vs i = some v ∧ At K H v d := by
  unfold atI at q ⊢
  rw [h.length]
  cases e : ixN ds.length i with
  | none => rw [e] at q; cases q
  | some j =>
    rw [e] at q
    exact h.get q
theorem eb_ixT {i : Int} (ha : EvB X H0 ρ a (.tup ds)) (hb : Ev X H0 ρ b (.int i)) (q : atI ds i = some d) (hs : PlainIx b := by exact fun _ _ => rfl) : EvB X H0 ρ (.Subscript a b pos) d := fun σ H N rp =>
  we_of (pe_ix ix_tup pe_w pe_w hs) ((ha σ H N rp).imp fun x H1 ⟨N1, s1, n1, r1, a1⟩ => (hb.toB σ H1 N1 r1).imp fun y H2 ⟨N2, s2, n2, r2, a2⟩ =>
    let ⟨p, vs, e1, h1, h2⟩ := at_seq (a1.mono s2)
    let ⟨v, g1, g2⟩ := atI_ats h2 q
    ⟨p, vs, i, v, e1, at_int a2, h1, g1, N2, s1.trans s2, n1.trans n2, r2, g2⟩)
theorem eb_ixL {i : Int} (ha : EvB X H0 ρ a (.lst ds)) (hb : Ev X H0 ρ b (.int i)) (q : atI ds i = some d) (hs : PlainIx b := by exact fun _ _ => rfl) : EvB X H0 ρ (.Subscript a b pos) d := fun σ H N rp =>
  we_of (pe_ix ix_list pe_w pe_w hs) ((ha σ H N rp).imp fun x H1 ⟨N1, s1, n1, r1, a1⟩ => (hb.toB σ H1 N1 r1).imp fun y H2 ⟨N2, s2, n2, r2, a2⟩ =>
    let ⟨p, vs, e1, h1, h2⟩ := at_lst (a1.mono s2)
    let ⟨v, g1, g2⟩ := atI_ats h2 q
    ⟨p, vs, i, v, e1, at_int a2, h1, g1, N2, s1.trans s2, n1.trans n2, r2, g2⟩)
theorem ev_ixT {i : Int} (ha : Ev X H0 ρ a (.tup ds)) (hb : Ev X H0 ρ b (.int i)) (q : atI ds i = some d) (hs : PlainIx b := by exact fun _ _ => rfl) : Ev X H0 ρ (.Subscript a b pos) d := fun σ H N rp =>
  we_of (pe_ix ix_tup pe_w pe_w hs) ((ha σ H N rp).imp fun x H1 ⟨N1, s1, n1, r1, a1⟩ => (hb.toB σ H1 N1 r1).imp fun y H2 ⟨N2, s2, n2, r2, a2⟩ =>
    let ⟨p, vs, e1, h1, h2⟩ := at_seq (a1.mono n2)
    let ⟨v, g1, g2⟩ := atI_ats h2 q
    ⟨p, vs, i, v, e1, at_int a2, sqt_same r2.sub h1, g1, N2, s1.trans s2, n1.trans n2, r2, g2⟩)
theorem ev_ixL {i : Int} (ha : Ev X H0 ρ a (.lst ds)) (hb : Ev X H0 ρ b (.int i)) (q : atI ds i = some d) (hs : PlainIx b := by exact fun _ _ => rfl) : Ev X H0 ρ (.Subscript a b pos) d := fun σ H N rp =>
  we_of (pe_ix ix_list pe_w pe_w hs) ((ha σ H N rp).imp fun x H1 ⟨N1, s1, n1, r1, a1⟩ => (hb.toB σ H1 N1 r1).imp fun y H2 ⟨N2, s2, n2, r2, a2⟩ =>
    let ⟨p, vs, e1, h1, h2⟩ := at_lst (a1.mono n2)
    let ⟨v, g1, g2⟩ := atI_ats h2 q
    ⟨p, vs, i, v, e1, at_int a2, sql_same r2.sub h1, g1, N2, s1.trans s2, n1.trans n2, r2, g2⟩)
theorem ev_ixS {z : Str} {i : Int} {k : Nat} (ha : Ev X H0 ρ a (.str z)) (hb : Ev X H0 ρ b (.int i)) (hz : z.length ≤ sizeLine) (q : atI z.cps.toList i = some k) (hs : PlainIx b := by exact fun _ _ => rfl) : Ev X H0 ρ (.Subscript a b pos) (.str ⟨#[k]⟩) :=
  ev_bin (fun _ _ h k => pe_ix ix_str h k hs) ha.toB hb.toB fun x y σ H N Q r p p2 g => ⟨z, i, k, at_str p, at_int p2, hz, q, goes_self g r (.str _)⟩
end
end B

namespace B
open PySem PySem.Spec PyProof.Rows L2

/-! ### how a block ends -/
inductive Outc where
  | nx (ρ : Env')
  | rt (d : Dat)
  | ex (n : Str) (ρ : Env')
  | bk (ρ : Env')
  | ct (ρ : Env')
  /-- an owned thing is handed out -/
  | ro (d : Dat)
def Cont (X : Cx) (H0 N : Hp) (D : Ends) : Outc → Prop
  | .nx ρ => ∀ σ H N', Same N N' → Rep X.K H0 ρ σ H N' → D.nx σ H
  | .rt d => ∀ v H, Same H0 H → Same N H → Ret X.K H0 v d H → D.rt v H
  | .ex n ρ => ∃ W, Takes X W ∧ ∀ C σ H N', X.mg n = some (.ref C) → Same N N' → Rep X.K H0 ρ σ H N' → W (.ref C) none σ H
  | .bk ρ => ∀ σ H N', Same N N' → Rep X.K H0 ρ σ H N' → D.bk σ H
  | .ct ρ => ∀ σ H N', Same N N' → Rep X.K H0 ρ σ H N' → D.ct σ H
  | .ro d => ∀ p H' N', Same H0 H' → Same N H' → Same N' H' → (∀ a u, N' a = some u → Mut (some u) → H0 a = none) → H0 p = none → N' p = none → Own X.K H' N' p d → D.rt (.ref p) H'
theorem Cont.mono {X : Cx} {H0 N N' : Hp} {D : Ends} {o : Outc} (c : Cont X H0 N D o) (s : Same N N') : Cont X H0 N' D o := by
  cases o with
  | nx ρ => exact fun σ H N2 s2 r => c σ H N2 (s.trans s2) r
  | rt d => exact fun v H a b r => c v H a (s.trans b) r
  | ex n ρ =>
    obtain ⟨W, t, k⟩ := c
    exact ⟨W, t, fun C σ H N2 m s2 r => k C σ H N2 m (s.trans s2) r⟩
  | bk ρ => exact fun σ H N2 s2 r => c σ H N2 (s.trans s2) r
  | ct ρ => exact fun σ H N2 s2 r => c σ H N2 (s.trans s2) r
  | ro d => exact fun p H' N2 a b r => c p H' N2 a (s.trans b) r
section
variable (X : Cx) (H0 : Hp) (ρ : Env')
def Exec (sts : List Stmt) (o : Outc) : Prop := ∀ D σ H N, Rep X.K H0 ρ σ H N → Cont X H0 N D o → WB X sts D σ H
def ExS (st : Stmt) (o : Outc) : Prop := ∀ D σ H N, Rep X.K H0 ρ σ H N → Cont X H0 N D o → WS X st D σ H
end
/-- what follows behind an end -/
def Thn (X : Cx) (H0 : Hp) (rest : List Stmt) (o1 o : Outc) : Prop := match o1 with
  | .nx ρ => Exec X H0 ρ rest o
  | o1 => o = o1

section
variable {X : Cx} {H0 : Hp} {ρ ρ1 ρ2 : Env'} {a b c e : Expr} {es : List Expr} {st : Stmt} {sts rest : List Stmt} {d d1 d2 : Dat} {ds : List Dat} {pos : Pos} {o o1 : Outc}
theorem ex_nil : Exec X H0 ρ [] (.nx ρ) := fun D σ H N r k => wb_of pss_nil (k σ H N (Same.refl _) r)
theorem ex_cons (h : ExS X H0 ρ st o1) (t : Thn X H0 rest o1 o) : Exec X H0 ρ (st :: rest) o := fun D σ H N r k => by
  refine wb_of (pss_cons ps_w pb_w) ?_
  show WS X st { D with nx := WB X rest D } σ H
  refine h _ σ H N r ?_
  cases o1 with
  | nx ρ' => exact fun σ' H' N' s r' => t D σ' H' N' r' (k.mono s)
  | rt d => cases (show o = _ from t); exact k
  | ex n ρ => cases (show o = _ from t); exact k
  | bk ρ => cases (show o = _ from t); exact k
  | ct ρ => cases (show o = _ from t); exact k
  | ro d => cases (show o = _ from t); exact k
theorem ex_one (h : ExS X H0 ρ st o) : Exec X H0 ρ [st] o := by
  refine ex_cons h ?_
  cases o with
  | nx ρ => exact ex_nil
  | _ => rfl
theorem ex_then (h : ExS X H0 ρ st (.nx ρ1)) (t : Exec X H0 ρ1 rest o) : Exec X H0 ρ (st :: rest) o := ex_cons h t
/-- an owned thing will not be changed any more -/
theorem ex_freeze (i : Nat) (hi : ρ[i]? = some (.ow d)) (h : Exec X H0 (ρ.set i (.im d)) sts o) : Exec X H0 ρ sts o := fun D σ H N r k => by
  obtain ⟨p, e1, h0, hn, ho⟩ := r.ow i d hi
  have r1 := r.drop i
  obtain ⟨N', s, r2, a⟩ := r1.freeze h0 hn ho (fun j d' q z => by
    rcases get_set q with ⟨_, q'⟩ | ⟨ne, q'⟩
    · cases q'
    · exact r.apart i j d d' p (Ne.symm ne) hi q' e1 z)
  have r3 := r2.setE (i := i) (v := .ref p) (e := .im d) a
  have eσ : σ.set i (some (V.ref p)) = σ := by
    apply List.ext_getElem?
    intro j
    by_cases hj : i = j
    · subst hj
      rw [List.getElem?_set_self (lt_of_get e1), e1]
    · rw [List.getElem?_set_ne hj]
  rw [eσ, List.set_set] at r3
  exact h D σ H N' r3 (k.mono s)
theorem ex_drop (i : Nat) (h : Exec X H0 (ρ.set i .no) sts o) : Exec X H0 ρ sts o := fun D σ H N r k => h D σ H N (r.drop i) k

/-! ### statements -/
theorem sx_pass : ExS X H0 ρ (.Pass pos) (.nx ρ) := fun D σ H N r k => ws_of ps_pass (k σ H N (Same.refl _) r)
theorem sx_break : ExS X H0 ρ (.Break pos) (.bk ρ) := fun D σ H N r k => ws_of ps_break (k σ H N (Same.refl _) r)
theorem sx_continue : ExS X H0 ρ (.Continue pos) (.ct ρ) := fun D σ H N r k => ws_of ps_continue (k σ H N (Same.refl _) r)
theorem sx_ret (h : Ev X H0 ρ e d) : ExS X H0 ρ (.Return (some e) pos) (.rt d) := fun D σ H N r k => ws_of (ps_ret pe_w) ((h σ H N r).imp fun v H' ⟨N', s, n, r', a⟩ => k v H' r'.old (n.trans r'.sub) ⟨N', r'.sub, r'.fresh, a⟩)
theorem sx_retN : ExS X H0 ρ (.Return none pos) (.rt .non) := fun D σ H N r k => ws_of ps_retN (k .non H r.old r.sub ⟨N, r.sub, r.fresh, .non⟩)
theorem sx_set (i : Nat) {x : Str} {pos' : Pos} (h : Ev X H0 ρ e d) (nd : X.N.Nodup) (hρ : ρ.set i (.im d) = ρ1 := by rfl) (hi : X.N[i]? = some x := by rfl) (hx : Loc X.env.scope x := by first | exact Or.inl rfl | exact Or.inr rfl)
    (hs : swapsWith e (some (.Name x pos')) pos.line X.env = pure false := by rfl) (hf : X.fn x = true ∨ X.env.scope.names.lookup x = some .local := by first | exact .inl rfl | exact .inr rfl | assumption) : ExS X H0 ρ (.Assign [.Name x pos'] e pos) (.nx ρ1) := fun D σ H N r k =>
  ws_of (ps_set nd hi hx pe_w hs hf) ((h σ H N r).imp fun v H' ⟨N', s, n, r', a⟩ => k _ H' N' n (hρ ▸ r'.setE a))
theorem sx_setO (i : Nat) {x : Str} {pos' : Pos} (h : EvO X H0 ρ e d) (nd : X.N.Nodup) (hρ : ρ.set i (.ow d) = ρ1 := by rfl) (hi : X.N[i]? = some x := by rfl) (hx : Loc X.env.scope x := by first | exact Or.inl rfl | exact Or.inr rfl)
    (hs : swapsWith e (some (.Name x pos')) pos.line X.env = pure false := by rfl) (hf : X.fn x = true ∨ X.env.scope.names.lookup x = some .local := by first | exact .inl rfl | exact .inr rfl | assumption) : ExS X H0 ρ (.Assign [.Name x pos'] e pos) (.nx ρ1) := fun D σ H N r k =>
  ws_of (ps_set nd hi hx pe_w hs hf) ((h σ H N r).imp fun v H' ⟨N', p, e1, hp, s, n, r', np, ow⟩ => k _ H' N' n (hρ ▸ r'.setE (e := .ow d) ⟨p, e1, r.old.free hp, np, ow, fun j d' _ q => no_own r hp j d' q⟩))
theorem sx_expr (h : Ev X H0 ρ e d) (hs : swapsWith e none pos.line X.env = pure false := by rfl) : ExS X H0 ρ (.Expr e pos) (.nx ρ) := fun D σ H N r k => ws_of (ps_expr pe_w hs) ((h σ H N r).imp fun v H' ⟨N', s, n, r', a⟩ => k _ H' N' n r')
theorem sx_ifT {as bs : List Stmt} (hc : EvT X H0 ρ c true) (h : Exec X H0 ρ as o) : ExS X H0 ρ (.If c as bs pos) o := fun D σ H N r k => ws_of (ps_if pt_w pb_w pb_w) ((hc σ H N r).imp fun v H' ⟨e1, N', s, n, r'⟩ => by
  subst e1
  exact iteT (h D σ H' N' r' (k.mono n)))
theorem sx_ifF {as bs : List Stmt} (hc : EvT X H0 ρ c false) (h : Exec X H0 ρ bs o) : ExS X H0 ρ (.If c as bs pos) o := fun D σ H N r k => ws_of (ps_if pt_w pb_w pb_w) ((hc σ H N r).imp fun v H' ⟨e1, N', s, n, r'⟩ => by
  subst e1
  exact iteF (h D σ H' N' r' (k.mono n)))
/-- an if without else that is not taken -/
theorem sx_skip {as : List Stmt} (hc : EvT X H0 ρ c false) : ExS X H0 ρ (.If c as [] pos) (.nx ρ) := sx_ifF hc ex_nil
theorem sx_if {as bs : List Stmt} {k : Bool} (hc : EvT X H0 ρ c k) (h1 : k = true → Exec X H0 ρ as o) (h2 : k = false → Exec X H0 ρ bs o) : ExS X H0 ρ (.If c as bs pos) o := by
  cases k with
  | true => exact sx_ifT hc (h1 rfl)
  | false => exact sx_ifF hc (h2 rfl)
theorem ex_if {as bs : List Stmt} {k : Bool} (hc : EvT X H0 ρ c k) (h1 : k = true → Exec X H0 ρ (.If c as bs pos :: rest) o) (h2 : k = false → Exec X H0 ρ (.If c as bs pos :: rest) o) : Exec X H0 ρ (.If c as bs pos :: rest) o := by
  cases k with
  | true => exact h1 rfl
  | false => exact h2 rfl

/-! ### while -/
/-- the turns of a while -/
inductive WhileT (X : Cx) (H0 : Hp) (c : Expr) (body : List Stmt) : Env' → Outc → Prop where
  | done {ρ : Env'} : EvT X H0 ρ c false → WhileT X H0 c body ρ (.nx ρ)
  | turn {ρ ρ1 : Env'} {o : Outc} : EvT X H0 ρ c true → Exec X H0 ρ body (.nx ρ1) → WhileT X H0 c body ρ1 o → WhileT X H0 c body ρ o
  | turnC {ρ ρ1 : Env'} {o : Outc} : EvT X H0 ρ c true → Exec X H0 ρ body (.ct ρ1) → WhileT X H0 c body ρ1 o → WhileT X H0 c body ρ o
  | brk {ρ ρ1 : Env'} : EvT X H0 ρ c true → Exec X H0 ρ body (.bk ρ1) → WhileT X H0 c body ρ (.nx ρ1)
  | ret {ρ : Env'} {d : Dat} : EvT X H0 ρ c true → Exec X H0 ρ body (.rt d) → WhileT X H0 c body ρ (.rt d)
  | exc {ρ ρ1 : Env'} {n : Str} : EvT X H0 ρ c true → Exec X H0 ρ body (.ex n ρ1) → WhileT X H0 c body ρ (.ex n ρ1)
  | retO {ρ : Env'} {d : Dat} : EvT X H0 ρ c true → Exec X H0 ρ body (.ro d) → WhileT X H0 c body ρ (.ro d)
/-- .. counted -/
def WhileN (X : Cx) (H0 : Hp) (c : Expr) (body : List Stmt) (o : Outc) : Nat → Env' → Prop
  | 0, ρ => (EvT X H0 ρ c false ∧ o = .nx ρ) ∨ (EvT X H0 ρ c true ∧ ((∃ ρ1, Exec X H0 ρ body (.bk ρ1) ∧ o = .nx ρ1) ∨ (∃ d, Exec X H0 ρ body (.rt d) ∧ o = .rt d) ∨ (∃ d, Exec X H0 ρ body (.ro d) ∧ o = .ro d) ∨ ∃ n ρ1, Exec X H0 ρ body (.ex n ρ1) ∧ o = .ex n ρ1))
  | m + 1, ρ => ∃ ρ1, EvT X H0 ρ c true ∧ (Exec X H0 ρ body (.nx ρ1) ∨ Exec X H0 ρ body (.ct ρ1)) ∧ WhileN X H0 c body o m ρ1
theorem WhileT.count {body : List Stmt} (h : WhileT X H0 c body ρ o) : ∃ m, WhileN X H0 c body o m ρ := by
  induction h with
  | done h => exact ⟨0, .inl ⟨h, rfl⟩⟩
  | turn h1 h2 _ ih => obtain ⟨m, q⟩ := ih; exact ⟨m + 1, _, h1, .inl h2, q⟩
  | turnC h1 h2 _ ih => obtain ⟨m, q⟩ := ih; exact ⟨m + 1, _, h1, .inr h2, q⟩
  | brk h1 h2 => exact ⟨0, .inr ⟨h1, .inl ⟨_, h2, rfl⟩⟩⟩
  | ret h1 h2 => exact ⟨0, .inr ⟨h1, .inr (.inl ⟨_, h2, rfl⟩)⟩⟩
  | exc h1 h2 => exact ⟨0, .inr ⟨h1, .inr (.inr (.inr ⟨_, _, h2, rfl⟩))⟩⟩
  | retO h1 h2 => exact ⟨0, .inr ⟨h1, .inr (.inr (.inl ⟨_, h2, rfl⟩))⟩⟩
theorem sx_while {body : List Stmt} (hp : PassesOwn (model X.prog X.w) X.A X.env X.xe) (h : WhileT X H0 c body ρ o) : ExS X H0 ρ (.While c body [] pos) o := fun D σ H N r k => by
  obtain ⟨m0, h0⟩ := h.count
  refine ws_of (ps_while hp pt_w pb_w) ⟨fun m σ' H' => ∃ ρ' N', Same N N' ∧ Rep X.K H0 ρ' σ' H' N' ∧ WhileN X H0 c body o m ρ', ⟨m0, ρ, N, Same.refl _, r, h0⟩, ?_⟩
  rintro m σ' H' ⟨ρ', N', s, r', w⟩
  cases m with
  | zero =>
    rcases w with ⟨hc, eo⟩ | ⟨hc, w⟩
    · refine (hc σ' H' N' r').imp fun b H1 ⟨eb, N1, s1, n1, r1⟩ => ?_
      subst eb
      subst eo
      exact iteF (k σ' H1 N1 (s.trans n1) r1)
    · refine (hc σ' H' N' r').imp fun b H1 ⟨eb, N1, s1, n1, r1⟩ => ?_
      subst eb
      refine iteT ⟨fun _ _ => False, fun _ _ z => z.elim, ?_⟩
      rcases w with ⟨ρ1, hb, eo⟩ | ⟨d, hb, eo⟩ | ⟨d, hb, eo⟩ | ⟨n, ρ1, hb, eo⟩
      · subst eo
        exact hb _ σ' H1 N1 r1 fun σ2 H2 N2 s2 r2 => k σ2 H2 N2 ((s.trans n1).trans s2) r2
      · subst eo
        exact hb _ σ' H1 N1 r1 (Cont.mono (o := .rt d) k (s.trans n1))
      · subst eo
        exact hb _ σ' H1 N1 r1 (Cont.mono (o := .ro d) k (s.trans n1))
      · subst eo
        exact hb _ σ' H1 N1 r1 (Cont.mono (o := .ex n ρ1) k (s.trans n1))
  | succ m =>
    obtain ⟨ρ1, hc, hb, w⟩ := w
    refine (hc σ' H' N' r').imp fun b H1 ⟨eb, N1, s1, n1, r1⟩ => ?_
    subst eb
    refine iteT ⟨fun σ2 H2 => ∃ N2, Same N N2 ∧ Rep X.K H0 ρ1 σ2 H2 N2, fun σ2 H2 ⟨N2, s2, r2⟩ => ⟨m, Nat.lt_succ_self m, ρ1, N2, s2, r2, w⟩, ?_⟩
    rcases hb with hb | hb
    · exact hb _ σ' H1 N1 r1 fun σ2 H2 N2 s2 r2 => ⟨N2, (s.trans n1).trans s2, r2⟩
    · exact hb _ σ' H1 N1 r1 fun σ2 H2 N2 s2 r2 => ⟨N2, (s.trans n1).trans s2, r2⟩


/-! ### what is walked -/
/-- it goes through ds -/
def Walks (K : PySem.W.Frag) (H0 : Hp) (J : It) (N1 : Hp) (ds : List Dat) : Prop := ∀ (H0' : Hp) (ρ : Env') (σ : L2.St) (H N : Hp) (i : Nat), Same H0 H0' → Same N1 N → Rep K H0' ρ σ H N →
  (i < ds.length → J.go i H ∧ ∀ x H', J.yld i H x H' → ∃ N' d, Same N N' ∧ Same H H' ∧ Rep K H0' ρ σ H' N' ∧ ds[i]? = some d ∧ At K N' x d) ∧ (i = ds.length → J.stop i H)
def Iter (X : Cx) (H0 : Hp) (ρ : Env') (t e : Expr) (ds : List Dat) : Prop := ∃ wi, PI X t e wi ∧ ∀ σ H N, Rep X.K H0 ρ σ H N → ∀ R, (∀ J H1 N1, Same N N1 → Same H H1 → Rep X.K H0 ρ σ H1 N1 → Walks X.K H0 J N1 ds → R J H1) → wi σ H R
theorem it_list {t : Expr} (h : Ev X H0 ρ e (.lst ds)) : Iter X H0 ρ t e ds := ⟨_, pi_list pe_w, fun σ H N r R k => (h σ H N r).imp fun v H' ⟨N', s, n, r', a⟩ => by
  obtain ⟨p, vs, rfl, h1, h2⟩ := at_lst a
  refine ⟨p, rfl, ⟨vs, sql_same r'.sub h1⟩, k _ H' N' n s r' fun H02 ρ2 σ2 H2 N2 i s02 s2 r2 => ⟨fun hi => ?_, fun hi => ⟨vs, sql_same (s2.trans r2.sub) h1, by rw [h2.length]; exact Nat.le_of_eq hi.symm⟩⟩⟩
  have hv : i < vs.length := by rw [h2.length]; exact hi
  refine ⟨⟨vs, vs[i], sql_same (s2.trans r2.sub) h1, by simp [hv]⟩, fun x H3 y => ?_⟩
  obtain ⟨rfl, y⟩ := y
  obtain ⟨d, e1, e2⟩ := h2.getV (y vs (sql_same (s2.trans r2.sub) h1))
  exact ⟨N2, d, Same.refl _, Same.refl _, r2, e1, e2.mono s2⟩⟩
theorem it_ol (i : Nat) {t : Expr} {x : Str} (h : ρ[i]? = some (.ol (.lst ds))) (f : flats ds = true) (hN : X.N[i]? = some x := by rfl) (hv : Vis X.env.scope x := by first | exact Or.inl rfl | exact Or.inr (Or.inl rfl) | exact Or.inr (Or.inr rfl)) (hd : (x == ("__debug__" : Str)) = false := by decide)
    (hcd : (x == ("__classdict__" : Str)) = false := by decide) : Iter X H0 ρ t (.Name x pos) ds := ⟨_, pi_list (pv i hN hv hd hcd), fun σ H N r R k => by
  obtain ⟨v, e1, a⟩ := r.ol i _ h
  obtain ⟨p, vs, rfl, h1, h2⟩ := at_lst a
  refine ⟨_, e1, p, rfl, ⟨vs, sql_same r.old h1⟩, k _ H N (Same.refl _) (Same.refl _) r fun H02 ρ2 σ2 H2 N2 j s02 s2 r2 => ⟨fun hi => ?_, fun hi => ⟨vs, sql_same (s02.trans r2.old) h1, by rw [h2.length]; exact Nat.le_of_eq hi.symm⟩⟩⟩
  have hv : j < vs.length := by rw [h2.length]; exact hi
  refine ⟨⟨vs, vs[j], sql_same (s02.trans r2.old) h1, by simp [hv]⟩, fun x H3 y => ?_⟩
  obtain ⟨rfl, y⟩ := y
  obtain ⟨d, e2, e3⟩ := (h2.imm f).getV (y vs (sql_same (s02.trans r2.old) h1))
  exact ⟨N2, d, Same.refl _, Same.refl _, r2, e2, (e3.mono (imm_same s02)).mono r2.imm⟩⟩
theorem it_tup {t : Expr} (h : Ev X H0 ρ e (.tup ds)) : Iter X H0 ρ t e ds := ⟨_, pi_tup pe_w, fun σ H N r R k => (h σ H N r).imp fun v H' ⟨N', s, n, r', a⟩ => by
  obtain ⟨p, vs, rfl, h1, h2⟩ := at_seq a
  refine ⟨p, rfl, ⟨vs, sqt_same r'.sub h1⟩, k _ H' N' n s r' fun H02 ρ2 σ2 H2 N2 i s02 s2 r2 => ⟨fun hi => ?_, fun hi => ⟨vs, sqt_same (s2.trans r2.sub) h1, by rw [h2.length]; exact Nat.le_of_eq hi.symm⟩⟩⟩
  have hv : i < vs.length := by rw [h2.length]; exact hi
  refine ⟨⟨vs, vs[i], sqt_same (s2.trans r2.sub) h1, by simp [hv]⟩, fun x H3 y => ?_⟩
  obtain ⟨rfl, y⟩ := y
  obtain ⟨d, e1, e2⟩ := h2.getV (y vs (sqt_same (s2.trans r2.sub) h1))
  exact ⟨N2, d, Same.refl _, Same.refl _, r2, e1, e2.mono s2⟩⟩
/-- the signs of a text, each a text -/
def signs (z : Str) : List Dat := z.cps.toList.map fun c => .str ⟨#[c]⟩
theorem it_str {t : Expr} {z : Str} (h : Ev X H0 ρ e (.str z)) : Iter X H0 ρ t e (signs z) := ⟨_, pi_str pe_w, fun σ H N r R k => (h σ H N r).imp fun v H' ⟨N', s, n, r', a⟩ => by
  refine ⟨z, at_str a, k _ H' N' n s r' fun H02 ρ2 σ2 H2 N2 i s02 s2 r2 => ⟨fun hi => ?_, fun hi => ?_⟩⟩
  · have hz : i < z.cps.size := by simpa [signs] using hi
    refine ⟨hz, fun x H3 y => ?_⟩
    obtain ⟨rfl, c, y1, rfl⟩ := y
    refine ⟨N2, .str ⟨#[c]⟩, Same.refl _, Same.refl _, r2, ?_, .str _⟩
    unfold signs
    rw [List.getElem?_map, Array.getElem?_toList, y1]
    rfl
  · show z.cps.size ≤ i
    rw [hi]
    simp [signs]⟩
/-- lo, lo + c, .. -/
def steps (lo c : Int) (n : Nat) : List Dat := (List.range n).map fun i : Nat => .int (lo + (i : Int) * c)
theorem steps_len {lo c : Int} {n : Nat} : (steps lo c n).length = n := by simp [steps]
theorem steps_get {lo c : Int} {n i : Nat} (h : i < n) : (steps lo c n)[i]? = some (.int (lo + (i : Int) * c)) := by
  unfold steps
  rw [List.getElem?_map, List.getElem?_range h]
  rfl
theorem wlk_r {K : PySem.W.Frag} {lo : Int} {n : Nat} {N1 : Hp} : Walks K H0 (Itr lo n) N1 (steps lo 1 n) := fun H02 ρ2 σ2 H2 N2 i s02 s2 r2 => by
  refine ⟨fun hi => ?_, fun hi => by rw [steps_len] at hi; exact Nat.le_of_eq hi.symm⟩
  rw [steps_len] at hi
  refine ⟨hi, fun x H3 y => ?_⟩
  obtain ⟨rfl, rfl⟩ := y
  exact ⟨N2, _, Same.refl _, Same.refl _, r2, steps_get hi, by rw [Int.mul_one]; exact .int _⟩
theorem wlk_c {K : PySem.W.Frag} {lo c : Int} {n : Nat} {N1 : Hp} : Walks K H0 (Itc lo c n) N1 (steps lo c n) := fun H02 ρ2 σ2 H2 N2 i s02 s2 r2 => by
  refine ⟨fun hi => ?_, fun hi => by rw [steps_len] at hi; exact Nat.le_of_eq hi.symm⟩
  rw [steps_len] at hi
  refine ⟨hi, fun x H3 y => ?_⟩
  obtain ⟨rfl, rfl⟩ := y
  exact ⟨N2, _, Same.refl _, Same.refl _, r2, steps_get hi, .int _⟩
theorem ats1 {K : PySem.W.Frag} {H : Hp} {vs : List V} {i : Int} (h : Ats K H vs [.int i]) : vs = [.int i] := Ats.ints (ns := [i]) h
theorem ats2 {K : PySem.W.Frag} {H : Hp} {vs : List V} {i j : Int} (h : Ats K H vs [.int i, .int j]) : vs = [.int i, .int j] := Ats.ints (ns := [i, j]) h
theorem ats3 {K : PySem.W.Frag} {H : Hp} {vs : List V} {i j k : Int} (h : Ats K H vs [.int i, .int j, .int k]) : vs = [.int i, .int j, .int k] := Ats.ints (ns := [i, j, k]) h
theorem it_range1 {t : Expr} {p : Pos} {j : Int} (h : Ev X H0 ρ a (.int j)) (b1 : -(2 ^ 62) ≤ j) (b2 : j < 2 ^ 62) (hm : X.mg "range" = none) (hg : Gl X "range" := by rfl) (hs : starEach [a] X.env = [(false, eval a X.env)] := by rfl) :
    Iter X H0 ρ t (.Call (.Name "range" p) [a] [] pos) (steps 0 1 j.toNat) := ⟨_, pi_range1 hg hm pa_w hs, fun σ H N r R k => (ea_cons h ea_nil (hs := hs) σ H N r).imp fun vs H' ⟨N', s, n, r', q⟩ => ⟨j, ats1 q, b1, b2, k _ H' N' n s r' wlk_r⟩⟩
theorem it_range2 {t : Expr} {p : Pos} {i j : Int} (h : Ev X H0 ρ a (.int i)) (h2 : Ev X H0 ρ b (.int j)) (bb : -(2 ^ 62) ≤ i ∧ i < 2 ^ 62 ∧ -(2 ^ 62) ≤ j ∧ j < 2 ^ 62) (hm : X.mg "range" = none) (hg : Gl X "range" := by rfl)
    (hs : starEach [a, b] X.env = [(false, eval a X.env), (false, eval b X.env)] := by rfl) (hs2 : starEach [b] X.env = [(false, eval b X.env)] := by rfl) :
    Iter X H0 ρ t (.Call (.Name "range" p) [a, b] [] pos) (steps i 1 (j - i).toNat) := ⟨_, pi_range2 hg hm pa_w hs hs2, fun σ H N r R k => (ea_cons h (ea_cons h2 ea_nil (hs := hs2)) (hs := by rw [hs, hs2]) σ H N r).imp fun vs H' ⟨N', s, n, r', q⟩ => ⟨i, j, ats2 q, bb, k _ H' N' n s r' wlk_r⟩⟩
theorem it_range3 {t : Expr} {p : Pos} {i j c' : Int} {n : Nat} (h : Ev X H0 ρ a (.int i)) (h2 : Ev X H0 ρ b (.int j)) (h3 : Ev X H0 ρ c (.int c')) (hr : RgC i j c' n) (hm : X.mg "range" = none) (hg : Gl X "range" := by rfl)
    (hs : ∀ l, PA X [a, b, c] l → PI X t (.Call (.Name "range" p) [a, b, c] [] pos) (iRng3 l) := by exact fun _ h => pi_range3 rfl (by assumption) h) (s1 : starEach [a, b, c] X.env = (false, eval a X.env) :: starEach [b, c] X.env := by rfl) (s2 : starEach [b, c] X.env = (false, eval b X.env) :: starEach [c] X.env := by rfl) (s3 : starEach [c] X.env = (false, eval c X.env) :: starEach [] X.env := by rfl) :
    Iter X H0 ρ t (.Call (.Name "range" p) [a, b, c] [] pos) (steps i c' n) := ⟨_, hs _ pa_w, fun σ H N r R k => (ea_cons h (ea_cons h2 (ea_cons h3 ea_nil (hs := s3)) (hs := s2)) (hs := s1) σ H N r).imp fun vs H' ⟨N', s, n', r', q⟩ => ⟨i, j, c', n, ats3 q, hr, k _ H' N' n' s r' wlk_c⟩⟩

/-! ### for -/
/-- what a target makes of an item: the names' entries -/
structure Tgt (X : Cx) (H0 : Hp) (t : Expr) (ok : Dat → Prop) (B : Dat → Env' → Env') : Prop where
  pg : ∃ g, PG X t g ∧ ∀ (ρ : Env') (σ : L2.St) (H N : Hp) (v : V) (d : Dat), Rep X.K H0 ρ σ H N → At X.K N v d → ok d → ∀ Q, (∀ σ' H' N', Same N N' → Rep X.K H0 (B d ρ) σ' H' N' → Q σ' H') → g v σ H Q
theorem tg_name (i : Nat) {x : Str} (nd : X.N.Nodup) (hi : X.N[i]? = some x := by rfl) (hx : Loc X.env.scope x := by first | exact Or.inl rfl | exact Or.inr rfl)
    (hf : X.fn x = true ∨ X.env.scope.names.lookup x = some .local := by first | exact .inl rfl | exact .inr rfl | assumption) : Tgt X H0 (.Name x pos) (fun _ => True) (fun d ρ => ρ.set i (.im d)) :=
  ⟨gName i, pg_name nd hi hx hf, fun ρ σ H N v d r a _ Q k => k _ H N (Same.refl _) (r.setE (e := .im d) a)⟩
/-- the turns of a for, what is left to be walked first -/
inductive ForT (X : Cx) (H0 : Hp) (B : Dat → Env' → Env') (body : List Stmt) : List Dat → Env' → Outc → Prop where
  | nil {ρ : Env'} : ForT X H0 B body [] ρ (.nx ρ)
  | turn {ρ ρ1 : Env'} {d : Dat} {ds : List Dat} {o : Outc} : Exec X H0 (B d ρ) body (.nx ρ1) → ForT X H0 B body ds ρ1 o → ForT X H0 B body (d :: ds) ρ o
  | turnC {ρ ρ1 : Env'} {d : Dat} {ds : List Dat} {o : Outc} : Exec X H0 (B d ρ) body (.ct ρ1) → ForT X H0 B body ds ρ1 o → ForT X H0 B body (d :: ds) ρ o
  | brk {ρ ρ1 : Env'} {d : Dat} {ds : List Dat} : Exec X H0 (B d ρ) body (.bk ρ1) → ForT X H0 B body (d :: ds) ρ (.nx ρ1)
  | ret {ρ : Env'} {d r : Dat} {ds : List Dat} : Exec X H0 (B d ρ) body (.rt r) → ForT X H0 B body (d :: ds) ρ (.rt r)
  | exc {ρ ρ1 : Env'} {d : Dat} {ds : List Dat} {n : Str} : Exec X H0 (B d ρ) body (.ex n ρ1) → ForT X H0 B body (d :: ds) ρ (.ex n ρ1)
  | retO {ρ : Env'} {d r : Dat} {ds : List Dat} : Exec X H0 (B d ρ) body (.ro r) → ForT X H0 B body (d :: ds) ρ (.ro r)
theorem sx_for {t iter : Expr} {body : List Stmt} {bd : Dat → Env' → Env'} {ok : Dat → Prop} (hp : PassesOwn (model X.prog X.w) X.A X.env X.xe) (hc : X.calm = true) (hi : Iter X H0 ρ t iter ds) (hg : Tgt X H0 t ok bd) (hk : ∀ d ∈ ds, ok d) (h : ForT X H0 bd body ds ρ o)
    (hs : ∀ x, foldedSetIterable iter X.env x = pure x := by intro _; rfl) : ExS X H0 ρ (.For t iter body [] pos) o := fun D σ H N r k => by
  obtain ⟨wi, pi, hw⟩ := hi
  obtain ⟨g, pg, hgg⟩ := hg.pg
  refine ws_of (ps_for hp hc pi pg pb_w hs) (hw σ H N r _ fun J H1 N1 n1 s1 r1 w => ?_)
  refine ⟨fun i m σ' H' => m = ds.length - i ∧ i ≤ ds.length ∧ ∃ ρ' N', Same N1 N' ∧ Rep X.K H0 ρ' σ' H' N' ∧ ForT X H0 bd body (ds.drop i) ρ' o, ⟨_, rfl, Nat.zero_le _, ρ, N1, Same.refl _, r1, h⟩, ?_⟩
  rintro i m σ' H' ⟨rfl, hi, ρ', N', s', r', f⟩
  obtain ⟨wg, wst⟩ := w H0 ρ' σ' H' N' i (Same.refl _) s' r'
  by_cases hlt : i < ds.length
  · obtain ⟨go, yl⟩ := wg hlt
    have e1 : ds.drop i = ds[i] :: ds.drop (i + 1) := List.drop_eq_getElem_cons hlt
    rw [e1] at f
    have base : ∀ (O : Outc) (Dx : Ends), Exec X H0 (bd ds[i] ρ') body O → (∀ N3, Same N1 N3 → Cont X H0 N3 Dx O) → ∀ x H2, J.yld i H' x H2 → g x σ' H2 fun σ3 H3 => WB X body Dx σ3 H3 := fun O Dx ex kk x H2 y => by
      obtain ⟨N3, d, n3, s3, r3, e3, a3⟩ := yl x H2 y
      have ed : d = ds[i] := by
        rw [List.getElem?_eq_getElem hlt] at e3
        exact (Option.some.inj e3).symm
      subst ed
      exact hgg ρ' σ' H2 N3 x _ r3 a3 (hk _ (List.getElem_mem hlt)) _ fun σ4 H4 N4 n4 r4 => ex Dx σ4 H4 N4 r4 (kk N4 ((s'.trans n3).trans n4))
    have again : ∀ ρ1, ForT X H0 bd body (ds.drop (i + 1)) ρ1 o → ∀ σ3 H3, (∃ N3, Same N1 N3 ∧ Rep X.K H0 ρ1 σ3 H3 N3) → ∃ m', m' < ds.length - i ∧ m' = ds.length - (i + 1) ∧ i + 1 ≤ ds.length ∧ ∃ ρ' N', Same N1 N' ∧ Rep X.K H0 ρ' σ3 H3 N' ∧ ForT X H0 bd body (ds.drop (i + 1)) ρ' o :=
      fun ρ1 ff σ3 H3 ⟨N3, q1, q2⟩ => ⟨ds.length - (i + 1), by omega, rfl, hlt, ρ1, N3, q1, q2, ff⟩
    cases f with
    | @turn _ ρ1 _ _ _ ex ff => exact .inr ⟨go, fun σ3 H3 => ∃ N3, Same N1 N3 ∧ Rep X.K H0 ρ1 σ3 H3 N3, again ρ1 ff, base (.nx ρ1) _ ex fun N3 q3 σ3 H3 N4 q4 r4 => ⟨N4, q3.trans q4, r4⟩⟩
    | @turnC _ ρ1 _ _ _ ex ff => exact .inr ⟨go, fun σ3 H3 => ∃ N3, Same N1 N3 ∧ Rep X.K H0 ρ1 σ3 H3 N3, again ρ1 ff, base (.ct ρ1) _ ex fun N3 q3 σ3 H3 N4 q4 r4 => ⟨N4, q3.trans q4, r4⟩⟩
    | @brk _ ρ1 _ _ ex => exact .inr ⟨go, fun _ _ => False, fun _ _ z => z.elim, base (.bk ρ1) _ ex fun N3 q3 σ3 H3 N4 q4 r4 => k σ3 H3 N4 ((n1.trans q3).trans q4) r4⟩
    | ret ex => exact .inr ⟨go, fun _ _ => False, fun _ _ z => z.elim, base _ _ ex fun N3 q3 => Cont.mono (o := .rt _) k (n1.trans q3)⟩
    | retO ex => exact .inr ⟨go, fun _ _ => False, fun _ _ z => z.elim, base _ _ ex fun N3 q3 => Cont.mono (o := .ro _) k (n1.trans q3)⟩
    | @exc _ ρ1 _ _ n ex => exact .inr ⟨go, fun _ _ => False, fun _ _ z => z.elim, base (.ex n ρ1) _ ex fun N3 q3 => Cont.mono (o := .ex n ρ1) k (n1.trans q3)⟩
  · have e1 : i = ds.length := by omega
    subst e1
    rw [List.drop_length] at f
    cases f
    exact .inl ⟨wst rfl, k σ' H' N' (n1.trans s') r'⟩
end
end B

namespace B
open PySem PySem.Spec PyProof.Rows L2

/-! ### what a def does: R of the data handed in and of its end -/
inductive Res where
  | val (d : Dat)
  /-- a new list or dict, the caller's own -/
  | own (d : Dat)
  | exc (n : Str)
def spR (K : PySem.W.Frag) (mg : Str → Option Value) (R : List Dat → Res → Prop) : Sp := fun vs H Q E => ∃ ds o, R ds o ∧ Ats K H vs ds ∧ match o with
  | .val d => ∀ v H', Same H H' → Ret K H v d H' → Q v H'
  | .own d => ∀ p H' N, Same H H' → Same N H' → (∀ a u, N a = some u → Mut (some u) → H a = none) → H p = none → N p = none → Own K H' N p d → Q (.ref p) H'
  | .exc n => ∀ C H', mg n = some (.ref C) → Same H H' → E (.ref C) none H'
def GFn (P : Program) (w : World) (K : PySem.W.Frag) (mg : Str → Option Value) (base : Heap) (x : Str) (k : Nat) (R : List Dat → Res → Prop) : Prop :=
  ∃ f fd ps, FnOk P w K mg base (L2.CX P w) k f fd ps (spR K mg R) ∧ mg x = some (.ref f) ∧ PySem.W.keepIn K (.ref f) = true ∧ Binds K fd ps []
/-- a def of the text as it stands behind the top -/
def Df (K : PySem.W.Frag) (mg : Str → Option Value) (x : Str) (st : Stmt) (ps : List Str) : Prop := ∃ f fd, Fun K x x st f fd ∧ mg x = some (.ref f) ∧ Binds K fd ps []

inductive Ents : List Ent → List Dat → Prop where
  | nil : Ents [] []
  | im {d : Dat} {es : List Ent} {ds : List Dat} (f : flat d = true) : Ents es ds → Ents (.im d :: es) (d :: ds)
  | ol {d : Dat} {es : List Ent} {ds : List Dat} : Ents es ds → Ents (.ol d :: es) (d :: ds)
/-- a block's end as a def's -/
def Outc.ok : Outc → Res → Prop
  | .nx _, .val .non => True
  | .rt d, .val e => d = e
  | .ex n _, .exc m => n = m
  | _, _ => False
theorem Ents.get {K : PySem.W.Frag} {H : Hp} : ∀ {es : List Ent} {ds : List Dat} {vs : List V}, Ents es ds → Ats K H vs ds → ∀ i : Nat, (es[i]? = none ∧ vs[i]? = none) ∨ ∃ v, vs[i]? = some v ∧ ((∃ d, es[i]? = some (Ent.im d) ∧ At K (Imm H) v d) ∨ ∃ d, es[i]? = some (Ent.ol d) ∧ At K H v d)
  | _, _, _, .nil, .nil, i => .inl ⟨by simp, by simp⟩
  | _, _, _, .im f _, .cons a _, 0 => .inr ⟨_, rfl, .inl ⟨_, rfl, a.imm f⟩⟩
  | _, _, _, .ol _, .cons a _, 0 => .inr ⟨_, rfl, .inr ⟨_, rfl, a⟩⟩
  | _, _, _, .im _ t, .cons _ b, i + 1 => by simpa using Ents.get t b i
  | _, _, _, .ol t, .cons _ b, i + 1 => by simpa using Ents.get t b i
theorem Ents.length : ∀ {es : List Ent} {ds : List Dat}, Ents es ds → es.length = ds.length
  | _, _, .nil => rfl
  | _, _, .im _ t => congrArg (· + 1) (Ents.length t)
  | _, _, .ol t => congrArg (· + 1) (Ents.length t)
theorem rep_start {K : PySem.W.Frag} {H : Hp} {es : List Ent} {ds : List Dat} {vs : List V} {N : List Str} (e : Ents es ds) (a : Ats K H vs ds) : Rep K H (es ++ List.replicate (N.length - vs.length) .no) (L2.start N vs) H (Imm H) := by
  have hl : es.length = vs.length := by rw [e.length, a.length]
  have geE : ∀ (i : Nat) x, (es ++ List.replicate (N.length - vs.length) Ent.no)[i]? = some x → x ≠ .no → es[i]? = some x := fun i x h n => by
    by_cases hi : i < es.length
    · rw [List.getElem?_append_left hi] at h; exact h
    · rw [List.getElem?_append_right (by omega), List.getElem?_replicate] at h
      split at h
      · cases h; exact (n rfl).elim
      · cases h
  have geV : ∀ (i : Nat) v, vs[i]? = some v → (L2.start N vs)[i]? = some (some v) := fun i v h => by
    unfold L2.start
    rw [List.getElem?_append_left (by rw [List.length_map]; exact (List.getElem?_eq_some_iff.mp h).1), List.getElem?_map, h]
    rfl
  refine ⟨Same.refl _, imm_sub H, Same.refl _, fun b u h m => (imm_not h m).elim, ?_, fun i d h => ?_, fun i d h => ?_, fun i d h => ?_, fun i d h => ?_, fun i j d d' p ne h => ?_⟩
  · unfold L2.start
    simp [hl]
  · have h1 := geE i _ h (fun z => nomatch z)
    rcases e.get a i with ⟨h2, _⟩ | ⟨v, hv, ⟨d', h2, q⟩ | ⟨d', h2, q⟩⟩
    · rw [h1] at h2; cases h2
    · rw [h1] at h2; cases h2; exact ⟨v, geV i v hv, q⟩
    · rw [h1] at h2; cases h2
  · have h1 := geE i _ h (fun z => nomatch z)
    rcases e.get a i with ⟨h2, _⟩ | ⟨v, hv, ⟨d', h2, q⟩ | ⟨d', h2, q⟩⟩
    · rw [h1] at h2; cases h2
    · rw [h1] at h2; cases h2
    · rw [h1] at h2; cases h2; exact ⟨v, geV i v hv, q⟩
  · have h1 := geE i _ h (fun z => nomatch z)
    rcases e.get a i with ⟨h2, _⟩ | ⟨v, hv, ⟨d', h2, q⟩ | ⟨d', h2, q⟩⟩ <;> (rw [h1] at h2; cases h2)
  · have h1 := geE i _ h (fun z => nomatch z)
    rcases e.get a i with ⟨h2, _⟩ | ⟨v, hv, ⟨d', h2, q⟩ | ⟨d', h2, q⟩⟩ <;> (rw [h1] at h2; cases h2)
  · have h1 := geE i _ h (fun z => nomatch z)
    rcases e.get a i with ⟨h2, _⟩ | ⟨v, hv, ⟨d', h2, q⟩ | ⟨d', h2, q⟩⟩ <;> (rw [h1] at h2; cases h2)
/-- the context of a def's body -/
abbrev XX (P : Program) (w : World) (K : PySem.W.Frag) (mg : Str → Option Value) (base : Heap) (N : List Str) (x : Str) (st : Stmt) (f : Addr) (cdv : Value) (A : Around) (outer : List PySem.Env) (s : Shared) (H : Hp) (E : XK) : Cx :=
  cxOf (L2.CX P w) P w K mg base N x (defScope st) f cdv A outer s H E
/-- a block's end as it is asked of a def's body -/
inductive Ends' (X : Cx) (H0 : Hp) (ρ : Env') (body : List Stmt) : Res → Prop where
  | ret {d : Dat} : Exec X H0 ρ body (.rt d) → Ends' X H0 ρ body (.val d)
  | non {ρ1 : Env'} : Exec X H0 ρ body (.nx ρ1) → Ends' X H0 ρ body (.val .non)
  | exc {ρ1 : Env'} {n : Str} : Exec X H0 ρ body (.ex n ρ1) → Ends' X H0 ρ body (.exc n)
  | own {d : Dat} : Exec X H0 ρ body (.ro d) → Ends' X H0 ρ body (.own d)
/-- an owned thing is handed out -/
def ExecO (X : Cx) (H0 : Hp) (ρ : Env') (sts : List Stmt) (d : Dat) : Prop := ∀ D σ H N, Rep X.K H0 ρ σ H N → (∀ p H' N', Same H0 H' → Same N' H' → (∀ a u, N' a = some u → Mut (some u) → H0 a = none) → H0 p = none → N' p = none → Own X.K H' N' p d → D.rt (.ref p) H') → WB X sts D σ H
section
variable {P : Program} {w : World} {K : PySem.W.Frag} {mg : Str → Option Value} {base : Heap} {x : Str} {st : Stmt} {ps N : List Str} {k : Nat} {R : List Dat → Res → Prop}
/-- THE RULE for a def -/
theorem GFn.mk (D : Df K mg x st ps) (S : FnScope N ps (defScope st)) (hl : ∀ ds o, R ds o → ds.length = ps.length)
    (body : ∀ (f : Addr) (cdv : Value) (A : Around) (outer : List PySem.Env) (s : Shared) (H : Hp) (E : XK), Room k (XX P w K mg base N x st f cdv A outer s H E).A → ∀ ds o, R ds o → ∃ es, Ents es ds ∧ ∀ H0, match o with
      | .own d => ExecO (XX P w K mg base N x st f cdv A outer s H E) H0 (es ++ List.replicate (N.length - ps.length) .no) (defBody st) d
      | o => Ends' (XX P w K mg base N x st f cdv A outer s H E) H0 (es ++ List.replicate (N.length - ps.length) .no) (defBody st) o) : GFn P w K mg base x (k + 1) R := by
  obtain ⟨f, fd, F, hm, hb⟩ := D
  refine ⟨f, fd, ps, ?_, hm, F.kp, hb⟩
  refine F.okX S (fun vs H Q E ⟨ds, o, hr, a, _⟩ => by rw [a.length]; exact hl ds o hr) fun cdv A outer s H vs Q E hr hsp => ?_
  obtain ⟨ds, o, hR, a, q⟩ := hsp
  obtain ⟨es, he, hbody⟩ := body f cdv A outer s H E hr ds o hR
  have hlen : vs.length = ps.length := by rw [a.length]; exact hl ds o hR
  have r : Rep K H (es ++ List.replicate (N.length - ps.length) .no) (L2.start N vs) H (Imm H) := hlen ▸ rep_start he a
  have hb := hbody H
  refine ⟨_, pb_w, ?_⟩
  cases o with
  | val d =>
    cases hb with
    | ret h => exact h { nx := fun _ H' => Q .non H', rt := Q } _ _ _ r fun v H' s _ rt => q v H' s rt
    | non h => exact h { nx := fun _ H' => Q .non H', rt := Q } _ _ _ r fun σ H' N' s r' => q .non H' r'.old ⟨N', r'.sub, r'.fresh, .non⟩
  | own d => exact hb { nx := fun _ H' => Q .non H', rt := Q } _ _ _ r fun p H' N' s1 s2 s3 s4 s5 s6 => q p H' N' s1 s2 s3 s4 s5 s6
  | exc n =>
    cases hb with
    | exc h => exact h { nx := fun _ H' => Q .non H', rt := Q } _ _ _ r ⟨_, takes_of rfl rfl rfl rfl, fun C σ H' N' hm s r' => q C H' hm r'.old⟩
end
section
variable {X : Cx} {H0 : Hp} {ρ ρ1 ρ2 : Env'} {a b c e : Expr} {es : List Expr} {st : Stmt} {sts rest : List Stmt} {d d1 d2 : Dat} {ds : List Dat} {p pos : Pos} {o o1 : Outc} {x n : Str} {k k' : Nat} {R : List Dat → Res → Prop}
theorem xo_cons (h : ExS X H0 ρ st (.nx ρ1)) (t : ExecO X H0 ρ1 rest d) : ExecO X H0 ρ (st :: rest) d := fun D σ H N r q => by
  refine wb_of (pss_cons ps_w pb_w) ?_
  show WS X st { D with nx := WB X rest D } σ H
  exact h _ σ H N r fun σ' H' N' s r' => t D σ' H' N' r' q
theorem xo_ret (h : EvO X H0 ρ e d) : ExecO X H0 ρ [.Return (some e) pos] d := fun D σ H N r q => wb_of (pss_one (ps_ret pe_w)) ((h σ H N r).imp fun v H' ⟨N', p, e1, hp, s, n, r', np, ow⟩ => by
  subst e1
  exact q p H' N' r'.old r'.sub r'.fresh (r.old.free hp) np ow)
theorem xo_own (i : Nat) (h : ρ[i]? = some (.ow d)) (hN : X.N[i]? = some x := by rfl) (hv : Vis X.env.scope x := by first | exact Or.inl rfl | exact Or.inr (Or.inl rfl) | exact Or.inr (Or.inr rfl)) (hd : (x == ("__debug__" : Str)) = false := by decide)
    (hcd : (x == ("__classdict__" : Str)) = false := by decide) {pos'} : ExecO X H0 ρ [.Return (some (.Name x pos')) pos] d := fun D σ H N r q => wb_of (pss_one (ps_ret (pv i hN hv hd hcd)))
  (let ⟨p, h1, h2, h3, h4⟩ := r.ow i d h; ⟨.ref p, h1, q p H N r.old r.sub r.fresh h2 h3 h4⟩)

/-! ### calls of the text's defs -/
theorem GFn.mono {P : Program} {w : World} {K : PySem.W.Frag} {mg : Str → Option Value} {base : Heap} (G : GFn P w K mg base x k R) (h : k ≤ k') : GFn P w K mg base x k' R := by
  obtain ⟨f, fd, ps, F, r⟩ := G
  exact ⟨f, fd, ps, F.mono h, r⟩
theorem ev_call (G : GFn X.prog X.w X.K X.mg X.base x k R) (hr : Room k X.A) (ha : EvAB X H0 ρ (e :: es) ds) (q : R ds (.val d)) (hg : Gl X x := by rfl) (hdb : (x == ("__debug__" : Str)) = false := by decide)
    (he : starEach (e :: es) X.env = (false, eval e X.env) :: starEach es X.env := by rfl) (hpl : (backTo pos (starEach es X.env)).any (·.1) = false := by rfl) : Ev X H0 ρ (.Call (.Name x p) (e :: es) [] pos) d := fun σ H N r => by
  obtain ⟨f, fd, ps, F, hm, hk, hb⟩ := G
  refine we_of (pe_call F hr hg hm hk hb .nil passL pa_w hdb he hpl) ((ha σ H N r).imp fun vs H1 ⟨N1, s1, n1, r1, a1⟩ => ⟨ds, .val d, q, by rw [List.append_nil]; exact a1, fun v H' s' rt => ?_⟩)
  obtain ⟨N2, n2, r2, a2⟩ := r1.ret s' rt
  exact ⟨N2, s1.trans s', n1.trans n2, r2, a2⟩
theorem ev_call0 (G : GFn X.prog X.w X.K X.mg X.base x k R) (hr : Room k X.A) (q : R [] (.val d)) (hg : Gl X x := by rfl) (hdb : (x == ("__debug__" : Str)) = false := by decide) : Ev X H0 ρ (.Call (.Name x p) [] [] pos) d := fun σ H N r => by
  obtain ⟨f, fd, ps, F, hm, hk, hb⟩ := G
  refine we_of (pe_call0 F hr hg hm hk hb .nil passL hdb) ⟨[], .val d, q, .nil, fun v H' s' rt => ?_⟩
  obtain ⟨N2, n2, r2, a2⟩ := r.ret s' rt
  exact ⟨N2, s', n2, r2, a2⟩
theorem eo_call (G : GFn X.prog X.w X.K X.mg X.base x k R) (hr : Room k X.A) (ha : EvAB X H0 ρ (e :: es) ds) (q : R ds (.own d)) (hg : Gl X x := by rfl) (hdb : (x == ("__debug__" : Str)) = false := by decide)
    (he : starEach (e :: es) X.env = (false, eval e X.env) :: starEach es X.env := by rfl) (hpl : (backTo pos (starEach es X.env)).any (·.1) = false := by rfl) : EvO X H0 ρ (.Call (.Name x p) (e :: es) [] pos) d := fun σ H N r => by
  obtain ⟨f, fd, ps, F, hm, hk, hb⟩ := G
  refine we_of (pe_call F hr hg hm hk hb .nil passL pa_w hdb he hpl) ((ha σ H N r).imp fun vs H1 ⟨N1, s1, n1, r1, a1⟩ => ⟨ds, .own d, q, by rw [List.append_nil]; exact a1, fun p H' M s' m1 m2 m3 m4 ow => ?_⟩)
  have mN : N1 p = none := r1.sub.free m3
  have r1' := r1.grow s'
  have bp : both N1 M p = none := by unfold both; rw [if_pos mN]; exact m4
  refine ⟨both N1 M, p, rfl, s1.free m3, s1.trans s', n1.trans (both_l _ _), r1'.more (both_l N1 M) (both_sub r1'.sub m1) (fun a o h m => ?_) (fun i d q h1 h2 h3 => ?_), bp, ?_⟩
  · unfold both at h
    split at h
    · exact r1.old.free (m2 a o h m)
    · exact r1.fresh a o h m
  · unfold both
    rw [if_pos h3]
    obtain ⟨p', o', e1, e2, m⟩ := r1.own_some h1
    rw [h2] at e1
    cases e1
    cases z : M q with
    | none => rfl
    | some u =>
      have e3 := m1 q u z
      rw [s' _ _ e2] at e3
      cases e3
      have := m2 q _ z m
      rw [e2] at this
      cases this
  · cases d with
    | lst ds => obtain ⟨vs, q1, q2⟩ := ow; exact ⟨vs, q1, q2.mono (both_r r1'.sub m1)⟩
    | dic ds => obtain ⟨vs, q1, q2⟩ := ow; exact ⟨vs, q1, q2.mono (both_r r1'.sub m1)⟩
    | _ => exact ow
theorem exc_call (G : GFn X.prog X.w X.K X.mg X.base x k R) (hr : Room k X.A) (ha : EvAB X H0 ρ (e :: es) ds) (q : R ds (.exc n)) (hg : Gl X x := by rfl) (hdb : (x == ("__debug__" : Str)) = false := by decide)
    (he : starEach (e :: es) X.env = (false, eval e X.env) :: starEach es X.env := by rfl) (hpl : (backTo pos (starEach es X.env)).any (·.1) = false := by rfl) : EvX X H0 ρ (.Call (.Name x p) (e :: es) [] pos) n := fun σ H N r W tk kw Q => by
  obtain ⟨f, fd, ps, F, hm, hk, hb⟩ := G
  refine we_of (pe_callS F hr hg hm hk hb (fun σ => passAt tk σ) pa_w hdb he hpl) ((ha σ H N r).imp fun vs H1 ⟨N1, s1, n1, r1, a1⟩ => ⟨ds, .exc n, q, a1, fun C H' hC s' => ?_⟩)
  exact kw C H' N1 hC n1 (r1.grow s')
/-! .. that raise -/
theorem sx_retX (h : EvX X H0 ρ e n) : ExS X H0 ρ (.Return (some e) pos) (.ex n ρ) := fun D σ H N r ⟨W, tk, q⟩ => ws_of (ps_ret pe_w) (h σ H N r W tk (fun C H' N' hC s r' => q C σ H' N' hC s r') _)
theorem sx_exprX (h : EvX X H0 ρ e n) (hs : swapsWith e none pos.line X.env = pure false := by rfl) : ExS X H0 ρ (.Expr e pos) (.ex n ρ) := fun D σ H N r ⟨W, tk, q⟩ => ws_of (ps_expr pe_w hs) (h σ H N r W tk (fun C H' N' hC s r' => q C σ H' N' hC s r') _)
theorem sx_setX {i : Nat} {x : Str} {pos' : Pos} (h : EvX X H0 ρ e n) (nd : X.N.Nodup) (hi : X.N[i]? = some x := by rfl) (hx : Loc X.env.scope x := by first | exact Or.inl rfl | exact Or.inr rfl)
    (hs : swapsWith e (some (.Name x pos')) pos.line X.env = pure false := by rfl) (hf : X.fn x = true ∨ X.env.scope.names.lookup x = some .local := by first | exact .inl rfl | exact .inr rfl | assumption) : ExS X H0 ρ (.Assign [.Name x pos'] e pos) (.ex n ρ) := fun D σ H N r ⟨W, tk, q⟩ =>
  ws_of (ps_set nd hi hx pe_w hs hf) (h σ H N r W tk (fun C H' N' hC s r' => q C σ H' N' hC s r') _)
theorem sx_asgX {t : Expr} {ok : Dat → Prop} {bd : Dat → Env' → Env'} (h : EvX X H0 ρ e n) (hg : Tgt X H0 t ok bd) (hs : swapsWithSole [t] e pos.line X.env = pure false := by rfl) (hw : swappedStores [t] e X.env = pure none := by rfl)
    (h1 : (assignEach [t] X.env).map (·.2) = [assign t X.env] := by rfl) : ExS X H0 ρ (.Assign [t] e pos) (.ex n ρ) := fun D σ H N r ⟨W, tk, q⟩ => by
  obtain ⟨g, pg, _⟩ := hg.pg
  exact ws_of (ps_asg pe_w pg hs hw h1) (h σ H N r W tk (fun C H' N' hC s r' => q C σ H' N' hC s r') _)
theorem sx_asg {t : Expr} {ok : Dat → Prop} {bd : Dat → Env' → Env'} (h : Ev X H0 ρ e d) (hg : Tgt X H0 t ok bd) (hk : ok d) (hρ : bd d ρ = ρ1 := by rfl) (hs : swapsWithSole [t] e pos.line X.env = pure false := by rfl) (hw : swappedStores [t] e X.env = pure none := by rfl)
    (h1 : (assignEach [t] X.env).map (·.2) = [assign t X.env] := by rfl) : ExS X H0 ρ (.Assign [t] e pos) (.nx ρ1) := fun D σ H N r q => by
  obtain ⟨g, pg, gg⟩ := hg.pg
  exact ws_of (ps_asg pe_w pg hs hw h1) ((h σ H N r).imp fun v H' ⟨N', s, n, r', a⟩ => gg ρ σ H' N' v d r' a hk _ fun σ2 H2 N2 n2 r2 => q σ2 H2 N2 (n.trans n2) (hρ ▸ r2))
/-- (a, b) = a pair -/
theorem tg_pair (i j : Nat) {y z : Str} {p1 p2 : Pos} {kk : Nat} (nd : X.N.Nodup) (hc : X.calm = true) (hi : X.N[i]? = some y := by rfl) (hj : X.N[j]? = some z := by rfl) (hx : Loc X.env.scope y := by first | exact Or.inl rfl | exact Or.inr rfl) (hx2 : Loc X.env.scope z := by first | exact Or.inl rfl | exact Or.inr rfl)
    (hf : X.fn y = true ∨ X.env.scope.names.lookup y = some .local := by first | exact .inl rfl | exact .inr rfl | assumption) (hf2 : X.fn z = true ∨ X.env.scope.names.lookup z = some .local := by first | exact .inl rfl | exact .inr rfl | assumption)
    (hn : (assignEach [Expr.Name y p1, .Name z p2] X.env).length = 2 := by rfl) (hst : (assignEach [Expr.Name y p1, .Name z p2] X.env).findIdx? (·.1) = none := by rfl)
    (h1 : (assignEach [Expr.Name y p1, .Name z p2] X.env).map (·.2) = assign (.Name y p1) X.env :: (assignEach [Expr.Name z p2] X.env).map (·.2) := by rfl) (h2 : (assignEach [Expr.Name z p2] X.env).map (·.2) = assign (.Name z p2) X.env :: (assignEach [] X.env).map (·.2) := by rfl) :
    Tgt X H0 (.Tuple [.Name y p1, .Name z p2] kk pos) (fun d => ∃ a b, d = .tup [a, b]) (fun d ρ => match d with | .tup [a, b] => (ρ.set i (.im a)).set j (.im b) | _ => ρ) := by
  refine ⟨_, pg_tup hc (pgs_cons (pg_name nd hi hx hf) (pgs_cons (pg_name nd hj hx2 hf2) pgs_nil h2) h1) hn hst, fun ρ σ H N v d r a ok Q k => ?_⟩
  obtain ⟨d1, d2, rfl⟩ := ok
  obtain ⟨p, vs, rfl, q1, q2⟩ := at_seq a
  cases q2 with
  | cons a1 t =>
    cases t with
    | cons a2 t2 =>
      cases t2
      exact ⟨p, _, rfl, sqt_same r.sub q1, rfl, _, _, rfl, _, _, rfl, rfl, k _ H N (Same.refl _) ((r.setE (e := .im d1) a1).setE (e := .im d2) a2)⟩
/-- a, b = x, y -/
theorem sx_par (i j : Nat) {y z : Str} {px py pt : Pos} {kt k2 pt2} (ha : Ev X H0 ρ a d1) (hb : Ev X H0 ρ b d2) (nd : X.N.Nodup) (hc : X.calm = true) (hij : i ≠ j) (hρ : (ρ.set i (.im d1)).set j (.im d2) = ρ1 := by rfl) (hi : X.N[i]? = some y := by rfl) (hj : X.N[j]? = some z := by rfl)
    (hx : X.env.scope.names.lookup y = some .local := by rfl) (hy : X.env.scope.names.lookup z = some .local := by rfl) (hw : swappedStores [.Tuple [.Name y px, .Name z py] kt pt] (.Tuple [a, b] k2 pt2) X.env = pure (some [y, z]) := by rfl)
    (hs : swapsWithSole [.Tuple [.Name y px, .Name z py] kt pt] (.Tuple [a, b] k2 pt2) pos.line X.env = pure false := by rfl) (h1 : starEach [a, b] X.env = (false, eval a X.env) :: starEach [b] X.env := by rfl) (h2 : starEach [b] X.env = (false, eval b X.env) :: starEach [] X.env := by rfl) :
    ExS X H0 ρ (.Assign [.Tuple [.Name y px, .Name z py] kt pt] (.Tuple [a, b] k2 pt2) pos) (.nx ρ1) := fun D σ H N r q =>
  ws_of (ps_par hc nd hi hj hij hx hy pa_w hw hs) ((ea_cons ha (ea_cons hb ea_nil (hs := h2)) (hs := h1) σ H N r).imp fun vs H' ⟨N', s, n, r', a⟩ => by
    cases a with
    | cons a1 t =>
      cases t with
      | cons a2 t2 =>
        cases t2
        exact ⟨_, _, rfl, q _ H' N' n (hρ ▸ (r'.setE (e := .im d1) a1).setE (e := .im d2) a2)⟩)

/-! ### calls of built-ins -/
theorem ev_blt {r : List V → Hp → VK → Prop} {id : String} (cr : CallR X (.builtin id) r) (hm : X.mg x = none) (hv : bootBuiltins x = some (.builtin id)) (ha : EvAB X H0 ρ (e :: es) ds)
    (hr : ∀ vs σ H N Q, Rep X.K H0 ρ σ H N → Ats X.K H vs ds → Goes X.K H0 ρ σ H N d Q → r vs H Q) (hg : Gl X x := by rfl) (hn : x ≠ "__name__" := by decide) (hdb : (x == ("__debug__" : Str)) = false := by decide)
    (he : starEach (e :: es) X.env = (false, eval e X.env) :: starEach es X.env := by rfl) (hpl : (backTo pos (starEach es X.env)).any (·.1) = false := by rfl) : Ev X H0 ρ (.Call (.Name x p) (e :: es) [] pos) d := fun σ H N rp =>
  we_of (pe_callB cr hg hm hv pa_w hn hdb he hpl) ((ha σ H N rp).imp fun vs H1 ⟨N1, s1, n1, r1, a1⟩ => hr vs σ H1 N1 _ r1 a1 fun v H' N' s n rr aa => ⟨N', s1.trans s, n1.trans n, rr, aa⟩)
theorem ev_ty {r : List V → Hp → VK → Prop} {T : String} (cr : CallR X (.type T) r) (hm : X.mg x = none) (hv : bootBuiltins x = some (.type T)) (ha : EvAB X H0 ρ (e :: es) ds)
    (hr : ∀ vs σ H N Q, Rep X.K H0 ρ σ H N → Ats X.K H vs ds → Goes X.K H0 ρ σ H N d Q → r vs H Q) (hg : Gl X x := by rfl) (hn : x ≠ "__name__" := by decide) (hdb : (x == ("__debug__" : Str)) = false := by decide)
    (he : starEach (e :: es) X.env = (false, eval e X.env) :: starEach es X.env := by rfl) (hpl : (backTo pos (starEach es X.env)).any (·.1) = false := by rfl) : Ev X H0 ρ (.Call (.Name x p) (e :: es) [] pos) d := fun σ H N rp =>
  we_of (pe_callTy cr hg hm hv pa_w hn hdb he hpl) ((ha σ H N rp).imp fun vs H1 ⟨N1, s1, n1, r1, a1⟩ => hr vs σ H1 N1 _ r1 a1 fun v H' N' s n rr aa => ⟨N', s1.trans s, n1.trans n, rr, aa⟩)
def dlen : Dat → Option Nat
  | .str z => if z.length ≤ sizeLine then some z.length else none
  | .tup ds => some ds.length
  | .lst ds => some ds.length
  | _ => none
theorem at_len {K : PySem.W.Frag} {H : Hp} {v : V} {m : Nat} (h : At K H v d) (e : dlen d = some m) : LenV K v H m := by
  cases h with
  | str z =>
    by_cases hz : z.length ≤ sizeLine
    · rw [show dlen (.str z) = some z.length from if_pos hz] at e
      cases e
      exact ⟨hz, rfl⟩
    · rw [show dlen (.str z) = none from if_neg hz] at e
      cases e
  | tup a b => cases e; exact .inr ⟨_, a, b.length.symm⟩
  | lst a b => cases e; exact .inl ⟨_, a, b.length.symm⟩
  | _ => cases e
section one
variable {hs : starEach [a] X.env = (false, eval a X.env) :: starEach [] X.env}
theorem eab1 (h : EvB X H0 ρ a d) (hs : starEach [a] X.env = (false, eval a X.env) :: starEach [] X.env) : EvAB X H0 ρ [a] [d] := eab_cons h eab_nil hs
end one
theorem ats_one {K : PySem.W.Frag} {H : Hp} {vs : List V} (h : Ats K H vs [d]) : ∃ v, vs = [v] ∧ At K H v d := by
  cases h with | cons a t => cases t; exact ⟨_, rfl, a⟩
theorem ats_two {K : PySem.W.Frag} {H : Hp} {vs : List V} (h : Ats K H vs [d1, d2]) : ∃ v w, vs = [v, w] ∧ At K H v d1 ∧ At K H w d2 := by
  cases h with | cons a t => cases t with | cons b t2 => cases t2; exact ⟨_, _, rfl, a, b⟩
theorem ev_len {m : Nat} (ha : EvB X H0 ρ a d) (e : dlen d = some m) (hm : X.mg "len" = none) (hg : Gl X "len" := by rfl) (he : starEach [a] X.env = (false, eval a X.env) :: starEach [] X.env := by rfl) (hpl : (backTo pos (starEach [] X.env)).any (·.1) = false := by rfl) : Ev X H0 ρ (.Call (.Name "len" p) [a] [] pos) (.int m) :=
  ev_blt call_len hm PySem.boot_len (eab1 ha he) (fun vs σ H N Q r q g => let ⟨v, e1, e2⟩ := ats_one q; ⟨v, m, e1, at_len e2 e, goes_self g r (.int _)⟩) hg (by decide) (by decide) he hpl
theorem abs_eq (i : Int) : (if i < 0 then -i else i) = ((i.natAbs : Nat) : Int) := by split <;> omega
theorem ev_abs {i : Int} (ha : Ev X H0 ρ a (.int i)) (hm : X.mg "abs" = none) (hg : Gl X "abs" := by rfl) (he : starEach [a] X.env = (false, eval a X.env) :: starEach [] X.env := by rfl) (hpl : (backTo pos (starEach [] X.env)).any (·.1) = false := by rfl) : Ev X H0 ρ (.Call (.Name "abs" p) [a] [] pos) (.int ((i.natAbs : Nat) : Int)) :=
  ev_blt call_abs hm (by decide +kernel) (eab1 ha.toB he) (fun vs σ H N Q r q g => ⟨i, ats1 q, by rw [abs_eq]; exact goes_self g r (.int _)⟩) hg (by decide) (by decide) he hpl
theorem ev_min2 {i j : Int} (ha : Ev X H0 ρ a (.int i)) (hb : Ev X H0 ρ b (.int j)) (hc : X.calm = true) (hm : X.mg "min" = none) (hg : Gl X "min" := by rfl) (he : starEach [a, b] X.env = (false, eval a X.env) :: starEach [b] X.env := by rfl) (he2 : starEach [b] X.env = (false, eval b X.env) :: starEach [] X.env := by rfl) (hpl : (backTo pos (starEach [b] X.env)).any (·.1) = false := by rfl) :
    Ev X H0 ρ (.Call (.Name "min" p) [a, b] [] pos) (.int (min i j)) := ev_blt (call_min2 hc) hm (by decide +kernel) (eab_cons ha.toB (eab_cons hb.toB eab_nil he2) he) (fun vs σ H N Q r q g => ⟨i, j, ats2 q, by rw [show (if j < i then j else i) = min i j by omega]; exact goes_self g r (.int _)⟩) hg (by decide) (by decide) he hpl
theorem ev_max2 {i j : Int} (ha : Ev X H0 ρ a (.int i)) (hb : Ev X H0 ρ b (.int j)) (hc : X.calm = true) (hm : X.mg "max" = none) (hg : Gl X "max" := by rfl) (he : starEach [a, b] X.env = (false, eval a X.env) :: starEach [b] X.env := by rfl) (he2 : starEach [b] X.env = (false, eval b X.env) :: starEach [] X.env := by rfl) (hpl : (backTo pos (starEach [b] X.env)).any (·.1) = false := by rfl) :
    Ev X H0 ρ (.Call (.Name "max" p) [a, b] [] pos) (.int (max i j)) := ev_blt (call_max2 hc) hm (by decide +kernel) (eab_cons ha.toB (eab_cons hb.toB eab_nil he2) he) (fun vs σ H N Q r q g => ⟨i, j, ats2 q, by rw [show (if j > i then j else i) = max i j by omega]; exact goes_self g r (.int _)⟩) hg (by decide) (by decide) he hpl
/-! isinstance -/
def tyName : Dat → String
  | .non => "NoneType" | .bl _ => "bool" | .int _ => "int" | .str _ => "str" | .tup _ => "tuple" | .lst _ => "list" | .dic _ => "dict"
theorem at_ty {K : PySem.W.Frag} {H : Hp} {v : V} (h : At K H v d) : TyX K H v (.type (tyName d)) := by
  cases h with
  | non => exact .base .non
  | bl b => exact .base (.bl b)
  | int b => exact .base (.int b)
  | str b => exact .base (.str b)
  | tup h _ =>
    rcases h with (h | ⟨o, h⟩) | ⟨o, its, n, h, hc, _⟩
    · exact .base (.tup h)
    · exact .fTuple h
    · exact .kTuple h hc
  | lst h _ =>
    rcases h with (h | ⟨o, h⟩) | ⟨o, its, n, h, hc, _⟩
    · exact .base (.lst h)
    · exact .base (.frz h)
    · exact .kList h hc
  | dic h _ =>
    rcases h with h | ⟨o, h⟩
    · exact .base (.dK h)
    · exact .fDict h
theorem ev_isi {T : String} {y : Str} {p2 : Pos} {k : Bool} (ha : EvB X H0 ρ a d) (e : kitB (tyName d) T = some k) (hm : X.mg "isinstance" = none) (hmT : X.mg y = none) (hv : bootBuiltins y = some (.type T) := by decide +kernel) (hg : Gl X "isinstance" := by rfl) (hgT : Gl X y := by rfl) (hn : y ≠ "__name__" := by decide) (hdb : (y == ("__debug__" : Str)) = false := by decide)
    (he : starEach [a, .Name y p2] X.env = (false, eval a X.env) :: starEach [.Name y p2] X.env := by rfl) (he2 : starEach [.Name y p2] X.env = (false, eval (.Name y p2) X.env) :: starEach [] X.env := by rfl) (hpl : (backTo pos (starEach [.Name y p2] X.env)).any (·.1) = false := by rfl) :
    Ev X H0 ρ (.Call (.Name "isinstance" p) [a, .Name y p2] [] pos) (.bl k) := fun σ H N r =>
  we_of (pe_callB call_isi hg hm (by decide +kernel) (pa_cons pe_w (pa_cons (pe_bltn (v := .ty T) hgT hmT hv rfl hn hdb) pa_nil he2) he) (by decide) (by decide) he hpl)
    ((ha σ H N r).imp fun v H1 ⟨N1, s1, n1, r1, a1⟩ => ⟨v, .ty T, .type (tyName d), .type T, k, rfl, .ty T, at_ty a1, kit_ty e, N1, s1, n1, r1, .bl _⟩)
end
end B

namespace PySem.W
open PySem PySem.Spec PySem.Calls PyProof.Rows
end PySem.W
namespace B
open PySem PySem.Spec PyProof.Rows L2

/-! ### own exceptions: classes over ValueError, no __init__, made with a text -/
structure ExcAt (K : PySem.W.Frag) (mg : Str → Option Value) (n : Str) (C : Addr) : Prop where
  g : mg n = some (.ref C)
  x : PySem.W.excIn K C [.type "ValueError", .type "Exception", .type "BaseException", .type "object"] "ValueError.__new__" = true
  k : PySem.W.keepIn K (.ref C) = true
  b : PySem.W.subIn K (.ref C) (.type "BaseException") = some true
  t : PySem.W.typeIn K (.ref C) = some (.type "type")
def Exc (K : PySem.W.Frag) (mg : Str → Option Value) (n : Str) : Prop := ∃ C, ExcAt K mg n C
section
variable {X : Cx} {H0 : Hp} {ρ ρ1 ρ2 : Env'} {a b c e : Expr} {es : List Expr} {st : Stmt} {sts rest : List Stmt} {d d1 d2 : Dat} {ds : List Dat} {p pos : Pos} {o o1 : Outc} {x n : Str}
theorem sx_raise {m : Str} {j : Nat} {p p2 pos pos2 : Pos} (T : Exc X.K X.mg n) (hc : X.calm = true) (hg : Gl X n := by rfl) (hdb : (n == ("__debug__" : Str)) = false := by decide) : ExS X H0 ρ (.Raise (some (.Call (.Name n p) [.Constant (.str m) j p2] [] pos)) none pos2) (.ex n ρ) := fun D σ H N r ⟨W, tk, q⟩ => by
  obtain ⟨C, T⟩ := T
  exact ws_of (ps_raise hc tk (pmk_own PySem.F.excBase_ValueError T.x T.g T.k (raises_own T.b T.t) hg hdb)) (q C σ H N T.g (Same.refl _) r)
/-- the name of an except clause goes -/
theorem Rep.unset {K : PySem.W.Frag} {H0 H N : Hp} {ρ : Env'} {σ : L2.St} (r : Rep K H0 ρ σ H N) (i : Nat) : Rep K H0 (ρ.set i .no) (σ.set i none) H N := by
  have g : ∀ (j : Nat) (v : V), j ≠ i → σ[j]? = some (some v) → (σ.set i none)[j]? = some (some v) := fun j v n h => by rw [List.getElem?_set_ne (Ne.symm n)]; exact h
  have g' : ∀ (j : Nat) (v : V), (σ.set i none)[j]? = some (some v) → σ[j]? = some (some v) := fun j v h => by
    rcases get_set h with ⟨_, h'⟩ | ⟨_, h'⟩
    · cases h'
    · exact h'
  refine ⟨r.old, r.sub, r.imm, r.fresh, by rw [List.length_set, List.length_set, r.len], fun j d q => ?_, fun j d q => ?_, fun j d q => ?_, fun j d q => ?_, fun j k d d' p ne q1 q2 z1 z2 => ?_⟩
  · rcases get_set q with ⟨_, q'⟩ | ⟨n, q'⟩
    · cases q'
    · obtain ⟨v, h1, h2⟩ := r.im j d q'
      exact ⟨v, g j v n h1, h2⟩
  · rcases get_set q with ⟨_, q'⟩ | ⟨n, q'⟩
    · cases q'
    · obtain ⟨v, h1, h2⟩ := r.ol j d q'
      exact ⟨v, g j v n h1, h2⟩
  · rcases get_set q with ⟨_, q'⟩ | ⟨n, q'⟩
    · cases q'
    · obtain ⟨v, h1, h2⟩ := r.ow j d q'
      exact ⟨v, g j _ n h1, h2⟩
  · rcases get_set q with ⟨_, q'⟩ | ⟨n, q'⟩
    · cases q'
    · exact g j _ n (r.rf j d q')
  · rcases get_set q1 with ⟨_, q1'⟩ | ⟨n1, q1'⟩
    · cases q1'
    · rcases get_set q2 with ⟨_, q2'⟩ | ⟨n2, q2'⟩
      · cases q2'
      · exact r.apart j k d d' p ne q1' q2' (g' j _ z1) (g' k _ z2)
/-- behind the suite of «except .. as n» -/
def Outc.un (i : Nat) : Outc → Outc
  | .nx ρ => .nx (ρ.set i .no)
  | .rt d => .rt d
  | .ex n ρ => .ex n ρ
  | .bk ρ => .bk (ρ.set i .no)
  | .ct ρ => .ct (ρ.set i .no)
  | .ro d => .ro d
def Outc.noex : Outc → Prop
  | .ex _ _ => False
  | _ => True
/-- try: body, that raises m; except x as n: suite -/
theorem sx_try {m : Str} {i : Nat} {c : Value} {body suite : List Stmt} {b₀ : Stmt} {np pos pos' : Pos} (hs : X.stack = X.env :: X.outer) (hf : X.env.frame = some X.env.locals) (nd : X.N.Nodup) (hc : Names X x c) (he : ∀ C, X.mg m = some (.ref C) → PySem.W.exmOne X.K (.ref C) c = some true)
    (hb : ∀ (pn : List (Addr × Obj)) (xe : Value → Shared → Prop), PassesOwn (model X.prog X.w) X.A X.env xe → Exec (X.tr pn xe) H0 ρ body (.ex m ρ1))
    (hsu : ∀ (a C : Addr) (oe : Obj) (pn : List (Addr × Obj)), X.mg m = some (.ref C) → Zc (.ref C) none oe → (∃ vs, oe.data = .fields vs) → Exec (X.suite a ((a, oe) :: pn)) H0 (ρ1.set i (.rf a)) (b₀ :: suite) o)
    (ho : o.noex) (hi : X.N[i]? = some n := by rfl) (hln : X.env.kindOf n = some .local := by rfl) :
    ExS X H0 ρ (.Try body [.ExceptHandler (some (.Name x np)) (some n) (b₀ :: suite) pos'] [] [] pos) (o.un i) := fun D σ H N r k => by
  refine ws_of (ps_try_as (i := i) (c := c) (tb := fun W D σ H => ∀ pn xe, Takes (X.tr pn xe) W → PassesOwn (model X.prog X.w) X.A X.env xe → WB (X.tr pn xe) body D σ H)
    (ts := fun a cls d D σ H => ∀ oe pn, Zc cls d oe → (∃ vs, oe.data = .fields vs) → WB (X.suite a ((a, oe) :: pn)) (b₀ :: suite) D σ H) (Wout := fun _ _ _ _ => False) hs hf nd hi hln hc takes0 (fun W pn xe tk hp => ⟨fun pins s σ H D I h => (h pn xe tk hp).go pins s I⟩) (fun a oe cls d pn hz hd => ⟨fun pins s σ H D I h => (h oe pn hz hd).go pins s I⟩)) ?_
  intro pn xe tk hp
  refine hb pn xe hp _ σ H N r ⟨_, tk, fun C σ1 H1 N1 hC n1 r1 => ⟨true, he C hC, fun _ a ha oe pn' hz hd => ?_, fun z => nomatch z⟩⟩
  refine hsu a C oe pn' hC hz hd _ _ H1 N1 (r1.setE (v := .ref a) (e := .rf a) rfl) ?_
  cases o with
  | nx ρ2 => exact fun σ2 H2 N2 n2 r2 => k _ H2 N2 (n1.trans n2) (r2.unset i)
  | rt d => exact fun v H a b r => k v H a (n1.trans b) r
  | ex n ρ2 => exact ho.elim
  | bk ρ2 => exact fun σ2 H2 N2 n2 r2 => k _ H2 N2 (n1.trans n2) (r2.unset i)
  | ct ρ2 => exact fun σ2 H2 N2 n2 r2 => k _ H2 N2 (n1.trans n2) (r2.unset i)
  | ro d => exact fun p H' N2 a b r => k p H' N2 a (n1.trans b) r
/-- .. that raises nothing -/
theorem sx_tryN {i : Nat} {c : Value} {body suite : List Stmt} {b₀ : Stmt} {np pos pos' : Pos} (hs : X.stack = X.env :: X.outer) (hf : X.env.frame = some X.env.locals) (nd : X.N.Nodup) (hc : Names X x c)
    (hb : ∀ (pn : List (Addr × Obj)) (xe : Value → Shared → Prop), PassesOwn (model X.prog X.w) X.A X.env xe → Exec (X.tr pn xe) H0 ρ body o)
    (hsu : ∀ (a : Addr) (oe : Obj) (cls : Value) (d : Option Addr) (pn : List (Addr × Obj)), PSs (X.suite a ((a, oe) :: pn)) (b₀ :: suite) (WB (X.suite a ((a, oe) :: pn)) (b₀ :: suite)) := fun _ _ _ _ _ => pb_w)
    (ho : o.noex) (hi : X.N[i]? = some n := by rfl) (hln : X.env.kindOf n = some .local := by rfl) :
    ExS X H0 ρ (.Try body [.ExceptHandler (some (.Name x np)) (some n) (b₀ :: suite) pos'] [] [] pos) o := fun D σ H N r k => by
  refine ws_of (ps_try_as (i := i) (c := c) (tb := fun W D σ H => ∀ pn xe, Takes (X.tr pn xe) W → PassesOwn (model X.prog X.w) X.A X.env xe → WB (X.tr pn xe) body D σ H)
    (ts := fun a cls d D σ H => ∀ oe pn, Zc cls d oe → (∃ vs, oe.data = .fields vs) → WB (X.suite a ((a, oe) :: pn)) (b₀ :: suite) D σ H) (Wout := fun _ _ _ _ => False) hs hf nd hi hln hc takes0 (fun W pn xe tk hp => ⟨fun pins s σ H D I h => (h pn xe tk hp).go pins s I⟩) (fun a oe cls d pn hz hd => ⟨fun pins s σ H D I h => (h oe pn hz hd).go pins s I⟩)) ?_
  intro pn xe tk hp
  refine hb pn xe hp D σ H N r ?_
  cases o with
  | ex n ρ2 => exact ho.elim
  | nx ρ2 => exact k
  | rt d => exact k
  | bk ρ2 => exact k
  | ct ρ2 => exact k
  | ro d => exact k

/-! ### isinstance of the caught error -/
theorem call_isET {X : Cx} {a D : Addr} {oe : Obj} {pn : List (Addr × Obj)} (C : ExcC X.K D) (hz : Zc (.ref D) none oe) (hf : ∃ vs, oe.data = .fields vs) : CallR (X.suite a ((a, oe) :: pn)) (.builtin "isinstance")
    (fun xs H Q => ∃ (tp : Addr) (cs : List V) (us : List Value) (b : Bool), xs = [.ref a, .ref tp] ∧ H tp = some (.tup cs) ∧ Paired ClsV cs us ∧ PySem.W.kitAny X.K (.ref D) us = some b ∧ Q (.bl b) H) := by
  intro pins s σ H xs us Q I r h
  obtain ⟨tp, cs, ws, b, rfl, hT, k, e, q⟩ := h
  obtain ⟨u1, u2, rfl, r1, r2⟩ := vals2 r
  cases (show u1 = Value.ref a from r1)
  cases (show u2 = Value.ref tp from r2)
  obtain ⟨hget, _⟩ := I.pin (a, oe) (List.mem_append.mpr (.inl List.mem_cons_self))
  obtain ⟨vs, hv⟩ := hf
  have J : PySem.W.InstAt s.heap a oe D none := by
    obtain ⟨oc, od, oda, osl⟩ := oe
    obtain ⟨h1, h2⟩ := hz
    dsimp only at h1 h2 hv
    subst h1 h2 hv
    exact ⟨hget, rfl, rfl, trivial⟩
  obtain ⟨_, its, rv, o, h1, h2, n, h3⟩ := (show ObjOk X.prog X.w H s.heap tp (.tup cs) from I.hok tp _ hT)
  have e3 := ClsV.all k rv
  subst e3
  obtain ⟨oc, od, dt, sl⟩ := o
  simp only at h2 h3
  subst h2 h3
  exact PySem.W.kia_tup (PySem.W.handS_kitx_exc C.hg C.hk C.hs C.hd C.ha C.hn C.ht C.hm) I.kIn J h1 e (fun z => nomatch z) fun tk => ⟨.bl b, H, I.kept (t' := tk) fun _ _ z => z, rfl, q⟩
/-- a class of the text, or a built-in one, by its name -/
structure ClsN (X : Cx) (y : Str) (c : V) (u : Value) : Prop where
  v : ClsV c u
  g : Gl X y
  d : (y == ("__debug__" : Str)) = false
  m : X.mg y = some u ∨ (X.mg y = none ∧ bootBuiltins y = some u ∧ y ≠ "__name__")
theorem pe_cls {y : Str} {c : V} {u : Value} (h : ClsN X y c u) : PE X (.Name y pos) (tC c) := by
  have r : RelV c u := by
    obtain ⟨v, _, _, _⟩ := h
    cases v <;> rfl
  rcases h.m with m | ⟨m, b, n⟩
  · exact pe_glob h.g m r h.d
  · exact pe_bltn h.g m b r n h.d
theorem ev_isE {a D : Addr} {oe : Obj} {pn : List (Addr × Obj)} {y ee : Str} {p1 p2 : Pos} {k : Bool} {c : V} {u : Value} (i : Nat) (C : ExcC X.K D) (hz : Zc (.ref D) none oe) (hf : ∃ vs, oe.data = .fields vs) (hρ : ρ[i]? = some (.rf a)) (N : ClsN X y c u) (e : PySem.W.kitOne X.K (.ref D) u = some k)
    (hm : X.mg "isinstance" = none) (hN : X.N[i]? = some ee := by rfl) (hv : Vis X.env.scope ee := by first | exact Or.inl rfl | exact Or.inr (Or.inl rfl) | exact Or.inr (Or.inr rfl)) (hg : Gl X "isinstance" := by rfl) (hd : (ee == ("__debug__" : Str)) = false := by decide) (hcd : (ee == ("__classdict__" : Str)) = false := by decide)
    (he : starEach [.Name ee p1, .Name y p2] X.env = (false, eval (.Name ee p1) X.env) :: starEach [.Name y p2] X.env := by rfl) (he2 : starEach [.Name y p2] X.env = (false, eval (.Name y p2) X.env) :: starEach [] X.env := by rfl) (hpl : (backTo pos (starEach [.Name y p2] X.env)).any (·.1) = false := by rfl) :
    Ev (X.suite a ((a, oe) :: pn)) H0 ρ (.Call (.Name "isinstance" p) [.Name ee p1, .Name y p2] [] pos) (.bl k) := fun σ H N' r => by
  have N2 : ClsN (X.suite a ((a, oe) :: pn)) y c u := ⟨N.v, N.g, N.d, N.m⟩
  refine we_of (pe_callB (X := X.suite a ((a, oe) :: pn)) (call_isE C hz hf) hg hm (by decide +kernel) (pa_cons (pv (X := X.suite a ((a, oe) :: pn)) i hN hv hd hcd) (pa_cons (pe_cls N2) pa_nil he2) he) (by decide) (by decide) he hpl) ?_
  exact ⟨_, r.rf i a hρ, c, u, k, rfl, fun w q => N.v.eq q, e, N', Same.refl _, Same.refl _, r, .bl k⟩
/-- a row of classes -/
inductive ClsNs (X : Cx) : List Expr → List V → List Value → Prop where
  | nil : ClsNs X [] [] []
  | cons {y : Str} {c : V} {u : Value} {pp : Pos} {es : List Expr} {cs : List V} {us : List Value} : ClsN X y c u → ClsNs X es cs us → ClsNs X (.Name y pp :: es) (c :: cs) (u :: us)
theorem ClsNs.paired : ∀ {es : List Expr} {cs : List V} {us : List Value}, ClsNs X es cs us → Paired ClsV cs us
  | _, _, _, .nil => .nil
  | _, _, _, .cons h t => .cons h.v (ClsNs.paired t)
theorem ClsNs.len : ∀ {es : List Expr} {cs : List V} {us : List Value}, ClsNs X es cs us → cs.length = es.length
  | _, _, _, .nil => rfl
  | _, _, _, .cons h t => congrArg (· + 1) (ClsNs.len t)
/-- star-free rows of names -/
theorem wa_cls : ∀ {es : List Expr} {cs : List V} {us : List Value}, ClsNs X es cs us → (∀ y pp r, starEach (Expr.Name y pp :: r) X.env = (false, eval (Expr.Name y pp) X.env) :: starEach r X.env) → ∀ σ H Q, Q cs H → WA X es σ H Q
  | _, _, _, .nil, _, σ, H, Q, q => wa_of pa_nil q
  | _, _, _, .cons h t, hs, σ, H, Q, q => wa_of (pa_cons (pe_cls h) pa_w (hs _ _ _)) (wa_cls t hs σ H _ q)
theorem ev_isET {a D : Addr} {oe : Obj} {pn : List (Addr × Obj)} {ee : Str} {p1 p2 : Pos} {kk : Nat} {k : Bool} {cs : List V} {us : List Value} (i : Nat) (C : ExcC X.K D) (hz : Zc (.ref D) none oe) (hf : ∃ vs, oe.data = .fields vs) (hρ : ρ[i]? = some (.rf a)) (T : ClsNs (X.suite a ((a, oe) :: pn)) es cs us) (e : PySem.W.kitAny X.K (.ref D) us = some k)
    (hm : X.mg "isinstance" = none) (hl : es.length ≤ sizeLine) (hst : ∀ y pp r, starEach (Expr.Name y pp :: r) X.env = (false, eval (Expr.Name y pp) X.env) :: starEach r X.env := by intro _ _ _; rfl) (hN : X.N[i]? = some ee := by rfl) (hv : Vis X.env.scope ee := by first | exact Or.inl rfl | exact Or.inr (Or.inl rfl) | exact Or.inr (Or.inr rfl)) (hg : Gl X "isinstance" := by rfl)
    (hd : (ee == ("__debug__" : Str)) = false := by decide) (hcd : (ee == ("__classdict__" : Str)) = false := by decide)
    (he : starEach [.Name ee p1, .Tuple es kk p2] X.env = (false, eval (.Name ee p1) X.env) :: starEach [.Tuple es kk p2] X.env := by rfl) (he2 : starEach [.Tuple es kk p2] X.env = (false, eval (.Tuple es kk p2) X.env) :: starEach [] X.env := by rfl) (hpl : (backTo pos (starEach [.Tuple es kk p2] X.env)).any (·.1) = false := by rfl) :
    Ev (X.suite a ((a, oe) :: pn)) H0 ρ (.Call (.Name "isinstance" p) [.Name ee p1, .Tuple es kk p2] [] pos) (.bl k) := fun σ H N' r => by
  refine we_of (pe_callB (X := X.suite a ((a, oe) :: pn)) (call_isET C hz hf) hg hm (by decide +kernel) (pa_cons (pv (X := X.suite a ((a, oe) :: pn)) i hN hv hd hcd) (pa_cons (pe_tup pa_w) pa_nil he2) he) (by decide) (by decide) he hpl) ?_
  refine ⟨_, r.rf i a hρ, wa_cls T hst σ H _ ⟨by rw [T.len]; exact hl, fun tp hp => ?_⟩⟩
  have r2 := r.grow (Same.of_none (o := .tup cs) hp)
  exact ⟨tp, cs, us, k, rfl, upd_same, T.paired, e, N', Same.of_none hp, Same.refl _, r2, .bl k⟩

/-! ### lists of one's own -/
theorem pa1 {t : TE} (h : PE X e t) (he : starEach [e] X.env = (false, eval e X.env) :: starEach [] X.env := by rfl) : PA X [e] (tCons t tNil) := pa_cons h pa_nil he
theorem sx_append (i : Nat) {y : Str} {p1 p2 p3 : Pos} (hi : ρ[i]? = some (.ow (.lst ds))) (h : Ev X H0 ρ e d) (hz : ds.length < sizeLine) (hρ : ρ.set i (.ow (.lst (ds ++ [d]))) = ρ1 := by rfl) (hN : X.N[i]? = some y := by rfl) (hv : Vis X.env.scope y := by first | exact Or.inl rfl | exact Or.inr (Or.inl rfl) | exact Or.inr (Or.inr rfl))
    (hd : (y == ("__debug__" : Str)) = false := by decide) (hcd : (y == ("__classdict__" : Str)) = false := by decide)
    (hpe : ∀ to t, PE X (.Name y p1) to → PA X [e] t → PE X (.Call (.Attribute (.Name y p1) "append" p2) [e] [] p3) (tBM X.K "list" rAppend to t) := by exact fun _ _ h g => pe_bm PySem.F.plainAttrs_list PySem.F.slot_list_append PySem.F.type_list_append mt_append h g)
    (he : starEach [e] X.env = (false, eval e X.env) :: starEach [] X.env := by rfl) (hs : swapsWith (.Call (.Attribute (.Name y p1) "append" p2) [e] [] p3) none pos.line X.env = pure false := by rfl) :
    ExS X H0 ρ (.Expr (.Call (.Attribute (.Name y p1) "append" p2) [e] [] p3) pos) (.nx ρ1) := fun D σ H N r k => by
  obtain ⟨q, g1, g2, g3, vs, g4, g5⟩ := r.ow i _ hi
  refine ws_of (ps_expr (hpe _ _ (pv i hN hv hd hcd) (pa_cons pe_w pa_nil he)) hs) ⟨_, g1, .inl ⟨rfl, _, .inl (.inl g4)⟩, (h σ H N r).imp fun v H1 ⟨N1, s1, n1, r1, a1⟩ => ?_⟩
  obtain ⟨q', f1, f2, f3, us, f4, f5⟩ := r1.ow i _ hi
  rw [g1] at f1
  cases f1
  refine ⟨q, us, v, rfl, rfl, f4, by rw [f5.length]; exact hz, k σ _ N1 n1 ?_⟩
  exact hρ ▸ r1.write hi g1 ⟨us ++ [v], upd_same, f5.append (.cons a1 .nil)⟩

/-! ### == of data -/
mutual
def pd : Dat → PyData
  | .non => .none
  | .bl b => .bool b
  | .int i => .int i
  | .str s => .str s
  | .tup ds => .tuple (pds ds)
  | .lst ds => .list (pds ds)
  | .dic _ => .dict []
def pds : List Dat → List PyData
  | [] => []
  | d :: r => pd d :: pds r
end
mutual
/-- no dict in it -/
def nodic : Dat → Bool
  | .tup ds => nodics ds
  | .lst ds => nodics ds
  | .dic _ => false
  | .non => true
  | .bl _ => true
  | .int _ => true
  | .str _ => true
def nodics : List Dat → Bool
  | [] => true
  | d :: r => nodic d && nodics r
end
mutual
theorem At.dp {K : PySem.W.Frag} {H : Hp} : ∀ {v : V} {d : Dat}, At K H v d → nodic d = true → Dp K H v (pd d)
  | _, _, .non, _ => .non
  | _, _, .bl b, _ => .bl b
  | _, _, .int i, _ => .int i
  | _, _, .str s, _ => .str s
  | _, _, .tup h t, f => .tup h (Ats.dp t (by simpa only [nodic] using f))
  | _, _, .lst h t, f => .lst h (Ats.dp t (by simpa only [nodic] using f))
  | _, _, .dic _ _, f => by simp [nodic] at f
theorem Ats.dp {K : PySem.W.Frag} {H : Hp} : ∀ {vs : List V} {ds : List Dat}, Ats K H vs ds → nodics ds = true → DpAll K H vs (pds ds)
  | _, _, .nil, _ => .nil
  | _, _, .cons a t, f => by
    simp only [nodics, Bool.and_eq_true] at f
    exact .cons (At.dp a f.1) (Ats.dp t f.2)
end
def okD (d : Dat) : Bool := nodic d && SeqAt.shaped (pd d)
theorem okD_1 {d : Dat} (h : okD d = true) : nodic d = true := (Bool.and_eq_true_iff.mp h).1
theorem okD_2 {d : Dat} (h : okD d = true) : SeqAt.shaped (pd d) = true := (Bool.and_eq_true_iff.mp h).2
theorem ev_eqD (ha : EvB X H0 ρ a d1) (hb : EvB X H0 ρ b d2) (hu : X.A.units + 64 < cLine) (h1 : okD d1 = true) (h2 : okD d2 = true) : Ev X H0 ρ (.Compare a [.Eq] [b] pos) (.bl (PyData.eqv (pd d1) (pd d2))) :=
  ev_bin (fun _ _ h k => pe_cmpR (op_eqD hu) h k (nomark _)) ha hb fun x y σ H N Q r p q g => ⟨_, _, p.dp (okD_1 h1), q.dp (okD_1 h2), okD_2 h1, okD_2 h2, goes_self g r (.bl _)⟩
theorem ev_neD (ha : EvB X H0 ρ a d1) (hb : EvB X H0 ρ b d2) (hu : X.A.units + 64 < cLine) (h1 : okD d1 = true) (h2 : okD d2 = true) : Ev X H0 ρ (.Compare a [.NotEq] [b] pos) (.bl (!PyData.eqv (pd d1) (pd d2))) :=
  ev_bin (fun _ _ h k => pe_cmpR (op_neD hu) h k (nomark _)) ha hb fun x y σ H N Q r p q g => ⟨_, _, p.dp (okD_1 h1), q.dp (okD_1 h2), okD_2 h1, okD_2 h2, goes_self g r (.bl _)⟩
theorem et_eqD (ha : EvB X H0 ρ a d1) (hb : EvB X H0 ρ b d2) (hu : X.A.units + 64 < cLine) (h1 : okD d1 = true) (h2 : okD d2 = true) : EvT X H0 ρ (.Compare a [.Eq] [b] pos) (PyData.eqv (pd d1) (pd d2)) :=
  evt_bin (fun _ _ h k => pt_cmpR (op_eqD hu) h k (nomark _)) ha hb fun x y σ H N Q r p q g => ⟨_, _, p.dp (okD_1 h1), q.dp (okD_1 h2), okD_2 h1, okD_2 h2, goes_self g r (.bl _)⟩
theorem et_neD (ha : EvB X H0 ρ a d1) (hb : EvB X H0 ρ b d2) (hu : X.A.units + 64 < cLine) (h1 : okD d1 = true) (h2 : okD d2 = true) : EvT X H0 ρ (.Compare a [.NotEq] [b] pos) (!PyData.eqv (pd d1) (pd d2)) :=
  evt_bin (fun _ _ h k => pt_cmpR (op_neD hu) h k (nomark _)) ha hb fun x y σ H N Q r p q g => ⟨_, _, p.dp (okD_1 h1), q.dp (okD_1 h2), okD_2 h1, okD_2 h2, goes_self g r (.bl _)⟩

end
/-! ### list comprehensions -/
section
variable {K : PySem.W.Frag} {H0 H0' H H' N N' : Hp} {ρ : Env'} {σ : L2.St} {D : Addr} {acc : List V}
/-- the list at D, that no name holds, is taken for old -/
theorem Rep.toOld (r : Rep K H0 ρ σ H N) (h0 : H0 D = none) (hD : H D = some (.lst acc)) (hN : N D = none) (hp : ∀ (i : Nat) d, ρ[i]? = some (Ent.ow d) → σ[i]? ≠ some (some (V.ref D))) : Rep K (upd H0 D (.lst acc)) ρ σ H N where
  old := fun a o h => by
    by_cases ha : a = D
    · subst ha; rw [upd_same] at h; rw [hD]; exact h
    · rw [upd_ne ha] at h; exact r.old a o h
  sub := r.sub
  imm := fun a o h => by
    by_cases ha : a = D
    · subst ha
      have h1 := imm_sub _ _ _ h
      rw [upd_same] at h1
      cases h1
      exact (imm_not h True.intro).elim
    · have h1 := imm_sub _ _ _ h
      rw [upd_ne ha] at h1
      exact r.imm a o (imm_of h1 (imm_not h))
  fresh := fun a o h m => by
    by_cases ha : a = D
    · subst ha; rw [hN] at h; cases h
    · rw [upd_ne ha]; exact r.fresh a o h m
  len := r.len
  im := r.im
  ol := fun i d h => by
    obtain ⟨v, h1, h2⟩ := r.ol i d h
    exact ⟨v, h1, h2.mono (Same.of_none h0)⟩
  ow := fun i d h => by
    obtain ⟨p, h1, h2, h3⟩ := r.ow i d h
    exact ⟨p, h1, by rw [upd_ne (fun e => hp i d h (by rw [← e]; exact h1))]; exact h2, h3⟩
  rf := r.rf
  apart := r.apart
theorem Rep.back0 (r : Rep K H0 ρ σ H N) (s : Same H0 H0') (r' : Rep K H0' ρ σ H' N') : Rep K H0 ρ σ H' N' where
  old := s.trans r'.old
  sub := r'.sub
  imm := (imm_same s).trans r'.imm
  fresh := fun a o h m => s.free (r'.fresh a o h m)
  len := r.len
  im := r'.im
  ol := r.ol
  ow := fun i d h => by
    obtain ⟨p, h1, h2, h3⟩ := r'.ow i d h
    exact ⟨p, h1, s.free h2, h3⟩
  rf := r.rf
  apart := r.apart
theorem Rep.back {i : Nat} {x : V} {e : Ent} (r : Rep K H0 ρ σ H N) (hx : ρ[i]? = some .no) (s : Same H0 H0') (r' : Rep K H0' (ρ.set i e) (σ.set i (some x)) H' N') : Rep K H0 ρ σ H' N' := by
  have ne : ∀ {j : Nat} {t : Ent}, ρ[j]? = some t → t ≠ .no → i ≠ j := fun {j t} h n z => by
    subst z
    rw [hx] at h
    cases h
    exact n rfl
  refine ⟨s.trans r'.old, r'.sub, (imm_same s).trans r'.imm, fun a o h m => s.free (r'.fresh a o h m), r.len, fun j d h => ?_, r.ol, fun j d h => ?_, r.rf, r.apart⟩
  · have n := ne h (fun z => nomatch z)
    obtain ⟨v, h1, h2⟩ := r'.im j d (by rw [List.getElem?_set_ne n]; exact h)
    rw [List.getElem?_set_ne n] at h1
    exact ⟨v, h1, h2⟩
  · have n := ne h (fun z => nomatch z)
    obtain ⟨p, h1, h2, h3⟩ := r'.ow j d (by rw [List.getElem?_set_ne n]; exact h)
    rw [List.getElem?_set_ne n] at h1
    exact ⟨p, h1, s.free h2, h3⟩
theorem Rep.updD {o : HO} (r : Rep K H0 ρ σ H N) (h0 : H0 D = none) (hN : N D = none) (hp : ∀ (i : Nat) d, ρ[i]? = some (Ent.ow d) → σ[i]? ≠ some (some (V.ref D))) : Rep K H0 ρ σ (upd H D o) N where
  old := fun a u h => by rw [upd_ne (ne_of_none h h0)]; exact r.old a u h
  sub := fun a u h => by rw [upd_ne (ne_of_none h hN)]; exact r.sub a u h
  imm := r.imm
  fresh := r.fresh
  len := r.len
  im := r.im
  ol := r.ol
  ow := fun i d h => by
    obtain ⟨p, h1, h2, h3, h4⟩ := r.ow i d h
    have n : p ≠ D := fun e => hp i d h (e ▸ h1)
    refine ⟨p, h1, h2, h3, ?_⟩
    cases d with
    | lst ds => obtain ⟨vs, q1, q2⟩ := h4; exact ⟨vs, by rw [upd_ne n]; exact q1, q2⟩
    | dic ds => obtain ⟨vs, q1, q2⟩ := h4; exact ⟨vs, by rw [upd_ne n]; exact q1, q2⟩
    | _ => exact h4
  rf := r.rf
  apart := r.apart
/-- what stands at D is nobody's data -/
theorem Rep.notD {ρ' : Env'} {σ' : L2.St} (r : Rep K (upd H0 D (.lst acc)) ρ' σ' H N) : N D = none := by
  cases e : N D with
  | none => rfl
  | some o =>
    have h1 := r.sub _ _ e
    have h2 := r.old D (.lst acc) upd_same
    rw [h1] at h2
    cases h2
    have := r.fresh _ _ e True.intro
    rw [upd_same] at this
    cases this
end
section
variable {X : Cx} {H0 : Hp} {ρ ρ1 ρ2 : Env'} {a b c e : Expr} {es : List Expr} {st : Stmt} {sts rest : List Stmt} {d d1 d2 : Dat} {ds : List Dat} {p pos : Pos} {o o1 : Outc} {x n : Str}
/-- what a comprehension makes of its items: the test of each, the element -/
theorem eo_comp {elt tg iter : Expr} {ifs : List Expr} {scope : Scope} {xn : Str} (i : Nat) {pos : Pos} (hc : X.calm = true) (nd : X.N.Nodup) (hi : Iter X H0 ρ tg iter ds) (ok : blkC X.N X.env.scope scope [(xn, i)] = true) (hx : ρ[i]? = some .no) (f : Dat → Bool) (g : Dat → Dat)
    (htg : ∀ (s : Shared) (H : Hp) (C : Addr) (cl : List (Str × Addr)) (fp : List Addr), PG (X.blk s H scope (compEnvC scope cl C X.env) fp) tg (gName i))
    (hif : (ifs = [] ∧ ∀ d ∈ ds, f d = true) ∨ ∃ c, ifs = [c] ∧ ∀ (H0' : Hp) (s : Shared) (H : Hp) (C : Addr) (cl : List (Str × Addr)) (fp : List Addr), Same H0 H0' → ∀ d ∈ ds, EvT (X.blk s H scope (compEnvC scope cl C X.env) fp) H0' (ρ.set i (.im d)) c (f d))
    (hel : ∀ (H0' : Hp) (s : Shared) (H : Hp) (C : Addr) (cl : List (Str × Addr)) (fp : List Addr), Same H0 H0' → ∀ d ∈ ds, f d = true → Ev (X.blk s H scope (compEnvC scope cl C X.env) fp) H0' (ρ.set i (.im d)) elt (g d))
    (hz : ds.length < sizeLine) (hs : ∀ x, foldedSetIterable iter X.env x = pure x := by intro _; rfl) : EvO X H0 ρ (.ListComp elt [⟨tg, iter, ifs, 0⟩] scope pos) (.lst ((ds.filter f).map g)) := fun σ H N r => by
  obtain ⟨wi, pi, hw⟩ := hi
  have pts : ∀ (s : Shared) (H : Hp) (C : Addr) (cl : List (Str × Addr)) (fp : List Addr), PTs (X.blk s H scope (compEnvC scope cl C X.env) fp) ifs
      (fun σ H Q => (ifs = [] ∧ Q true H) ∨ ∃ c, ifs = [c] ∧ ∀ s H' C cl fp, WT (X.blk s H' scope (compEnvC scope cl C X.env) fp) c σ H Q) := fun s H C cl fp => ⟨fun pins s' σ H Q I h => by
    rcases h with ⟨rfl, h⟩ | ⟨c, rfl, h⟩
    · exact pts_nil.run pins s' σ H Q I h
    · exact (pts_one pt_w).run pins s' σ H Q I (h _ _ _ _ _)⟩
  have pes : ∀ (s : Shared) (H : Hp) (C : Addr) (cl : List (Str × Addr)) (fp : List Addr), PE (X.blk s H scope (compEnvC scope cl C X.env) fp) elt
      (fun σ H Q => ∀ s H' C cl fp, WE (X.blk s H' scope (compEnvC scope cl C X.env) fp) elt σ H Q) := fun s H C cl fp => ⟨fun pins s' σ H Q I h => (h _ _ _ _ _).go pins s' I⟩
  refine we_of (pe_lc hc nd pi (blkOk_by ok) htg pts pes hs) (hw σ H N r _ fun J H1 N1 n1 s1 r1 w => fun D hD => ?_)
  have hiσ : i < σ.length := by rw [← r.len]; exact lt_of_get hx
  refine ⟨fun j m H' => m = ds.length - j ∧ j ≤ ds.length ∧ ∃ N' acc, Same N1 N' ∧ Same H1 H' ∧ Rep X.K H0 ρ σ H' N' ∧ N' D = none ∧ H' D = some (.lst acc) ∧ Ats X.K N' acc (((ds.take j).filter f).map g), ⟨_, rfl, Nat.zero_le _, N1, [], Same.refl _, Same.of_none hD, r1.grow (Same.of_none hD), r1.sub.free hD, upd_same, by simpa using Ats.nil⟩, ?_⟩
  rintro j m H' ⟨rfl, hj, N', acc, s', e', r', dN, dH, aa⟩
  have h0D : H0 D = none := r1.old.free hD
  have npD : ∀ (q : Nat) d, ρ[q]? = some (Ent.ow d) → σ[q]? ≠ some (some (V.ref D)) := no_own r1 hD
  obtain ⟨wg, wst⟩ := w (upd H0 D (.lst acc)) ρ σ H' N' j (Same.of_none h0D) s' (r'.toOld h0D dH dN npD)
  by_cases hlt : j < ds.length
  · obtain ⟨go, yl⟩ := wg hlt
    have et : ds.take (j + 1) = ds.take j ++ [ds[j]] := by rw [List.take_succ, List.getElem?_eq_getElem hlt]; rfl
    refine .inr ⟨go, fun H' => ∃ N' acc, Same N1 N' ∧ Same H1 H' ∧ Rep X.K H0 ρ σ H' N' ∧ N' D = none ∧ H' D = some (.lst acc) ∧ Ats X.K N' acc (((ds.take (j + 1)).filter f).map g), fun H2 q => ⟨_, by omega, rfl, hlt, q⟩, fun x H2 y => ?_⟩
    obtain ⟨N2, d, n2, e2, r2, e3, a2⟩ := yl x H2 y
    have ed : d = ds[j] := by
      rw [List.getElem?_eq_getElem hlt] at e3
      exact (Option.some.inj e3).symm
    subst ed
    have dH2 : H2 D = some (.lst acc) := e2 _ _ dH
    have np : ∀ (q : Nat) d, ρ[q]? = some (Ent.ow d) → σ[q]? ≠ some (some (V.ref D)) := no_own r1 hD
    have d0 : Same H0 (upd H0 D (.lst acc)) := Same.of_none h0D
    have mem : ds[j] ∈ ds := List.getElem_mem hlt
    have dH2 : H2 D = some (.lst acc) := e2 _ _ dH
    have r2' : Rep X.K (upd H0 D (.lst acc)) ρ σ H2 N2 := r2
    have rs := r2'.setE (i := i) (v := x) (e := .im ds[j]) a2
    have ws : (wipe σ [i]).set i (some x) = σ.set i (some x) := by show (σ.set i none).set i (some x) = _; rw [List.set_set]
    show wipe ((wipe σ [i]).set i (some x)) [i] = wipe σ [i] ∧ _
    refine ⟨by rw [ws]; show (σ.set i (some x)).set i none = σ.set i none; rw [List.set_set], ?_⟩
    rw [show (wipe σ (List.map (fun (x : Str × Nat) => x.snd) [(xn, i)])).set i (some x) = σ.set i (some x) from ws]
    have elem : ∀ H3 N3, f ds[j] = true → Same H2 H3 → Same N2 N3 → Rep X.K (upd H0 D (.lst acc)) (ρ.set i (.im ds[j])) (σ.set i (some x)) H3 N3 → ∀ s H' C cl fp, WE (X.blk s H' scope (compEnvC scope cl C X.env) fp) elt (σ.set i (some x)) H3 fun y H4 => ∃ acc', H4 D = some (.lst acc') ∧ acc'.length < sizeLine ∧
        ∃ N' a', Same N1 N' ∧ Same H1 (upd H4 D (.lst (acc' ++ [y]))) ∧ Rep X.K H0 ρ σ (upd H4 D (.lst (acc' ++ [y]))) N' ∧ N' D = none ∧ (upd H4 D (.lst (acc' ++ [y]))) D = some (.lst a') ∧ Ats X.K N' a' (((ds.take (j + 1)).filter f).map g) := fun H3 N3 hf e3' n3 r3 s H5 C cl fp => by
      refine (hel _ s H5 C cl fp d0 _ mem hf _ _ _ r3).imp fun y H4 ⟨N4, s4, n4, r4, a4⟩ => ?_
      have q4 : H4 D = some (.lst acc) := s4 _ _ (e3' _ _ dH2)
      refine ⟨acc, q4, ?_, N4, acc ++ [y], (((s'.trans n2).trans n3).trans n4), fun a u h => ?_, (r'.back hx d0 r4).updD h0D r4.notD np, r4.notD, upd_same, ?_⟩
      · rw [aa.length, List.length_map]
        have := List.length_filter_le f (ds.take j)
        have := List.length_take_le j ds
        omega
      · rw [upd_ne (ne_of_none h hD)]
        exact s4 _ _ (e3' _ _ (e2 _ _ (e' a u h)))
      · rw [et, List.filter_append, List.map_append]
        refine ((aa.mono n2).mono n3 |>.mono n4).append ?_
        rw [List.filter_cons, if_pos hf]
        exact .cons a4 .nil
    have skip : ∀ H3 N3, f ds[j] = false → Same H2 H3 → Same N2 N3 → Rep X.K (upd H0 D (.lst acc)) (ρ.set i (.im ds[j])) (σ.set i (some x)) H3 N3 → ∃ N' acc, Same N1 N' ∧ Same H1 H3 ∧ Rep X.K H0 ρ σ H3 N' ∧ N' D = none ∧ H3 D = some (.lst acc) ∧ Ats X.K N' acc (((ds.take (j + 1)).filter f).map g) := fun H3 N3 hf e3' n3 r3 => by
      refine ⟨N3, acc, (s'.trans n2).trans n3, (e'.trans e2).trans e3', r'.back hx d0 r3, r3.notD, e3' _ _ dH2, ?_⟩
      rw [et, List.filter_append, List.map_append, List.filter_cons, if_neg (by rw [hf]; exact Bool.false_ne_true)]
      simpa using (aa.mono n2).mono n3
    rcases hif with ⟨hne, hft⟩ | ⟨c, hc', ht⟩
    · exact .inl ⟨hne, iteT (elem H2 N2 (hft _ mem) (Same.refl _) (Same.refl _) rs)⟩
    · refine .inr ⟨c, hc', fun s H5 C cl fp => ?_⟩
      refine (ht _ s H5 C cl fp d0 _ mem _ _ _ rs).imp fun bb H3 ⟨eb, N3, s3, n3, r3⟩ => ?_
      subst eb
      cases hf : f ds[j] with
      | true => exact iteT (elem H3 N3 hf s3 n3 r3)
      | false => exact iteF (skip H3 N3 hf s3 n3 r3)
  · have e1 : j = ds.length := by omega
    subst e1
    rw [List.take_length] at aa
    exact .inl ⟨wst rfl, N', D, rfl, s1.free hD, s1.trans e', n1.trans s', r', dN, acc, dH, aa⟩
end
end B

namespace B
open PySem PySem.Spec PyProof.Rows L2
def Outc.out : Outc → Prop
  | .nx _ => False
  | _ => True
section
variable {X : Cx} {H0 : Hp} {ρ ρ1 ρ2 : Env'} {a b c e : Expr} {es : List Expr} {st : Stmt} {sts rest : List Stmt} {d d1 d2 : Dat} {ds : List Dat} {p pos : Pos} {o o1 : Outc} {x n : Str}
theorem et_to {k l : Bool} (h : EvT X H0 ρ e k) (hk : k = l) : EvT X H0 ρ e l := hk ▸ h
theorem ev_to (h : Ev X H0 ρ e d1) (hk : d1 = d) : Ev X H0 ρ e d := hk ▸ h
theorem ex_out (h : ExS X H0 ρ st o) (ho : o.out) : Exec X H0 ρ (st :: rest) o := by
  refine ex_cons h ?_
  cases o with
  | nx ρ => exact ho.elim
  | _ => rfl
theorem ev_powC {i j r : Int} (ha : Ev X H0 ρ a (.int i)) (hb : Ev X H0 ρ b (.int j)) (h : CPow i j) (e : i ^ j.toNat = r) : Ev X H0 ρ (.BinOp a .Pow b pos) (.int r) := ev_to (ev_pow ha hb h) (by rw [e])
theorem ev_shlC {i j r : Int} (ha : Ev X H0 ρ a (.int i)) (hb : Ev X H0 ρ b (.int j)) (h : CPow i j) (e : i * 2 ^ j.toNat = r) : Ev X H0 ρ (.BinOp a .LShift b pos) (.int r) := ev_to (ev_shl ha hb h) (by rw [e])
theorem mul_ok {i j : Int} (m n : Nat) (h1 : i.natAbs < 2 ^ m) (h2 : j.natAbs < 2 ^ n) (h0 : 0 < m) (h0' : 0 < n) (h : m + n ≤ 1000000) : IntMulOk i j := (wide_mul h1 h2 h0 h0' h).ok
theorem mul_l {i j : Int} (h1 : -(2 ^ 64) < i) (h2 : i < 2 ^ 64) : IntMulOk i j := .of_left (intBits_le_64 h1 h2)
theorem mul_r {i j : Int} (h1 : -(2 ^ 64) < j) (h2 : j < 2 ^ 64) : IntMulOk i j := .of_right (intBits_le_64 h1 h2)
end
section
variable {P : Program} {w : World} {K : PySem.W.Frag} {mg : Str → Option Value} {base : Heap} {x : Str} {st : Stmt} {ps N : List Str} {k : Nat} {R : List Dat → Res → Prop} {f : Addr} {fd : FuncData}
/-- THE RULE for a def, its address told -/
theorem fn_mk (F : Fun K x x st f fd) (S : FnScope N ps (defScope st)) (hl : ∀ ds o, R ds o → ds.length = ps.length)
    (body : ∀ (f : Addr) (cdv : Value) (A : Around) (outer : List PySem.Env) (s : Shared) (H : Hp) (E : XK), Room k (XX P w K mg base N x st f cdv A outer s H E).A → ∀ ds o, R ds o → ∃ es, Ents es ds ∧ ∀ H0, match o with
      | .own d => ExecO (XX P w K mg base N x st f cdv A outer s H E) H0 (es ++ List.replicate (N.length - ps.length) .no) (defBody st) d
      | o => Ends' (XX P w K mg base N x st f cdv A outer s H E) H0 (es ++ List.replicate (N.length - ps.length) .no) (defBody st) o) : FnOk P w K mg base (L2.CX P w) (k + 1) f fd ps (spR K mg R) := by
  refine F.okX S (fun vs H Q E ⟨ds, o, hr, a, _⟩ => by rw [a.length]; exact hl ds o hr) fun cdv A outer s H vs Q E hr hsp => ?_
  obtain ⟨ds, o, hR, a, q⟩ := hsp
  obtain ⟨es, he, hbody⟩ := body f cdv A outer s H E hr ds o hR
  have hlen : vs.length = ps.length := by rw [a.length]; exact hl ds o hR
  have r : Rep K H (es ++ List.replicate (N.length - ps.length) .no) (L2.start N vs) H (Imm H) := hlen ▸ rep_start he a
  have hb := hbody H
  refine ⟨_, pb_w, ?_⟩
  cases o with
  | val d =>
    cases hb with
    | ret h => exact h { nx := fun _ H' => Q .non H', rt := Q } _ _ _ r fun v H' s _ rt => q v H' s rt
    | non h => exact h { nx := fun _ H' => Q .non H', rt := Q } _ _ _ r fun σ H' N' s r' => q .non H' r'.old ⟨N', r'.sub, r'.fresh, .non⟩
  | own d => exact hb { nx := fun _ H' => Q .non H', rt := Q } _ _ _ r fun p H' N' s1 s2 s3 s4 s5 s6 => q p H' N' s1 s2 s3 s4 s5 s6
  | exc n =>
    cases hb with
    | exc h => exact h { nx := fun _ H' => Q .non H', rt := Q } _ _ _ r ⟨_, takes_of rfl rfl rfl rfl, fun C σ H' N' hm s r' => q C H' hm r'.old⟩
/-- the law's: at most 63 ints, of so many bits -/
def R_law : List Dat → Res → Prop := fun ds o => ∃ ns : List Int, ds = [.lst (ns.map .int)] ∧ ns.length ≤ 63 ∧ (∀ z ∈ ns, Builtin.Int.intBits z ≤ 1048576) ∧ o = .val (.bl true)
def spLaw (K : PySem.W.Frag) : Sp := fun vs H Q _ => ∃ (a : Addr) (ns : List Int), vs = [.ref a] ∧ SqL K H a (ns.map V.int) ∧ ns.length ≤ 63 ∧ (∀ z ∈ ns, Builtin.Int.intBits z ≤ 1048576) ∧ ∀ v H', v = .bl true → Q v H'
theorem ats_ints {K : PySem.W.Frag} {H : Hp} (ns : List Int) : Ats K H (ns.map .int) (ns.map .int) := Ats.ofInts ns
theorem law_imp (F : FnOk P w K mg base (L2.CX P w) k f fd ["script"] (spR K mg R_law)) : FnOk P w K mg base (L2.CX P w) k f fd ["script"] (spLaw K) := F.imp fun vs H Q E ⟨a, ns, e, hS, hl, hb, q⟩ => by
  subst e
  exact ⟨[.lst (ns.map .int)], .val (.bl true), ⟨ns, rfl, hl, hb, rfl⟩, .cons (.lst hS (ats_ints ns)) .nil, fun v H' _ ⟨N, _, _, a⟩ => q v H' (at_bl a)⟩
end
theorem walk {l : PySem.W.OpenLaw} {k : Nat} {q : Program} {loose : List Str} {XP : (Str → Option Value) → Heap → Prop} {YP : World → Heap → Prop} {d : DefRec} {K : Params → PySem.W.Frag} (hn : l.most = some 63) (hdf : d.params.defaults = []) (hr : Room k callerA)
    (hY : ∀ (w : World) (h : Heap), YP w h → (K w.params).In h)
    (F : ∀ (w : World) (mg : Str → Option Value) (fa : Addr) (h : Heap), (K w.params).In h → h.Ns mainGlobals mg → mg d.name = some (.ref fa) →
      ∃ fd : FuncData, (∀ (s : Shared) (u : Value), BindsTo s fd ⟨[u], []⟩ [("script", u)]) ∧ ∀ base : Heap, (K w.params).In base → base.Ns mainGlobals mg → FnOk l.prog w (K w.params) mg base (L2.CX l.prog w) k fa fd ["script"] (spLaw (K w.params))) :
    PySem.W.WalkO q loose XP YP l.row.toRowW d [] (fun f vs => PySem.call f vs) :=
  L2.walk_ofB (n := 63) (k := k) (x := "script") (CX := fun w => L2.CX l.prog w) (sp := fun w => spLaw (K w.params)) hn (by decide) hdf hr hY F
    (fun _ _ a ns hl hb _ hS => ⟨a, ns, rfl, hS, hl, hb, fun _ _ e => e⟩) fun _ _ _ _ _ h => by
      obtain ⟨_, _, _, _, _, _, _, _, _, _, _, _, z⟩ := h
      exact z.elim

/-! ### the classes of errors among one another -/
def Kit (K : PySem.W.Frag) (mg : Str → Option Value) (C : Addr) (n : Str) (b : Bool) : Prop := ∃ D, mg n = some (.ref D) ∧ PySem.W.kitOne K (.ref C) (.ref D) = some b
def Exm (K : PySem.W.Frag) (mg : Str → Option Value) (C : Addr) (n : Str) : Prop := ∃ D, mg n = some (.ref D) ∧ PySem.W.exmOne K (.ref C) (.ref D) = some true
theorem kit_own {K : PySem.W.Frag} {C D : Addr} {b : Bool} (hs : PySem.W.subIn K (.ref C) (.ref C) = some true) (hd : PySem.W.hasDictIn K D = true) (ht : PySem.W.typeIn K (.ref D) = some (.type "type")) (h : PySem.W.subIn K (.ref C) (.ref D) = some b) : PySem.W.kitOne K (.ref C) (.ref D) = some b := by
  obtain ⟨cd, hc, _⟩ := PySem.W.any_some hd
  by_cases e : C = D
  · subst e
    rw [hs] at h
    cases h
    show (if (Value.ref C == Value.ref C) = true then some true else _) = _
    rw [if_pos (by simp)]
  · show (if (Value.ref C == Value.ref D) = true then some true else (if ((PySem.W.clsIn K D).isSome && PySem.W.typeIn K (.ref D) == some (.type "type")) = true then PySem.W.subIn K (.ref C) (.ref D) else none)) = _
    rw [if_neg (by intro q; exact e (Value.ref.inj (beq_iff_eq.mp q))), if_pos (by rw [hc, ht] <;> rfl)]
    exact h
theorem kit_ve {K : PySem.W.Frag} {C : Addr} (h : PySem.W.subIn K (.ref C) (.type "ValueError") = some true) : PySem.W.kitOne K (.ref C) (.type "ValueError") = some true := by
  show (if (Value.ref C == Value.type "ValueError") = true then some true else (if PySem.W.kitMeta "ValueError" = true then PySem.W.subIn K (.ref C) (.type "ValueError") else none)) = _
  rw [if_neg (by intro e; cases (beq_iff_eq.mp e)), if_pos (by decide +kernel)]
  exact h

def Kits (K : PySem.W.Frag) (mg : Str → Option Value) (C : Addr) : List (Str × Bool) → Prop
  | [] => True
  | p :: r => Kit K mg C p.1 p.2 ∧ Kits K mg C r
theorem kits_nil {K : PySem.W.Frag} {mg : Str → Option Value} {C : Addr} : Kits K mg C [] := trivial
theorem kits_cons {K : PySem.W.Frag} {mg : Str → Option Value} {C : Addr} {n : Str} {b : Bool} {r : List (Str × Bool)} (h : Kit K mg C n b) (t : Kits K mg C r) : Kits K mg C ((n, b) :: r) := ⟨h, t⟩
theorem Kits.get {K : PySem.W.Frag} {mg : Str → Option Value} {C : Addr} : ∀ {l : List (Str × Bool)} (n : Str) (b : Bool), Kits K mg C l → (n, b) ∈ l → Kit K mg C n b
  | [], _, _, _, h => by cases h
  | p :: r, n, b, k, h => by
    rcases List.mem_cons.mp h with e | h
    · have e1 : p.1 = n := by rw [← e]
      have e2 : p.2 = b := by rw [← e]
      rw [← e1, ← e2]
      exact k.1
    · exact Kits.get n b k.2 h
/-- what is known of the class that a refusal has -/
structure ExcX (K : PySem.W.Frag) (mg : Str → Option Value) (n : Str) (l : List (Str × Bool)) (C : Addr) : Prop where
  at_ : ExcAt K mg n C
  ec : ExcC K C
  self : PySem.W.exmOne K (.ref C) (.ref C) = some true
  press : Exm K mg C "PressError"
  ve : PySem.W.kitOne K (.ref C) (.type "ValueError") = some true
  kits : Kits K mg C l
section
variable {X : Cx} {H0 : Hp} {ρ ρ1 ρ2 : Env'} {a b c e : Expr} {es : List Expr} {st : Stmt} {sts rest : List Stmt} {d d1 d2 : Dat} {ds : List Dat} {p pos : Pos} {o o1 : Outc} {x n : Str}
theorem ev_isEo {a D : Addr} {oe : Obj} {pn : List (Addr × Obj)} {y ee : Str} {p1 p2 : Pos} {k : Bool} (i : Nat) (N : Kit X.K X.mg D y k) (C : ExcC X.K D) (hz : Zc (.ref D) none oe) (hf : ∃ vs, oe.data = .fields vs) (hρ : ρ[i]? = some (.rf a))
    (hm : X.mg "isinstance" = none) (hgy : Gl X y := by rfl) (hdy : (y == ("__debug__" : Str)) = false := by decide) (hN : X.N[i]? = some ee := by rfl) (hv : Vis X.env.scope ee := by first | exact Or.inl rfl | exact Or.inr (Or.inl rfl) | exact Or.inr (Or.inr rfl)) (hg : Gl X "isinstance" := by rfl) (hd : (ee == ("__debug__" : Str)) = false := by decide) (hcd : (ee == ("__classdict__" : Str)) = false := by decide)
    (he : starEach [.Name ee p1, .Name y p2] X.env = (false, eval (.Name ee p1) X.env) :: starEach [.Name y p2] X.env := by rfl) (he2 : starEach [.Name y p2] X.env = (false, eval (.Name y p2) X.env) :: starEach [] X.env := by rfl) (hpl : (backTo pos (starEach [.Name y p2] X.env)).any (·.1) = false := by rfl) :
    Ev (X.suite a ((a, oe) :: pn)) H0 ρ (.Call (.Name "isinstance" p) [.Name ee p1, .Name y p2] [] pos) (.bl k) := by
  obtain ⟨D2, m, q⟩ := N
  exact ev_isE (c := .ref D2) (u := .ref D2) i C hz hf hρ ⟨.own D2, hgy, hdy, .inl m⟩ q hm hN hv hg hd hcd he he2 hpl
theorem ev_isEv {a D : Addr} {oe : Obj} {pn : List (Addr × Obj)} {ee : Str} {p1 p2 : Pos} (i : Nat) (N : PySem.W.kitOne X.K (.ref D) (.type "ValueError") = some true) (hb : X.mg "ValueError" = none) (C : ExcC X.K D) (hz : Zc (.ref D) none oe) (hf : ∃ vs, oe.data = .fields vs) (hρ : ρ[i]? = some (.rf a))
    (hm : X.mg "isinstance" = none) (hgy : Gl X "ValueError" := by rfl) (hN : X.N[i]? = some ee := by rfl) (hv : Vis X.env.scope ee := by first | exact Or.inl rfl | exact Or.inr (Or.inl rfl) | exact Or.inr (Or.inr rfl)) (hg : Gl X "isinstance" := by rfl) (hd : (ee == ("__debug__" : Str)) = false := by decide) (hcd : (ee == ("__classdict__" : Str)) = false := by decide)
    (he : starEach [.Name ee p1, .Name "ValueError" p2] X.env = (false, eval (.Name ee p1) X.env) :: starEach [.Name "ValueError" p2] X.env := by rfl) (he2 : starEach [.Name "ValueError" p2] X.env = (false, eval (.Name "ValueError" p2) X.env) :: starEach [] X.env := by rfl) (hpl : (backTo pos (starEach [.Name "ValueError" p2] X.env)).any (·.1) = false := by rfl) :
    Ev (X.suite a ((a, oe) :: pn)) H0 ρ (.Call (.Name "isinstance" p) [.Name ee p1, .Name "ValueError" p2] [] pos) (.bl true) :=
  ev_isE (c := .ty "ValueError") (u := .type "ValueError") i C hz hf hρ ⟨.ty _, hgy, by decide, .inr ⟨hb, by decide +kernel, by decide⟩⟩ N hm hN hv hg hd hcd he he2 hpl
inductive NoKits (X : Cx) (D : Addr) : List Expr → Prop where
  | nil : NoKits X D []
  | cons {y : Str} {pp : Pos} {es : List Expr} (k : Kit X.K X.mg D y false) (t : NoKits X D es) (g : Gl X y := by rfl) (hd : (y == ("__debug__" : Str)) = false := by decide) : NoKits X D (.Name y pp :: es)
theorem NoKits.get {D : Addr} : ∀ {es : List Expr}, NoKits X D es → ∃ cs us, ClsNs X es cs us ∧ PySem.W.kitAny X.K (.ref D) us = some false
  | _, .nil => ⟨[], [], .nil, rfl⟩
  | _, .cons k t g hd => by
    obtain ⟨cs, us, h1, h2⟩ := NoKits.get t
    obtain ⟨E, m, q⟩ := k
    exact ⟨.ref E :: cs, .ref E :: us, .cons ⟨.own E, g, hd, .inl m⟩ h1, kitAny_cons q (fun _ => h2) (fun z => nomatch z)⟩
theorem NoKits.suite {D a : Addr} {pn : List (Addr × Obj)} : ∀ {es : List Expr}, NoKits X D es → NoKits (X.suite a pn) D es
  | _, .nil => .nil
  | _, .cons k t g hd => .cons k (NoKits.suite t) g hd
theorem ev_isEs {a D : Addr} {oe : Obj} {pn : List (Addr × Obj)} {ee : Str} {p1 p2 : Pos} {kk : Nat} (i : Nat) (N : NoKits X D es) (C : ExcC X.K D) (hz : Zc (.ref D) none oe) (hf : ∃ vs, oe.data = .fields vs) (hρ : ρ[i]? = some (.rf a))
    (hm : X.mg "isinstance" = none) (hl : es.length ≤ sizeLine := by decide) (hst : ∀ y pp r, starEach (Expr.Name y pp :: r) X.env = (false, eval (Expr.Name y pp) X.env) :: starEach r X.env := by intro _ _ _; rfl) (hN : X.N[i]? = some ee := by rfl) (hv : Vis X.env.scope ee := by first | exact Or.inl rfl | exact Or.inr (Or.inl rfl) | exact Or.inr (Or.inr rfl)) (hg : Gl X "isinstance" := by rfl)
    (hd : (ee == ("__debug__" : Str)) = false := by decide) (hcd : (ee == ("__classdict__" : Str)) = false := by decide)
    (he : starEach [.Name ee p1, .Tuple es kk p2] X.env = (false, eval (.Name ee p1) X.env) :: starEach [.Tuple es kk p2] X.env := by rfl) (he2 : starEach [.Tuple es kk p2] X.env = (false, eval (.Tuple es kk p2) X.env) :: starEach [] X.env := by rfl) (hpl : (backTo pos (starEach [.Tuple es kk p2] X.env)).any (·.1) = false := by rfl) :
    Ev (X.suite a ((a, oe) :: pn)) H0 ρ (.Call (.Name "isinstance" p) [.Name ee p1, .Tuple es kk p2] [] pos) (.bl false) := by
  obtain ⟨cs, us, h1, h2⟩ := (N.suite (a := a) (pn := (a, oe) :: pn)).get
  exact ev_isET i C hz hf hρ h1 h2 hm hl hst hN hv hg hd hcd he he2 hpl
/-- except x: the class of that name -/
theorem names_of {C : Addr} (h : X.mg x = some (.ref C)) (g : Gl X x := by rfl) (hd : (x == ("__debug__" : Str)) = false := by decide) : Names X x (.ref C) := ⟨g, hd, .inl h⟩
end
def isInt : Dat → Bool
  | .int _ => true
  | .bl _ => true
  | _ => false
theorem kit_isInt : ∀ (d : Dat), kitB (tyName d) "int" = some (isInt d)
  | .non => (by decide +kernel : kitB "NoneType" "int" = some false)
  | .bl _ => (by decide +kernel : kitB "bool" "int" = some true)
  | .int _ => (by decide +kernel : kitB "int" "int" = some true)
  | .str _ => (by decide +kernel : kitB "str" "int" = some false)
  | .tup _ => (by decide +kernel : kitB "tuple" "int" = some false)
  | .lst _ => (by decide +kernel : kitB "list" "int" = some false)
  | .dic _ => (by decide +kernel : kitB "dict" "int" = some false)
def isBool : Dat → Bool
  | .bl _ => true
  | _ => false
theorem kit_isBool : ∀ (d : Dat), kitB (tyName d) "bool" = some (isBool d)
  | .non => (by decide +kernel : kitB "NoneType" "bool" = some false)
  | .bl _ => (by decide +kernel : kitB "bool" "bool" = some true)
  | .int _ => (by decide +kernel : kitB "int" "bool" = some false)
  | .str _ => (by decide +kernel : kitB "str" "bool" = some false)
  | .tup _ => (by decide +kernel : kitB "tuple" "bool" = some false)
  | .lst _ => (by decide +kernel : kitB "list" "bool" = some false)
  | .dic _ => (by decide +kernel : kitB "dict" "bool" = some false)
def isStr : Dat → Bool
  | .str _ => true
  | _ => false
theorem kit_isStr : ∀ (d : Dat), kitB (tyName d) "str" = some (isStr d)
  | .non => (by decide +kernel : kitB "NoneType" "str" = some false)
  | .bl _ => (by decide +kernel : kitB "bool" "str" = some false)
  | .int _ => (by decide +kernel : kitB "int" "str" = some false)
  | .str _ => (by decide +kernel : kitB "str" "str" = some true)
  | .tup _ => (by decide +kernel : kitB "tuple" "str" = some false)
  | .lst _ => (by decide +kernel : kitB "list" "str" = some false)
  | .dic _ => (by decide +kernel : kitB "dict" "str" = some false)
def isTup : Dat → Bool
  | .tup _ => true
  | _ => false
theorem kit_isTup : ∀ (d : Dat), kitB (tyName d) "tuple" = some (isTup d)
  | .non => (by decide +kernel : kitB "NoneType" "tuple" = some false)
  | .bl _ => (by decide +kernel : kitB "bool" "tuple" = some false)
  | .int _ => (by decide +kernel : kitB "int" "tuple" = some false)
  | .str _ => (by decide +kernel : kitB "str" "tuple" = some false)
  | .tup _ => (by decide +kernel : kitB "tuple" "tuple" = some true)
  | .lst _ => (by decide +kernel : kitB "list" "tuple" = some false)
  | .dic _ => (by decide +kernel : kitB "dict" "tuple" = some false)
def isLst : Dat → Bool
  | .lst _ => true
  | _ => false
theorem kit_isLst : ∀ (d : Dat), kitB (tyName d) "list" = some (isLst d)
  | .non => (by decide +kernel : kitB "NoneType" "list" = some false)
  | .bl _ => (by decide +kernel : kitB "bool" "list" = some false)
  | .int _ => (by decide +kernel : kitB "int" "list" = some false)
  | .str _ => (by decide +kernel : kitB "str" "list" = some false)
  | .tup _ => (by decide +kernel : kitB "tuple" "list" = some false)
  | .lst _ => (by decide +kernel : kitB "list" "list" = some true)
  | .dic _ => (by decide +kernel : kitB "dict" "list" = some false)
def isDic : Dat → Bool
  | .dic _ => true
  | _ => false
theorem kit_isDic : ∀ (d : Dat), kitB (tyName d) "dict" = some (isDic d)
  | .non => (by decide +kernel : kitB "NoneType" "dict" = some false)
  | .bl _ => (by decide +kernel : kitB "bool" "dict" = some false)
  | .int _ => (by decide +kernel : kitB "int" "dict" = some false)
  | .str _ => (by decide +kernel : kitB "str" "dict" = some false)
  | .tup _ => (by decide +kernel : kitB "tuple" "dict" = some false)
  | .lst _ => (by decide +kernel : kitB "list" "dict" = some false)
  | .dic _ => (by decide +kernel : kitB "dict" "dict" = some true)
section
variable {X : Cx} {H0 : Hp} {ρ ρ1 ρ2 : Env'} {a b c e : Expr} {es : List Expr} {st : Stmt} {sts rest : List Stmt} {d d1 d2 : Dat} {ds : List Dat} {p pos : Pos} {o o1 : Outc} {x n : Str}
theorem ev_isi_int {p2 : Pos} (ha : EvB X H0 ρ a d) (hm : X.mg "isinstance" = none) (hmT : X.mg "int" = none) (hg : Gl X "isinstance" := by rfl) (hgT : Gl X "int" := by rfl)
    (he : starEach [a, .Name "int" p2] X.env = (false, eval a X.env) :: starEach [.Name "int" p2] X.env := by rfl) (he2 : starEach [.Name "int" p2] X.env = (false, eval (.Name "int" p2) X.env) :: starEach [] X.env := by rfl) (hpl : (backTo pos (starEach [.Name "int" p2] X.env)).any (·.1) = false := by rfl) :
    Ev X H0 ρ (.Call (.Name "isinstance" p) [a, .Name "int" p2] [] pos) (.bl (isInt d)) := ev_isi ha (kit_isInt d) hm hmT (by decide +kernel) hg hgT (by decide) (by decide) he he2 hpl
theorem ev_isi_bool {p2 : Pos} (ha : EvB X H0 ρ a d) (hm : X.mg "isinstance" = none) (hmT : X.mg "bool" = none) (hg : Gl X "isinstance" := by rfl) (hgT : Gl X "bool" := by rfl)
    (he : starEach [a, .Name "bool" p2] X.env = (false, eval a X.env) :: starEach [.Name "bool" p2] X.env := by rfl) (he2 : starEach [.Name "bool" p2] X.env = (false, eval (.Name "bool" p2) X.env) :: starEach [] X.env := by rfl) (hpl : (backTo pos (starEach [.Name "bool" p2] X.env)).any (·.1) = false := by rfl) :
    Ev X H0 ρ (.Call (.Name "isinstance" p) [a, .Name "bool" p2] [] pos) (.bl (isBool d)) := ev_isi ha (kit_isBool d) hm hmT (by decide +kernel) hg hgT (by decide) (by decide) he he2 hpl
theorem ev_isi_str {p2 : Pos} (ha : EvB X H0 ρ a d) (hm : X.mg "isinstance" = none) (hmT : X.mg "str" = none) (hg : Gl X "isinstance" := by rfl) (hgT : Gl X "str" := by rfl)
    (he : starEach [a, .Name "str" p2] X.env = (false, eval a X.env) :: starEach [.Name "str" p2] X.env := by rfl) (he2 : starEach [.Name "str" p2] X.env = (false, eval (.Name "str" p2) X.env) :: starEach [] X.env := by rfl) (hpl : (backTo pos (starEach [.Name "str" p2] X.env)).any (·.1) = false := by rfl) :
    Ev X H0 ρ (.Call (.Name "isinstance" p) [a, .Name "str" p2] [] pos) (.bl (isStr d)) := ev_isi ha (kit_isStr d) hm hmT (by decide +kernel) hg hgT (by decide) (by decide) he he2 hpl
theorem ev_isi_tuple {p2 : Pos} (ha : EvB X H0 ρ a d) (hm : X.mg "isinstance" = none) (hmT : X.mg "tuple" = none) (hg : Gl X "isinstance" := by rfl) (hgT : Gl X "tuple" := by rfl)
    (he : starEach [a, .Name "tuple" p2] X.env = (false, eval a X.env) :: starEach [.Name "tuple" p2] X.env := by rfl) (he2 : starEach [.Name "tuple" p2] X.env = (false, eval (.Name "tuple" p2) X.env) :: starEach [] X.env := by rfl) (hpl : (backTo pos (starEach [.Name "tuple" p2] X.env)).any (·.1) = false := by rfl) :
    Ev X H0 ρ (.Call (.Name "isinstance" p) [a, .Name "tuple" p2] [] pos) (.bl (isTup d)) := ev_isi ha (kit_isTup d) hm hmT (by decide +kernel) hg hgT (by decide) (by decide) he he2 hpl
theorem ev_isi_list {p2 : Pos} (ha : EvB X H0 ρ a d) (hm : X.mg "isinstance" = none) (hmT : X.mg "list" = none) (hg : Gl X "isinstance" := by rfl) (hgT : Gl X "list" := by rfl)
    (he : starEach [a, .Name "list" p2] X.env = (false, eval a X.env) :: starEach [.Name "list" p2] X.env := by rfl) (he2 : starEach [.Name "list" p2] X.env = (false, eval (.Name "list" p2) X.env) :: starEach [] X.env := by rfl) (hpl : (backTo pos (starEach [.Name "list" p2] X.env)).any (·.1) = false := by rfl) :
    Ev X H0 ρ (.Call (.Name "isinstance" p) [a, .Name "list" p2] [] pos) (.bl (isLst d)) := ev_isi ha (kit_isLst d) hm hmT (by decide +kernel) hg hgT (by decide) (by decide) he he2 hpl
theorem ev_isi_dict {p2 : Pos} (ha : EvB X H0 ρ a d) (hm : X.mg "isinstance" = none) (hmT : X.mg "dict" = none) (hg : Gl X "isinstance" := by rfl) (hgT : Gl X "dict" := by rfl)
    (he : starEach [a, .Name "dict" p2] X.env = (false, eval a X.env) :: starEach [.Name "dict" p2] X.env := by rfl) (he2 : starEach [.Name "dict" p2] X.env = (false, eval (.Name "dict" p2) X.env) :: starEach [] X.env := by rfl) (hpl : (backTo pos (starEach [.Name "dict" p2] X.env)).any (·.1) = false := by rfl) :
    Ev X H0 ρ (.Call (.Name "isinstance" p) [a, .Name "dict" p2] [] pos) (.bl (isDic d)) := ev_isi ha (kit_isDic d) hm hmT (by decide +kernel) hg hgT (by decide) (by decide) he he2 hpl
end

theorem ExcX.eq {K : PySem.W.Frag} {mg : Str → Option Value} {n : Str} {l : List (Str × Bool)} {C C' : Addr} (x : ExcX K mg n l C) (h : mg n = some (.ref C')) : C' = C := by
  rw [x.at_.g] at h
  cases h
  rfl
theorem ExcX.exm {K : PySem.W.Frag} {mg : Str → Option Value} {n : Str} {l : List (Str × Bool)} {C : Addr} (x : ExcX K mg n l C) : ∀ C', mg n = some (.ref C') → PySem.W.exmOne K (.ref C') (.ref C) = some true := fun C' h => by
  rw [x.eq h]
  exact x.self

theorem fits_small {i : Int} (h1 : -(2 ^ 40) ≤ i) (h2 : i ≤ 2 ^ 40) : Builtin.Range.rangeFitsLong i = true := by
  unfold Builtin.Range.rangeFitsLong
  rw [Bool.and_eq_true]
  exact ⟨decide_eq_true (by omega), decide_eq_true (by omega)⟩
/-- range(i, j, c), c above 0 -/
theorem rgc_pos {i j c : Int} {n : Nat} (hc : 0 < c) (hc2 : c < 1073741824) (hi : -(2 ^ 39) ≤ i) (hi2 : i ≤ 2 ^ 39) (hj : -(2 ^ 39) ≤ j) (hj2 : j ≤ 2 ^ 39) (hn : (n : Int) = if i < j then (j - i - 1) / c + 1 else 0) : RgC i j c n := by
  have e : Builtin.Range.rangeSize i j c = (n : Int) := by
    unfold Builtin.Range.rangeSize
    rw [if_pos hc, hn]
  have hb : (n : Int) ≤ 2 ^ 40 := by
    rw [hn]
    split
    · have : (j - i - 1) / c ≤ j - i - 1 := Int.ediv_le_self _ (by omega)
      omega
    · decide
  refine ⟨by omega, by omega, ?_, e⟩
  unfold Builtin.Range.small
  rw [e, fits_small (by omega) (by omega), fits_small (by omega) (by omega), fits_small (by omega) (by omega), fits_small (i := (n : Int)) (by omega) hb, if_pos hc, fits_small (by omega) (by omega)]
  simp

/-- each turn leads back to the same -/
theorem for_same {X : Cx} {H0 : Hp} {bd : Dat → Env' → Env'} {body : List Stmt} {ρ : Env'} : ∀ {ds : List Dat}, (∀ d ∈ ds, Exec X H0 (bd d ρ) body (.nx ρ)) → ForT X H0 bd body ds ρ (.nx ρ)
  | [], _ => .nil
  | d :: ds, h => .turn (h d List.mem_cons_self) (for_same fun e he => h e (List.mem_cons_of_mem _ he))
theorem mem_steps {lo c : Int} {n : Nat} {d : Dat} (h : d ∈ steps lo c n) : ∃ i : Nat, i < n ∧ d = .int (lo + (i : Int) * c) := by
  unfold steps at h
  obtain ⟨i, hi, rfl⟩ := List.mem_map.mp h
  exact ⟨i, List.mem_range.mp hi, rfl⟩
theorem mem_ints {ns : List Int} {d : Dat} (h : d ∈ ns.map Dat.int) : ∃ z, z ∈ ns ∧ d = .int z := by
  obtain ⟨i, hi, rfl⟩ := List.mem_map.mp h
  exact ⟨i, hi, rfl⟩
end B

namespace B
open PySem PySem.Spec PyProof.Rows L2

/-- a text -/
abbrev tx (l : List Nat) : Dat := .str (SX.S l)
/-- the part of a row from lo to hi -/
def cut {α : Type} (xs : List α) (lo hi : Option Int) : List α := (xs.drop (HT.sIx xs.length 0 lo)).take (HT.sIx xs.length xs.length hi - HT.sIx xs.length 0 lo)
theorem flats_cut {ds : List Dat} (f : flats ds = true) (lo hi : Option Int) : flats (cut ds lo hi) = true := by
  have h1 : ∀ (l : List Dat), flats l = l.all flat := by
    intro l
    induction l with
    | nil => rfl
    | cons d r ih => show (flat d && flats r) = _; rw [ih]; rfl
  rw [h1, List.all_eq_true] at f ⊢
  intro d hd
  exact f d (List.mem_of_mem_drop (List.mem_of_mem_take hd))

section
variable {X : Cx} {H0 : Hp} {ρ ρ1 ρ2 : Env'} {a b c e : Expr} {es : List Expr} {st : Stmt} {sts rest : List Stmt} {d d1 d2 : Dat} {ds : List Dat} {p pos : Pos} {o o1 : Outc} {x n : Str}

/-! ### sum, list, ord, int -/
theorem ev_sum {ns : List Int} (ha : EvB X H0 ρ a (.lst (ns.map .int))) (hc : X.calm = true) (hm : X.mg "sum" = none) (hg : Gl X "sum" := by rfl) (he : starEach [a] X.env = (false, eval a X.env) :: starEach [] X.env := by rfl) (hpl : (backTo pos (starEach [] X.env)).any (·.1) = false := by rfl) :
    Ev X H0 ρ (.Call (.Name "sum" p) [a] [] pos) (.int ns.sum) := ev_blt (cr_sum hc) hm (by decide +kernel) (eab1 ha he) (fun vs σ H N Q r q g => by
    obtain ⟨v, e1, e2⟩ := ats_one q
    obtain ⟨pp, us, e3, h1, h2⟩ := at_lst e2
    rw [h2.ints] at h1
    exact ⟨pp, ns, by rw [e1, e3], h1, goes_self g r (.int _)⟩) hg (by decide) (by decide) he hpl
theorem eo_list (ha : EvB X H0 ρ a (.lst ds)) (f : flats ds = true) (hm : X.mg "list" = none) (hg : Gl X "list" := by rfl) (he : starEach [a] X.env = (false, eval a X.env) :: starEach [] X.env := by rfl) (hpl : (backTo pos (starEach [] X.env)).any (·.1) = false := by rfl) :
    EvO X H0 ρ (.Call (.Name "list" p) [a] [] pos) (.lst ds) := fun σ H N rp =>
  we_of (pe_callTy call_list_of hg hm (by decide +kernel) pa_w (by decide) (by decide) he hpl) ((eab1 ha he σ H N rp).imp fun vs H1 ⟨N1, s1, n1, r1, a1⟩ => by
    obtain ⟨v, e1, e2⟩ := ats_one a1
    obtain ⟨pp, us, e3, h1, h2⟩ := at_lst e2
    obtain ⟨N2, n2, r2, k⟩ := r1.keep
    refine ⟨pp, us, by rw [e1, e3], .inl h1, fun l hl => ?_⟩
    obtain ⟨r3, n3⟩ := eo_new (o := .lst us) r2 hl
    exact ⟨N2, l, rfl, s1.free hl, s1.trans (Same.of_none hl), n1.trans n2, r3, n3, us, upd_same, (h2.imm f).mono k⟩)
theorem eo_listT (ha : EvB X H0 ρ a (.tup ds)) (f : flats ds = true) (hm : X.mg "list" = none) (hg : Gl X "list" := by rfl) (he : starEach [a] X.env = (false, eval a X.env) :: starEach [] X.env := by rfl) (hpl : (backTo pos (starEach [] X.env)).any (·.1) = false := by rfl) :
    EvO X H0 ρ (.Call (.Name "list" p) [a] [] pos) (.lst ds) := fun σ H N rp =>
  we_of (pe_callTy call_list_of hg hm (by decide +kernel) pa_w (by decide) (by decide) he hpl) ((eab1 ha he σ H N rp).imp fun vs H1 ⟨N1, s1, n1, r1, a1⟩ => by
    obtain ⟨v, e1, e2⟩ := ats_one a1
    obtain ⟨pp, us, e3, h1, h2⟩ := at_seq e2
    obtain ⟨N2, n2, r2, k⟩ := r1.keep
    refine ⟨pp, us, by rw [e1, e3], .inr h1, fun l hl => ?_⟩
    obtain ⟨r3, n3⟩ := eo_new (o := .lst us) r2 hl
    exact ⟨N2, l, rfl, s1.free hl, s1.trans (Same.of_none hl), n1.trans n2, r3, n3, us, upd_same, (h2.imm f).mono k⟩)
theorem ev_ord {k : Nat} (ha : Ev X H0 ρ a (tx [k])) (hm : X.mg "ord" = none) (hg : Gl X "ord" := by rfl) (he : starEach [a] X.env = (false, eval a X.env) :: starEach [] X.env := by rfl) (hpl : (backTo pos (starEach [] X.env)).any (·.1) = false := by rfl) :
    Ev X H0 ρ (.Call (.Name "ord" p) [a] [] pos) (.int (k : Int)) := ev_blt call_ord hm (by decide +kernel) (eab1 ha.toB he) (fun vs σ H N Q r q g => by
    obtain ⟨v, e1, e2⟩ := ats_one q
    rw [at_str e2] at e1
    exact ⟨_, e1, rfl, goes_self g r (.int _)⟩) hg (by decide) (by decide) he hpl
theorem ev_intB {k : Bool} (ha : Ev X H0 ρ a (.bl k)) (hm : X.mg "int" = none) (hg : Gl X "int" := by rfl) (he : starEach [a] X.env = (false, eval a X.env) :: starEach [] X.env := by rfl) (hpl : (backTo pos (starEach [] X.env)).any (·.1) = false := by rfl) :
    Ev X H0 ρ (.Call (.Name "int" p) [a] [] pos) (.int (if k then 1 else 0)) := ev_ty call_int1 hm (by decide +kernel) (eab1 ha.toB he) (fun vs σ H N Q r q g => by
    obtain ⟨v, e1, e2⟩ := ats_one q
    rw [at_bl e2] at e1
    exact .inr ⟨k, e1, goes_self g r (.int _)⟩) hg (by decide) (by decide) he hpl

/-! ### slices -/
/-- a part of a slice -/
def EvP (X : Cx) (H0 : Hp) (ρ : Env') (e : Option Expr) (o : Option Int) : Prop := ∃ t : TO, PO X e t ∧ ∀ σ H N, Rep X.K H0 ρ σ H N → ∀ Q : Option Int → Hp → Prop, (∀ H' N', Same H H' → Same N N' → Rep X.K H0 ρ σ H' N' → Q o H') → t σ H Q
theorem eo_none : EvP X H0 ρ none none := ⟨_, po_none, fun σ H N r Q k => k H N (Same.refl _) (Same.refl _) r⟩
theorem eo_some {i : Int} (h : Ev X H0 ρ e (.int i)) : EvP X H0 ρ (some e) (some i) := ⟨_, po_some pe_w, fun σ H N r Q k => (h σ H N r).imp fun v H' ⟨N', s, n, r', a⟩ => ⟨i, at_int a, k H' N' s n r'⟩⟩
section
variable {lo hi : Option Expr} {l h : Option Int} {p2 : Pos}
theorem ev_slS {z : Str} (ha : Ev X H0 ρ a (.str z)) (hl : EvP X H0 ρ lo l) (hh : EvP X H0 ρ hi h) (hz : z.length ≤ sizeLine) : Ev X H0 ρ (.Subscript a (.Slice lo hi none p2) pos) (.str (Txt.slice z l h)) := fun σ H N rp => by
  obtain ⟨tl, pl, kl⟩ := hl
  obtain ⟨th, ph, kh⟩ := hh
  exact we_of (pe_slice C8.sl_txt pe_w pl ph) ((ha σ H N rp).imp fun v H1 ⟨N1, s1, n1, r1, a1⟩ => kl σ H1 N1 r1 _ fun H2 N2 s2 n2 r2 => kh σ H2 N2 r2 _ fun H3 N3 s3 n3 r3 =>
    ⟨z, at_str a1, hz, N3, (s1.trans s2).trans s3, (n1.trans n2).trans n3, r3, .str _⟩)
theorem eo_slL (ha : EvB X H0 ρ a (.lst ds)) (hl : EvP X H0 ρ lo l) (hh : EvP X H0 ρ hi h) (f : flats ds = true) : EvO X H0 ρ (.Subscript a (.Slice lo hi none p2) pos) (.lst (cut ds l h)) := fun σ H N rp => by
  obtain ⟨tl, pl, kl⟩ := hl
  obtain ⟨th, ph, kh⟩ := hh
  refine we_of (pe_slice sl_list pe_w pl ph) ((ha σ H N rp).imp fun v H1 ⟨N1, s1, n1, r1, a1⟩ => kl σ H1 N1 r1 _ fun H2 N2 s2 n2 r2 => kh σ H2 N2 r2 _ fun H3 N3 s3 n3 r3 => ?_)
  obtain ⟨pp, us, e3, h1, h2⟩ := at_lst ((a1.mono s2).mono s3)
  obtain ⟨N4, n4, r4, k⟩ := r3.keep
  refine ⟨pp, us, e3, h1, fun q hq => ?_⟩
  obtain ⟨r5, n5⟩ := eo_new (o := .lst (cutV us l h)) r4 hq
  refine ⟨N4, q, rfl, ((s1.trans s2).trans s3).free hq, ((s1.trans s2).trans s3).trans (Same.of_none hq), ((n1.trans n2).trans n3).trans n4, r5, n5, _, upd_same, ?_⟩
  have := ((h2.imm f).mono k)
  unfold cutV cut
  rw [h2.length]
  exact (this.drop _).take _
theorem ev_slT (ha : Ev X H0 ρ a (.tup ds)) (hl : EvP X H0 ρ lo l) (hh : EvP X H0 ρ hi h) : Ev X H0 ρ (.Subscript a (.Slice lo hi none p2) pos) (.tup (cut ds l h)) := fun σ H N rp => by
  obtain ⟨tl, pl, kl⟩ := hl
  obtain ⟨th, ph, kh⟩ := hh
  refine we_of (pe_slice sl_tupA pe_w pl ph) ((ha σ H N rp).imp fun v H1 ⟨N1, s1, n1, r1, a1⟩ => kl σ H1 N1 r1 _ fun H2 N2 s2 n2 r2 => kh σ H2 N2 r2 _ fun H3 N3 s3 n3 r3 => ?_)
  obtain ⟨pp, us, e3, h1, h2⟩ := at_seq ((a1.mono n2).mono n3)
  refine ⟨pp, us, e3, sqt_same r3.sub h1, fun hw => ?_, fun hw q hq => ?_⟩
  · refine ⟨N3, (s1.trans s2).trans s3, (n1.trans n2).trans n3, r3, ?_⟩
    have e : cut ds l h = ds := by
      unfold cut
      rw [h2.length] at hw
      rw [hw.1, hw.2]
      simp
    rw [e]
    exact .tup h1 h2
  · obtain ⟨r5, n5⟩ := r3.new (o := .tup (cutV us l h)) hq
    have hh : ∀ Z, Ats X.K Z us ds → Ats X.K Z (cutV us l h) (cut ds l h) := fun Z z => by
      unfold cutV cut
      rw [h2.length]
      exact (z.drop _).take _
    exact ⟨_, ((s1.trans s2).trans s3).trans (Same.of_none hq), ((n1.trans n2).trans n3).trans n5, r5, .tup (.inl (.inl upd_same)) (hh _ (h2.mono n5))⟩
end

/-! ### texts -/
theorem ev_ixX {l : List Nat} {i : Int} {k : Nat} (ha : Ev X H0 ρ a (tx l)) (hb : Ev X H0 ρ b (.int i)) (hz : l.length ≤ sizeLine) (q : atI l i = some k) (hs : PlainIx b := by exact fun _ _ => rfl) : Ev X H0 ρ (.Subscript a b pos) (tx [k]) :=
  ev_ixS (z := SX.S l) ha hb (by rw [SX.S_len]; exact hz) q hs
theorem ev_catX {l m : List Nat} (ha : Ev X H0 ρ a (tx l)) (hb : Ev X H0 ρ b (tx m)) (hz : l.length + m.length ≤ sizeLine) : Ev X H0 ρ (.BinOp a .Add b pos) (tx (l ++ m)) := by
  have := ev_cat (pos := pos) ha hb (by rw [SX.S_len, SX.S_len]; exact hz)
  rw [SX.S_cat] at this
  exact this
theorem et_eqX {l m : List Nat} (ha : Ev X H0 ρ a (tx l)) (hb : Ev X H0 ρ b (tx m)) : EvT X H0 ρ (.Compare a [.Eq] [b] pos) (decide (l = m)) := by
  have := et_eqS (pos := pos) ha hb
  rw [show decide (SX.S l = SX.S m) = decide (l = m) from decide_eq_decide.mpr ⟨SX.S_inj, fun e => by rw [e]⟩] at this
  exact this
theorem ev_eqX {l m : List Nat} (ha : Ev X H0 ρ a (tx l)) (hb : Ev X H0 ρ b (tx m)) : Ev X H0 ρ (.Compare a [.Eq] [b] pos) (.bl (decide (l = m))) := by
  have := ev_eqS (pos := pos) ha hb
  rw [show decide (SX.S l = SX.S m) = decide (l = m) from decide_eq_decide.mpr ⟨SX.S_inj, fun e => by rw [e]⟩] at this
  exact this
theorem et_neX {l m : List Nat} (ha : Ev X H0 ρ a (tx l)) (hb : Ev X H0 ρ b (tx m)) : EvT X H0 ρ (.Compare a [.NotEq] [b] pos) (!decide (l = m)) := by
  have := et_neS (pos := pos) ha hb
  rw [show decide (SX.S l = SX.S m) = decide (l = m) from decide_eq_decide.mpr ⟨SX.S_inj, fun e => by rw [e]⟩] at this
  exact this
theorem ev_neX {l m : List Nat} (ha : Ev X H0 ρ a (tx l)) (hb : Ev X H0 ρ b (tx m)) : Ev X H0 ρ (.Compare a [.NotEq] [b] pos) (.bl (!decide (l = m))) := by
  have := ev_neS (pos := pos) ha hb
  rw [show decide (SX.S l = SX.S m) = decide (l = m) from decide_eq_decide.mpr ⟨SX.S_inj, fun e => by rw [e]⟩] at this
  exact this
theorem et_inX {k : Nat} {l : List Nat} (ha : Ev X H0 ρ a (tx [k])) (hb : Ev X H0 ρ b (tx l)) (hm : behindInMarks .In b = false := by rfl) : EvT X H0 ρ (.Compare a [.In] [b] pos) (decide (k ∈ l)) :=
  evt_bin (fun _ _ h k => pt_cmpR op_in_sign h k hm) ha.toB hb.toB fun x y σ H N Q r p q g => ⟨k, SX.S l, at_str p, at_str q, goes_self g r (.bl _)⟩
theorem et_ninX {k : Nat} {l : List Nat} (ha : Ev X H0 ρ a (tx [k])) (hb : Ev X H0 ρ b (tx l)) (hm : behindInMarks .NotIn b = false := by rfl) : EvT X H0 ρ (.Compare a [.NotIn] [b] pos) (!decide (k ∈ l)) :=
  evt_bin (fun _ _ h k => pt_cmpR op_notIn_sign h k hm) ha.toB hb.toB fun x y σ H N Q r p q g => ⟨k, SX.S l, at_str p, at_str q, goes_self g r (.bl _)⟩
theorem ev_inX {k : Nat} {l : List Nat} (ha : Ev X H0 ρ a (tx [k])) (hb : Ev X H0 ρ b (tx l)) (hm : behindInMarks .In b = false := by rfl) : Ev X H0 ρ (.Compare a [.In] [b] pos) (.bl (decide (k ∈ l))) :=
  ev_bin (fun _ _ h k => pe_cmpR op_in_sign h k hm) ha.toB hb.toB fun x y σ H N Q r p q g => ⟨k, SX.S l, at_str p, at_str q, goes_self g r (.bl _)⟩
theorem ev_ninX {k : Nat} {l : List Nat} (ha : Ev X H0 ρ a (tx [k])) (hb : Ev X H0 ρ b (tx l)) (hm : behindInMarks .NotIn b = false := by rfl) : Ev X H0 ρ (.Compare a [.NotIn] [b] pos) (.bl (!decide (k ∈ l))) :=
  ev_bin (fun _ _ h k => pe_cmpR op_notIn_sign h k hm) ha.toB hb.toB fun x y σ H N Q r p q g => ⟨k, SX.S l, at_str p, at_str q, goes_self g r (.bl _)⟩
theorem it_tx {t : Expr} {l : List Nat} (h : Ev X H0 ρ e (tx l)) : Iter X H0 ρ t e (l.map fun k => tx [k]) := it_str (z := SX.S l) h

theorem ev_lit {z : Str} {l : List Nat} {j} (h : z = SX.S l := by decide +kernel) : Ev X H0 ρ (.Constant (.str z) j pos) (tx l) := by
  subst h
  exact ev_str

/-! ### methods of texts -/
theorem ev_m1 {id : String} {name : Str} {apos : Pos} {r : V → List V → Hp → VK → Prop} {z : Str} (slot : Slot "str" name id) (ty : typeOf (.builtin id) = pure (.type "method_descriptor")) (rule : MtR X id r) (ha : Ev X H0 ρ a (.str z)) (hb : EvB X H0 ρ b d1)
    (hr : ∀ y σ H N Q, Rep X.K H0 ρ σ H N → At X.K H y d1 → Goes X.K H0 ρ σ H N d Q → r (.str z) [y] H Q)
    (hs : starEach [b] X.env = [(false, eval b X.env)] := by rfl) (hbase : attributeBase a name X.env (eval a X.env) = eval a X.env := by rfl) (hline : (apos.endLine == pos.line) = true := by rfl) :
    Ev X H0 ρ (.Call (.Attribute a name apos) [b] [] pos) d := fun σ H N rp =>
  we_of (pe_m1 slot ty rule pe_w pe_w hs hbase hline) ((ha σ H N rp).imp fun v H1 ⟨N1, s1, n1, r1, a1⟩ => by
    rw [at_str a1]
    exact ⟨⟨z, rfl⟩, (hb σ H1 N1 r1).imp fun y H2 ⟨N2, s2, n2, r2, a2⟩ => hr y σ H2 N2 _ r2 a2 fun v H' N' s n rr aa => ⟨N', (s1.trans s2).trans s, (n1.trans n2).trans n, rr, aa⟩⟩)
section
variable {z y : Str} {apos : Pos} (ha : Ev X H0 ρ a (.str z)) (hb : Ev X H0 ρ b (.str y)) (hs : starEach [b] X.env = [(false, eval b X.env)]) (hline : (apos.endLine == pos.line) = true)
include ha hb hs hline
theorem ev_find0 (hbase : attributeBase a "find" X.env (eval a X.env) = eval a X.env) : Ev X H0 ρ (.Call (.Attribute a "find" apos) [b] [] pos) (.int (Txt.find z y)) :=
  ev_m1 F.slot_str_find F.type_str_find mt_find ha hb.toB (fun v σ H N Q r q g => ⟨z, y, rfl, by rw [at_str q], goes_self g r (.int _)⟩) hs hbase hline
theorem ev_count0 (hbase : attributeBase a "count" X.env (eval a X.env) = eval a X.env) : Ev X H0 ρ (.Call (.Attribute a "count" apos) [b] [] pos) (.int (Txt.count z y)) :=
  ev_m1 F.slot_str_count F.type_str_count mt_count ha hb.toB (fun v σ H N Q r q g => ⟨z, y, rfl, by rw [at_str q], goes_self g r (.int _)⟩) hs hbase hline
theorem ev_starts0 (hbase : attributeBase a "startswith" X.env (eval a X.env) = eval a X.env) : Ev X H0 ρ (.Call (.Attribute a "startswith" apos) [b] [] pos) (.bl (Txt.startswith z y)) :=
  ev_m1 F.slot_str_startswith F.type_str_startswith mt_startswith ha hb.toB (fun v σ H N Q r q g => ⟨z, y, rfl, by rw [at_str q], goes_self g r (.bl _)⟩) hs hbase hline
end
theorem ats_strs {K : PySem.W.Frag} {H : Hp} : ∀ {vs : List V} {ys : List Str}, Ats K H vs (ys.map .str) → vs = ys.map .str
  | [], [], _ => rfl
  | _ :: _, n :: ns, .cons a t => by
    cases a
    rw [ats_strs t]
    rfl
  | [], _ :: _, h => by cases h
  | _ :: _, [], h => by cases h
theorem ev_join {z : Str} {ys : List Str} {apos : Pos} (ha : Ev X H0 ρ a (.str z)) (hb : EvB X H0 ρ b (.lst (ys.map .str))) (hz : (ys.map (·.length)).sum + ys.length * z.length ≤ 16777216)
    (hs : starEach [b] X.env = [(false, eval b X.env)] := by rfl) (hbase : attributeBase a "join" X.env (eval a X.env) = eval a X.env := by rfl) (hline : (apos.endLine == pos.line) = true := by rfl) :
    Ev X H0 ρ (.Call (.Attribute a "join" apos) [b] [] pos) (.str (Txt.join z ys)) :=
  ev_m1 F.slot_str_join F.type_str_join mt_join ha hb (fun v σ H N Q r q g => by
    obtain ⟨pp, us, e3, h1, h2⟩ := at_lst q
    rw [ats_strs h2] at h1
    exact ⟨z, pp, ys, rfl, by rw [e3], .inl h1, hz, goes_self g r (.str _)⟩) hs hbase hline
end

/-! ### data that may be compared -/
def okn : Nat → Dat → Bool
  | _, .non => true
  | _, .bl _ => true
  | _, .int _ => true
  | _, .str s => PyData.strOk s
  | n + 1, .tup ds => ds.all (okn n)
  | n + 1, .lst ds => ds.all (okn n)
  | 0, .tup _ => false
  | 0, .lst _ => false
  | _, .dic _ => false
theorem okn_ok : ∀ (n : Nat) (d : Dat), okn n d = true → nodic d = true ∧ (pd d).canLay0 = true ∧ (pd d).depth ≤ n
  | n, .non, _ => ⟨rfl, rfl, Nat.zero_le _⟩
  | n, .bl _, _ => ⟨rfl, rfl, Nat.zero_le _⟩
  | n, .int _, _ => ⟨rfl, rfl, Nat.zero_le _⟩
  | n, .str s, h => by
    have h' : PyData.strOk s = true := by cases n <;> exact h
    exact ⟨rfl, h', Nat.zero_le _⟩
  | n + 1, .tup ds, h => by
    have k : ∀ ds : List Dat, ds.all (okn n) = true → nodics ds = true ∧ PyData.canLayAll0 (pds ds) = true ∧ PyData.depthAll (pds ds) ≤ n := by
      intro ds
      induction ds with
      | nil => intro _; exact ⟨rfl, rfl, Nat.zero_le _⟩
      | cons d r ih =>
        intro q
        rw [List.all_cons, Bool.and_eq_true] at q
        obtain ⟨a1, a2, a3⟩ := okn_ok n d q.1
        obtain ⟨b1, b2, b3⟩ := ih q.2
        refine ⟨?_, ?_, ?_⟩
        · show (nodic d && nodics r) = true; rw [a1, b1]; rfl
        · show ((pd d).canLay0 && PyData.canLayAll0 (pds r)) = true; rw [a2, b2]; rfl
        · show max (pd d).depth (PyData.depthAll (pds r)) ≤ n; omega
    obtain ⟨c1, c2, c3⟩ := k ds h
    exact ⟨c1, c2, Nat.succ_le_succ c3⟩
  | n + 1, .lst ds, h => by
    have k : ∀ ds : List Dat, ds.all (okn n) = true → nodics ds = true ∧ PyData.canLayAll0 (pds ds) = true ∧ PyData.depthAll (pds ds) ≤ n := by
      intro ds
      induction ds with
      | nil => intro _; exact ⟨rfl, rfl, Nat.zero_le _⟩
      | cons d r ih =>
        intro q
        rw [List.all_cons, Bool.and_eq_true] at q
        obtain ⟨a1, a2, a3⟩ := okn_ok n d q.1
        obtain ⟨b1, b2, b3⟩ := ih q.2
        refine ⟨?_, ?_, ?_⟩
        · show (nodic d && nodics r) = true; rw [a1, b1]; rfl
        · show ((pd d).canLay0 && PyData.canLayAll0 (pds r)) = true; rw [a2, b2]; rfl
        · show max (pd d).depth (PyData.depthAll (pds r)) ≤ n; omega
    obtain ⟨c1, c2, c3⟩ := k ds h
    exact ⟨c1, c2, Nat.succ_le_succ c3⟩
  | 0, .tup _, h => by cases h
  | 0, .lst _, h => by cases h
  | n, .dic _, h => by cases n <;> cases h
theorem okD_of {n : Nat} {d : Dat} (h : okn n d = true) (hn : n ≤ 64 := by decide) : okD d = true := by
  obtain ⟨a1, a2, a3⟩ := okn_ok n d h
  unfold okD SeqAt.shaped
  rw [a1, a2, decide_eq_true (Nat.le_trans a3 hn)]
  rfl
theorem okD_ints (ns : List Int) : okD (.lst (ns.map .int)) = true := okD_of (n := 1) (by show (ns.map Dat.int).all (okn 0) = true; rw [List.all_map]; exact List.all_eq_true.mpr fun _ _ => rfl)
theorem eqv_ints : ∀ (ns ms : List Int), PyData.eqv (pd (.lst (ns.map .int))) (pd (.lst (ms.map .int))) = decide (ns = ms)
  | [], [] => rfl
  | [], _ :: _ => rfl
  | _ :: _, [] => rfl
  | n :: ns, m :: ms => by
    have ih := eqv_ints ns ms
    show ((n == m) && PyData.eqvAll (pds (ns.map .int)) (pds (ms.map .int))) = _
    have ih' : PyData.eqvAll (pds (ns.map .int)) (pds (ms.map .int)) = decide (ns = ms) := ih
    rw [ih']
    by_cases h1 : n = m
    · subst h1
      simp
    · simp [h1]
/-- a loop over a row, the state by the number of turns -/
theorem for_rows {X : Cx} {H0 : Hp} {bd : Dat → Env' → Env'} {body : List Stmt} : ∀ {ds : List Dat} (ρ : Nat → Env'), (∀ (i : Nat) (d : Dat), ds[i]? = some d → Exec X H0 (bd d (ρ i)) body (.nx (ρ (i + 1)))) → ForT X H0 bd body ds (ρ 0) (.nx (ρ ds.length))
  | [], _, _ => .nil
  | d :: ds, ρ, h => .turn (h 0 d rfl) (for_rows (fun i => ρ (i + 1)) fun i e he => h (i + 1) e he)
theorem for_steps {X : Cx} {H0 : Hp} {bd : Dat → Env' → Env'} {body : List Stmt} {lo c : Int} {n : Nat} (ρ : Nat → Env') (h : ∀ i : Nat, i < n → Exec X H0 (bd (.int (lo + (i : Int) * c)) (ρ i)) body (.nx (ρ (i + 1)))) : ForT X H0 bd body (steps lo c n) (ρ 0) (.nx (ρ n)) := by
  have := for_rows (X := X) (H0 := H0) (bd := bd) (body := body) (ds := steps lo c n) ρ (fun i d hd => by
    have hi : i < n := by have := lt_of_get hd; rwa [steps_len] at this
    rw [steps_get hi] at hd
    cases hd
    exact h i hi)
  rwa [steps_len] at this
theorem flats_ints (ns : List Int) : flats (ns.map .int) = true := by
  induction ns with
  | nil => rfl
  | cons n ns ih => exact ih
end B

namespace B
open PySem PySem.Spec PyProof.Rows L2

/-! ### a text so many times -/
theorem foldl_cat {α : Type} (l : List α) : ∀ (k : Nat) (acc : Array α), ((List.replicate k l.toArray).foldl (· ++ ·) acc) = (acc.toList ++ (List.replicate k l).flatten).toArray
  | 0, acc => by simp
  | k + 1, acc => by
    rw [List.replicate_succ, List.foldl_cons, foldl_cat l k, List.replicate_succ, List.flatten_cons]
    simp [List.append_assoc]
theorem mul_S {l : List Nat} {n : Int} : Txt.mul (SX.S l) n = SX.S (List.replicate n.toNat l).flatten := by
  unfold Txt.mul
  by_cases h1 : n < 1
  · rw [if_pos h1, show n.toNat = 0 by omega]
    rfl
  · rw [if_neg h1]
    split
    · rename_i h
      rw [Bool.or_eq_true] at h
      rcases h with h | h
      · rw [eq_of_beq h]
        show _ = SX.S (List.replicate 1 l).flatten
        simp
      · have e : l = [] := by
          have := eq_of_beq h
          rw [SX.S_len] at this
          exact List.length_eq_zero_iff.mp this
        subst e
        simp
    · have := foldl_cat l n.toNat #[]
      show (⟨(List.replicate n.toNat l.toArray).foldl (· ++ ·) #[]⟩ : Str) = _
      rw [this]
      simp
theorem op_mul_str {X : Cx} : OpR X (binaryOp .Mult) (fun x y H Q => ∃ z n, x = .str z ∧ y = .int n ∧ MulOk z n ∧ Q (.str (Txt.mul z n)) H) := by
  intro pins s σ H x y v u Q I rx ry h
  obtain ⟨i, j, rfl, rfl, hz, q⟩ := h
  obtain ⟨t, rfl⟩ := rx
  obtain ⟨t', rfl⟩ := ry
  exact SB.mul hz fun t' k => ⟨.str _, H, I.tok k, ⟨_, rfl⟩, q⟩
theorem mulOk_small {l : List Nat} {n : Int} (h1 : -100000 ≤ n) (h2 : n ≤ 100000) (h3 : l.length ≤ 100) : MulOk (SX.S l) n := by
  refine ⟨?_, fun a b => ?_, fun a b => ?_⟩
  · rw [decide_eq_false (by omega), decide_eq_false (by omega)]; rfl
  · rw [SX.S_len]
    have : (2 ^ 63 - 1) / 100000 ≤ (2 ^ 63 - 1) / n := by
      rw [Int.le_ediv_iff_mul_le (by omega)]
      have : (2 ^ 63 - 1) / 100000 * n ≤ (2 ^ 63 - 1) / 100000 * 100000 := Int.mul_le_mul_of_nonneg_left h2 (by decide)
      omega
    omega
  · rw [SX.S_len]
    have : l.length * n.toNat ≤ 100 * 100000 := Nat.mul_le_mul h3 (by omega)
    have e : sizeLine = 16777216 := by decide
    unfold Builtin.Str.tooLong
    first | exact decide_eq_false (by omega) | (simp; omega)

section
variable {X : Cx} {H0 : Hp} {ρ ρ1 ρ2 : Env'} {a b c e : Expr} {es : List Expr} {st : Stmt} {sts rest : List Stmt} {d d1 d2 : Dat} {ds : List Dat} {p pos : Pos} {o o1 : Outc} {x n : Str} {k : Nat}
theorem ev_repX {l : List Nat} {k : Int} (ha : Ev X H0 ρ a (tx l)) (hb : Ev X H0 ρ b (.int k)) (h : MulOk (SX.S l) k) : Ev X H0 ρ (.BinOp a .Mult b pos) (tx (List.replicate k.toNat l).flatten) :=
  ev_bin (fun _ _ h k => pe_op op_mul_str h k) ha.toB hb.toB fun x y σ H N Q r p q g => ⟨_, _, at_str p, at_int q, h, by rw [mul_S]; exact goes_self g r (.str _)⟩

/-! ### shifts to the left, wide -/
theorem ev_shlW {i : Int} {k : Nat} (ha : Ev X H0 ρ a (.int i)) (hb : Ev X H0 ρ b (.int (k : Int))) (h : CShl i (k : Int)) : Ev X H0 ρ (.BinOp a .LShift b pos) (.int (i * 2 ^ k)) := by
  have := ev_intop (pos := pos) ha hb (g := fun i j => i * 2 ^ j.toNat) op_shlW h
  rwa [Int.toNat_natCast] at this

/-! ### x += y -/
theorem sx_augI (i : Nat) {y : Str} {pos' : Pos} {k j : Int} (hi : ρ[i]? = some (.im (.int k))) (h : Ev X H0 ρ e (.int j)) (nd : X.N.Nodup) (hρ : ρ.set i (.im (.int (k + j))) = ρ1 := by rfl) (hN : X.N[i]? = some y := by rfl) (hx : Loc X.env.scope y := by first | exact Or.inl rfl | exact Or.inr rfl)
    (hp : ∀ te, PE X e te → PS X (.AugAssign (.Name y pos') .Add e pos) (tAug i te (ipI fun i j => i + j)) := by exact fun te h => ps_aug (by assumption) rfl (by first | exact Or.inl rfl | exact Or.inr rfl) h ip_add) :
    ExS X H0 ρ (.AugAssign (.Name y pos') .Add e pos) (.nx ρ1) := fun D σ H N r k => by
  obtain ⟨v, h1, h2⟩ := r.im i _ hi
  refine ws_of (hp _ pe_w) ⟨v, h1, (h σ H N r).imp fun w H' ⟨N', s, n, r', a⟩ => ⟨_, _, at_int h2, at_int a, k _ H' N' n (hρ ▸ r'.setE (e := .im (.int _)) (.int _))⟩⟩

/-! ### items of an owned list are set -/
theorem sx_setIx (i : Nat) {y : Str} {p1 p2 : Pos} {ix : Expr} {k : Int} {j : Nat} (hi : ρ[i]? = some (.ow (.lst ds))) (hv : Ev X H0 ρ e d) (hx : Ev X H0 ρ ix (.int k)) (hj : ixN ds.length k = some j) (hρ : ρ.set i (.ow (.lst (ds.set j d))) = ρ1 := by rfl) (hN : X.N[i]? = some y := by rfl)
    (hvis : Vis X.env.scope y := by first | exact Or.inl rfl | exact Or.inr (Or.inl rfl) | exact Or.inr (Or.inr rfl)) (hd : (y == ("__debug__" : Str)) = false := by decide) (hcd : (y == ("__classdict__" : Str)) = false := by decide)
    (hp : ∀ te to ti, PE X e te → PE X (.Name y p1) to → PE X ix ti → PS X (.Assign [.Subscript (.Name y p1) ix p2] e pos) (tAsg te (gSub to ti rSetL)) := by exact fun te to ti h g f => ps_asg h (pg_sub g f set_list)) :
    ExS X H0 ρ (.Assign [.Subscript (.Name y p1) ix p2] e pos) (.nx ρ1) := fun D σ H N r kk => by
  refine ws_of (hp _ _ _ pe_w (pv i hN hvis hd hcd) pe_w) ((hv σ H N r).imp fun v H1 ⟨N1, s1, n1, r1, a1⟩ => ?_)
  obtain ⟨q, g1, g2, g3, vs, g4, g5⟩ := r1.ow i _ hi
  refine ⟨_, g1, (hx σ H1 N1 r1).imp fun w H2 ⟨N2, s2, n2, r2, a2⟩ => ?_⟩
  obtain ⟨q', f1, f2, f3, us, f4, f5⟩ := r2.ow i _ hi
  rw [g1] at f1
  cases f1
  refine ⟨q, us, k, j, rfl, at_int a2, f4, by rw [f5.length]; exact hj, kk σ _ N2 (n1.trans n2) ?_⟩
  exact hρ ▸ r2.write hi g1 ⟨us.set j v, upd_same, f5.set (a1.mono n2) j⟩
/-- o[i], an item of a list, by values -/
def rGetL : V → V → Hp → VK → Prop := fun o i H Q => ∃ p xs j v, o = .ref p ∧ i = .int ((j : Nat) : Int) ∧ H p = some (.lst xs) ∧ xs[j]? = some v ∧ Q v H
theorem get_list : PGet X rGetL := by
  intro pins s σ H o i ov iv Q I ro ri h
  obtain ⟨p, xs, j, z, rfl, rfl, hp, he, q⟩ := h
  cases ro
  obtain ⟨t, rfl⟩ := ri
  obtain ⟨its, r, pl, hz⟩ := I.list (.inl (.inl hp))
  obtain ⟨w, ew, rw'⟩ := r.get he
  have hj := lt_of_get he
  have hl := r.length
  have hn := line63
  exact wpAny_getItem_list pl.isList (by omega) (by omega) (by simpa using ew) ⟨z, H, I, rw', q⟩
theorem sx_augIx (i : Nat) {y : Str} {p1 p2 : Pos} {ix : Expr} {k l : Int} {j : Nat} (hi : ρ[i]? = some (.ow (.lst ds))) (hx : Ev X H0 ρ ix (.int (j : Int))) (hj : ds[j]? = some (.int k)) (hv : Ev X H0 ρ e (.int l)) (hρ : ρ.set i (.ow (.lst (ds.set j (.int (k + l))))) = ρ1 := by rfl) (hN : X.N[i]? = some y := by rfl)
    (hvis : Vis X.env.scope y := by first | exact Or.inl rfl | exact Or.inr (Or.inl rfl) | exact Or.inr (Or.inr rfl)) (hd : (y == ("__debug__" : Str)) = false := by decide) (hcd : (y == ("__classdict__" : Str)) = false := by decide)
    (hp : ∀ te to ti, PE X e te → PE X (.Name y p1) to → PE X ix ti → PS X (.AugAssign (.Subscript (.Name y p1) ix p2) .Add e pos) (tAugS to ti te rGetL (ipI fun i j => i + j) rSetL) := by exact fun te to ti h g f => ps_augS g f get_list h ip_add set_list) :
    ExS X H0 ρ (.AugAssign (.Subscript (.Name y p1) ix p2) .Add e pos) (.nx ρ1) := fun D σ H N r kk => by
  obtain ⟨q, g1, g2, g3, vs, g4, g5⟩ := r.ow i _ hi
  refine ws_of (hp _ _ _ pe_w (pv i hN hvis hd hcd) pe_w) ⟨_, g1, (hx σ H N r).imp fun w H1 ⟨N1, s1, n1, r1, a1⟩ => ?_⟩
  obtain ⟨q', f1, f2, f3, us, f4, f5⟩ := r1.ow i _ hi
  rw [g1] at f1
  cases f1
  obtain ⟨z, z1, z2⟩ := f5.get hj
  refine ⟨q, us, j, z, rfl, at_int a1, f4, z1, (hv σ H1 N1 r1).imp fun u H2 ⟨N2, s2, n2, r2, a2⟩ => ⟨k, l, at_int z2, at_int a2, ?_⟩⟩
  obtain ⟨q', f1, f2, f3, us2, f6, f7⟩ := r2.ow i _ hi
  rw [g1] at f1
  cases f1
  have hlt : j < us2.length := by rw [f7.length]; exact lt_of_get hj
  refine ⟨q, us2, j, j, rfl, at_int a1, f6, ?_, kk σ _ N2 (n1.trans n2) ?_⟩
  · unfold ixN
    rw [if_pos (by omega), if_pos (by omega), Int.toNat_natCast]
  · exact hρ ▸ r2.write hi g1 ⟨us2.set j (.int (k + l)), upd_same, f7.set (.int _) j⟩

/-! ### casts, joins, ends by an error -/
theorem eb_to (h : EvB X H0 ρ e d1) (hk : d1 = d) : EvB X H0 ρ e d := hk ▸ h
theorem eo_to (h : EvO X H0 ρ e d1) (hk : d1 = d) : EvO X H0 ρ e d := hk ▸ h
theorem ev_joinX {l : List Nat} {yss : List (List Nat)} {apos : Pos} (ha : Ev X H0 ρ a (tx l)) (hb : EvB X H0 ρ b (.lst (yss.map tx))) (hz : (yss.map (·.length)).sum + yss.length * l.length ≤ 16777216)
    (hs : starEach [b] X.env = [(false, eval b X.env)] := by rfl) (hbase : attributeBase a "join" X.env (eval a X.env) = eval a X.env := by rfl) (hline : (apos.endLine == pos.line) = true := by rfl) :
    Ev X H0 ρ (.Call (.Attribute a "join" apos) [b] [] pos) (tx (TL.joinL l yss)) := by
  have h := ev_join (z := SX.S l) (ys := yss.map SX.S) (apos := apos) (pos := pos) ha (by rw [List.map_map]; exact hb) (by rw [SX.lens, List.length_map, SX.S_len]; exact hz) hs hbase hline
  rw [SX.join_S] at h
  exact h
theorem Rep.nos {K : PySem.W.Frag} {H N : Hp} {σ : L2.St} (r : Rep K H0 ρ σ H N) : Rep K H0 (List.replicate ρ.length .no) σ H N where
  old := r.old
  sub := r.sub
  imm := r.imm
  fresh := r.fresh
  len := by rw [List.length_replicate, r.len]
  im := fun i d h => by rw [List.getElem?_replicate] at h; split at h <;> cases h
  ol := fun i d h => by rw [List.getElem?_replicate] at h; split at h <;> cases h
  ow := fun i d h => by rw [List.getElem?_replicate] at h; split at h <;> cases h
  rf := fun i a h => by rw [List.getElem?_replicate] at h; split at h <;> cases h
  apart := fun i j d d' p _ h => by rw [List.getElem?_replicate] at h; split at h <;> cases h
/-- behind an error nothing is asked of the names -/
theorem ex_nos (h : Exec X H0 ρ sts (.ex n ρ1)) (hk : ρ1.length = k) : Exec X H0 ρ sts (.ex n (List.replicate k .no)) := fun D σ H N r ⟨W, tk, q⟩ =>
  h D σ H N r ⟨W, tk, fun C σ' H' N' m s r' => q C σ' H' N' m s (hk ▸ r'.nos)⟩
end
theorem slice_cut (l : List Nat) (lo hi : Option Int) : Txt.slice (SX.S l) lo hi = SX.S (cut l lo hi) := by
  rw [← C8.cutS_slice]
  unfold cutS cut
  rw [SX.S_len]
theorem ev_slX {X : Cx} {H0 : Hp} {ρ : Env'} {a : Expr} {pos p2 : Pos} {lo hi : Option Expr} {i j : Option Int} {l : List Nat} (ha : Ev X H0 ρ a (tx l)) (hl : EvP X H0 ρ lo i) (hh : EvP X H0 ρ hi j) (hz : l.length ≤ sizeLine) : Ev X H0 ρ (.Subscript a (.Slice lo hi none p2) pos) (tx (cut l i j)) := by
  have := ev_slS (pos := pos) (p2 := p2) (z := SX.S l) ha hl hh (by rw [SX.S_len]; exact hz)
  rw [slice_cut] at this
  exact this
theorem cut_to {α : Type} {l : List α} {i : Int} (h : 0 ≤ i) : cut l none (some i) = l.take i.toNat := by
  obtain ⟨k, rfl⟩ := Int.eq_ofNat_of_zero_le h
  show (l.drop 0).take (HT.sIx l.length l.length (some ((k : Nat) : Int)) - 0) = _
  rw [HT.sIx_nat, List.drop_zero, Nat.sub_zero, Int.toNat_natCast]
  by_cases hk : k ≤ l.length
  · rw [Nat.min_eq_left hk]
  · rw [Nat.min_eq_right (by omega), List.take_of_length_le (Nat.le_refl _), List.take_of_length_le (by omega)]
theorem cut_from {α : Type} {l : List α} {i : Int} (h : 0 ≤ i) : cut l (some i) none = l.drop i.toNat := by
  obtain ⟨k, rfl⟩ := Int.eq_ofNat_of_zero_le h
  show (l.drop (HT.sIx l.length 0 (some ((k : Nat) : Int)))).take (l.length - HT.sIx l.length 0 (some ((k : Nat) : Int))) = _
  rw [HT.sIx_nat, Int.toNat_natCast]
  by_cases hk : k ≤ l.length
  · rw [Nat.min_eq_left hk, List.take_of_length_le (by rw [List.length_drop]; omega)]
  · rw [Nat.min_eq_right (by omega), List.drop_of_length_le (Nat.le_refl _), List.drop_of_length_le (by omega)]
    simp
theorem cut_mid {α : Type} {l : List α} {i j : Int} (h : 0 ≤ i) (h2 : 0 ≤ j) : cut l (some i) (some j) = (l.take j.toNat).drop i.toNat := by
  obtain ⟨k, rfl⟩ := Int.eq_ofNat_of_zero_le h
  obtain ⟨m, rfl⟩ := Int.eq_ofNat_of_zero_le h2
  show (l.drop (HT.sIx l.length 0 (some ((k : Nat) : Int)))).take (HT.sIx l.length l.length (some ((m : Nat) : Int)) - HT.sIx l.length 0 (some ((k : Nat) : Int))) = _
  rw [HT.sIx_nat, HT.sIx_nat, Int.toNat_natCast, Int.toNat_natCast, ← List.drop_take]
  by_cases hk : k ≤ l.length
  · rw [Nat.min_eq_left hk]
    by_cases hm : m ≤ l.length
    · rw [Nat.min_eq_left hm]
    · rw [Nat.min_eq_right (by omega), List.take_of_length_le (Nat.le_refl _), List.take_of_length_le (by omega)]
  · rw [Nat.min_eq_right (by omega)]
    rw [List.drop_of_length_le (by rw [List.length_take]; omega), List.drop_of_length_le (by rw [List.length_take]; omega)]
theorem dlen_tx {l : List Nat} (h : l.length ≤ sizeLine) : dlen (tx l) = some l.length := by
  show (if (SX.S l).length ≤ sizeLine then some (SX.S l).length else none) = _
  rw [SX.S_len, if_pos h]
theorem at_nat {l : List Nat} {i : Int} {k : Nat} (h0 : 0 ≤ i) (h : l[i.toNat]? = some k) : atI l i = some k := by
  have := atI_nat (v := k) h
  rwa [Int.toNat_of_nonneg h0] at this
theorem at_dat {l : List Dat} {i : Int} {k : Dat} (h0 : 0 ≤ i) (h : l[i.toNat]? = some k) : atI l i = some k := by
  have := atI_nat (v := k) h
  rwa [Int.toNat_of_nonneg h0] at this
end B

namespace B
open PySem PySem.Spec PyProof.Rows L2
section
variable {X : Cx} {H0 : Hp} {ρ ρ1 ρ2 : Env'} {a b c e : Expr} {es : List Expr} {st : Stmt} {sts rest : List Stmt} {d d1 d2 : Dat} {ds : List Dat} {p pos : Pos} {o o1 : Outc} {x n : Str}
/-- a name is given what a comprehension makes -/
theorem sx_setLc (j0 : Nat) {elt tg iter : Expr} {ifs : List Expr} {scope : Scope} {xn y : Str} (i : Nat) {pos py spos : Pos} (hc : X.calm = true) (nd : X.N.Nodup) (hi : Iter X H0 ρ tg iter ds) (ok : blkC X.N X.env.scope scope [(xn, i)] = true) (hx : ρ[i]? = some .no) (f : Dat → Bool) (g : Dat → Dat)
    (htg : ∀ (s : Shared) (H : Hp) (C : Addr) (cl : List (Str × Addr)) (fp : List Addr), PG (X.blk s H scope (compEnvC scope cl C X.env) fp) tg (gName i))
    (hif : (ifs = [] ∧ ∀ d ∈ ds, f d = true) ∨ ∃ c, ifs = [c] ∧ ∀ (H0' : Hp) (s : Shared) (H : Hp) (C : Addr) (cl : List (Str × Addr)) (fp : List Addr), Same H0 H0' → ∀ d ∈ ds, EvT (X.blk s H scope (compEnvC scope cl C X.env) fp) H0' (ρ.set i (.im d)) c (f d))
    (hel : ∀ (H0' : Hp) (s : Shared) (H : Hp) (C : Addr) (cl : List (Str × Addr)) (fp : List Addr), Same H0 H0' → ∀ d ∈ ds, f d = true → Ev (X.blk s H scope (compEnvC scope cl C X.env) fp) H0' (ρ.set i (.im d)) elt (g d))
    (hz : ds.length < sizeLine) (hρ : ρ.set j0 (.ow (.lst ((ds.filter f).map g))) = ρ1 := by rfl) (hs : ∀ x, foldedSetIterable iter X.env x = pure x := by intro _; rfl) (hy : X.N[j0]? = some y := by rfl) (hyl : X.env.scope.names.lookup y = some .local := by rfl)
    (hsw : swapsWith (.ListComp elt [⟨tg, iter, ifs, 0⟩] scope pos) (some (.Name y py)) spos.line X.env = pure true := by rfl) :
    ExS X H0 ρ (.Assign [.Name y py] (.ListComp elt [⟨tg, iter, ifs, 0⟩] scope pos) spos) (.nx ρ1) := fun DD σ H N r kk => by
  obtain ⟨wi, pi, hw⟩ := hi
  have pts : ∀ (s : Shared) (H : Hp) (C : Addr) (cl : List (Str × Addr)) (fp : List Addr), PTs (X.blk s H scope (compEnvC scope cl C X.env) fp) ifs
      (fun σ H Q => (ifs = [] ∧ Q true H) ∨ ∃ c, ifs = [c] ∧ ∀ s H' C cl fp, WT (X.blk s H' scope (compEnvC scope cl C X.env) fp) c σ H Q) := fun s H C cl fp => ⟨fun pins s' σ H Q I h => by
    rcases h with ⟨rfl, h⟩ | ⟨c, rfl, h⟩
    · exact pts_nil.run pins s' σ H Q I h
    · exact (pts_one pt_w).run pins s' σ H Q I (h _ _ _ _ _)⟩
  have pes : ∀ (s : Shared) (H : Hp) (C : Addr) (cl : List (Str × Addr)) (fp : List Addr), PE (X.blk s H scope (compEnvC scope cl C X.env) fp) elt
      (fun σ H Q => ∀ s H' C cl fp, WE (X.blk s H' scope (compEnvC scope cl C X.env) fp) elt σ H Q) := fun s H C cl fp => ⟨fun pins s' σ H Q I h => (h _ _ _ _ _).go pins s' I⟩
  refine ws_of (ps_setLc hc nd hy hyl hsw pi (blkOk_by ok) htg pts pes hs) (hw σ H N r _ fun J H1 N1 n1 s1 r1 w => fun D hD => ?_)
  have hiσ : i < σ.length := by rw [← r.len]; exact lt_of_get hx
  refine ⟨fun j m H' => m = ds.length - j ∧ j ≤ ds.length ∧ ∃ N' acc, Same N1 N' ∧ Same H1 H' ∧ Rep X.K H0 ρ σ H' N' ∧ N' D = none ∧ H' D = some (.lst acc) ∧ Ats X.K N' acc (((ds.take j).filter f).map g), ⟨_, rfl, Nat.zero_le _, N1, [], Same.refl _, Same.of_none hD, r1.grow (Same.of_none hD), r1.sub.free hD, upd_same, by simpa using Ats.nil⟩, ?_⟩
  rintro j m H' ⟨rfl, hj, N', acc, s', e', r', dN, dH, aa⟩
  have h0D : H0 D = none := r1.old.free hD
  have npD : ∀ (q : Nat) d, ρ[q]? = some (Ent.ow d) → σ[q]? ≠ some (some (V.ref D)) := no_own r1 hD
  obtain ⟨wg, wst⟩ := w (upd H0 D (.lst acc)) ρ σ H' N' j (Same.of_none h0D) s' (r'.toOld h0D dH dN npD)
  by_cases hlt : j < ds.length
  · obtain ⟨go, yl⟩ := wg hlt
    have et : ds.take (j + 1) = ds.take j ++ [ds[j]] := by rw [List.take_succ, List.getElem?_eq_getElem hlt]; rfl
    refine .inr ⟨go, fun H' => ∃ N' acc, Same N1 N' ∧ Same H1 H' ∧ Rep X.K H0 ρ σ H' N' ∧ N' D = none ∧ H' D = some (.lst acc) ∧ Ats X.K N' acc (((ds.take (j + 1)).filter f).map g), fun H2 q => ⟨_, by omega, rfl, hlt, q⟩, fun x H2 y => ?_⟩
    obtain ⟨N2, d, n2, e2, r2, e3, a2⟩ := yl x H2 y
    have ed : d = ds[j] := by
      rw [List.getElem?_eq_getElem hlt] at e3
      exact (Option.some.inj e3).symm
    subst ed
    have dH2 : H2 D = some (.lst acc) := e2 _ _ dH
    have np : ∀ (q : Nat) d, ρ[q]? = some (Ent.ow d) → σ[q]? ≠ some (some (V.ref D)) := no_own r1 hD
    have d0 : Same H0 (upd H0 D (.lst acc)) := Same.of_none h0D
    have mem : ds[j] ∈ ds := List.getElem_mem hlt
    have dH2 : H2 D = some (.lst acc) := e2 _ _ dH
    have r2' : Rep X.K (upd H0 D (.lst acc)) ρ σ H2 N2 := r2
    have rs := r2'.setE (i := i) (v := x) (e := .im ds[j]) a2
    have ws : (wipe σ [i]).set i (some x) = σ.set i (some x) := by show (σ.set i none).set i (some x) = _; rw [List.set_set]
    show wipe ((wipe σ [i]).set i (some x)) [i] = wipe σ [i] ∧ _
    refine ⟨by rw [ws]; show (σ.set i (some x)).set i none = σ.set i none; rw [List.set_set], ?_⟩
    rw [show (wipe σ (List.map (fun (x : Str × Nat) => x.snd) [(xn, i)])).set i (some x) = σ.set i (some x) from ws]
    have elem : ∀ H3 N3, f ds[j] = true → Same H2 H3 → Same N2 N3 → Rep X.K (upd H0 D (.lst acc)) (ρ.set i (.im ds[j])) (σ.set i (some x)) H3 N3 → ∀ s H' C cl fp, WE (X.blk s H' scope (compEnvC scope cl C X.env) fp) elt (σ.set i (some x)) H3 fun y H4 => ∃ acc', H4 D = some (.lst acc') ∧ acc'.length < sizeLine ∧
        ∃ N' a', Same N1 N' ∧ Same H1 (upd H4 D (.lst (acc' ++ [y]))) ∧ Rep X.K H0 ρ σ (upd H4 D (.lst (acc' ++ [y]))) N' ∧ N' D = none ∧ (upd H4 D (.lst (acc' ++ [y]))) D = some (.lst a') ∧ Ats X.K N' a' (((ds.take (j + 1)).filter f).map g) := fun H3 N3 hf e3' n3 r3 s H5 C cl fp => by
      refine (hel _ s H5 C cl fp d0 _ mem hf _ _ _ r3).imp fun y H4 ⟨N4, s4, n4, r4, a4⟩ => ?_
      have q4 : H4 D = some (.lst acc) := s4 _ _ (e3' _ _ dH2)
      refine ⟨acc, q4, ?_, N4, acc ++ [y], (((s'.trans n2).trans n3).trans n4), fun a u h => ?_, (r'.back hx d0 r4).updD h0D r4.notD np, r4.notD, upd_same, ?_⟩
      · rw [aa.length, List.length_map]
        have := List.length_filter_le f (ds.take j)
        have := List.length_take_le j ds
        omega
      · rw [upd_ne (ne_of_none h hD)]
        exact s4 _ _ (e3' _ _ (e2 _ _ (e' a u h)))
      · rw [et, List.filter_append, List.map_append]
        refine ((aa.mono n2).mono n3 |>.mono n4).append ?_
        rw [List.filter_cons, if_pos hf]
        exact .cons a4 .nil
    have skip : ∀ H3 N3, f ds[j] = false → Same H2 H3 → Same N2 N3 → Rep X.K (upd H0 D (.lst acc)) (ρ.set i (.im ds[j])) (σ.set i (some x)) H3 N3 → ∃ N' acc, Same N1 N' ∧ Same H1 H3 ∧ Rep X.K H0 ρ σ H3 N' ∧ N' D = none ∧ H3 D = some (.lst acc) ∧ Ats X.K N' acc (((ds.take (j + 1)).filter f).map g) := fun H3 N3 hf e3' n3 r3 => by
      refine ⟨N3, acc, (s'.trans n2).trans n3, (e'.trans e2).trans e3', r'.back hx d0 r3, r3.notD, e3' _ _ dH2, ?_⟩
      rw [et, List.filter_append, List.map_append, List.filter_cons, if_neg (by rw [hf]; exact Bool.false_ne_true)]
      simpa using (aa.mono n2).mono n3
    rcases hif with ⟨hne, hft⟩ | ⟨c, hc', ht⟩
    · exact .inl ⟨hne, iteT (elem H2 N2 (hft _ mem) (Same.refl _) (Same.refl _) rs)⟩
    · refine .inr ⟨c, hc', fun s H5 C cl fp => ?_⟩
      refine (ht _ s H5 C cl fp d0 _ mem _ _ _ rs).imp fun bb H3 ⟨eb, N3, s3, n3, r3⟩ => ?_
      subst eb
      cases hf : f ds[j] with
      | true => exact iteT (elem H3 N3 hf s3 n3 r3)
      | false => exact iteF (skip H3 N3 hf s3 n3 r3)
  · have e1 : j = ds.length := by omega
    subst e1
    rw [List.take_length] at aa
    exact .inl ⟨wst rfl, kk _ H' N' (n1.trans s') (hρ ▸ r'.setE (e := .ow (.lst _)) ⟨D, rfl, h0D, dN, ⟨acc, dH, aa⟩, fun q d' _ hq => npD q d' hq⟩)⟩
end
end B

namespace B
open PySem PySem.Spec PyProof.Rows L2
theorem idx_rev (n : Nat) : Builtin.Str.strSliceIndices none none (-1) n = (List.range n).reverse := by
  have e : Builtin.Str.strSliceIndices none none (-1) n = sliceRange ((n : Int) - 1) (-1) (-1) := rfl
  rw [e, PySem.W.krv_sliceRange, PySem.W.krv_range]
theorem pe_revS {X : Cx} {e : Expr} {te : TE} {k : Nat} {p1 p2 p3 pos : Pos} (he : PE X e te) : PE X (.Subscript e (.Slice none none (some (.UnaryOp .USub (.Constant (.int 1) k p1) p2)) p3) pos)
    (fun σ H Q => te σ H fun x H1 => ∃ l : List Nat, x = .str (SX.S l) ∧ l.length ≤ sizeLine ∧ Q (.str (SX.S l.reverse)) H1) := by
  refine ⟨fun pins s σ H Q I h => ?_⟩
  refine Subscript_ (thn (he.run pins s σ H _ I h) fun v s1 ⟨x, H1, I1, r1, q1⟩ => ?_)
  obtain ⟨a, rfl, hz, q⟩ := q1
  obtain ⟨t, rfl⟩ := r1
  have hst : PO X (some (.UnaryOp .USub (.Constant (.int 1) k p1) p2)) (tPart (tUn (rU fun i => .int (-i)) (tC (.int 1)))) := po_some (pe_un un_neg pe_int)
  refine wpAny_Slice (thn (po_none.run pins s1 σ H1 (fun o H2 => o = none ∧ H2 = H1) I1 ⟨rfl, rfl⟩) fun vl s2 ⟨l, H2, I2, pl, el, e2⟩ => ?_)
  subst el e2
  refine thn (po_none.run pins s2 σ H2 (fun o H3 => o = none ∧ H3 = H2) I2 ⟨rfl, rfl⟩) fun vu s3 ⟨u, H3, I3, pu, eu, e3⟩ => ?_
  subst eu e3
  refine thn (hst.run pins s3 σ H3 (fun o H4 => o = some (-1) ∧ H4 = H3) I3 ⟨1, rfl, -1, rfl, rfl, rfl⟩) fun vs s4 ⟨o, H4, I4, ps, eo, e4⟩ => ?_
  subst eo e4
  have I5 : Inv X pins σ H4 { s4 with heap := s4.heap.push { cls := .type "slice", data := .fields #[vl, vu, vs] } } := I4.kept (t' := s4.toks) fun b ob q => Heap.get?_push_of_some _ q
  obtain ⟨l, rfl, el⟩ := IsPart.raw pl
  obtain ⟨u, rfl, eu⟩ := IsPart.raw pu
  obtain ⟨w, rfl, ew⟩ := IsPart.raw ps
  have hs : (s4.heap.push { cls := .type "slice", data := .fields #[partValue l, partValue u, partValue w] }).IsSlice s4.heap.objs.size l u w := ⟨_, Heap.get?_push_size _ rfl, rfl, rfl⟩
  refine tail_any (ops := [.str (SX.S a) t, .ref s4.heap.objs.size]) (typeIs_str _ _ _) F.slot_str_getitem.lookup ?_ (by with_unfolding_all rfl)
  refine wpAny_getItem_str_slice (l := l) (u := u) (st := w) hs (by rw [ew]; rfl) ?_
  unfold sliceMade
  have e1 : ((w.map (·.1)).getD 1 == 1 && (slicePicked (SX.S a) l u w).length == (SX.S a).length) = false := by rw [ew]; rfl
  rw [if_neg (by rw [e1]; exact Bool.false_ne_true)]
  have e2 : (⟨((slicePicked (SX.S a) l u w).filterMap ((SX.S a).cps[·]?)).toArray⟩ : Str) = SX.S a.reverse := by
    unfold slicePicked
    rw [el, eu, ew]
    show (⟨((Builtin.Str.strSliceIndices none none (-1) (SX.S a).length).filterMap ((SX.S a).cps[·]?)).toArray⟩ : Str) = _
    rw [idx_rev, List.filterMap_reverse]
    have := PySem.W.krv_all (SX.S a).cps
    rw [show (SX.S a).length = (SX.S a).cps.size from rfl, this]
  rw [e2]
  refine ⟨by rw [SX.S_len, List.length_reverse]; exact hz, .str _, H4, I5.tok _, ⟨_, rfl⟩, q⟩
section
variable {X : Cx} {H0 : Hp} {ρ ρ1 ρ2 : Env'} {a b c e : Expr} {pos : Pos}
theorem ev_revX {l : List Nat} {k : Nat} {p1 p2 p3 : Pos} (ha : Ev X H0 ρ a (tx l)) (hz : l.length ≤ sizeLine) : Ev X H0 ρ (.Subscript a (.Slice none none (some (.UnaryOp .USub (.Constant (.int 1) k p1) p2)) p3) pos) (tx l.reverse) := fun σ H N r =>
  we_of (pe_revS pe_w) ((ha σ H N r).imp fun v H1 ⟨N1, s1, n1, r1, a1⟩ => ⟨l, at_str a1, hz, N1, s1, n1, r1, .str _⟩)
end
end B

namespace B
open PySem PySem.Spec PyProof.Rows L2

/-! ### find, count of one sign; startswith -/
theorem occ_stop (s sub : Str) (hi limit : Nat) : ∀ (l : List Nat) (st : Array Nat × Nat), ¬ st.1.size < limit → (forIn l st (StrLaws.occBody s sub hi limit)).run = st
  | [], st, _ => rfl
  | a :: l, st, h => by
    rw [List.forIn_cons]
    unfold StrLaws.occBody
    rw [if_neg (fun q => h q.1.1.1)]
    exact occ_stop s sub hi limit l st h
theorem occ_cond (L : List Nat) (c i free n limit : Nat) (acc : Array Nat) (hs : acc.size < limit) (hf : free ≤ i) :
    (((acc.size < limit ∧ free ≤ i) ∧ i + (SX.S [c]).length ≤ (SX.S L).length) ∧ Builtin.Str.subAt (SX.S L) (SX.S [c]) i = true) ↔ L[i]? = some c := by
  have := StrLaws.subAt_one (SX.S L) c i
  constructor
  · intro h; exact this.mp ⟨h.1.2, h.2⟩
  · intro h; have := this.mpr h; exact ⟨⟨⟨hs, hf⟩, this.1⟩, this.2⟩
theorem occ_at (L : List Nat) (c j : Nat) (hj : L[j]? = some c) : ∀ (n a free : Nat), free ≤ a → a ≤ j → j < a + n → (∀ i, a ≤ i → i < j → L[i]? ≠ some c) →
    (forIn (List.range' a n) ((#[] : Array Nat), free) (StrLaws.occBody (SX.S L) (SX.S [c]) (SX.S L).length 1)).run.1.toList = [j]
  | 0, a, _, _, h1, h2, _ => by omega
  | n + 1, a, free, hf, h1, h2, h3 => by
    rw [List.range'_succ, List.forIn_cons]
    unfold StrLaws.occBody
    by_cases e : a = j
    · subst e
      rw [if_pos ((occ_cond L c a free n 1 #[] (by decide) hf).mpr hj)]
      show (forIn (List.range' (a + 1) n) ((#[] : Array Nat).push a, a + 1) (StrLaws.occBody (SX.S L) (SX.S [c]) (SX.S L).length 1)).run.1.toList = [a]
      rw [occ_stop _ _ _ _ _ _ (by simp)]
      rfl
    · rw [if_neg (fun q => h3 a (Nat.le_refl _) (by omega) ((occ_cond L c a free n 1 #[] (by decide) hf).mp q))]
      exact occ_at L c j hj n (a + 1) free (by omega) (by omega) (by omega) (fun i q1 q2 => h3 i (by omega) q2)
theorem find_one {L : List Nat} {c : Nat} (h : c ∈ L) : Txt.find (SX.S L) (SX.S [c]) = ((L.idxOf c : Nat) : Int) := by
  have hlt : L.idxOf c < L.length := List.idxOf_lt_length_iff.mpr h
  have hg : L[L.idxOf c]? = some c := by rw [List.getElem?_eq_getElem hlt, List.getElem_idxOf hlt]
  have ho : Builtin.Str.occurrences (SX.S L) (SX.S [c]) 0 (SX.S L).length 1 = [L.idxOf c] := by
    rw [StrLaws.occ_eq]
    refine occ_at L c _ hg _ 0 0 (Nat.le_refl _) (Nat.zero_le _) (by rw [SX.S_len]; omega) (fun i _ hi e => ?_)
    have hil : i < L.length := by omega
    rw [List.getElem?_eq_getElem hil] at e
    have q := List.not_of_lt_findIdx (p := (· == c)) (xs := L) hi
    have e2 := Option.some.inj e
    simp [e2] at q
  unfold Txt.find
  rw [ho]
theorem starts_S (l m : List Nat) : Txt.startswith (SX.S l) (SX.S m) = decide (l.take m.length = m) := by
  unfold Txt.startswith
  rw [StrLaws.subAt_eq, SX.S_len, SX.S_len]
  show (decide (0 + m.length ≤ l.length) && ((l.drop 0).take (SX.S m).length == m)) = _
  rw [SX.S_len, List.drop_zero]
  by_cases h : l.take m.length = m
  · have : m.length ≤ l.length := by
      have := congrArg List.length h
      rw [List.length_take] at this
      omega
    rw [decide_eq_true h, decide_eq_true (by omega), h]
    simp
  · rw [decide_eq_false h]
    have : (l.take m.length == m) = false := by simpa using h
    rw [this, Bool.and_false]
theorem occ_count (L : List Nat) (c : Nat) : ∀ (n a free : Nat) (acc : Array Nat), free ≤ a → a + n = L.length + 1 → acc.size ≤ a →
    (forIn (List.range' a n) (acc, free) (StrLaws.occBody (SX.S L) (SX.S [c]) (SX.S L).length (L.length + 1))).run.1.size = acc.size + (L.drop a).count c
  | 0, a, free, acc, _, h2, _ => by
    have : L.drop a = [] := List.drop_of_length_le (by omega)
    rw [this]
    rfl
  | n + 1, a, free, acc, hf, h2, h3 => by
    rw [List.range'_succ, List.forIn_cons]
    unfold StrLaws.occBody
    by_cases e : L[a]? = some c
    · rw [if_pos ((occ_cond L c a free n _ acc (by omega) hf).mpr e)]
      have := occ_count L c n (a + 1) (a + 1) (acc.push a) (by omega) (by omega) (by rw [Array.size_push]; omega)
      refine Eq.trans this ?_
      obtain ⟨hlt, hv⟩ := List.getElem?_eq_some_iff.mp e
      rw [Array.size_push, List.drop_eq_getElem_cons hlt, hv, List.count_cons_self]
      omega
    · rw [if_neg (fun q => e ((occ_cond L c a free n _ acc (by omega) hf).mp q))]
      have := occ_count L c n (a + 1) free acc (by omega) (by omega) (by omega)
      refine Eq.trans this ?_
      by_cases hlt : a < L.length
      · rw [List.drop_eq_getElem_cons hlt, List.count_cons_of_ne]
        intro q
        exact e (by rw [List.getElem?_eq_getElem hlt, q])
      · rw [List.drop_of_length_le (by omega), List.drop_of_length_le (by omega)]
theorem count_one (L : List Nat) (c : Nat) : Txt.count (SX.S L) (SX.S [c]) = ((L.count c : Nat) : Int) := by
  unfold Txt.count
  rw [StrLaws.occ_eq, Array.length_toList, SX.S_len]
  have := occ_count L c (L.length + 1 - 0) 0 0 #[] (Nat.le_refl _) (by omega) (by decide)
  rw [SX.S_len] at this
  rw [this]
  simp
section
variable {X : Cx} {H0 : Hp} {ρ ρ1 ρ2 : Env'} {a b c e : Expr} {pos apos : Pos}
theorem ev_findX {l : List Nat} {k : Nat} (ha : Ev X H0 ρ a (tx l)) (hb : Ev X H0 ρ b (tx [k])) (hm : k ∈ l) (hs : starEach [b] X.env = [(false, eval b X.env)] := by rfl) (hline : (apos.endLine == pos.line) = true := by rfl) (hbase : attributeBase a "find" X.env (eval a X.env) = eval a X.env := by rfl) :
    Ev X H0 ρ (.Call (.Attribute a "find" apos) [b] [] pos) (.int ((l.idxOf k : Nat) : Int)) := by
  have := ev_find0 ha hb hs hline hbase
  rw [find_one hm] at this
  exact this
theorem ev_countX {l : List Nat} {k : Nat} (ha : Ev X H0 ρ a (tx l)) (hb : Ev X H0 ρ b (tx [k])) (hs : starEach [b] X.env = [(false, eval b X.env)] := by rfl) (hline : (apos.endLine == pos.line) = true := by rfl) (hbase : attributeBase a "count" X.env (eval a X.env) = eval a X.env := by rfl) :
    Ev X H0 ρ (.Call (.Attribute a "count" apos) [b] [] pos) (.int ((l.count k : Nat) : Int)) := by
  have := ev_count0 ha hb hs hline hbase
  rw [count_one] at this
  exact this
theorem ev_startsX {l m : List Nat} (ha : Ev X H0 ρ a (tx l)) (hb : Ev X H0 ρ b (tx m)) (hs : starEach [b] X.env = [(false, eval b X.env)] := by rfl) (hline : (apos.endLine == pos.line) = true := by rfl) (hbase : attributeBase a "startswith" X.env (eval a X.env) = eval a X.env := by rfl) :
    Ev X H0 ρ (.Call (.Attribute a "startswith" apos) [b] [] pos) (.bl (decide (l.take m.length = m))) := by
  have := ev_starts0 ha hb hs hline hbase
  rw [starts_S] at this
  exact this
end
end B

namespace B
open PySem PySem.Spec PyProof.Rows L2
/-- it goes through ds, while the names stay as they are -/
def WalksC (K : PySem.W.Frag) (H0 : Hp) (ρ : Env') (σ : L2.St) (J : It) (N1 : Hp) (ds : List Dat) : Prop := ∀ (H0' H N : Hp) (i : Nat), Same H0 H0' → Same N1 N → Rep K H0' ρ σ H N →
  (i < ds.length → J.go i H ∧ ∀ x H', J.yld i H x H' → ∃ N' d, Same N N' ∧ Same H H' ∧ Rep K H0' ρ σ H' N' ∧ ds[i]? = some d ∧ At K N' x d) ∧ (i = ds.length → J.stop i H)
def IterC (X : Cx) (H0 : Hp) (ρ : Env') (t e : Expr) (ds : List Dat) : Prop := ∃ wi, PI X t e wi ∧ ∀ σ H N, Rep X.K H0 ρ σ H N → ∀ R, (∀ J H1 N1, Same N N1 → Same H H1 → Rep X.K H0 ρ σ H1 N1 → WalksC X.K H0 ρ σ J N1 ds → R J H1) → wi σ H R
section
variable {X : Cx} {H0 : Hp} {ρ ρ1 ρ2 : Env'} {a b c e : Expr} {es : List Expr} {st : Stmt} {sts rest : List Stmt} {d d1 d2 : Dat} {ds : List Dat} {p pos : Pos} {o o1 : Outc} {x n : Str}
theorem it_ow (i : Nat) {t : Expr} {x : Str} (h : ρ[i]? = some (.ow (.lst ds))) (hN : X.N[i]? = some x := by rfl) (hv : Vis X.env.scope x := by first | exact Or.inl rfl | exact Or.inr (Or.inl rfl) | exact Or.inr (Or.inr rfl)) (hd : (x == ("__debug__" : Str)) = false := by decide)
    (hcd : (x == ("__classdict__" : Str)) = false := by decide) : IterC X H0 ρ t (.Name x pos) ds := ⟨_, pi_list (pv i hN hv hd hcd), fun σ H N r R k => by
  obtain ⟨p, e1, h0, hn, vs, hp, ha⟩ := r.ow i _ h
  refine ⟨_, e1, p, rfl, ⟨vs, .inl (.inl hp)⟩, k _ H N (Same.refl _) (Same.refl _) r fun H02 H2 N2 j s02 s2 r2 => ?_⟩
  obtain ⟨q, f1, f2, f3, us, f4, f5⟩ := r2.ow i _ h
  rw [e1] at f1
  cases f1
  refine ⟨fun hi => ?_, fun hi => ⟨us, .inl (.inl f4), by rw [f5.length]; exact Nat.le_of_eq hi.symm⟩⟩
  have hv : j < us.length := by rw [f5.length]; exact hi
  refine ⟨⟨us, us[j], .inl (.inl f4), by simp [hv]⟩, fun x H3 y => ?_⟩
  obtain ⟨rfl, y⟩ := y
  obtain ⟨d, g1, g2⟩ := f5.getV (y us (.inl (.inl f4)))
  exact ⟨N2, d, Same.refl _, Same.refl _, r2, g1, g2⟩⟩
/-- a comprehension over an owned list -/
theorem eo_compC {elt tg iter : Expr} {ifs : List Expr} {scope : Scope} {xn : Str} (i : Nat) {pos : Pos} (hc : X.calm = true) (nd : X.N.Nodup) (hi : IterC X H0 ρ tg iter ds) (ok : blkC X.N X.env.scope scope [(xn, i)] = true) (hx : ρ[i]? = some .no) (f : Dat → Bool) (g : Dat → Dat)
    (htg : ∀ (s : Shared) (H : Hp) (C : Addr) (cl : List (Str × Addr)) (fp : List Addr), PG (X.blk s H scope (compEnvC scope cl C X.env) fp) tg (gName i))
    (hif : (ifs = [] ∧ ∀ d ∈ ds, f d = true) ∨ ∃ c, ifs = [c] ∧ ∀ (H0' : Hp) (s : Shared) (H : Hp) (C : Addr) (cl : List (Str × Addr)) (fp : List Addr), Same H0 H0' → ∀ d ∈ ds, EvT (X.blk s H scope (compEnvC scope cl C X.env) fp) H0' (ρ.set i (.im d)) c (f d))
    (hel : ∀ (H0' : Hp) (s : Shared) (H : Hp) (C : Addr) (cl : List (Str × Addr)) (fp : List Addr), Same H0 H0' → ∀ d ∈ ds, f d = true → Ev (X.blk s H scope (compEnvC scope cl C X.env) fp) H0' (ρ.set i (.im d)) elt (g d))
    (hz : ds.length < sizeLine) (hs : ∀ x, foldedSetIterable iter X.env x = pure x := by intro _; rfl) : EvO X H0 ρ (.ListComp elt [⟨tg, iter, ifs, 0⟩] scope pos) (.lst ((ds.filter f).map g)) := fun σ H N r => by
  obtain ⟨wi, pi, hw⟩ := hi
  have pts : ∀ (s : Shared) (H : Hp) (C : Addr) (cl : List (Str × Addr)) (fp : List Addr), PTs (X.blk s H scope (compEnvC scope cl C X.env) fp) ifs
      (fun σ H Q => (ifs = [] ∧ Q true H) ∨ ∃ c, ifs = [c] ∧ ∀ s H' C cl fp, WT (X.blk s H' scope (compEnvC scope cl C X.env) fp) c σ H Q) := fun s H C cl fp => ⟨fun pins s' σ H Q I h => by
    rcases h with ⟨rfl, h⟩ | ⟨c, rfl, h⟩
    · exact pts_nil.run pins s' σ H Q I h
    · exact (pts_one pt_w).run pins s' σ H Q I (h _ _ _ _ _)⟩
  have pes : ∀ (s : Shared) (H : Hp) (C : Addr) (cl : List (Str × Addr)) (fp : List Addr), PE (X.blk s H scope (compEnvC scope cl C X.env) fp) elt
      (fun σ H Q => ∀ s H' C cl fp, WE (X.blk s H' scope (compEnvC scope cl C X.env) fp) elt σ H Q) := fun s H C cl fp => ⟨fun pins s' σ H Q I h => (h _ _ _ _ _).go pins s' I⟩
  refine we_of (pe_lc hc nd pi (blkOk_by ok) htg pts pes hs) (hw σ H N r _ fun J H1 N1 n1 s1 r1 w => fun D hD => ?_)
  have hiσ : i < σ.length := by rw [← r.len]; exact lt_of_get hx
  refine ⟨fun j m H' => m = ds.length - j ∧ j ≤ ds.length ∧ ∃ N' acc, Same N1 N' ∧ Same H1 H' ∧ Rep X.K H0 ρ σ H' N' ∧ N' D = none ∧ H' D = some (.lst acc) ∧ Ats X.K N' acc (((ds.take j).filter f).map g), ⟨_, rfl, Nat.zero_le _, N1, [], Same.refl _, Same.of_none hD, r1.grow (Same.of_none hD), r1.sub.free hD, upd_same, by simpa using Ats.nil⟩, ?_⟩
  rintro j m H' ⟨rfl, hj, N', acc, s', e', r', dN, dH, aa⟩
  have h0D : H0 D = none := r1.old.free hD
  have npD : ∀ (q : Nat) d, ρ[q]? = some (Ent.ow d) → σ[q]? ≠ some (some (V.ref D)) := no_own r1 hD
  obtain ⟨wg, wst⟩ := w (upd H0 D (.lst acc)) H' N' j (Same.of_none h0D) s' (r'.toOld h0D dH dN npD)
  by_cases hlt : j < ds.length
  · obtain ⟨go, yl⟩ := wg hlt
    have et : ds.take (j + 1) = ds.take j ++ [ds[j]] := by rw [List.take_succ, List.getElem?_eq_getElem hlt]; rfl
    refine .inr ⟨go, fun H' => ∃ N' acc, Same N1 N' ∧ Same H1 H' ∧ Rep X.K H0 ρ σ H' N' ∧ N' D = none ∧ H' D = some (.lst acc) ∧ Ats X.K N' acc (((ds.take (j + 1)).filter f).map g), fun H2 q => ⟨_, by omega, rfl, hlt, q⟩, fun x H2 y => ?_⟩
    obtain ⟨N2, d, n2, e2, r2, e3, a2⟩ := yl x H2 y
    have ed : d = ds[j] := by
      rw [List.getElem?_eq_getElem hlt] at e3
      exact (Option.some.inj e3).symm
    subst ed
    have dH2 : H2 D = some (.lst acc) := e2 _ _ dH
    have np : ∀ (q : Nat) d, ρ[q]? = some (Ent.ow d) → σ[q]? ≠ some (some (V.ref D)) := no_own r1 hD
    have d0 : Same H0 (upd H0 D (.lst acc)) := Same.of_none h0D
    have mem : ds[j] ∈ ds := List.getElem_mem hlt
    have dH2 : H2 D = some (.lst acc) := e2 _ _ dH
    have r2' : Rep X.K (upd H0 D (.lst acc)) ρ σ H2 N2 := r2
    have rs := r2'.setE (i := i) (v := x) (e := .im ds[j]) a2
    have ws : (wipe σ [i]).set i (some x) = σ.set i (some x) := by show (σ.set i none).set i (some x) = _; rw [List.set_set]
    show wipe ((wipe σ [i]).set i (some x)) [i] = wipe σ [i] ∧ _
    refine ⟨by rw [ws]; show (σ.set i (some x)).set i none = σ.set i none; rw [List.set_set], ?_⟩
    rw [show (wipe σ (List.map (fun (x : Str × Nat) => x.snd) [(xn, i)])).set i (some x) = σ.set i (some x) from ws]
    have elem : ∀ H3 N3, f ds[j] = true → Same H2 H3 → Same N2 N3 → Rep X.K (upd H0 D (.lst acc)) (ρ.set i (.im ds[j])) (σ.set i (some x)) H3 N3 → ∀ s H' C cl fp, WE (X.blk s H' scope (compEnvC scope cl C X.env) fp) elt (σ.set i (some x)) H3 fun y H4 => ∃ acc', H4 D = some (.lst acc') ∧ acc'.length < sizeLine ∧
        ∃ N' a', Same N1 N' ∧ Same H1 (upd H4 D (.lst (acc' ++ [y]))) ∧ Rep X.K H0 ρ σ (upd H4 D (.lst (acc' ++ [y]))) N' ∧ N' D = none ∧ (upd H4 D (.lst (acc' ++ [y]))) D = some (.lst a') ∧ Ats X.K N' a' (((ds.take (j + 1)).filter f).map g) := fun H3 N3 hf e3' n3 r3 s H5 C cl fp => by
      refine (hel _ s H5 C cl fp d0 _ mem hf _ _ _ r3).imp fun y H4 ⟨N4, s4, n4, r4, a4⟩ => ?_
      have q4 : H4 D = some (.lst acc) := s4 _ _ (e3' _ _ dH2)
      refine ⟨acc, q4, ?_, N4, acc ++ [y], (((s'.trans n2).trans n3).trans n4), fun a u h => ?_, (r'.back hx d0 r4).updD h0D r4.notD np, r4.notD, upd_same, ?_⟩
      · rw [aa.length, List.length_map]
        have := List.length_filter_le f (ds.take j)
        have := List.length_take_le j ds
        omega
      · rw [upd_ne (ne_of_none h hD)]
        exact s4 _ _ (e3' _ _ (e2 _ _ (e' a u h)))
      · rw [et, List.filter_append, List.map_append]
        refine ((aa.mono n2).mono n3 |>.mono n4).append ?_
        rw [List.filter_cons, if_pos hf]
        exact .cons a4 .nil
    have skip : ∀ H3 N3, f ds[j] = false → Same H2 H3 → Same N2 N3 → Rep X.K (upd H0 D (.lst acc)) (ρ.set i (.im ds[j])) (σ.set i (some x)) H3 N3 → ∃ N' acc, Same N1 N' ∧ Same H1 H3 ∧ Rep X.K H0 ρ σ H3 N' ∧ N' D = none ∧ H3 D = some (.lst acc) ∧ Ats X.K N' acc (((ds.take (j + 1)).filter f).map g) := fun H3 N3 hf e3' n3 r3 => by
      refine ⟨N3, acc, (s'.trans n2).trans n3, (e'.trans e2).trans e3', r'.back hx d0 r3, r3.notD, e3' _ _ dH2, ?_⟩
      rw [et, List.filter_append, List.map_append, List.filter_cons, if_neg (by rw [hf]; exact Bool.false_ne_true)]
      simpa using (aa.mono n2).mono n3
    rcases hif with ⟨hne, hft⟩ | ⟨c, hc', ht⟩
    · exact .inl ⟨hne, iteT (elem H2 N2 (hft _ mem) (Same.refl _) (Same.refl _) rs)⟩
    · refine .inr ⟨c, hc', fun s H5 C cl fp => ?_⟩
      refine (ht _ s H5 C cl fp d0 _ mem _ _ _ rs).imp fun bb H3 ⟨eb, N3, s3, n3, r3⟩ => ?_
      subst eb
      cases hf : f ds[j] with
      | true => exact iteT (elem H3 N3 hf s3 n3 r3)
      | false => exact iteF (skip H3 N3 hf s3 n3 r3)
  · have e1 : j = ds.length := by omega
    subst e1
    rw [List.take_length] at aa
    exact .inl ⟨wst rfl, N', D, rfl, s1.free hD, s1.trans e', n1.trans s', r', dN, acc, dH, aa⟩
end
end B

namespace B
open PySem PySem.Spec PyProof.Rows L2
theorem Ats.rep {K : PySem.W.Frag} {H : Hp} {vs : List V} {ds : List Dat} (h : Ats K H vs ds) : ∀ n : Nat, Ats K H (List.replicate n vs).flatten (List.replicate n ds).flatten
  | 0 => .nil
  | n + 1 => by
    rw [List.replicate_succ, List.replicate_succ, List.flatten_cons, List.flatten_cons]
    exact h.append (Ats.rep h n)
section
variable {X : Cx} {H0 : Hp} {ρ ρ1 ρ2 : Env'} {a b c e : Expr} {es : List Expr} {st : Stmt} {sts rest : List Stmt} {d d1 d2 d3 : Dat} {ds : List Dat} {p pos : Pos} {o o1 : Outc} {x n : Str}
/-- a new list, so many times -/
theorem eo_repO {k : Int} (ha : EvO X H0 ρ a (.lst ds)) (hb : Ev X H0 ρ b (.int k)) (h1 : -(2 ^ 63) ≤ k) (h2 : k < 2 ^ 63) (hz : ds.length * k.toNat ≤ sizeLine) : EvO X H0 ρ (.BinOp a .Mult b pos) (.lst (List.replicate k.toNat ds).flatten) := fun σ H N rp =>
  we_of (pe_op op_rep pe_w pe_w) ((ha σ H N rp).imp fun v H1 ⟨N1, q, e1, hp, s1, n1, r1, np, ow⟩ => (hb σ H1 N1 r1).imp fun w H2 ⟨N2, s2, n2, r2, a2⟩ => by
    obtain ⟨vs, q1, q2⟩ := ow
    refine ⟨q, k, vs, e1, at_int a2, s2 _ _ q1, h1, h2, by rw [q2.length]; exact hz, fun l hl => ?_⟩
    obtain ⟨r3, n3⟩ := eo_new (o := .lst (List.replicate k.toNat vs).flatten) r2 hl
    exact ⟨N2, l, rfl, (s1.trans s2).free hl, (s1.trans s2).trans (Same.of_none hl), n1.trans n2, r3, n3, _, upd_same, (q2.mono n2).rep _⟩)
/-- an owned list, so many times -/
theorem eo_repN {k : Int} (i : Nat) {y : Str} {p1 : Pos} (hi : ρ[i]? = some (.ow (.lst ds))) (hb : Ev X H0 ρ b (.int k)) (h1 : -(2 ^ 63) ≤ k) (h2 : k < 2 ^ 63) (hz : ds.length * k.toNat ≤ sizeLine) (hN : X.N[i]? = some y := by rfl) (hv : Vis X.env.scope y := by first | exact Or.inl rfl | exact Or.inr (Or.inl rfl) | exact Or.inr (Or.inr rfl))
    (hd : (y == ("__debug__" : Str)) = false := by decide) (hcd : (y == ("__classdict__" : Str)) = false := by decide) : EvO X H0 ρ (.BinOp (.Name y p1) .Mult b pos) (.lst (List.replicate k.toNat ds).flatten) := fun σ H N rp => by
  obtain ⟨q, g1, g2, g3, us, g4, g5⟩ := rp.ow i _ hi
  refine we_of (pe_op op_rep (pv i hN hv hd hcd) pe_w) ⟨_, g1, (hb σ H N rp).imp fun w H2 ⟨N2, s2, n2, r2, a2⟩ => ?_⟩
  refine ⟨q, k, us, rfl, at_int a2, s2 _ _ g4, h1, h2, by rw [g5.length]; exact hz, fun l hl => ?_⟩
  obtain ⟨r3, n3⟩ := eo_new (o := .lst (List.replicate k.toNat us).flatten) r2 hl
  exact ⟨N2, l, rfl, s2.free hl, s2.trans (Same.of_none hl), n2, r3, n3, _, upd_same, (g5.mono n2).rep _⟩
/-- (a, b, c) = a triple -/
theorem tg_three (i j l : Nat) {y z u : Str} {p1 p2 p3 : Pos} {kk : Nat} (nd : X.N.Nodup) (hc : X.calm = true) (hi : X.N[i]? = some y := by rfl) (hj : X.N[j]? = some z := by rfl) (hl : X.N[l]? = some u := by rfl) (hx : Loc X.env.scope y := by first | exact Or.inl rfl | exact Or.inr rfl) (hx2 : Loc X.env.scope z := by first | exact Or.inl rfl | exact Or.inr rfl) (hx3 : Loc X.env.scope u := by first | exact Or.inl rfl | exact Or.inr rfl)
    (hf : X.fn y = true ∨ X.env.scope.names.lookup y = some .local := by first | exact .inl rfl | exact .inr rfl | assumption) (hf2 : X.fn z = true ∨ X.env.scope.names.lookup z = some .local := by first | exact .inl rfl | exact .inr rfl | assumption) (hf3 : X.fn u = true ∨ X.env.scope.names.lookup u = some .local := by first | exact .inl rfl | exact .inr rfl | assumption)
    (hn : (assignEach [Expr.Name y p1, .Name z p2, .Name u p3] X.env).length = 3 := by rfl) (hst : (assignEach [Expr.Name y p1, .Name z p2, .Name u p3] X.env).findIdx? (·.1) = none := by rfl)
    (h1 : (assignEach [Expr.Name y p1, .Name z p2, .Name u p3] X.env).map (·.2) = assign (.Name y p1) X.env :: (assignEach [Expr.Name z p2, .Name u p3] X.env).map (·.2) := by rfl) (h2 : (assignEach [Expr.Name z p2, .Name u p3] X.env).map (·.2) = assign (.Name z p2) X.env :: (assignEach [Expr.Name u p3] X.env).map (·.2) := by rfl)
    (h3 : (assignEach [Expr.Name u p3] X.env).map (·.2) = assign (.Name u p3) X.env :: (assignEach [] X.env).map (·.2) := by rfl) :
    Tgt X H0 (.Tuple [.Name y p1, .Name z p2, .Name u p3] kk pos) (fun d => ∃ a b c, d = .tup [a, b, c]) (fun d ρ => match d with | .tup [a, b, c] => ((ρ.set i (.im a)).set j (.im b)).set l (.im c) | _ => ρ) := by
  refine ⟨_, pg_tup hc (pgs_cons (pg_name nd hi hx hf) (pgs_cons (pg_name nd hj hx2 hf2) (pgs_cons (pg_name nd hl hx3 hf3) pgs_nil h3) h2) h1) hn hst, fun ρ σ H N v d r a ok Q k => ?_⟩
  obtain ⟨d1, d2, d3, rfl⟩ := ok
  obtain ⟨p, vs, rfl, q1, q2⟩ := at_seq a
  cases q2 with
  | cons a1 t =>
    cases t with
    | cons a2 t2 =>
      cases t2 with
      | cons a3 t3 =>
        cases t3
        exact ⟨p, _, rfl, sqt_same r.sub q1, rfl, _, _, rfl, _, _, rfl, _, _, rfl, rfl, k _ H N (Same.refl _) (((r.setE (e := .im d1) a1).setE (e := .im d2) a2).setE (e := .im d3) a3)⟩
end
end B

namespace B
open PySem PySem.Spec PyProof.Rows L2 RT
section
variable {prog : Program} {w : World} {A : Around} {E : Value → Shared → Prop} {s : Shared}
/-- list(reversed(a list)) -/
theorem call_list_rev {it l : Addr} {items : Array Value} {Q : Value → Shared → Prop} (hh : A.handled = none) (hit : s.heap.IsRevIter it l ((items.size : Int) - 1)) (hl : s.heap.IsList l items) (hne : l ≠ it) (hn : items.size ≤ sizeLine)
    (hQ : ∀ (h' : Heap) (tk : Nat) (acc : Array Value) (c' : Nat), (∀ b o, b ≠ it → s.heap.get? b = some o → h'.get? b = some o) → h'.get? s.heap.objs.size = some { cls := .type "list", dict := none, data := .seq acc c', slots := #[] } →
      ItemsOf (fun i v => items[items.size - 1 - i]? = some v) acc items.size → Q (.ref s.heap.objs.size) { s with heap := h', toks := tk }) :
    wpAny (model prog w) A (call (.type "list") [.ref it]) Q E s := by
  have W := (Walks.listRev (prog := prog) (w := w) (A := A.in1.in1) hh it l hne items).toS
  obtain ⟨oi, hoi, _⟩ := id hit
  obtain ⟨ol, hol, _⟩ := id hl
  have hSi : s.heap.objs.size ≠ it := Nat.ne_of_gt (Heap.lt_size hoi)
  have hSl : s.heap.objs.size ≠ l := Nat.ne_of_gt (Heap.lt_size hol)
  have hSf : s.heap.objs.size ∉ [it, l] := by simp only [List.mem_cons, List.not_mem_nil, or_false, not_or]; exact ⟨hSi, hSl⟩
  refine callType_codes (Q₁ := fun obj s₁ => obj = .ref s.heap.objs.size ∧ s₁ = { s with heap := s.heap.push { cls := .type "list", data := .seq #[] } }) F.called_list (F.typeCall_list_1 _) F.entry_list_init
    (code_list_new _ ⟨rfl, rfl⟩) fun obj s₁ h₁ => ?_
  obtain ⟨rfl, rfl⟩ := h₁
  have hS : (s.heap.push { cls := .type "list", data := .seq #[] }).get? s.heap.objs.size = some { cls := .type "list", data := .seq #[] } := Heap.get?_push_size _ rfl
  refine ⟨⟨_, hS, rfl⟩, F.args_list_init_2 _ _, ?_⟩
  show wpAny _ A.in1.in1 (do let old ← Builtin.List.listItems (.ref s.heap.objs.size); Builtin.List.listUpdate (.ref s.heap.objs.size) (fun _ => #[]); letGo old.toList.reverse; Builtin.List.listExtendWith (.ref s.heap.objs.size) (.ref it) .none) _ _ _
  refine wpAny_bind ?_
  unfold Builtin.List.listItems
  refine wpAny_bind (wpAny_seqItems hS rfl (wpAny_pure ?_))
  show wpAny _ A.in1.in1 (updateSeq s.heap.objs.size (fun _ => #[]) >>= fun _ => letGo (#[] : Array Value).toList.reverse >>= fun _ => Builtin.List.listExtendWith (.ref s.heap.objs.size) (.ref it) .none) _ _ _
  refine wpAny_bind (wpAny_updateSeq hS rfl ?_)
  have hS₂ := Heap.get?_update_self (Obj.mapSeq (fun _ => (#[] : Array Value))) hS rfl
  have oth : ∀ b o, b ≠ s.heap.objs.size → s.heap.get? b = some o → ((s.heap.push { cls := .type "list", data := .seq #[] }).update s.heap.objs.size (Obj.mapSeq (fun _ => (#[] : Array Value)))).get? b = some o :=
    fun b o hb e => (Heap.get?_update_other _ _ (Ne.symm hb)).trans (Heap.get?_push_of_some _ e)
  refine wpAny_bind (wpAny_letGo ?_)
  generalize hH : (s.heap.push { cls := .type "list", data := .seq #[] }).update s.heap.objs.size (Obj.mapSeq (fun _ => (#[] : Array Value))) = H2 at *
  have hit1 : H2.IsRevIter it l ((items.size : Int) - 1) := hit.at fun o e => oth _ _ (Ne.symm hSi) e
  have hl1 : H2.IsList l items := hl.at fun o e => oth _ _ (Ne.symm hSl) e
  have hT : ({ s with heap := H2 } : Shared).TypeIs (.ref it) "list_reverseiterator" := Heap.IsRevIter.typeIs (s := { s with heap := H2 }) hit1
  have h1 : Builtin.List.listSameRef (.ref s.heap.objs.size) (.ref it) = false := by simp [Builtin.List.listSameRef, hSi]
  unfold Builtin.List.listExtendWith
  refine wpAny_bind (wpAny_typeOf hT ?_)
  rw [if_neg (by rw [h1]; decide)]
  refine wpAny_bind (wpAny_pyIter_revIter (s := { s with heap := H2 }) hit1 ?_)
  refine wpAny_bind (wpAny_holding ?_)
  unfold Builtin.List.listLengthHint
  refine wpAny_bind (wpAny_specialOf hT nolen_lri ?_)
  show wpAny _ A.in1.in1 (specialOf (Value.ref it) (Str.ofString "__length_hint__") >>= _) _ _ _
  refine wpAny_bind (wpAny_specialOf hT hint_lri ?_)
  generalize hid : ("list_reverseiterator.__length_hint__" : String) = id0
  wp_delta
  rw [show splitId id0 = some ("list_reverseiterator", "__length_hint__") from by subst hid; decide +kernel]
  subst hid
  refine wpAny_bind (wpAny_isInstance (b := true) hT (by rw [isSubtype_type]; kernel_rfl) ?_)
  refine wpAny_pure ?_
  rw [if_neg (by decide)]
  have e0 : ((items.size : Nat) : Int) - 1 - ((0 : Nat) : Int) = (items.size : Int) - 1 := by omega
  refine wpAny_pure ⟨plainId_quiet F.plain_extend_loop _, codeAny_extend_loopS W hn _ hSf _ items.size 0 _ _ _ rfl (Nat.zero_le _) ⟨Nat.zero_le _, by rw [e0]; exact hit1, hl1⟩ hS₂ (ItemsOf.nil _) fun s' acc' c' hm hS' hacc => ?_⟩
  rw [Moved.eq_with hm]
  refine ⟨rfl, hQ s'.heap s'.toks acc' c' (fun b o hb e => hm.heap b o (fun hmem => ?_) (oth b o (Nat.ne_of_lt (Heap.lt_size e)) e)) hS' hacc⟩
  rcases List.mem_cons.mp hmem with e' | hmem
  · exact absurd (Heap.lt_size e) (by rw [e']; exact Nat.lt_irrefl _)
  · exact hb (List.mem_singleton.mp hmem)
end
theorem Ats.reverse {K : PySem.W.Frag} {H : Hp} : ∀ {vs : List V} {ds : List Dat}, Ats K H vs ds → Ats K H vs.reverse ds.reverse
  | _, _, .nil => .nil
  | _, _, .cons a t => by
    rw [List.reverse_cons, List.reverse_cons]
    exact (Ats.reverse t).append (.cons a .nil)
section
variable {X : Cx}
theorem pe_listRev {e : Expr} {te : TE} {p p2 pos pos2 : Pos} (hc : X.calm = true) (hg : Gl X "list") (hm : X.mg "list" = none) (hg2 : Gl X "reversed") (hm2 : X.mg "reversed" = none) (he : PE X e te)
    (hs : starEach [e] X.env = (false, eval e X.env) :: starEach [] X.env := by rfl)
    (hs2 : starEach [.Call (.Name "reversed" p2) [e] [] pos2] X.env = (false, eval (.Call (.Name "reversed" p2) [e] [] pos2) X.env) :: starEach [] X.env := by rfl) :
    PE X (.Call (.Name "list" p) [.Call (.Name "reversed" p2) [e] [] pos2] [] pos) (fun σ H Q => te σ H fun v H1 => ∃ (a : Addr) (xs : List V), v = .ref a ∧ SqL X.K H1 a xs ∧ ∀ q, H1 q = none → Q (.ref q) (upd H1 q (.lst xs.reverse))) := by
  refine ⟨fun pins s σ H Q I h => ?_⟩
  refine Call_ (ld_blt I hg hm boot_list (PyProof.Rows.callWith_type1 (args_cons (Call_ (ld_blt I hg2 hm2 PyProof.Rows.boot_reversed (PyProof.Rows.callWith_type1 (args_cons (thn (he.run pins s σ H _ I h) fun u s1 ⟨v, H1, I1, r1, q1⟩ => args_nil ?_) hs) hs rfl))) hs2) hs2 rfl))
  obtain ⟨a, xs, ev, hq, q⟩ := q1
  subst ev
  obtain rfl : u = Value.ref a := r1
  obtain ⟨its, rv, p', hz⟩ := I1.list hq
  refine call_reversed_list p'.isList (args_nil ?_)
  have k0 : ∀ b o, s1.heap.get? b = some o → (s1.heap.push (revObj a ((its.toArray.size : Int) - 1))).get? b = some o := fun b o e => Heap.get?_push_of_some _ e
  have hl := p'.isList
  obtain ⟨ol, hol, _⟩ := id hl
  have hne : a ≠ s1.heap.objs.size := Nat.ne_of_lt (Heap.lt_size hol)
  have hn : its.toArray.size ≤ sizeLine := by rw [List.size_toArray, ← rv.length]; exact hz
  refine call_list_rev (s := { s1 with heap := s1.heap.push (revObj a ((its.toArray.size : Int) - 1)) }) (I1.ok.hd hc) ⟨_, Heap.get?_push_size _ rfl, rfl, rfl⟩ (hl.push _) hne hn fun h' tk acc c' hk hS hi => ?_
  have hk1 : ∀ b u, s1.heap.get? b = some u → h'.get? b = some u := fun b u e => hk b u (Nat.ne_of_lt (Heap.lt_size e)) (k0 b u e)
  have hle : s1.heap.objs.size ≤ (s1.heap.push (revObj a ((its.toArray.size : Int) - 1))).objs.size := by simp [Heap.push]
  refine ⟨.ref _, upd H1 _ (.lst xs.reverse), I1.laid (t' := tk) hk1 hle (show ObjOk X.prog X.w _ _ _ (.lst xs.reverse) from ⟨by rw [List.length_reverse]; exact hz, acc.toList, c', vals_rev rv hi, ?_⟩), rfl, q _ (I1.hok.fresh hle)⟩
  rw [Array.toArray_toList]
  exact hS
variable {H0 : Hp} {ρ : Env'} {a : Expr} {ds : List Dat} {p p2 pos pos2 : Pos}
theorem eo_listRev (ha : EvB X H0 ρ a (.lst ds)) (f : flats ds = true) (hc : X.calm = true) (hm : X.mg "list" = none) (hm2 : X.mg "reversed" = none) (hg : Gl X "list" := by rfl) (hg2 : Gl X "reversed" := by rfl) (hs : starEach [a] X.env = (false, eval a X.env) :: starEach [] X.env := by rfl)
    (hs2 : starEach [.Call (.Name "reversed" p2) [a] [] pos2] X.env = (false, eval (.Call (.Name "reversed" p2) [a] [] pos2) X.env) :: starEach [] X.env := by rfl) : EvO X H0 ρ (.Call (.Name "list" p) [.Call (.Name "reversed" p2) [a] [] pos2] [] pos) (.lst ds.reverse) := fun σ H N rp =>
  we_of (pe_listRev hc hg hm hg2 hm2 pe_w hs hs2) ((ha σ H N rp).imp fun v H1 ⟨N1, s1, n1, r1, a1⟩ => by
    obtain ⟨q, us, e3, h1, h2⟩ := at_lst a1
    obtain ⟨N2, n2, r2, k⟩ := r1.keep
    refine ⟨q, us, e3, h1, fun l hl => ?_⟩
    obtain ⟨r3, n3⟩ := eo_new (o := .lst us.reverse) r2 hl
    refine ⟨N2, l, rfl, s1.free hl, s1.trans (Same.of_none hl), n1.trans n2, r3, n3, us.reverse, upd_same, ?_⟩
    have h3 : Ats X.K N2 us ds := (h2.imm f).mono k
    exact h3.reverse)
end
end B

namespace B
open PySem PySem.Spec PyProof.Rows L2

/-! ### what a text's part comes to: a value, an error, or out of reach -/
inductive M (α : Type) where
  | ok (a : α)
  | ex (n : Str)
  | far
namespace M
variable {α β : Type}
def bind (m : M α) (k : α → M β) : M β := match m with
  | .ok a => k a
  | .ex n => .ex n
  | .far => .far
def nox (m : M α) : M α := match m with
  | .ok a => .ok a
  | _ => .far
def gd (b : Bool) (m : M α) : M α := match b with
  | true => m
  | false => .far
def ofO (o : Option α) : M α := match o with
  | some a => .ok a
  | none => .far
def lt (v : α) (k : α → M β) : M β := k v
@[simp] theorem bind_ok (a : α) (k : α → M β) : (M.ok a).bind k = k a := id rfl
@[simp] theorem bind_ex (n : Str) (k : α → M β) : (M.ex n : M α).bind k = .ex n := id rfl
@[simp] theorem bind_far (k : α → M β) : (M.far : M α).bind k = .far := id rfl
@[simp] theorem nox_ok (a : α) : (M.ok a).nox = .ok a := id rfl
@[simp] theorem nox_ex (n : Str) : (M.ex n : M α).nox = .far := id rfl
@[simp] theorem nox_far : (M.far : M α).nox = .far := id rfl
@[simp] theorem gd_true (m : M α) : gd true m = m := id rfl
@[simp] theorem ofO_some (a : α) : ofO (some a) = .ok a := id rfl
@[simp] theorem lt_eq (v : α) (k : α → M β) : lt v k = k v := id rfl
theorem gd_of {b : Bool} (m : M α) (h : b = true) : gd b m = m := by rw [h]; rfl
theorem ofO_of {o : Option α} {a : α} (h : o = some a) : ofO o = .ok a := by rw [h]; rfl
theorem nox_of {m : M α} {a : α} (h : m = .ok a) : m.nox = .ok a := by rw [h]; rfl
theorem bind_of {m : M α} {a : α} {k : α → M β} (h : m = .ok a) : m.bind k = k a := by rw [h]; rfl
end M
/-- how a block goes on -/
inductive Fl (S L R : Type) where
  | nx (s : S)
  | ct (s : L)
  | bk (s : L)
  | rt (r : R)
section
variable {α S S' L L' R : Type}
def M.seq (m : M (Fl S L R)) (k : S → M (Fl S' L R)) : M (Fl S' L R) := match m with
  | .ok (.nx s) => k s
  | .ok (.ct s) => .ok (.ct s)
  | .ok (.bk s) => .ok (.bk s)
  | .ok (.rt r) => .ok (.rt r)
  | .ex n => .ex n
  | .far => .far
def M.seqT (m : M (Fl S L R)) (k : S → M R) : M R := match m with
  | .ok (.nx s) => k s
  | .ok (.rt r) => .ok r
  | .ex n => .ex n
  | _ => .far
@[simp] theorem M.seq_nx (s : S) (k : S → M (Fl S' L R)) : (M.ok (Fl.nx s)).seq k = k s := id rfl
@[simp] theorem M.seq_ct (s : L) (k : S → M (Fl S' L R)) : (M.ok (Fl.ct s)).seq k = .ok (.ct s) := id rfl
@[simp] theorem M.seq_bk (s : L) (k : S → M (Fl S' L R)) : (M.ok (Fl.bk s)).seq k = .ok (.bk s) := id rfl
@[simp] theorem M.seq_rt (s : R) (k : S → M (Fl S' L R)) : (M.ok (Fl.rt s)).seq k = .ok (.rt s) := id rfl
@[simp] theorem M.seqT_nx (s : S) (k : S → M R) : (M.ok (Fl.nx s : Fl S L R)).seqT k = k s := id rfl
@[simp] theorem M.seqT_rt (s : R) (k : S → M R) : (M.ok (Fl.rt s : Fl S L R)).seqT k = .ok s := id rfl
@[simp] theorem M.seq_ex (n : Str) (k : S → M (Fl S' L R)) : (M.ex n).seq k = .ex n := id rfl
@[simp] theorem M.seqT_ex (n : Str) (k : S → M R) : (M.ex n : M (Fl S L R)).seqT k = .ex n := id rfl
/-- a for whose body only falls through -/
def forM (f : α → S → M S) : List α → S → M S
  | [], s => .ok s
  | x :: xs, s => (f x s).bind fun s' => forM f xs s'
def forF (f : α → S → M (Fl S S R)) : List α → S → M (Fl S L R)
  | [], s => .ok (.nx s)
  | x :: xs, s => match f x s with
    | .ok (.nx s') => forF f xs s'
    | .ok (.ct s') => forF f xs s'
    | .ok (.bk s') => .ok (.nx s')
    | .ok (.rt r) => .ok (.rt r)
    | .ex n => .ex n
    | .far => .far
def whileM (c : S → M Bool) (f : S → M S) : Nat → S → M S
  | 0, _ => .far
  | n + 1, s => (c s).bind fun t => if t = true then (f s).bind fun s' => whileM c f n s' else .ok s
def whileF (c : S → M Bool) (f : S → M (Fl S S R)) : Nat → S → M (Fl S L R)
  | 0, _ => .far
  | n + 1, s => (c s).bind fun t => if t = true then (match f s with
    | .ok (.nx s') => whileF c f n s'
    | .ok (.ct s') => whileF c f n s'
    | .ok (.bk s') => .ok (.nx s')
    | .ok (.rt r) => .ok (.rt r)
    | .ex n => .ex n
    | .far => .far) else .ok (.nx s)
def compM {β : Type} (f : α → M Bool) (g : α → M β) : List α → M (List β)
  | [] => .ok []
  | x :: xs => (f x).bind fun b => if b = true then (g x).bind fun y => (compM f g xs).bind fun ys => .ok (y :: ys) else compM f g xs
end

section
variable (X : Cx) (H0 : Hp) (ρ : Env') {α β : Type}
def EvM (e : Expr) (en : α → Dat) (m : M α) : Prop := match m with
  | .ok v => Ev X H0 ρ e (en v)
  | .ex n => EvX X H0 ρ e n
  | .far => True
def EtM (e : Expr) (m : M Bool) : Prop := match m with
  | .ok v => EvT X H0 ρ e v
  | .ex _ => False
  | .far => True
def EwM (e : Expr) (m : M Bool) : Prop := match m with
  | .ok v => EvW X H0 ρ e v
  | .ex _ => False
  | .far => True
def EoM (e : Expr) (en : α → Dat) (m : M α) : Prop := match m with
  | .ok v => EvO X H0 ρ e (en v)
  | .ex n => EvX X H0 ρ e n
  | .far => True
/-- a block -/
def ExM (k : Nat) (sts : List Stmt) (D : α → Outc) (m : M α) : Prop := match m with
  | .ok v => Exec X H0 ρ sts (D v)
  | .ex n => Exec X H0 ρ sts (.ex n (List.replicate k .no))
  | .far => True
end
/-- a statement -/
def ExSM (X : Cx) (H0 : Hp) (ρ : Env') {α : Type} (k : Nat) (st : Stmt) (D : α → Outc) (m : M α) : Prop := match m with
  | .ok v => ExS X H0 ρ st (D v)
  | .ex n => ExS X H0 ρ st (.ex n (List.replicate k .no))
  | .far => True
/-- a def's promise -/
def Rm {α : Type} (en : α → Dat) (m : M α) (o : Res) : Prop := match m with
  | .ok v => o = .val (en v)
  | .ex n => o = .exc n
  | .far => False
def RmO {α : Type} (en : α → Dat) (m : M α) (o : Res) : Prop := match m with
  | .ok v => o = .own (en v)
  | .ex n => o = .exc n
  | .far => False
theorem rm_ok {α : Type} {en : α → Dat} {m : M α} {v : α} (h : m = .ok v) : Rm en m (.val (en v)) := by subst h; rfl
theorem rm_ex {α : Type} {en : α → Dat} {m : M α} {n : Str} (h : m = .ex n) : Rm en m (.exc n) := by subst h; rfl
theorem rmO_ok {α : Type} {en : α → Dat} {m : M α} {v : α} (h : m = .ok v) : RmO en m (.own (en v)) := by subst h; rfl
theorem rmO_ex {α : Type} {en : α → Dat} {m : M α} {n : Str} (h : m = .ex n) : RmO en m (.exc n) := by subst h; rfl
def Fl.D {S L R : Type} (eS : S → Env') (eL : L → Env') (oR : R → Outc) : Fl S L R → Outc
  | .nx s => .nx (eS s)
  | .ct s => .ct (eL s)
  | .bk s => .bk (eL s)
  | .rt r => oR r
/-- the names that are let go -/
def drops (ρ : Env') : List Nat → Env'
  | [] => ρ
  | i :: is => drops (ρ.set i .no) is

section
variable {X : Cx} {H0 : Hp} {ρ ρ0 ρ1 ρ2 : Env'} {α β S S' L L' R : Type} {a b c e : Expr} {es : List Expr} {st : Stmt} {sts as bs body rest : List Stmt} {d d1 d2 : Dat} {ds : List Dat} {p pos : Pos} {o o1 : Outc} {x n : Str} {k : Nat} {D : α → Outc} {m : M α} {en : α → Dat} {g : Bool}
/-! ### expressions -/
theorem evm_gd (h : g = true → EvM X H0 ρ e en m) : EvM X H0 ρ e en (M.gd g m) := by
  cases g with
  | true => exact h rfl
  | false => trivial
theorem evm_bind {mb : M β} {f : β → M α} (h : ∀ r, mb = .ok r → EvM X H0 ρ e en (f r)) : EvM X H0 ρ e en (M.bind (M.nox mb) f) := by
  cases mb with
  | ok r => exact h r rfl
  | ex _ => trivial
  | far => trivial
theorem evm_ofO {ob : Option β} {f : β → M α} (h : ∀ r, ob = some r → EvM X H0 ρ e en (f r)) : EvM X H0 ρ e en (M.bind (M.ofO ob) f) := by
  cases ob with
  | some r => exact h r rfl
  | none => trivial
theorem evm_ok {v : α} (h : Ev X H0 ρ e (en v)) : EvM X H0 ρ e en (.ok v) := h
theorem evm_get {v : α} (h : EvM X H0 ρ e en m) (q : m = .ok v) : Ev X H0 ρ e (en v) := by subst q; exact h
theorem etm_gd {m : M Bool} (h : g = true → EtM X H0 ρ e m) : EtM X H0 ρ e (M.gd g m) := by
  cases g with
  | true => exact h rfl
  | false => trivial
theorem etm_bind {mb : M β} {f : β → M Bool} (h : ∀ r, mb = .ok r → EtM X H0 ρ e (f r)) : EtM X H0 ρ e (M.bind (M.nox mb) f) := by
  cases mb with
  | ok r => exact h r rfl
  | ex _ => trivial
  | far => trivial
theorem etm_ofO {ob : Option β} {f : β → M Bool} (h : ∀ r, ob = some r → EtM X H0 ρ e (f r)) : EtM X H0 ρ e (M.bind (M.ofO ob) f) := by
  cases ob with
  | some r => exact h r rfl
  | none => trivial
theorem etm_ok {v : Bool} (h : EvT X H0 ρ e v) : EtM X H0 ρ e (.ok v) := h
theorem etm_get {m : M Bool} {v : Bool} (h : EtM X H0 ρ e m) (q : m = .ok v) : EvT X H0 ρ e v := by subst q; exact h
theorem ewm_get {m : M Bool} {v : Bool} (h : EwM X H0 ρ e m) (q : m = .ok v) : EvW X H0 ρ e v := by subst q; exact h
theorem ewm_gd {m : M Bool} (h : g = true → EwM X H0 ρ e m) : EwM X H0 ρ e (M.gd g m) := by
  cases g with
  | true => exact h rfl
  | false => trivial
theorem ewm_bind {mb : M β} {f : β → M Bool} (h : ∀ r, mb = .ok r → EwM X H0 ρ e (f r)) : EwM X H0 ρ e (M.bind (M.nox mb) f) := by
  cases mb with
  | ok r => exact h r rfl
  | ex _ => trivial
  | far => trivial
theorem ewm_ofO {ob : Option β} {f : β → M Bool} (h : ∀ r, ob = some r → EwM X H0 ρ e (f r)) : EwM X H0 ρ e (M.bind (M.ofO ob) f) := by
  cases ob with
  | some r => exact h r rfl
  | none => trivial
theorem ewm_ok {v : Bool} (h : EvW X H0 ρ e v) : EwM X H0 ρ e (.ok v) := h
/-- x and y, where y may be out of reach -/
theorem ewm_and {u : Bool} {m : M Bool} {rs : List Expr} (h : EvT X H0 ρ a u) (q : u = true → EwM X H0 ρ (.BoolOp .And (b :: rs) pos) m) : EwM X H0 ρ (.BoolOp .And (a :: b :: rs) pos) (if u = true then m else .ok false) := by
  cases u with
  | true =>
    rw [if_pos rfl]
    have q := q rfl
    cases m with
    | ok v => exact ew_and (k := true) h (fun _ => q)
    | ex n => exact q.elim
    | far => trivial
  | false =>
    rw [if_neg (by decide)]
    exact ew_and (k := false) (l := false) h (fun z => nomatch z)
theorem ewm_or {u : Bool} {m : M Bool} {rs : List Expr} (h : EvT X H0 ρ a u) (q : u = false → EwM X H0 ρ (.BoolOp .Or (b :: rs) pos) m) : EwM X H0 ρ (.BoolOp .Or (a :: b :: rs) pos) (if u = true then .ok true else m) := by
  cases u with
  | true =>
    rw [if_pos rfl]
    exact ew_or (k := true) (l := true) h (fun z => nomatch z)
  | false =>
    rw [if_neg (by decide)]
    have q := q rfl
    cases m with
    | ok v => exact ew_or (k := false) h (fun _ => q)
    | ex n => exact q.elim
    | far => trivial
theorem evm_and {u : Bool} {m : M Bool} {rs : List Expr} (h : Ev X H0 ρ a (.bl u)) (q : u = true → EvM X H0 ρ (.BoolOp .And (b :: rs) pos) Dat.bl m) (hx : ∀ n, m ≠ .ex n) : EvM X H0 ρ (.BoolOp .And (a :: b :: rs) pos) Dat.bl (if u = true then m else .ok false) := by
  cases u with
  | true =>
    rw [if_pos rfl]
    have q := q rfl
    cases m with
    | ok v => exact ev_andB (k := true) h (fun _ => q)
    | ex n => exact (hx n rfl).elim
    | far => trivial
  | false =>
    rw [if_neg (by decide)]
    exact ev_andB (k := false) (l := false) h (fun z => nomatch z)
theorem evm_or {u : Bool} {m : M Bool} {rs : List Expr} (h : Ev X H0 ρ a (.bl u)) (q : u = false → EvM X H0 ρ (.BoolOp .Or (b :: rs) pos) Dat.bl m) (hx : ∀ n, m ≠ .ex n) : EvM X H0 ρ (.BoolOp .Or (a :: b :: rs) pos) Dat.bl (if u = true then .ok true else m) := by
  cases u with
  | true =>
    rw [if_pos rfl]
    exact ev_orB (k := true) (l := true) h (fun z => nomatch z)
  | false =>
    rw [if_neg (by decide)]
    have q := q rfl
    cases m with
    | ok v => exact ev_orB (k := false) h (fun _ => q)
    | ex n => exact (hx n rfl).elim
    | far => trivial
theorem evm_ife {u : Bool} {m1 m2 : M α} (h : EvT X H0 ρ c u) (q1 : u = true → EvM X H0 ρ a en m1) (q2 : u = false → EvM X H0 ρ b en m2) (hx1 : ∀ n, m1 ≠ .ex n) (hx2 : ∀ n, m2 ≠ .ex n) : EvM X H0 ρ (.IfExp c a b pos) en (if u = true then m1 else m2) := by
  cases u with
  | true =>
    rw [if_pos rfl]
    have q := q1 rfl
    cases m1 with
    | ok v => exact ev_ifT h q
    | ex n => exact (hx1 n rfl).elim
    | far => trivial
  | false =>
    rw [if_neg (by decide)]
    have q := q2 rfl
    cases m2 with
    | ok v => exact ev_ifF h q
    | ex n => exact (hx2 n rfl).elim
    | far => trivial
theorem ev_ife {u : Bool} {v1 v2 : α} (h : EvT X H0 ρ c u) (q1 : Ev X H0 ρ a (en v1)) (q2 : Ev X H0 ρ b (en v2)) : Ev X H0 ρ (.IfExp c a b pos) (en (if u = true then v1 else v2)) := by
  cases u with
  | true => exact ev_ifT h q1
  | false => exact ev_ifF h q2
theorem evm_nox (h : EvM X H0 ρ e en m) : EvM X H0 ρ e en m.nox := by
  cases m with
  | ok v => exact h
  | ex n => trivial
  | far => trivial
theorem nox_ne {m : M α} : ∀ n, m.nox ≠ .ex n := fun n => by cases m <;> exact fun z => nomatch z

/-! ### blocks: what stands ahead of a statement -/
theorem xm_gd (h : g = true → ExM X H0 ρ k sts D m) : ExM X H0 ρ k sts D (M.gd g m) := by
  cases g with
  | true => exact h rfl
  | false => trivial
theorem xm_bind {mb : M β} {f : β → M α} (h : ∀ r, mb = .ok r → ExM X H0 ρ k sts D (f r)) : ExM X H0 ρ k sts D (M.bind (M.nox mb) f) := by
  cases mb with
  | ok r => exact h r rfl
  | ex _ => trivial
  | far => trivial
theorem xm_ofO {ob : Option β} {f : β → M α} (h : ∀ r, ob = some r → ExM X H0 ρ k sts D (f r)) : ExM X H0 ρ k sts D (M.bind (M.ofO ob) f) := by
  cases ob with
  | some r => exact h r rfl
  | none => trivial
theorem ex_drops : ∀ (is : List Nat) {ρ : Env'}, Exec X H0 (drops ρ is) sts o → Exec X H0 ρ sts o
  | [], _, h => h
  | i :: is, _, h => ex_drop i (ex_drops is h)
theorem xm_drops (is : List Nat) (h : ExM X H0 (drops ρ is) k sts D m) : ExM X H0 ρ k sts D m := by
  cases m with
  | ok v => exact ex_drops is h
  | ex n => exact ex_drops is h
  | far => trivial
theorem xm_freeze (i : Nat) (hi : ρ[i]? = some (.ow d)) (h : ExM X H0 (ρ.set i (.im d)) k sts D m) : ExM X H0 ρ k sts D m := by
  cases m with
  | ok v => exact ex_freeze i hi h
  | ex n => exact ex_freeze i hi h
  | far => trivial
theorem xm_env (h : ExM X H0 ρ1 k sts D m) (e : ρ = ρ1 := by rfl) : ExM X H0 ρ k sts D m := e ▸ h
theorem xm_then (h : ExS X H0 ρ st (.nx ρ1)) (t : ExM X H0 ρ1 k rest D m) : ExM X H0 ρ k (st :: rest) D m := by
  cases m with
  | ok v => exact ex_then h t
  | ex n => exact ex_then h t
  | far => trivial
theorem xm_then' {f : β → M α} {v : β} (h : ExS X H0 ρ st (.nx ρ1)) (t : ExM X H0 ρ1 k rest D (f v)) : ExM X H0 ρ k (st :: rest) D (M.lt v f) := xm_then h t
/-- a statement that raises -/
theorem ex_raises (h : ExS X H0 ρ st (.ex n ρ)) (hk : ρ.length = k) : Exec X H0 ρ (st :: rest) (.ex n (List.replicate k .no)) := ex_nos (ex_cons h rfl) hk
/-- x = f(..), which may raise -/
theorem xm_setM {eb : β → Dat} {mb : M β} {f : β → M α} (i : Nat) {x : Str} {pos' : Pos} (h : EvM X H0 ρ e eb mb) (nd : X.N.Nodup) (t : ∀ r, ExM X H0 (ρ.set i (.im (eb r))) k rest D (f r)) (hk : ρ.length = k := by rfl) (hi : X.N[i]? = some x := by rfl) (hx : Loc X.env.scope x := by first | exact Or.inl rfl | exact Or.inr rfl)
    (hs : swapsWith e (some (.Name x pos')) pos.line X.env = pure false := by rfl) (hf : X.fn x = true ∨ X.env.scope.names.lookup x = some .local := by first | exact .inl rfl | exact .inr rfl | assumption) : ExM X H0 ρ k (.Assign [.Name x pos'] e pos :: rest) D (M.bind mb f) := by
  cases mb with
  | ok r => exact xm_then (sx_set i h nd rfl hi hx hs hf) (t r)
  | ex n => exact ex_raises (sx_setX h nd hi hx hs hf) hk
  | far => trivial
theorem xm_setMO {eb : β → Dat} {mb : M β} {f : β → M α} (i : Nat) {x : Str} {pos' : Pos} (h : EoM X H0 ρ e eb mb) (nd : X.N.Nodup) (t : ∀ r, ExM X H0 (ρ.set i (.ow (eb r))) k rest D (f r)) (hk : ρ.length = k := by rfl) (hi : X.N[i]? = some x := by rfl) (hx : Loc X.env.scope x := by first | exact Or.inl rfl | exact Or.inr rfl)
    (hs : swapsWith e (some (.Name x pos')) pos.line X.env = pure false := by rfl) (hf : X.fn x = true ∨ X.env.scope.names.lookup x = some .local := by first | exact .inl rfl | exact .inr rfl | assumption) : ExM X H0 ρ k (.Assign [.Name x pos'] e pos :: rest) D (M.bind mb f) := by
  cases mb with
  | ok r => exact xm_then (sx_setO i h nd rfl hi hx hs hf) (t r)
  | ex n => exact ex_raises (sx_setX h nd hi hx hs hf) hk
  | far => trivial
theorem xm_asgM {eb : β → Dat} {mb : M β} {f : β → M α} {t : Expr} {ok : Dat → Prop} {bd : Dat → Env' → Env'} (h : EvM X H0 ρ e eb mb) (hg : Tgt X H0 t ok bd) (hok : ∀ r, ok (eb r)) (tt : ∀ r, ExM X H0 (bd (eb r) ρ) k rest D (f r)) (hk : ρ.length = k := by rfl) (hs : swapsWithSole [t] e pos.line X.env = pure false := by rfl) (hw : swappedStores [t] e X.env = pure none := by rfl)
    (h1 : (assignEach [t] X.env).map (·.2) = [assign t X.env] := by rfl) : ExM X H0 ρ k (.Assign [t] e pos :: rest) D (M.bind mb f) := by
  cases mb with
  | ok r => exact xm_then (sx_asg h hg (hok r) rfl hs hw h1) (tt r)
  | ex n => exact ex_raises (sx_asgX h hg hs hw h1) hk
  | far => trivial
theorem xm_exprM {eb : β → Dat} {mb : M β} {f : β → M α} (h : EvM X H0 ρ e eb mb) (t : ∀ r, ExM X H0 ρ k rest D (f r)) (hk : ρ.length = k := by rfl) (hs : swapsWith e none pos.line X.env = pure false := by rfl) : ExM X H0 ρ k (.Expr e pos :: rest) D (M.bind mb f) := by
  cases mb with
  | ok r => exact xm_then (sx_expr h hs) (t r)
  | ex n => exact ex_raises (sx_exprX h hs) hk
  | far => trivial
/-! ### returns -/
theorem xm_ret {v : α} (h : Ev X H0 ρ e d) (hD : D v = .rt d := by rfl) : ExM X H0 ρ k (.Return (some e) pos :: rest) D (.ok v) := by
  show Exec X H0 ρ _ (D v)
  rw [hD]
  exact ex_cons (sx_ret h) rfl
theorem sx_retO (h : EvO X H0 ρ e d) : ExS X H0 ρ (.Return (some e) pos) (.ro d) := fun Dd σ H N r q => ws_of (ps_ret pe_w) ((h σ H N r).imp fun v H' ⟨N', p, e1, hp, s, n, r', np, ow⟩ => by
  subst e1
  exact q p H' N' r'.old (n.trans r'.sub) r'.sub r'.fresh (r.old.free hp) np ow)
theorem sx_retOw (i : Nat) (h : ρ[i]? = some (.ow d)) (hN : X.N[i]? = some x := by rfl) (hv : Vis X.env.scope x := by first | exact Or.inl rfl | exact Or.inr (Or.inl rfl) | exact Or.inr (Or.inr rfl)) (hd : (x == ("__debug__" : Str)) = false := by decide)
    (hcd : (x == ("__classdict__" : Str)) = false := by decide) {pos'} : ExS X H0 ρ (.Return (some (.Name x pos')) pos) (.ro d) := fun Dd σ H N r q => ws_of (ps_ret (pv i hN hv hd hcd))
  (let ⟨p, h1, h2, h3, h4⟩ := r.ow i d h; ⟨.ref p, h1, q p H N r.old r.sub r.sub r.fresh h2 h3 h4⟩)
theorem xm_retO {v : α} (h : EvO X H0 ρ e d) (hD : D v = .ro d := by rfl) : ExM X H0 ρ k (.Return (some e) pos :: rest) D (.ok v) := by
  show Exec X H0 ρ _ (D v)
  rw [hD]
  exact ex_cons (sx_retO h) rfl
theorem xm_retOw {v : α} (i : Nat) (h : ρ[i]? = some (.ow d)) (hD : D v = .ro d := by rfl) (hN : X.N[i]? = some x := by rfl) (hv : Vis X.env.scope x := by first | exact Or.inl rfl | exact Or.inr (Or.inl rfl) | exact Or.inr (Or.inr rfl)) (hd : (x == ("__debug__" : Str)) = false := by decide)
    (hcd : (x == ("__classdict__" : Str)) = false := by decide) {pos'} : ExM X H0 ρ k (.Return (some (.Name x pos')) pos :: rest) D (.ok v) := by
  show Exec X H0 ρ _ (D v)
  rw [hD]
  exact ex_cons (sx_retOw i h hN hv hd hcd) rfl
theorem xm_retM {eb : β → Dat} {mb : M β} {f : β → α} (h : EvM X H0 ρ e eb mb) (hD : ∀ r, D (f r) = .rt (eb r) := by intro _; rfl) (hk : ρ.length = k := by rfl) : ExM X H0 ρ k (.Return (some e) pos :: rest) D (M.bind mb fun r => .ok (f r)) := by
  cases mb with
  | ok r => exact xm_ret h (hD r)
  | ex n => exact ex_raises (sx_retX h) hk
  | far => trivial
theorem xm_retMO {eb : β → Dat} {mb : M β} {f : β → α} (h : EoM X H0 ρ e eb mb) (hD : ∀ r, D (f r) = .ro (eb r) := by intro _; rfl) (hk : ρ.length = k := by rfl) : ExM X H0 ρ k (.Return (some e) pos :: rest) D (M.bind mb fun r => .ok (f r)) := by
  cases mb with
  | ok r => exact xm_retO h (hD r)
  | ex n => exact ex_raises (sx_retX h) hk
  | far => trivial
theorem xm_raise {mm : Str} {j : Nat} {p p2 pos pos2 : Pos} (T : Exc X.K X.mg n) (hc : X.calm = true) (hk : ρ.length = k := by rfl) (hg : Gl X n := by rfl) (hdb : (n == ("__debug__" : Str)) = false := by decide) : ExM X H0 ρ k (.Raise (some (.Call (.Name n p) [.Constant (.str mm) j p2] [] pos)) none pos2 :: rest) D (.ex n) :=
  ex_raises (sx_raise T hc hg hdb) hk
/-! ### ends of a block -/
theorem xm_end {v : α} (is : List Nat) (hD : D v = .nx (drops ρ is) := by rfl) : ExM X H0 ρ k [] D (.ok v) := by
  show Exec X H0 ρ [] (D v)
  rw [hD]
  exact ex_drops is ex_nil
theorem xm_brk {v : α} (is : List Nat) (hD : D v = .bk (drops ρ is) := by rfl) : ExM X H0 ρ k (.Break pos :: rest) D (.ok v) := by
  show Exec X H0 ρ _ (D v)
  rw [hD]
  exact ex_drops is (ex_cons sx_break rfl)
theorem xm_cnt {v : α} (is : List Nat) (hD : D v = .ct (drops ρ is) := by rfl) : ExM X H0 ρ k (.Continue pos :: rest) D (.ok v) := by
  show Exec X H0 ρ _ (D v)
  rw [hD]
  exact ex_drops is (ex_cons sx_continue rfl)
/-! ### if -/
theorem out_cons {o : Outc} (h : ExS X H0 ρ st o) (ho : o.out) : Exec X H0 ρ (st :: rest) o := ex_out h ho
/-- the first way leaves the def -/
theorem xm_ifX {m2 : M α} (hD : ∀ v, (D v).out) (hc : EvT X H0 ρ c g) (h1 : g = true → ExM X H0 ρ k as D m) (h2 : g = false → ExM X H0 ρ k rest D m2) : ExM X H0 ρ k (.If c as [] pos :: rest) D (if g = true then m else m2) := by
  cases g with
  | true =>
    rw [if_pos rfl]
    have h1 := h1 rfl
    cases m with
    | ok v => exact ex_out (sx_ifT hc h1) (hD v)
    | ex n => exact ex_out (sx_ifT hc h1) trivial
    | far => trivial
  | false =>
    rw [if_neg (by decide)]
    exact xm_then (sx_skip hc) (h2 rfl)
/-- both leave it -/
theorem xm_ifXX {m2 : M α} (hD : ∀ v, (D v).out) (hc : EvT X H0 ρ c g) (h1 : g = true → ExM X H0 ρ k as D m) (h2 : g = false → ExM X H0 ρ k bs D m2) : ExM X H0 ρ k (.If c as bs pos :: rest) D (if g = true then m else m2) := by
  cases g with
  | true =>
    rw [if_pos rfl]
    have h1 := h1 rfl
    cases m with
    | ok v => exact ex_out (sx_ifT hc h1) (hD v)
    | ex n => exact ex_out (sx_ifT hc h1) trivial
    | far => trivial
  | false =>
    rw [if_neg (by decide)]
    have h2 := h2 rfl
    cases m2 with
    | ok v => exact ex_out (sx_ifF hc h2) (hD v)
    | ex n => exact ex_out (sx_ifF hc h2) trivial
    | far => trivial
/-- both fall through -/
theorem xm_ifN {eS : S → Env'} {m1 m2 : M S} {f : S → M α} (hc : EvT X H0 ρ c g) (h1 : g = true → ExM X H0 ρ k as (fun s => .nx (eS s)) m1) (h2 : g = false → ExM X H0 ρ k bs (fun s => .nx (eS s)) m2) (t : ∀ s, ExM X H0 (eS s) k rest D (f s)) : ExM X H0 ρ k (.If c as bs pos :: rest) D (M.bind (if g = true then m1 else m2) f) := by
  cases g with
  | true =>
    rw [if_pos rfl]
    have h1 := h1 rfl
    cases m1 with
    | ok v => exact xm_then (sx_ifT hc h1) (t v)
    | ex n => exact ex_out (sx_ifT hc h1) trivial
    | far => trivial
  | false =>
    rw [if_neg (by decide)]
    have h2 := h2 rfl
    cases m2 with
    | ok v => exact xm_then (sx_ifF hc h2) (t v)
    | ex n => exact ex_out (sx_ifF hc h2) trivial
    | far => trivial
theorem ex_flow {eS : S → Env'} {eL : L → Env'} {oR : R → Outc} {eS' : S' → Env'} {mf : M (Fl S L R)} {f : S → M (Fl S' L R)} (hR : ∀ r, (oR r).out) (h : ExSM X H0 ρ k st (Fl.D eS eL oR) mf) (t : ∀ s, ExM X H0 (eS s) k rest (Fl.D eS' eL oR) (f s)) : ExM X H0 ρ k (st :: rest) (Fl.D eS' eL oR) (M.seq mf f) := by
  cases mf with
  | ok v =>
    cases v with
    | nx s => exact xm_then h (t s)
    | ct s => exact ex_cons h rfl
    | bk s => exact ex_cons h rfl
    | rt r => exact ex_out h (hR r)
  | ex n => exact ex_cons h rfl
  | far => trivial
theorem ex_flowT {eS : S → Env'} {eL : L → Env'} {oR : R → Outc} {mf : M (Fl S L R)} {f : S → M R} (hR : ∀ r, (oR r).out) (h : ExSM X H0 ρ k st (Fl.D eS eL oR) mf) (t : ∀ s, ExM X H0 (eS s) k rest oR (f s)) : ExM X H0 ρ k (st :: rest) oR (M.seqT mf f) := by
  cases mf with
  | ok v =>
    cases v with
    | nx s => exact xm_then h (t s)
    | ct s => trivial
    | bk s => trivial
    | rt r => exact ex_out h (hR r)
  | ex n => exact ex_cons h rfl
  | far => trivial
theorem sx_ifM {D : β → Outc} {m1 m2 : M β} (hc : EvT X H0 ρ c g) (h1 : g = true → ExM X H0 ρ k as D m1) (h2 : g = false → ExM X H0 ρ k bs D m2) : ExSM X H0 ρ k (.If c as bs pos) D (if g = true then m1 else m2) := by
  cases g with
  | true =>
    rw [if_pos rfl]
    have h1 := h1 rfl
    cases m1 with
    | ok v => exact sx_ifT hc h1
    | ex n => exact sx_ifT hc h1
    | far => trivial
  | false =>
    rw [if_neg (by decide)]
    have h2 := h2 rfl
    cases m2 with
    | ok v => exact sx_ifF hc h2
    | ex n => exact sx_ifF hc h2
    | far => trivial
theorem xm_ifJ {eS : S → Env'} {eL : L → Env'} {oR : R → Outc} {eS' : S' → Env'} {m1 m2 : M (Fl S L R)} {f : S → M (Fl S' L R)} (hR : ∀ r, (oR r).out) (hc : EvT X H0 ρ c g) (h1 : g = true → ExM X H0 ρ k as (Fl.D eS eL oR) m1) (h2 : g = false → ExM X H0 ρ k bs (Fl.D eS eL oR) m2) (t : ∀ s, ExM X H0 (eS s) k rest (Fl.D eS' eL oR) (f s)) :
    ExM X H0 ρ k (.If c as bs pos :: rest) (Fl.D eS' eL oR) (M.seq (if g = true then m1 else m2) f) := ex_flow hR (sx_ifM hc h1 h2) t
theorem xm_ifJT {eS : S → Env'} {eL : L → Env'} {oR : R → Outc} {m1 m2 : M (Fl S L R)} {f : S → M R} (hR : ∀ r, (oR r).out) (hc : EvT X H0 ρ c g) (h1 : g = true → ExM X H0 ρ k as (Fl.D eS eL oR) m1) (h2 : g = false → ExM X H0 ρ k bs (Fl.D eS eL oR) m2) (t : ∀ s, ExM X H0 (eS s) k rest oR (f s)) :
    ExM X H0 ρ k (.If c as bs pos :: rest) oR (M.seqT (if g = true then m1 else m2) f) := ex_flowT hR (sx_ifM hc h1 h2) t
/-! ### for -/
section
variable {ea : β → Dat} {t iter : Expr} {bd : Dat → Env' → Env'} {ok : Dat → Prop}
theorem forM_T {eS : S → Env'} {f : β → S → M S} (hb : ∀ x s, ExM X H0 (bd (ea x) (eS s)) k body (fun s => .nx (eS s)) (f x s)) : ∀ (xs : List β) (s : S), match forM f xs s with | .ok s' => ForT X H0 bd body (xs.map ea) (eS s) (.nx (eS s')) | .ex n => ForT X H0 bd body (xs.map ea) (eS s) (.ex n (List.replicate k .no)) | .far => True
  | [], s => .nil
  | x :: xs, s => by
    have h := hb x s
    show match (f x s).bind fun s' => forM f xs s' with | .ok s' => _ | .ex n => _ | .far => True
    cases e : f x s with
    | ok s1 =>
      rw [e] at h
      have ih := forM_T hb xs s1
      show match forM f xs s1 with | .ok s' => _ | .ex n => _ | .far => True
      cases e2 : forM f xs s1 with
      | ok s2 => rw [e2] at ih; exact .turn h ih
      | ex n => rw [e2] at ih; exact .turn h ih
      | far => trivial
    | ex n => rw [e] at h; exact .exc h
    | far => trivial
theorem forF_T {eS : S → Env'} {eL : L → Env'} {oR : R → Outc} {f : β → S → M (Fl S S R)} (hR : ∀ r, ∃ d, oR r = .rt d ∨ oR r = .ro d) (hb : ∀ x s, ExM X H0 (bd (ea x) (eS s)) k body (Fl.D eS eS oR) (f x s)) : ∀ (xs : List β) (s : S), match (forF f xs s : M (Fl S L R)) with | .ok v => ForT X H0 bd body (xs.map ea) (eS s) (Fl.D eS eL oR v) | .ex n => ForT X H0 bd body (xs.map ea) (eS s) (.ex n (List.replicate k .no)) | .far => True
  | [], s => .nil
  | x :: xs, s => by
    have h := hb x s
    unfold forF
    cases e : f x s with
    | ok v =>
      rw [e] at h
      cases v with
      | nx s1 =>
        have ih := forF_T (eL := eL) hR hb xs s1
        show match (forF f xs s1 : M (Fl S L R)) with | .ok v => _ | .ex n => _ | .far => True
        cases e2 : (forF f xs s1 : M (Fl S L R)) with
        | ok s2 => rw [e2] at ih; exact .turn h ih
        | ex n => rw [e2] at ih; exact .turn h ih
        | far => trivial
      | ct s1 =>
        have ih := forF_T (eL := eL) hR hb xs s1
        show match (forF f xs s1 : M (Fl S L R)) with | .ok v => _ | .ex n => _ | .far => True
        cases e2 : (forF f xs s1 : M (Fl S L R)) with
        | ok s2 => rw [e2] at ih; exact .turnC h ih
        | ex n => rw [e2] at ih; exact .turnC h ih
        | far => trivial
      | bk s1 => exact .brk h
      | rt r =>
        have h : Exec X H0 (bd (ea x) (eS s)) body (oR r) := h
        show ForT X H0 bd body ((x :: xs).map ea) (eS s) (oR r)
        obtain ⟨d, q | q⟩ := hR r
        · rw [q] at h ⊢; exact .ret h
        · rw [q] at h ⊢; exact .retO h
    | ex n => rw [e] at h; exact .exc h
    | far => trivial
theorem xm_for {eS : S → Env'} {xs : List β} {s0 : S} {f : β → S → M S} {fk : S → M α} (hp : PassesOwn (model X.prog X.w) X.A X.env X.xe) (hc : X.calm = true) (hi : Iter X H0 ρ t iter (xs.map ea)) (hg : Tgt X H0 t ok bd) (hok : ∀ d ∈ xs.map ea, ok d) (h0 : ρ = eS s0) (hb : ∀ x s, ExM X H0 (bd (ea x) (eS s)) k body (fun s => .nx (eS s)) (f x s)) (tt : ∀ s, ExM X H0 (eS s) k rest D (fk s))
    (hs : ∀ x, foldedSetIterable iter X.env x = pure x := by intro _; rfl) : ExM X H0 ρ k (.For t iter body [] pos :: rest) D (M.bind (forM f xs s0) fk) := by
  have h := forM_T hb xs s0
  cases e : forM f xs s0 with
  | ok s =>
    rw [e] at h
    exact xm_then (sx_for hp hc hi hg hok (h0 ▸ h) hs) (tt s)
  | ex n =>
    rw [e] at h
    exact ex_out (o := .ex n (List.replicate k .no)) (sx_for hp hc hi hg hok (h0 ▸ h) hs) trivial
  | far => trivial
theorem sx_forM {eS : S → Env'} {eL : L → Env'} {oR : R → Outc} {xs : List β} {s0 : S} {f : β → S → M (Fl S S R)} (hR : ∀ r, ∃ d, oR r = .rt d ∨ oR r = .ro d) (hp : PassesOwn (model X.prog X.w) X.A X.env X.xe) (hc : X.calm = true) (hi : Iter X H0 ρ t iter (xs.map ea)) (hg : Tgt X H0 t ok bd) (hok : ∀ d ∈ xs.map ea, ok d) (h0 : ρ = eS s0) (hb : ∀ x s, ExM X H0 (bd (ea x) (eS s)) k body (Fl.D eS eS oR) (f x s))
    (hs : ∀ x, foldedSetIterable iter X.env x = pure x := by intro _; rfl) : ExSM X H0 ρ k (.For t iter body [] pos) (Fl.D eS eL oR) (forF f xs s0 : M (Fl S L R)) := by
  have h := forF_T (eL := eL) hR hb xs s0
  cases e : (forF f xs s0 : M (Fl S L R)) with
  | ok s => rw [e] at h; exact sx_for hp hc hi hg hok (h0 ▸ h) hs
  | ex n => rw [e] at h; exact sx_for hp hc hi hg hok (h0 ▸ h) hs
  | far => trivial
theorem out_of {o : Outc} (h : ∃ d, o = .rt d ∨ o = .ro d) : o.out := by
  obtain ⟨d, q | q⟩ := h <;> (rw [q]; trivial)
theorem xm_forJ {eS : S → Env'} {eL : L → Env'} {eS' : S' → Env'} {oR : R → Outc} {xs : List β} {s0 : S} {f : β → S → M (Fl S S R)} {fk : S → M (Fl S' L R)} (hR : ∀ r, ∃ d, oR r = .rt d ∨ oR r = .ro d) (hp : PassesOwn (model X.prog X.w) X.A X.env X.xe) (hc : X.calm = true) (hi : Iter X H0 ρ t iter (xs.map ea)) (hg : Tgt X H0 t ok bd) (hok : ∀ d ∈ xs.map ea, ok d) (h0 : ρ = eS s0) (hb : ∀ x s, ExM X H0 (bd (ea x) (eS s)) k body (Fl.D eS eS oR) (f x s)) (tt : ∀ s, ExM X H0 (eS s) k rest (Fl.D eS' eL oR) (fk s))
    (hs : ∀ x, foldedSetIterable iter X.env x = pure x := by intro _; rfl) : ExM X H0 ρ k (.For t iter body [] pos :: rest) (Fl.D eS' eL oR) (M.seq (forF f xs s0) fk) := ex_flow (fun r => out_of (hR r)) (sx_forM hR hp hc hi hg hok h0 hb hs) tt
theorem xm_forJT {eS : S → Env'} {oR : R → Outc} {xs : List β} {s0 : S} {f : β → S → M (Fl S S R)} {fk : S → M R} (hR : ∀ r, ∃ d, oR r = .rt d ∨ oR r = .ro d) (hp : PassesOwn (model X.prog X.w) X.A X.env X.xe) (hc : X.calm = true) (hi : Iter X H0 ρ t iter (xs.map ea)) (hg : Tgt X H0 t ok bd) (hok : ∀ d ∈ xs.map ea, ok d) (h0 : ρ = eS s0) (hb : ∀ x s, ExM X H0 (bd (ea x) (eS s)) k body (Fl.D eS eS oR) (f x s)) (tt : ∀ s, ExM X H0 (eS s) k rest oR (fk s))
    (hs : ∀ x, foldedSetIterable iter X.env x = pure x := by intro _; rfl) : ExM X H0 ρ k (.For t iter body [] pos :: rest) oR (M.seqT (forF f xs s0 : M (Fl S S R)) fk) := ex_flowT (eL := eS) (fun r => out_of (hR r)) (sx_forM hR hp hc hi hg hok h0 hb hs) tt
end
/-! ### while -/
theorem whileM_T {eS : S → Env'} {cm : S → M Bool} {f : S → M S} (hc : ∀ s, EtM X H0 (eS s) c (cm s)) (hb : ∀ s, ExM X H0 (eS s) k body (fun s => .nx (eS s)) (f s)) : ∀ (q : Nat) (s : S), match whileM cm f q s with | .ok s' => WhileT X H0 c body (eS s) (.nx (eS s')) | .ex n => WhileT X H0 c body (eS s) (.ex n (List.replicate k .no)) | .far => True
  | 0, s => trivial
  | q + 1, s => by
    have h := hb s
    have hc1 := hc s
    unfold whileM
    cases ec : cm s with
    | ok u =>
      rw [ec] at hc1
      cases u with
      | false => exact .done hc1
      | true =>
        show match (f s).bind fun s' => whileM cm f q s' with | .ok s' => _ | .ex n => _ | .far => True
        cases e : f s with
        | ok s1 =>
          rw [e] at h
          have ih := whileM_T hc hb q s1
          show match whileM cm f q s1 with | .ok s' => _ | .ex n => _ | .far => True
          cases e2 : whileM cm f q s1 with
          | ok s2 => rw [e2] at ih; exact .turn hc1 h ih
          | ex n => rw [e2] at ih; exact .turn hc1 h ih
          | far => trivial
        | ex n => rw [e] at h; exact .exc hc1 h
        | far => trivial
    | ex n => rw [ec] at hc1; exact hc1.elim
    | far => trivial
theorem whileF_T {eS : S → Env'} {eL : L → Env'} {oR : R → Outc} {cm : S → M Bool} {f : S → M (Fl S S R)} (hR : ∀ r, ∃ d, oR r = .rt d ∨ oR r = .ro d) (hc : ∀ s, EtM X H0 (eS s) c (cm s)) (hb : ∀ s, ExM X H0 (eS s) k body (Fl.D eS eS oR) (f s)) : ∀ (q : Nat) (s : S), match (whileF cm f q s : M (Fl S L R)) with | .ok v => WhileT X H0 c body (eS s) (Fl.D eS eL oR v) | .ex n => WhileT X H0 c body (eS s) (.ex n (List.replicate k .no)) | .far => True
  | 0, s => trivial
  | q + 1, s => by
    have h := hb s
    have hc1 := hc s
    unfold whileF
    cases ec : cm s with
    | ok u =>
      rw [ec] at hc1
      cases u with
      | false => exact .done hc1
      | true =>
        show match (match f s with | .ok (.nx s') => whileF cm f q s' | .ok (.ct s') => whileF cm f q s' | .ok (.bk s') => .ok (.nx s') | .ok (.rt r) => .ok (.rt r) | .ex n => .ex n | .far => .far : M (Fl S L R)) with | .ok v => _ | .ex n => _ | .far => True
        cases e : f s with
        | ok v =>
          rw [e] at h
          cases v with
          | nx s1 =>
            have ih := whileF_T (eL := eL) hR hc hb q s1
            show match (whileF cm f q s1 : M (Fl S L R)) with | .ok v => _ | .ex n => _ | .far => True
            cases e2 : (whileF cm f q s1 : M (Fl S L R)) with
            | ok s2 => rw [e2] at ih; exact .turn hc1 h ih
            | ex n => rw [e2] at ih; exact .turn hc1 h ih
            | far => trivial
          | ct s1 =>
            have ih := whileF_T (eL := eL) hR hc hb q s1
            show match (whileF cm f q s1 : M (Fl S L R)) with | .ok v => _ | .ex n => _ | .far => True
            cases e2 : (whileF cm f q s1 : M (Fl S L R)) with
            | ok s2 => rw [e2] at ih; exact .turnC hc1 h ih
            | ex n => rw [e2] at ih; exact .turnC hc1 h ih
            | far => trivial
          | bk s1 => exact .brk hc1 h
          | rt r =>
            have h : Exec X H0 (eS s) body (oR r) := h
            show WhileT X H0 c body (eS s) (oR r)
            obtain ⟨d, q | q⟩ := hR r
            · rw [q] at h ⊢; exact .ret hc1 h
            · rw [q] at h ⊢; exact .retO hc1 h
        | ex n => rw [e] at h; exact .exc hc1 h
        | far => trivial
    | ex n => rw [ec] at hc1; exact hc1.elim
    | far => trivial
theorem xm_while {eS : S → Env'} {s0 : S} {cm : S → M Bool} {f : S → M S} {fk : S → M α} {fuel : Nat} (hp : PassesOwn (model X.prog X.w) X.A X.env X.xe) (h0 : ρ = eS s0) (hc : ∀ s, EtM X H0 (eS s) c (cm s)) (hb : ∀ s, ExM X H0 (eS s) k body (fun s => .nx (eS s)) (f s)) (tt : ∀ s, ExM X H0 (eS s) k rest D (fk s)) : ExM X H0 ρ k (.While c body [] pos :: rest) D (M.bind (whileM cm f fuel s0) fk) := by
  have h := whileM_T hc hb fuel s0
  cases e : whileM cm f fuel s0 with
  | ok s => rw [e] at h; exact xm_then (sx_while hp (h0 ▸ h)) (tt s)
  | ex n => rw [e] at h; exact ex_out (o := .ex n (List.replicate k .no)) (sx_while hp (h0 ▸ h)) trivial
  | far => trivial
theorem sx_whileM {eS : S → Env'} {eL : L → Env'} {oR : R → Outc} {s0 : S} {cm : S → M Bool} {f : S → M (Fl S S R)} {fuel : Nat} (hR : ∀ r, ∃ d, oR r = .rt d ∨ oR r = .ro d) (hp : PassesOwn (model X.prog X.w) X.A X.env X.xe) (h0 : ρ = eS s0) (hc : ∀ s, EtM X H0 (eS s) c (cm s)) (hb : ∀ s, ExM X H0 (eS s) k body (Fl.D eS eS oR) (f s)) :
    ExSM X H0 ρ k (.While c body [] pos) (Fl.D eS eL oR) (whileF cm f fuel s0 : M (Fl S L R)) := by
  have h := whileF_T (eL := eL) hR hc hb fuel s0
  cases e : (whileF cm f fuel s0 : M (Fl S L R)) with
  | ok s => rw [e] at h; exact sx_while hp (h0 ▸ h)
  | ex n => rw [e] at h; exact sx_while hp (h0 ▸ h)
  | far => trivial
theorem xm_whileJ {eS : S → Env'} {eL : L → Env'} {eS' : S' → Env'} {oR : R → Outc} {s0 : S} {cm : S → M Bool} {f : S → M (Fl S S R)} {fk : S → M (Fl S' L R)} {fuel : Nat} (hR : ∀ r, ∃ d, oR r = .rt d ∨ oR r = .ro d) (hp : PassesOwn (model X.prog X.w) X.A X.env X.xe) (h0 : ρ = eS s0) (hc : ∀ s, EtM X H0 (eS s) c (cm s)) (hb : ∀ s, ExM X H0 (eS s) k body (Fl.D eS eS oR) (f s)) (tt : ∀ s, ExM X H0 (eS s) k rest (Fl.D eS' eL oR) (fk s)) :
    ExM X H0 ρ k (.While c body [] pos :: rest) (Fl.D eS' eL oR) (M.seq (whileF cm f fuel s0) fk) := ex_flow (fun r => out_of (hR r)) (sx_whileM hR hp h0 hc hb) tt
theorem xm_whileJT {eS : S → Env'} {oR : R → Outc} {s0 : S} {cm : S → M Bool} {f : S → M (Fl S S R)} {fk : S → M R} {fuel : Nat} (hR : ∀ r, ∃ d, oR r = .rt d ∨ oR r = .ro d) (hp : PassesOwn (model X.prog X.w) X.A X.env X.xe) (h0 : ρ = eS s0) (hc : ∀ s, EtM X H0 (eS s) c (cm s)) (hb : ∀ s, ExM X H0 (eS s) k body (Fl.D eS eS oR) (f s)) (tt : ∀ s, ExM X H0 (eS s) k rest oR (fk s)) :
    ExM X H0 ρ k (.While c body [] pos :: rest) oR (M.seqT (whileF cm f fuel s0 : M (Fl S S R)) fk) := ex_flowT (eL := eS) (fun r => out_of (hR r)) (sx_whileM hR hp h0 hc hb) tt
/-! ### calls -/
theorem evm_call {R : List Dat → Res → Prop} {kk : Nat} (G : GFn X.prog X.w X.K X.mg X.base x kk R) (hr : Room kk X.A) (ha : EvAB X H0 ρ (e :: es) ds) (q : ∀ o, Rm en m o → R ds o) (hg : Gl X x := by rfl) (hdb : (x == ("__debug__" : Str)) = false := by decide)
    (he : starEach (e :: es) X.env = (false, eval e X.env) :: starEach es X.env := by rfl) (hpl : (backTo pos (starEach es X.env)).any (·.1) = false := by rfl) : EvM X H0 ρ (.Call (.Name x p) (e :: es) [] pos) en m := by
  cases m with
  | ok v => exact ev_call G hr ha (q _ rfl) hg hdb he hpl
  | ex n => exact exc_call G hr ha (q _ rfl) hg hdb he hpl
  | far => trivial
theorem eom_call {R : List Dat → Res → Prop} {kk : Nat} (G : GFn X.prog X.w X.K X.mg X.base x kk R) (hr : Room kk X.A) (ha : EvAB X H0 ρ (e :: es) ds) (q : ∀ o, RmO en m o → R ds o) (hg : Gl X x := by rfl) (hdb : (x == ("__debug__" : Str)) = false := by decide)
    (he : starEach (e :: es) X.env = (false, eval e X.env) :: starEach es X.env := by rfl) (hpl : (backTo pos (starEach es X.env)).any (·.1) = false := by rfl) : EoM X H0 ρ (.Call (.Name x p) (e :: es) [] pos) en m := by
  cases m with
  | ok v => exact eo_call G hr ha (q _ rfl) hg hdb he hpl
  | ex n => exact exc_call G hr ha (q _ rfl) hg hdb he hpl
  | far => trivial
/-! ### defs -/
theorem ends_m (h : ExM X H0 ρ k sts (fun r => .rt (en r)) m) : ∀ o, Rm en m o → Ends' X H0 ρ sts o := fun o q => by
  cases m with
  | ok v => cases (show o = _ from q); exact .ret h
  | ex n => cases (show o = _ from q); exact .exc h
  | far => exact (show False from q).elim
theorem ends_mO (h : ExM X H0 ρ k sts (fun r => .ro (en r)) m) : ∀ o, RmO en m o → Ends' X H0 ρ sts o := fun o q => by
  cases m with
  | ok v => cases (show o = _ from q); exact .own h
  | ex n => cases (show o = _ from q); exact .exc h
  | far => exact (show False from q).elim
/-- a def without a return -/
theorem ends_mN {m : M Unit} {ρ1 : Env'} (h : ExM X H0 ρ k sts (fun _ => .nx ρ1) m) : ∀ o, Rm (fun _ : Unit => Dat.non) m o → Ends' X H0 ρ sts o := fun o q => by
  cases m with
  | ok v => cases (show o = _ from q); exact .non h
  | ex n => cases (show o = _ from q); exact .exc h
  | far => exact (show False from q).elim
end
section
variable {P : Program} {w : World} {K : PySem.W.Frag} {mg : Str → Option Value} {base : Heap} {x : Str} {st : Stmt} {ps N : List Str} {k : Nat} {R : List Dat → Res → Prop} {f : Addr} {fd : FuncData}
/-- THE RULE for a def -/
theorem fn_mk2 (F : Fun K x x st f fd) (S : FnScope N ps (defScope st)) (hl : ∀ ds o, R ds o → ds.length = ps.length)
    (body : ∀ (f : Addr) (cdv : Value) (A : Around) (outer : List PySem.Env) (s : Shared) (H : Hp) (E : XK), Room k (XX P w K mg base N x st f cdv A outer s H E).A → ∀ ds o, R ds o → ∃ es, Ents es ds ∧ ∀ H0, Ends' (XX P w K mg base N x st f cdv A outer s H E) H0 (es ++ List.replicate (N.length - ps.length) .no) (defBody st) o) : FnOk P w K mg base (L2.CX P w) (k + 1) f fd ps (spR K mg R) := by
  refine F.okX S (fun vs H Q E ⟨ds, o, hr, a, _⟩ => by rw [a.length]; exact hl ds o hr) fun cdv A outer s H vs Q E hr hsp => ?_
  obtain ⟨ds, o, hR, a, q⟩ := hsp
  obtain ⟨es, he, hbody⟩ := body f cdv A outer s H E hr ds o hR
  have hlen : vs.length = ps.length := by rw [a.length]; exact hl ds o hR
  have r : Rep K H (es ++ List.replicate (N.length - ps.length) .no) (L2.start N vs) H (Imm H) := hlen ▸ rep_start he a
  have hb := hbody H
  refine ⟨_, pb_w, ?_⟩
  cases hb with
  | ret h => exact h { nx := fun _ H' => Q .non H', rt := Q } _ _ _ r fun v H' s _ rt => q v H' s rt
  | non h => exact h { nx := fun _ H' => Q .non H', rt := Q } _ _ _ r fun σ H' N' s r' => q .non H' r'.old ⟨N', r'.sub, r'.fresh, .non⟩
  | own h => exact h { nx := fun _ H' => Q .non H', rt := Q } _ _ _ r fun p H' N' s1 _ s2 s3 s4 s5 s6 => q p H' N' s1 s2 s3 s4 s5 s6
  | exc h => exact h { nx := fun _ H' => Q .non H', rt := Q } _ _ _ r ⟨_, takes_of rfl rfl rfl rfl, fun C σ H' N' hm s r' => q C H' hm r'.old⟩
theorem GFn.mk2 (D : Df K mg x st ps) (S : FnScope N ps (defScope st)) (hl : ∀ ds o, R ds o → ds.length = ps.length)
    (body : ∀ (f : Addr) (cdv : Value) (A : Around) (outer : List PySem.Env) (s : Shared) (H : Hp) (E : XK), Room k (XX P w K mg base N x st f cdv A outer s H E).A → ∀ ds o, R ds o → ∃ es, Ents es ds ∧ ∀ H0, Ends' (XX P w K mg base N x st f cdv A outer s H E) H0 (es ++ List.replicate (N.length - ps.length) .no) (defBody st) o) : GFn P w K mg base x (k + 1) R := by
  obtain ⟨f, fd, F, hm, hb⟩ := D
  exact ⟨f, fd, ps, fn_mk2 F S hl body, hm, F.kp, hb⟩
end
end B

namespace B
open PySem PySem.Spec PyProof.Rows L2
/-! ### kinds of values -/
abbrev chd (c : Nat) : Dat := tx [c]
abbrev nond (_ : Unit) : Dat := .non
abbrev idd (d : Dat) : Dat := d
section
variable {α β γ δ : Type}
abbrev lstd (e : α → Dat) (l : List α) : Dat := .lst (l.map e)
abbrev tpnd (e : α → Dat) (l : List α) : Dat := .tup (l.map e)
abbrev tup1 (ea : α → Dat) (p : α) : Dat := .tup [ea p]
abbrev tup2 (ea : α → Dat) (eb : β → Dat) (p : α × β) : Dat := .tup [ea p.1, eb p.2]
abbrev tup3 (ea : α → Dat) (eb : β → Dat) (ec : γ → Dat) (p : α × β × γ) : Dat := .tup [ea p.1, eb p.2.1, ec p.2.2]
abbrev tup4 (ea : α → Dat) (eb : β → Dat) (ec : γ → Dat) (ed : δ → Dat) (p : α × β × γ × δ) : Dat := .tup [ea p.1, eb p.2.1, ec p.2.2.1, ed p.2.2.2]
abbrev optd (e : α → Dat) : Option α → Dat
  | none => .non
  | some a => e a
abbrev dicd (e : α → Dat) (l : List (List Nat × α)) : Dat := .dic (l.map fun p => (Sum.inr (SX.S p.1), e p.2))
theorem flats_map {e : α → Dat} (h : ∀ a, flat (e a) = true) (l : List α) : flats (l.map e) = true := by
  induction l with
  | nil => rfl
  | cons a l ih => show (flat (e a) && flats (l.map e)) = true; rw [h a, ih]; rfl
theorem flat_tup1 {ea : α → Dat} (h1 : ∀ a, flat (ea a) = true) : ∀ p, flat (tup1 ea p) = true := fun p => by
  show (flat (ea p) && true) = true; rw [h1]; rfl
theorem flat_tup2 {ea : α → Dat} {eb : β → Dat} (h1 : ∀ a, flat (ea a) = true) (h2 : ∀ a, flat (eb a) = true) : ∀ p, flat (tup2 ea eb p) = true := fun p => by
  show (flat (ea p.1) && (flat (eb p.2) && true)) = true; rw [h1, h2]; rfl
theorem flat_tup3 {ea : α → Dat} {eb : β → Dat} {ec : γ → Dat} (h1 : ∀ a, flat (ea a) = true) (h2 : ∀ a, flat (eb a) = true) (h3 : ∀ a, flat (ec a) = true) : ∀ p, flat (tup3 ea eb ec p) = true := fun p => by
  show (flat (ea p.1) && (flat (eb p.2.1) && (flat (ec p.2.2) && true))) = true; rw [h1, h2, h3]; rfl
theorem flat_tpn {e : α → Dat} (h : ∀ a, flat (e a) = true) : ∀ l, flat (tpnd e l) = true := fun l => by
  show flats (l.map e) = true; exact flats_map h l
theorem cutm (f : α → β) (l : List α) (lo hi : Option Int) : cut (l.map f) lo hi = (cut l lo hi).map f := by
  unfold cut
  rw [List.length_map, List.map_take, List.map_drop]
theorem atIm (f : α → β) (l : List α) (i : Int) {r : α} (h : atI l i = some r) : atI (l.map f) i = some (f r) := by
  unfold atI at h ⊢
  rw [List.length_map]
  cases e : ixN l.length i with
  | none => rw [e] at h; cases h
  | some j =>
    rw [e] at h
    show (l.map f)[j]? = _
    rw [List.getElem?_map, show l[j]? = some r from h]
    rfl
/-- lo, lo + c, .. -/
def rng (lo c : Int) (n : Nat) : List Int := (List.range n).map fun i : Nat => lo + (i : Int) * c
theorem rng_steps (lo c : Int) (n : Nat) : steps lo c n = (rng lo c n).map Dat.int := by
  unfold steps rng
  rw [List.map_map]
  rfl
theorem tx_map (l : List Nat) : (l.map fun k => tx [k]) = l.map chd := rfl
/-! ### == of values -/
def Eqs [DecidableEq α] (e : α → Dat) : Prop := ∀ a b, PyData.eqv (pd (e a)) (pd (e b)) = decide (a = b)
def Okn (n : Nat) (e : α → Dat) : Prop := ∀ a, okn n (e a) = true
theorem eqs_int : Eqs Dat.int := fun a b => by
  show (a == b) = decide (a = b)
  by_cases h : a = b <;> simp [h]
theorem eqs_bool : Eqs Dat.bl := fun a b => by
  show (PyData.eqv (.bool a) (.bool b)) = decide (a = b)
  cases a <;> cases b <;> rfl
theorem eqs_str : Eqs tx := fun a b => by
  show (SX.S a == SX.S b) = decide (a = b)
  by_cases h : a = b
  · subst h; simp
  · rw [decide_eq_false h]
    exact beq_eq_false_iff_ne.mpr fun q => h (SX.S_inj q)
theorem eqvAll_map [DecidableEq α] {e : α → Dat} (h : Eqs e) : ∀ a b : List α, PyData.eqvAll (pds (a.map e)) (pds (b.map e)) = decide (a = b)
  | [], [] => rfl
  | [], _ :: _ => rfl
  | _ :: _, [] => rfl
  | x :: a, y :: b => by
    show (PyData.eqv (pd (e x)) (pd (e y)) && PyData.eqvAll (pds (a.map e)) (pds (b.map e))) = _
    rw [h x y, eqvAll_map h a b]
    by_cases h1 : x = y <;> simp [h1]
theorem eqs_lst [DecidableEq α] {e : α → Dat} (h : Eqs e) : Eqs (lstd e) := fun a b => eqvAll_map h a b
theorem eqs_tpn [DecidableEq α] {e : α → Dat} (h : Eqs e) : Eqs (tpnd e) := fun a b => eqvAll_map h a b
theorem eqs_tup2 [DecidableEq α] [DecidableEq β] {ea : α → Dat} {eb : β → Dat} (h : Eqs ea) (g : Eqs eb) : Eqs (tup2 ea eb) := fun a b => by
  show (PyData.eqv (pd (ea a.1)) (pd (ea b.1)) && (PyData.eqv (pd (eb a.2)) (pd (eb b.2)) && true)) = _
  rw [h, g, Bool.and_true]
  obtain ⟨a1, a2⟩ := a
  obtain ⟨b1, b2⟩ := b
  by_cases h1 : a1 = b1 <;> simp [h1]
theorem eqs_tup3 [DecidableEq α] [DecidableEq β] [DecidableEq γ] {ea : α → Dat} {eb : β → Dat} {ec : γ → Dat} (h : Eqs ea) (g : Eqs eb) (k : Eqs ec) : Eqs (tup3 ea eb ec) := fun a b => by
  show (PyData.eqv (pd (ea a.1)) (pd (ea b.1)) && (PyData.eqv (pd (eb a.2.1)) (pd (eb b.2.1)) && (PyData.eqv (pd (ec a.2.2)) (pd (ec b.2.2)) && true))) = _
  rw [h, g, k, Bool.and_true]
  obtain ⟨a1, a2, a3⟩ := a
  obtain ⟨b1, b2, b3⟩ := b
  by_cases h1 : a1 = b1 <;> by_cases h2 : a2 = b2 <;> simp [h1, h2]
theorem okn_i {n : Nat} : Okn n Dat.int := fun a => by cases n <;> rfl
theorem okn_b {n : Nat} : Okn n Dat.bl := fun a => by cases n <;> rfl
theorem okn_lst {n : Nat} {e : α → Dat} (h : Okn n e) : Okn (n + 1) (lstd e) := fun a => by
  show (a.map e).all (okn n) = true
  rw [List.all_map]
  exact List.all_eq_true.mpr fun x _ => h x
theorem okn_tpn {n : Nat} {e : α → Dat} (h : Okn n e) : Okn (n + 1) (tpnd e) := fun a => by
  show (a.map e).all (okn n) = true
  rw [List.all_map]
  exact List.all_eq_true.mpr fun x _ => h x
theorem okn_tup2 {n : Nat} {ea : α → Dat} {eb : β → Dat} (h : Okn n ea) (g : Okn n eb) : Okn (n + 1) (tup2 ea eb) := fun a => by
  show (okn n (ea a.1) && (okn n (eb a.2) && true)) = true
  rw [h, g]; rfl
theorem okn_tup3 {n : Nat} {ea : α → Dat} {eb : β → Dat} {ec : γ → Dat} (h : Okn n ea) (g : Okn n eb) (k : Okn n ec) : Okn (n + 1) (tup3 ea eb ec) := fun a => by
  show (okn n (ea a.1) && (okn n (eb a.2.1) && (okn n (ec a.2.2) && true))) = true
  rw [h, g, k]; rfl
/-- texts that may be compared -/
@[irreducible] def txOk (l : List Nat) : Bool := okn 0 (tx l)
theorem inj_int : ∀ a b : Int, Dat.int a = Dat.int b → a = b := fun _ _ h => Dat.int.inj h
theorem inj_bool : ∀ a b : Bool, Dat.bl a = Dat.bl b → a = b := fun _ _ h => Dat.bl.inj h
theorem inj_str : ∀ a b : List Nat, tx a = tx b → a = b := fun _ _ h => SX.S_inj (Dat.str.inj h)
theorem inj_chr : ∀ a b : Nat, chd a = chd b → a = b := fun _ _ h => by
  have := inj_str _ _ h
  exact List.cons.inj this |>.1
theorem inj_dat : ∀ a b : Dat, idd a = idd b → a = b := fun _ _ h => h
theorem inj_map {e : α → Dat} (h : ∀ a b, e a = e b → a = b) : ∀ a b : List α, a.map e = b.map e → a = b
  | [], [], _ => rfl
  | [], _ :: _, q => by cases q
  | _ :: _, [], q => by cases q
  | x :: a, y :: b, q => by
    rw [List.map_cons, List.map_cons] at q
    injection q with q1 q2
    rw [h _ _ q1, inj_map h _ _ q2]
theorem inj_lst {e : α → Dat} (h : ∀ a b, e a = e b → a = b) : ∀ a b : List α, lstd e a = lstd e b → a = b := fun a b q => inj_map h a b (Dat.lst.inj q)
theorem inj_tpn {e : α → Dat} (h : ∀ a b, e a = e b → a = b) : ∀ a b : List α, tpnd e a = tpnd e b → a = b := fun a b q => inj_map h a b (Dat.tup.inj q)
theorem inj_tup2 {ea : α → Dat} {eb : β → Dat} (h : ∀ a b, ea a = ea b → a = b) (g : ∀ a b, eb a = eb b → a = b) : ∀ a b : α × β, tup2 ea eb a = tup2 ea eb b → a = b := fun a b q => by
  have q := Dat.tup.inj q
  injection q with q1 q2
  injection q2 with q2 _
  exact Prod.ext (h _ _ q1) (g _ _ q2)
end
/-! ### what is within reach -/
noncomputable def cl (p : Prop) : Bool := @decide p (Classical.propDecidable p)
theorem cl_of {p : Prop} (h : cl p = true) : p := @of_decide_eq_true p (Classical.propDecidable p) h
theorem cl_i {p : Prop} (h : p) : cl p = true := @decide_eq_true p (Classical.propDecidable p) h
instance (i j : Int) : Decidable (IntMulOk i j) := by unfold IntMulOk; infer_instance
instance (i j : Int) : Decidable (CShl i j) := by unfold CShl; infer_instance
instance (i j : Int) : Decidable (CPow i j) := by unfold CPow; infer_instance
@[irreducible] noncomputable def mulOk (i j : Int) : Bool := cl (IntMulOk i j)
theorem mulOk_ok {i j : Int} (h : mulOk i j = true) : IntMulOk i j := by unfold mulOk at h; exact cl_of h
@[irreducible] noncomputable def divOk (j : Int) : Bool := cl (0 < j ∧ j.natAbs.log2 < 9000)
theorem divOk_1 {j : Int} (h : divOk j = true) : 0 < j := by unfold divOk at h; exact (cl_of h).1
theorem divOk_2 {j : Int} (h : divOk j = true) : j.natAbs.log2 < 9000 := by unfold divOk at h; exact (cl_of h).2
@[irreducible] noncomputable def fdivOk (j : Int) : Bool := cl (j ≠ 0 ∧ j.natAbs.log2 < 9000)
theorem fdivOk_1 {j : Int} (h : fdivOk j = true) : j ≠ 0 := by unfold fdivOk at h; exact (cl_of h).1
theorem fdivOk_2 {j : Int} (h : fdivOk j = true) : j.natAbs.log2 < 9000 := by unfold fdivOk at h; exact (cl_of h).2
@[irreducible] noncomputable def shlOk (i j : Int) : Bool := cl (CShl i j)
theorem shlOk_ok {i j : Int} (h : shlOk i j = true) : CShl i j := by unfold shlOk at h; exact cl_of h
@[irreducible] noncomputable def powOk (i j : Int) : Bool := cl (CPow i j)
theorem powOk_ok {i j : Int} (h : powOk i j = true) : CPow i j := by unfold powOk at h; exact cl_of h
@[irreducible] noncomputable def lenOk {α : Type} (l : List α) : Bool := cl (l.length ≤ 16777216)
theorem sizeLine_is : sizeLine = 16777216 := by decide
theorem lenOk_ok {α : Type} {l : List α} (h : lenOk l = true) : l.length ≤ sizeLine := by unfold lenOk at h; rw [sizeLine_is]; exact cl_of h
@[irreducible] noncomputable def lenLt {α : Type} (l : List α) : Bool := cl (l.length < 16777216)
theorem lenLt_ok {α : Type} {l : List α} (h : lenLt l = true) : l.length < sizeLine := by unfold lenLt at h; rw [sizeLine_is]; exact cl_of h
theorem lenLt_m {α : Type} {l : List α} {e : α → Dat} (h : lenLt l = true) : (l.map e).length < sizeLine := by rw [List.length_map]; exact lenLt_ok h
@[irreducible] noncomputable def catOk {α : Type} (l m : List α) : Bool := cl (l.length + m.length ≤ 16777216)
theorem catOk_ok {α : Type} {l m : List α} (h : catOk l m = true) : l.length + m.length ≤ sizeLine := by unfold catOk at h; rw [sizeLine_is]; exact cl_of h
@[irreducible] noncomputable def rngOk (i j : Int) : Bool := cl (-(2 ^ 62) ≤ i ∧ i < 2 ^ 62 ∧ -(2 ^ 62) ≤ j ∧ j < 2 ^ 62)
theorem rngOk_ok {i j : Int} (h : rngOk i j = true) : -(2 ^ 62) ≤ i ∧ i < 2 ^ 62 ∧ -(2 ^ 62) ≤ j ∧ j < 2 ^ 62 := by unfold rngOk at h; exact cl_of h
@[irreducible] noncomputable def repOk {α : Type} (l : List α) (n : Int) : Bool := cl (-100000 ≤ n ∧ n ≤ 100000 ∧ l.length ≤ 100)
def repS {α : Type} (l : List α) (n : Int) : List α := (List.replicate n.toNat l).flatten
theorem repOk_S {l : List Nat} {n : Int} (h : repOk l n = true) : MulOk (SX.S l) n := by unfold repOk at h; obtain ⟨a, b, c⟩ := cl_of h; exact mulOk_small a b c
section
variable {X : Cx} {H0 : Hp} {ρ ρ0 ρ1 ρ2 : Env'} {α β γ : Type} {a b c e t : Expr} {es : List Expr} {st : Stmt} {sts rest : List Stmt} {d d1 d2 : Dat} {ds : List Dat} {p pos : Pos} {o o1 : Outc} {x n : Str} {k : Nat} {D : γ → Outc} {m : M α} {en : α → Dat}
/-! ### numbers -/
theorem ev_shlT {i j : Int} (ha : Ev X H0 ρ a (.int i)) (hb : Ev X H0 ρ b (.int j)) (h : CShl i j) : Ev X H0 ρ (.BinOp a .LShift b pos) (.int (i * 2 ^ j.toNat)) := ev_intop ha hb (g := fun i j => i * 2 ^ j.toNat) op_shlW h
theorem ev_repXm {l : List Nat} {i : Int} (ha : Ev X H0 ρ a (tx l)) (hb : Ev X H0 ρ b (.int i)) (h : repOk l i = true) : Ev X H0 ρ (.BinOp a .Mult b pos) (tx (repS l i)) := ev_repX ha hb (repOk_S h)
/-! ### lists -/
theorem ev_ixLm {l : List α} {i : Int} {r : α} (ha : Ev X H0 ρ a (lstd en l)) (hb : Ev X H0 ρ b (.int i)) (q : atI l i = some r) (hs : PlainIx b := by exact fun _ _ => rfl) : Ev X H0 ρ (.Subscript a b pos) (en r) := ev_ixL ha hb (atIm en l i q) hs
theorem eb_ixLm {l : List α} {i : Int} {r : α} (ha : EvB X H0 ρ a (lstd en l)) (hb : Ev X H0 ρ b (.int i)) (q : atI l i = some r) (hs : PlainIx b := by exact fun _ _ => rfl) : EvB X H0 ρ (.Subscript a b pos) (en r) := eb_ixL ha hb (atIm en l i q) hs
theorem ev_ixTm {l : List α} {i : Int} {r : α} (ha : Ev X H0 ρ a (tpnd en l)) (hb : Ev X H0 ρ b (.int i)) (q : atI l i = some r) (hs : PlainIx b := by exact fun _ _ => rfl) : Ev X H0 ρ (.Subscript a b pos) (en r) := ev_ixT ha hb (atIm en l i q) hs
theorem ev_lenm {l : List α} (ha : EvB X H0 ρ a (lstd en l)) (hm : X.mg "len" = none) (hg : Gl X "len" := by rfl) (he : starEach [a] X.env = (false, eval a X.env) :: starEach [] X.env := by rfl) (hpl : (backTo pos (starEach [] X.env)).any (·.1) = false := by rfl) : Ev X H0 ρ (.Call (.Name "len" p) [a] [] pos) (.int (l.length : Int)) :=
  ev_len ha (by show some (l.map en).length = _; rw [List.length_map]) hm hg he hpl
theorem ev_lenTm {l : List α} (ha : EvB X H0 ρ a (tpnd en l)) (hm : X.mg "len" = none) (hg : Gl X "len" := by rfl) (he : starEach [a] X.env = (false, eval a X.env) :: starEach [] X.env := by rfl) (hpl : (backTo pos (starEach [] X.env)).any (·.1) = false := by rfl) : Ev X H0 ρ (.Call (.Name "len" p) [a] [] pos) (.int (l.length : Int)) :=
  ev_len ha (by show some (l.map en).length = _; rw [List.length_map]) hm hg he hpl
theorem eo_slLm {l : List α} {lo hi : Option Expr} {i j : Option Int} {p2 : Pos} (f : ∀ a, flat (en a) = true) (ha : EvB X H0 ρ a (lstd en l)) (hl : EvP X H0 ρ lo i) (hh : EvP X H0 ρ hi j) : EvO X H0 ρ (.Subscript a (.Slice lo hi none p2) pos) (lstd en (cut l i j)) := by
  have := eo_slL (pos := pos) (p2 := p2) ha hl hh (flats_map f l)
  rw [cutm] at this
  exact this
theorem ev_slTm {l : List α} {lo hi : Option Expr} {i j : Option Int} {p2 : Pos} (ha : Ev X H0 ρ a (tpnd en l)) (hl : EvP X H0 ρ lo i) (hh : EvP X H0 ρ hi j) : Ev X H0 ρ (.Subscript a (.Slice lo hi none p2) pos) (tpnd en (cut l i j)) := by
  have := ev_slT (pos := pos) (p2 := p2) ha hl hh
  rw [cutm] at this
  exact this
theorem eo_listm {l : List α} (f : ∀ a, flat (en a) = true) (ha : EvB X H0 ρ a (lstd en l)) (hm : X.mg "list" = none) (hg : Gl X "list" := by rfl) (he : starEach [a] X.env = (false, eval a X.env) :: starEach [] X.env := by rfl) (hpl : (backTo pos (starEach [] X.env)).any (·.1) = false := by rfl) :
    EvO X H0 ρ (.Call (.Name "list" p) [a] [] pos) (lstd en l) := eo_list ha (flats_map f l) hm hg he hpl
theorem eo_listTm {l : List α} (f : ∀ a, flat (en a) = true) (ha : EvB X H0 ρ a (tpnd en l)) (hm : X.mg "list" = none) (hg : Gl X "list" := by rfl) (he : starEach [a] X.env = (false, eval a X.env) :: starEach [] X.env := by rfl) (hpl : (backTo pos (starEach [] X.env)).any (·.1) = false := by rfl) :
    EvO X H0 ρ (.Call (.Name "list" p) [a] [] pos) (lstd en l) := eo_listT ha (flats_map f l) hm hg he hpl
theorem eo_listRevm {l : List α} {p2 pos2 : Pos} (f : ∀ a, flat (en a) = true) (ha : EvB X H0 ρ a (lstd en l)) (hc : X.calm = true) (hm : X.mg "list" = none) (hm2 : X.mg "reversed" = none) (hg : Gl X "list" := by rfl) (hg2 : Gl X "reversed" := by rfl) (hs : starEach [a] X.env = (false, eval a X.env) :: starEach [] X.env := by rfl)
    (hs2 : starEach [.Call (.Name "reversed" p2) [a] [] pos2] X.env = (false, eval (.Call (.Name "reversed" p2) [a] [] pos2) X.env) :: starEach [] X.env := by rfl) : EvO X H0 ρ (.Call (.Name "list" p) [.Call (.Name "reversed" p2) [a] [] pos2] [] pos) (lstd en l.reverse) := by
  have := eo_listRev (p := p) (pos := pos) ha (flats_map f l) hc hm hm2 hg hg2 hs hs2
  rw [← List.map_reverse] at this
  exact this
theorem repm (f : α → β) (l : List α) (n : Nat) : (List.replicate n (l.map f)).flatten = (List.replicate n l).flatten.map f := by
  induction n with
  | zero => rfl
  | succ n ih => rw [List.replicate_succ, List.replicate_succ, List.flatten_cons, List.flatten_cons, List.map_append, ih]
theorem repOk_L {l : List α} {n : Int} (h : repOk l n = true) : -(2 ^ 63) ≤ n ∧ n < 2 ^ 63 ∧ (l.map en).length * n.toNat ≤ sizeLine := by
  unfold repOk at h
  obtain ⟨a, b, c⟩ := cl_of h
  refine ⟨by omega, by omega, ?_⟩
  rw [List.length_map, sizeLine_is]
  have : l.length * n.toNat ≤ 100 * 100000 := Nat.mul_le_mul c (by omega)
  omega
theorem eo_repOm {l : List α} {i : Int} (ha : EvO X H0 ρ a (lstd en l)) (hb : Ev X H0 ρ b (.int i)) (h : repOk l i = true) : EvO X H0 ρ (.BinOp a .Mult b pos) (lstd en (repS l i)) := by
  obtain ⟨h1, h2, h3⟩ := repOk_L (en := en) h
  have := eo_repO (pos := pos) ha hb h1 h2 h3
  rw [repm] at this
  exact this
theorem eo_repNm {l : List α} {i : Int} (j : Nat) {y : Str} {p1 : Pos} (hi : ρ[j]? = some (.ow (lstd en l))) (hb : Ev X H0 ρ b (.int i)) (h : repOk l i = true) (hN : X.N[j]? = some y := by rfl) (hv : Vis X.env.scope y := by first | exact Or.inl rfl | exact Or.inr (Or.inl rfl) | exact Or.inr (Or.inr rfl))
    (hd : (y == ("__debug__" : Str)) = false := by decide) (hcd : (y == ("__classdict__" : Str)) = false := by decide) : EvO X H0 ρ (.BinOp (.Name y p1) .Mult b pos) (lstd en (repS l i)) := by
  obtain ⟨h1, h2, h3⟩ := repOk_L (en := en) h
  have := eo_repN (pos := pos) (p1 := p1) j hi hb h1 h2 h3 hN hv hd hcd
  rw [repm] at this
  exact this
/-- the rows [e for ..] -/
theorem compM_len {f : α → M Bool} {g : α → M β} : ∀ {xs : List α} {ys : List β}, compM f g xs = .ok ys → ys.length ≤ xs.length
  | [], _, h => by cases h; exact Nat.le_refl _
  | x :: xs, ys, h => by
    unfold compM at h
    cases ef : f x with
    | ok b =>
      rw [ef] at h
      cases b with
      | false => exact Nat.le_succ_of_le (compM_len (by simpa using h))
      | true =>
        cases eg : g x with
        | ok y =>
          rw [eg] at h
          cases ec : compM f g xs with
          | ok zs =>
            rw [ec] at h
            simp at h
            subst h
            exact Nat.succ_le_succ (compM_len ec)
          | ex n => rw [ec] at h; simp at h
          | far => rw [ec] at h; simp at h
        | ex n => rw [eg] at h; simp at h
        | far => rw [eg] at h; simp at h
    | ex n => rw [ef] at h; simp at h
    | far => rw [ef] at h; simp at h
open Classical in
theorem compM_fn {ea : α → Dat} {eb : β → Dat} (inj : ∀ x y, ea x = ea y → x = y) {f : α → M Bool} {g : α → M β} : ∀ {xs : List α} {ys : List β}, compM f g xs = .ok ys →
    (∀ x ∈ xs, ∃ u, f x = .ok u) ∧ (∀ x ∈ xs, f x = .ok true → ∃ y, g x = .ok y) ∧
    ∀ (F : Dat → Bool) (G : Dat → Dat), (∀ x ∈ xs, f x = .ok (F (ea x))) → (∀ x ∈ xs, f x = .ok true → ∀ y, g x = .ok y → G (ea x) = eb y) → ((xs.map ea).filter F).map G = ys.map eb
  | [], _, h => by cases h; exact ⟨by simp, by simp, fun _ _ _ _ => rfl⟩
  | x :: xs, ys, h => by
    unfold compM at h
    cases ef : f x with
    | ok b =>
      rw [ef] at h
      cases b with
      | false =>
        obtain ⟨i1, i2, i3⟩ := compM_fn (ea := ea) (eb := eb) inj (xs := xs) (ys := ys) (by simpa using h)
        refine ⟨fun z hz => ?_, fun z hz hf => ?_, fun F G hF hG => ?_⟩
        · rcases List.mem_cons.mp hz with rfl | hz
          · exact ⟨false, ef⟩
          · exact i1 z hz
        · rcases List.mem_cons.mp hz with rfl | hz
          · rw [ef] at hf; cases hf
          · exact i2 z hz hf
        · have e1 : F (ea x) = false := by have := hF x List.mem_cons_self; rw [ef] at this; exact (M.ok.inj this).symm
          rw [List.map_cons, List.filter_cons, if_neg (by rw [e1]; decide)]
          exact i3 F G (fun z hz => hF z (List.mem_cons_of_mem _ hz)) (fun z hz => hG z (List.mem_cons_of_mem _ hz))
      | true =>
        cases eg : g x with
        | ok y =>
          rw [eg] at h
          cases ec : compM f g xs with
          | ok zs =>
            rw [ec] at h
            simp at h
            subst h
            obtain ⟨i1, i2, i3⟩ := compM_fn (ea := ea) (eb := eb) inj ec
            refine ⟨fun z hz => ?_, fun z hz hf => ?_, fun F G hF hG => ?_⟩
            · rcases List.mem_cons.mp hz with rfl | hz
              · exact ⟨true, ef⟩
              · exact i1 z hz
            · rcases List.mem_cons.mp hz with rfl | hz
              · exact ⟨y, eg⟩
              · exact i2 z hz hf
            · have e1 : F (ea x) = true := by have := hF x List.mem_cons_self; rw [ef] at this; exact (M.ok.inj this).symm
              rw [List.map_cons, List.filter_cons, if_pos e1, List.map_cons, List.map_cons, hG x List.mem_cons_self ef y eg, i3 F G (fun z hz => hF z (List.mem_cons_of_mem _ hz)) (fun z hz => hG z (List.mem_cons_of_mem _ hz))]
          | ex n => rw [ec] at h; simp at h
          | far => rw [ec] at h; simp at h
        | ex n => rw [eg] at h; simp at h
        | far => rw [eg] at h; simp at h
    | ex n => rw [ef] at h; simp at h
    | far => rw [ef] at h; simp at h
open Classical in
/-- .. as functions of the data -/
theorem compM_get {ea : α → Dat} {eb : β → Dat} (inj : ∀ x y, ea x = ea y → x = y) {f : α → M Bool} {g : α → M β} {xs : List α} {ys : List β} (h : compM f g xs = .ok ys) :
    ∃ (F : Dat → Bool) (G : Dat → Dat), ((xs.map ea).filter F).map G = ys.map eb ∧ (∀ d ∈ xs.map ea, ∃ x, d = ea x ∧ f x = .ok (F d) ∧ (F d = true → ∃ y, g x = .ok y ∧ G d = eb y)) := by
  obtain ⟨i1, i2, i3⟩ := compM_fn (ea := ea) (eb := eb) inj h
  let F : Dat → Bool := fun d => if q : ∃ x, d = ea x ∧ ∃ u, f x = .ok u then Classical.choose (Classical.choose_spec q).2 else false
  let G : Dat → Dat := fun d => if q : ∃ x, d = ea x ∧ ∃ y, g x = .ok y then eb (Classical.choose (Classical.choose_spec q).2) else .non
  have hF : ∀ x u, f x = .ok u → F (ea x) = u := fun x u hu => by
    have q : ∃ z, ea x = ea z ∧ ∃ u, f z = .ok u := ⟨x, rfl, u, hu⟩
    show (if q : ∃ z, ea x = ea z ∧ ∃ u, f z = .ok u then Classical.choose (Classical.choose_spec q).2 else false) = u
    rw [dif_pos q]
    have e := inj _ _ (Classical.choose_spec q).1
    have h2 := Classical.choose_spec (Classical.choose_spec q).2
    exact M.ok.inj (((hu.symm.trans (congrArg f e)).trans h2).symm)
  have hG : ∀ x y, g x = .ok y → G (ea x) = eb y := fun x y hy => by
    have q : ∃ z, ea x = ea z ∧ ∃ u, g z = .ok u := ⟨x, rfl, y, hy⟩
    show (if q : ∃ z, ea x = ea z ∧ ∃ u, g z = .ok u then eb (Classical.choose (Classical.choose_spec q).2) else .non) = eb y
    rw [dif_pos q]
    have e := inj _ _ (Classical.choose_spec q).1
    have h2 := Classical.choose_spec (Classical.choose_spec q).2
    exact congrArg eb (M.ok.inj (((hy.symm.trans (congrArg g e)).trans h2).symm))
  refine ⟨F, G, i3 F G (fun x hx => ?_) (fun x hx _ y hy => hG x y hy), fun d hd => ?_⟩
  · obtain ⟨u, hu⟩ := i1 x hx
    rw [hF x u hu, hu]
  · obtain ⟨x, hx, rfl⟩ := List.mem_map.mp hd
    obtain ⟨u, hu⟩ := i1 x hx
    refine ⟨x, rfl, by rw [hF x u hu, hu], fun hT => ?_⟩
    rw [hF x u hu] at hT
    subst hT
    obtain ⟨y, hy⟩ := i2 x hx hu
    exact ⟨y, hy, hG x y hy⟩
theorem eo_compM {elt tg iter : Expr} {ifs : List Expr} {scope : Scope} {xn : Str} {ea : α → Dat} {eb : β → Dat} {xs : List α} {ys : List β} {f : α → M Bool} {g : α → M β} (i : Nat) {pos : Pos} (inj : ∀ x y, ea x = ea y → x = y) (hc : X.calm = true) (nd : X.N.Nodup) (hi : Iter X H0 ρ tg iter (xs.map ea)) (ok : blkC X.N X.env.scope scope [(xn, i)] = true) (hx : ρ[i]? = some .no)
    (htg : ∀ (s : Shared) (H : Hp) (C : Addr) (cl : List (Str × Addr)) (fp : List Addr), PG (X.blk s H scope (compEnvC scope cl C X.env) fp) tg (gName i)) (h : compM f g xs = .ok ys)
    (hif : (ifs = [] ∧ ∀ x, f x = .ok true) ∨ ∃ c, ifs = [c] ∧ ∀ (H0' : Hp) (s : Shared) (H : Hp) (C : Addr) (cl : List (Str × Addr)) (fp : List Addr), ∀ x, EtM (X.blk s H scope (compEnvC scope cl C X.env) fp) H0' (ρ.set i (.im (ea x))) c (f x))
    (hel : ∀ (H0' : Hp) (s : Shared) (H : Hp) (C : Addr) (cl : List (Str × Addr)) (fp : List Addr), Same H0 H0' → ∀ x, EvM (X.blk s H scope (compEnvC scope cl C X.env) fp) H0' (ρ.set i (.im (ea x))) elt eb (g x))
    (hz : lenLt xs = true) (hs : ∀ x, foldedSetIterable iter X.env x = pure x := by intro _; rfl) : EvO X H0 ρ (.ListComp elt [⟨tg, iter, ifs, 0⟩] scope pos) (lstd eb ys) := by
  obtain ⟨F, G, e, q⟩ := compM_get (eb := eb) inj h
  have := eo_comp (X := X) (H0 := H0) (ρ := ρ) (elt := elt) (tg := tg) (iter := iter) (ifs := ifs) (scope := scope) (xn := xn) (pos := pos) i hc nd hi ok hx F G htg (by
    rcases hif with ⟨h1, h2⟩ | ⟨c, h1, h2⟩
    · refine .inl ⟨h1, fun d hd => ?_⟩
      obtain ⟨x, rfl, q1, _⟩ := q d hd
      rw [h2 x] at q1
      exact (M.ok.inj q1).symm
    · refine .inr ⟨c, h1, fun H0' s H C cl fp hs d hd => ?_⟩
      obtain ⟨x, rfl, q1, _⟩ := q d hd
      exact etm_get (h2 H0' s H C cl fp x) q1) (fun H0' s H C cl fp hs d hd hF => by
      obtain ⟨x, rfl, q1, q2⟩ := q d hd
      obtain ⟨y, q3, q4⟩ := q2 hF
      rw [q4]
      exact evm_get (hel H0' s H C cl fp hs x) q3) (lenLt_m hz) hs
  rw [e] at this
  exact this
theorem xm_setLcM {f2 : List β → M γ} {elt tg iter : Expr} {ifs : List Expr} {scope : Scope} {xn y : Str} {ea : α → Dat} {eb : β → Dat} {xs : List α} {f : α → M Bool} {g : α → M β} (j0 : Nat) (i : Nat) {pos py spos : Pos} (inj : ∀ x y, ea x = ea y → x = y) (hc : X.calm = true) (nd : X.N.Nodup) (hi : Iter X H0 ρ tg iter (xs.map ea)) (ok : blkC X.N X.env.scope scope [(xn, i)] = true) (hx : ρ[i]? = some .no)
    (htg : ∀ (s : Shared) (H : Hp) (C : Addr) (cl : List (Str × Addr)) (fp : List Addr), PG (X.blk s H scope (compEnvC scope cl C X.env) fp) tg (gName i))
    (hif : (ifs = [] ∧ ∀ x, f x = .ok true) ∨ ∃ c, ifs = [c] ∧ ∀ (H0' : Hp) (s : Shared) (H : Hp) (C : Addr) (cl : List (Str × Addr)) (fp : List Addr), ∀ x, EtM (X.blk s H scope (compEnvC scope cl C X.env) fp) H0' (ρ.set i (.im (ea x))) c (f x))
    (hel : ∀ (H0' : Hp) (s : Shared) (H : Hp) (C : Addr) (cl : List (Str × Addr)) (fp : List Addr), Same H0 H0' → ∀ x, EvM (X.blk s H scope (compEnvC scope cl C X.env) fp) H0' (ρ.set i (.im (ea x))) elt eb (g x))
    (hz : lenLt xs = true) (tt : ∀ ys, ExM X H0 (ρ.set j0 (.ow (lstd eb ys))) k rest D (f2 ys)) (hs : ∀ x, foldedSetIterable iter X.env x = pure x := by intro _; rfl) (hy : X.N[j0]? = some y := by rfl) (hyl : X.env.scope.names.lookup y = some .local := by rfl)
    (hsw : swapsWith (.ListComp elt [⟨tg, iter, ifs, 0⟩] scope pos) (some (.Name y py)) spos.line X.env = pure true := by rfl) :
    ExM X H0 ρ k (.Assign [.Name y py] (.ListComp elt [⟨tg, iter, ifs, 0⟩] scope pos) spos :: rest) D (M.bind (M.nox (compM f g xs)) f2) := by
  cases h : compM f g xs with
  | ok ys =>
    obtain ⟨F, G, e, q⟩ := compM_get (eb := eb) inj h
    have := sx_setLc (X := X) (H0 := H0) (ρ := ρ) (ρ1 := ρ.set j0 (.ow (lstd eb ys))) (elt := elt) (tg := tg) (iter := iter) (ifs := ifs) (scope := scope) (xn := xn) (pos := pos) (spos := spos) (py := py) (y := y) j0 i hc nd hi ok hx F G htg (by
      rcases hif with ⟨h1, h2⟩ | ⟨c, h1, h2⟩
      · refine .inl ⟨h1, fun d hd => ?_⟩
        obtain ⟨x, rfl, q1, _⟩ := q d hd
        rw [h2 x] at q1
        exact (M.ok.inj q1).symm
      · refine .inr ⟨c, h1, fun H0' s H C cl fp hs d hd => ?_⟩
        obtain ⟨x, rfl, q1, _⟩ := q d hd
        exact etm_get (h2 H0' s H C cl fp x) q1) (fun H0' s H C cl fp hs d hd hF => by
        obtain ⟨x, rfl, q1, q2⟩ := q d hd
        obtain ⟨y, q3, q4⟩ := q2 hF
        rw [q4]
        exact evm_get (hel H0' s H C cl fp hs x) q3) (lenLt_m hz) (by rw [e]) hs hy hyl hsw
    exact xm_then this (tt ys)
  | ex n => trivial
  | far => trivial
/-! ### assignments -/
theorem xm_set {en : β → Dat} {v : β} {f : β → M γ} (i : Nat) {x : Str} {pos' : Pos} (h : Ev X H0 ρ e (en v)) (nd : X.N.Nodup) (t : ∀ x, ExM X H0 (ρ.set i (.im (en x))) k rest D (f x)) (hi : X.N[i]? = some x := by rfl) (hx : Loc X.env.scope x := by first | exact Or.inl rfl | exact Or.inr rfl)
    (hs : swapsWith e (some (.Name x pos')) pos.line X.env = pure false := by rfl) (hf : X.fn x = true ∨ X.env.scope.names.lookup x = some .local := by first | exact .inl rfl | exact .inr rfl | assumption) : ExM X H0 ρ k (.Assign [.Name x pos'] e pos :: rest) D (M.lt v f) := xm_then (sx_set i h nd rfl hi hx hs hf) (t v)
theorem xm_setO {en : β → Dat} {v : β} {f : β → M γ} (i : Nat) {x : Str} {pos' : Pos} (h : EvO X H0 ρ e (en v)) (nd : X.N.Nodup) (t : ∀ x, ExM X H0 (ρ.set i (.ow (en x))) k rest D (f x)) (hi : X.N[i]? = some x := by rfl) (hx : Loc X.env.scope x := by first | exact Or.inl rfl | exact Or.inr rfl)
    (hs : swapsWith e (some (.Name x pos')) pos.line X.env = pure false := by rfl) (hf : X.fn x = true ∨ X.env.scope.names.lookup x = some .local := by first | exact .inl rfl | exact .inr rfl | assumption) : ExM X H0 ρ k (.Assign [.Name x pos'] e pos :: rest) D (M.lt v f) := xm_then (sx_setO i h nd rfl hi hx hs hf) (t v)
theorem xm_asg {en : β → Dat} {v : β} {f : β → M γ} {t : Expr} {ok : Dat → Prop} {bd : Dat → Env' → Env'} (h : Ev X H0 ρ e (en v)) (hg : Tgt X H0 t ok bd) (hok : ∀ r, ok (en r)) (tt : ∀ r, ExM X H0 (bd (en r) ρ) k rest D (f r)) (hs : swapsWithSole [t] e pos.line X.env = pure false := by rfl) (hw : swappedStores [t] e X.env = pure none := by rfl)
    (h1 : (assignEach [t] X.env).map (·.2) = [assign t X.env] := by rfl) : ExM X H0 ρ k (.Assign [t] e pos :: rest) D (M.lt v f) := xm_then (sx_asg h hg (hok v) rfl hs hw h1) (tt v)
theorem xm_par {ea : α → Dat} {eb : β → Dat} {v : α} {u : β} {f : α → β → M γ} (i j : Nat) {y z : Str} {px py pt : Pos} {kt k2 pt2} (ha : Ev X H0 ρ a (ea v)) (hb : Ev X H0 ρ b (eb u)) (nd : X.N.Nodup) (hc : X.calm = true) (hij : i ≠ j) (tt : ∀ v u, ExM X H0 ((ρ.set i (.im (ea v))).set j (.im (eb u))) k rest D (f v u)) (hi : X.N[i]? = some y := by rfl) (hj : X.N[j]? = some z := by rfl)
    (hx : X.env.scope.names.lookup y = some .local := by rfl) (hy : X.env.scope.names.lookup z = some .local := by rfl) (hw : swappedStores [.Tuple [.Name y px, .Name z py] kt pt] (.Tuple [a, b] k2 pt2) X.env = pure (some [y, z]) := by rfl)
    (hs : swapsWithSole [.Tuple [.Name y px, .Name z py] kt pt] (.Tuple [a, b] k2 pt2) pos.line X.env = pure false := by rfl) (h1 : starEach [a, b] X.env = (false, eval a X.env) :: starEach [b] X.env := by rfl) (h2 : starEach [b] X.env = (false, eval b X.env) :: starEach [] X.env := by rfl) :
    ExM X H0 ρ k (.Assign [.Tuple [.Name y px, .Name z py] kt pt] (.Tuple [a, b] k2 pt2) pos :: rest) D (M.lt (v, u) fun q => f q.1 q.2) := xm_then (sx_par i j ha hb nd hc hij rfl hi hj hx hy hw hs h1 h2) (tt v u)
theorem xm_append {en : β → Dat} {l : List β} {v : β} {f : List β → M γ} (i : Nat) {y : Str} {p1 p2 p3 : Pos} (hi : ρ[i]? = some (.ow (lstd en l))) (h : Ev X H0 ρ e (en v)) (hz : lenLt l = true) (tt : ∀ l, ExM X H0 (ρ.set i (.ow (lstd en l))) k rest D (f l)) (hN : X.N[i]? = some y := by rfl) (hv : Vis X.env.scope y := by first | exact Or.inl rfl | exact Or.inr (Or.inl rfl) | exact Or.inr (Or.inr rfl))
    (hd : (y == ("__debug__" : Str)) = false := by decide) (hcd : (y == ("__classdict__" : Str)) = false := by decide)
    (hpe : ∀ to t, PE X (.Name y p1) to → PA X [e] t → PE X (.Call (.Attribute (.Name y p1) "append" p2) [e] [] p3) (tBM X.K "list" rAppend to t) := by exact fun _ _ h g => pe_bm PySem.F.plainAttrs_list PySem.F.slot_list_append PySem.F.type_list_append mt_append h g)
    (he : starEach [e] X.env = (false, eval e X.env) :: starEach [] X.env := by rfl) (hs : swapsWith (.Call (.Attribute (.Name y p1) "append" p2) [e] [] p3) none pos.line X.env = pure false := by rfl) :
    ExM X H0 ρ k (.Expr (.Call (.Attribute (.Name y p1) "append" p2) [e] [] p3) pos :: rest) D (M.lt (l ++ [v]) f) := by
  have h0 := sx_append (pos := pos) (p1 := p1) (p2 := p2) (p3 := p3) i hi h (lenLt_m hz) rfl hN hv hd hcd hpe he hs
  have t1 := tt (l ++ [v])
  unfold lstd at t1
  rw [List.map_append] at t1
  exact xm_then h0 t1
theorem xm_augI {v u : Int} {f : Int → M γ} (i : Nat) {y : Str} {pos' : Pos} (hi : ρ[i]? = some (.im (.int v))) (h : Ev X H0 ρ e (.int u)) (nd : X.N.Nodup) (tt : ∀ x, ExM X H0 (ρ.set i (.im (.int x))) k rest D (f x)) (hN : X.N[i]? = some y := by rfl) (hx : Loc X.env.scope y := by first | exact Or.inl rfl | exact Or.inr rfl)
    (hp : ∀ te, PE X e te → PS X (.AugAssign (.Name y pos') .Add e pos) (tAug i te (ipI fun i j => i + j)) := by exact fun te h => ps_aug (by assumption) rfl (by first | exact Or.inl rfl | exact Or.inr rfl) h ip_add) :
    ExM X H0 ρ k (.AugAssign (.Name y pos') .Add e pos :: rest) D (M.lt (v + u) f) := xm_then (sx_augI i hi h nd rfl hN hx hp) (tt (v + u))
/-- l[i] = v -/
def setI {α : Type} (l : List α) (i : Int) (v : α) : Option (List α) := (ixN l.length i).map fun j => l.set j v
theorem xm_setIx {en : β → Dat} {l l2 : List β} {v : β} {f : List β → M γ} {u : Int} (i : Nat) {y : Str} {p1 p2 : Pos} {ix : Expr} (hi : ρ[i]? = some (.ow (lstd en l))) (hv : Ev X H0 ρ e (en v)) (hx : Ev X H0 ρ ix (.int u)) (hj : setI l u v = some l2) (tt : ∀ l, ExM X H0 (ρ.set i (.ow (lstd en l))) k rest D (f l)) (hN : X.N[i]? = some y := by rfl)
    (hvis : Vis X.env.scope y := by first | exact Or.inl rfl | exact Or.inr (Or.inl rfl) | exact Or.inr (Or.inr rfl)) (hd : (y == ("__debug__" : Str)) = false := by decide) (hcd : (y == ("__classdict__" : Str)) = false := by decide)
    (hp : ∀ te to ti, PE X e te → PE X (.Name y p1) to → PE X ix ti → PS X (.Assign [.Subscript (.Name y p1) ix p2] e pos) (tAsg te (gSub to ti rSetL)) := by exact fun te to ti h g f => ps_asg h (pg_sub g f set_list)) :
    ExM X H0 ρ k (.Assign [.Subscript (.Name y p1) ix p2] e pos :: rest) D (M.lt l2 f) := by
  unfold setI at hj
  obtain ⟨j, hj1, hj2⟩ := Option.map_eq_some_iff.mp hj
  have h0 := sx_setIx (pos := pos) (p1 := p1) (p2 := p2) i hi hv hx (by rw [List.length_map]; exact hj1) rfl hN hvis hd hcd hp
  have t1 := tt l2
  unfold lstd at t1
  rw [← hj2, List.map_set] at t1
  rw [M.lt, ← hj2]
  exact xm_then h0 t1
/-- l[i] += v -/
theorem xm_augIx {l l2 : List Int} {f : List Int → M γ} {j w u : Int} (i : Nat) {y : Str} {p1 p2 : Pos} {ix : Expr} (hi : ρ[i]? = some (.ow (lstd Dat.int l))) (hx : Ev X H0 ρ ix (.int j)) (h0 : decide (0 ≤ j) = true) (hj : atI l j = some w) (hv : Ev X H0 ρ e (.int u)) (hl : setI l j (w + u) = some l2) (tt : ∀ l, ExM X H0 (ρ.set i (.ow (lstd Dat.int l))) k rest D (f l)) (hN : X.N[i]? = some y := by rfl)
    (hvis : Vis X.env.scope y := by first | exact Or.inl rfl | exact Or.inr (Or.inl rfl) | exact Or.inr (Or.inr rfl)) (hd : (y == ("__debug__" : Str)) = false := by decide) (hcd : (y == ("__classdict__" : Str)) = false := by decide)
    (hp : ∀ te to ti, PE X e te → PE X (.Name y p1) to → PE X ix ti → PS X (.AugAssign (.Subscript (.Name y p1) ix p2) .Add e pos) (tAugS to ti te rGetL (ipI fun i j => i + j) rSetL) := by exact fun te to ti h g f => ps_augS g f get_list h ip_add set_list) :
    ExM X H0 ρ k (.AugAssign (.Subscript (.Name y p1) ix p2) .Add e pos :: rest) D (M.lt l2 f) := by
  have h0 := of_decide_eq_true h0
  obtain ⟨q, rfl⟩ := Int.eq_ofNat_of_zero_le h0
  unfold setI at hl
  obtain ⟨q2, hj1, hj2⟩ := Option.map_eq_some_iff.mp hl
  have e1 : q2 = q ∧ q < l.length := by
    unfold ixN at hj1
    rw [if_pos (by omega)] at hj1
    split at hj1
    · have := Option.some.inj hj1
      rw [Int.toNat_natCast] at this
      omega
    · cases hj1
  obtain ⟨rfl, e2⟩ := e1
  have hg : (l.map Dat.int)[q2]? = some (.int w) := by
    unfold atI at hj
    rw [hj1] at hj
    rw [List.getElem?_map, show l[q2]? = some w from hj]
    rfl
  have h1 := sx_augIx (pos := pos) (p1 := p1) (p2 := p2) i hi hx hg hv rfl hN hvis hd hcd hp
  have t1 := tt l2
  unfold lstd at t1
  rw [← hj2, List.map_set] at t1
  rw [M.lt, ← hj2]
  exact xm_then h1 t1
/-! ### walks -/
theorem itm_r1 {j : Int} {t : Expr} {p : Pos} (h : Ev X H0 ρ a (.int j)) (bb : rngOk 0 j = true) (hm : X.mg "range" = none) (hg : Gl X "range" := by rfl) (hs : starEach [a] X.env = [(false, eval a X.env)] := by rfl) : Iter X H0 ρ t (.Call (.Name "range" p) [a] [] pos) ((rng 0 1 j.toNat).map Dat.int) := by
  obtain ⟨_, _, b1, b2⟩ := rngOk_ok bb
  have := it_range1 (pos := pos) (p := p) (t := t) h b1 b2 hm hg hs
  rw [rng_steps] at this
  exact this
theorem itm_r2 {i j : Int} {t : Expr} {p : Pos} (h : Ev X H0 ρ a (.int i)) (h2 : Ev X H0 ρ b (.int j)) (bb : rngOk i j = true) (hm : X.mg "range" = none) (hg : Gl X "range" := by rfl)
    (hs : starEach [a, b] X.env = [(false, eval a X.env), (false, eval b X.env)] := by rfl) (hs2 : starEach [b] X.env = [(false, eval b X.env)] := by rfl) : Iter X H0 ρ t (.Call (.Name "range" p) [a, b] [] pos) ((rng i 1 (j - i).toNat).map Dat.int) := by
  have := it_range2 (pos := pos) (p := p) (t := t) h h2 (rngOk_ok bb) hm hg hs hs2
  rw [rng_steps] at this
  exact this
/-- range(i, j, -1) -/
theorem itm_rdn {i j : Int} {t : Expr} {p : Pos} (h : Ev X H0 ρ a (.int i)) (h2 : Ev X H0 ρ b (.int j)) (h3 : Ev X H0 ρ c (.int (-1))) (bb : rngOk i j = true) (hm : X.mg "range" = none) (hg : Gl X "range" := by rfl)
    (hs : ∀ l, PA X [a, b, c] l → PI X t (.Call (.Name "range" p) [a, b, c] [] pos) (iRng3 l)) (s1 : starEach [a, b, c] X.env = (false, eval a X.env) :: starEach [b, c] X.env := by rfl) (s2 : starEach [b, c] X.env = (false, eval b X.env) :: starEach [c] X.env := by rfl) (s3 : starEach [c] X.env = (false, eval c X.env) :: starEach [] X.env := by rfl) : Iter X H0 ρ t (.Call (.Name "range" p) [a, b, c] [] pos) ((rng i (-1) (i - j).toNat).map Dat.int) := by
  obtain ⟨b1, b2, b3, b4⟩ := rngOk_ok bb
  have := it_range3 (pos := pos) (p := p) (t := t) h h2 h3 (RgC.neg b1 b2 b3 b4) hm hg hs s1 s2 s3
  rw [rng_steps] at this
  exact this
@[irreducible] noncomputable def stepOk (i j c : Int) : Bool := cl (0 < c ∧ c < 1073741824 ∧ -(2 ^ 39) ≤ i ∧ i ≤ 2 ^ 39 ∧ -(2 ^ 39) ≤ j ∧ j ≤ 2 ^ 39)
def stepN (i j c : Int) : Nat := if i < j then ((j - i - 1) / c + 1).toNat else 0
/-- range(i, j, c), c above 0 -/
theorem itm_rup {i j c' : Int} {t : Expr} {p : Pos} (h : Ev X H0 ρ a (.int i)) (h2 : Ev X H0 ρ b (.int j)) (h3 : Ev X H0 ρ c (.int c')) (bb : stepOk i j c' = true) (hm : X.mg "range" = none) (hg : Gl X "range" := by rfl)
    (hs : ∀ l, PA X [a, b, c] l → PI X t (.Call (.Name "range" p) [a, b, c] [] pos) (iRng3 l)) (s1 : starEach [a, b, c] X.env = (false, eval a X.env) :: starEach [b, c] X.env := by rfl) (s2 : starEach [b, c] X.env = (false, eval b X.env) :: starEach [c] X.env := by rfl) (s3 : starEach [c] X.env = (false, eval c X.env) :: starEach [] X.env := by rfl) : Iter X H0 ρ t (.Call (.Name "range" p) [a, b, c] [] pos) ((rng i c' (stepN i j c')).map Dat.int) := by
  unfold stepOk at bb
  obtain ⟨b1, b2, b3, b4, b5, b6⟩ := cl_of bb
  have hn : ((stepN i j c' : Nat) : Int) = if i < j then (j - i - 1) / c' + 1 else 0 := by
    unfold stepN
    split
    · have : 0 ≤ (j - i - 1) / c' := Int.ediv_nonneg (by omega) (by omega)
      omega
    · rfl
  have := it_range3 (pos := pos) (p := p) (t := t) h h2 h3 (rgc_pos b1 b2 b3 b4 b5 b6 hn) hm hg hs s1 s2 s3
  rw [rng_steps] at this
  exact this
theorem itm_ol {l : List α} (f : ∀ a, flat (en a) = true) (i : Nat) {t : Expr} {x : Str} (h : ρ[i]? = some (.ol (lstd en l))) (hN : X.N[i]? = some x := by rfl) (hv : Vis X.env.scope x := by first | exact Or.inl rfl | exact Or.inr (Or.inl rfl) | exact Or.inr (Or.inr rfl)) (hd : (x == ("__debug__" : Str)) = false := by decide)
    (hcd : (x == ("__classdict__" : Str)) = false := by decide) : Iter X H0 ρ t (.Name x pos) (l.map en) := it_ol i h (flats_map f l) hN hv hd hcd
end
end B

namespace B
open PySem PySem.Spec PyProof.Rows L2
section
variable {S S' L R α : Type}
def M.seqN (m : M (Fl S L Empty)) (k : S → M α) : M α := match m with
  | .ok (.nx s) => k s
  | .ex n => .ex n
  | _ => .far
@[simp] theorem M.seqN_nx (s : S) (k : S → M α) : (M.ok (Fl.nx s : Fl S L Empty)).seqN k = k s := id rfl
end
/-- what data are -/
def strOf : Dat → Option (List Nat)
  | .str s => some s.cps.toList
  | _ => none
theorem strOf_ok {d : Dat} {l : List Nat} (h : strOf d = some l) : d = tx l := by
  cases d <;> simp [strOf] at h
  subst h
  rfl
@[simp] theorem strOf_tx (l : List Nat) : strOf (tx l) = some l := id rfl
def intOf : Dat → Option Int
  | .int i => some i
  | _ => none
theorem intOf_ok {d : Dat} {i : Int} (h : intOf d = some i) : d = .int i := by
  cases d <;> simp [intOf] at h
  subst h
  rfl
@[simp] theorem intOf_int (i : Int) : intOf (.int i) = some i := id rfl
def tupOf : Dat → Option (List Dat)
  | .tup ds => some ds
  | _ => none
theorem tupOf_ok {d : Dat} {l : List Dat} (h : tupOf d = some l) : d = tpnd idd l := by
  cases d <;> simp [tupOf] at h
  subst h
  simp [tpnd]
def datIx (d : Dat) (i : Int) : Option Dat := match d with
  | .tup ds => atI ds i
  | .lst ds => atI ds i
  | _ => none
abbrev fndX (l m : List Nat) : Int := Txt.find (SX.S l) (SX.S m)
abbrev cntX (l m : List Nat) : Int := Txt.count (SX.S l) (SX.S m)
theorem fndX_one {l : List Nat} {c : Nat} (h : c ∈ l) : fndX l [c] = ((l.idxOf c : Nat) : Int) := find_one h
theorem cntX_one (l : List Nat) (c : Nat) : cntX l [c] = ((l.count c : Nat) : Int) := count_one l c
@[irreducible] noncomputable def joinOk (l : List Nat) (yss : List (List Nat)) : Bool := cl ((yss.map (·.length)).sum + yss.length * l.length ≤ 16777216)
theorem joinOk_ok {l : List Nat} {yss : List (List Nat)} (h : joinOk l yss = true) : (yss.map (·.length)).sum + yss.length * l.length ≤ 16777216 := by unfold joinOk at h; exact cl_of h
/-- sep.join of signs -/
def joinC (l : List Nat) (cs : List Nat) : List Nat := TL.joinL l (cs.map fun c => [c])
noncomputable def joinOkC (l : List Nat) (cs : List Nat) : Bool := joinOk l (cs.map fun c => [c])
section
variable {X : Cx} {H0 : Hp} {ρ ρ0 ρ1 ρ2 : Env'} {α β γ S S' L L' R : Type} {a b c e t iter : Expr} {es : List Expr} {st : Stmt} {sts rest body : List Stmt} {d d1 d2 : Dat} {ds : List Dat} {p pos : Pos} {o o1 : Outc} {x n : Str} {k : Nat} {D : γ → Outc} {m : M α} {en : α → Dat}
theorem eom_get {v : α} (h : EoM X H0 ρ e en m) (q : m = .ok v) : EvO X H0 ρ e (en v) := by subst q; exact h
theorem evm_call0 {R : List Dat → Res → Prop} {kk : Nat} (G : GFn X.prog X.w X.K X.mg X.base x kk R) (hr : Room kk X.A) (q : ∀ o, Rm en m o → R [] o) (hg : Gl X x := by rfl) (hdb : (x == ("__debug__" : Str)) = false := by decide) : EvM X H0 ρ (.Call (.Name x p) [] [] pos) en m.nox := by
  cases m with
  | ok v => exact ev_call0 G hr (q _ rfl) hg hdb
  | ex n => trivial
  | far => trivial
theorem ev_datIx {v : Dat} {i : Int} (ha : Ev X H0 ρ a d) (hb : Ev X H0 ρ b (.int i)) (h : datIx d i = some v) (hs : PlainIx b := by exact fun _ _ => rfl) : Ev X H0 ρ (.Subscript a b pos) v := by
  cases d with
  | tup ds => exact ev_ixT ha hb h hs
  | lst ds => exact ev_ixL ha hb h hs
  | _ => cases h
theorem eb_datIx {v : Dat} {i : Int} (ha : EvB X H0 ρ a d) (hb : Ev X H0 ρ b (.int i)) (h : datIx d i = some v) (hs : PlainIx b := by exact fun _ _ => rfl) : EvB X H0 ρ (.Subscript a b pos) v := by
  cases d with
  | tup ds => exact eb_ixT ha hb h hs
  | lst ds => exact eb_ixL ha hb h hs
  | _ => cases h
theorem it_tupD {l : List Dat} (h : Ev X H0 ρ e d) (q : tupOf d = some l) : Iter X H0 ρ t e (l.map idd) := by
  rw [tupOf_ok q] at h
  exact it_tup h
theorem optd_isN (o : Option α) : isNon (optd en o) = isNon (optd en o) := rfl
/-! ### constants of the module -/
theorem ev_cstI {i : Int} (h : ∃ t, X.mg x = some (.int i t)) (hg : Gl X x := by rfl) (hd : (x == ("__debug__" : Str)) = false := by decide) : Ev X H0 ρ (.Name x pos) (.int i) := fun σ H N r => by
  obtain ⟨t, h⟩ := h
  exact we_of (pe_glob (v := .int i) hg h ⟨_, rfl⟩ hd) ⟨N, Same.refl _, Same.refl _, r, .int _⟩
theorem ev_cstS {l : List Nat} (h : ∃ t, X.mg x = some (.str (SX.S l) t)) (hg : Gl X x := by rfl) (hd : (x == ("__debug__" : Str)) = false := by decide) : Ev X H0 ρ (.Name x pos) (tx l) := fun σ H N r => by
  obtain ⟨t, h⟩ := h
  exact we_of (pe_glob (v := .str (SX.S l)) hg h ⟨_, rfl⟩ hd) ⟨N, Same.refl _, Same.refl _, r, .str _⟩
/-! ### flows without return -/
theorem ex_flowN {eS : S → Env'} {eL : L → Env'} {oR : Empty → Outc} {mf : M (Fl S L Empty)} {f : S → M γ} (h : ExSM X H0 ρ k st (Fl.D eS eL oR) mf) (tt : ∀ s, ExM X H0 (eS s) k rest D (f s)) : ExM X H0 ρ k (st :: rest) D (M.seqN mf f) := by
  cases mf with
  | ok v =>
    cases v with
    | nx s => exact xm_then h (tt s)
    | ct s => trivial
    | bk s => trivial
    | rt r => exact nomatch r
  | ex n => exact ex_out (o := .ex n (List.replicate k .no)) h trivial
  | far => trivial
section
variable {ea : β → Dat} {bd : Dat → Env' → Env'} {ok : Dat → Prop}
theorem xm_forN {eS : S → Env'} {xs : List β} {s0 : S} {f : β → S → M (Fl S S Empty)} {fk : S → M γ} (hp : PassesOwn (model X.prog X.w) X.A X.env X.xe) (hc : X.calm = true) (hi : Iter X H0 ρ t iter (xs.map ea)) (hg : Tgt X H0 t ok bd) (hok : ∀ d ∈ xs.map ea, ok d) (h0 : ρ = eS s0) (hb : ∀ x s, ExM X H0 (bd (ea x) (eS s)) k body (Fl.D eS eS (fun (r : Empty) => nomatch r)) (f x s)) (tt : ∀ s, ExM X H0 (eS s) k rest D (fk s))
    (hs : ∀ x, foldedSetIterable iter X.env x = pure x := by intro _; rfl) : ExM X H0 ρ k (.For t iter body [] pos :: rest) D (M.seqN (forF f xs s0 : M (Fl S S Empty)) fk) := ex_flowN (eL := eS) (sx_forM (fun r => nomatch r) hp hc hi hg hok h0 hb hs) tt
end
theorem xm_whileN {eS : S → Env'} {s0 : S} {cm : S → M Bool} {f : S → M (Fl S S Empty)} {fk : S → M γ} {fuel : Nat} (hp : PassesOwn (model X.prog X.w) X.A X.env X.xe) (h0 : ρ = eS s0) (hc : ∀ s, EtM X H0 (eS s) c (cm s)) (hb : ∀ s, ExM X H0 (eS s) k body (Fl.D eS eS (fun (r : Empty) => nomatch r)) (f s)) (tt : ∀ s, ExM X H0 (eS s) k rest D (fk s)) :
    ExM X H0 ρ k (.While c body [] pos :: rest) D (M.seqN (whileF cm f fuel s0 : M (Fl S S Empty)) fk) := ex_flowN (eL := eS) (sx_whileM (fun r => nomatch r) hp h0 hc hb) tt
theorem xm_par2 {ea : α → Dat} {eb : β → Dat} {v : α} {u : β} {f : α × β → M γ} (i j : Nat) {y z : Str} {px py pt : Pos} {kt k2 pt2} (ha : Ev X H0 ρ a (ea v)) (hb : Ev X H0 ρ b (eb u)) (nd : X.N.Nodup) (hc : X.calm = true) (hij : i ≠ j) (tt : ∀ q : α × β, ExM X H0 ((ρ.set i (.im (ea q.1))).set j (.im (eb q.2))) k rest D (f q)) (hi : X.N[i]? = some y := by rfl) (hj : X.N[j]? = some z := by rfl)
    (hx : X.env.scope.names.lookup y = some .local := by rfl) (hy : X.env.scope.names.lookup z = some .local := by rfl) (hw : swappedStores [.Tuple [.Name y px, .Name z py] kt pt] (.Tuple [a, b] k2 pt2) X.env = pure (some [y, z]) := by rfl)
    (hs : swapsWithSole [.Tuple [.Name y px, .Name z py] kt pt] (.Tuple [a, b] k2 pt2) pos.line X.env = pure false := by rfl) (h1 : starEach [a, b] X.env = (false, eval a X.env) :: starEach [b] X.env := by rfl) (h2 : starEach [b] X.env = (false, eval b X.env) :: starEach [] X.env := by rfl) :
    ExM X H0 ρ k (.Assign [.Tuple [.Name y px, .Name z py] kt pt] (.Tuple [a, b] k2 pt2) pos :: rest) D (M.lt (v, u) f) := xm_then (sx_par i j ha hb nd hc hij rfl hi hj hx hy hw hs h1 h2) (tt (v, u))
/-! ### further expressions -/
theorem ev_joinCm {l cs : List Nat} {apos : Pos} (ha : Ev X H0 ρ a (tx l)) (hb : EvB X H0 ρ b (lstd chd cs)) (hz : joinOkC l cs = true)
    (hs : starEach [b] X.env = [(false, eval b X.env)] := by rfl) (hbase : attributeBase a "join" X.env (eval a X.env) = eval a X.env := by rfl) (hline : (apos.endLine == pos.line) = true := by rfl) :
    Ev X H0 ρ (.Call (.Attribute a "join" apos) [b] [] pos) (tx (joinC l cs)) := ev_joinX ha (eb_to hb (by show Dat.lst (cs.map chd) = .lst ((cs.map fun c => [c]).map tx); rw [List.map_map]; rfl)) (joinOk_ok hz) hs hbase hline
/-- list + list, both new -/
theorem eo_catLm {l m : List α} (ha : EvO X H0 ρ a (lstd en l)) (hb : EvO X H0 ρ b (lstd en m)) (h : catOk l m = true) : EvO X H0 ρ (.BinOp a .Add b pos) (lstd en (l ++ m)) := fun σ H N rp =>
  we_of (pe_op op_cat pe_w pe_w) ((ha σ H N rp).imp fun v H1 ⟨N1, p1, e1, hp1, s1, n1, r1, np1, vs, g1, h2⟩ => (hb σ H1 N1 r1).imp fun w H2 ⟨N2, p2, e2, hp2, s2, n2, r2, np2, ws, g2, h4⟩ => by
    have hz := catOk_ok h
    refine ⟨p1, p2, vs, ws, e1, e2, s2 _ _ g1, g2, by rw [h2.length, h4.length, List.length_map, List.length_map]; exact hz, fun q hq => ?_⟩
    obtain ⟨r5, n5⟩ := eo_new (o := .lst (vs ++ ws)) r2 hq
    refine ⟨N2, q, rfl, (s1.trans s2).free hq, (s1.trans s2).trans (Same.of_none hq), n1.trans n2, r5, n5, vs ++ ws, upd_same, ?_⟩
    rw [List.map_append]
    exact (h2.mono n2).append h4)
/-- x += y of texts -/
theorem xm_augS {v u : List Nat} {f : List Nat → M γ} (i : Nat) {y : Str} {pos' : Pos} (hi : ρ[i]? = some (.im (tx v))) (h : Ev X H0 ρ e (tx u)) (hz : v.length + u.length ≤ sizeLine) (nd : X.N.Nodup) (tt : ∀ x, ExM X H0 (ρ.set i (.im (tx x))) k rest D (f x)) (hN : X.N[i]? = some y := by rfl) (hx : Loc X.env.scope y := by first | exact Or.inl rfl | exact Or.inr rfl)
    (hp : ∀ te, PE X e te → PS X (.AugAssign (.Name y pos') .Add e pos) (tAug i te (fun x y H Q => ∃ i j, x = .str i ∧ y = .str j ∧ i.length + j.length ≤ sizeLine ∧ Q (.str (i ++ j)) H)) := by exact fun te h => ps_aug (by assumption) rfl (by first | exact Or.inl rfl | exact Or.inr rfl) h iop_add_str) :
    ExM X H0 ρ k (.AugAssign (.Name y pos') .Add e pos :: rest) D (M.lt (v ++ u) f) := by
  refine xm_then (ρ1 := ρ.set i (.im (tx (v ++ u)))) (fun Dd σ H N r kk => ?_) (tt (v ++ u))
  obtain ⟨w, h1, h2⟩ := r.im i _ hi
  refine ws_of (hp _ pe_w) ⟨w, h1, (h σ H N r).imp fun w2 H' ⟨N', s, n, r', a⟩ => ⟨_, _, at_str h2, at_str a, by rw [SX.S_len, SX.S_len]; exact hz, kk _ H' N' n ?_⟩⟩
  rw [SX.S_cat]
  exact r'.setE (e := .im (tx _)) (.str _)
end
theorem FnOk_sub {P : Program} {w : World} {K : PySem.W.Frag} {mg : Str → Option Value} {base : Heap} {k : Nat} {f : Addr} {fd : FuncData} {ps : List Str} {R R' : List Dat → Res → Prop} (h : ∀ ds o, R' ds o → R ds o) (F : FnOk P w K mg base (L2.CX P w) k f fd ps (spR K mg R)) : FnOk P w K mg base (L2.CX P w) k f fd ps (spR K mg R') := F.imp fun vs H Q E ⟨ds, o, q, r⟩ => ⟨ds, o, h ds o q, r⟩
end B

namespace B
open PySem PySem.Spec PyProof.Rows L2
/-! ### plain words on mirrors -/
theorem mulOk_i {i j : Int} (m n : Nat) (h1 : i.natAbs < 2 ^ m) (h2 : j.natAbs < 2 ^ n) (h0 : 0 < m) (h0' : 0 < n) (h : m + n ≤ 1000000) : mulOk i j = true := by unfold mulOk; exact cl_i (mul_ok m n h1 h2 h0 h0' h)
theorem mulOk_l {i j : Int} (h1 : -(2 ^ 64) < i) (h2 : i < 2 ^ 64) : mulOk i j = true := by unfold mulOk; exact cl_i (mul_l h1 h2)
theorem mulOk_r {i j : Int} (h1 : -(2 ^ 64) < j) (h2 : j < 2 ^ 64) : mulOk i j = true := by unfold mulOk; exact cl_i (mul_r h1 h2)
theorem mulOk_x {i j : Int} (h : (Builtin.Int.intBits i : Int) + (Builtin.Int.intBits j : Int) ≤ 134217728) : mulOk i j = true := by unfold mulOk; exact cl_i (CMulX.ok h)
theorem divOk_i {j : Int} (h1 : 0 < j) (h2 : j.natAbs.log2 < 9000) : divOk j = true := by unfold divOk; exact cl_i ⟨h1, h2⟩
theorem fdivOk_i {j : Int} (h1 : j ≠ 0) (h2 : j.natAbs.log2 < 9000) : fdivOk j = true := by unfold fdivOk; exact cl_i ⟨h1, h2⟩
theorem shlOk_i {i j : Int} (h0 : 0 ≤ j) (h : (Builtin.Int.intBits i : Int) + j ≤ 2 ^ 27) : shlOk i j = true := by unfold shlOk; exact cl_i ⟨h0, h⟩
theorem powOk_i {i j : Int} (h : CPow i j) : powOk i j = true := by unfold powOk; exact cl_i h
theorem lenOk_i {α : Type} {l : List α} (h : l.length ≤ 16777216) : lenOk l = true := by unfold lenOk; exact cl_i h
theorem lenLt_i {α : Type} {l : List α} (h : l.length < 16777216) : lenLt l = true := by unfold lenLt; exact cl_i h
theorem catOk_i {α : Type} {l m : List α} (h : l.length + m.length ≤ 16777216) : catOk l m = true := by unfold catOk; exact cl_i h
theorem rngOk_i {i j : Int} (h1 : -(2 ^ 62) ≤ i) (h2 : i < 2 ^ 62) (h3 : -(2 ^ 62) ≤ j) (h4 : j < 2 ^ 62) : rngOk i j = true := by unfold rngOk; exact cl_i ⟨h1, h2, h3, h4⟩
theorem repOk_i {α : Type} {l : List α} {n : Int} (h1 : -100000 ≤ n) (h2 : n ≤ 100000) (h3 : l.length ≤ 100) : repOk l n = true := by unfold repOk; exact cl_i ⟨h1, h2, h3⟩
theorem log2_9000 {j : Nat} {m : Nat} (h : j < 2 ^ m) (hm : m ≤ 9000) : j.log2 < 9000 := by
  by_cases h0 : j = 0
  · rw [h0]; decide
  · have h1 : 2 ^ j.log2 ≤ j := Nat.log2_self_le h0
    have h2 : 2 ^ j.log2 < 2 ^ m := by omega
    have h4 := (Nat.pow_lt_pow_iff_right (by decide)).mp h2
    omega
section
variable {α β S S' L R : Type}
theorem forM_ix {f : α → S → M S} : ∀ {xs : List α} (st : Nat → S), (∀ i (h : i < xs.length), f xs[i] (st i) = .ok (st (i + 1))) → forM f xs (st 0) = .ok (st xs.length)
  | [], st, _ => rfl
  | x :: xs, st, h => by
    show (f x (st 0)).bind _ = _
    rw [show f x (st 0) = .ok (st 1) from h 0 (Nat.succ_pos _)]
    exact forM_ix (fun i => st (i + 1)) fun i hi => h (i + 1) (Nat.succ_lt_succ hi)
theorem forM_fold {f : α → S → M S} {g : S → α → S} {I : S → Prop} : ∀ {xs : List α} {s : S}, I s → (∀ x ∈ xs, ∀ s, I s → f x s = .ok (g s x) ∧ I (g s x)) → forM f xs s = .ok (xs.foldl g s) ∧ I (xs.foldl g s)
  | [], s, h, _ => ⟨rfl, h⟩
  | x :: xs, s, h, k => by
    obtain ⟨h1, h2⟩ := k x List.mem_cons_self s h
    show (f x s).bind _ = _ ∧ _
    rw [h1]
    exact forM_fold h2 fun y hy => k y (List.mem_cons_of_mem _ hy)
theorem rng_len (lo c : Int) (n : Nat) : (rng lo c n).length = n := by unfold rng; simp
theorem rng_get (lo c : Int) (n i : Nat) (h : i < (rng lo c n).length) : (rng lo c n)[i] = lo + (i : Int) * c := by simp only [rng, List.getElem_map, List.getElem_range]
theorem rng_mem {lo c : Int} {n : Nat} {x : Int} (h : x ∈ rng lo c n) : ∃ i : Nat, i < n ∧ x = lo + (i : Int) * c := by
  unfold rng at h
  obtain ⟨i, h1, rfl⟩ := List.mem_map.mp h
  exact ⟨i, List.mem_range.mp h1, rfl⟩
theorem forM_rng {f : Int → S → M S} {n : Nat} (st : Nat → S) (h : ∀ i : Nat, i < n → f (i : Int) (st i) = .ok (st (i + 1))) : forM f (rng 0 1 n) (st 0) = .ok (st n) := by
  have := forM_ix (f := f) (xs := rng 0 1 n) st fun i hi => by
    rw [rng_get, show (0 + (i : Int) * 1) = (i : Int) by omega]
    exact h i (by rwa [rng_len] at hi)
  rwa [rng_len] at this
theorem forM_rngS {f : Int → S → M S} {n : Nat} {s0 : S} (st : Nat → S) (h0 : st 0 = s0) (h : ∀ i : Nat, i < n → f (i : Int) (st i) = .ok (st (i + 1))) : forM f (rng 0 1 n) s0 = .ok (st n) := h0 ▸ forM_rng st h
theorem bind_rng {β : Type} {f : Int → S → M S} {n : Nat} {s0 : S} {k : S → M β} {r : M β} (st : Nat → S) (h0 : st 0 = s0) (h : ∀ i : Nat, i < n → f (i : Int) (st i) = .ok (st (i + 1))) (hk : k (st n) = r) : M.bind (forM f (rng 0 1 n) s0) k = r := by rw [forM_rngS st h0 h]; exact hk
theorem forF_ix {f : α → S → M (Fl S S R)} : ∀ {xs : List α} (st : Nat → S), (∀ i (h : i < xs.length), f xs[i] (st i) = .ok (.nx (st (i + 1))) ∨ f xs[i] (st i) = .ok (.ct (st (i + 1)))) → (forF f xs (st 0) : M (Fl S L R)) = .ok (.nx (st xs.length))
  | [], st, _ => rfl
  | x :: xs, st, h => by
    unfold forF
    rcases h 0 (Nat.succ_pos _) with h0 | h0
    · rw [show f x (st 0) = .ok (.nx (st 1)) from h0]
      exact forF_ix (fun i => st (i + 1)) fun i hi => h (i + 1) (Nat.succ_lt_succ hi)
    · rw [show f x (st 0) = .ok (.ct (st 1)) from h0]
      exact forF_ix (fun i => st (i + 1)) fun i hi => h (i + 1) (Nat.succ_lt_succ hi)
theorem forF_rng {f : Int → S → M (Fl S S R)} {n : Nat} (st : Nat → S) (h : ∀ i : Nat, i < n → f (i : Int) (st i) = .ok (.nx (st (i + 1))) ∨ f (i : Int) (st i) = .ok (.ct (st (i + 1)))) : (forF f (rng 0 1 n) (st 0) : M (Fl S L R)) = .ok (.nx (st n)) := by
  have := forF_ix (L := L) (f := f) (xs := rng 0 1 n) st fun i hi => by
    rw [rng_get, show (0 + (i : Int) * 1) = (i : Int) by omega]
    exact h i (by rwa [rng_len] at hi)
  rwa [rng_len] at this
theorem forF_rngS {f : Int → S → M (Fl S S R)} {n : Nat} {s0 : S} (st : Nat → S) (h0 : st 0 = s0) (h : ∀ i : Nat, i < n → f (i : Int) (st i) = .ok (.nx (st (i + 1))) ∨ f (i : Int) (st i) = .ok (.ct (st (i + 1)))) : (forF f (rng 0 1 n) s0 : M (Fl S L R)) = .ok (.nx (st n)) := h0 ▸ forF_rng st h
/-- each turn goes on, some state that keeps I -/
theorem forF_inv {f : α → S → M (Fl S S R)} {I : S → Prop} : ∀ {xs : List α} {s : S}, I s → (∀ x ∈ xs, ∀ s, I s → ∃ s', (f x s = .ok (.nx s') ∨ f x s = .ok (.ct s')) ∧ I s') → ∃ s', (forF f xs s : M (Fl S L R)) = .ok (.nx s') ∧ I s'
  | [], s, h, _ => ⟨s, rfl, h⟩
  | x :: xs, s, h, k => by
    obtain ⟨s1, h1, h2⟩ := k x List.mem_cons_self s h
    obtain ⟨s2, h3, h4⟩ := forF_inv (xs := xs) h2 fun y hy => k y (List.mem_cons_of_mem _ hy)
    refine ⟨s2, ?_, h4⟩
    unfold forF
    rcases h1 with h1 | h1 <;> rw [h1] <;> exact h3
theorem forM_inv {f : α → S → M S} {I : S → Prop} : ∀ {xs : List α} {s : S}, I s → (∀ x ∈ xs, ∀ s, I s → ∃ s', f x s = .ok s' ∧ I s') → ∃ s', forM f xs s = .ok s' ∧ I s'
  | [], s, h, _ => ⟨s, rfl, h⟩
  | x :: xs, s, h, k => by
    obtain ⟨s1, h1, h2⟩ := k x List.mem_cons_self s h
    obtain ⟨s2, h3, h4⟩ := forM_inv (xs := xs) h2 fun y hy => k y (List.mem_cons_of_mem _ hy)
    refine ⟨s2, ?_, h4⟩
    show (f x s).bind _ = _
    rw [h1]
    exact h3
theorem forM_invN {f : α → S → M S} : ∀ {xs : List α} {s : S} (I : Nat → S → Prop), I 0 s → (∀ (i : Nat) (x : α), xs[i]? = some x → ∀ s, I i s → ∃ s', f x s = .ok s' ∧ I (i + 1) s') → ∃ s', forM f xs s = .ok s' ∧ I xs.length s'
  | [], s, I, h, _ => ⟨s, rfl, h⟩
  | x :: xs, s, I, h, k => by
    obtain ⟨s1, h1, h2⟩ := k 0 x rfl s h
    obtain ⟨s2, h3, h4⟩ := forM_invN (xs := xs) (fun i => I (i + 1)) h2 fun i y hy => k (i + 1) y hy
    refine ⟨s2, ?_, h4⟩
    show (f x s).bind _ = _
    rw [h1]
    exact h3
theorem forF_invN {f : α → S → M (Fl S S R)} : ∀ {xs : List α} {s : S} (I : Nat → S → Prop), I 0 s → (∀ (i : Nat) (x : α), xs[i]? = some x → ∀ s, I i s → ∃ s', (f x s = .ok (.nx s') ∨ f x s = .ok (.ct s')) ∧ I (i + 1) s') → ∃ s', (forF f xs s : M (Fl S L R)) = .ok (.nx s') ∧ I xs.length s'
  | [], s, I, h, _ => ⟨s, rfl, h⟩
  | x :: xs, s, I, h, k => by
    obtain ⟨s1, h1, h2⟩ := k 0 x rfl s h
    obtain ⟨s2, h3, h4⟩ := forF_invN (xs := xs) (fun i => I (i + 1)) h2 fun i y hy => k (i + 1) y hy
    refine ⟨s2, ?_, h4⟩
    unfold forF
    rcases h1 with h1 | h1 <;> rw [h1] <;> exact h3
section
variable {Q : M β → Prop} {xs : List α} {s0 : S}
/-- loops in a goal: an invariant by the number of turns -/
theorem bind_forN {f : α → S → M S} {k : S → M β} (I : Nat → S → Prop) (h0 : I 0 s0) (h : ∀ (i : Nat) (x : α), xs[i]? = some x → ∀ s, I i s → ∃ s', f x s = .ok s' ∧ I (i + 1) s') (hk : ∀ s, I xs.length s → Q (k s)) : Q (M.bind (forM f xs s0) k) := by
  obtain ⟨s', h1, h2⟩ := forM_invN I h0 h
  rw [h1]
  exact hk s' h2
/-- .. by the state alone -/
theorem bind_forI {f : α → S → M S} {k : S → M β} (I : S → Prop) (h0 : I s0) (h : ∀ x ∈ xs, ∀ s, I s → ∃ s', f x s = .ok s' ∧ I s') (hk : ∀ s, I s → Q (k s)) : Q (M.bind (forM f xs s0) k) := by
  obtain ⟨s', h1, h2⟩ := forM_inv (I := I) h0 h
  rw [h1]
  exact hk s' h2
/-- .. as a fold -/
theorem bind_forG {f : α → S → M S} {k : S → M β} (g : S → α → S) (I : S → Prop) (h0 : I s0) (h : ∀ x ∈ xs, ∀ s, I s → f x s = .ok (g s x) ∧ I (g s x)) (hk : I (xs.foldl g s0) → Q (k (xs.foldl g s0))) : Q (M.bind (forM f xs s0) k) := by
  obtain ⟨h1, h2⟩ := forM_fold (I := I) h0 h
  rw [h1]
  exact hk h2
theorem seqT_forN {Q : M R → Prop} {f : α → S → M (Fl S S R)} {k : S → M R} (I : Nat → S → Prop) (h0 : I 0 s0) (h : ∀ (i : Nat) (x : α), xs[i]? = some x → ∀ s, I i s → ∃ s', (f x s = .ok (.nx s') ∨ f x s = .ok (.ct s')) ∧ I (i + 1) s') (hk : ∀ s, I xs.length s → Q (k s)) : Q (M.seqT (forF f xs s0 : M (Fl S L R)) k) := by
  obtain ⟨s', h1, h2⟩ := forF_invN (L := L) I h0 h
  rw [h1]
  exact hk s' h2
theorem seqT_forI {Q : M R → Prop} {f : α → S → M (Fl S S R)} {k : S → M R} (I : S → Prop) (h0 : I s0) (h : ∀ x ∈ xs, ∀ s, I s → ∃ s', (f x s = .ok (.nx s') ∨ f x s = .ok (.ct s')) ∧ I s') (hk : ∀ s, I s → Q (k s)) : Q (M.seqT (forF f xs s0 : M (Fl S L R)) k) := by
  obtain ⟨s', h1, h2⟩ := forF_inv (L := L) (I := I) h0 h
  rw [h1]
  exact hk s' h2
theorem seq_forI {L' S' : Type} {Q : M (Fl S' L R) → Prop} {f : α → S → M (Fl S S R)} {k : S → M (Fl S' L R)} (I : S → Prop) (h0 : I s0) (h : ∀ x ∈ xs, ∀ s, I s → ∃ s', (f x s = .ok (.nx s') ∨ f x s = .ok (.ct s')) ∧ I s') (hk : ∀ s, I s → Q (k s)) : Q (M.seq (forF f xs s0 : M (Fl S L R)) k) := by
  obtain ⟨s', h1, h2⟩ := forF_inv (L := L) (I := I) h0 h
  rw [h1]
  exact hk s' h2
end
/-- the first turn that leaves the def -/
theorem forF_rt {f : α → S → M (Fl S S R)} {r : R} : ∀ (pre : List α) {x : α} {suf : List α} (st : Nat → S), (∀ i (h : i < pre.length), f pre[i] (st i) = .ok (.nx (st (i + 1)))) → f x (st pre.length) = .ok (.rt r) → (forF f (pre ++ x :: suf) (st 0) : M (Fl S L R)) = .ok (.rt r)
  | [], x, suf, st, _, h => by
    show (forF f (x :: suf) (st 0) : M (Fl S L R)) = _
    unfold forF
    rw [show f x (st 0) = _ from h]
  | y :: pre, x, suf, st, k, h => by
    show (forF f (y :: (pre ++ x :: suf)) (st 0) : M (Fl S L R)) = _
    unfold forF
    rw [show f y (st 0) = .ok (.nx (st 1)) from k 0 (Nat.succ_pos _)]
    exact forF_rt pre (fun i => st (i + 1)) (fun i hi => k (i + 1) (Nat.succ_lt_succ hi)) h
theorem whileM_le {c : S → M Bool} {f : S → M S} : ∀ {n m : Nat} {s s' : S}, whileM c f n s = .ok s' → n ≤ m → whileM c f m s = .ok s'
  | 0, _, _, _, h, _ => by unfold whileM at h; cases h
  | n + 1, 0, _, _, _, hm => by omega
  | n + 1, m + 1, s, s', h, hm => by
    unfold whileM at h ⊢
    cases ec : c s with
    | ok b =>
      rw [ec] at h
      cases b with
      | false => exact h
      | true =>
        cases ef : f s with
        | ok s1 =>
          simp only [M.bind_ok, ↓reduceIte, ef] at h ⊢
          exact whileM_le h (Nat.le_of_succ_le_succ hm)
        | ex n => simp [ef] at h
        | far => simp [ef] at h
    | ex n => rw [ec] at h; cases h
    | far => rw [ec] at h; cases h
theorem whileM_done {c : S → M Bool} {f : S → M S} {n : Nat} {s : S} (h : c s = .ok false) : whileM c f (n + 1) s = .ok s := by unfold whileM; rw [h]; rfl
theorem whileM_turn {c : S → M Bool} {f : S → M S} {n : Nat} {s s' : S} (h : c s = .ok true) (h2 : f s = .ok s') : whileM c f (n + 1) s = whileM c f n s' := by
  conv => lhs; unfold whileM
  rw [h, M.bind_ok, if_pos rfl, h2, M.bind_ok]
/-- a while by a measure -/
theorem whileM_by {c : S → M Bool} {f : S → M S} {I : S → Prop} (μ : S → Nat) (h : ∀ s, I s → (c s = .ok false) ∨ (c s = .ok true ∧ ∃ s', f s = .ok s' ∧ I s' ∧ μ s' < μ s)) : ∀ (n : Nat) {s : S}, I s → μ s < n → ∃ s', whileM c f n s = .ok s' ∧ I s' ∧ c s' = .ok false
  | 0, _, _, hn => by omega
  | n + 1, s, hI, hn => by
    rcases h s hI with h0 | ⟨h1, s1, h2, h3, h4⟩
    · exact ⟨s, whileM_done h0, hI, h0⟩
    · rw [whileM_turn h1 h2]
      exact whileM_by μ h n h3 (by omega)
variable {Q : M β → Prop} {s0 : S}
theorem bind_while {c : S → M Bool} {f : S → M S} {n : Nat} {k : S → M β} (I : S → Prop) (μ : S → Nat) (h0 : I s0) (hn : μ s0 < n) (h : ∀ s, I s → (c s = .ok false) ∨ (c s = .ok true ∧ ∃ s', f s = .ok s' ∧ I s' ∧ μ s' < μ s)) (hk : ∀ s, I s → c s = .ok false → Q (k s)) : Q (M.bind (whileM c f n s0) k) := by
  obtain ⟨s', h1, h2, h3⟩ := whileM_by (I := I) μ h n h0 hn
  rw [h1]
  exact hk s' h2 h3
theorem compM_map {f : α → M Bool} {g : α → M β} {k : α → β} : ∀ {xs : List α}, (∀ x ∈ xs, f x = .ok true) → (∀ x ∈ xs, g x = .ok (k x)) → compM f g xs = .ok (xs.map k)
  | [], _, _ => rfl
  | x :: xs, h1, h2 => by
    unfold compM
    rw [h1 x List.mem_cons_self, M.bind_ok, if_pos rfl, h2 x List.mem_cons_self, M.bind_ok, compM_map (fun y hy => h1 y (List.mem_cons_of_mem _ hy)) (fun y hy => h2 y (List.mem_cons_of_mem _ hy))]
    rfl
theorem compM_filter {f : α → M Bool} {g : α → M β} {p : α → Bool} {k : α → β} : ∀ {xs : List α}, (∀ x ∈ xs, f x = .ok (p x)) → (∀ x ∈ xs, p x = true → g x = .ok (k x)) → compM f g xs = .ok ((xs.filter p).map k)
  | [], _, _ => rfl
  | x :: xs, h1, h2 => by
    unfold compM
    have ih := compM_filter (f := f) (g := g) (p := p) (k := k) (xs := xs) (fun y hy => h1 y (List.mem_cons_of_mem _ hy)) (fun y hy => h2 y (List.mem_cons_of_mem _ hy))
    rw [h1 x List.mem_cons_self, M.bind_ok]
    cases e : p x with
    | true => rw [if_pos rfl, h2 x List.mem_cons_self e, M.bind_ok, ih, List.filter_cons, if_pos e]; rfl
    | false => rw [if_neg (by decide), ih, List.filter_cons, if_neg (by rw [e]; decide)]
end
/-! ### items -/
theorem atI_n {α : Type} {l : List α} {i : Nat} (h : i < l.length) : atI l (i : Int) = some l[i] := by
  have := atI_nat (xs := l) (j := i) (v := l[i]) (by rw [List.getElem?_eq_getElem h])
  exact this
theorem atI_i {α : Type} {l : List α} {i : Int} (h0 : 0 ≤ i) (h : i.toNat < l.length) : atI l i = some l[i.toNat] := by
  have := atI_n h
  rwa [Int.toNat_of_nonneg h0] at this
theorem atI_neg {α : Type} {l : List α} {k : Nat} (h0 : 0 < k) (h : k ≤ l.length) : atI l (-(k : Int)) = some (l[l.length - k]'(by omega)) := by
  unfold atI ixN
  rw [if_neg (by omega), if_pos (by omega)]
  show l[(-(k : Int) + (l.length : Int)).toNat]? = _
  rw [show (-(k : Int) + (l.length : Int)).toNat = l.length - k by omega, List.getElem?_eq_getElem]
theorem setI_n {α : Type} {l : List α} {i : Nat} {v : α} (h : i < l.length) : setI l (i : Int) v = some (l.set i v) := by
  unfold setI ixN
  rw [if_pos (by omega), if_pos (by omega), Int.toNat_natCast]
  rfl
theorem cut_map2 {α β : Type} (f : α → β) (l : List α) (lo hi : Option Int) : cut (l.map f) lo hi = (cut l lo hi).map f := cutm f l lo hi
theorem cut_len2 {α : Type} (l : List α) (lo hi : Option Int) : (cut l lo hi).length ≤ l.length := by
  unfold cut
  rw [List.length_take, List.length_drop]; omega
theorem cut_len3 {α : Type} (l : List α) {i j : Nat} : (cut l (some (i : Int)) (some (j : Int))).length ≤ j - i := by
  have := cut_mid (l := l) (i := (i : Int)) (j := (j : Int)) (by omega) (by omega)
  rw [this]
  simp
  omega
theorem cut_mem {α : Type} {l : List α} {lo hi : Option Int} {x : α} (h : x ∈ cut l lo hi) : x ∈ l := List.mem_of_mem_drop (List.mem_of_mem_take h)
end B

namespace B
open PySem PySem.Spec PyProof.Rows L2
/-! ### try: f(..) except C as e: suite -/
def lookM {S : Type} (n : Str) : List (Str × M S) → M S
  | [] => .far
  | p :: r => if n = p.1 then p.2.nox else lookM n r
def tryM {β S : Type} (mb : M β) (s0 : S) (hs : List (Str × M S)) : M S := match mb with
  | .ok _ => .ok s0
  | .ex n => lookM n hs
  | .far => .far
@[simp] theorem tryM_ok {β S : Type} (b : β) (s0 : S) (hs : List (Str × M S)) : tryM (M.ok b) s0 hs = .ok s0 := id rfl
@[simp] theorem tryM_ex {β S : Type} (n : Str) (s0 : S) (hs : List (Str × M S)) : tryM (M.ex n : M β) s0 hs = lookM n hs := id rfl
theorem lookM_here {S : Type} {n : Str} {h : M S} {r : List (Str × M S)} : lookM n ((n, h) :: r) = h.nox := if_pos rfl
theorem lookM_next {S : Type} {n n' : Str} {h : M S} {r : List (Str × M S)} (q : n ≠ n') : lookM n ((n', h) :: r) = lookM n r := if_neg q
def AllH {S : Type} (P : Str → M S → Prop) : List (Str × M S) → Prop
  | [] => True
  | p :: r => P p.1 p.2 ∧ AllH P r
section
variable {X : Cx} {H0 : Hp} {ρ ρ0 ρ1 ρ2 : Env'} {α β γ S S' L R : Type} {a b c e call : Expr} {es : List Expr} {st : Stmt} {sts rest body : List Stmt} {d d1 d2 : Dat} {ds : List Dat} {p pos : Pos} {o o1 : Outc} {x n : Str} {k : Nat} {D : γ → Outc} {m : M α} {en : α → Dat}
theorem xm_try1 {mb : M β} {eb : β → Dat} {s0 : S} {hs : List (Str × M S)} {eS : S → Env'} {f : S → M γ} {c : Value} {suite : List Stmt} {b₀ : Stmt} {np pos pos' pos'' : Pos} (i : Nat) (is : List Nat)
    (hst : X.stack = X.env :: X.outer) (hfr : X.env.frame = some X.env.locals) (nd : X.N.Nodup) (hc : Names X x c)
    (hb : ∀ (pn : List (Addr × Obj)) (xe : Value → Shared → Prop), PassesOwn (model X.prog X.w) X.A X.env xe → EvM (X.tr pn xe) H0 ρ call eb mb)
    (hok : eS s0 = drops ρ is)
    (hh : AllH (fun n h => (∀ C, X.mg n = some (.ref C) → PySem.W.exmOne X.K (.ref C) c = some true) ∧ ∀ (a C : Addr) (oe : Obj) (pn : List (Addr × Obj)), X.mg n = some (.ref C) → Zc (.ref C) none oe → (∃ vs, oe.data = .fields vs) → ExM (X.suite a ((a, oe) :: pn)) H0 (ρ.set i (.rf a)) k (b₀ :: suite) (fun s => .nx (eS s)) h) hs)
    (hno : ∀ s, (eS s).set i .no = eS s) (tt : ∀ s, ExM X H0 (eS s) k rest D (f s)) (hi : X.N[i]? = some n := by rfl) (hln : X.env.kindOf n = some .local := by rfl)
    (hsw : ∀ pn xe, swapsWith call none pos.line (X.tr pn xe).env = pure false := by intro _ _; rfl) :
    ExM X H0 ρ k (.Try [.Expr call pos] [.ExceptHandler (some (.Name x np)) (some n) (b₀ :: suite) pos'] [] [] pos'' :: rest) D (M.bind (tryM mb s0 hs) f) := by
  cases mb with
  | ok r =>
    have h1 : ExS X H0 ρ (.Try [.Expr call pos] [.ExceptHandler (some (.Name x np)) (some n) (b₀ :: suite) pos'] [] [] pos'') (.nx (eS s0)) :=
      sx_tryN (i := i) hst hfr nd hc (fun pn xe hp => ex_then (sx_expr (hb pn xe hp) (hsw pn xe)) (hok ▸ ex_drops is ex_nil)) (ho := trivial) (hi := hi) (hln := hln)
    exact xm_then h1 (tt s0)
  | ex n' =>
    show ExM X H0 ρ k _ D (M.bind (lookM n' hs) f)
    induction hs with
    | nil => trivial
    | cons q r ih =>
      obtain ⟨⟨he, h1⟩, h2⟩ := hh
      unfold lookM
      by_cases e : n' = q.1
      · rw [if_pos e]
        subst e
        cases eh : q.2 with
        | ok s =>
          have h3 : ExS X H0 ρ (.Try [.Expr call pos] [.ExceptHandler (some (.Name x np)) (some n) (b₀ :: suite) pos'] [] [] pos'') (Outc.un i (.nx (eS s))) :=
            sx_try (i := i) (m := q.1) (ρ1 := ρ) hst hfr nd hc he (fun pn xe hp => ex_one (sx_exprX (hb pn xe hp) (hsw pn xe))) (fun a C oe pn hC hz hf => by
              have := h1 a C oe pn hC hz hf
              rw [eh] at this
              exact this) trivial hi hln
          have h4 : Outc.un i (.nx (eS s)) = .nx (eS s) := by
            show Outc.nx ((eS s).set i .no) = _
            rw [hno s]
          rw [h4] at h3
          exact xm_then h3 (tt s)
        | ex _ => trivial
        | far => trivial
      · rw [if_neg e]
        exact ih h2
  | far => trivial
/-! ### an item of an owned list -/
theorem ev_ixLw {l : List α} {i : Int} {r : α} (j : Nat) {y : Str} {p1 : Pos} (hi : ρ[j]? = some (.ow (lstd en l))) (hb : Ev X H0 ρ b (.int i)) (q : atI l i = some r) (hs : PlainIx b := by exact fun _ _ => rfl) (hN : X.N[j]? = some y := by rfl) (hv : Vis X.env.scope y := by first | exact Or.inl rfl | exact Or.inr (Or.inl rfl) | exact Or.inr (Or.inr rfl))
    (hd : (y == ("__debug__" : Str)) = false := by decide) (hcd : (y == ("__classdict__" : Str)) = false := by decide) : Ev X H0 ρ (.Subscript (.Name y p1) b pos) (en r) := fun σ H N rp => by
  obtain ⟨q0, g1, g2, g3, us, g4, g5⟩ := rp.ow j _ hi
  refine we_of (pe_ix ix_list (pv j hN hv hd hcd) pe_w hs) ⟨_, g1, (hb σ H N rp).imp fun w H2 ⟨N2, s2, n2, r2, a2⟩ => ?_⟩
  obtain ⟨v, e1, e2⟩ := atI_ats (g5.mono n2) (atIm en l i q)
  exact ⟨q0, us, i, v, rfl, at_int a2, .inl (.inl (s2 _ _ g4)), e1, N2, s2, n2, r2, e2⟩
/-! ### is of truths -/
theorem ev_isB {u v : Bool} (ha : Ev X H0 ρ a (.bl u)) (hb : Ev X H0 ρ b (.bl v)) : Ev X H0 ρ (.Compare a [.Is] [b] pos) (.bl (decide (u = v))) :=
  ev_bin (fun _ _ h k => pe_cmpR op_isBl h k (nomark _)) ha.toB hb.toB fun x y σ H N Q r p q g => ⟨u, v, at_bl p, at_bl q, goes_self g r (.bl _)⟩
theorem ev_isnotB {u v : Bool} (ha : Ev X H0 ρ a (.bl u)) (hb : Ev X H0 ρ b (.bl v)) : Ev X H0 ρ (.Compare a [.IsNot] [b] pos) (.bl (!decide (u = v))) :=
  ev_bin (fun _ _ h k => pe_cmpR op_notBl h k (nomark _)) ha.toB hb.toB fun x y σ H N Q r p q g => ⟨u, v, at_bl p, at_bl q, goes_self g r (.bl _)⟩
theorem et_isB {u v : Bool} (ha : Ev X H0 ρ a (.bl u)) (hb : Ev X H0 ρ b (.bl v)) : EvT X H0 ρ (.Compare a [.Is] [b] pos) (decide (u = v)) :=
  evt_bin (fun _ _ h k => pt_cmpR op_isBl h k (nomark _)) ha.toB hb.toB fun x y σ H N Q r p q g => ⟨u, v, at_bl p, at_bl q, goes_self g r (.bl _)⟩
theorem et_isnotB {u v : Bool} (ha : Ev X H0 ρ a (.bl u)) (hb : Ev X H0 ρ b (.bl v)) : EvT X H0 ρ (.Compare a [.IsNot] [b] pos) (!decide (u = v)) :=
  evt_bin (fun _ _ h k => pt_cmpR op_notBl h k (nomark _)) ha.toB hb.toB fun x y σ H N Q r p q g => ⟨u, v, at_bl p, at_bl q, goes_self g r (.bl _)⟩
/-! ### list of a text; tuples of lists -/
end
end B

namespace B
open PySem PySem.Spec PyProof.Rows L2
section
variable {α : Type}
/-! ### dicts whose keys are texts -/
def dget (l : List (List Nat × α)) (k : List Nat) : Option α := (l.find? fun p => decide (p.1 = k)).map (·.2)
def dhas (l : List (List Nat × α)) (k : List Nat) : Bool := (dget l k).isSome
def dput (l : List (List Nat × α)) (k : List Nat) (v : α) : List (List Nat × α) := if (l.any fun p => decide (p.1 = k)) = true then l.map (fun p => if p.1 = k then (p.1, v) else p) else l ++ [(k, v)]
abbrev dm (e : α → Dat) (l : List (List Nat × α)) : List (Key × Dat) := l.map fun p => (Sum.inr (SX.S p.1), e p.2)
theorem keq {a b : List Nat} : ((Sum.inr (SX.S a) : Key) = Sum.inr (SX.S b)) ↔ a = b := ⟨fun h => SX.S_inj (Sum.inr.inj h), fun h => by rw [h]⟩
theorem dget_cons {p : List Nat × α} {l : List (List Nat × α)} {k : List Nat} : dget (p :: l) k = if p.1 = k then some p.2 else dget l k := by
  unfold dget
  rw [List.find?_cons]
  by_cases h : p.1 = k <;> simp [h]
theorem atk_get {K : PySem.W.Frag} {H : Hp} {e : α → Dat} : ∀ {l : List (List Nat × α)} {vs : List (Key × V)}, Atk K H vs (dm e l) → ∀ k : List Nat, (∀ v, dget l k = some v → ∃ w, valV vs (Sum.inr (SX.S k) : Key) = some w ∧ At K H w (e v)) ∧ (dget l k = none → valV vs (Sum.inr (SX.S k) : Key) = none)
  | [], vs, h, k => by
    cases h
    exact ⟨fun v q => (by cases q), fun _ => rfl⟩
  | p :: l, vs, h, k => by
    cases h with
    | @cons _ v _ vs _ ha ht =>
      obtain ⟨i1, i2⟩ := atk_get ht k
      rw [dget_cons]
      by_cases e1 : p.1 = k
      · rw [if_pos e1]
        refine ⟨fun v q => ?_, fun q => (by cases q)⟩
        cases q
        exact ⟨_, valV_pos (by exact keq.mpr e1), ha⟩
      · rw [if_neg e1]
        have n1 : ¬ (Sum.inr (SX.S p.1) : Key) = Sum.inr (SX.S k) := fun z => e1 (keq.mp z)
        refine ⟨fun v q => ?_, fun q => ?_⟩
        · rw [valV_neg (by exact n1)]; exact i1 v q
        · rw [valV_neg (by exact n1)]; exact i2 q
theorem atk_any {K : PySem.W.Frag} {H : Hp} {e : α → Dat} : ∀ {l : List (List Nat × α)} {vs : List (Key × V)}, Atk K H vs (dm e l) → ∀ k : List Nat, (vs.any fun kv => decide (kv.1 = (Sum.inr (SX.S k) : Key))) = l.any fun p => decide (p.1 = k)
  | [], vs, h, k => by cases h; rfl
  | p :: l, vs, h, k => by
    cases h with
    | cons ha ht =>
      rw [List.any_cons, List.any_cons, atk_any ht k]
      congr 1
      exact decide_eq_decide.mpr keq
theorem atk_len {K : PySem.W.Frag} {H : Hp} : ∀ {ds : List (Key × Dat)} {vs : List (Key × V)}, Atk K H vs ds → vs.length = ds.length
  | _, _, .nil => rfl
  | _, _, .cons _ t => congrArg (· + 1) (atk_len t)
theorem atk_append {K : PySem.W.Frag} {H : Hp} : ∀ {ds es : List (Key × Dat)} {vs us : List (Key × V)}, Atk K H vs ds → Atk K H us es → Atk K H (vs ++ us) (ds ++ es)
  | _, _, _, _, .nil, h => h
  | _, _, _, _, .cons a t, h => .cons a (atk_append t h)
theorem atk_repl {K : PySem.W.Frag} {H : Hp} {e : α → Dat} {k : List Nat} {w : V} {v : α} (hw : At K H w (e v)) : ∀ {l : List (List Nat × α)} {vs : List (Key × V)}, Atk K H vs (dm e l) → Atk K H (vs.map fun kv => if kv.1 = (Sum.inr (SX.S k) : Key) then (kv.1, w) else kv) (dm e (l.map fun p => if p.1 = k then (p.1, v) else p))
  | [], vs, h => by cases h; exact .nil
  | p :: l, vs, h => by
    cases h with
    | @cons _ u _ vs _ ha ht =>
      have ih := atk_repl (k := k) hw ht
      show Atk K H ((if (Sum.inr (SX.S p.1) : Key) = Sum.inr (SX.S k) then ((Sum.inr (SX.S p.1) : Key), w) else (Sum.inr (SX.S p.1), u)) :: _) ((Sum.inr (SX.S (if p.1 = k then (p.1, v) else p).1), e (if p.1 = k then (p.1, v) else p).2) :: dm e (l.map fun p => if p.1 = k then (p.1, v) else p))
      by_cases e1 : p.1 = k
      · rw [if_pos (keq.mpr e1), if_pos e1]
        exact .cons hw ih
      · rw [if_neg (fun z => e1 (keq.mp z)), if_neg e1]
        exact .cons ha ih
theorem atk_put {K : PySem.W.Frag} {H : Hp} {e : α → Dat} {l : List (List Nat × α)} {vs : List (Key × V)} (h : Atk K H vs (dm e l)) (k : List Nat) {w : V} {v : α} (hw : At K H w (e v)) : Atk K H (putK vs (Sum.inr (SX.S k) : Key) w) (dm e (dput l k v)) := by
  unfold putK dput
  rw [atk_any h k]
  split
  · exact atk_repl hw h
  · rw [dm, List.map_append]
    exact atk_append h (.cons hw .nil)
end
section
variable {X : Cx} {H0 : Hp} {ρ ρ0 ρ1 ρ2 : Env'} {α β γ S S' L R : Type} {a b c e call : Expr} {es : List Expr} {st : Stmt} {sts rest body : List Stmt} {d d1 d2 : Dat} {ds : List Dat} {p pos : Pos} {o o1 : Outc} {x n : Str} {k : Nat} {D : γ → Outc} {m : M α} {en : α → Dat} {l : List (List Nat × α)} {key : List Nat}
theorem at_dic {K : PySem.W.Frag} {H : Hp} {v : V} {ds : List (Key × Dat)} (h : At K H v (.dic ds)) : ∃ p vs, v = .ref p ∧ Rd H p (.dK vs) ∧ Atk K H vs ds := by cases h with | dic a b => exact ⟨_, _, rfl, a, b⟩
theorem rd_mono {H H' : Hp} {p : Addr} {u : HO} (s : Same H H') (h : Rd H p u) : Rd H' p u := rd_same s h
theorem dget_of {K : PySem.W.Frag} {H : Hp} {q : Addr} {vs : List (Key × V)} {y : V} (hr : Rd H q (.dK vs)) (ha : Atk K H vs (dm en l)) (hy : y = .str (SX.S key)) : ∃ o, DGet H q y o ∧ (∀ v, dget l key = some v → ∃ w, o = some w ∧ At K H w (en v)) ∧ (dget l key = none → o = none) := by
  subst hy
  obtain ⟨i1, i2⟩ := atk_get ha key
  exact ⟨_, .inl ⟨vs, Sum.inr (SX.S key), hr, rfl, rfl⟩, i1, i2⟩
theorem eb_dgetm {v : α} (ha : EvB X H0 ρ a (dicd en l)) (hb : Ev X H0 ρ b (tx key)) (h : dget l key = some v) (hu : X.A.units + 1 < cLine) (hs : NoSl b := by exact fun _ _ => rfl) : EvB X H0 ρ (.Subscript a b pos) (en v) := fun σ H N rp =>
  we_of (pe_dget hu pe_w pe_w hs) ((ha σ H N rp).imp fun u H1 ⟨N1, s1, n1, r1, a1⟩ => (hb σ H1 N1 r1).imp fun y H2 ⟨N2, s2, n2, r2, a2⟩ => by
    obtain ⟨q, vs, e1, h1, h2⟩ := at_dic (a1.mono s2)
    obtain ⟨o, g1, g2, _⟩ := dget_of h1 h2 (at_str a2)
    obtain ⟨w, rfl, g3⟩ := g2 v h
    exact ⟨q, w, e1, g1, N2, s1.trans s2, n1.trans n2, r2, g3⟩)
theorem ev_dgetm {v : α} (ha : Ev X H0 ρ a (dicd en l)) (hb : Ev X H0 ρ b (tx key)) (h : dget l key = some v) (hu : X.A.units + 1 < cLine) (hs : NoSl b := by exact fun _ _ => rfl) : Ev X H0 ρ (.Subscript a b pos) (en v) := fun σ H N rp =>
  we_of (pe_dget hu pe_w pe_w hs) ((ha σ H N rp).imp fun u H1 ⟨N1, s1, n1, r1, a1⟩ => (hb σ H1 N1 r1).imp fun y H2 ⟨N2, s2, n2, r2, a2⟩ => by
    obtain ⟨q, vs, e1, h1, h2⟩ := at_dic (a1.mono n2)
    obtain ⟨o, g1, g2, _⟩ := dget_of h1 h2 (at_str a2)
    obtain ⟨w, rfl, g3⟩ := g2 v h
    refine ⟨q, w, e1, ?_, N2, s1.trans s2, n1.trans n2, r2, g3⟩
    rcases g1 with ⟨kvs, k', q1, q2⟩ | ⟨kvs, k', b', q1, q2, q3, q4⟩
    · exact .inl ⟨kvs, k', rd_mono r2.sub q1, q2⟩
    · exact .inr ⟨kvs, k', b', rd_mono r2.sub q1, q2, r2.sub _ _ q3, q4⟩)
section
variable (i : Nat) {y : Str} {p1 : Pos} (hi : ρ[i]? = some (.ow (dicd en l)))
theorem ev_dgetw {v : α} (hb : Ev X H0 ρ b (tx key)) (h : dget l key = some v) (hu : X.A.units + 1 < cLine) (hs : NoSl b := by exact fun _ _ => rfl) (hN : X.N[i]? = some y := by rfl) (hv : Vis X.env.scope y := by first | exact Or.inl rfl | exact Or.inr (Or.inl rfl) | exact Or.inr (Or.inr rfl))
    (hd : (y == ("__debug__" : Str)) = false := by decide) (hcd : (y == ("__classdict__" : Str)) = false := by decide) (hi : ρ[i]? = some (.ow (dicd en l)) := by rfl) : Ev X H0 ρ (.Subscript (.Name y p1) b pos) (en v) := fun σ H N rp => by
  obtain ⟨q, g1, g2, g3, vs, g4, g5⟩ := rp.ow i _ hi
  refine we_of (pe_dget hu (pv i hN hv hd hcd) pe_w hs) ⟨_, g1, (hb σ H N rp).imp fun w H2 ⟨N2, s2, n2, r2, a2⟩ => ?_⟩
  obtain ⟨q', f1, f2, f3, us, f4, f5⟩ := r2.ow i _ hi
  rw [g1] at f1
  cases f1
  have h5 := at_str a2
  subst h5
  obtain ⟨i1, _⟩ := atk_get f5 key
  obtain ⟨z, z1, z2⟩ := i1 v h
  exact ⟨q, z, rfl, .inl ⟨us, Sum.inr (SX.S key), .inl f4, rfl, z1.symm⟩, N2, s2, n2, r2, z2⟩
theorem ev_dget2w {u : α} (hb : Ev X H0 ρ b (tx key)) (hc : Ev X H0 ρ c (en u)) (hu : X.A.units + 1 < cLine) {apos : Pos} (hm : M2 X (.Name y p1) "get" apos b c pos := by exact ⟨rfl, rfl, rfl, rfl⟩) (hN : X.N[i]? = some y := by rfl) (hv : Vis X.env.scope y := by first | exact Or.inl rfl | exact Or.inr (Or.inl rfl) | exact Or.inr (Or.inr rfl))
    (hd : (y == ("__debug__" : Str)) = false := by decide) (hcd : (y == ("__classdict__" : Str)) = false := by decide) (hi : ρ[i]? = some (.ow (dicd en l)) := by rfl) : Ev X H0 ρ (.Call (.Attribute (.Name y p1) "get" apos) [b, c] [] pos) (en ((dget l key).getD u)) := fun σ H N rp => by
  obtain ⟨q, g1, g2, g3, vs, g4, g5⟩ := rp.ow i _ hi
  refine we_of (pe_dget2 hu (pv i hN hv hd hcd) pe_w pe_w hm) ⟨_, g1, q, rfl, .inl ⟨vs, .inl g4⟩, (hb σ H N rp).imp fun w H2 ⟨N2, s2, n2, r2, a2⟩ => (hc σ H2 N2 r2).imp fun z H3 ⟨N3, s3, n3, r3, a3⟩ => ?_⟩
  obtain ⟨q', f1, f2, f3, us, f4, f5⟩ := r3.ow i _ hi
  rw [g1] at f1
  cases f1
  have h5 := at_str a2
  subst h5
  obtain ⟨i1, i2⟩ := atk_get f5 key
  refine ⟨_, .inl ⟨us, Sum.inr (SX.S key), .inl f4, rfl, rfl⟩, N3, s2.trans s3, n2.trans n3, r3, ?_⟩
  cases e : dget l key with
  | none => rw [i2 e]; exact a3
  | some v =>
    obtain ⟨z, z1, z2⟩ := i1 v e
    rw [z1]; exact z2
theorem xm_dput {v : α} {f : List (List Nat × α) → M γ} {p2 : Pos} (he : Ev X H0 ρ e (en v)) (hb : Ev X H0 ρ b (tx key)) (hz : lenLt l = true) (hu : X.A.units + 1 < cLine) (tt : ∀ l, ExM X H0 (ρ.set i (.ow (dicd en l))) k rest D (f l)) (hN : X.N[i]? = some y := by rfl) (hv : Vis X.env.scope y := by first | exact Or.inl rfl | exact Or.inr (Or.inl rfl) | exact Or.inr (Or.inr rfl))
    (hd : (y == ("__debug__" : Str)) = false := by decide) (hcd : (y == ("__classdict__" : Str)) = false := by decide) (hi : ρ[i]? = some (.ow (dicd en l)) := by rfl)
    (hs : swapsWith e (some (.Subscript (.Name y p1) b p2)) pos.line X.env = pure false := by rfl) : ExM X H0 ρ k (.Assign [.Subscript (.Name y p1) b p2] e pos :: rest) D (M.lt (dput l key v) f) := by
  refine xm_then (ρ1 := ρ.set i (.ow (dicd en (dput l key v)))) (fun Dd σ H N r kk => ?_) (tt (dput l key v))
  refine ws_of (ps_dput hu (pv i hN hv hd hcd) pe_w pe_w hs) ((he σ H N r).imp fun w H1 ⟨N1, s1, n1, r1, a1⟩ => ?_)
  obtain ⟨q, g1, g2, g3, vs, g4, g5⟩ := r1.ow i _ hi
  refine ⟨_, g1, (hb σ H1 N1 r1).imp fun z H2 ⟨N2, s2, n2, r2, a2⟩ => ?_⟩
  obtain ⟨q', f1, f2, f3, us, f4, f5⟩ := r2.ow i _ hi
  rw [g1] at f1
  cases f1
  have h5 := at_str a2
  subst h5
  refine ⟨q, _, rfl, .inl ⟨us, Sum.inr (SX.S key), f4, rfl, ?_, rfl⟩, kk σ _ N2 (n1.trans n2) ?_⟩
  · rw [atk_len f5, List.length_map]; exact lenLt_ok hz
  · exact r2.write hi g1 ⟨_, upd_same, atk_put f5 key (a1.mono n2)⟩
end
theorem ev_inKm (hb : Ev X H0 ρ b (tx key)) (ha : EvB X H0 ρ a (dicd en l)) (hu : X.A.units + 1 < cLine) (hm : behindInMarks .In a = false := by rfl) : Ev X H0 ρ (.Compare b [.In] [a] pos) (.bl (dhas l key)) := fun σ H N rp =>
  we_of (pe_cmp (pc_din hu pe_w pe_w) hm) ((hb σ H N rp).imp fun y H1 ⟨N1, s1, n1, r1, a1⟩ => (ha σ H1 N1 r1).imp fun u H2 ⟨N2, s2, n2, r2, a2⟩ => by
    obtain ⟨q, vs, e1, h1, h2⟩ := at_dic a2
    obtain ⟨o, g1, g2, g3⟩ := dget_of h1 h2 (at_str a1)
    refine ⟨q, o, e1, g1, N2, s1.trans s2, n1.trans n2, r2, ?_⟩
    have : o.isSome = dhas l key := by
      unfold dhas
      cases e : dget l key with
      | none => rw [g3 e]; rfl
      | some v => obtain ⟨w, rfl, _⟩ := g2 v e; rfl
    rw [this]
    exact .bl _)
theorem ev_ninKm (hb : Ev X H0 ρ b (tx key)) (ha : EvB X H0 ρ a (dicd en l)) (hu : X.A.units + 1 < cLine) (hm : behindInMarks .NotIn a = false := by rfl) : Ev X H0 ρ (.Compare b [.NotIn] [a] pos) (.bl (!dhas l key)) := fun σ H N rp =>
  we_of (pe_cmp (pc_dnotin hu pe_w pe_w) hm) ((hb σ H N rp).imp fun y H1 ⟨N1, s1, n1, r1, a1⟩ => (ha σ H1 N1 r1).imp fun u H2 ⟨N2, s2, n2, r2, a2⟩ => by
    obtain ⟨q, vs, e1, h1, h2⟩ := at_dic a2
    obtain ⟨o, g1, g2, g3⟩ := dget_of h1 h2 (at_str a1)
    refine ⟨q, o, e1, g1, N2, s1.trans s2, n1.trans n2, r2, ?_⟩
    have : o.isSome = dhas l key := by
      unfold dhas
      cases e : dget l key with
      | none => rw [g3 e]; rfl
      | some v => obtain ⟨w, rfl, _⟩ := g2 v e; rfl
    rw [this]
    exact .bl _)
theorem et_inKm (hb : Ev X H0 ρ b (tx key)) (ha : EvB X H0 ρ a (dicd en l)) (hu : X.A.units + 1 < cLine) (hm : behindInMarks .In a = false := by rfl) : EvT X H0 ρ (.Compare b [.In] [a] pos) (dhas l key) := fun σ H N rp =>
  wt_of (pt_cmp (pc_din hu pe_w pe_w) hm) ((hb σ H N rp).imp fun y H1 ⟨N1, s1, n1, r1, a1⟩ => (ha σ H1 N1 r1).imp fun u H2 ⟨N2, s2, n2, r2, a2⟩ => by
    obtain ⟨q, vs, e1, h1, h2⟩ := at_dic a2
    obtain ⟨o, g1, g2, g3⟩ := dget_of h1 h2 (at_str a1)
    have : o.isSome = dhas l key := by
      unfold dhas
      cases e : dget l key with
      | none => rw [g3 e]; rfl
      | some v => obtain ⟨w, rfl, _⟩ := g2 v e; rfl
    exact ⟨q, o, e1, g1, _, rfl, by rw [this], N2, s1.trans s2, n1.trans n2, r2⟩)
theorem et_ninKm (hb : Ev X H0 ρ b (tx key)) (ha : EvB X H0 ρ a (dicd en l)) (hu : X.A.units + 1 < cLine) (hm : behindInMarks .NotIn a = false := by rfl) : EvT X H0 ρ (.Compare b [.NotIn] [a] pos) (!dhas l key) := fun σ H N rp =>
  wt_of (pt_cmp (pc_dnotin hu pe_w pe_w) hm) ((hb σ H N rp).imp fun y H1 ⟨N1, s1, n1, r1, a1⟩ => (ha σ H1 N1 r1).imp fun u H2 ⟨N2, s2, n2, r2, a2⟩ => by
    obtain ⟨q, vs, e1, h1, h2⟩ := at_dic a2
    obtain ⟨o, g1, g2, g3⟩ := dget_of h1 h2 (at_str a1)
    have : o.isSome = dhas l key := by
      unfold dhas
      cases e : dget l key with
      | none => rw [g3 e]; rfl
      | some v => obtain ⟨w, rfl, _⟩ := g2 v e; rfl
    exact ⟨q, o, e1, g1, _, rfl, by rw [this], N2, s1.trans s2, n1.trans n2, r2⟩)
/-- list(d): the keys -/
theorem atk_keys {K : PySem.W.Frag} {H N : Hp} : ∀ {l : List (List Nat × α)} {vs : List (Key × V)}, Atk K H vs (dm en l) → Ats K N (vs.map fun kv => kV kv.1) ((l.map (·.1)).map tx)
  | [], _, h => by cases h; exact .nil
  | p :: l, _, h => by
    cases h with
    | cons a t => exact .cons (.str _) (atk_keys t)
theorem eo_listDm (ha : EvB X H0 ρ a (dicd en l)) (hc : X.calm = true) (hm : X.mg "list" = none) (hg : Gl X "list" := by rfl) (he : starEach [a] X.env = (false, eval a X.env) :: starEach [] X.env := by rfl) (hpl : (backTo pos (starEach [] X.env)).any (·.1) = false := by rfl) :
    EvO X H0 ρ (.Call (.Name "list" p) [a] [] pos) (lstd tx (l.map (·.1))) := fun σ H N rp =>
  we_of (pe_callTy (call_listD hc) hg hm (by decide +kernel) pa_w (by decide) (by decide) he hpl) ((eab1 ha he σ H N rp).imp fun vs H1 ⟨N1, s1, n1, r1, a1⟩ => by
    obtain ⟨v, e1, e2⟩ := ats_one a1
    obtain ⟨q, us, e3, h1, h2⟩ := at_dic e2
    refine ⟨q, us, by rw [e1, e3], h1, fun q2 hq => ?_⟩
    obtain ⟨r3, n3⟩ := eo_new (o := .lst (us.map fun kv => kV kv.1)) r1 hq
    exact ⟨N1, q2, rfl, s1.free hq, s1.trans (Same.of_none hq), n1, r3, n3, _, upd_same, atk_keys h2⟩)
/-- list(text) -/
theorem call_listS (hc : X.calm = true) : CallR X (.type "list") (fun xs H Q => ∃ l : List Nat, xs = [.str (SX.S l)] ∧ l.length ≤ sizeLine ∧ ∀ q, H q = none → Q (.ref q) (upd H q (.lst (l.map fun c => .str (SX.S [c]))))) := by
  intro pins s σ H xs us Q I r h
  obtain ⟨l, e, hz, q⟩ := h
  subst e
  obtain ⟨u, eu, rx⟩ := vals1 r
  subst eu
  obtain ⟨t, rfl⟩ := (show ∃ t, u = Value.str (SX.S l) t from rx)
  refine call_list_str (I.ok.hd hc) (SX.S l) t (fun h' tk acc' c' hkeep hS hacc => ?_) (by simpa using hz)
  have hsz : acc'.toList.length = l.length := by
    have := hacc.1
    simpa using this
  refine ⟨.ref s.heap.objs.size, upd H s.heap.objs.size (.lst (l.map fun c => .str (SX.S [c]))), I.laid hkeep (Nat.le_refl _) (show ObjOk X.prog X.w _ _ _ (.lst (l.map fun c => V.str (SX.S [c]))) from ⟨by rw [List.length_map]; exact hz, acc'.toList, c', ?_, ?_⟩), rfl, q _ (I.hok.fresh (Nat.le_refl _))⟩
  · refine vals_of_at (by rw [List.length_map, hsz]) fun j x w h1 h2 => ?_
    obtain ⟨c, t', g1, g2⟩ := hacc.2 j w (by rw [← Array.getElem?_toList]; exact h2)
    rw [List.getElem?_map] at h1
    have g3 : l[j]? = some c := by simpa using g1
    rw [g3] at h1
    cases h1
    exact ⟨t', g2⟩
  · rw [Array.toArray_toList]; exact hS
theorem ats_chd {K : PySem.W.Frag} {N : Hp} : ∀ l : List Nat, Ats K N (l.map fun c => V.str (SX.S [c])) (l.map chd)
  | [] => .nil
  | c :: l => .cons (.str _) (ats_chd l)
theorem eo_listSm {l : List Nat} (ha : Ev X H0 ρ a (tx l)) (hz : lenOk l = true) (hc : X.calm = true) (hm : X.mg "list" = none) (hg : Gl X "list" := by rfl) (he : starEach [a] X.env = (false, eval a X.env) :: starEach [] X.env := by rfl) (hpl : (backTo pos (starEach [] X.env)).any (·.1) = false := by rfl) :
    EvO X H0 ρ (.Call (.Name "list" p) [a] [] pos) (lstd chd l) := fun σ H N rp =>
  we_of (pe_callTy (call_listS hc) hg hm (by decide +kernel) pa_w (by decide) (by decide) he hpl) ((eab1 ha.toB he σ H N rp).imp fun vs H1 ⟨N1, s1, n1, r1, a1⟩ => by
    obtain ⟨v, e1, e2⟩ := ats_one a1
    refine ⟨l, by rw [e1, at_str e2], lenOk_ok hz, fun q2 hq => ?_⟩
    obtain ⟨r3, n3⟩ := eo_new (o := .lst (l.map fun c => .str (SX.S [c]))) r1 hq
    refine ⟨N1, q2, rfl, s1.free hq, s1.trans (Same.of_none hq), n1, r3, n3, _, upd_same, ?_⟩
    exact ats_chd l)
/-- tuple(list) -/
theorem ev_tupleLm {l : List α} (f : ∀ a, flat (en a) = true) (ha : EvB X H0 ρ a (lstd en l)) (hm : X.mg "tuple" = none) (hg : Gl X "tuple" := by rfl) (na : starEach [a] X.env = (false, eval a X.env) :: starEach [] X.env := by rfl) : Ev X H0 ρ (.Call (.Name "tuple" p) [a] [] pos) (tpnd en l) := fun σ H N rp =>
  we_of (pe_tupleOf hg hm pe_w na) ((ha σ H N rp).imp fun v H1 ⟨N1, s1, n1, r1, a1⟩ => by
    obtain ⟨q, us, e3, h1, h2⟩ := at_lst a1
    obtain ⟨N2, n2, r2, kp⟩ := r1.keep
    refine .inl ⟨q, us, e3, h1, fun q2 hq => ?_⟩
    obtain ⟨r3, n3⟩ := r2.new (o := .tup us) hq
    exact ⟨_, s1.trans (Same.of_none hq), (n1.trans n2).trans n3, r3, .tup (.inl (.inl upd_same)) ((h2.imm (flats_map f l)).mono (kp.trans n3))⟩)
end
end B

namespace B
open PySem PySem.Spec PyProof.Rows L2
/-! ### sum of a tuple of ints -/
section
variable {prog : Program} {w : World} {A : Around} {E : Value → Shared → Prop} {s : Shared} {l : Addr} {xs : Array (Int × Tok)} {its : List Value} {ns : List Int}
theorem sum_intTupG {Q : Value → Shared → Prop} (hh : A.handled = none) (hl : s.heap.IsTuple l (intItems xs))
    (h : ∀ h' tk t', (∀ b o, s.heap.get? b = some o → h'.get? b = some o) → Q (.int (preSum (numAt xs) xs.size) t') { s with heap := h', toks := tk }) :
    wpAny (model prog w) A (call (.builtin "sum") [.ref l]) Q E s := by
  have hlt : l < s.heap.objs.size := by obtain ⟨_, e, _⟩ := id hl; exact Heap.lt_size e
  refine call_sum_walkG (wpAny_pyIter_tuple hl ?_)
  refine ⟨_, [_, l], [_], _, _, _, numAt xs, rfl, Walks.tuple (A := A.in1) hh _ l (Nat.ne_of_lt hlt) (intItems xs), ⟨⟨_, Heap.get?_push_size _ rfl, rfl, rfl⟩, hl.push _⟩, fun b hb => ?_, (fun _ _ => intItems_at), fun h' tk t' hk => ?_⟩
  · show b < (s.heap.push _).objs.size
    rw [Heap.size_push]
    rcases List.mem_cons.mp hb with rfl | hb
    · exact Nat.lt_succ_self _
    · rcases List.mem_cons.mp hb with rfl | hb
      · exact Nat.lt_succ_of_lt hlt
      · cases hb
  · have := h h' tk t' (fun b o e => hk b o (by simp; exact Nat.ne_of_lt (Heap.lt_size e)) (Heap.get?_push_of_some _ e))
    simpa [intItems] using this
theorem sum_rawT {Q : Value → Shared → Prop} (hh : A.handled = none) (hl : s.heap.IsTuple l its.toArray) (hi : IntsAre its ns)
    (h : ∀ h' tk t', (∀ b o, s.heap.get? b = some o → h'.get? b = some o) → Q (.int ns.sum t') { s with heap := h', toks := tk }) : wpAny (model prog w) A (call (.builtin "sum") [.ref l]) Q E s := by
  obtain ⟨xs, e⟩ := hi.allInts.items
  have hn : numsOf (intItems xs).toList = ns := by rw [← e]; exact hi.numsOf
  rw [nums_intItems] at hn
  rw [e] at hl
  refine sum_intTupG hh hl fun h' tk t' hk => ?_
  have := h h' tk t' hk
  rw [preSum_eq, List.take_of_length_le (by simp), hn]; exact this
end
theorem cr_sumT {X : Cx} (hc : X.calm = true) : CallR X (.builtin "sum") (fun vs H Q => ∃ (a : Addr) (ns : List Int), vs = [V.ref a] ∧ SqT X.K H a (ns.map V.int) ∧ Q (.int ns.sum) H) := by
  intro pins s σ H vs us Q I r h
  obtain ⟨a, ns, rfl, hs, q⟩ := h
  obtain ⟨its, rv, hl, _⟩ := I.tuple hs
  rw [Vals.ref1 r]
  exact sum_rawT (I.ok.hd hc) (show s.heap.IsTuple a its.toArray from hl) rv.ints fun h' tk t' hk => ⟨.int _, H, I.kept hk, ⟨_, rfl⟩, q⟩
/-! ### d.update(d2) -/
theorem KV.merge {kvs : List (Key × V)} {vs : List (Key × Value)} (r : KV kvs vs) : ∀ {more : List (Key × V)} {ms : List (Key × Value)}, KV more ms → KV (more.foldl (fun acc p => putK acc p.1 p.2) kvs) (merged vs ms) := fun {more ms} h => by
  unfold KV at h
  induction h generalizing kvs vs with
  | nil => exact r
  | @cons p q ps qs h t ih =>
    obtain ⟨h1, h2⟩ := h
    have := ih (KV.put r p.1 h2)
    rw [List.foldl_cons]
    show KV _ (List.foldl _ (stored vs q.1 q.2) qs)
    rw [← h1]
    exact this
theorem len_mergeK : ∀ (more kvs : List (Key × V)), (more.foldl (fun acc p => putK acc p.1 p.2) kvs).length ≤ kvs.length + more.length
  | [], kvs => Nat.le_refl _
  | p :: more, kvs => by
    have h1 := len_mergeK more (putK kvs p.1 p.2)
    have h2 := length_putK kvs p.1 p.2
    rw [List.foldl_cons, List.length_cons]
    omega
def rUpd : V → List V → Hp → VK → Prop := fun x xs H Q => ∃ (a b : Addr) (kvs more : List (Key × V)), x = .ref a ∧ xs = [.ref b] ∧ H a = some (.dK kvs) ∧ Rd H b (.dK more) ∧ a ≠ b ∧ kvs.length + more.length ≤ sizeLine ∧ Q .non (upd H a (.dK (more.foldl (fun acc p => putK acc p.1 p.2) kvs)))
theorem mt_update {X : Cx} : MtM X "dict.update" rUpd := by
  intro pins s σ H x vs v us Q I rx rv h
  obtain ⟨a, b, kvs, more, rfl, rfl, ha, hb, hne, hz, q⟩ := h
  cases rx
  obtain ⟨u, rfl, ru⟩ := rv.one
  cases (show u = Value.ref b from ru)
  obtain ⟨z1, hd1, ks, rel1, dd1⟩ := dk_of I.hok ha
  obtain ⟨z2, hd2, ms, rel2, dd2⟩ := dk_rd I.hok hb
  refine call_meetsIn PySem.F.slot_dict_update dd1.typeIs PySem.F.entry_dict_update (PySem.F.args_dict_update_2 _ _) (meets_dict_update (mixKind X.prog X.w) a b hne hd2) ⟨ks, ms, dd1, dd2, by rw [← rel1.length, ← rel2.length]; exact hz, fun h' dd' _ hs => ?_⟩
  have he : ∃ q, h'.get? a = some q := let ⟨q, _, _, hq, _⟩ := dd'; ⟨q, hq⟩
  exact ⟨.non, _, d_write I (by rw [ha]; exact True.intro) hs he (dk_new (Nat.le_trans (len_mergeK more kvs) hz) hd1 (KV.merge rel1 rel2) dd'), rfl, q⟩
/-- one dict put into another -/
def dmerge {α : Type} (l m : List (List Nat × α)) : List (List Nat × α) := m.foldl (fun acc p => dput acc p.1 p.2) l
theorem atk_merge {α : Type} {K : PySem.W.Frag} {H : Hp} {e : α → Dat} : ∀ {m l : List (List Nat × α)} {vs ws : List (Key × V)}, Atk K H vs (dm e l) → Atk K H ws (dm e m) → Atk K H (ws.foldl (fun acc p => putK acc p.1 p.2) vs) (dm e (dmerge l m))
  | [], l, vs, ws, h, g => by cases g; exact h
  | p :: m, l, vs, ws, h, g => by
    cases g with
    | @cons _ v _ ws _ ha ht => exact atk_merge (m := m) (l := dput l p.1 p.2) (vs := putK vs (Sum.inr (SX.S p.1)) v) (ws := ws) (atk_put h p.1 ha) ht
section
variable {X : Cx} {H0 : Hp} {ρ ρ0 ρ1 ρ2 : Env'} {α β γ S S' L R : Type} {a b c e call : Expr} {es : List Expr} {st : Stmt} {sts rest body : List Stmt} {d d1 d2 : Dat} {ds : List Dat} {p pos : Pos} {o o1 : Outc} {x n : Str} {k : Nat} {D : γ → Outc} {m : M α} {en : α → Dat}
theorem ev_sumT {ns : List Int} (ha : EvB X H0 ρ a (tpnd Dat.int ns)) (hc : X.calm = true) (hm : X.mg "sum" = none) (hg : Gl X "sum" := by rfl) (he : starEach [a] X.env = (false, eval a X.env) :: starEach [] X.env := by rfl) (hpl : (backTo pos (starEach [] X.env)).any (·.1) = false := by rfl) :
    Ev X H0 ρ (.Call (.Name "sum" p) [a] [] pos) (.int ns.sum) := ev_blt (cr_sumT hc) hm (by decide +kernel) (eab1 ha he) (fun vs σ H N Q r q g => by
    obtain ⟨v, e1, e2⟩ := ats_one q
    obtain ⟨pp, us, e3, h1, h2⟩ := at_seq e2
    rw [h2.ints] at h1
    exact ⟨pp, ns, by rw [e1, e3], h1, goes_self g r (.int _)⟩) hg (by decide) (by decide) he hpl
/-- tuple + tuple -/
theorem ev_catTm {l m : List α} (ha : Ev X H0 ρ a (tpnd en l)) (hb : Ev X H0 ρ b (tpnd en m)) (h : catOk l m = true) : Ev X H0 ρ (.BinOp a .Add b pos) (tpnd en (l ++ m)) := fun σ H N rp =>
  we_of (pe_op op_catA pe_w pe_w) ((ha σ H N rp).imp fun v H1 ⟨N1, s1, n1, r1, a1⟩ => (hb σ H1 N1 r1).imp fun w H2 ⟨N2, s2, n2, r2, a2⟩ => by
    have a1' := a1.mono n2
    obtain ⟨p1, vs, e1, h1, h2⟩ := at_seq a1'
    obtain ⟨p2, ws, e2, h3, h4⟩ := at_seq a2
    have hz := catOk_ok h
    refine ⟨p1, p2, vs, ws, e1, e2, sqt_same r2.sub h1, sqt_same r2.sub h3, by rw [h2.length, h4.length, List.length_map, List.length_map]; exact hz, fun q => ?_, fun q1 q2 => ?_, fun q1 q2 q hq => ?_⟩
    · have : l = [] := by
        have := h2.length
        rw [q, List.length_map] at this
        exact List.length_eq_zero_iff.mp this.symm
      subst this
      rw [← e2]
      exact ⟨N2, s1.trans s2, n1.trans n2, r2, a2⟩
    · have : m = [] := by
        have := h4.length
        rw [q2, List.length_map] at this
        exact List.length_eq_zero_iff.mp this.symm
      subst this
      rw [← e1, List.append_nil]
      exact ⟨N2, s1.trans s2, n1.trans n2, r2, a1'⟩
    · obtain ⟨r5, n5⟩ := r2.new (o := .tup (vs ++ ws)) hq
      refine ⟨_, (s1.trans s2).trans (Same.of_none hq), (n1.trans n2).trans n5, r5, .tup (.inl (.inl upd_same)) ?_⟩
      rw [List.map_append]
      exact (h2.mono n5).append (h4.mono n5))
theorem xm_dupd {l m : List (List Nat × α)} {f : List (List Nat × α) → M γ} (i : Nat) {y : Str} {p1 p2 p3 : Pos} (hi : ρ[i]? = some (.ow (dicd en l))) (h : Ev X H0 ρ e (dicd en m)) (hz : catOk l m = true) (tt : ∀ l, ExM X H0 (ρ.set i (.ow (dicd en l))) k rest D (f l)) (hN : X.N[i]? = some y := by rfl) (hv : Vis X.env.scope y := by first | exact Or.inl rfl | exact Or.inr (Or.inl rfl) | exact Or.inr (Or.inr rfl))
    (hd : (y == ("__debug__" : Str)) = false := by decide) (hcd : (y == ("__classdict__" : Str)) = false := by decide)
    (hpe : ∀ to t, PE X (.Name y p1) to → PA X [e] t → PE X (.Call (.Attribute (.Name y p1) "update" p2) [e] [] p3) (tBM X.K "dict" rUpd to t) := by exact fun _ _ h g => pe_bm PySem.F.plainAttrs_dict PySem.F.slot_dict_update PySem.F.type_dict_update mt_update h g)
    (he : starEach [e] X.env = (false, eval e X.env) :: starEach [] X.env := by rfl) (hs : swapsWith (.Call (.Attribute (.Name y p1) "update" p2) [e] [] p3) none pos.line X.env = pure false := by rfl) :
    ExM X H0 ρ k (.Expr (.Call (.Attribute (.Name y p1) "update" p2) [e] [] p3) pos :: rest) D (M.lt (dmerge l m) f) := by
  refine xm_then (ρ1 := ρ.set i (.ow (dicd en (dmerge l m)))) (fun Dd σ H N r kk => ?_) (tt (dmerge l m))
  obtain ⟨q, g1, g2, g3, vs, g4, g5⟩ := r.ow i _ hi
  refine ws_of (ps_expr (hpe _ _ (pv i hN hv hd hcd) (pa_cons pe_w pa_nil he)) hs) ⟨_, g1, ?_, (h σ H N r).imp fun v H1 ⟨N1, s1, n1, r1, a1⟩ => ?_⟩
  · exact .inr (.inr (.inl ⟨rfl, .inl ⟨_, g4⟩⟩))
  obtain ⟨q', f1, f2, f3, us, f4, f5⟩ := r1.ow i _ hi
  rw [g1] at f1
  cases f1
  obtain ⟨b, ws, e1, h1, h2⟩ := at_dic a1
  have hne : q ≠ b := fun z => by
    subst z
    rcases h1 with h1 | ⟨_, h1⟩ <;> (rw [f3] at h1; cases h1)
  refine ⟨q, b, us, ws, rfl, by rw [e1], f4, rd_mono r1.sub h1, hne, by rw [atk_len f5, atk_len h2, List.length_map, List.length_map]; exact catOk_ok hz, kk σ _ N1 n1 ?_⟩
  exact r1.write hi g1 ⟨_, upd_same, atk_merge f5 h2⟩
/-- s.index(a sign that is there) -/
theorem index_one {L : List Nat} {c : Nat} (h : c ∈ L) : Txt.index0 (SX.S L) (SX.S [c]) = some (L.idxOf c) := by
  have hlt : L.idxOf c < L.length := List.idxOf_lt_length_iff.mpr h
  have hg : L[L.idxOf c]? = some c := by rw [List.getElem?_eq_getElem hlt, List.getElem_idxOf hlt]
  have ho : Builtin.Str.occurrences (SX.S L) (SX.S [c]) 0 (SX.S L).length 1 = [L.idxOf c] := by
    rw [StrLaws.occ_eq]
    refine occ_at L c _ hg _ 0 0 (Nat.le_refl _) (Nat.zero_le _) (by rw [SX.S_len]; omega) (fun i _ hi e => ?_)
    have hil : i < L.length := by omega
    rw [List.getElem?_eq_getElem hil] at e
    have q := List.not_of_lt_findIdx (p := (· == c)) (xs := L) hi
    have e2 := Option.some.inj e
    simp [e2] at q
  unfold Txt.index0
  rw [ho]
  rfl
theorem ev_indexX {l : List Nat} {c : Nat} {apos : Pos} (ha : Ev X H0 ρ a (tx l)) (hb : Ev X H0 ρ b (tx [c])) (h : c ∈ l) (hc : X.calm = true := by rfl)
    (hpe : ∀ to t, PE X a to → PA X [b] t → PE X (.Call (.Attribute a "index" apos) [b] [] pos) (tBMS X.K "str" (rIndexX (fun _ _ _ _ => False)) to t) := by exact fun _ _ h g => pe_bmS PySem.F.plainAttrs_str PySem.F.slot_str_index PySem.F.type_str_index (mt_indexX rfl takes0) h g)
    (he : starEach [b] X.env = (false, eval b X.env) :: starEach [] X.env := by rfl) : Ev X H0 ρ (.Call (.Attribute a "index" apos) [b] [] pos) (.int ((l.idxOf c : Nat) : Int)) := fun σ H N rp =>
  we_of (hpe _ _ pe_w (pa_cons pe_w pa_nil he)) ((ha σ H N rp).imp fun v H1 ⟨N1, s1, n1, r1, a1⟩ => by
    rw [at_str a1]
    refine ⟨rfl, (hb σ H1 N1 r1).imp fun w H2 ⟨N2, s2, n2, r2, a2⟩ => ?_⟩
    rw [at_str a2]
    refine ⟨_, _, rfl, rfl, fun k hk => ?_, fun hk => ?_⟩
    · rw [index_one h] at hk
      cases hk
      exact ⟨N2, s1.trans s2, n1.trans n2, r2, .int _⟩
    · rw [index_one h] at hk
      cases hk)
end
/-! ### defs whose last parameter has a default -/
/-- such a def of the text as it stands behind the top -/
def DfD (K : PySem.W.Frag) (mg : Str → Option Value) (x : Str) (st : Stmt) (ps : List Str) (v : V) : Prop := ∃ f fd, FunD K x x (defArgs st) (defBody st) (defScope st) [v] [] f fd ∧ mg x = some (.ref f) ∧ Binds K fd ps [] ∧ ∃ d, Vals [v] [d] ∧ Binds K fd ps [d]
def GFnD (P : Program) (w : World) (K : PySem.W.Frag) (mg : Str → Option Value) (base : Heap) (x : Str) (k : Nat) (v : V) (R : List Dat → Res → Prop) : Prop :=
  ∃ f fd ps, FnOk P w K mg base (L2.CX P w) k f fd ps (spR K mg R) ∧ mg x = some (.ref f) ∧ PySem.W.keepIn K (.ref f) = true ∧ Binds K fd ps [] ∧ ∃ d, Vals [v] [d] ∧ Binds K fd ps [d]
theorem GFnD.all {P : Program} {w : World} {K : PySem.W.Frag} {mg : Str → Option Value} {base : Heap} {x : Str} {k : Nat} {v : V} {R : List Dat → Res → Prop} (G : GFnD P w K mg base x k v R) : GFn P w K mg base x k R := by
  obtain ⟨f, fd, ps, h1, h2, h3, h4, _⟩ := G
  exact ⟨f, fd, ps, h1, h2, h3, h4⟩
section
variable {P : Program} {w : World} {K : PySem.W.Frag} {mg : Str → Option Value} {base : Heap} {x : Str} {st : Stmt} {ps N : List Str} {k : Nat} {R : List Dat → Res → Prop} {v : V}
theorem GFnD.mk2 (D : DfD K mg x st ps v) (S : FnScope N ps (defScope st)) (hl : ∀ ds o, R ds o → ds.length = ps.length)
    (body : ∀ (f : Addr) (cdv : Value) (A : Around) (outer : List PySem.Env) (s : Shared) (H : Hp) (E : XK), Room k (XX P w K mg base N x st f cdv A outer s H E).A → ∀ ds o, R ds o → ∃ es, Ents es ds ∧ ∀ H0, Ends' (XX P w K mg base N x st f cdv A outer s H E) H0 (es ++ List.replicate (N.length - ps.length) .no) (defBody st) o) : GFnD P w K mg base x (k + 1) v R := by
  obtain ⟨f, fd, F, hm, hb, hd⟩ := D
  refine ⟨f, fd, ps, ?_, hm, F.kp, hb, hd⟩
  refine F.ok S (fun vs H Q E ⟨ds, o, hr, a, _⟩ => by rw [a.length]; exact hl ds o hr) fun cdv A outer s H vs Q E hr hsp => ?_
  obtain ⟨ds, o, hR, a, q⟩ := hsp
  obtain ⟨es, he, hbody⟩ := body f cdv A outer s H E hr ds o hR
  have hlen : vs.length = ps.length := by rw [a.length]; exact hl ds o hR
  have r : Rep K H (es ++ List.replicate (N.length - ps.length) .no) (L2.start N vs) H (Imm H) := hlen ▸ rep_start he a
  have hb := hbody H
  refine ⟨_, pb_w, ?_⟩
  cases hb with
  | ret h => exact h { nx := fun _ H' => Q .non H', rt := Q } _ _ _ r fun v H' s _ rt => q v H' s rt
  | non h => exact h { nx := fun _ H' => Q .non H', rt := Q } _ _ _ r fun σ H' N' s r' => q .non H' r'.old ⟨N', r'.sub, r'.fresh, .non⟩
  | own h => exact h { nx := fun _ H' => Q .non H', rt := Q } _ _ _ r fun p H' N' s1 _ s2 s3 s4 s5 s6 => q p H' N' s1 s2 s3 s4 s5 s6
  | exc h => exact h { nx := fun _ H' => Q .non H', rt := Q } _ _ _ r ⟨_, takes_of rfl rfl rfl rfl, fun C σ H' N' hm s r' => q C H' hm r'.old⟩
end
section
variable {X : Cx} {H0 : Hp} {ρ : Env'} {α : Type} {e : Expr} {es : List Expr} {ds : List Dat} {p pos : Pos} {x : Str} {m : M α} {en : α → Dat}
/-- a call that leaves the last one to its default, a text -/
theorem evm_callD {R : List Dat → Res → Prop} {kk : Nat} {z : Str} (G : GFnD X.prog X.w X.K X.mg X.base x kk (.str z) R) (hr : Room kk X.A) (ha : EvAB X H0 ρ (e :: es) ds) (q : ∀ o, Rm en m o → R (ds ++ [.str z]) o) (hg : Gl X x := by rfl) (hdb : (x == ("__debug__" : Str)) = false := by decide)
    (he : starEach (e :: es) X.env = (false, eval e X.env) :: starEach es X.env := by rfl) (hpl : (backTo pos (starEach es X.env)).any (·.1) = false := by rfl) : EvM X H0 ρ (.Call (.Name x p) (e :: es) [] pos) en m.nox := by
  cases m with
  | ok v =>
    intro σ H N r
    obtain ⟨f, fd, ps, F, hm, hk, _, d, hv, hb⟩ := G
    refine we_of (pe_call F hr hg hm hk hb hv passL pa_w hdb he hpl) ((ha σ H N r).imp fun vs H1 ⟨N1, s1, n1, r1, a1⟩ => ⟨ds ++ [.str z], .val (en v), q _ rfl, a1.append (.cons (.str z) .nil), fun v H' s' rt => ?_⟩)
    obtain ⟨N2, n2, r2, a2⟩ := r1.ret s' rt
    exact ⟨N2, s1.trans s', n1.trans n2, r2, a2⟩
  | ex n => trivial
  | far => trivial
end
end B

namespace B
open PySem PySem.Spec PyProof.Rows L2
section
variable {α : Type} {X : Cx} {H0 : Hp} {ρ : Env'} {e : Expr}
/-- what may be None and is not -/
theorem ev_optS {en : α → Dat} {o : Option α} {r : α} (h : o = some r) (p : Ev X H0 ρ e (optd en o)) : Ev X H0 ρ e (en r) := by subst h; exact p
end
/-! ### l.extend(a new list) -/
section
variable {X : Cx} {H0 : Hp} {ρ ρ1 : Env'} {α β γ S S' L R : Type} {e : Expr} {st : Stmt} {rest body : List Stmt} {d : Dat} {ds : List Dat} {pos : Pos} {k : Nat} {D : γ → Outc}
theorem xm_extend {en : β → Dat} {l m : List β} {f : List β → M γ} (i : Nat) {y : Str} {p1 p2 p3 : Pos} (hi : ρ[i]? = some (.ow (lstd en l))) (h : EvO X H0 ρ e (lstd en m)) (hz : catOk l m = true) (tt : ∀ l, ExM X H0 (ρ.set i (.ow (lstd en l))) k rest D (f l)) (hN : X.N[i]? = some y := by rfl) (hv : Vis X.env.scope y := by first | exact Or.inl rfl | exact Or.inr (Or.inl rfl) | exact Or.inr (Or.inr rfl))
    (hd : (y == ("__debug__" : Str)) = false := by decide) (hcd : (y == ("__classdict__" : Str)) = false := by decide)
    (hpe : ∀ to t, PE X (.Name y p1) to → PA X [e] t → PE X (.Call (.Attribute (.Name y p1) "extend" p2) [e] [] p3) (tBM X.K "list" rExtend to t) := by exact fun _ _ h g => pe_bm PySem.F.plainAttrs_list PySem.F.slot_list_extend PySem.F.type_list_extend mt_extend h g)
    (he : starEach [e] X.env = (false, eval e X.env) :: starEach [] X.env := by rfl) (hs : swapsWith (.Call (.Attribute (.Name y p1) "extend" p2) [e] [] p3) none pos.line X.env = pure false := by rfl) :
    ExM X H0 ρ k (.Expr (.Call (.Attribute (.Name y p1) "extend" p2) [e] [] p3) pos :: rest) D (M.lt (l ++ m) f) := by
  refine xm_then (ρ1 := ρ.set i (.ow (lstd en (l ++ m)))) (fun Dd σ H N r kk => ?_) (tt (l ++ m))
  obtain ⟨q, g1, g2, g3, vs, g4, g5⟩ := r.ow i _ hi
  refine ws_of (ps_expr (hpe _ _ (pv i hN hv hd hcd) (pa_cons pe_w pa_nil he)) hs) ⟨_, g1, .inl ⟨rfl, _, .inl (.inl g4)⟩, (h σ H N r).imp fun v H1 ⟨N1, p, e1, hp0, s1, n1, r1, np, ws, w1, w2⟩ => ?_⟩
  obtain ⟨q', f1, f2, f3, us, f4, f5⟩ := r1.ow i _ hi
  rw [g1] at f1
  cases f1
  refine ⟨q, p, us, ws, rfl, by rw [e1], f4, w1, by rw [f5.length, w2.length, List.length_map, List.length_map]; exact catOk_ok hz, kk σ _ N1 n1 ?_⟩
  refine r1.write hi g1 ⟨us ++ ws, upd_same, ?_⟩
  rw [List.map_append]
  exact f5.append w2
/-! ### an owned list that is only read for a while -/
/-- nothing that was handed in is held -/
def noOl (ρ : Env') : Prop := ∀ (j : Nat) (d : Dat), ρ[j]? ≠ some (Ent.ol d)
open Classical in
/-- what was there ahead, with an owned list and all that no one can change -/
noncomputable def Hb (H0 N : Hp) (p : Addr) (o : HO) : Hp := fun a => if a = p then some o else match H0 a with | some u => some u | none => Imm N a
theorem hb_p {H0 N : Hp} {p : Addr} {o : HO} : Hb H0 N p o p = some o := by unfold Hb; rw [if_pos rfl]
theorem hb_old {H0 N : Hp} {p : Addr} {o : HO} (h : H0 p = none) : Same H0 (Hb H0 N p o) := fun a u e => by
  unfold Hb
  have : a ≠ p := fun q => by rw [q, h] at e; cases e
  rw [if_neg this, e]
theorem hb_cs {H0 N : Hp} {p a : Addr} {o u : HO} (h : Hb H0 N p o a = some u) : (a = p ∧ u = o) ∨ (a ≠ p ∧ (H0 a = some u ∨ Imm N a = some u)) := by
  unfold Hb at h
  by_cases q : a = p
  · rw [if_pos q] at h
    exact .inl ⟨q, (Option.some.inj h).symm⟩
  · rw [if_neg q] at h
    refine .inr ⟨q, ?_⟩
    cases e : H0 a with
    | some w => rw [e] at h; exact .inl h
    | none => rw [e] at h; exact .inr h
theorem hb_none {H0 N : Hp} {p a : Addr} {o : HO} (h1 : a ≠ p) (h2 : H0 a = none) (h3 : Imm N a = none) : Hb H0 N p o a = none := by
  unfold Hb
  rw [if_neg h1, h2]
  exact h3
theorem Rep.borrow {K : PySem.W.Frag} {H0 H N : Hp} {ρ : Env'} {σ : L2.St} (r : Rep K H0 ρ σ H N) {i : Nat} {p : Addr} {vs : List V} {ds : List Dat} (hi : ρ[i]? = some (.ow (.lst ds))) (hn : noOl ρ) (hp : σ[i]? = some (some (V.ref p))) (h0 : H0 p = none) (np : N p = none) (hh : H p = some (.lst vs)) (ha : Ats K N vs ds) (f : flats ds = true) :
    Rep K (Hb H0 N p (.lst vs)) (ρ.set i (.rf p)) σ H N ∧ Ats K (Imm (Hb H0 N p (.lst vs))) vs ds := by
  have m : Mut (some (HO.lst vs)) := trivial
  refine ⟨⟨fun a u e => ?_, r.sub, fun a u e => ?_, fun a u e mu => ?_, by rw [List.length_set]; exact r.len, fun j d e => ?_, fun j d e => ?_, fun j d e => ?_, fun j a e => ?_, fun j k d d' q ne a b c => ?_⟩, (ha.imm f).mono fun a u e => ?_⟩
  · rcases hb_cs e with ⟨rfl, rfl⟩ | ⟨_, e | e⟩
    · exact hh
    · exact r.old a u e
    · exact r.sub a u (imm_sub _ _ _ e)
  · have mu := imm_not e
    rcases hb_cs (imm_sub _ _ _ e) with ⟨rfl, rfl⟩ | ⟨_, e | e⟩
    · exact absurd m mu
    · exact r.imm a u (imm_of e mu)
    · exact imm_sub _ _ _ e
  · refine hb_none (fun q => by rw [q, np] at e; cases e) (r.fresh a u e mu) ?_
    cases q : Imm N a with
    | none => rfl
    | some w =>
      have := imm_sub _ _ _ q
      rw [e] at this
      cases this
      exact absurd mu (imm_not q)
  · rcases get_set e with ⟨_, z⟩ | ⟨_, e⟩
    · cases z
    · exact r.im j d e
  · rcases get_set e with ⟨_, z⟩ | ⟨_, e⟩
    · cases z
    · exact absurd e (hn j d)
  · rcases get_set e with ⟨_, z⟩ | ⟨ne, e2⟩
    · cases z
    · obtain ⟨p', a1, a2, a3, a4⟩ := r.ow j d e2
      refine ⟨p', a1, hb_none (fun q => ?_) a2 ?_, a3, a4⟩
      · subst q
        exact r.apart j i _ _ _ ne e2 hi a1 hp
      · cases q : Imm N p' with
        | none => rfl
        | some w => have := imm_sub _ _ _ q; rw [a3] at this; cases this
  · rcases get_set e with ⟨rfl, z⟩ | ⟨_, e⟩
    · cases z; exact hp
    · exact r.rf j a e
  · rcases get_set a with ⟨_, z⟩ | ⟨_, a⟩
    · cases z
    rcases get_set b with ⟨_, z⟩ | ⟨_, b⟩
    · cases z
    exact r.apart j k d d' q ne a b c
  · have mu := imm_not e
    have e1 := imm_sub _ _ _ e
    refine imm_of ?_ mu
    unfold Hb
    rw [if_neg (fun q => by rw [q, np] at e1; cases e1)]
    cases q : H0 a with
    | none => exact e
    | some w =>
      have z1 := r.old a w q
      rw [r.sub a u e1] at z1
      cases z1
      rfl
/-- what was lent comes back: nothing of what was there ahead is asked -/
theorem Rep.lower {K : PySem.W.Frag} {H0 H N N0 : Hp} {ρ : Env'} {σ : L2.St} {p : Addr} {vs : List V} (r : Rep K (Hb H0 N0 p (.lst vs)) ρ σ H N) (h0 : H0 p = none) (hn : noOl ρ) : Rep K H0 ρ σ H N := by
  have so := hb_old (N := N0) (o := HO.lst vs) h0
  have none0 : ∀ {a : Addr}, Hb H0 N0 p (.lst vs) a = none → H0 a = none := fun {a} e => by
    cases q : H0 a with
    | none => rfl
    | some u => rw [so a u q] at e; cases e
  refine ⟨so.trans r.old, r.sub, (imm_same so).trans r.imm, fun a o e m => none0 (r.fresh a o e m), r.len, r.im, fun j d e => absurd e (hn j d), fun j d e => ?_, r.rf, r.apart⟩
  obtain ⟨q, a1, a2, a3, a4⟩ := r.ow j d e
  exact ⟨q, a1, none0 a2, a3, a4⟩
theorem Rep.regain {K : PySem.W.Frag} {H0 H N N0 : Hp} {ρ : Env'} {σ : L2.St} {i : Nat} {p : Addr} {vs : List V} {ds : List Dat} (r : Rep K (Hb H0 N0 p (.lst vs)) ρ σ H N) (h0 : H0 p = none) (hn : noOl ρ) (hi : ρ[i]? = some (.rf p)) (ha : Ats K N vs ds) : Rep K H0 (ρ.set i (.ow (.lst ds))) σ H N := by
  have m : Mut (some (HO.lst vs)) := trivial
  have hh := r.old p _ hb_p
  have np : N p = none := by
    cases q : N p with
    | none => rfl
    | some u =>
      have e1 := r.sub p u q
      rw [hh] at e1
      cases e1
      have := r.fresh p _ q m
      rw [hb_p] at this
      cases this
  have hs := r.rf i p hi
  have b := r.lower h0 hn
  have ne : ∀ {j : Nat} {d : Dat} {q : Addr}, ρ[j]? = some (.ow d) → σ[j]? = some (some (V.ref q)) → q ≠ p := fun {j d q} e z y => by
    subst y
    obtain ⟨q', a1, a2, a3, a4⟩ := r.ow j d e
    rw [z] at a1
    cases a1
    rw [hb_p] at a2
    cases a2
  refine ⟨b.old, b.sub, b.imm, b.fresh, by rw [List.length_set]; exact b.len, fun j d e => ?_, fun j d e => ?_, fun j d e => ?_, fun j a e => ?_, fun j k d d' q jk a c z y => ?_⟩
  · rcases get_set e with ⟨_, z⟩ | ⟨_, e⟩
    · cases z
    · exact b.im j d e
  · rcases get_set e with ⟨_, z⟩ | ⟨_, e⟩
    · cases z
    · exact b.ol j d e
  · rcases get_set e with ⟨rfl, z⟩ | ⟨_, e⟩
    · cases z
      exact ⟨p, hs, h0, np, vs, hh, ha⟩
    · exact b.ow j d e
  · rcases get_set e with ⟨_, z⟩ | ⟨_, e⟩
    · cases z
    · exact b.rf j a e
  · rcases get_set a with ⟨rfl, _⟩ | ⟨nj, a⟩
    · rw [hs] at z
      cases z
      rcases get_set c with ⟨rfl, _⟩ | ⟨_, c⟩
      · exact jk rfl
      · exact ne c y rfl
    · rcases get_set c with ⟨ek, _⟩ | ⟨_, c⟩
      · rw [ek, hs] at y
        cases y
        exact ne a z rfl
      · exact b.apart j k d d' q jk a c z y
/-- how the statement's end looks behind the loan -/
def Bk (i : Nat) (ds : List Dat) (p : Addr) : Outc → Outc → Prop
  | .nx ρ', .nx ρ => ρ'[i]? = some (.rf p) ∧ noOl ρ' ∧ ρ = ρ'.set i (.ow (.lst ds))
  | .rt d, .rt d' => d = d'
  | .ro d, .ro d' => d = d'
  | .ex n ρ', .ex n' ρ => n = n' ∧ ρ = ρ' ∧ noOl ρ'
  | _, _ => False
theorem sx_borrow {i : Nat} {o : Outc} (o' : Addr → Outc) (hi : ρ[i]? = some (.ow (.lst ds))) (hn : noOl ρ) (f : flats ds = true) (h : ∀ (H0' : Hp) (p : Addr) (vs : List V), H0' p = some (.lst vs) → Ats X.K (Imm H0') vs ds → ExS X H0' (ρ.set i (.rf p)) st (o' p)) (hb : ∀ p, Bk i ds p (o' p) o) : ExS X H0 ρ st o := fun D σ H N r c => by
  obtain ⟨p, e1, h0, np, vs, hh, ha⟩ := r.ow i _ hi
  obtain ⟨r1, a1⟩ := r.borrow hi hn e1 h0 np hh ha f
  refine h _ p vs hb_p a1 D σ H N r1 ?_
  have so := hb_old (N := N) (o := HO.lst vs) h0
  have none0 : ∀ {a : Addr}, Hb H0 N p (.lst vs) a = none → H0 a = none := fun {a} e => by
    cases q : H0 a with
    | none => rfl
    | some u => rw [so a u q] at e; cases e
  have hb := hb p
  cases e : o' p with
  | nx ρ' =>
    rw [e] at hb
    cases o with
    | nx ρ2 =>
      obtain ⟨b1, b2, rfl⟩ := hb
      exact fun σ' H' N' s r' => c σ' H' N' s (r'.regain h0 b2 b1 (ha.mono s))
    | _ => exact hb.elim
  | rt d =>
    rw [e] at hb
    cases o with
    | rt d' =>
      cases (show d = d' from hb)
      exact fun v H' s sn ⟨N', q1, q2, q3⟩ => c v H' (so.trans s) sn ⟨N', q1, fun a u z m => none0 (q2 a u z m), q3⟩
    | _ => exact hb.elim
  | ro d =>
    rw [e] at hb
    cases o with
    | ro d' =>
      cases (show d = d' from hb)
      exact fun q H' N' s1 sn s2 s3 s4 s5 s6 => c q H' N' (so.trans s1) sn s2 (fun a u z m => none0 (s3 a u z m)) (none0 s4) s5 s6
    | _ => exact hb.elim
  | ex n ρ' =>
    rw [e] at hb
    cases o with
    | ex n' ρ2 =>
      obtain ⟨rfl, rfl, b2⟩ := hb
      obtain ⟨W, t, k⟩ := c
      exact ⟨W, t, fun C σ' H' N' m s r' => k C σ' H' N' m s (r'.lower h0 b2)⟩
    | _ => exact hb.elim
  | bk ρ' => rw [e] at hb; cases o <;> exact hb.elim
  | ct ρ' => rw [e] at hb; cases o <;> exact hb.elim
/-- a walk of what lies at an address that no one changes -/
theorem itm_rf {en : β → Dat} {l : List β} {p : Addr} {vs : List V} (i : Nat) {t : Expr} {x : Str} (h : ρ[i]? = some (.rf p)) (h1 : H0 p = some (.lst vs)) (h2 : Ats X.K (Imm H0) vs (l.map en)) (hN : X.N[i]? = some x := by rfl) (hv : Vis X.env.scope x := by first | exact Or.inl rfl | exact Or.inr (Or.inl rfl) | exact Or.inr (Or.inr rfl)) (hd : (x == ("__debug__" : Str)) = false := by decide)
    (hcd : (x == ("__classdict__" : Str)) = false := by decide) : Iter X H0 ρ t (.Name x pos) (l.map en) := ⟨_, pi_list (pv i hN hv hd hcd), fun σ H N r R k => by
  have h1' : SqL X.K H0 p vs := .inl (.inl h1)
  refine ⟨_, r.rf i _ h, p, rfl, ⟨vs, sql_same r.old h1'⟩, k _ H N (Same.refl _) (Same.refl _) r fun H02 ρ2 σ2 H2 N2 j s02 s2 r2 => ⟨fun hi => ?_, fun hi => ⟨vs, sql_same (s02.trans r2.old) h1', by rw [h2.length]; exact Nat.le_of_eq hi.symm⟩⟩⟩
  have hv : j < vs.length := by rw [h2.length]; exact hi
  refine ⟨⟨vs, vs[j], sql_same (s02.trans r2.old) h1', by simp [hv]⟩, fun x H3 y => ?_⟩
  obtain ⟨rfl, y⟩ := y
  obtain ⟨d, e2, e3⟩ := h2.getV (y vs (sql_same (s02.trans r2.old) h1'))
  exact ⟨N2, d, Same.refl _, Same.refl _, r2, e2, (e3.mono (imm_same s02)).mono r2.imm⟩⟩
theorem forF_no {α S L R : Type} {f : α → S → M (Fl S S R)} : ∀ (xs : List α) (s : S) (z : L), (forF f xs s : M (Fl S L R)) ≠ .ok (.ct z) ∧ (forF f xs s : M (Fl S L R)) ≠ .ok (.bk z)
  | [], s, z => ⟨(fun h => by cases h), (fun h => by cases h)⟩
  | x :: xs, s, z => by
    unfold forF
    cases f x s with
    | ok v =>
      cases v with
      | nx s' => exact forF_no xs s' z
      | ct s' => exact forF_no xs s' z
      | bk s' => exact ⟨(fun h => by cases h), (fun h => by cases h)⟩
      | rt r => exact ⟨(fun h => by cases h), (fun h => by cases h)⟩
    | ex n => exact ⟨(fun h => by cases h), (fun h => by cases h)⟩
    | far => exact ⟨(fun h => by cases h), (fun h => by cases h)⟩
theorem noOl_no (k : Nat) : noOl (List.replicate k .no) := fun j d e => by
  have := List.eq_of_mem_replicate (List.mem_of_getElem? e)
  cases this
theorem noOl_set {ρ : Env'} {i : Nat} {p : Addr} (h : noOl ρ) : noOl (ρ.set i (.rf p)) := fun j d e => by
  rcases get_set e with ⟨_, z⟩ | ⟨_, e⟩
  · cases z
  · exact h j d e
/-- .. as reckoned -/
def noOlB (ρ : Env') : Bool := ρ.all fun e => match e with
  | .ol _ => false
  | _ => true
theorem noOl_of {ρ : Env'} (h : noOlB ρ = true) : noOl ρ := fun j d e => by
  have := List.all_eq_true.mp h _ (List.mem_of_getElem? e)
  cases this
/-- for x in an owned list that stays one's own -/
theorem xm_forJB {en : β → Dat} {t : Expr} {bd : Dat → Env' → Env'} {ok : Dat → Prop} {eS : S → Env'} {eL : L → Env'} {eS' : S' → Env'} {oR : R → Outc} {xs : List β} {s0 : S} {f : β → S → M (Fl S S R)} {fk : S → M (Fl S' L R)} (i : Nat) {y : Str} {p1 : Pos} (hR : ∀ r, ∃ d, oR r = .rt d ∨ oR r = .ro d) (hp : PassesOwn (model X.prog X.w) X.A X.env X.xe) (hc : X.calm = true) (fl : ∀ a, flat (en a) = true) (hg : ∀ H0, Tgt X H0 t ok bd) (hok : ∀ d ∈ xs.map en, ok d) (h0 : ρ = eS s0)
    (hs : ∀ s, (eS s)[i]? = some (.ow (lstd en xs))) (hn : ∀ s, noOl (eS s)) (hb : ∀ H0 p x s, ExM X H0 (bd (en x) ((eS s).set i (.rf p))) k body (Fl.D (fun s => (eS s).set i (.rf p)) (fun s => (eS s).set i (.rf p)) oR) (f x s)) (tt : ∀ s, ExM X H0 (eS s) k rest (Fl.D eS' eL oR) (fk s))
    (hN : X.N[i]? = some y := by rfl) (hv : Vis X.env.scope y := by first | exact Or.inl rfl | exact Or.inr (Or.inl rfl) | exact Or.inr (Or.inr rfl)) (hd : (y == ("__debug__" : Str)) = false := by decide) (hcd : (y == ("__classdict__" : Str)) = false := by decide)
    (hsf : ∀ x, foldedSetIterable (.Name y p1) X.env x = pure x := by intro _; rfl) : ExM X H0 ρ k (.For t (.Name y p1) body [] pos :: rest) (Fl.D eS' eL oR) (M.seq (forF f xs s0) fk) := by
  refine ex_flow (fun r => out_of (hR r)) ?_ tt
  subst h0
  have back : ∀ (s : S) (p : Addr), (((eS s).set i (.rf p))[i]? = some (.rf p)) ∧ eS s = ((eS s).set i (.rf p)).set i (.ow (lstd en xs)) := fun s p => by
    have hl := lt_of_get (hs s)
    refine ⟨List.getElem?_set_self hl, ?_⟩
    rw [List.set_set]
    have e := hs s
    rw [List.getElem?_eq_getElem hl] at e
    rw [← Option.some.inj e, List.set_getElem_self]
  have go : ∀ (H0' : Hp) (p : Addr) (vs : List V), H0' p = some (.lst vs) → Ats X.K (Imm H0') vs (xs.map en) → ExSM X H0' ((eS s0).set i (.rf p)) k (.For t (.Name y p1) body [] pos) (Fl.D (fun s => (eS s).set i (.rf p)) eL oR) (forF f xs s0 : M (Fl S L R)) := fun H0' p vs e1 e2 =>
    sx_forM hR hp hc (itm_rf i (back s0 p).1 e1 e2 hN hv hd hcd) (hg H0') hok rfl (fun x s => hb H0' p x s) hsf
  have fls := flats_map fl xs
  cases e : (forF f xs s0 : M (Fl S L R)) with
  | ok v =>
    rw [e] at go
    refine sx_borrow (fun p => Fl.D (fun s => (eS s).set i (.rf p)) eL oR v) (hs s0) (hn s0) fls go fun p => ?_
    cases v with
    | nx s => exact ⟨(back s p).1, noOl_set (hn s), (back s p).2⟩
    | ct s => exact absurd e (forF_no xs s0 s).1
    | bk s => exact absurd e (forF_no xs s0 s).2
    | rt r =>
      obtain ⟨d, q | q⟩ := hR r
      · show Bk i _ p (oR r) (oR r)
        rw [q]
        exact rfl
      · show Bk i _ p (oR r) (oR r)
        rw [q]
        exact rfl
  | ex n =>
    rw [e] at go
    exact sx_borrow (fun p => .ex n (List.replicate k .no)) (hs s0) (hn s0) fls go fun p => ⟨rfl, rfl, noOl_no k⟩
  | far => trivial
end
/-! ### try: y = f(..) except C as e: suite -/
def tryA {β S : Type} (mb : M β) (g : β → S) (hs : List (Str × M S)) : M S := match mb with
  | .ok r => .ok (g r)
  | .ex n => lookM n hs
  | .far => .far
@[simp] theorem tryA_ok {β S : Type} (b : β) (g : β → S) (hs : List (Str × M S)) : tryA (M.ok b) g hs = .ok (g b) := id rfl
@[simp] theorem tryA_ex {β S : Type} (n : Str) (g : β → S) (hs : List (Str × M S)) : tryA (M.ex n : M β) g hs = lookM n hs := id rfl
section
variable {X : Cx} {H0 : Hp} {ρ : Env'} {β γ S : Type} {call : Expr} {rest : List Stmt} {x n : Str} {k : Nat} {D : γ → Outc}
theorem xm_tryA {mb : M β} {eb : β → Dat} {g : β → S} {hs : List (Str × M S)} {eS : S → Env'} {f : S → M γ} {c : Value} {suite : List Stmt} {b₀ : Stmt} {np py pos pos' pos'' : Pos} {y : Str} (j i : Nat) (is : List Nat)
    (hst : X.stack = X.env :: X.outer) (hfr : X.env.frame = some X.env.locals) (nd : X.N.Nodup) (hc : Names X x c)
    (hb : ∀ (pn : List (Addr × Obj)) (xe : Value → Shared → Prop), PassesOwn (model X.prog X.w) X.A X.env xe → EvM (X.tr pn xe) H0 ρ call eb mb)
    (hok : ∀ r, eS (g r) = drops (ρ.set j (.im (eb r))) is)
    (hh : AllH (fun n h => (∀ C, X.mg n = some (.ref C) → PySem.W.exmOne X.K (.ref C) c = some true) ∧ ∀ (a C : Addr) (oe : Obj) (pn : List (Addr × Obj)), X.mg n = some (.ref C) → Zc (.ref C) none oe → (∃ vs, oe.data = .fields vs) → ExM (X.suite a ((a, oe) :: pn)) H0 (ρ.set i (.rf a)) k (b₀ :: suite) (fun s => .nx (eS s)) h) hs)
    (hno : ∀ s, (eS s).set i .no = eS s) (tt : ∀ s, ExM X H0 (eS s) k rest D (f s)) (hi : X.N[i]? = some n := by rfl) (hln : X.env.kindOf n = some .local := by rfl)
    (hj : X.N[j]? = some y := by rfl) (hy : Loc X.env.scope y := by first | exact Or.inl rfl | exact Or.inr rfl)
    (hsw : ∀ pn xe, swapsWith call (some (.Name y py)) pos.line (X.tr pn xe).env = pure false := by intro _ _; rfl) (hf : X.fn y = true ∨ X.env.scope.names.lookup y = some .local := by first | exact .inl rfl | exact .inr rfl | assumption) :
    ExM X H0 ρ k (.Try [.Assign [.Name y py] call pos] [.ExceptHandler (some (.Name x np)) (some n) (b₀ :: suite) pos'] [] [] pos'' :: rest) D (M.bind (tryA mb g hs) f) := by
  cases mb with
  | ok r =>
    have h1 : ExS X H0 ρ (.Try [.Assign [.Name y py] call pos] [.ExceptHandler (some (.Name x np)) (some n) (b₀ :: suite) pos'] [] [] pos'') (.nx (eS (g r))) :=
      sx_tryN (i := i) hst hfr nd hc (fun pn xe hp => ex_then (sx_set (X := X.tr pn xe) j (hb pn xe hp) nd rfl hj hy (hsw pn xe) hf) (hok r ▸ ex_drops is ex_nil)) (ho := trivial) (hi := hi) (hln := hln)
    exact xm_then h1 (tt (g r))
  | ex n' =>
    show ExM X H0 ρ k _ D (M.bind (lookM n' hs) f)
    induction hs with
    | nil => trivial
    | cons q r ih =>
      obtain ⟨⟨he, h1⟩, h2⟩ := hh
      unfold lookM
      by_cases e : n' = q.1
      · rw [if_pos e]
        subst e
        cases eh : q.2 with
        | ok s =>
          have h3 : ExS X H0 ρ (.Try [.Assign [.Name y py] call pos] [.ExceptHandler (some (.Name x np)) (some n) (b₀ :: suite) pos'] [] [] pos'') (Outc.un i (.nx (eS s))) :=
            sx_try (i := i) (m := q.1) (ρ1 := ρ) hst hfr nd hc he (fun pn xe hp => ex_one (sx_setX (X := X.tr pn xe) (hb pn xe hp) nd hj hy (hsw pn xe) hf)) (fun a C oe pn hC hz hf => by
              have := h1 a C oe pn hC hz hf
              rw [eh] at this
              exact this) trivial hi hln
          have h4 : Outc.un i (.nx (eS s)) = .nx (eS s) := by
            show Outc.nx ((eS s).set i .no) = _
            rw [hno s]
          rw [h4] at h3
          exact xm_then h3 (tt s)
        | ex _ => trivial
        | far => trivial
      · rw [if_neg e]
        exact ih h2
  | far => trivial
end
/-! ### == of texts that may be None -/
theorem eqs_optS : ∀ x y : Option (List Nat), PyData.eqv (pd (optd tx x)) (pd (optd tx y)) = decide (x = y)
  | none, none => by rfl
  | none, some l => by rfl
  | some l, none => by rfl
  | some l, some m => by
    have := eqs_str l m
    show PyData.eqv (pd (tx l)) (pd (tx m)) = _
    rw [this]
    by_cases h : l = m
    · subst h; simp
    · rw [decide_eq_false h, decide_eq_false (fun q => h (Option.some.inj q))]
end B

namespace L2
open PySem PySem.Spec PyProof.Rows
/-! ### enumerate(text) -/
def ItS (x : Str) : It := ⟨fun i _ => i < x.cps.size, fun i H v H' => ∃ T c, v = .ref T ∧ H T = none ∧ H' = upd H T (.tup [.int (i : Nat), .str ⟨#[c]⟩]) ∧ x.cps[i]? = some c, fun i _ => i = x.cps.size⟩
theorem turn_enumS {P : Program} {w : World} {K : PySem.W.Frag} {elts : List Expr} {kk : Nat} {tpos : Pos} (e it : Addr) (x : Str) (t : Tok) (ty : String) (hty : ty = "str_ascii_iterator" ∨ ty = "str_iterator") :
    Turn P w K (.Tuple elts kk tpos) (ItS x) [e, it] e (fun i h => (∃ old, IsEnum h e it ((i : Nat) : Int) old) ∧ h.IsStrIter it ty x t i ∧ e ≠ it) where
  mem := by simp
  obj := fun i h st b hb => by
    obtain ⟨⟨old, he⟩, ⟨o, ho, hc, hd⟩, _⟩ := st
    have e' : b = e ∨ b = it := by simpa using hb
    rcases e' with z | z
    · rw [z]; exact ⟨_, he, fun v q => nomatch q⟩
    · rw [z]; exact ⟨o, ho, fun v q => by rw [hd] at q; cases q⟩
  keep := fun i h h' st k => let ⟨⟨old, he⟩, ⟨o, ho, r⟩, hne⟩ := st; ⟨⟨old, k e (by simp) _ he⟩, ⟨o, k it (by simp) o ho, r⟩, hne⟩
  item := by
    intro X hP hw hK hc i pins s σ H E I hf st hg
    subst hP hw hK
    obtain ⟨⟨old, he⟩, hit, hne⟩ := st
    have hel : e < s.heap.objs.size := Heap.lt_size he
    have hil : it < s.heap.objs.size := by obtain ⟨_, q, _⟩ := hit; exact Heap.lt_size q
    have D : Draws X.prog X.w X.A.in1 it [it] x.cps.size (fun i v => ∃ c u, x.cps[i]? = some c ∧ v = .str ⟨#[c]⟩ u) (fun i h => h.IsStrIter it ty x t i) := by
      rcases hty with z | z
      · rw [z]; exact Draws.strAscii (A := X.A.in1) (I.ok.hd hc) it x t
      · rw [z]; exact Draws.strWide (A := X.A.in1) (I.ok.hd hc) it x t
    refine wpAny_pyNext_enum_itemD D he hit hg hne (by simp [hne]) fun v h' tk hv ho hit' hT hsz hk => ?_
    obtain ⟨c, u, hcx, rfl⟩ := hv
    refine ⟨_, rfl, wpAny_letOwnedTupleGo_enum (s := { s with heap := h', toks := tk + 1 }) ho fun h'' he' sb => ?_⟩
    have hT2 : h''.get? s.heap.objs.size = some { cls := .type "tuple", data := .seq #[.int i tk, .str ⟨#[c]⟩ u] } := (sb.2 _ (Nat.ne_of_gt hel)).trans hT
    have new : ObjOk X.prog X.w (upd H s.heap.objs.size (.tup [.int (i : Nat), .str ⟨#[c]⟩])) h'' s.heap.objs.size (.tup [.int (i : Nat), .str ⟨#[c]⟩]) :=
      ⟨by show 2 ≤ sizeLine; decide, [.int i tk, .str ⟨#[c]⟩ u], .cons ⟨_, rfl⟩ (.cons ⟨_, rfl⟩ .nil), ⟨_, hT2, rfl, _, rfl⟩⟩
    have I1 : Inv X pins σ (upd H s.heap.objs.size (.tup [.int (i : Nat), .str ⟨#[c]⟩])) { s with heap := h'', toks := tk + 1 } :=
      I.turnedNew (ch := [e, it]) (fun b ob hb q => (sb.2 b (fun z => hb (by simp [z]))).trans (hk b ob (fun z => hb (by simp [z])) (fun z => hb (by simp [z])) q)) hf (Nat.le_refl _) new
    refine ⟨.ref s.heap.objs.size, _, I1, rfl, ⟨_, c, rfl, I.hok.fresh (Nat.le_refl _), rfl, hcx⟩, ⟨⟨.str ⟨#[c]⟩ u, ?_⟩, ?_, hne⟩, fun b hb => ?_⟩
    · have e1 : ((i + 1 : Nat) : Int) = (i : Int) + 1 := by omega
      rw [e1]; exact he'
    · obtain ⟨o, ho', r⟩ := hit'
      exact ⟨o, (sb.2 it (Ne.symm hne)).trans ho', r⟩
    · have hb' : b < s.heap.objs.size := by
        have e' : b = e ∨ b = it := by simpa using hb
        rcases e' with z | z
        · rw [z]; exact hel
        · rw [z]; exact hil
      rw [upd_ne (Nat.ne_of_lt hb')]
      exact (hf b hb).1
  done := by
    intro X hP hw hK hc i pins s σ H E I hf st hg
    subst hP hw hK
    obtain ⟨⟨old, he⟩, hit, hne⟩ := st
    have hg' : i = x.cps.size := hg
    subst hg'
    obtain ⟨f0, f1, f2, f3, f4, f5⟩ := hf it (by simp)
    have D : Draws X.prog X.w X.A.in1 it [it] x.cps.size (fun i v => ∃ c u, x.cps[i]? = some c ∧ v = .str ⟨#[c]⟩ u) (fun i h => h.IsStrIter it ty x t i) := by
      rcases hty with z | z
      · rw [z]; exact Draws.strAscii (A := X.A.in1) (I.ok.hd hc) it x t
      · rw [z]; exact Draws.strWide (A := X.A.in1) (I.ok.hd hc) it x t
    exact wpAny_pyNext_enum_endD D he hit fun h' eb => ⟨rfl, I.turned (t' := s.toks) (fun b o hb q => eb b o hb q) f0 f1 f3 f4 f5⟩
  self := fun A i s Q E st h => let ⟨⟨_, he⟩, _⟩ := st; wpAny_pyIter_enum he h
def iEnumS (ta : TA) : TI := fun σ H R => ta σ H fun vs H1 => ∃ x, vs = [.str x] ∧ R (ItS x) H1
theorem pi_enumS {X : Cx} {e : Expr} {ta : TA} {p pos tpos : Pos} {elts : List Expr} {kk : Nat} (hg : Gl X "enumerate") (hm : X.mg "enumerate" = none) (ha : PA X [e] ta) (hs : starEach [e] X.env = [(false, eval e X.env)] := by rfl) :
    PI X (.Tuple elts kk tpos) (.Call (.Name "enumerate" p) [e] [] pos) (iEnumS ta) := by
  refine ⟨fun pins s σ H R I h => ?_⟩
  refine Call_ (ld_blt I hg hm boot_enumerate (PyProof.Rows.callWith_type1 (thn (ha.run pos pins s σ H _ I h) fun us s1 ⟨vs, H1, I1, r1, q1⟩ => ?_) hs rfl))
  obtain ⟨x, ex, q⟩ := q1
  subst ex
  cases r1 with
  | cons r rr =>
    cases rr
    obtain ⟨t, rfl⟩ := r
    refine call_enumerate_str fun h' he hit hsz hk => wpAny_pyIter_enum he ?_
    have I2 : Inv X pins σ H1 { s1 with heap := h' } := I1.kept (t' := s1.toks) hk
    have hty : strIterType x = "str_ascii_iterator" ∨ strIterType x = "str_iterator" := by
      unfold strIterType
      split
      · exact .inl rfl
      · exact .inr rfl
    refine ⟨s1.heap.objs.size + 1, [s1.heap.objs.size + 1, s1.heap.objs.size], _, _, H1, rfl, I2, turn_enumS (s1.heap.objs.size + 1) s1.heap.objs.size x t _ hty, ⟨⟨.none, he⟩, hit, Nat.succ_ne_self _⟩, fun b hb => ?_, q⟩
    have e' : b = s1.heap.objs.size + 1 ∨ b = s1.heap.objs.size := by simpa using hb
    have hle : s1.heap.objs.size ≤ b := by
      rcases e' with z | z
      · rw [z]; exact Nat.le_add_right _ _
      · rw [z]; exact Nat.le_refl _
    exact I1.fpOk hle (I1.hok.fresh hle)
end L2
namespace B
open PySem PySem.Spec PyProof.Rows L2 PySem.Builtin.Str PySem.Builtin
/-- the signs of a text, each with its place -/
def enumL (l : List Nat) : List (Int × Nat) := (rng 0 1 l.length).zip l
section
variable {X : Cx} {H0 : Hp} {ρ ρ1 : Env'} {α β γ S S' L R : Type} {a b c e call : Expr} {st : Stmt} {rest body : List Stmt} {d : Dat} {ds : List Dat} {p pos apos : Pos} {k : Nat} {D : γ → Outc}
theorem it_enumS {l : List Nat} {elts : List Expr} {kk : Nat} {tpos : Pos} (h : Ev X H0 ρ e (tx l)) (hm : X.mg "enumerate" = none) (hg : Gl X "enumerate" := by rfl) (hs : starEach [e] X.env = [(false, eval e X.env)] := by rfl) :
    Iter X H0 ρ (.Tuple elts kk tpos) (.Call (.Name "enumerate" p) [e] [] pos) ((enumL l).map (tup2 Dat.int chd)) := ⟨_, pi_enumS hg hm pa_w hs, fun σ H N r R k => (ea_cons h ea_nil (hs := hs) σ H N r).imp fun vs H' ⟨N', s, n, r', q⟩ => by
  have hv : vs = [.str (SX.S l)] := by
    cases q with
    | cons a t => cases t; rw [at_str a]
  refine ⟨SX.S l, hv, k _ H' N' n s r' fun H02 ρ2 σ2 H2 N2 i s02 s2 r2 => ?_⟩
  have hsz : (SX.S l).cps.size = l.length := by simp [SX.S]
  have hll : (enumL l).length = l.length := by unfold enumL; rw [List.length_zip]; unfold rng; simp
  refine ⟨fun hi => ?_, fun hi => ?_⟩
  · rw [List.length_map, hll] at hi
    refine ⟨by show i < (SX.S l).cps.size; rw [hsz]; exact hi, fun x H3 y => ?_⟩
    obtain ⟨T, c, rfl, hT, rfl, hc⟩ := y
    obtain ⟨r3, n3⟩ := r2.new (o := .tup [.int (i : Nat), .str ⟨#[c]⟩]) hT
    have hc2 : l[i]? = some c := by
      have : (SX.S l).cps[i]? = l[i]? := by simp [SX.S]
      rw [← this]; exact hc
    have hr : (rng 0 1 l.length)[i]? = some ((i : Nat) : Int) := by
      unfold rng
      rw [List.getElem?_map, List.getElem?_range hi]
      simp
    refine ⟨_, .tup [.int (i : Nat), .str ⟨#[c]⟩], n3, Same.of_none hT, r3, ?_, .tup (.inl (.inl upd_same)) (.cons (.int _) (.cons (.str _) .nil))⟩
    rw [List.getElem?_map]
    have hz : (enumL l)[i]? = some (((i : Nat) : Int), c) := by
      unfold enumL
      rw [List.getElem?_zip_eq_some]
      exact ⟨hr, hc2⟩
    rw [hz]
    rfl
  · rw [List.length_map, hll] at hi
    show i = (SX.S l).cps.size
    rw [hsz]; exact hi⟩
/-- divmod -/
theorem ev_divmod {i j : Int} (ha : Ev X H0 ρ a (.int i)) (hb : Ev X H0 ρ b (.int j)) (hj : 0 < j ∧ j < 1073741824) (hm : X.mg "divmod" = none) (hg : Gl X "divmod" := by rfl) (he : starEach [a, b] X.env = (false, eval a X.env) :: starEach [b] X.env := by rfl) (he2 : starEach [b] X.env = (false, eval b X.env) :: starEach [] X.env := by rfl) (hpl : (backTo pos (starEach [b] X.env)).any (·.1) = false := by rfl) :
    Ev X H0 ρ (.Call (.Name "divmod" p) [a, b] [] pos) (tup2 Dat.int Dat.int (i / j, i % j)) := ev_blt call_divmod hm (by decide +kernel) (eab_cons ha.toB (eab_cons hb.toB eab_nil he2) he) (fun vs σ H N Q r q g => by
    obtain ⟨v, w, rfl, a1, a2⟩ := ats_two q
    rw [at_int a1, at_int a2]
    refine ⟨i, j, rfl, hj, fun T hT => ?_⟩
    obtain ⟨r3, n3⟩ := r.new (o := .tup [.int (i / j), .int (i % j)]) hT
    exact g _ _ _ (Same.of_none hT) n3 r3 (.tup (.inl (.inl upd_same)) (.cons (.int _) (.cons (.int _) .nil)))) hg (by decide) (by decide) he hpl
/-- s.zfill(n) -/
def zfl (l : List Nat) (n : Int) : List Nat := List.replicate (n.toNat - l.length) 48 ++ l
@[irreducible] noncomputable def padOk (n : Int) : Bool := cl (PadOk n = true)
@[irreducible] noncomputable def zflOk (l : List Nat) (n : Int) : Bool := cl (PadOk n = true ∧ l[0]? ≠ some 43 ∧ l[0]? ≠ some 45)
theorem tl_zfill {l : List Nat} {n : Int} (h1 : l[0]? ≠ some 43) (h2 : l[0]? ≠ some 45) : Txt.zfill (SX.S l) n = SX.S (zfl l n) := by
  unfold Txt.zfill
  have hlen : (SX.S l).length = l.length := SX.S_len l
  by_cases c : n ≤ (SX.S l).length
  · rw [if_pos c]
    rw [hlen] at c
    unfold zfl
    rw [show n.toNat - l.length = 0 by omega]
    rfl
  · rw [if_neg c]
    rw [hlen] at c ⊢
    have e0 : (SX.S l).cps[0]? = l[0]? := by simp [SX.S]
    unfold zfilled
    rw [e0]
    split
    · rename_i h; exact absurd h h1
    · rename_i h; exact absurd h h2
    · apply TL.ext_tl
      unfold zfl padded
      simp [TL.tl, SX.S]
theorem ev_zfill {l : List Nat} {n : Int} (ha : Ev X H0 ρ a (tx l)) (hb : Ev X H0 ρ b (.int n)) (hz : zflOk l n = true) (hs : starEach [b] X.env = [(false, eval b X.env)] := by rfl) (hbase : attributeBase a "zfill" X.env (eval a X.env) = eval a X.env := by rfl) (hline : (apos.endLine == pos.line) = true := by rfl) :
    Ev X H0 ρ (.Call (.Attribute a "zfill" apos) [b] [] pos) (tx (zfl l n)) := by
  unfold zflOk at hz
  obtain ⟨h0, h1, h2⟩ := cl_of hz
  exact ev_m1 F.slot_str_zfill F.type_str_zfill mt_zfill ha hb.toB (fun v σ H N Q r q g => by
    rw [at_int q]
    exact ⟨SX.S l, n, rfl, rfl, h0, by rw [tl_zfill h1 h2]; exact goes_self g r (.str _)⟩) hs hbase hline
/-- s.ljust(n, c) -/
def ljs (l : List Nat) (n : Int) (c : Nat) : List Nat := l ++ List.replicate (n.toNat - l.length) c
theorem mt_ljust2 {X : Cx} : MtR X "str.ljust" (fun x xs H Q => ∃ (a : Str) (i : Int) (c : Nat), x = .str a ∧ xs = [.int i, .str ⟨#[c]⟩] ∧ PadOk i = true ∧ Q (.str (Txt.ljustF a i c)) H) := by
  intro pins s σ H x xs v us Q I rx rs h
  obtain ⟨a, i, c, rfl, rfl, hc, q⟩ := h
  obtain ⟨t, rfl⟩ := rx
  cases rs with
  | cons r1 rs =>
    cases rs with
    | cons r2 rs =>
      cases rs
      obtain ⟨u, rfl⟩ := r1
      obtain ⟨z, rfl⟩ := r2
      exact ljust_fill hc rfl fun t' k => ⟨.str (Txt.ljustF a i c), H, I.tok k, ⟨t', rfl⟩, q⟩
theorem tl_ljust {l : List Nat} {n : Int} {c : Nat} : Txt.ljustF (SX.S l) n c = SX.S (ljs l n c) := by
  have h := ljustF_list (SX.S l) n c
  have e : (SX.S l).length = l.length := SX.S_len l
  apply TL.ext_tl
  show (Txt.ljustF (SX.S l) n c).cps.toList = (SX.S (ljs l n c)).cps.toList
  rw [h, e]
  simp [SX.S, ljs]
theorem ev_ljust2 {l : List Nat} {n : Int} {q : Nat} (ha : Ev X H0 ρ a (tx l)) (hb : Ev X H0 ρ b (.int n)) (hq : Ev X H0 ρ c (tx [q])) (hz : padOk n = true)
    (hpe : ∀ to t, PE X a to → PA X [b, c] t → PE X (.Call (.Attribute a "ljust" apos) [b, c] [] pos) (tBMS X.K "str" (fun _ x xs H Q => ∃ (a : Str) (i : Int) (c : Nat), x = .str a ∧ xs = [.int i, .str ⟨#[c]⟩] ∧ PadOk i = true ∧ Q (.str (Txt.ljustF a i c)) H) to t) := by exact fun _ _ h g => pe_bmS PySem.F.plainAttrs_str PySem.F.slot_str_ljust PySem.F.type_str_ljust mt_ljust2.toS h g)
    (he : starEach [b, c] X.env = (false, eval b X.env) :: starEach [c] X.env := by rfl) (he2 : starEach [c] X.env = (false, eval c X.env) :: starEach [] X.env := by rfl) : Ev X H0 ρ (.Call (.Attribute a "ljust" apos) [b, c] [] pos) (tx (ljs l n q)) := fun σ H N rp =>
  we_of (hpe _ _ pe_w (pa_cons pe_w (pa_cons pe_w pa_nil he2) he)) ((ha σ H N rp).imp fun v H1 ⟨N1, s1, n1, r1, a1⟩ => by
    unfold padOk at hz
    rw [at_str a1]
    refine ⟨rfl, (hb σ H1 N1 r1).imp fun w H2 ⟨N2, s2, n2, r2, a2⟩ => ?_⟩
    rw [at_int a2]
    refine (hq σ H2 N2 r2).imp fun w3 H3 ⟨N3, s3, n3, r3, a3⟩ => ?_
    rw [at_str a3]
    exact ⟨SX.S l, n, q, rfl, rfl, cl_of hz, N3, (s1.trans s2).trans s3, (n1.trans n2).trans n3, r3, by rw [tl_ljust]; exact .str _⟩)
/-- str(a whole number) -/
def strN (i : Int) : List Nat := (PySem.Str.ofString (toString i)).cps.toList
@[irreducible] noncomputable def strNOk (i : Int) : Bool := cl (i.natAbs.log2 < 1920)
theorem strN_S (i : Int) : SX.S (strN i) = PySem.Str.ofString (toString i) := by
  apply TL.ext_tl
  simp [TL.tl, SX.S, strN]
theorem ev_strN {i : Int} (ha : Ev X H0 ρ a (.int i)) (h : strNOk i = true) (hm : X.mg "str" = none) (hg : Gl X "str" := by rfl) (he : starEach [a] X.env = (false, eval a X.env) :: starEach [] X.env := by rfl) (hpl : (backTo pos (starEach [] X.env)).any (·.1) = false := by rfl) : Ev X H0 ρ (.Call (.Name "str" p) [a] [] pos) (tx (strN i)) := ev_ty call_str_int hm (by decide +kernel) (eab1 ha.toB he) (fun vs σ H N Q r q g => by
    unfold strNOk at h
    obtain ⟨v, e1, e2⟩ := ats_one q
    rw [at_int e2] at e1
    exact ⟨i, e1, cl_of h, by
      have := goes_self g r (.str (SX.S (strN i)))
      rw [strN_S] at this
      exact this⟩) hg (by decide) (by decide) he hpl
/-! ### try: y = f(..) / except ..: .. / else: .., where f raises nothing -/
theorem xm_tryE {mb : M β} {eb : β → Dat} {f : β → M γ} {h₀ : ExceptHandler} {hs : List ExceptHandler} {orelse : List Stmt} {py pos pos'' : Pos} {y : Str} (j : Nat) (hD : ∀ g, (D g).out) (nd : X.N.Nodup)
    (hb : EvM X.nox H0 ρ call eb mb) (te : ∀ r, ExM X H0 (ρ.set j (.im (eb r))) k orelse D (f r))
    (hj : X.N[j]? = some y := by rfl) (hy : Loc X.env.scope y := by first | exact Or.inl rfl | exact Or.inr rfl)
    (hsw : swapsWith call (some (.Name y py)) pos.line X.env = pure false := by rfl) (hf : X.fn y = true ∨ X.env.scope.names.lookup y = some .local := by first | exact .inl rfl | exact .inr rfl | assumption) :
    ExM X H0 ρ k (.Try [.Assign [.Name y py] call pos] (h₀ :: hs) orelse [] pos'' :: rest) D (M.bind (M.nox mb) f) := by
  cases mb with
  | ok r =>
    have go : ∀ {o : Outc}, Exec X H0 (ρ.set j (.im (eb r))) orelse o → ExS X H0 ρ (.Try [.Assign [.Name y py] call pos] (h₀ :: hs) orelse [] pos'') o := fun {o} h DD σ H N rp c => by
      refine ws_of (ps_try_thru (t := WB X.nox [.Assign [.Name y py] call pos]) (u := WB X orelse) pb_w pb_w) ?_
      have h1 : Exec X.nox H0 ρ [.Assign [.Name y py] call pos] (.nx (ρ.set j (.im (eb r)))) := ex_one (sx_set (X := X.nox) j hb nd rfl hj hy hsw hf)
      exact h1 { DD with nx := WB X orelse DD } σ H N rp fun σ' H' N' s r' => h DD σ' H' N' r' (c.mono s)
    have h2 := te r
    show ExM X H0 ρ k _ D (f r)
    cases e : f r with
    | ok v => rw [e] at h2; exact ex_out (go h2) (hD v)
    | ex n => rw [e] at h2; exact ex_out (go h2) trivial
    | far => trivial
  | ex n => trivial
  | far => trivial
end
section
variable {X : Cx} {H0 : Hp} {ρ : Env'} {α : Type} {e : Expr} {es : List Expr} {ds : List Dat} {p pos : Pos} {x : Str} {m : M α} {en : α → Dat}
/-- a call that leaves the last one to its default, a text; it may raise -/
theorem evm_callDX {R : List Dat → Res → Prop} {kk : Nat} {z : Str} (G : GFnD X.prog X.w X.K X.mg X.base x kk (.str z) R) (hr : Room kk X.A) (ha : EvAB X H0 ρ (e :: es) ds) (q : ∀ o, Rm en m o → R (ds ++ [.str z]) o) (hg : Gl X x := by rfl) (hdb : (x == ("__debug__" : Str)) = false := by decide)
    (he : starEach (e :: es) X.env = (false, eval e X.env) :: starEach es X.env := by rfl) (hpl : (backTo pos (starEach es X.env)).any (·.1) = false := by rfl) : EvM X H0 ρ (.Call (.Name x p) (e :: es) [] pos) en m := by
  cases m with
  | ok v => exact evm_callD (m := .ok v) G hr ha q hg hdb he hpl
  | ex n =>
    intro σ H N r W tk kw Q
    obtain ⟨f, fd, ps, F, hm, hk, _, d, hv, hb⟩ := G
    refine we_of (pe_callSD F hr hg hm hk hb hv (fun σ => passAt tk σ) pa_w hdb he hpl) ((ha σ H N r).imp fun vs H1 ⟨N1, s1, n1, r1, a1⟩ => ⟨ds ++ [.str z], .exc n, q _ rfl, a1.append (.cons (.str z) .nil), fun C H' hC s' => ?_⟩)
    exact kw C H' N1 hC n1 (r1.grow s')
  | far => trivial
end
theorem eqs_chr : ∀ x y : Nat, PyData.eqv (pd (chd x)) (pd (chd y)) = decide (x = y) := fun x y => by
  have := eqs_str [x] [y]
  show PyData.eqv (pd (tx [x])) (pd (tx [y])) = _
  rw [this]
  by_cases h : x = y
  · subst h; simp
  · rw [decide_eq_false h, decide_eq_false (fun q => h (by cases q; rfl))]
end B

namespace B
open PySem PySem.Spec PyProof.Rows L2
theorem execs_one (st : Stmt) (env : PySem.Env) : execs [st] env = exec st env := by
  have h : execs [st] env = (exec st env >>= fun f => pure f) := by
    show (exec st env >>= fun f => match f with | .next => execs [] env | f => pure f) = _
    congr 1
    funext f
    cases f <;> rfl
  rw [h]
  exact bind_pure _
/-! ### a dict of one's own whose values are lists of one's own -/
theorem own_ne {K : PySem.W.Frag} {H0 H N : Hp} {ρ : Env'} {σ : L2.St} (r : Rep K H0 ρ σ H N) {a : Addr} {u : HO} (h : H0 a = some u) (j : Nat) (d' : Dat) (e : ρ[j]? = some (Ent.ow d')) : σ[j]? ≠ some (some (V.ref a)) := fun z => by
  obtain ⟨p, a1, a2, _⟩ := r.ow j d' e
  rw [a1] at z
  cases z
  rw [a2] at h
  cases h
theorem n_of {K : PySem.W.Frag} {H0 H N : Hp} {ρ : Env'} {σ : L2.St} (r : Rep K H0 ρ σ H N) {a : Addr} {u : HO} (h : H0 a = some u) (m : Mut (some u)) : N a = none := by
  cases q : N a with
  | none => rfl
  | some w =>
    have e1 := r.sub a w q
    rw [r.old a u h] at e1
    cases e1
    have := r.fresh a u q m
    rw [h] at this
    cases this
/-- what was there ahead is changed at an address, or grows by one: nobody here holds on to it -/
theorem Rep.upd0 {K : PySem.W.Frag} {H0 H N : Hp} {ρ : Env'} {σ : L2.St} (r : Rep K H0 ρ σ H N) (hn : noOl ρ) {a : Addr} {o : HO} (m : Mut (some o)) (na : N a = none) (ho : ∀ (j : Nat) (d' : Dat), ρ[j]? = some (Ent.ow d') → σ[j]? ≠ some (some (V.ref a))) : Rep K (upd H0 a o) ρ σ (upd H a o) N := by
  refine ⟨fun b u e => ?_, fun b u e => ?_, fun b u e => ?_, fun b u e mu => ?_, r.len, r.im, fun j d e => absurd e (hn j d), fun j d e => ?_, r.rf, r.apart⟩
  · by_cases q : b = a
    · subst q; rw [upd_same] at e ⊢; exact e
    · rw [upd_ne q] at e ⊢; exact r.old b u e
  · have q : b ≠ a := fun q => by rw [q, na] at e; cases e
    rw [upd_ne q]; exact r.sub b u e
  · have mu := imm_not e
    have e1 := imm_sub _ _ _ e
    by_cases q : b = a
    · subst q; rw [upd_same] at e1; cases e1; exact absurd m mu
    · rw [upd_ne q] at e1; exact r.imm b u (imm_of e1 mu)
  · have q : b ≠ a := fun q => by rw [q, na] at e; cases e
    rw [upd_ne q]; exact r.fresh b u e mu
  · obtain ⟨p, a1, a2, a3, a4⟩ := r.ow j d e
    have q : p ≠ a := fun q => ho j d e (q ▸ a1)
    refine ⟨p, a1, by rw [upd_ne q]; exact a2, a3, ?_⟩
    cases d with
    | lst ds => obtain ⟨vs, b1, b2⟩ := a4; exact ⟨vs, by rw [upd_ne q]; exact b1, b2⟩
    | dic ds => obtain ⟨vs, b1, b2⟩ := a4; exact ⟨vs, by rw [upd_ne q]; exact b1, b2⟩
    | non => exact a4.elim
    | bl _ => exact a4.elim
    | int _ => exact a4.elim
    | str _ => exact a4.elim
    | tup _ => exact a4.elim
noncomputable def Un (H0 Hs : Hp) : Hp := fun a => match Hs a with
  | some u => some u
  | none => H0 a
theorem un_some {H0 Hs : Hp} {a : Addr} {u : HO} (h : Hs a = some u) : Un H0 Hs a = some u := by unfold Un; rw [h]
theorem un_none {H0 Hs : Hp} {a : Addr} (h : Un H0 Hs a = none) : Hs a = none ∧ H0 a = none := by
  unfold Un at h
  cases e : Hs a with
  | some u => rw [e] at h; cases h
  | none => rw [e] at h; exact ⟨rfl, h⟩
theorem un_upd {H0 Hs : Hp} {a : Addr} {o : HO} : Un H0 (upd Hs a o) = upd (Un H0 Hs) a o := by
  funext b
  by_cases q : b = a
  · subst q
    rw [upd_same]
    exact un_some upd_same
  · rw [upd_ne q]
    unfold Un
    rw [upd_ne q]
theorem upd_id {H : Hp} {a : Addr} {o : HO} (h : H a = some o) : upd H a o = H := by
  funext b
  by_cases q : b = a
  · subst q; rw [upd_same, h]
  · rw [upd_ne q]
section
variable {α : Type} {K : PySem.W.Frag} {en : α → Dat}
inductive Rws (K : PySem.W.Frag) (N Hs : Hp) (en : α → Dat) : List (List Nat × List α) → List Addr → List (Key × V) → Prop where
  | nil : Rws K N Hs en [] [] []
  | cons {k : List Nat} {l : List α} {T : List (List Nat × List α)} {q : Addr} {qs : List Addr} {ws : List V} {kvs : List (Key × V)} : Hs q = some (.lst ws) → Ats K N ws (l.map en) → Rws K N Hs en T qs kvs → Rws K N Hs en ((k, l) :: T) (q :: qs) (((Sum.inr (SX.S k) : Key), .ref q) :: kvs)
theorem Rws.mono {N N' Hs : Hp} (s : Same N N') {T : List (List Nat × List α)} {qs : List Addr} {kvs : List (Key × V)} (h : Rws K N Hs en T qs kvs) : Rws K N' Hs en T qs kvs := by
  induction h with
  | nil => exact .nil
  | cons a b _ ih => exact .cons a (b.mono s) ih
theorem Rws.updH {N Hs : Hp} {a : Addr} {o : HO} {T : List (List Nat × List α)} {qs : List Addr} {kvs : List (Key × V)} (h : Rws K N Hs en T qs kvs) (ha : a ∉ qs) : Rws K N (upd Hs a o) en T qs kvs := by
  induction h with
  | nil => exact .nil
  | cons e b _ ih =>
    rw [List.mem_cons, not_or] at ha
    exact .cons (by rw [upd_ne (Ne.symm ha.1)]; exact e) b (ih ha.2)
theorem Rws.snoc {N Hs : Hp} {k : List Nat} {l : List α} {q : Addr} {ws : List V} (e : Hs q = some (.lst ws)) (b : Ats K N ws (l.map en)) {T : List (List Nat × List α)} {qs : List Addr} {kvs : List (Key × V)} (h : Rws K N Hs en T qs kvs) : Rws K N Hs en (T ++ [(k, l)]) (qs ++ [q]) (kvs ++ [((Sum.inr (SX.S k) : Key), .ref q)]) := by
  induction h with
  | nil => exact .cons e b .nil
  | cons e' b' _ ih => exact .cons e' b' ih
theorem Rws.len {N Hs : Hp} {T : List (List Nat × List α)} {qs : List Addr} {kvs : List (Key × V)} (h : Rws K N Hs en T qs kvs) : kvs.length = T.length := by
  induction h with
  | nil => rfl
  | cons _ _ _ ih => rw [List.length_cons, List.length_cons, ih]
theorem Rws.mem {N Hs : Hp} {T : List (List Nat × List α)} {qs : List Addr} {kvs : List (Key × V)} (h : Rws K N Hs en T qs kvs) : ∀ q ∈ qs, ∃ ws, Hs q = some (.lst ws) := by
  induction h with
  | nil => intro q hq; cases hq
  | cons e b _ ih =>
    intro q hq
    rcases List.mem_cons.mp hq with rfl | hq
    · exact ⟨_, e⟩
    · exact ih q hq
theorem Rws.any {N Hs : Hp} {T : List (List Nat × List α)} {qs : List Addr} {kvs : List (Key × V)} (h : Rws K N Hs en T qs kvs) (k : List Nat) : (kvs.any fun kv => decide (kv.1 = (Sum.inr (SX.S k) : Key))) = T.any fun p => decide (p.1 = k) := by
  induction h with
  | nil => rfl
  | @cons k' l T q qs ws kvs _ _ _ ih =>
    rw [List.any_cons, List.any_cons, ih]
    congr 1
    by_cases e : k' = k
    · subst e; simp
    · have : ¬ ((Sum.inr (SX.S k') : Key) = Sum.inr (SX.S k)) := fun z => e (SX.S_inj (Sum.inr.inj z))
      rw [decide_eq_false this, decide_eq_false e]
/-- the dict as data -/
theorem Rws.atk {N Hs : Hp} (hs : Same N Hs) {T : List (List Nat × List α)} {qs : List Addr} {kvs : List (Key × V)} (h : Rws K N Hs en T qs kvs) : Atk K Hs kvs (dm (lstd en) T) := by
  induction h with
  | nil => exact .nil
  | cons e b _ ih => exact .cons (.lst (.inl (.inl e)) (b.mono hs)) ih
theorem Rws.atk2 {N Hs G : Hp} (hs : Same N G) (hg : Same Hs G) {T : List (List Nat × List α)} {qs : List Addr} {kvs : List (Key × V)} (h : Rws K N Hs en T qs kvs) : Atk K G kvs (dm (lstd en) T) := by
  induction h with
  | nil => exact .nil
  | cons e b _ ih => exact .cons (.lst (.inl (.inl (hg _ _ e))) (b.mono hs)) ih
theorem Rws.flat {N Hs G : Hp} (f : ∀ a, flat (en a) = true) (hs : Same (Imm N) G) (hg : Same Hs G) {T : List (List Nat × List α)} {qs : List Addr} {kvs : List (Key × V)} (h : Rws K N Hs en T qs kvs) : Atk K G kvs (dm (lstd en) T) := by
  induction h with
  | nil => exact .nil
  | @cons k l T q qs ws kvs e b _ ih => exact .cons (.lst (.inl (.inl (hg _ _ e))) ((b.imm (flats_map f l)).mono hs)) ih
/-- the value of a key put otherwise -/
def dset (T : List (List Nat × List α)) (k : List Nat) (l' : List α) : List (List Nat × List α) := match T with
  | [] => []
  | p :: T => if p.1 = k then (p.1, l') :: T else p :: dset T k l'
theorem Rws.at_ {N Hs : Hp} {k : List Nat} {l : List α} {T : List (List Nat × List α)} {qs : List Addr} {kvs : List (Key × V)} (h : Rws K N Hs en T qs kvs) (hq : qs.Nodup) (hl : dget T k = some l) :
    ∃ q ws, q ∈ qs ∧ Hs q = some (.lst ws) ∧ Ats K N ws (l.map en) ∧ valV kvs (Sum.inr (SX.S k) : Key) = some (.ref q) ∧ ∀ N' ws' l', Same N N' → Ats K N' ws' (l'.map en) → Rws K N' (upd Hs q (.lst ws')) en (dset T k l') qs kvs := by
  induction h with
  | nil => cases hl
  | @cons k' l0 T q qs ws kvs e b h ih =>
    rw [List.nodup_cons] at hq
    rw [dget_cons] at hl
    by_cases c : k' = k
    · rw [if_pos c] at hl
      cases hl
      subst c
      refine ⟨q, ws, List.mem_cons_self, e, b, valV_pos rfl, fun N' ws' l' s a => ?_⟩
      unfold dset
      rw [if_pos rfl]
      exact .cons upd_same a ((h.mono s).updH hq.1)
    · rw [if_neg c] at hl
      obtain ⟨q', ws', a1, a2, a3, a4, a5⟩ := ih hq.2 hl
      have ne : ¬ ((Sum.inr (SX.S k') : Key) = Sum.inr (SX.S k)) := fun z => c (SX.S_inj (Sum.inr.inj z))
      refine ⟨q', ws', List.mem_cons_of_mem _ a1, a2, a3, by rw [valV_neg ne]; exact a4, fun N' ws2 l' s a => ?_⟩
      unfold dset
      rw [if_neg c]
      have nq : q ≠ q' := fun z => hq.1 (z ▸ a1)
      exact .cons (by rw [upd_ne nq]; exact e) (b.mono s) (a5 N' ws2 l' s a)
structure Nst (K : PySem.W.Frag) (N Hs : Hp) (p : Addr) (en : α → Dat) (T : List (List Nat × List α)) (qs : List Addr) (kvs : List (Key × V)) : Prop where
  r : Rws K N Hs en T qs kvs
  top : Hs p = some (.dK kvs)
  nd : (p :: qs).Nodup
  dom : ∀ a u, Hs a = some u → a ∈ p :: qs
theorem Nst.mut {N Hs : Hp} {p : Addr} {T : List (List Nat × List α)} {qs : List Addr} {kvs : List (Key × V)} (h : Nst K N Hs p en T qs kvs) {a : Addr} {u : HO} (e : Hs a = some u) : Mut (some u) := by
  rcases List.mem_cons.mp (h.dom a u e) with rfl | m
  · rw [h.top] at e; cases e; exact True.intro
  · obtain ⟨ws, e2⟩ := h.r.mem a m
    rw [e2] at e; cases e; exact True.intro
theorem Nst.mono {N N' Hs : Hp} (s : Same N N') {p : Addr} {T : List (List Nat × List α)} {qs : List Addr} {kvs : List (Key × V)} (h : Nst K N Hs p en T qs kvs) : Nst K N' Hs p en T qs kvs := ⟨h.r.mono s, h.top, h.nd, h.dom⟩
def St2 (K : PySem.W.Frag) (H0 : Hp) (i : Nat) (en : α → Dat) (ρ : Env') (T : List (List Nat × List α)) (σ : L2.St) (H N : Hp) : Prop := ∃ p Hs qs kvs, Nst K N Hs p en T qs kvs ∧ (∀ a u, Hs a = some u → H0 a = none) ∧ Rep K (Un H0 Hs) (ρ.set i (.rf p)) σ H N
end
/-- .. ends: on to what follows, or by an error or a value, when the dict is one's own no more -/
inductive Oc2 (α : Type) where
  | nx (ρ : Env') (T : List (List Nat × List α))
  | ex (n : Str) (ρ : Env')
  | rt (d : Dat)
def Cont2 {α : Type} (X : Cx) (H0 N : Hp) (i : Nat) (en : α → Dat) (D : Ends) : Oc2 α → Prop
  | .nx ρ T => ∀ σ H N', Same N N' → St2 X.K H0 i en ρ T σ H N' → D.nx σ H
  | .ex n ρ => ∃ W, Takes X W ∧ ∀ C σ H N', X.mg n = some (.ref C) → Same N N' → Rep X.K H0 ρ σ H N' → W (.ref C) none σ H
  | .rt d => ∀ v H, Same H0 H → Same N H → Ret X.K H0 v d H → D.rt v H
section
variable {α β γ S R : Type} {X : Cx} {H0 : Hp} {i k : Nat} {en : α → Dat} {ρ ρ1 : Env'} {T T1 : List (List Nat × List α)} {st : Stmt} {sts rest body as bs : List Stmt} {b c e : Expr} {p1 pos : Pos} {o : Oc2 α} {D : γ → Oc2 α}
theorem Cont2.mono {N N' : Hp} {DD : Ends} (c : Cont2 X H0 N i en DD o) (s : Same N N') : Cont2 X H0 N' i en DD o := by
  cases o with
  | nx ρ T => exact fun σ H N2 s2 r => c σ H N2 (s.trans s2) r
  | ex n ρ =>
    obtain ⟨W, t, k⟩ := c
    exact ⟨W, t, fun C σ H N2 m s2 r => k C σ H N2 m (s.trans s2) r⟩
  | rt d => exact fun v H a b r => c v H a (s.trans b) r
def Exec2 (X : Cx) (H0 : Hp) (i : Nat) (en : α → Dat) (ρ : Env') (T : List (List Nat × List α)) (sts : List Stmt) (o : Oc2 α) : Prop := ∀ D σ H N, St2 X.K H0 i en ρ T σ H N → Cont2 X H0 N i en D o → WB X sts D σ H
def ExS2 (X : Cx) (H0 : Hp) (i : Nat) (en : α → Dat) (ρ : Env') (T : List (List Nat × List α)) (st : Stmt) (o : Oc2 α) : Prop := ∀ D σ H N, St2 X.K H0 i en ρ T σ H N → Cont2 X H0 N i en D o → WS X st D σ H
def ExM2 (X : Cx) (H0 : Hp) (i : Nat) (en : α → Dat) (ρ : Env') (T : List (List Nat × List α)) (k : Nat) (sts : List Stmt) (D : γ → Oc2 α) (m : M γ) : Prop := match m with
  | .ok v => Exec2 X H0 i en ρ T sts (D v)
  | .ex n => Exec2 X H0 i en ρ T sts (.ex n (List.replicate k .no))
  | .far => True
theorem ex2_nil : Exec2 X H0 i en ρ T [] (.nx ρ T) := fun D σ H N r k => wb_of pss_nil (k σ H N (Same.refl _) r)
theorem ex2_then (h : ExS2 X H0 i en ρ T st (.nx ρ1 T1)) (t : Exec2 X H0 i en ρ1 T1 rest o) : Exec2 X H0 i en ρ T (st :: rest) o := fun D σ H N r c => by
  refine wb_of (pss_cons ps_w pb_w) ?_
  show WS X st { D with nx := WB X rest D } σ H
  exact h _ σ H N r fun σ' H' N' s r' => t D σ' H' N' r' (c.mono s)
theorem ex2_ex {n : Str} {ρ' : Env'} (h : ExS2 X H0 i en ρ T st (.ex n ρ')) : Exec2 X H0 i en ρ T (st :: rest) (.ex n ρ') := fun D σ H N r c => by
  refine wb_of (pss_cons ps_w pb_w) ?_
  show WS X st { D with nx := WB X rest D } σ H
  exact h _ σ H N r c
theorem xm2_then {m : M γ} (h : ExS2 X H0 i en ρ T st (.nx ρ1 T1)) (t : ExM2 X H0 i en ρ1 T1 k rest D m) : ExM2 X H0 i en ρ T k (st :: rest) D m := by
  cases m with
  | ok v => exact ex2_then h t
  | ex n => exact ex2_then h t
  | far => trivial
theorem xm2_gd {m : M γ} {g : Bool} (h : g = true → ExM2 X H0 i en ρ T k sts D m) : ExM2 X H0 i en ρ T k sts D (M.gd g m) := by
  cases g with
  | true => exact h rfl
  | false => trivial
theorem xm2_ofO {ob : Option β} {f : β → M γ} (h : ∀ r, ob = some r → ExM2 X H0 i en ρ T k sts D (f r)) : ExM2 X H0 i en ρ T k sts D (M.bind (M.ofO ob) f) := by
  cases ob with
  | some r => exact h r rfl
  | none => trivial
theorem xm2_bind {mb : M β} {f : β → M γ} (h : ∀ r, mb = .ok r → ExM2 X H0 i en ρ T k sts D (f r)) : ExM2 X H0 i en ρ T k sts D (M.bind (M.nox mb) f) := by
  cases mb with
  | ok r => exact h r rfl
  | ex _ => trivial
  | far => trivial
/-- the end of a block; names that are let go -/
theorem St2.drop {σ : L2.St} {H N : Hp} {K : PySem.W.Frag} (j : Nat) (hj : j ≠ i) (h : St2 K H0 i en ρ T σ H N) : St2 K H0 i en (ρ.set j .no) T σ H N := by
  obtain ⟨p, Hs, qs, kvs, n, d, r⟩ := h
  refine ⟨p, Hs, qs, kvs, n, d, ?_⟩
  rw [List.set_comm _ _ hj]
  exact r.drop j
theorem xm2_end {v : γ} (hD : D v = .nx ρ T := by rfl) : ExM2 X H0 i en ρ T k [] D (.ok v) := by
  show Exec2 X H0 i en ρ T [] (D v)
  rw [hD]
  exact ex2_nil
theorem xm2_drop {m : M γ} (j : Nat) (hj : j ≠ i) (h : ExM2 X H0 i en (ρ.set j .no) T k sts D m) : ExM2 X H0 i en ρ T k sts D m := by
  cases m with
  | ok v => exact fun DD σ H N r c => h DD σ H N (r.drop j hj) c
  | ex n => exact fun DD σ H N r c => h DD σ H N (r.drop j hj) c
  | far => trivial
/-- a statement that doesn't touch the dict -/
theorem sx2_plain (h : ∀ H0' p, ExS X H0' (ρ.set i (.rf p)) st (.nx (ρ1.set i (.rf p)))) : ExS2 X H0 i en ρ T st (.nx ρ1 T) := fun D σ H N ⟨p, Hs, qs, kvs, n, d, r⟩ c =>
  h (Un H0 Hs) p D σ H N r fun σ' H' N' s r' => c σ' H' N' s ⟨p, Hs, qs, kvs, n.mono s, d, r'⟩
theorem Rep.low2 {K : PySem.W.Frag} {Hs H N : Hp} {σ : L2.St} (d : ∀ a u, Hs a = some u → H0 a = none) (hn : noOl ρ) (r : Rep K (Un H0 Hs) ρ σ H N) : Rep K H0 ρ σ H N := by
  have so : Same H0 (Un H0 Hs) := fun a u e => by
    unfold Un
    cases q : Hs a with
    | none => exact e
    | some w => rw [d a w q] at e; cases e
  refine ⟨so.trans r.old, r.sub, (imm_same so).trans r.imm, fun a o e m => (un_none (r.fresh a o e m)).2, r.len, r.im, fun j x e => absurd e (hn j x), fun j x e => ?_, r.rf, r.apart⟩
  obtain ⟨q, a1, a2, a3, a4⟩ := r.ow j x e
  exact ⟨q, a1, (un_none a2).2, a3, a4⟩
theorem sx2_plainX {n : Str} {k : Nat} (h : ∀ H0' p, ExS X H0' (ρ.set i (.rf p)) st (.ex n (List.replicate k .no))) : ExS2 X H0 i en ρ T st (.ex n (List.replicate k .no)) := fun D σ H N ⟨p, Hs, qs, kvs, nn, d, r⟩ ⟨W, t, c⟩ =>
  h (Un H0 Hs) p D σ H N r ⟨W, t, fun C σ' H' N' m s r' => c C σ' H' N' m s (r'.low2 d (noOl_no k))⟩
theorem ws_one {DD : Ends} {σ : L2.St} {H : Hp} (h : WB X [st] DD σ H) : WS X st DD σ H := by
  unfold WS
  intro pins s I
  have := h.go pins s I
  rw [execs_one] at this
  exact this
theorem xm2_one {m : M β} {f : β → M γ} (eS : β → Env') (h : ∀ H0' p, ExM X H0' (ρ.set i (.rf p)) k [st] (fun r => .nx ((eS r).set i (.rf p))) m) (tt : ∀ r, ExM2 X H0 i en (eS r) T k rest D (f r)) : ExM2 X H0 i en ρ T k (st :: rest) D (M.bind m f) := by
  cases m with
  | ok r => exact xm2_then (sx2_plain fun H0' p => fun DD σ H N rp c => ws_one (h H0' p DD σ H N rp c)) (tt r)
  | ex n => exact ex2_ex (sx2_plainX fun H0' p => fun DD σ H N rp c => ws_one (h H0' p DD σ H N rp c))
  | far => trivial
/-! what is read of the dict while it grows -/
noncomputable def Un3 (H0 Hs N : Hp) : Hp := fun a => match Un H0 Hs a with
  | some u => some u
  | none => Imm N a
theorem un3_some {Hs N : Hp} {a : Addr} {u : HO} (h : Un H0 Hs a = some u) : Un3 H0 Hs N a = some u := by unfold Un3; rw [h]
theorem un3_cs {Hs N : Hp} {a : Addr} {u : HO} (h : Un3 H0 Hs N a = some u) : Un H0 Hs a = some u ∨ (Un H0 Hs a = none ∧ Imm N a = some u) := by
  unfold Un3 at h
  cases e : Un H0 Hs a with
  | some w => rw [e] at h; exact .inl h
  | none => rw [e] at h; exact .inr ⟨rfl, h⟩
theorem un3_none {Hs N : Hp} {a : Addr} (h : Un3 H0 Hs N a = none) : Un H0 Hs a = none := by
  cases e : Un H0 Hs a with
  | none => rfl
  | some u => rw [un3_some e] at h; cases h
/-- the dict seen as a thing that was handed in -/
theorem Rep.see {K : PySem.W.Frag} {Hs H N : Hp} {σ : L2.St} {p : Addr} {qs : List Addr} {kvs : List (Key × V)} (f : ∀ a, flat (en a) = true) (hn : noOl ρ) (hi : i < ρ.length) (n : Nst K N Hs p en T qs kvs) (r : Rep K (Un H0 Hs) (ρ.set i (.rf p)) σ H N) : Rep K (Un3 H0 Hs N) (ρ.set i (.ol (dicd (lstd en) T))) σ H N := by
  have hp : σ[i]? = some (some (V.ref p)) := r.rf i p (List.getElem?_set_self hi)
  have i3 : Same (Imm N) (Un3 H0 Hs N) := fun a u e => by
    unfold Un3
    cases q : Un H0 Hs a with
    | none => exact e
    | some w =>
      have e1 := r.old a w q
      rw [r.sub a u (imm_sub _ _ _ e)] at e1
      exact e1.symm
  have s3 : Same Hs (Un3 H0 Hs N) := fun a u e => un3_some (un_some e)
  refine ⟨fun a u e => ?_, r.sub, fun a u e => ?_, fun a u e mu => ?_, by rw [List.length_set]; have := r.len; rw [List.length_set] at this; exact this, fun j d e => ?_, fun j d e => ?_, fun j d e => ?_, fun j a e => ?_, fun j k d d' q ne a b c => ?_⟩
  · rcases un3_cs e with e | ⟨_, e⟩
    · exact r.old a u e
    · exact r.sub a u (imm_sub _ _ _ e)
  · have mu := imm_not e
    rcases un3_cs (imm_sub _ _ _ e) with e | ⟨_, e⟩
    · exact r.imm a u (imm_of e mu)
    · exact imm_sub _ _ _ e
  · unfold Un3
    rw [r.fresh a u e mu]
    cases q : Imm N a with
    | none => rfl
    | some w =>
      have := imm_sub _ _ _ q
      rw [e] at this
      cases this
      exact absurd mu (imm_not q)
  · rcases get_set e with ⟨_, z⟩ | ⟨ne, e⟩
    · cases z
    · exact r.im j d (by rw [List.getElem?_set_ne (Ne.symm ne)]; exact e)
  · rcases get_set e with ⟨rfl, z⟩ | ⟨_, e⟩
    · cases z
      exact ⟨_, hp, .dic (.inl (un3_some (un_some n.top))) (n.r.flat f i3 s3)⟩
    · exact absurd e (hn j d)
  · rcases get_set e with ⟨_, z⟩ | ⟨ne, e⟩
    · cases z
    · obtain ⟨q, a1, a2, a3, a4⟩ := r.ow j d (by rw [List.getElem?_set_ne (Ne.symm ne)]; exact e)
      refine ⟨q, a1, ?_, a3, a4⟩
      unfold Un3
      rw [a2]
      cases z : Imm N q with
      | none => rfl
      | some w => have := imm_sub _ _ _ z; rw [a3] at this; cases this
  · rcases get_set e with ⟨_, z⟩ | ⟨ne, e⟩
    · cases z
    · exact r.rf j a (by rw [List.getElem?_set_ne (Ne.symm ne)]; exact e)
  · rcases get_set a with ⟨_, z⟩ | ⟨n1, a⟩
    · cases z
    rcases get_set b with ⟨_, z⟩ | ⟨n2, b⟩
    · cases z
    exact r.apart j k d d' q ne (by rw [List.getElem?_set_ne (Ne.symm n1)]; exact a) (by rw [List.getElem?_set_ne (Ne.symm n2)]; exact b) c
theorem Rep.unsee {K : PySem.W.Frag} {Hs H N N' : Hp} {σ : L2.St} {p : Addr} {d : Dat} (hn : noOl ρ) (hp : σ[i]? = some (some (V.ref p))) (r : Rep K (Un3 H0 Hs N) (ρ.set i (.ol d)) σ H N') : Rep K (Un H0 Hs) (ρ.set i (.rf p)) σ H N' := by
  have so : Same (Un H0 Hs) (Un3 H0 Hs N) := fun a u e => un3_some e
  refine ⟨so.trans r.old, r.sub, (imm_same so).trans r.imm, fun a o e m => un3_none (r.fresh a o e m), by rw [List.length_set]; have := r.len; rw [List.length_set] at this; exact this, fun j x e => ?_, fun j x e => ?_, fun j x e => ?_, fun j a e => ?_, fun j k x x' q ne a b c => ?_⟩
  · rcases get_set e with ⟨_, z⟩ | ⟨n1, e⟩
    · cases z
    · exact r.im j x (by rw [List.getElem?_set_ne (Ne.symm n1)]; exact e)
  · rcases get_set e with ⟨_, z⟩ | ⟨n1, e⟩
    · cases z
    · exact absurd e (hn j x)
  · rcases get_set e with ⟨_, z⟩ | ⟨n1, e⟩
    · cases z
    · obtain ⟨q, a1, a2, a3, a4⟩ := r.ow j x (by rw [List.getElem?_set_ne (Ne.symm n1)]; exact e)
      exact ⟨q, a1, un3_none a2, a3, a4⟩
  · rcases get_set e with ⟨rfl, z⟩ | ⟨n1, e⟩
    · cases z; exact hp
    · exact r.rf j a (by rw [List.getElem?_set_ne (Ne.symm n1)]; exact e)
  · rcases get_set a with ⟨_, z⟩ | ⟨n1, a⟩
    · cases z
    rcases get_set b with ⟨_, z⟩ | ⟨n2, b⟩
    · cases z
    exact r.apart j k x x' q ne (by rw [List.getElem?_set_ne (Ne.symm n1)]; exact a) (by rw [List.getElem?_set_ne (Ne.symm n2)]; exact b) c
/-- if; the test may read the dict -/
theorem xm2_if {S : Type} {eS : S → Env'} {tS : S → List (List Nat × List α)} {g : Bool} {m1 m2 : M S} {f : S → M γ} (fl : ∀ a, flat (en a) = true) (hn : noOl ρ) (hi : i < ρ.length) (hc : ∀ H0', EvT X H0' (ρ.set i (.ol (dicd (lstd en) T))) c g) (h1 : g = true → ExM2 X H0 i en ρ T k as (fun s => .nx (eS s) (tS s)) m1) (h2 : g = false → ExM2 X H0 i en ρ T k bs (fun s => .nx (eS s) (tS s)) m2) (tt : ∀ s, ExM2 X H0 i en (eS s) (tS s) k rest D (f s)) :
    ExM2 X H0 i en ρ T k (.If c as bs pos :: rest) D (M.bind (if g = true then m1 else m2) f) := by
  have go : ∀ {o : Oc2 α}, (g = true → Exec2 X H0 i en ρ T as o) → (g = false → Exec2 X H0 i en ρ T bs o) → ExS2 X H0 i en ρ T (.If c as bs pos) o := fun {o} k1 k2 DD σ H N ⟨p, Hs, qs, kvs, n, d, r⟩ cc => by
    have hp : σ[i]? = some (some (V.ref p)) := r.rf i p (List.getElem?_set_self hi)
    refine ws_of (ps_if pt_w pb_w pb_w) ((hc _ σ H N (r.see fl hn hi n)).imp fun v H' ⟨e1, N', s, s2, r'⟩ => ?_)
    subst e1
    have st : St2 X.K H0 i en ρ T σ H' N' := ⟨p, Hs, qs, kvs, n.mono s2, d, r'.unsee hn hp⟩
    cases v with
    | true => exact iteT (k1 rfl DD σ H' N' st (cc.mono s2))
    | false => exact iteF (k2 rfl DD σ H' N' st (cc.mono s2))
  cases g with
  | true =>
    rw [if_pos rfl]
    have h1 := h1 rfl
    cases m1 with
    | ok v => exact xm2_then (go (fun _ => h1) (fun z => nomatch z)) (tt v)
    | ex n => exact ex2_ex (go (fun _ => h1) (fun z => nomatch z))
    | far => trivial
  | false =>
    rw [if_neg (by decide)]
    have h2 := h2 rfl
    cases m2 with
    | ok v => exact xm2_then (go (fun z => nomatch z) (fun _ => h2)) (tt v)
    | ex n => exact ex2_ex (go (fun z => nomatch z) (fun _ => h2))
    | far => trivial
/-! for -/
inductive ForT2 (X : Cx) (H0 : Hp) (i : Nat) (en : α → Dat) (j : Nat) (body : List Stmt) : List Dat → Env' → List (List Nat × List α) → Oc2 α → Prop where
  | nil {ρ : Env'} {T : List (List Nat × List α)} : ForT2 X H0 i en j body [] ρ T (.nx ρ T)
  | turn {ρ ρ1 : Env'} {T T1 : List (List Nat × List α)} {d : Dat} {ds : List Dat} {o : Oc2 α} : Exec2 X H0 i en (ρ.set j (.im d)) T body (.nx ρ1 T1) → ForT2 X H0 i en j body ds ρ1 T1 o → ForT2 X H0 i en j body (d :: ds) ρ T o
  | exc {ρ ρ1 : Env'} {T : List (List Nat × List α)} {d : Dat} {ds : List Dat} {n : Str} : Exec2 X H0 i en (ρ.set j (.im d)) T body (.ex n ρ1) → ForT2 X H0 i en j body (d :: ds) ρ T (.ex n ρ1)
/-- what is walked, whatever was there ahead -/
def IterA (X : Cx) (i : Nat) (ρ : Env') (t e : Expr) (ds : List Dat) : Prop := ∃ wi, PI X t e wi ∧ ∀ H0' p σ H N, Rep X.K H0' (ρ.set i (.rf p)) σ H N → ∀ R, (∀ J H1 N1, Same N N1 → Same H H1 → Rep X.K H0' (ρ.set i (.rf p)) σ H1 N1 → (∀ G, Walks X.K G J N1 ds) → R J H1) → wi σ H R
theorem itA_r1 {t a : Expr} {p : Pos} {z : Int} (h : ∀ H0' p, Ev X H0' (ρ.set i (.rf p)) a (.int z)) (hb : rngOk 0 z = true) (hm : X.mg "range" = none) (hg : Gl X "range" := by rfl) (hs : starEach [a] X.env = [(false, eval a X.env)] := by rfl) :
    IterA X i ρ t (.Call (.Name "range" p) [a] [] pos) ((rng 0 1 z.toNat).map Dat.int) := ⟨_, pi_range1 hg hm pa_w hs, fun H0' q σ H N r R k => (ea_cons (h H0' q) ea_nil (hs := hs) σ H N r).imp fun vs H' ⟨N', s, n, r', g⟩ => by
  have hb' := rngOk_ok hb
  exact ⟨z, ats1 g, hb'.2.2.1, hb'.2.2.2, k _ H' N' n s r' fun G => by rw [← rng_steps]; exact wlk_r⟩⟩
theorem sx2_for {t iter : Expr} {ds : List Dat} {j : Nat} {x : Str} {p0 : Pos} (hp : PassesOwn (model X.prog X.w) X.A X.env X.xe) (hc : X.calm = true) (hi : IterA X i ρ (.Name x p0) iter ds) (nd : X.N.Nodup) (hij : j ≠ i) (h : ForT2 X H0 i en j body ds ρ T o)
    (hs : ∀ x, foldedSetIterable iter X.env x = pure x := by intro _; rfl) (hj : X.N[j]? = some x := by rfl) (hx : Loc X.env.scope x := by first | exact Or.inl rfl | exact Or.inr rfl) (hf : X.fn x = true ∨ X.env.scope.names.lookup x = some .local := by first | exact .inl rfl | exact .inr rfl | assumption) : ExS2 X H0 i en ρ T (.For (.Name x p0) iter body [] pos) o := fun D σ H N ⟨p, Hs, qs, kvs, n, d, r⟩ k => by
  obtain ⟨wi, pi, hw⟩ := hi
  refine ws_of (ps_for hp hc pi (pg_name nd hj hx hf) pb_w hs) (hw (Un H0 Hs) p σ H N r _ fun J H1 N1 n1 s1 r1 w => ?_)
  refine ⟨fun a m σ' H' => m = ds.length - a ∧ a ≤ ds.length ∧ ∃ ρ' T' N', Same N1 N' ∧ St2 X.K H0 i en ρ' T' σ' H' N' ∧ ForT2 X H0 i en j body (ds.drop a) ρ' T' o, ⟨_, rfl, Nat.zero_le _, ρ, T, N1, Same.refl _, ⟨p, Hs, qs, kvs, n.mono n1, d, r1⟩, h⟩, ?_⟩
  rintro a m σ' H' ⟨rfl, ha, ρ', T', N', s', st', f⟩
  obtain ⟨p', Hs', qs', kvs', n', d', r'⟩ := id st'
  obtain ⟨wg, wst⟩ := w (Un H0 Hs') (Un H0 Hs') _ σ' H' N' a (Same.refl _) s' r'
  by_cases hlt : a < ds.length
  · obtain ⟨go, yl⟩ := wg hlt
    have e1 : ds.drop a = ds[a] :: ds.drop (a + 1) := List.drop_eq_getElem_cons hlt
    rw [e1] at f
    have base : ∀ (O : Oc2 α) (Dx : Ends), Exec2 X H0 i en (ρ'.set j (.im ds[a])) T' body O → (∀ N3, Same N1 N3 → Cont2 X H0 N3 i en Dx O) → ∀ x H2, J.yld a H' x H2 → gName j x σ' H2 fun σ3 H3 => WB X body Dx σ3 H3 := fun O Dx ex kk x H2 y => by
      obtain ⟨N3, dd, n3, s3, r3, e3, a3⟩ := yl x H2 y
      have ed : dd = ds[a] := by
        rw [List.getElem?_eq_getElem hlt] at e3
        exact (Option.some.inj e3).symm
      subst ed
      have r4 := r3.setE (i := j) (e := .im ds[a]) a3
      rw [List.set_comm _ _ (Ne.symm hij)] at r4
      exact ex Dx _ H2 N3 ⟨p', Hs', qs', kvs', n'.mono n3, d', r4⟩ (kk N3 (s'.trans n3))
    have again : ∀ ρ1 T1, ForT2 X H0 i en j body (ds.drop (a + 1)) ρ1 T1 o → ∀ σ3 H3, (∃ N3, Same N1 N3 ∧ St2 X.K H0 i en ρ1 T1 σ3 H3 N3) → ∃ m', m' < ds.length - a ∧ m' = ds.length - (a + 1) ∧ a + 1 ≤ ds.length ∧ ∃ ρ' T' N', Same N1 N' ∧ St2 X.K H0 i en ρ' T' σ3 H3 N' ∧ ForT2 X H0 i en j body (ds.drop (a + 1)) ρ' T' o :=
      fun ρ1 T1 ff σ3 H3 ⟨N3, q1, q2⟩ => ⟨ds.length - (a + 1), by omega, rfl, hlt, ρ1, T1, N3, q1, q2, ff⟩
    cases f with
    | @turn _ ρ1 _ T1 _ _ _ ex ff => exact .inr ⟨go, fun σ3 H3 => ∃ N3, Same N1 N3 ∧ St2 X.K H0 i en ρ1 T1 σ3 H3 N3, again ρ1 T1 ff, base (.nx ρ1 T1) _ ex fun N3 q3 σ3 H3 N4 q4 r4 => ⟨N4, q3.trans q4, r4⟩⟩
    | @exc _ ρ1 _ _ _ nn ex => exact .inr ⟨go, fun _ _ => False, fun _ _ z => z.elim, base (.ex nn ρ1) _ ex fun N3 q3 => Cont2.mono (o := .ex nn ρ1) k (n1.trans q3)⟩
  · have e1 : a = ds.length := by omega
    subst e1
    rw [List.drop_length] at f
    cases f
    exact .inl ⟨wst rfl, k σ' H' N' (n1.trans s') st'⟩
theorem forM2_T {S : Type} {ea : β → Dat} {j : Nat} {eS : S → Env'} {tS : S → List (List Nat × List α)} {f : β → S → M S} (hb : ∀ x s, ExM2 X H0 i en ((eS s).set j (.im (ea x))) (tS s) k body (fun s => .nx (eS s) (tS s)) (f x s)) : ∀ (xs : List β) (s : S), match forM f xs s with | .ok s' => ForT2 X H0 i en j body (xs.map ea) (eS s) (tS s) (.nx (eS s') (tS s')) | .ex n => ForT2 X H0 i en j body (xs.map ea) (eS s) (tS s) (.ex n (List.replicate k .no)) | .far => True
  | [], s => .nil
  | x :: xs, s => by
    have h := hb x s
    unfold forM
    cases e : f x s with
    | ok s1 =>
      rw [e] at h
      have ih := forM2_T hb xs s1
      show match forM f xs s1 with | .ok s' => _ | .ex n => _ | .far => True
      cases e2 : forM f xs s1 with
      | ok s2 => rw [e2] at ih; exact .turn h ih
      | ex n => rw [e2] at ih; exact .turn h ih
      | far => trivial
    | ex n => rw [e] at h; exact .exc h
    | far => trivial
theorem xm2_for {S : Type} {ea : β → Dat} {iter : Expr} {x : Str} {p0 : Pos} {eS : S → Env'} {tS : S → List (List Nat × List α)} {xs : List β} {s0 : S} {f : β → S → M S} {fk : S → M γ} (j : Nat) (hp : PassesOwn (model X.prog X.w) X.A X.env X.xe) (hc : X.calm = true) (hi : IterA X i ρ (.Name x p0) iter (xs.map ea)) (nd : X.N.Nodup) (hij : j ≠ i) (h0 : ρ = eS s0) (ht : T = tS s0) (hb : ∀ x s, ExM2 X H0 i en ((eS s).set j (.im (ea x))) (tS s) k body (fun s => .nx (eS s) (tS s)) (f x s)) (tt : ∀ s, ExM2 X H0 i en (eS s) (tS s) k rest D (fk s))
    (hs : ∀ x, foldedSetIterable iter X.env x = pure x := by intro _; rfl) (hj : X.N[j]? = some x := by rfl) (hx : Loc X.env.scope x := by first | exact Or.inl rfl | exact Or.inr rfl) (hf : X.fn x = true ∨ X.env.scope.names.lookup x = some .local := by first | exact .inl rfl | exact .inr rfl | assumption) : ExM2 X H0 i en ρ T k (.For (.Name x p0) iter body [] pos :: rest) D (M.bind (forM f xs s0) fk) := by
  have h := forM2_T hb xs s0
  subst h0
  subst ht
  cases e : forM f xs s0 with
  | ok s => rw [e] at h; exact xm2_then (sx2_for (t := iter) hp hc hi nd hij h hs hj hx hf) (tt s)
  | ex n => rw [e] at h; exact ex2_ex (sx2_for (t := iter) hp hc hi nd hij h hs hj hx hf)
  | far => trivial
/-! the begin and the end -/
theorem Rep.toRf {K : PySem.W.Frag} {H N : Hp} {σ : L2.St} {p : Addr} (hp : σ[i]? = some (some (V.ref p))) (r : Rep K H0 (ρ.set i .no) σ H N) : Rep K H0 (ρ.set i (.rf p)) σ H N := by
  refine ⟨r.old, r.sub, r.imm, r.fresh, by rw [List.length_set]; have := r.len; rw [List.length_set] at this; exact this, fun j d e => ?_, fun j d e => ?_, fun j d e => ?_, fun j a e => ?_, fun j k d d' q ne a b c => ?_⟩
  · rcases get_set e with ⟨_, z⟩ | ⟨n1, e⟩
    · cases z
    · exact r.im j d (by rw [List.getElem?_set_ne (Ne.symm n1)]; exact e)
  · rcases get_set e with ⟨_, z⟩ | ⟨n1, e⟩
    · cases z
    · exact r.ol j d (by rw [List.getElem?_set_ne (Ne.symm n1)]; exact e)
  · rcases get_set e with ⟨_, z⟩ | ⟨n1, e⟩
    · cases z
    · exact r.ow j d (by rw [List.getElem?_set_ne (Ne.symm n1)]; exact e)
  · rcases get_set e with ⟨rfl, z⟩ | ⟨n1, e⟩
    · cases z; exact hp
    · exact r.rf j a (by rw [List.getElem?_set_ne (Ne.symm n1)]; exact e)
  · rcases get_set a with ⟨_, z⟩ | ⟨n1, a⟩
    · cases z
    rcases get_set b with ⟨_, z⟩ | ⟨n2, b⟩
    · cases z
    exact r.apart j k d d' q ne (by rw [List.getElem?_set_ne (Ne.symm n1)]; exact a) (by rw [List.getElem?_set_ne (Ne.symm n2)]; exact b) c
theorem noOl_set' {e : Ent} (h : noOl ρ) (he : ∀ d, e ≠ .ol d) : noOl (ρ.set i e) := fun j d q => by
  rcases get_set q with ⟨_, z⟩ | ⟨_, q⟩
  · exact he d z.symm
  · exact h j d q
theorem xm2_start {en0 : List α → Dat} {eR : γ → Dat} {m : M γ} (hi : ρ[i]? = some (.ow (dicd en0 []))) (hn : noOl ρ) (h : ExM2 X H0 i en (ρ.set i .no) [] k sts (fun r => .rt (eR r)) m) : ExM X H0 ρ k sts (fun r => .rt (eR r)) m := by
  have go : ∀ {o : Oc2 α} {o' : Outc}, Exec2 X H0 i en (ρ.set i .no) [] sts o → (∀ N DD, Cont X H0 N DD o' → Cont2 X H0 N i en DD o) → Exec X H0 ρ sts o' := fun {o o'} h hc DD σ H N r c => by
    obtain ⟨p, e1, h0, np, vs, e2, e3⟩ := r.ow i _ hi
    cases e3
    refine h DD σ H N ⟨p, upd (fun _ => none) p (.dK []), [], [], ⟨.nil, upd_same, by simp, fun a u e => ?_⟩, fun a u e => ?_, ?_⟩ (hc N DD c)
    · by_cases q : a = p
      · exact List.mem_singleton.mpr q
      · rw [upd_ne q] at e; cases e
    · by_cases q : a = p
      · rw [q]; exact h0
      · rw [upd_ne q] at e; cases e
    · have r1 := (r.drop i).upd0 (noOl_set' hn fun d z => by cases z) (a := p) (o := .dK []) True.intro np (fun j d' e z => by
        rcases get_set e with ⟨_, w⟩ | ⟨n1, e⟩
        · cases w
        · exact r.apart j i _ _ _ n1 e hi z e1)
      rw [upd_id e2] at r1
      have e0 : Un H0 (fun _ => none) = H0 := rfl
      rw [un_upd, e0, List.set_set] at *
      exact r1.toRf e1
  cases m with
  | ok r => exact go h fun N DD c => c
  | ex n => exact go h fun N DD c => c
  | far => trivial
theorem xm_setOV {en0 : β → Dat} {v : β} {f : β → M γ} {Dx : γ → Outc} {x : Str} {pos' : Pos} (i : Nat) (h : EvO X H0 ρ e (en0 v)) (nd : X.N.Nodup) (t : ExM X H0 (ρ.set i (.ow (en0 v))) k rest Dx (f v)) (hi : X.N[i]? = some x := by rfl) (hx : Loc X.env.scope x := by first | exact Or.inl rfl | exact Or.inr rfl)
    (hs : swapsWith e (some (.Name x pos')) pos.line X.env = pure false := by rfl) (hf : X.fn x = true ∨ X.env.scope.names.lookup x = some .local := by first | exact .inl rfl | exact .inr rfl | assumption) : ExM X H0 ρ k (.Assign [.Name x pos'] e pos :: rest) Dx (M.lt v f) := xm_then (sx_setO i h nd rfl hi hx hs hf) t
theorem xm2_freeze {eR : γ → Dat} {m : M γ} (hn : noOl ρ) (hi : i < ρ.length) (h : ExM X H0 (ρ.set i (.im (dicd (lstd en) T))) k sts (fun r => .rt (eR r)) m) : ExM2 X H0 i en ρ T k sts (fun r => .rt (eR r)) m := by
  have go : ∀ {o : Oc2 α} {o' : Outc}, Exec X H0 (ρ.set i (.im (dicd (lstd en) T))) sts o' → (∀ N N' DD, Same N N' → Cont2 X H0 N i en DD o → Cont X H0 N' DD o') → Exec2 X H0 i en ρ T sts o := fun {o o'} h hc DD σ H N ⟨p, Hs, qs, kvs, n, d, r⟩ c => by
    have hp : σ[i]? = some (some (V.ref p)) := r.rf i p (List.getElem?_set_self hi)
    have nn : ∀ a u, Hs a = some u → N a = none := fun a u e => n_of r (un_some e) (n.mut e)
    have sN : Same N (Un N Hs) := fun a u e => by
      unfold Un
      cases q : Hs a with
      | none => exact e
      | some w => rw [nn a w q] at e; cases e
    have sH : Same Hs (Un N Hs) := fun a u e => un_some e
    refine h DD σ H (Un N Hs) ?_ (hc N _ DD sN c)
    have so : Same H0 (Un H0 Hs) := fun a u e => by
      unfold Un
      cases q : Hs a with
      | none => exact e
      | some w => rw [d a w q] at e; cases e
    refine ⟨so.trans r.old, fun a u e => ?_, ((imm_same so).trans r.imm).trans sN, fun a u e m => ?_, by rw [List.length_set]; have := r.len; rw [List.length_set] at this; exact this, fun j x e => ?_, fun j x e => ?_, fun j x e => ?_, fun j a e => ?_, fun j k x x' q ne a b c => ?_⟩
    · unfold Un at e
      cases q : Hs a with
      | none => rw [q] at e; exact r.sub a u e
      | some w => rw [q] at e; cases e; exact r.old a _ (un_some q)
    · unfold Un at e
      cases q : Hs a with
      | none => rw [q] at e; exact (un_none (r.fresh a u e m)).2
      | some w => exact d a w q
    · rcases get_set e with ⟨rfl, z⟩ | ⟨n1, e⟩
      · cases z
        exact ⟨_, hp, .dic (.inl (sH _ _ n.top)) (n.r.atk2 sN sH)⟩
      · obtain ⟨v, a1, a2⟩ := r.im j x (by rw [List.getElem?_set_ne (Ne.symm n1)]; exact e)
        exact ⟨v, a1, a2.mono sN⟩
    · rcases get_set e with ⟨_, z⟩ | ⟨n1, e⟩
      · cases z
      · exact absurd e (hn j x)
    · rcases get_set e with ⟨_, z⟩ | ⟨n1, e⟩
      · cases z
      · obtain ⟨q, a1, a2, a3, a4⟩ := r.ow j x (by rw [List.getElem?_set_ne (Ne.symm n1)]; exact e)
        obtain ⟨z1, z2⟩ := un_none a2
        refine ⟨q, a1, z2, by unfold Un; rw [z1]; exact a3, ?_⟩
        cases x with
        | lst ds => obtain ⟨vs, b1, b2⟩ := a4; exact ⟨vs, b1, b2.mono sN⟩
        | dic ds => obtain ⟨vs, b1, b2⟩ := a4; exact ⟨vs, b1, b2.mono sN⟩
        | non => exact a4.elim
        | bl _ => exact a4.elim
        | int _ => exact a4.elim
        | str _ => exact a4.elim
        | tup _ => exact a4.elim
    · rcases get_set e with ⟨_, z⟩ | ⟨n1, e⟩
      · cases z
      · exact r.rf j a (by rw [List.getElem?_set_ne (Ne.symm n1)]; exact e)
    · rcases get_set a with ⟨_, z⟩ | ⟨n1, a⟩
      · cases z
      rcases get_set b with ⟨_, z⟩ | ⟨n2, b⟩
      · cases z
      exact r.apart j k x x' q ne (by rw [List.getElem?_set_ne (Ne.symm n1)]; exact a) (by rw [List.getElem?_set_ne (Ne.symm n2)]; exact b) c
  cases m with
  | ok r => exact go h fun N N' DD s c => fun v H a b r => c v H a (s.trans b) r
  | ex n => exact go h fun N N' DD s ⟨W, t, c⟩ => ⟨W, t, fun C σ H N2 m s2 r => c C σ H N2 m (s.trans s2) r⟩
  | far => trivial
/-! what is put and changed -/
theorem nst_noq {K : PySem.W.Frag} {N Hs : Hp} {p q : Addr} {qs : List Addr} {kvs : List (Key × V)} (n : Nst K N Hs p en T qs kvs) (h : Hs q = none) : q ∉ p :: qs := fun m => by
  rcases List.mem_cons.mp m with rfl | m
  · rw [n.top] at h; cases h
  · obtain ⟨ws, e⟩ := n.r.mem q m
    rw [e] at h; cases h
/-- d[key] = a new list, where the key is none of d's -/
theorem xm2_put {l : List α} {key : List Nat} {y : Str} {p2 : Pos} {f : List (List Nat × List α) → M γ} (hn : noOl ρ) (hi : i < ρ.length) (he : ∀ H0' p, EvO X H0' (ρ.set i (.rf p)) e (lstd en l)) (hb : ∀ H0' p, Ev X H0' (ρ.set i (.rf p)) b (tx key)) (hz : lenLt T = true) (hk : (!dhas T key) = true) (hu : X.A.units + 1 < cLine) (tt : ∀ T, ExM2 X H0 i en ρ T k rest D (f T)) (hN : X.N[i]? = some y := by rfl) (hv : Vis X.env.scope y := by first | exact Or.inl rfl | exact Or.inr (Or.inl rfl) | exact Or.inr (Or.inr rfl))
    (hd : (y == ("__debug__" : Str)) = false := by decide) (hcd : (y == ("__classdict__" : Str)) = false := by decide) (hs : swapsWith e (some (.Subscript (.Name y p1) b p2)) pos.line X.env = pure false := by rfl) :
    ExM2 X H0 i en ρ T k (.Assign [.Subscript (.Name y p1) b p2] e pos :: rest) D (M.lt (T ++ [(key, l)]) f) := by
  refine xm2_then (ρ1 := ρ) (T1 := T ++ [(key, l)]) (fun DD σ H N ⟨p, Hs, qs, kvs, n, d, r⟩ kk => ?_) (tt _)
  have hp : σ[i]? = some (some (V.ref p)) := r.rf i p (List.getElem?_set_self hi)
  have hn' : noOl (ρ.set i (.rf p)) := noOl_set hn
  refine ws_of (ps_dput hu (pv i hN hv hd hcd) pe_w pe_w hs) ((he _ p σ H N r).imp fun v H1 ⟨N1, q, e1, hq, s1, n1, r1, nq, ws, w1, w2⟩ => ?_)
  have uq : Un H0 Hs q = none := by
    cases z : Un H0 Hs q with
    | none => rfl
    | some u => rw [r.old q u z] at hq; cases hq
  obtain ⟨hsq, h0q⟩ := un_none uq
  have notin := nst_noq n hsq
  have npq : p ≠ q := fun z => notin (by rw [← z]; exact List.mem_cons_self)
  have r1' := r1.upd0 hn' (a := q) (o := .lst ws) True.intro nq (fun j d' e => no_own r hq j d' e)
  rw [upd_id w1, ← un_upd] at r1'
  refine ⟨_, hp, (hb _ p σ H1 N1 r1').imp fun z H2 ⟨N2, s2, n2, r2, a2⟩ => ?_⟩
  have h5 := at_str a2
  subst h5
  subst e1
  have top2 : H2 p = some (.dK kvs) := r2.old p _ (un_some (by rw [upd_ne npq]; exact n.top))
  have any0 : (kvs.any fun kv => decide (kv.1 = (Sum.inr (SX.S key) : Key))) = false := by
    rw [n.r.any key]
    have hk' : dhas T key = false := by simpa using hk
    cases z : (T.any fun p => decide (p.1 = key)) with
    | false => rfl
    | true =>
      exfalso
      have : ∀ T : List (List Nat × List α), (T.any fun p => decide (p.1 = key)) = true → (dget T key).isSome = true := by
        intro T
        induction T with
        | nil => intro h; cases h
        | cons a T ih =>
          intro h
          rw [dget_cons]
          by_cases c : a.1 = key
          · rw [if_pos c]; rfl
          · rw [if_neg c]
            rw [List.any_cons, decide_eq_false c, Bool.false_or] at h
            exact ih h
      have h3 := this T z
      have h4 : dhas T key = (dget T key).isSome := rfl
      rw [← h4, hk'] at h3
      cases h3
  have hput : putK kvs (Sum.inr (SX.S key) : Key) (V.ref q) = kvs ++ [((Sum.inr (SX.S key) : Key), V.ref q)] := by
    unfold putK
    rw [any0, if_neg (by decide)]
  refine ⟨p, _, rfl, .inl ⟨kvs, Sum.inr (SX.S key), top2, rfl, ?_, rfl⟩, kk σ _ N2 (n1.trans n2) ?_⟩
  · rw [n.r.len]; exact lenLt_ok hz
  rw [hput]
  have up : Un H0 (upd Hs q (.lst ws)) p = some (.dK kvs) := un_some (by rw [upd_ne npq]; exact n.top)
  have np2 := n_of r2 up True.intro
  have r3 := r2.upd0 hn' (a := p) (o := .dK (kvs ++ [((Sum.inr (SX.S key) : Key), V.ref q)])) True.intro np2 (own_ne r2 up)
  rw [← un_upd] at r3
  rw [List.mem_cons, not_or] at notin
  have pq : p ∉ qs := (List.nodup_cons.mp n.nd).1
  refine ⟨p, _, qs ++ [q], _, ⟨?_, upd_same, ?_, fun a u z => ?_⟩, fun a u z => ?_, r3⟩
  · refine Rws.updH (Rws.snoc (q := q) (ws := ws) upd_same (w2.mono n2) ((n.r.mono (n1.trans n2)).updH notin.2)) ?_
    rw [List.mem_append, not_or]
    exact ⟨pq, fun m => notin.1 (List.mem_singleton.mp m).symm⟩
  · rw [show p :: (qs ++ [q]) = (p :: qs) ++ [q] from rfl, List.nodup_append]
    refine ⟨n.nd, by simp, fun a ha b hb z => ?_⟩
    rw [List.mem_singleton.mp hb] at z
    subst z
    rcases List.mem_cons.mp ha with m | m
    · exact notin.1 m
    · exact notin.2 m
  · by_cases c : a = p
    · subst c; exact List.mem_cons_self
    · rw [upd_ne c] at z
      by_cases c2 : a = q
      · subst c2; simp
      · rw [upd_ne c2] at z
        rcases List.mem_cons.mp (n.dom a u z) with m | m
        · exact absurd m c
        · exact List.mem_cons_of_mem _ (List.mem_append_left _ m)
  · by_cases c : a = p
    · subst c; exact d _ _ n.top
    · rw [upd_ne c] at z
      by_cases c2 : a = q
      · subst c2; exact h0q
      · rw [upd_ne c2] at z
        exact d a u z
/-- d[key][j] += u -/
theorem xm2_aug {T : List (List Nat × List Int)} {D : γ → Oc2 Int} {l l2 : List Int} {j w u : Int} {key : List Nat} {y : Str} {p2 p3 : Pos} {ix : Expr} {f : List (List Nat × List Int) → M γ} (hn : noOl ρ) (hi : i < ρ.length) (hb : ∀ H0' p, Ev X H0' (ρ.set i (.rf p)) b (tx key)) (hl : dget T key = some l) (hx : ∀ H0' p, Ev X H0' (ρ.set i (.rf p)) ix (.int j)) (h0 : decide (0 ≤ j) = true) (hj : atI l j = some w) (hv : ∀ H0' p, Ev X H0' (ρ.set i (.rf p)) e (.int u)) (hl2 : setI l j (w + u) = some l2) (hu : X.A.units + 1 < cLine) (tt : ∀ T, ExM2 X H0 i Dat.int ρ T k rest D (f T)) (hN : X.N[i]? = some y := by rfl) (hvis : Vis X.env.scope y := by first | exact Or.inl rfl | exact Or.inr (Or.inl rfl) | exact Or.inr (Or.inr rfl))
    (hd : (y == ("__debug__" : Str)) = false := by decide) (hcd : (y == ("__classdict__" : Str)) = false := by decide) (hsl : NoSl b := by exact fun _ _ => rfl)
    (hp : ∀ te to ti, PE X e te → PE X (.Subscript (.Name y p1) b p2) to → PE X ix ti → PS X (.AugAssign (.Subscript (.Subscript (.Name y p1) b p2) ix p3) .Add e pos) (tAugS to ti te rGetL (ipI fun i j => i + j) rSetL) := by exact fun te to ti h g f => ps_augS g f get_list h ip_add set_list) :
    ExM2 X H0 i Dat.int ρ T k (.AugAssign (.Subscript (.Subscript (.Name y p1) b p2) ix p3) .Add e pos :: rest) D (M.lt (dset T key l2) f) := by
  have h0 := of_decide_eq_true h0
  obtain ⟨q0, rfl⟩ := Int.eq_ofNat_of_zero_le h0
  unfold setI at hl2
  obtain ⟨q2, hj1, hj2⟩ := Option.map_eq_some_iff.mp hl2
  have e1 : q2 = q0 ∧ q0 < l.length := by
    unfold ixN at hj1
    rw [if_pos (by omega)] at hj1
    split at hj1
    · have := Option.some.inj hj1
      rw [Int.toNat_natCast] at this
      omega
    · cases hj1
  obtain ⟨rfl, hlt⟩ := e1
  have hg : (l.map Dat.int)[q2]? = some (.int w) := by
    unfold atI at hj
    rw [hj1] at hj
    rw [List.getElem?_map, show l[q2]? = some w from hj]
    rfl
  refine xm2_then (ρ1 := ρ) (T1 := dset T key l2) (fun DD σ H N ⟨p, Hs, qs, kvs, n, d, r⟩ kk => ?_) (tt _)
  have hpp : σ[i]? = some (some (V.ref p)) := r.rf i p (List.getElem?_set_self hi)
  have hn' : noOl (ρ.set i (.rf p)) := noOl_set hn
  obtain ⟨q, ws, m1, m2, m3, m4, m5⟩ := n.r.at_ (List.nodup_cons.mp n.nd).2 hl
  have wl : ws.length = l.length := by rw [m3.length, List.length_map]
  refine ws_of (hp _ _ _ pe_w (pe_dget hu (pv i hN hvis hd hcd) pe_w hsl) pe_w) ⟨_, hpp, (hb _ p σ H N r).imp fun v H1 ⟨N1, s1, n1, r1, a1⟩ => ?_⟩
  have h5 := at_str a1
  subst h5
  refine ⟨p, V.ref q, rfl, .inl ⟨kvs, Sum.inr (SX.S key), .inl (r1.old p _ (un_some n.top)), rfl, m4.symm⟩, (hx _ p σ H1 N1 r1).imp fun v2 H2 ⟨N2, s2, n2, r2, a2⟩ => ?_⟩
  obtain ⟨z, z1, z2⟩ := m3.get hg
  refine ⟨q, ws, q2, z, rfl, at_int a2, r2.old q _ (un_some m2), z1, (hv _ p σ H2 N2 r2).imp fun v3 H3 ⟨N3, s3, n3, r3, a3⟩ => ⟨w, u, at_int z2, at_int a3, ?_⟩⟩
  have uq : Un H0 Hs q = some (.lst ws) := un_some m2
  refine ⟨q, ws, q2, q2, rfl, at_int a2, r3.old q _ uq, ?_, kk σ _ N3 ((n1.trans n2).trans n3) ?_⟩
  · unfold ixN
    rw [if_pos (by omega), if_pos (by omega), Int.toNat_natCast]
  have nq := n_of r3 uq True.intro
  have r4 := r3.upd0 hn' (a := q) (o := .lst (ws.set q2 (.int (w + u)))) True.intro nq (own_ne r3 uq)
  rw [← un_upd] at r4
  have pq : p ≠ q := fun z => (List.nodup_cons.mp n.nd).1 (z ▸ m1)
  refine ⟨p, _, qs, kvs, ⟨?_, by rw [upd_ne pq]; exact n.top, n.nd, fun a u z => ?_⟩, fun a u z => ?_, r4⟩
  · refine m5 N3 _ l2 ((n1.trans n2).trans n3) ?_
    have := (m3.mono ((n1.trans n2).trans n3)).set (.int (w + u)) q2
    rw [← hj2, List.map_set]
    exact this
  · by_cases c : a = q
    · subst c; exact List.mem_cons_of_mem _ m1
    · rw [upd_ne c] at z; exact n.dom a u z
  · by_cases c : a = q
    · subst c; exact d _ _ m2
    · rw [upd_ne c] at z; exact d a u z
end
end B

namespace B
open PySem PySem.Spec PyProof.Rows L2
/-! ### for key in dict -/
/-- what reads the same there -/
def RdS (N G : Hp) : Prop := ∀ a, (∀ xs, Rd N a (.tup xs) → Rd G a (.tup xs)) ∧ (∀ xs, Rd N a (.lst xs) → Rd G a (.lst xs)) ∧ ∀ kvs, Rd N a (.dK kvs) → Rd G a (.dK kvs)
mutual
theorem At.rds {K : PySem.W.Frag} {N G : Hp} (e : RdS N G) : ∀ {v : V} {d : Dat}, At K N v d → At K G v d
  | _, _, .non => .non
  | _, _, .bl b => .bl b
  | _, _, .int i => .int i
  | _, _, .str s => .str s
  | _, _, .tup h t => .tup (h.imp ((e _).1 _) id) (Ats.rds e t)
  | _, _, .lst h t => .lst (h.imp ((e _).2.1 _) id) (Ats.rds e t)
  | _, _, .dic h t => .dic ((e _).2.2 _ h) (Atk.rds e t)
theorem Ats.rds {K : PySem.W.Frag} {N G : Hp} (e : RdS N G) : ∀ {vs : List V} {ds : List Dat}, Ats K N vs ds → Ats K G vs ds
  | _, _, .nil => .nil
  | _, _, .cons a t => .cons (At.rds e a) (Ats.rds e t)
theorem Atk.rds {K : PySem.W.Frag} {N G : Hp} (e : RdS N G) : ∀ {vs : List (Key × V)} {ds : List (Key × Dat)}, Atk K N vs ds → Atk K G vs ds
  | _, _, .nil => .nil
  | _, _, .cons a t => .cons (At.rds e a) (Atk.rds e t)
end
theorem rds_lock {N : Hp} {d : Addr} {kvs : List (Key × V)} {od : Obj} (h : N d = some (.dK kvs)) : RdS N (upd N d (.frz od (.dK kvs))) := fun a => by
  have go : ∀ u, Rd N a u → (∀ o u', u ≠ .frz o u') → Rd (upd N d (.frz od (.dK kvs))) a u := fun u r hu => by
    by_cases q : a = d
    · subst q
      rcases r with r | ⟨o, r⟩
      · rw [h] at r; cases r; exact .inr ⟨od, upd_same⟩
      · rw [h] at r; cases r
    · rcases r with r | ⟨o, r⟩
      · exact .inl (by rw [upd_ne q]; exact r)
      · exact .inr ⟨o, by rw [upd_ne q]; exact r⟩
  exact ⟨fun xs r => go _ r (fun o u' z => by cases z), fun xs r => go _ r (fun o u' z => by cases z), fun ks r => go _ r (fun o u' z => by cases z)⟩
theorem rds_unlock {N : Hp} {d : Addr} {kvs : List (Key × V)} {od : Obj} (h : N d = some (.frz od (.dK kvs))) : RdS N (upd N d (.dK kvs)) := fun a => by
  have go : ∀ u, Rd N a u → (∀ o u', u ≠ .frz o u') → Rd (upd N d (.dK kvs)) a u := fun u r hu => by
    by_cases q : a = d
    · subst q
      rcases r with r | ⟨o, r⟩
      · rw [h] at r; cases r; exact absurd rfl (hu _ _)
      · rw [h] at r; cases r; exact .inl upd_same
    · rcases r with r | ⟨o, r⟩
      · exact .inl (by rw [upd_ne q]; exact r)
      · exact .inr ⟨o, by rw [upd_ne q]; exact r⟩
  exact ⟨fun xs r => go _ r (fun o u' z => by cases z), fun xs r => go _ r (fun o u' z => by cases z), fun ks r => go _ r (fun o u' z => by cases z)⟩
theorem Own.rds {K : PySem.W.Frag} {H H' N G : Hp} {p : Addr} {d : Dat} (e : RdS N G) (hp : H' p = H p) (h : Own K H N p d) : Own K H' G p d := by
  cases d with
  | lst ds => obtain ⟨vs, b1, b2⟩ := h; exact ⟨vs, by rw [hp]; exact b1, b2.rds e⟩
  | dic ds => obtain ⟨vs, b1, b2⟩ := h; exact ⟨vs, by rw [hp]; exact b1, b2.rds e⟩
  | non => exact h.elim
  | bl _ => exact h.elim
  | int _ => exact h.elim
  | str _ => exact h.elim
  | tup _ => exact h.elim
theorem Rep.lockN {K : PySem.W.Frag} {H0 H N : Hp} {ρ : Env'} {σ : L2.St} {d : Addr} {kvs : List (Key × V)} (r : Rep K H0 ρ σ H N) (h : N d = some (.dK kvs)) (od : Obj) : Rep K H0 ρ σ (upd H d (.frz od (.dK kvs))) (upd N d (.frz od (.dK kvs))) := by
  have h0 : H0 d = none := r.fresh d _ h True.intro
  have ne : ∀ {a : Addr} {u : HO}, H0 a = some u → a ≠ d := fun {a u} e q => by rw [q, h0] at e; cases e
  have rd := rds_lock (od := od) h
  refine ⟨fun a u e => by rw [upd_ne (ne e)]; exact r.old a u e, fun a u e => ?_, fun a u e => by rw [upd_ne (ne (imm_sub _ _ _ e))]; exact r.imm a u e, fun a u e m => ?_, r.len, fun j x e => ?_, r.ol, fun j x e => ?_, r.rf, r.apart⟩
  · by_cases q : a = d
    · subst q; rw [upd_same] at e ⊢; exact e
    · rw [upd_ne q] at e ⊢; exact r.sub a u e
  · by_cases q : a = d
    · subst q; rw [upd_same] at e; cases e; exact m.elim
    · rw [upd_ne q] at e; exact r.fresh a u e m
  · obtain ⟨v, a1, a2⟩ := r.im j x e
    exact ⟨v, a1, a2.rds rd⟩
  · obtain ⟨p, a1, a2, a3, a4⟩ := r.ow j x e
    have q : p ≠ d := fun q => by rw [q, h] at a3; cases a3
    exact ⟨p, a1, a2, by rw [upd_ne q]; exact a3, a4.rds rd (upd_ne q)⟩
theorem Rep.unlockN {K : PySem.W.Frag} {H0 H N : Hp} {ρ : Env'} {σ : L2.St} {d : Addr} {kvs : List (Key × V)} {od : Obj} (r : Rep K H0 ρ σ H N) (h : N d = some (.frz od (.dK kvs))) (h0 : H0 d = none) : Rep K H0 ρ σ (upd H d (.dK kvs)) (upd N d (.dK kvs)) := by
  have ne : ∀ {a : Addr} {u : HO}, H0 a = some u → a ≠ d := fun {a u} e q => by rw [q, h0] at e; cases e
  have rd := rds_unlock h
  refine ⟨fun a u e => by rw [upd_ne (ne e)]; exact r.old a u e, fun a u e => ?_, fun a u e => by rw [upd_ne (ne (imm_sub _ _ _ e))]; exact r.imm a u e, fun a u e m => ?_, r.len, fun j x e => ?_, r.ol, fun j x e => ?_, r.rf, r.apart⟩
  · by_cases q : a = d
    · subst q; rw [upd_same] at e ⊢; exact e
    · rw [upd_ne q] at e ⊢; exact r.sub a u e
  · by_cases q : a = d
    · subst q; exact h0
    · rw [upd_ne q] at e; exact r.fresh a u e m
  · obtain ⟨v, a1, a2⟩ := r.im j x e
    exact ⟨v, a1, a2.rds rd⟩
  · obtain ⟨p, a1, a2, a3, a4⟩ := r.ow j x e
    have q : p ≠ d := fun q => by rw [q, h] at a3; cases a3
    exact ⟨p, a1, a2, by rw [upd_ne q]; exact a3, a4.rds rd (upd_ne q)⟩
section
variable {α β γ S : Type} {X : Cx} {H0 : Hp} {k : Nat} {en : α → Dat} {ρ ρ1 : Env'} {st : Stmt} {sts rest body : List Stmt} {b c e : Expr} {p1 pos : Pos} {o : Outc} {D : γ → Outc}
/-- a for in one state -/
theorem ws_for {t iter : Expr} {wi : TI} {bd : Dat → Env' → Env'} {ok : Dat → Prop} {ds : List Dat} {DD : Ends} {σ : L2.St} {H N : Hp} (hp : PassesOwn (model X.prog X.w) X.A X.env X.xe) (hc : X.calm = true) (pi : PI X t iter wi) (hw : ∀ R, (∀ J H1 N1, Same N N1 → Same H H1 → Rep X.K H0 ρ σ H1 N1 → Walks X.K H0 J N1 ds → R J H1) → wi σ H R) (hg : Tgt X H0 t ok bd) (hk : ∀ d ∈ ds, ok d) (h : ForT X H0 bd body ds ρ o) (k : Cont X H0 N DD o)
    (hs : ∀ x, foldedSetIterable iter X.env x = pure x) : WS X (.For t iter body [] pos) DD σ H := by
  obtain ⟨g, pg, hgg⟩ := hg.pg
  refine ws_of (ps_for hp hc pi pg pb_w hs) (hw _ fun J H1 N1 n1 s1 r1 w => ?_)
  refine ⟨fun i m σ' H' => m = ds.length - i ∧ i ≤ ds.length ∧ ∃ ρ' N', Same N1 N' ∧ Rep X.K H0 ρ' σ' H' N' ∧ ForT X H0 bd body (ds.drop i) ρ' o, ⟨_, rfl, Nat.zero_le _, ρ, N1, Same.refl _, r1, h⟩, ?_⟩
  rintro i m σ' H' ⟨rfl, hi, ρ', N', s', r', f⟩
  obtain ⟨wg, wst⟩ := w H0 ρ' σ' H' N' i (Same.refl _) s' r'
  by_cases hlt : i < ds.length
  · obtain ⟨go, yl⟩ := wg hlt
    have e1 : ds.drop i = ds[i] :: ds.drop (i + 1) := List.drop_eq_getElem_cons hlt
    rw [e1] at f
    have base : ∀ (O : Outc) (Dx : Ends), Exec X H0 (bd ds[i] ρ') body O → (∀ N3, Same N1 N3 → Cont X H0 N3 Dx O) → ∀ x H2, J.yld i H' x H2 → g x σ' H2 fun σ3 H3 => WB X body Dx σ3 H3 := fun O Dx ex kk x H2 y => by
      obtain ⟨N3, d, n3, s3, r3, e3, a3⟩ := yl x H2 y
      have ed : d = ds[i] := by
        rw [List.getElem?_eq_getElem hlt] at e3
        exact (Option.some.inj e3).symm
      subst ed
      exact hgg ρ' σ' H2 N3 x _ r3 a3 (hk _ (List.getElem_mem hlt)) _ fun σ4 H4 N4 n4 r4 => ex Dx σ4 H4 N4 r4 (kk N4 ((s'.trans n3).trans n4))
    have again : ∀ ρ1, ForT X H0 bd body (ds.drop (i + 1)) ρ1 o → ∀ σ3 H3, (∃ N3, Same N1 N3 ∧ Rep X.K H0 ρ1 σ3 H3 N3) → ∃ m', m' < ds.length - i ∧ m' = ds.length - (i + 1) ∧ i + 1 ≤ ds.length ∧ ∃ ρ' N', Same N1 N' ∧ Rep X.K H0 ρ' σ3 H3 N' ∧ ForT X H0 bd body (ds.drop (i + 1)) ρ' o :=
      fun ρ1 ff σ3 H3 ⟨N3, q1, q2⟩ => ⟨ds.length - (i + 1), by omega, rfl, hlt, ρ1, N3, q1, q2, ff⟩
    cases f with
    | @turn _ ρ1 _ _ _ ex ff => exact .inr ⟨go, fun σ3 H3 => ∃ N3, Same N1 N3 ∧ Rep X.K H0 ρ1 σ3 H3 N3, again ρ1 ff, base (.nx ρ1) _ ex fun N3 q3 σ3 H3 N4 q4 r4 => ⟨N4, q3.trans q4, r4⟩⟩
    | @turnC _ ρ1 _ _ _ ex ff => exact .inr ⟨go, fun σ3 H3 => ∃ N3, Same N1 N3 ∧ Rep X.K H0 ρ1 σ3 H3 N3, again ρ1 ff, base (.ct ρ1) _ ex fun N3 q3 σ3 H3 N4 q4 r4 => ⟨N4, q3.trans q4, r4⟩⟩
    | @brk _ ρ1 _ _ ex => exact .inr ⟨go, fun _ _ => False, fun _ _ z => z.elim, base (.bk ρ1) _ ex fun N3 q3 σ3 H3 N4 q4 r4 => k σ3 H3 N4 ((n1.trans q3).trans q4) r4⟩
    | ret ex => exact .inr ⟨go, fun _ _ => False, fun _ _ z => z.elim, base _ _ ex fun N3 q3 => Cont.mono (o := .rt _) k (n1.trans q3)⟩
    | retO ex => exact .inr ⟨go, fun _ _ => False, fun _ _ z => z.elim, base _ _ ex fun N3 q3 => Cont.mono (o := .ro _) k (n1.trans q3)⟩
    | @exc _ ρ1 _ _ n ex => exact .inr ⟨go, fun _ _ => False, fun _ _ z => z.elim, base (.ex n ρ1) _ ex fun N3 q3 => Cont.mono (o := .ex n ρ1) k (n1.trans q3)⟩
  · have e1 : i = ds.length := by omega
    subst e1
    rw [List.drop_length] at f
    cases f
    exact .inl ⟨wst rfl, k σ' H' N' (n1.trans s') r'⟩
theorem atk_ks {K : PySem.W.Frag} {H : Hp} : ∀ {l : List (List Nat × α)} {vs : List (Key × V)}, Atk K H vs (dm en l) → vs.length = l.length ∧ ∀ (i : Nat) (k : Key) (v : V), vs[i]? = some (k, v) → ∃ x, l[i]? = some x ∧ kV k = .str (SX.S x.1)
  | [], vs, h => by cases h; exact ⟨rfl, fun i k v e => by cases e⟩
  | p :: l, vs, h => by
    cases h with
    | cons ha ht =>
      obtain ⟨h1, h2⟩ := atk_ks ht
      refine ⟨by rw [List.length_cons, List.length_cons, h1], fun i k v e => ?_⟩
      cases i with
      | zero => cases e; exact ⟨p, rfl, rfl⟩
      | succ i => exact h2 i k v e
theorem wlk_k {K : PySem.W.Frag} {G N1 : Hp} {d : Addr} {od : Obj} {kvs : List (Key × V)} {l : List (List Nat × α)} (hd : N1 d = some (.frz od (.dK kvs)) ∨ G d = some (.frz od (.dK kvs))) (hl : kvs.length = l.length ∧ ∀ (i : Nat) (k : Key) (v : V), kvs[i]? = some (k, v) → ∃ x, l[i]? = some x ∧ kV k = .str (SX.S x.1)) : Walks K G (Itk d od kvs) N1 (l.map fun p => tx p.1) := fun H02 ρ2 σ2 H2 N2 i s02 s2 r2 => by
  have h2 : H2 d = some (.frz od (.dK kvs)) := by
    rcases hd with hd | hd
    · exact r2.sub _ _ (s2 _ _ hd)
    · exact r2.old _ _ (s02 _ _ hd)
  refine ⟨fun hi => ⟨⟨h2, by rw [hl.1]; rwa [List.length_map] at hi⟩, fun x H3 y => ?_⟩, fun hi => ⟨h2, by rw [hl.1]; rw [List.length_map] at hi; omega⟩⟩
  obtain ⟨rfl, k, v, e1, rfl⟩ := y
  obtain ⟨z, z1, z2⟩ := hl.2 i k v e1
  refine ⟨N2, tx z.1, Same.refl _, Same.refl _, r2, by rw [List.getElem?_map, z1]; rfl, ?_⟩
  rw [z2]
  exact .str _
/-- for key in d, d a thing of ours that no one changes any more -/
theorem sx_forK {t : Expr} {bd : Dat → Env' → Env'} {ok : Dat → Prop} {l : List (List Nat × α)} (i : Nat) {y : Str} (hp : PassesOwn (model X.prog X.w) X.A X.env X.xe) (hc : X.calm = true) (hi : ρ[i]? = some (.im (dicd en l))) (hg : Tgt X H0 t ok bd) (hok : ∀ d ∈ (l.map fun p => tx p.1), ok d) (h : ForT X H0 bd body (l.map fun p => tx p.1) ρ (.nx ρ1))
    (hN : X.N[i]? = some y := by rfl) (hv : Vis X.env.scope y := by first | exact Or.inl rfl | exact Or.inr (Or.inl rfl) | exact Or.inr (Or.inr rfl)) (hd : (y == ("__debug__" : Str)) = false := by decide) (hcd : (y == ("__classdict__" : Str)) = false := by decide)
    (hs : ∀ x, foldedSetIterable (.Name y p1) X.env x = pure x := by intro _; rfl) : ExS X H0 ρ (.For t (.Name y p1) body [] pos) (.nx ρ1) := fun DD σ H N r c => by
  obtain ⟨v, e1, a⟩ := r.im i _ hi
  obtain ⟨d, kvs, rfl, rd, ak⟩ := at_dic a
  have hk := atk_ks ak
  rcases rd with e2 | ⟨od, e2⟩
  · refine ws_of (ps_lock ps_w) ⟨d, .dK kvs, r.sub _ _ e2, True.intro, fun od => ?_⟩
    have h0 : H0 d = none := r.fresh d _ e2 True.intro
    have rl := r.lockN e2 od
    refine ws_for (H0 := H0) (ρ := ρ) hp hc (pi_keys (pv i hN hv hd hcd)) (fun R kk => ⟨_, e1, d, od, rfl, .inl ⟨kvs, upd_same, kk _ _ _ (Same.refl _) (Same.refl _) rl (wlk_k (.inl upd_same) hk)⟩⟩) hg hok h (fun σ' H' N' s r' => ⟨r'.sub _ _ (s _ _ upd_same), ?_⟩) hs
    have nd := s _ _ upd_same
    refine c σ' _ _ (fun a u e => ?_) (r'.unlockN nd h0)
    by_cases q : a = d
    · subst q; rw [e2] at e; rw [upd_same]; exact e
    · rw [upd_ne q]; exact s a u (by rw [upd_ne q]; exact e)
  · exact ws_for (H0 := H0) (ρ := ρ) hp hc (pi_keys (pv i hN hv hd hcd)) (fun R kk => ⟨_, e1, d, od, rfl, .inl ⟨kvs, r.sub _ _ e2, kk _ _ _ (Same.refl _) (Same.refl _) r (wlk_k (.inl e2) hk)⟩⟩) hg hok h c hs
theorem xm_forK {eS : S → Env'} {l : List (List Nat × α)} {s0 : S} {t : Expr} {bd : Dat → Env' → Env'} {ok : Dat → Prop} {f : List Nat → S → M S} {fk : S → M γ} (i : Nat) {y : Str} (hp : PassesOwn (model X.prog X.w) X.A X.env X.xe) (hc : X.calm = true) (hi : ρ[i]? = some (.im (dicd en l))) (hg : Tgt X H0 t ok bd) (hok : ∀ d ∈ (l.map fun p => tx p.1), ok d) (h0 : ρ = eS s0) (hb : ∀ x s, ExM X H0 (bd (tx x) (eS s)) k body (fun s => .nx (eS s)) (f x s)) (tt : ∀ s, ExM X H0 (eS s) k rest D (fk s))
    (hN : X.N[i]? = some y := by rfl) (hv : Vis X.env.scope y := by first | exact Or.inl rfl | exact Or.inr (Or.inl rfl) | exact Or.inr (Or.inr rfl)) (hd : (y == ("__debug__" : Str)) = false := by decide) (hcd : (y == ("__classdict__" : Str)) = false := by decide)
    (hs : ∀ x, foldedSetIterable (.Name y p1) X.env x = pure x := by intro _; rfl) : ExM X H0 ρ k (.For t (.Name y p1) body [] pos :: rest) D (M.bind (M.nox (forM f (l.map (·.1)) s0)) fk) := by
  have h := forM_T hb (l.map (·.1)) s0
  subst h0
  rw [List.map_map] at h
  cases e : forM f (l.map (·.1)) s0 with
  | ok s =>
    rw [e] at h
    exact xm_then (sx_forK i hp hc hi hg hok h hN hv hd hcd hs) (tt s)
  | ex n => trivial
  | far => trivial
/-! .. d handed in -/
/-- all that is held is flat, lists and dicts of one's own hold flat things -/
def FlatE (ρ : Env') : Prop := (∀ (j : Nat) (d : Dat), ρ[j]? = some (Ent.im d) → flat d = true) ∧ (∀ (j : Nat) (ds : List Dat), ρ[j]? = some (Ent.ow (.lst ds)) → ∀ d ∈ ds, flat d = true) ∧ ∀ (j : Nat) (ds : List (Key × Dat)), ρ[j]? = some (Ent.ow (.dic ds)) → ∀ d ∈ ds, flat d.2 = true
mutual
theorem At.flat2 {K : PySem.W.Frag} {N G : Hp} (e : ∀ a xs, SqT K N a xs → SqT K G a xs) : ∀ {v : V} {d : Dat}, At K N v d → flat d = true → At K G v d
  | _, _, .non, _ => .non
  | _, _, .bl b, _ => .bl b
  | _, _, .int i, _ => .int i
  | _, _, .str s, _ => .str s
  | _, _, .tup h t, f => .tup (e _ _ h) (Ats.flat2 e t f)
  | _, _, .lst _ _, f => by cases f
  | _, _, .dic _ _, f => by cases f
theorem Ats.flat2 {K : PySem.W.Frag} {N G : Hp} (e : ∀ a xs, SqT K N a xs → SqT K G a xs) : ∀ {vs : List V} {ds : List Dat}, Ats K N vs ds → flats ds = true → Ats K G vs ds
  | _, _, .nil, _ => .nil
  | _, _, .cons a t, f => by
    simp only [flats, Bool.and_eq_true] at f
    exact .cons (At.flat2 e a f.1) (Ats.flat2 e t f.2)
end
theorem Ats.flat3 {K : PySem.W.Frag} {N G : Hp} (e : ∀ a xs, SqT K N a xs → SqT K G a xs) : ∀ {vs : List V} {ds : List Dat}, Ats K N vs ds → (∀ d ∈ ds, flat d = true) → Ats K G vs ds
  | _, _, .nil, _ => .nil
  | _, _, .cons a t, f => .cons (a.flat2 e (f _ List.mem_cons_self)) (Ats.flat3 e t fun d hd => f d (List.mem_cons_of_mem _ hd))
theorem Atk.flat3 {K : PySem.W.Frag} {N G : Hp} (e : ∀ a xs, SqT K N a xs → SqT K G a xs) : ∀ {vs : List (Key × V)} {ds : List (Key × Dat)}, Atk K N vs ds → (∀ d ∈ ds, flat d.2 = true) → Atk K G vs ds
  | _, _, .nil, _ => .nil
  | _, _, .cons a t, f => .cons (a.flat2 e (f _ List.mem_cons_self)) (Atk.flat3 e t fun d hd => f d (List.mem_cons_of_mem _ hd))
open Classical in
noncomputable def wo (N : Hp) (d : Addr) : Hp := fun a => if a = d then none else N a
theorem wo_ne {N : Hp} {a d : Addr} (h : a ≠ d) : wo N d a = N a := by unfold wo; rw [if_neg h]
theorem wo_some {N : Hp} {a d : Addr} {u : HO} (h : wo N d a = some u) : a ≠ d ∧ N a = some u := by
  unfold wo at h
  by_cases q : a = d
  · rw [if_pos q] at h; cases h
  · rw [if_neg q] at h; exact ⟨q, h⟩
theorem Rep.lock0 {K : PySem.W.Frag} {H N : Hp} {σ : L2.St} {d : Addr} {kvs : List (Key × V)} (r : Rep K H0 ρ σ H N) (h : H0 d = some (.dK kvs)) (od : Obj) : Rep K (upd H0 d (.frz od (.dK kvs))) ρ σ (upd H d (.frz od (.dK kvs))) (upd N d (.frz od (.dK kvs))) := by
  have nd := n_of r h True.intro
  have sN : Same N (upd N d (.frz od (.dK kvs))) := Same.of_none nd
  have rd := rds_lock (od := od) h
  refine ⟨fun a u e => ?_, fun a u e => ?_, fun a u e => ?_, fun a u e m => ?_, r.len, fun j x e => ?_, fun j x e => ?_, fun j x e => ?_, r.rf, r.apart⟩
  · by_cases q : a = d
    · subst q; rw [upd_same] at e ⊢; exact e
    · rw [upd_ne q] at e ⊢; exact r.old a u e
  · by_cases q : a = d
    · subst q; rw [upd_same] at e ⊢; exact e
    · rw [upd_ne q] at e ⊢; exact r.sub a u e
  · have mu := imm_not e
    have e1 := imm_sub _ _ _ e
    by_cases q : a = d
    · subst q; rw [upd_same] at e1 ⊢; exact e1
    · rw [upd_ne q] at e1 ⊢; exact r.imm a u (imm_of e1 mu)
  · by_cases q : a = d
    · subst q; rw [upd_same] at e; cases e; exact m.elim
    · rw [upd_ne q] at e ⊢; exact r.fresh a u e m
  · obtain ⟨v, a1, a2⟩ := r.im j x e
    exact ⟨v, a1, a2.mono sN⟩
  · obtain ⟨v, a1, a2⟩ := r.ol j x e
    exact ⟨v, a1, a2.rds rd⟩
  · obtain ⟨p, a1, a2, a3, a4⟩ := r.ow j x e
    have q : p ≠ d := fun q => by rw [q, h] at a2; cases a2
    refine ⟨p, a1, by rw [upd_ne q]; exact a2, by rw [upd_ne q]; exact a3, ?_⟩
    cases x with
    | lst ds => obtain ⟨vs, b1, b2⟩ := a4; exact ⟨vs, by rw [upd_ne q]; exact b1, b2.mono sN⟩
    | dic ds => obtain ⟨vs, b1, b2⟩ := a4; exact ⟨vs, by rw [upd_ne q]; exact b1, b2.mono sN⟩
    | non => exact a4.elim
    | bl _ => exact a4.elim
    | int _ => exact a4.elim
    | str _ => exact a4.elim
    | tup _ => exact a4.elim
theorem Rep.unlock0 {K : PySem.W.Frag} {H N : Hp} {σ : L2.St} {d : Addr} {kvs : List (Key × V)} {od : Obj} (r : Rep K (upd H0 d (.frz od (.dK kvs))) ρ σ H N) (h : H0 d = some (.dK kvs)) (f : FlatE ρ) : Rep K H0 ρ σ (upd H d (.dK kvs)) (wo N d) := by
  have hd : H d = some (.frz od (.dK kvs)) := r.old _ _ upd_same
  have sq : ∀ a xs, SqT K N a xs → SqT K (wo N d) a xs := fun a xs e => by
    have ne : ∀ {u : HO}, N a = some u → (u = .tup xs ∨ ∃ o, u = .frz o (.tup xs)) → a ≠ d := fun {u} e1 e2 q => by
      have := r.sub a u e1
      rw [q, hd] at this
      cases this
      rcases e2 with e2 | ⟨o, e2⟩ <;> cases e2
    rcases e with (e | ⟨o, e⟩) | e
    · exact .inl (.inl (by rw [wo_ne (ne e (.inl rfl))]; exact e))
    · exact .inl (.inr ⟨o, by rw [wo_ne (ne e (.inr ⟨o, rfl⟩))]; exact e⟩)
    · exact .inr e
  have rd : RdS (upd H0 d (.frz od (.dK kvs))) H0 := by
    have := rds_unlock (N := upd H0 d (.frz od (.dK kvs))) (d := d) (kvs := kvs) (od := od) upd_same
    have e : upd (upd H0 d (.frz od (.dK kvs))) d (.dK kvs) = H0 := by
      funext a
      by_cases q : a = d
      · subst q; rw [upd_same, h]
      · rw [upd_ne q, upd_ne q]
    rwa [e] at this
  refine ⟨fun a u e => ?_, fun a u e => ?_, fun a u e => ?_, fun a u e m => ?_, r.len, fun j x e => ?_, fun j x e => ?_, fun j x e => ?_, r.rf, r.apart⟩
  · by_cases q : a = d
    · subst q; rw [h] at e; rw [upd_same]; exact e
    · rw [upd_ne q]; exact r.old a u (by rw [upd_ne q]; exact e)
  · obtain ⟨q, e⟩ := wo_some e
    rw [upd_ne q]; exact r.sub a u e
  · have mu := imm_not e
    have e1 := imm_sub _ _ _ e
    have q : a ≠ d := fun q => by rw [q, h] at e1; cases e1; exact mu True.intro
    rw [wo_ne q]
    exact r.imm a u (imm_of (by rw [upd_ne q]; exact e1) mu)
  · obtain ⟨q, e⟩ := wo_some e
    have := r.fresh a u e m
    rwa [upd_ne q] at this
  · obtain ⟨v, a1, a2⟩ := r.im j x e
    exact ⟨v, a1, a2.flat2 sq (f.1 j x e)⟩
  · obtain ⟨v, a1, a2⟩ := r.ol j x e
    exact ⟨v, a1, a2.rds rd⟩
  · obtain ⟨p, a1, a2, a3, a4⟩ := r.ow j x e
    have q : p ≠ d := fun q => by rw [q, upd_same] at a2; cases a2
    rw [upd_ne q] at a2
    refine ⟨p, a1, a2, by rw [wo_ne q]; exact a3, ?_⟩
    cases x with
    | lst ds => obtain ⟨vs, b1, b2⟩ := a4; exact ⟨vs, by rw [upd_ne q]; exact b1, b2.flat3 sq (f.2.1 j ds e)⟩
    | dic ds => obtain ⟨vs, b1, b2⟩ := a4; exact ⟨vs, by rw [upd_ne q]; exact b1, b2.flat3 sq (f.2.2 j ds e)⟩
    | non => exact a4.elim
    | bl _ => exact a4.elim
    | int _ => exact a4.elim
    | str _ => exact a4.elim
    | tup _ => exact a4.elim
theorem sx_forK0 {t : Expr} {bd : Dat → Env' → Env'} {ok : Dat → Prop} {l : List (List Nat × α)} (i : Nat) {y : Str} (hp : PassesOwn (model X.prog X.w) X.A X.env X.xe) (hc : X.calm = true) (hi : ρ[i]? = some (.ol (dicd en l))) (hf : FlatE ρ1) (hg : ∀ H0, Tgt X H0 t ok bd) (hok : ∀ d ∈ (l.map fun p => tx p.1), ok d) (h : ∀ H0, ForT X H0 bd body (l.map fun p => tx p.1) ρ (.nx ρ1))
    (hN : X.N[i]? = some y := by rfl) (hv : Vis X.env.scope y := by first | exact Or.inl rfl | exact Or.inr (Or.inl rfl) | exact Or.inr (Or.inr rfl)) (hd : (y == ("__debug__" : Str)) = false := by decide) (hcd : (y == ("__classdict__" : Str)) = false := by decide)
    (hs : ∀ x, foldedSetIterable (.Name y p1) X.env x = pure x := by intro _; rfl) : ExS X H0 ρ (.For t (.Name y p1) body [] pos) (.nx ρ1) := fun DD σ H N r c => by
  obtain ⟨v, e1, a⟩ := r.ol i _ hi
  obtain ⟨d, kvs, rfl, rd, ak⟩ := at_dic a
  have hk := atk_ks ak
  rcases rd with e2 | ⟨od, e2⟩
  · refine ws_of (ps_lock ps_w) ⟨d, .dK kvs, r.old _ _ e2, True.intro, fun od => ?_⟩
    have nd := n_of r e2 True.intro
    have rl := r.lock0 e2 od
    refine ws_for (H0 := upd H0 d (.frz od (.dK kvs))) (ρ := ρ) hp hc (pi_keys (pv i hN hv hd hcd)) (fun R kk => ⟨_, e1, d, od, rfl, .inl ⟨kvs, upd_same, kk _ _ _ (Same.refl _) (Same.refl _) rl (wlk_k (.inl upd_same) hk)⟩⟩) (hg _) hok (h _) (fun σ' H' N' s r' => ⟨r'.old _ _ upd_same, ?_⟩) hs
    refine c σ' _ _ (fun a u e => ?_) (r'.unlock0 e2 hf)
    have q : a ≠ d := fun q => by rw [q, nd] at e; cases e
    rw [wo_ne q]; exact s a u (by rw [upd_ne q]; exact e)
  · exact ws_for (H0 := H0) (ρ := ρ) hp hc (pi_keys (pv i hN hv hd hcd)) (fun R kk => ⟨_, e1, d, od, rfl, .inl ⟨kvs, r.old _ _ e2, kk _ _ _ (Same.refl _) (Same.refl _) r (wlk_k (.inr e2) hk)⟩⟩) (hg _) hok (h _) c hs
theorem xm_forK0 {eS : S → Env'} {l : List (List Nat × α)} {s0 : S} {t : Expr} {bd : Dat → Env' → Env'} {ok : Dat → Prop} {f : List Nat → S → M S} {fk : S → M γ} (i : Nat) {y : Str} (hp : PassesOwn (model X.prog X.w) X.A X.env X.xe) (hc : X.calm = true) (hi : ρ[i]? = some (.ol (dicd en l))) (hf : ∀ s, FlatE (eS s)) (hg : ∀ H0, Tgt X H0 t ok bd) (hok : ∀ d ∈ (l.map fun p => tx p.1), ok d) (h0 : ρ = eS s0) (hb : ∀ H0 x s, ExM X H0 (bd (tx x) (eS s)) k body (fun s => .nx (eS s)) (f x s)) (tt : ∀ s, ExM X H0 (eS s) k rest D (fk s))
    (hN : X.N[i]? = some y := by rfl) (hv : Vis X.env.scope y := by first | exact Or.inl rfl | exact Or.inr (Or.inl rfl) | exact Or.inr (Or.inr rfl)) (hd : (y == ("__debug__" : Str)) = false := by decide) (hcd : (y == ("__classdict__" : Str)) = false := by decide)
    (hs : ∀ x, foldedSetIterable (.Name y p1) X.env x = pure x := by intro _; rfl) : ExM X H0 ρ k (.For t (.Name y p1) body [] pos :: rest) D (M.bind (M.nox (forM f (l.map (·.1)) s0)) fk) := by
  have h := fun H0 => forM_T (H0 := H0) (hb H0) (l.map (·.1)) s0
  subst h0
  simp only [List.map_map] at h
  cases e : forM f (l.map (·.1)) s0 with
  | ok s =>
    rw [e] at h
    exact xm_then (sx_forK0 i hp hc hi (hf s) hg hok h hN hv hd hcd hs) (tt s)
  | ex n => trivial
  | far => trivial
end
/-! flatness, entry by entry -/
inductive FlE : Env' → Prop where
  | nil : FlE []
  | im {d : Dat} {r : Env'} : flat d = true → FlE r → FlE (.im d :: r)
  | owd {β : Type} {en : β → Dat} {l : List (List Nat × β)} {r : Env'} : (∀ a, flat (en a) = true) → FlE r → FlE (.ow (dicd en l) :: r)
  | owl {β : Type} {en : β → Dat} {l : List β} {r : Env'} : (∀ a, flat (en a) = true) → FlE r → FlE (.ow (lstd en l) :: r)
  | no {r : Env'} : FlE r → FlE (.no :: r)
  | ol {d : Dat} {r : Env'} : FlE r → FlE (.ol d :: r)
  | rf {a : Addr} {r : Env'} : FlE r → FlE (.rf a :: r)
theorem FlE.to {ρ : Env'} (h : FlE ρ) : FlatE ρ := by
  have cons : ∀ {e : Ent} {r : Env'}, FlatE r → (∀ d, e = .im d → flat d = true) → (∀ ds, e = .ow (.lst ds) → ∀ d ∈ ds, flat d = true) → (∀ ds, e = .ow (.dic ds) → ∀ d ∈ ds, flat d.2 = true) → FlatE (e :: r) := fun {e r} ih h1 h2 h3 => by
    obtain ⟨i1, i2, i3⟩ := ih
    refine ⟨fun j d q => ?_, fun j d q => ?_, fun j d q => ?_⟩
    · cases j with
      | zero => exact h1 d (Option.some.inj q)
      | succ j => exact i1 j d q
    · cases j with
      | zero => exact h2 d (Option.some.inj q)
      | succ j => exact i2 j d q
    · cases j with
      | zero => exact h3 d (Option.some.inj q)
      | succ j => exact i3 j d q
  induction h with
  | nil => exact ⟨fun j d e => by (cases j <;> cases e), fun j d e => by (cases j <;> cases e), fun j d e => by (cases j <;> cases e)⟩
  | im f _ ih => exact cons ih (fun d e => by cases e; exact f) (fun d e => by cases e) (fun d e => by cases e)
  | @owd β en l r f _ ih =>
    refine cons ih (fun d e => by cases e) (fun d e => by cases e) (fun ds e d hd => ?_)
    have e2 : dm en l = ds := by cases e; rfl
    rw [← e2] at hd
    obtain ⟨p, _, rfl⟩ := List.mem_map.mp hd
    exact f p.2
  | @owl β en l r f _ ih =>
    refine cons ih (fun d e => by cases e) (fun ds e d hd => ?_) (fun d e => by cases e)
    have e2 : l.map en = ds := by cases e; rfl
    rw [← e2] at hd
    obtain ⟨p, _, rfl⟩ := List.mem_map.mp hd
    exact f p
  | no _ ih => exact cons ih (fun d e => by cases e) (fun d e => by cases e) (fun d e => by cases e)
  | ol _ ih => exact cons ih (fun d e => by cases e) (fun d e => by cases e) (fun d e => by cases e)
  | rf _ ih => exact cons ih (fun d e => by cases e) (fun d e => by cases e) (fun d e => by cases e)
end B

namespace B
open PySem PySem.Spec PyProof.Rows L2
section
variable {X : Cx} {H0 : Hp} {ρ : Env'} {α : Type} {a b c : Expr} {pos : Pos} {en : α → Dat} {l : List (List Nat × α)} {key : List Nat}
/-- d.get(key, u), d a thing that nobody changes -/
theorem ev_dget2v {u : α} (ha : Ev X H0 ρ a (dicd en l)) (hb : Ev X H0 ρ b (tx key)) (hc : Ev X H0 ρ c (en u)) (hu : X.A.units + 1 < cLine) {apos : Pos} (hm : M2 X a "get" apos b c pos := by exact ⟨rfl, rfl, rfl, rfl⟩) :
    Ev X H0 ρ (.Call (.Attribute a "get" apos) [b, c] [] pos) (en ((dget l key).getD u)) := fun σ H N rp => by
  refine we_of (pe_dget2 hu pe_w pe_w pe_w hm) ((ha σ H N rp).imp fun v0 H1 ⟨N1, s1, n1, r1, a1⟩ => ?_)
  obtain ⟨q, vs, e1, g1, g2⟩ := at_dic a1
  subst e1
  have rd1 : Rd H1 q (.dK vs) := rd_same r1.sub g1
  refine ⟨q, rfl, .inl ⟨vs, rd1⟩, (hb σ H1 N1 r1).imp fun w H2 ⟨N2, s2, n2, r2, a2⟩ => (hc σ H2 N2 r2).imp fun z H3 ⟨N3, s3, n3, r3, a3⟩ => ?_⟩
  have h5 := at_str a2
  subst h5
  have g3 : Atk X.K N3 vs (dm en l) := Atk.mono (n2.trans n3) g2
  obtain ⟨i1, i2⟩ := atk_get g3 key
  refine ⟨_, .inl ⟨vs, Sum.inr (SX.S key), rd_same (s2.trans s3) rd1, rfl, rfl⟩, N3, (s1.trans s2).trans s3, (n1.trans n2).trans n3, r3, ?_⟩
  cases e : dget l key with
  | none => rw [i2 e]; exact a3
  | some v =>
    obtain ⟨z, z1, z2⟩ := i1 v e
    rw [z1]
    exact z2
/-- .. d handed in; what it holds is flat -/
theorem ev_dget2b {u : α} (hf : ∀ x, flat (en x) = true) (ha : EvB X H0 ρ a (dicd en l)) (hb : Ev X H0 ρ b (tx key)) (hc : Ev X H0 ρ c (en u)) (hu : X.A.units + 1 < cLine) {apos : Pos} (hm : M2 X a "get" apos b c pos := by exact ⟨rfl, rfl, rfl, rfl⟩) :
    Ev X H0 ρ (.Call (.Attribute a "get" apos) [b, c] [] pos) (en ((dget l key).getD u)) := EvB.flat (fun σ H N rp => by
  refine we_of (pe_dget2 hu pe_w pe_w pe_w hm) ((ha σ H N rp).imp fun v0 H1 ⟨N1, s1, n1, r1, a1⟩ => ?_)
  obtain ⟨q, vs, e1, g1, g2⟩ := at_dic a1
  subst e1
  refine ⟨q, rfl, .inl ⟨vs, g1⟩, (hb σ H1 N1 r1).imp fun w H2 ⟨N2, s2, n2, r2, a2⟩ => (hc σ H2 N2 r2).imp fun z H3 ⟨N3, s3, n3, r3, a3⟩ => ?_⟩
  have h5 := at_str a2
  subst h5
  have g3 : Atk X.K H3 vs (dm en l) := Atk.mono (s2.trans s3) g2
  obtain ⟨i1, i2⟩ := atk_get g3 key
  refine ⟨_, .inl ⟨vs, Sum.inr (SX.S key), rd_same (s2.trans s3) g1, rfl, rfl⟩, N3, (s1.trans s2).trans s3, (n1.trans n2).trans n3, r3, ?_⟩
  cases e : dget l key with
  | none => rw [i2 e]; exact a3.mono r3.sub
  | some v =>
    obtain ⟨z, z1, z2⟩ := i1 v e
    rw [z1]
    exact z2) (hf _)
end
theorem cut_nn {α : Type} {l : List α} {a b : Nat} (h : a ≤ b) : cut l (some (a : Int)) (some (b : Int)) = (l.drop a).take (b - a) := by
  show (l.drop (HT.sIx l.length 0 (some ((a : Nat) : Int)))).take (HT.sIx l.length l.length (some ((b : Nat) : Int)) - HT.sIx l.length 0 (some ((a : Nat) : Int))) = _
  rw [HT.sIx_nat, HT.sIx_nat]
  by_cases h1 : a ≤ l.length
  · rw [Nat.min_eq_left h1]
    by_cases h2 : b ≤ l.length
    · rw [Nat.min_eq_left h2]
    · rw [Nat.min_eq_right (by omega), List.take_of_length_le (by rw [List.length_drop]; exact Nat.le_refl _), List.take_of_length_le (by rw [List.length_drop]; omega)]
  · rw [List.drop_of_length_le (by omega), List.drop_of_length_le (by omega)]
    simp
/-! ### sorted: ints -/
def srtI (l : List Int) : List Int := l.mergeSort fun a b => decide (a ≤ b)
theorem srtI_perm (l : List Int) : (srtI l).Perm l := List.mergeSort_perm _ _
theorem srtI_pw (l : List Int) : (srtI l).Pairwise (· ≤ ·) := by
  have h := List.pairwise_mergeSort (le := fun a b : Int => decide (a ≤ b)) (fun a b c h1 h2 => by simp at *; omega) (fun a b => by simp; omega) l
  exact h.imp fun q => of_decide_eq_true q
theorem srtI_of {l m : List Int} (h1 : m.Perm l) (h2 : m.Pairwise (· ≤ ·)) : m = srtI l :=
  List.Perm.eq_of_pairwise (le := (· ≤ ·)) (fun a b _ _ p q => Int.le_antisymm p q) h2 (srtI_pw l) (h1.trans (srtI_perm l).symm)
section
variable {X : Cx} {H0 : Hp} {ρ : Env'} {α : Type} {a b c : Expr} {p pos : Pos} {en : α → Dat}
theorem eo_sortedI {l : List Int} (ha : EvB X H0 ρ a (lstd Dat.int l)) (hm : X.mg "sorted" = none) (hg : Gl X "sorted" := by rfl) (he : starEach [a] X.env = (false, eval a X.env) :: starEach [] X.env := by rfl) (hpl : (backTo pos (starEach [] X.env)).any (·.1) = false := by rfl) :
    EvO X H0 ρ (.Call (.Name "sorted" p) [a] [] pos) (lstd Dat.int (srtI l)) := fun σ H N rp =>
  we_of (pe_callB cr_sortedI hg hm (by decide +kernel) pa_w (by decide) (by decide) he hpl) ((eab1 ha he σ H N rp).imp fun vs H1 ⟨N1, s1, n1, r1, a1⟩ => by
    obtain ⟨v, e1, e2⟩ := ats_one a1
    obtain ⟨pp, us, e3, h1, h2⟩ := at_lst e2
    rw [h2.ints] at h1
    refine ⟨pp, l, by rw [e1, e3], h1, fun ms q hp hw hq => ?_⟩
    rw [srtI_of hp hw]
    obtain ⟨r3, n3⟩ := eo_new (o := .lst ((srtI l).map V.int)) r1 hq
    exact ⟨N1, q, rfl, s1.free hq, s1.trans (Same.of_none hq), n1, r3, n3, _, upd_same, Ats.ofInts _⟩)
/-- list + list, the first one a list of one's own -/
theorem eo_catWm {l m : List α} (i : Nat) {y : Str} {p1 : Pos} (hi : ρ[i]? = some (.ow (lstd en l))) (hb : EvO X H0 ρ b (lstd en m)) (h : catOk l m = true) (hN : X.N[i]? = some y := by rfl) (hv : Vis X.env.scope y := by first | exact Or.inl rfl | exact Or.inr (Or.inl rfl) | exact Or.inr (Or.inr rfl))
    (hd : (y == ("__debug__" : Str)) = false := by decide) (hcd : (y == ("__classdict__" : Str)) = false := by decide) : EvO X H0 ρ (.BinOp (.Name y p1) .Add b pos) (lstd en (l ++ m)) := fun σ H N rp => by
  obtain ⟨q0, g1, g2, g3, us, g4, g5⟩ := rp.ow i _ hi
  refine we_of (pe_op op_cat (pv i hN hv hd hcd) pe_w) ⟨_, g1, (hb σ H N rp).imp fun w H2 ⟨N2, p2, e2, hp2, s2, n2, r2, np2, ws, k2, h4⟩ => ?_⟩
  have hz := catOk_ok h
  have hl : us.length = l.length := by rw [g5.length, List.length_map]
  refine ⟨q0, p2, us, ws, rfl, e2, s2 _ _ g4, k2, by rw [hl, h4.length, List.length_map]; exact hz, fun q hq => ?_⟩
  obtain ⟨r5, n5⟩ := eo_new (o := .lst (us ++ ws)) r2 hq
  refine ⟨N2, q, rfl, s2.free hq, s2.trans (Same.of_none hq), n2, r5, n5, us ++ ws, upd_same, ?_⟩
  show Ats X.K N2 (us ++ ws) ((l ++ m).map en)
  rw [List.map_append]
  exact (g5.mono n2).append h4
/-- .. the second one -/
theorem eo_catVm {l m : List α} (i : Nat) {y : Str} {p1 : Pos} (ha : EvO X H0 ρ a (lstd en l)) (hi : ρ[i]? = some (.ow (lstd en m))) (h : catOk l m = true) (hN : X.N[i]? = some y := by rfl) (hv : Vis X.env.scope y := by first | exact Or.inl rfl | exact Or.inr (Or.inl rfl) | exact Or.inr (Or.inr rfl))
    (hd : (y == ("__debug__" : Str)) = false := by decide) (hcd : (y == ("__classdict__" : Str)) = false := by decide) : EvO X H0 ρ (.BinOp a .Add (.Name y p1) pos) (lstd en (l ++ m)) := fun σ H N rp => by
  refine we_of (pe_op op_cat pe_w (pv i hN hv hd hcd)) ((ha σ H N rp).imp fun w H2 ⟨N2, p2, e2, hp2, s2, n2, r2, np2, ws, k2, h4⟩ => ?_)
  obtain ⟨q0, g1, g2, g3, us, g4, g5⟩ := r2.ow i _ hi
  have hz := catOk_ok h
  have hl : us.length = m.length := by rw [g5.length, List.length_map]
  refine ⟨_, g1, p2, q0, ws, us, e2, rfl, k2, g4, by rw [hl, h4.length, List.length_map]; exact hz, fun q hq => ?_⟩
  obtain ⟨r5, n5⟩ := eo_new (o := .lst (ws ++ us)) r2 hq
  refine ⟨N2, q, rfl, s2.free hq, s2.trans (Same.of_none hq), n2, r5, n5, ws ++ us, upd_same, ?_⟩
  show Ats X.K N2 (ws ++ us) ((l ++ m).map en)
  rw [List.map_append]
  exact h4.append g5
end
/-! ### is None, as a value -/
section
variable {X : Cx} {H0 : Hp} {ρ : Env'} {a : Expr} {pos : Pos} {d : Dat}
theorem ev_isN {j pos'} (ha : EvB X H0 ρ a d) : Ev X H0 ρ (.Compare a [.Is] [.Constant .none j pos'] pos) (.bl (isNon d)) :=
  ev_bin (d2 := .non) (fun _ _ h k => pe_cmpR op_isN h k (nomark _)) ha ev_non.toB fun x y σ H N Q r p q g => ⟨at_non q, by rw [at_isNon p]; exact goes_self (Q := Q) g r (.bl _)⟩
theorem ev_notN {j pos'} (ha : EvB X H0 ρ a d) : Ev X H0 ρ (.Compare a [.IsNot] [.Constant .none j pos'] pos) (.bl (!isNon d)) :=
  ev_bin (d2 := .non) (fun _ _ h k => pe_cmpR op_notN h k (nomark _)) ha ev_non.toB fun x y σ H N Q r p q g => ⟨at_non q, by rw [at_isNon p]; exact goes_self (Q := Q) g r (.bl _)⟩
end
end B

namespace B
open PySem PySem.Spec PyProof.Rows L2
/-! ### errors whose context is None: a def that raises one where nothing is handled -/
section
variable (X : Cx) (H0 : Hp) (ρ : Env') {α : Type}
/-- a block that raises the class of that name, out of the def -/
def ExcN (sts : List Stmt) (n : Str) : Prop := ∀ D σ H N, Rep X.K H0 ρ σ H N → (∃ W, L2N.Takes X W ∧ ∀ C σ' H', X.mg n = some (.ref C) → Same H0 H' → W (.ref C) none σ' H') → WB X sts D σ H
def EvXN (e : Expr) (n : Str) : Prop := ∀ σ H N, Rep X.K H0 ρ σ H N → ∀ W : WX, L2N.Takes X W → (∀ C H' N', X.mg n = some (.ref C) → Same N N' → Rep X.K H0 ρ σ H' N' → W (.ref C) none σ H') → ∀ Q, WE X e σ H Q
/-- .. only what a block raises is told -/
def XnM (k : Nat) (sts : List Stmt) (D : α → Outc) (m : M α) : Prop := match m with
  | .ex n => ExcN X H0 ρ sts n
  | _ => True
def EvNM (e : Expr) (en : α → Dat) (m : M α) : Prop := match m with
  | .ex n => EvXN X H0 ρ e n
  | _ => True
end
section
variable {X : Cx} {H0 : Hp} {ρ ρ1 : Env'} {α β : Type} {g : Bool} {k : Nat} {sts rest as bs : List Stmt} {D : α → Outc} {m m2 : M α} {c e : Expr} {n : Str} {p pos pos2 : Pos}
theorem xn_gd (h : g = true → XnM X H0 ρ k sts D m) : XnM X H0 ρ k sts D (M.gd g m) := by
  cases g with
  | true => exact h rfl
  | false => trivial
theorem xn_bind {mb : M β} {f : β → M α} (h : ∀ r, mb = .ok r → XnM X H0 ρ k sts D (f r)) : XnM X H0 ρ k sts D (M.bind (M.nox mb) f) := by
  cases mb with
  | ok r => exact h r rfl
  | ex _ => trivial
  | far => trivial
theorem xn_ofO {ob : Option β} {f : β → M α} (h : ∀ r, ob = some r → XnM X H0 ρ k sts D (f r)) : XnM X H0 ρ k sts D (M.bind (M.ofO ob) f) := by
  cases ob with
  | some r => exact h r rfl
  | none => trivial
theorem xn_ret {v : α} {d : Dat} (h : Ev X H0 ρ e d) (hD : D v = .rt d := by rfl) : XnM X H0 ρ k (.Return (some e) pos :: rest) D (.ok v) := trivial
theorem xn_ifX (hD : ∀ v, (D v).out) (hc : EvT X H0 ρ c g) (h1 : g = true → XnM X H0 ρ k as D m) (h2 : g = false → XnM X H0 ρ k rest D m2) : XnM X H0 ρ k (.If c as [] pos :: rest) D (if g = true then m else m2) := by
  cases g with
  | true =>
    rw [if_pos rfl]
    have h1 := h1 rfl
    cases m with
    | ok v => trivial
    | far => trivial
    | ex n =>
      intro DD σ H N r w
      refine wb_of (pss_cons ps_w pb_w) ?_
      show WS X (.If c as [] pos) { DD with nx := WB X rest DD } σ H
      exact ws_of (ps_if pt_w pb_w pb_w) ((hc σ H N r).imp fun v H' ⟨e1, N', s, n', r'⟩ => by
        subst e1
        exact iteT (h1 _ σ H' N' r' w))
  | false =>
    rw [if_neg (by decide)]
    have h2 := h2 rfl
    cases m2 with
    | ok v => trivial
    | far => trivial
    | ex n =>
      intro DD σ H N r w
      refine wb_of (pss_cons ps_w pb_w) ?_
      show WS X (.If c as [] pos) { DD with nx := WB X rest DD } σ H
      exact sx_skip hc _ σ H N r fun σ' H' N' s r' => h2 DD σ' H' N' r' w
theorem xn_raise {mm : Str} {j : Nat} {p2 : Pos} (T : Exc X.K X.mg n) (hc : X.calm = true) (hk : ρ.length = k := by rfl) (hg : Gl X n := by rfl) (hdb : (n == ("__debug__" : Str)) = false := by decide) : XnM X H0 ρ k (.Raise (some (.Call (.Name n p) [.Constant (.str mm) j p2] [] pos)) none pos2 :: rest) D (.ex n) := fun DD σ H N r ⟨W, tk, q⟩ => by
  obtain ⟨C, T⟩ := T
  refine wb_of (pss_cons ps_w pb_w) ?_
  show WS X _ { DD with nx := WB X rest DD } σ H
  exact ws_of (L2N.ps_raise hc tk (L2N.pmk_own PySem.F.excBase_ValueError T.x T.g T.k (raises_own T.b T.t) hg hdb)) (q C σ H T.g r.old)
theorem ends_n {m : M α} (h : XnM X H0 ρ k sts D m) : ∀ n, m = .ex n → ExcN X H0 ρ sts n := fun n e => by
  subst e
  exact h
end
/-- a def's promise about what it raises -/
def GFnN (P : Program) (w : World) (K : PySem.W.Frag) (mg : Str → Option Value) (base : Heap) (x : Str) (k : Nat) (R : List Dat → Str → Prop) : Prop :=
  ∃ f fd ps, FnOk P w K mg base (L2N.CX P w) k f fd ps (spR K mg fun ds o => ∃ n, o = .exc n ∧ R ds n) ∧ mg x = some (.ref f) ∧ PySem.W.keepIn K (.ref f) = true ∧ Binds K fd ps []
abbrev XXN (P : Program) (w : World) (K : PySem.W.Frag) (mg : Str → Option Value) (base : Heap) (N : List Str) (x : Str) (st : Stmt) (f : Addr) (cdv : Value) (A : Around) (outer : List PySem.Env) (s : Shared) (H : Hp) (E : XK) : Cx :=
  cxOf (L2N.CX P w) P w K mg base N x (defScope st) f cdv A outer s H E
section
variable {P : Program} {w : World} {K : PySem.W.Frag} {mg : Str → Option Value} {base : Heap} {x : Str} {st : Stmt} {ps N : List Str} {k : Nat} {R : List Dat → Str → Prop}
theorem GFnN.mk (D : Df K mg x st ps) (S : FnScope N ps (defScope st)) (hl : ∀ ds n, R ds n → ds.length = ps.length)
    (body : ∀ (f : Addr) (cdv : Value) (A : Around) (outer : List PySem.Env) (s : Shared) (H : Hp) (E : XK), Room k (XXN P w K mg base N x st f cdv A outer s H E).A → ∀ ds n, R ds n → ∃ es, Ents es ds ∧ ∀ H0, ExcN (XXN P w K mg base N x st f cdv A outer s H E) H0 (es ++ List.replicate (N.length - ps.length) .no) (defBody st) n) : GFnN P w K mg base x (k + 1) R := by
  obtain ⟨f, fd, F, hm, hb⟩ := D
  obtain ⟨oc, od, kV, doc, pm, an, cdv, ct, osl, rfl, lk, hcd⟩ := F.ex
  refine ⟨f, _, ps, fn_of lk hcd S (fun vs H Q E ⟨ds, o, ⟨n, _, hr⟩, a, _⟩ => by rw [a.length]; exact hl ds n hr) fun A outer s H vs Q E hr hsp => ?_, hm, F.kp, hb⟩
  obtain ⟨ds, o, ⟨n, ho, hR⟩, a, q⟩ := hsp
  subst ho
  obtain ⟨es, he, hbody⟩ := body f cdv A outer s H E hr ds n hR
  have hlen : vs.length = ps.length := by rw [a.length]; exact hl ds n hR
  have r : Rep K H (es ++ List.replicate (N.length - ps.length) .no) (L2.start N vs) H (Imm H) := hlen ▸ rep_start he a
  exact ⟨_, pb_w, hbody H { nx := fun _ H' => Q .non H', rt := Q } _ _ _ r ⟨_, L2N.takes_of rfl rfl rfl rfl, fun C σ H' hm s => q C H' hm s⟩⟩
end
section
variable {X : Cx} {H0 : Hp} {ρ : Env'} {α β γ S : Type} {a b e call : Expr} {es : List Expr} {ds : List Dat} {p pos : Pos} {x n n1 n2 : Str} {k kk : Nat} {m : M α} {en : α → Dat} {st : Stmt} {sts rest : List Stmt} {D : γ → Outc}
theorem evn_call {R : List Dat → Str → Prop} (G : GFnN X.prog X.w X.K X.mg X.base x kk R) (hr : Room kk X.A) (ha : EvAB X H0 ρ (e :: es) ds) (q : ∀ n, m = .ex n → R ds n) (hg : Gl X x := by rfl) (hdb : (x == ("__debug__" : Str)) = false := by decide)
    (he : starEach (e :: es) X.env = (false, eval e X.env) :: starEach es X.env := by rfl) (hpl : (backTo pos (starEach es X.env)).any (·.1) = false := by rfl) : EvNM X H0 ρ (.Call (.Name x p) (e :: es) [] pos) en m := by
  cases m with
  | ok v => trivial
  | far => trivial
  | ex n =>
    intro σ H N r W tk kw Q
    obtain ⟨f, fd, ps, F, hm, hk, hb⟩ := G
    refine we_of (pe_callS F hr hg hm hk hb (fun σ => L2N.passAt tk σ) pa_w hdb he hpl) ((ha σ H N r).imp fun vs H1 ⟨N1, s1, n1, r1, a1⟩ => ⟨ds, .exc n, ⟨n, rfl, q n rfl⟩, a1, fun C H' hC s' => ?_⟩)
    exact kw C H' N1 hC n1 (r1.grow s')
/-- a try whose body can't fall through, else or not -/
theorem try_else {P : Program} {w : World} {A : Around} {E : Value → Shared → Prop} {s : Shared} {env : PySem.Env} {body orelse : List Stmt} {h₀ : ExceptHandler} {hs : List ExceptHandler} {Q Q' : Flow → Shared → Prop}
    (h : wpAny (model P w) A (exec (.Try body (h₀ :: hs) [] [] pos) env) Q E s) (hq : ∀ f s, ¬ Q f s) : wpAny (model P w) A (exec (.Try body (h₀ :: hs) orelse [] pos) env) Q' E s := by
  intro Γ p hΓ
  have h := h Γ p hΓ
  rw [arm_exec_Try] at h ⊢
  unfold tryStmt at h ⊢
  simp only [List.isEmpty_nil, if_true, List.isEmpty_cons, Bool.false_and, Bool.false_eq_true, if_false, Sem.wp_bind'] at h ⊢
  refine Sem.wp_mono _ Γ _ (fun u p1 s1 h1 => ?_) (fun _ _ _ q => q) _ _ h
  refine Sem.wp_mono _ Γ _ (fun r p2 s2 h2 => ?_) (fun _ _ _ q => q) _ _ h1
  match r, h2 with
  | .ok .next, h2 => exact absurd h2 (hq _ _)
  | .ok .brk, h2 => exact absurd h2 (hq _ _)
  | .ok .cont, h2 => exact absurd h2 (hq _ _)
  | .ok (.ret v), h2 => exact absurd h2 (hq _ _)
  | .error er, h2 =>
    simp only [Sem.wp_bind'] at h2 ⊢
    refine Sem.wp_mono _ Γ _ (fun u p3 s3 h3 => ?_) (fun _ _ _ q => q) _ _ h2
    refine Sem.wp_mono _ Γ _ (fun u p4 s4 h4 => ?_) (fun _ _ _ q => q) _ _ h3
    exact Sem.wp_mono _ Γ _ (fun f p5 s5 h5 => absurd h5 (hq _ _)) (fun _ _ _ q => q) _ _ h4
/-- try: y = f(..), that raises n1; except n1: raise n2; else: .. -/
theorem sx_tryR {c : Value} {orelse : List Stmt} {np py pos' pos'' p' p2 pos1 pos2 : Pos} {y mm : Str} {j : Nat}
    (hs : X.stack = X.env :: X.outer) (hf : X.env.frame = some X.env.locals) (hpa : ∀ hd : Option Value, PassesOwnAt (model X.prog X.w) (X.A.mark hd) X.A X.env X.xe) (hc : Names X x c) (he : ∀ C, X.mg n1 = some (.ref C) → PySem.W.exmOne X.K (.ref C) c = some true)
    (hb : ∀ (pn : List (Addr × Obj)) (xe : Value → Shared → Prop), PassesOwn (model X.prog X.w) X.A X.env xe → EvXN (X.tr pn xe) H0 ρ call n1) (T : Exc X.K X.mg n2) (nd : X.N.Nodup)
    {i : Nat} (hi : X.N[i]? = some y := by rfl) (hx : Loc X.env.scope y := by first | exact Or.inl rfl | exact Or.inr rfl) (hsw : ∀ pn xe, swapsWith call (some (.Name y py)) pos.line (X.tr pn xe).env = pure false := by intro _ _; rfl) (hfn : X.fn y = true ∨ X.env.scope.names.lookup y = some .local := by first | exact .inl rfl | exact .inr rfl | assumption)
    (hg : Gl X n2 := by rfl) (hdb : (n2 == ("__debug__" : Str)) = false := by decide) :
    ExS X H0 ρ (.Try [.Assign [.Name y py] call pos] [.ExceptHandler (some (.Name x np)) none [.Raise (some (.Call (.Name n2 p') [.Constant (.str mm) j p2] [] pos1)) none pos2] pos'] orelse [] pos'') (.ex n2 ρ) := fun DD σ H N r ⟨W, tk, q⟩ => by
  have key : WS X (.Try [.Assign [.Name y py] call pos] [.ExceptHandler (some (.Name x np)) none [.Raise (some (.Call (.Name n2 p') [.Constant (.str mm) j p2] [] pos1)) none pos2] pos'] [] [] pos'') { nx := fun _ _ => False, rt := fun _ _ => False, bk := fun _ _ => False, ct := fun _ _ => False } σ H := by
    refine ws_of (L2H.ps_try_onlyX (c := c) (tb := fun W' D σ H => ∀ pn xe, L2N.Takes (X.tr pn xe) W' → PassesOwn (model X.prog X.w) X.A X.env xe → WB (X.tr pn xe) [.Assign [.Name y py] call pos] D σ H)
      (ts := fun a cls d D σ H => ∀ oe pn, L2.Takes (L2H.suiteX X a ((a, oe) :: pn)) W → L2H.HotC (L2H.suiteX X a ((a, oe) :: pn)) → WB (L2H.suiteX X a ((a, oe) :: pn)) [.Raise (some (.Call (.Name n2 p') [.Constant (.str mm) j p2] [] pos1)) none pos2] D σ H) (Wout := W) hs hf hc hpa tk (fun W' pn xe tk1 tk2 hp => ⟨fun pins s σ H D I h => (h pn xe tk1 hp).go pins s I⟩) (fun a oe cls d pn hz hd tk2 hot => ⟨fun pins s σ H D I h => (h oe pn tk2 hot).go pins s I⟩)) ?_
    intro pn xe tk1 hp
    refine wb_of (pss_one (ps_set (X := X.tr pn xe) nd hi hx pe_w (hsw pn xe) hfn)) ?_
    refine hb pn xe hp σ H N r _ tk1 (fun C H' N' hC n' r' => ?_) _
    refine ⟨true, he C hC, fun _ a ha oe pn' tk2 hot => ?_, fun z => nomatch z⟩
    obtain ⟨C2, T2⟩ := T
    refine wb_of (pss_one (L2H.ps_raiseH hot tk2 (L2N.pmk_own PySem.F.excBase_ValueError T2.x T2.g T2.k (raises_own T2.b T2.t) hg hdb))) ?_
    exact q C2 σ H' N' T2.g n' r'
  unfold WS
  intro pins s I
  refine try_else (key.go pins s I) fun f s' h => ?_
  cases f with
  | next => obtain ⟨_, _, _, z⟩ := h; exact z
  | brk => obtain ⟨_, _, _, z⟩ := h; exact z
  | cont => obtain ⟨_, _, _, z⟩ := h; exact z
  | ret u => obtain ⟨_, _, _, _, _, z⟩ := h; exact z
def trR {β : Type} (mb : M β) (n1 n2 : Str) : M β := match mb with
  | .ok r => .ok r
  | .ex n => if n = n1 then .ex n2 else .far
  | .far => .far
@[simp] theorem trR_ok {β : Type} (r : β) (n1 n2 : Str) : trR (M.ok r) n1 n2 = .ok r := id rfl
theorem trR_ex {β : Type} (n1 n2 : Str) : trR (M.ex n1 : M β) n1 n2 = .ex n2 := if_pos rfl
theorem xm_tryR {mb : M β} {eb : β → Dat} {f : β → M γ} {c : Value} {orelse : List Stmt} {np py pos' pos'' p' p2 pos1 pos2 : Pos} {y mm : Str} {jj : Nat} (j : Nat) (hD : ∀ g, (D g).out) (nd : X.N.Nodup)
    (hb : EvM X.nox H0 ρ call eb mb) (te : ∀ r, ExM X H0 (ρ.set j (.im (eb r))) k orelse D (f r))
    (hs : X.stack = X.env :: X.outer) (hff : X.env.frame = some X.env.locals) (hpa : ∀ hd : Option Value, PassesOwnAt (model X.prog X.w) (X.A.mark hd) X.A X.env X.xe) (hc : Names X x c) (he : ∀ C, X.mg n1 = some (.ref C) → PySem.W.exmOne X.K (.ref C) c = some true)
    (hbn : ∀ (pn : List (Addr × Obj)) (xe : Value → Shared → Prop), PassesOwn (model X.prog X.w) X.A X.env xe → EvNM (X.tr pn xe) H0 ρ call eb mb) (T : Exc X.K X.mg n2) (hk : ρ.length = k := by rfl)
    (hj : X.N[j]? = some y := by rfl) (hy : Loc X.env.scope y := by first | exact Or.inl rfl | exact Or.inr rfl)
    (hsw : swapsWith call (some (.Name y py)) pos.line X.env = pure false := by rfl) (hsw2 : ∀ pn xe, swapsWith call (some (.Name y py)) pos.line (X.tr pn xe).env = pure false := by intro _ _; rfl) (hf : X.fn y = true ∨ X.env.scope.names.lookup y = some .local := by first | exact .inl rfl | exact .inr rfl | assumption)
    (hg : Gl X n2 := by rfl) (hdb : (n2 == ("__debug__" : Str)) = false := by decide) :
    ExM X H0 ρ k (.Try [.Assign [.Name y py] call pos] [.ExceptHandler (some (.Name x np)) none [.Raise (some (.Call (.Name n2 p') [.Constant (.str mm) jj p2] [] pos1)) none pos2] pos'] orelse [] pos'' :: rest) D (M.bind (trR mb n1 n2) f) := by
  cases mb with
  | ok r => exact xm_tryE (mb := .ok r) (f := f) j hD nd hb te hj hy hsw hf
  | far => trivial
  | ex n =>
    unfold trR
    simp only
    by_cases e : n = n1
    · subst e
      rw [if_pos rfl]
      exact ex_raises (sx_tryR (i := j) hs hff hpa hc he hbn T nd hj hy hsw2 hf hg hdb) hk
    · rw [if_neg e]
      trivial
/-! ### i + f(..), where f may raise -/
theorem evm_addR {i : Int} {mb : M Int} (ha : Ev X H0 ρ a (.int i)) (hb : EvM X H0 ρ b Dat.int mb) : EvM X H0 ρ (.BinOp a .Add b pos) Dat.int (M.bind mb fun r => .ok (i + r)) := by
  cases mb with
  | ok r => exact ev_add ha hb
  | far => trivial
  | ex n =>
    intro σ H N r W tk kw Q
    exact we_of (pe_op (r := fun x y H Q => ∃ i j, x = .int i ∧ y = .int j ∧ Q (.int (i + j)) H) op_add pe_w pe_w) ((ha σ H N r).imp fun v H1 ⟨N1, s1, n1, r1, a1⟩ => hb σ H1 N1 r1 W tk (fun C H' N' hC n2 r2 => kw C H' N' hC (n1.trans n2) r2) _)
/-! ### try: y = f(..) except x: suite -/
theorem sx_tryO {o : Outc} {m : Str} {c : Value} {body suite : List Stmt} {b₀ : Stmt} {np pos pos' : Pos} {ρ1 : Env'} (hs : X.stack = X.env :: X.outer) (hf : X.env.frame = some X.env.locals) (hc : Names X x c) (he : ∀ C, X.mg m = some (.ref C) → PySem.W.exmOne X.K (.ref C) c = some true)
    (hb : ∀ (pn : List (Addr × Obj)) (xe : Value → Shared → Prop), PassesOwn (model X.prog X.w) X.A X.env xe → Exec (X.tr pn xe) H0 ρ body (.ex m ρ1))
    (hsu : ∀ (a : Addr) (oe : Obj) (pn : List (Addr × Obj)), Exec (X.suite a ((a, oe) :: pn)) H0 ρ1 (b₀ :: suite) o)
    (ho : o.noex) : ExS X H0 ρ (.Try body [.ExceptHandler (some (.Name x np)) none (b₀ :: suite) pos'] [] [] pos) o := fun D σ H N r k => by
  refine ws_of (ps_try_only (c := c) (tb := fun W D σ H => ∀ pn xe, Takes (X.tr pn xe) W → PassesOwn (model X.prog X.w) X.A X.env xe → WB (X.tr pn xe) body D σ H)
    (ts := fun a cls d D σ H => ∀ oe pn, WB (X.suite a ((a, oe) :: pn)) (b₀ :: suite) D σ H) (Wout := fun _ _ _ _ => False) hs hf hc takes0 (fun W pn xe tk hp => ⟨fun pins s σ H D I h => (h pn xe tk hp).go pins s I⟩) (fun a oe cls d pn hz hd => ⟨fun pins s σ H D I h => (h oe pn).go pins s I⟩)) ?_
  intro pn xe tk hp
  refine hb pn xe hp _ σ H N r ⟨_, tk, fun C σ1 H1 N1 hC n1 r1 => ⟨true, he C hC, fun _ a ha oe pn' => ?_, fun z => nomatch z⟩⟩
  refine hsu a oe pn' _ σ1 H1 N1 r1 ?_
  cases o with
  | nx ρ2 => exact fun σ2 H2 N2 n2 r2 => k σ2 H2 N2 (n1.trans n2) r2
  | rt d => exact fun v H a b r => k v H a (n1.trans b) r
  | ex n ρ2 => exact ho.elim
  | bk ρ2 => exact fun σ2 H2 N2 n2 r2 => k σ2 H2 N2 (n1.trans n2) r2
  | ct ρ2 => exact fun σ2 H2 N2 n2 r2 => k σ2 H2 N2 (n1.trans n2) r2
  | ro d => exact fun p H' N2 a b r => k p H' N2 a (n1.trans b) r
theorem sx_tryON {o : Outc} {c : Value} {body suite : List Stmt} {b₀ : Stmt} {np pos pos' : Pos} (hs : X.stack = X.env :: X.outer) (hf : X.env.frame = some X.env.locals) (hc : Names X x c)
    (hb : ∀ (pn : List (Addr × Obj)) (xe : Value → Shared → Prop), PassesOwn (model X.prog X.w) X.A X.env xe → Exec (X.tr pn xe) H0 ρ body o) (ho : o.noex) :
    ExS X H0 ρ (.Try body [.ExceptHandler (some (.Name x np)) none (b₀ :: suite) pos'] [] [] pos) o := fun D σ H N r k => by
  refine ws_of (ps_try_only (c := c) (tb := fun W D σ H => ∀ pn xe, Takes (X.tr pn xe) W → PassesOwn (model X.prog X.w) X.A X.env xe → WB (X.tr pn xe) body D σ H)
    (ts := fun a cls d D σ H => ∀ oe pn, WB (X.suite a ((a, oe) :: pn)) (b₀ :: suite) D σ H) (Wout := fun _ _ _ _ => False) hs hf hc takes0 (fun W pn xe tk hp => ⟨fun pins s σ H D I h => (h pn xe tk hp).go pins s I⟩) (fun a oe cls d pn hz hd => ⟨fun pins s σ H D I h => (h oe pn).go pins s I⟩)) ?_
  intro pn xe tk hp
  refine hb pn xe hp D σ H N r ?_
  cases o with
  | ex n ρ2 => exact ho.elim
  | nx ρ2 => exact k
  | rt d => exact k
  | bk ρ2 => exact k
  | ct ρ2 => exact k
  | ro d => exact k
theorem xm_tryB {mb : M β} {eb : β → Dat} {g : β → S} {hs : List (Str × M S)} {eS : S → Env'} {f : S → M γ} {c : Value} {suite : List Stmt} {b₀ : Stmt} {np py pos pos' pos'' : Pos} {y : Str} (j : Nat) (is : List Nat)
    (hst : X.stack = X.env :: X.outer) (hfr : X.env.frame = some X.env.locals) (nd : X.N.Nodup) (hc : Names X x c)
    (hb : ∀ (pn : List (Addr × Obj)) (xe : Value → Shared → Prop), PassesOwn (model X.prog X.w) X.A X.env xe → EvM (X.tr pn xe) H0 ρ call eb mb)
    (hok : ∀ r, eS (g r) = drops (ρ.set j (.im (eb r))) is)
    (hh : AllH (fun n h => (∀ C, X.mg n = some (.ref C) → PySem.W.exmOne X.K (.ref C) c = some true) ∧ ∀ (a : Addr) (oe : Obj) (pn : List (Addr × Obj)), ExM (X.suite a ((a, oe) :: pn)) H0 ρ k (b₀ :: suite) (fun s => .nx (eS s)) h) hs)
    (tt : ∀ s, ExM X H0 (eS s) k rest D (f s))
    (hj : X.N[j]? = some y := by rfl) (hy : Loc X.env.scope y := by first | exact Or.inl rfl | exact Or.inr rfl)
    (hsw : ∀ pn xe, swapsWith call (some (.Name y py)) pos.line (X.tr pn xe).env = pure false := by intro _ _; rfl) (hf : X.fn y = true ∨ X.env.scope.names.lookup y = some .local := by first | exact .inl rfl | exact .inr rfl | assumption) :
    ExM X H0 ρ k (.Try [.Assign [.Name y py] call pos] [.ExceptHandler (some (.Name x np)) none (b₀ :: suite) pos'] [] [] pos'' :: rest) D (M.bind (tryA mb g hs) f) := by
  cases mb with
  | ok r =>
    have h1 : ExS X H0 ρ (.Try [.Assign [.Name y py] call pos] [.ExceptHandler (some (.Name x np)) none (b₀ :: suite) pos'] [] [] pos'') (.nx (eS (g r))) :=
      sx_tryON hst hfr hc (fun pn xe hp => ex_then (sx_set (X := X.tr pn xe) j (hb pn xe hp) nd rfl hj hy (hsw pn xe) hf) (hok r ▸ ex_drops is ex_nil)) trivial
    exact xm_then h1 (tt (g r))
  | ex n' =>
    show ExM X H0 ρ k _ D (M.bind (lookM n' hs) f)
    induction hs with
    | nil => trivial
    | cons q r ih =>
      obtain ⟨⟨he, h1⟩, h2⟩ := hh
      unfold lookM
      by_cases e : n' = q.1
      · rw [if_pos e]
        subst e
        cases eh : q.2 with
        | ok s =>
          have h3 : ExS X H0 ρ (.Try [.Assign [.Name y py] call pos] [.ExceptHandler (some (.Name x np)) none (b₀ :: suite) pos'] [] [] pos'') (.nx (eS s)) :=
            sx_tryO (m := q.1) (ρ1 := ρ) hst hfr hc he (fun pn xe hp => ex_one (sx_setX (X := X.tr pn xe) (hb pn xe hp) nd hj hy (hsw pn xe) hf)) (fun a oe pn => by
              have := h1 a oe pn
              rw [eh] at this
              exact this) trivial
          exact xm_then h3 (tt s)
        | ex _ => trivial
        | far => trivial
      · rw [if_neg e]
        exact ih h2
  | far => trivial
end
end B

namespace B
open PySem PySem.Spec PyProof.Rows L2
/-! ### trees: None, or a tuple of trees -/
inductive Tr where
  | leaf
  | node (l : List Tr)
mutual
def trd : Tr → Dat
  | .leaf => .non
  | .node l => .tup (trds l)
def trds : List Tr → List Dat
  | [] => []
  | t :: r => trd t :: trds r
end
theorem trds_map : ∀ l : List Tr, trds l = l.map trd
  | [] => rfl
  | t :: r => by rw [trds, trds_map r]; rfl
theorem trd_node (l : List Tr) : trd (.node l) = tpnd trd l := by rw [trd, trds_map]
mutual
theorem flat_trd : ∀ t : Tr, flat (trd t) = true
  | .leaf => rfl
  | .node l => by rw [trd, flat]; exact flat_trds l
theorem flat_trds : ∀ l : List Tr, flats (trds l) = true
  | [] => rfl
  | t :: r => by rw [trds, flats, flat_trd t, flat_trds r]; rfl
end
def kid : Tr → Option (List Tr)
  | .leaf => none
  | .node l => some l
theorem kid_ok : ∀ {t : Tr} {l : List Tr}, kid t = some l → t = .node l
  | .node _, _, h => by cases h; rfl
def isLf : Tr → Bool
  | .leaf => true
  | .node _ => false
theorem isNon_trd : ∀ t : Tr, isNon (trd t) = isLf t
  | .leaf => rfl
  | .node l => by rw [trd]; rfl
theorem isTup_trd : ∀ t : Tr, isTup (trd t) = !isLf t
  | .leaf => rfl
  | .node l => by rw [trd]; rfl
theorem eqv_emp {α : Type} (e : α → Dat) (l : List α) : PyData.eqv (pd (lstd e l)) (pd (.lst [])) = l.isEmpty := by cases l <;> rfl
/-- how deep a tree is -/
inductive Dp : Nat → Tr → Prop where
  | leaf {n : Nat} : Dp n .leaf
  | node {n : Nat} {l : List Tr} : (∀ t ∈ l, Dp n t) → Dp (n + 1) (.node l)
theorem okn_dp : ∀ {n : Nat} {t : Tr}, Dp n t → ∀ {m : Nat}, n ≤ m → okn m (trd t) = true
  | _, _, .leaf, m, _ => by cases m <;> rfl
  | n + 1, .node l, .node h, m, hm => by
    obtain ⟨q, rfl⟩ : ∃ q, m = q + 1 := ⟨m - 1, by omega⟩
    rw [trd_node]
    show (l.map trd).all (okn q) = true
    rw [List.all_map]
    exact List.all_eq_true.mpr fun x hx => okn_dp (h x hx) (by omega)
section
variable {X : Cx} {H0 : Hp} {ρ ρ1 : Env'} {α β γ : Type} {a b c e : Expr} {rest : List Stmt} {d : Dat} {ds : List Dat} {p pos apos : Pos} {k : Nat} {D : γ → Outc}
theorem ev_trl (h : Ev X H0 ρ e .non) : Ev X H0 ρ e (trd .leaf) := h
theorem ev_trn {l : List Tr} (h : Ev X H0 ρ e (tpnd trd l)) : Ev X H0 ρ e (trd (.node l)) := by rw [trd_node]; exact h
theorem ev_trk {t : Tr} {l : List Tr} (h : Ev X H0 ρ e (trd t)) (q : kid t = some l) : Ev X H0 ρ e (tpnd trd l) := by rw [← trd_node, ← kid_ok q]; exact h
/-! ### zip of two tuples -/
theorem it_zipT {ea : α → Dat} {eb : β → Dat} {l1 : List α} {l2 : List β} {elts : List Expr} {kk : Nat} {tpos : Pos} (ha : Ev X H0 ρ a (tpnd ea l1)) (hb : Ev X H0 ρ b (tpnd eb l2)) (hm : X.mg "zip" = none) (hg : Gl X "zip" := by rfl) (hs : starEach [a, b] X.env = (false, eval a X.env) :: starEach [b] X.env := by rfl) (hs2 : starEach [b] X.env = [(false, eval b X.env)] := by rfl) (hpl : (backTo pos (starEach [b] X.env)).any (·.1) = false := by rfl) :
    Iter X H0 ρ (.Tuple elts kk tpos) (.Call (.Name "zip" p) [a, b] [] pos) ((l1.zip l2).map (tup2 ea eb)) := ⟨_, RZ.pi_zipA hg hm pa_w hs hpl, fun σ H N r R k => (ea_cons ha (ea_cons hb ea_nil (hs := hs2)) (hs := hs) σ H N r).imp fun vs H' ⟨N', s, n, r', q⟩ => by
  cases q with
  | cons a1 t =>
    cases t with
    | cons a2 t2 =>
      cases t2
      obtain ⟨p1, v1, rfl, q1, q2⟩ := at_seq a1
      obtain ⟨p2, v2, rfl, q3, q4⟩ := at_seq a2
      refine ⟨p1, p2, v1, v2, rfl, .inr ⟨sqt_same r'.sub q1, sqt_same r'.sub q3, k _ H' N' n s r' fun H02 ρ2 σ2 H2 N2 i s02 s2 r2 => ?_⟩⟩
      have g1 := sqt_same r2.sub (sqt_same s2 q1)
      have g3 := sqt_same r2.sub (sqt_same s2 q3)
      have l1l : v1.length = l1.length := by rw [q2.length, List.length_map]
      have l2l : v2.length = l2.length := by rw [q4.length, List.length_map]
      refine ⟨fun hi => ?_, fun hi => ?_⟩
      · rw [List.length_map, List.length_zip] at hi
        have i1 : i < l1.length := by omega
        have i2 : i < l2.length := by omega
        obtain ⟨x1, x2, x3⟩ := (q2.mono s2).get (i := i) (d := ea l1[i]) (by rw [List.getElem?_map, List.getElem?_eq_getElem i1]; rfl)
        obtain ⟨y1, y2, y3⟩ := (q4.mono s2).get (i := i) (d := eb l2[i]) (by rw [List.getElem?_map, List.getElem?_eq_getElem i2]; rfl)
        refine ⟨⟨v1, v2, x1, y1, g1, g3, x2, y2⟩, fun x H3 y => ?_⟩
        obtain ⟨T, x, z, rfl, hT, rfl, f1, f2⟩ := y
        have e1 := f1 _ g1
        rw [x2] at e1
        cases e1
        have e2 := f2 _ g3
        rw [y2] at e2
        cases e2
        obtain ⟨r3, n3⟩ := r2.new (o := .tup [x1, y1]) hT
        refine ⟨_, tup2 ea eb (l1[i], l2[i]), n3, Same.of_none hT, r3, ?_, .tup (.inl (.inl upd_same)) (.cons (x3.mono n3) (.cons (y3.mono n3) .nil))⟩
        rw [List.getElem?_map]
        have hz : (l1.zip l2)[i]? = some (l1[i], l2[i]) := by
          rw [List.getElem?_zip_eq_some]
          exact ⟨List.getElem?_eq_getElem i1, List.getElem?_eq_getElem i2⟩
        rw [hz]
        rfl
      · rw [List.length_map, List.length_zip] at hi
        exact ⟨v1, v2, g1, g3, by omega⟩⟩
/-! ### x, y = l.pop() -/
theorem Ats.dropLast {K : PySem.W.Frag} {H : Hp} {vs : List V} (h : Ats K H vs ds) : Ats K H vs.dropLast ds.dropLast := by
  rw [List.dropLast_eq_take, List.dropLast_eq_take, h.length]
  exact h.take _
theorem sx_popT {t : Expr} {ok : Dat → Prop} {bd : Dat → Env' → Env'} (i : Nat) {y : Str} {p1 p2 p3 : Pos} (hi : ρ[i]? = some (.ow (.lst ds))) (hl : ds[ds.length - 1]? = some d) (hg : Tgt X H0 t ok bd) (hk : ok d) (hρ : bd d (ρ.set i (.ow (.lst ds.dropLast))) = ρ1) (hN : X.N[i]? = some y := by rfl) (hv : Vis X.env.scope y := by first | exact Or.inl rfl | exact Or.inr (Or.inl rfl) | exact Or.inr (Or.inr rfl))
    (hd : (y == ("__debug__" : Str)) = false := by decide) (hcd : (y == ("__classdict__" : Str)) = false := by decide)
    (hpe : ∀ to, PE X (.Name y p1) to → PE X (.Call (.Attribute (.Name y p1) "pop" p2) [] [] p3) (tBM0 X.K "list" rPop to) := by exact fun _ h => pe_bm0 PySem.F.plainAttrs_list PySem.F.slot_list_pop PySem.F.type_list_pop mt_pop h)
    (hs : swapsWithSole [t] (.Call (.Attribute (.Name y p1) "pop" p2) [] [] p3) pos.line X.env = pure false := by rfl) (hw : swappedStores [t] (.Call (.Attribute (.Name y p1) "pop" p2) [] [] p3) X.env = pure none := by rfl)
    (h1 : (assignEach [t] X.env).map (·.2) = [assign t X.env] := by rfl) : ExS X H0 ρ (.Assign [t] (.Call (.Attribute (.Name y p1) "pop" p2) [] [] p3) pos) (.nx ρ1) := fun D σ H N r q => by
  obtain ⟨g, pg, gg⟩ := hg.pg
  obtain ⟨q0, g1, g2, g3, vs, g4, g5⟩ := r.ow i _ hi
  obtain ⟨v, w1, w2⟩ := g5.get hl
  refine ws_of (ps_asg (hpe _ (pv i hN hv hd hcd)) pg hs hw h1) ⟨_, g1, .inl ⟨rfl, _, .inl (.inl g4)⟩, q0, vs, v, rfl, rfl, g4, by rw [g5.length]; exact w1, ?_⟩
  have r2 := r.write hi g1 (o := .lst vs.dropLast) (d' := .lst ds.dropLast) ⟨_, upd_same, g5.dropLast⟩
  exact gg _ σ _ N v d r2 w2 hk _ fun σ2 H2 N2 n2 r3 => q σ2 H2 N2 n2 (hρ ▸ r3)
theorem xm_popT {en : β → Dat} {l : List β} {v : β} {f : List β × β → M γ} {t : Expr} {ok : Dat → Prop} {bd : Dat → Env' → Env'} (i : Nat) {y : Str} {p1 p2 p3 : Pos} (hi : ρ[i]? = some (.ow (lstd en l))) (hl : l.getLast? = some v) (hg : Tgt X H0 t ok bd) (hok : ∀ r, ok (en r)) (tt : ∀ q : List β × β, ExM X H0 (bd (en q.2) (ρ.set i (.ow (lstd en q.1)))) k rest D (f q)) (hN : X.N[i]? = some y := by rfl) (hv : Vis X.env.scope y := by first | exact Or.inl rfl | exact Or.inr (Or.inl rfl) | exact Or.inr (Or.inr rfl))
    (hd : (y == ("__debug__" : Str)) = false := by decide) (hcd : (y == ("__classdict__" : Str)) = false := by decide)
    (hpe : ∀ to, PE X (.Name y p1) to → PE X (.Call (.Attribute (.Name y p1) "pop" p2) [] [] p3) (tBM0 X.K "list" rPop to) := by exact fun _ h => pe_bm0 PySem.F.plainAttrs_list PySem.F.slot_list_pop PySem.F.type_list_pop mt_pop h)
    (hs : swapsWithSole [t] (.Call (.Attribute (.Name y p1) "pop" p2) [] [] p3) pos.line X.env = pure false := by rfl) (hw : swappedStores [t] (.Call (.Attribute (.Name y p1) "pop" p2) [] [] p3) X.env = pure none := by rfl)
    (h1 : (assignEach [t] X.env).map (·.2) = [assign t X.env] := by rfl) : ExM X H0 ρ k (.Assign [t] (.Call (.Attribute (.Name y p1) "pop" p2) [] [] p3) pos :: rest) D (M.lt (l.dropLast, v) f) := by
  have h := tt (l.dropLast, v)
  refine xm_then (sx_popT i hi (d := en v) ?_ hg (hok v) ?_ hN hv hd hcd hpe hs hw h1) h
  · rw [List.length_map, List.getElem?_map]
    rw [List.getLast?_eq_getElem?] at hl
    rw [hl]
    rfl
  · show bd (en v) (ρ.set i (.ow (.lst (l.map en).dropLast))) = _
    rw [← List.map_dropLast]
/-! ### {k: v} -/
theorem eo_dic1 {en : α → Dat} {key : List Nat} {v : α} {ke ve : Expr} (hn : noOl ρ) (hk : ∀ H0', Ev X H0' ρ ke (tx key)) (hv : ∀ H0', Ev X H0' ρ ve (en v)) : EvO X H0 ρ (.Dict [some ke] [ve] pos) (dicd en [(key, v)]) := fun σ H N r => we_of (pe_disp (pps_cons pe_w pe_w pps_nil) rfl rfl (fun z => nomatch z) (by show 1 ≤ 15; decide)) (fun p hp => by
  have np : N p = none := r.sub.free hp
  have hp0 : H0 p = none := r.old.free hp
  have r1 := r.upd0 hn (a := p) (o := .dK []) True.intro np (fun j d' e => no_own r hp j d' e)
  show WE X ke σ (upd H p (.dK [])) fun k H1 => WE X ve σ H1 fun v H2 => _
  refine (hk _ σ _ N r1).imp fun x H1 ⟨N1, s1, n1, r2, a1⟩ => (hv _ σ H1 N1 r2).imp fun y H2 ⟨N2, s2, n2, r3, a2⟩ => ?_
  have hx := at_str a1
  subst hx
  have h2 : H2 p = some (.dK []) := r3.old p _ upd_same
  refine ⟨h2, [((Sum.inr (SX.S key) : Key), y)], rfl, by show 1 ≤ 15; decide, ?_⟩
  have np2 := n_of r3 (a := p) upd_same True.intro
  have r4 := r3.upd0 hn (a := p) (o := .dK (mergeK [] [((Sum.inr (SX.S key) : Key), y)])) True.intro np2 (own_ne r3 upd_same)
  have e1 : upd (upd H0 p (.dK [])) p (.dK (mergeK [] [((Sum.inr (SX.S key) : Key), y)])) = Un H0 (upd (fun _ => none) p (.dK (mergeK [] [((Sum.inr (SX.S key) : Key), y)]))) := by
    rw [un_upd]
    funext b
    by_cases q : b = p
    · subst q; rw [upd_same, upd_same]
    · rw [upd_ne q, upd_ne q, upd_ne q]; rfl
  rw [e1] at r4
  have r5 := r4.low2 (fun a u z => by
    by_cases q : a = p
    · rw [q]; exact hp0
    · rw [upd_ne q] at z; cases z) hn
  refine ⟨N2, p, rfl, hp, fun b u z => ?_, n1.trans n2, r5, np2, [((Sum.inr (SX.S key) : Key), y)], upd_same, .cons a2 .nil⟩
  have q : b ≠ p := ne_of_none z hp
  rw [upd_ne q]
  exact s2 b u (s1 b u (by rw [upd_ne q]; exact z)))
end
end B

namespace B
open PySem PySem.Spec PyProof.Rows L2
/-! ### a def that hands out flat data may keep what it is handed: all its parameters are data that nobody changes -/
inductive EntsI : List Ent → List Dat → Prop where
  | nil : EntsI [] []
  | im {d : Dat} {es : List Ent} {ds : List Dat} : EntsI es ds → EntsI (.im d :: es) (d :: ds)
theorem EntsI.get {K : PySem.W.Frag} {H : Hp} : ∀ {es : List Ent} {ds : List Dat} {vs : List V}, EntsI es ds → Ats K H vs ds → ∀ i : Nat, (es[i]? = none ∧ vs[i]? = none) ∨ ∃ v d, vs[i]? = some v ∧ es[i]? = some (Ent.im d) ∧ At K H v d
  | _, _, _, .nil, .nil, i => .inl ⟨by simp, by simp⟩
  | _, _, _, .im _, .cons a _, 0 => .inr ⟨_, _, rfl, rfl, a⟩
  | _, _, _, .im t, .cons _ b, i + 1 => by simpa using EntsI.get t b i
theorem EntsI.length : ∀ {es : List Ent} {ds : List Dat}, EntsI es ds → es.length = ds.length
  | _, _, .nil => rfl
  | _, _, .im t => congrArg (· + 1) (EntsI.length t)
theorem rep_startI {K : PySem.W.Frag} {H : Hp} {es : List Ent} {ds : List Dat} {vs : List V} {N : List Str} (e : EntsI es ds) (a : Ats K H vs ds) : Rep K (fun _ => none) (es ++ List.replicate (N.length - vs.length) .no) (L2.start N vs) H H := by
  have hl : es.length = vs.length := by rw [e.length, a.length]
  have geE : ∀ (i : Nat) x, (es ++ List.replicate (N.length - vs.length) Ent.no)[i]? = some x → x ≠ .no → es[i]? = some x := fun i x h n => by
    by_cases hi : i < es.length
    · rw [List.getElem?_append_left hi] at h; exact h
    · rw [List.getElem?_append_right (by omega), List.getElem?_replicate] at h
      split at h
      · cases h; exact (n rfl).elim
      · cases h
  have geV : ∀ (i : Nat) v, vs[i]? = some v → (L2.start N vs)[i]? = some (some v) := fun i v h => by
    unfold L2.start
    rw [List.getElem?_append_left (by rw [List.length_map]; exact (List.getElem?_eq_some_iff.mp h).1), List.getElem?_map, h]
    rfl
  refine ⟨fun b u h => (nomatch h), Same.refl _, fun b u h => ?_, fun b u h m => rfl, ?_, fun i d h => ?_, fun i d h => ?_, fun i d h => ?_, fun i d h => ?_, fun i j d d' p ne h => ?_⟩
  · have := imm_sub _ _ _ h
    cases this
  · unfold L2.start
    simp [hl]
  · have h1 := geE i _ h (fun z => nomatch z)
    rcases e.get a i with ⟨h2, _⟩ | ⟨v, d', hv, h2, q⟩
    · rw [h1] at h2; cases h2
    · rw [h1] at h2; cases h2; exact ⟨v, geV i v hv, q⟩
  · have h1 := geE i _ h (fun z => nomatch z)
    rcases e.get a i with ⟨h2, _⟩ | ⟨v, d', hv, h2, q⟩ <;> (rw [h1] at h2; cases h2)
  · have h1 := geE i _ h (fun z => nomatch z)
    rcases e.get a i with ⟨h2, _⟩ | ⟨v, d', hv, h2, q⟩ <;> (rw [h1] at h2; cases h2)
  · have h1 := geE i _ h (fun z => nomatch z)
    rcases e.get a i with ⟨h2, _⟩ | ⟨v, d', hv, h2, q⟩ <;> (rw [h1] at h2; cases h2)
  · have h1 := geE i _ h (fun z => nomatch z)
    rcases e.get a i with ⟨h2, _⟩ | ⟨v, d', hv, h2, q⟩ <;> (rw [h1] at h2; cases h2)
def Res.fl : Res → Prop
  | .val d => flat d = true
  | .exc _ => True
  | .own _ => False
theorem ret_flat {K : PySem.W.Frag} {H0 H : Hp} {v : V} {d : Dat} (f : flat d = true) (h : Ret K H0 v d H) (H1 : Hp) : Ret K H1 v d H := by
  obtain ⟨N, n1, _, n3⟩ := h
  exact ⟨Imm N, (imm_sub N).trans n1, fun a o e m => (imm_not e m).elim, n3.imm f⟩
section
variable {P : Program} {w : World} {K : PySem.W.Frag} {mg : Str → Option Value} {base : Heap} {x : Str} {st : Stmt} {ps N : List Str} {k : Nat} {R : List Dat → Res → Prop} {f : Addr} {fd : FuncData}
theorem fn_mk2I (F : Fun K x x st f fd) (S : FnScope N ps (defScope st)) (hl : ∀ ds o, R ds o → ds.length = ps.length) (hv : ∀ ds o, R ds o → o.fl)
    (body : ∀ (f : Addr) (cdv : Value) (A : Around) (outer : List PySem.Env) (s : Shared) (H : Hp) (E : XK), Room k (XX P w K mg base N x st f cdv A outer s H E).A → ∀ ds o, R ds o → ∃ es, EntsI es ds ∧ ∀ H0, Ends' (XX P w K mg base N x st f cdv A outer s H E) H0 (es ++ List.replicate (N.length - ps.length) .no) (defBody st) o) : FnOk P w K mg base (L2.CX P w) (k + 1) f fd ps (spR K mg R) := by
  refine F.okX S (fun vs H Q E ⟨ds, o, hr, a, _⟩ => by rw [a.length]; exact hl ds o hr) fun cdv A outer s H vs Q E hr hsp => ?_
  obtain ⟨ds, o, hR, a, q⟩ := hsp
  obtain ⟨es, he, hbody⟩ := body f cdv A outer s H E hr ds o hR
  have hlen : vs.length = ps.length := by rw [a.length]; exact hl ds o hR
  have r : Rep K (fun _ => none) (es ++ List.replicate (N.length - ps.length) .no) (L2.start N vs) H H := hlen ▸ rep_startI he a
  have hb := hbody (fun _ => none)
  have hf := hv ds o hR
  refine ⟨_, pb_w, ?_⟩
  cases hb with
  | ret h => exact h { nx := fun _ H' => Q .non H', rt := Q } _ _ _ r fun v H' _ sn rt => q v H' sn (ret_flat hf rt H)
  | non h => exact h { nx := fun _ H' => Q .non H', rt := Q } _ _ _ r fun σ H' N' s r' => q .non H' (s.trans r'.sub) (ret_flat rfl ⟨N', r'.sub, fun a o e m => r'.fresh a o e m, .non⟩ H)
  | own h => exact hf.elim
  | exc h => exact h { nx := fun _ H' => Q .non H', rt := Q } _ _ _ r ⟨_, takes_of rfl rfl rfl rfl, fun C σ H' N' hm s r' => q C H' hm (s.trans r'.sub)⟩
theorem GFn.mk2I (D : Df K mg x st ps) (S : FnScope N ps (defScope st)) (hl : ∀ ds o, R ds o → ds.length = ps.length) (hv : ∀ ds o, R ds o → o.fl)
    (body : ∀ (f : Addr) (cdv : Value) (A : Around) (outer : List PySem.Env) (s : Shared) (H : Hp) (E : XK), Room k (XX P w K mg base N x st f cdv A outer s H E).A → ∀ ds o, R ds o → ∃ es, EntsI es ds ∧ ∀ H0, Ends' (XX P w K mg base N x st f cdv A outer s H E) H0 (es ++ List.replicate (N.length - ps.length) .no) (defBody st) o) : GFn P w K mg base x (k + 1) R := by
  obtain ⟨f, fd, F, hm, hb⟩ := D
  exact ⟨f, fd, ps, fn_mk2I F S hl hv body, hm, F.kp, hb⟩
theorem rm_flat {α : Type} {en : α → Dat} (h : ∀ a, flat (en a) = true) {m : M α} {o : Res} (q : Rm en m o) : o.fl := by
  cases m with
  | ok v => cases (show o = _ from q); exact h v
  | ex n => cases (show o = _ from q); trivial
  | far => exact (show False from q).elim
end
mutual
theorem inj_tre : ∀ a b : Tr, trd a = trd b → a = b
  | .leaf, .leaf, _ => rfl
  | .leaf, .node l, h => by rw [trd, trd] at h; cases h
  | .node l, .leaf, h => by rw [trd, trd] at h; cases h
  | .node l, .node m, h => by
    rw [trd, trd] at h
    rw [inj_tres l m (Dat.tup.inj h)]
theorem inj_tres : ∀ a b : List Tr, trds a = trds b → a = b
  | [], [], _ => rfl
  | [], _ :: _, h => by rw [trds, trds] at h; cases h
  | _ :: _, [], h => by rw [trds, trds] at h; cases h
  | x :: a, y :: b, h => by
    rw [trds, trds] at h
    obtain ⟨h1, h2⟩ := List.cons.inj h
    rw [inj_tre x y h1, inj_tres a b h2]
end
end B

namespace B
open PySem PySem.Spec PyProof.Rows L2
/-! ### a nested thing of one's own, at the slot i: its cells are Hs, its worth is t -/
structure Zp (K : PySem.W.Frag) (τ : Type) where
  Z : τ → Hp → Hp → Addr → Prop
  en : τ → Dat
  mono : ∀ {t : τ} {N N' Hs : Hp} {p : Addr}, Same N N' → Z t N Hs p → Z t N' Hs p
  mu : ∀ {t : τ} {N Hs : Hp} {p a : Addr} {u : HO}, Z t N Hs p → Hs a = some u → Mut (some u)
  at_ : ∀ {t : τ} {N Hs G : Hp} {p : Addr}, Z t N Hs p → Same N G → Same Hs G → At K G (.ref p) (en t)
inductive OcZ (τ : Type) where
  | nx (ρ : Env') (t : τ)
  | ex (n : Str) (ρ : Env')
  | rt (d : Dat)
section
variable {τ : Type} {X : Cx} (z : Zp X.K τ) (H0 : Hp) (i : Nat)
def StZ (ρ : Env') (t : τ) (σ : L2.St) (H N : Hp) : Prop := ∃ p Hs, z.Z t N Hs p ∧ (∀ a u, Hs a = some u → H0 a = none) ∧ Rep X.K (Un H0 Hs) (ρ.set i (.rf p)) σ H N
def ContZ (N : Hp) (D : Ends) : OcZ τ → Prop
  | .nx ρ t => ∀ σ H N', Same N N' → StZ z H0 i ρ t σ H N' → D.nx σ H
  | .ex n ρ => ∃ W, Takes X W ∧ ∀ C σ H N', X.mg n = some (.ref C) → Same N N' → Rep X.K H0 ρ σ H N' → W (.ref C) none σ H
  | .rt d => ∀ v H, Same H0 H → Same N H → Ret X.K H0 v d H → D.rt v H
def ExecZ (ρ : Env') (t : τ) (sts : List Stmt) (o : OcZ τ) : Prop := ∀ D σ H N, StZ z H0 i ρ t σ H N → ContZ z H0 i N D o → WB X sts D σ H
def ExSZ (ρ : Env') (t : τ) (st : Stmt) (o : OcZ τ) : Prop := ∀ D σ H N, StZ z H0 i ρ t σ H N → ContZ z H0 i N D o → WS X st D σ H
def ExMZ {γ : Type} (ρ : Env') (t : τ) (k : Nat) (sts : List Stmt) (D : γ → OcZ τ) (m : M γ) : Prop := match m with
  | .ok v => ExecZ z H0 i ρ t sts (D v)
  | .ex n => ExecZ z H0 i ρ t sts (.ex n (List.replicate k .no))
  | .far => True
def EtZ (ρ : Env') (t : τ) (c : Expr) (b : Bool) : Prop := ∀ σ H N, StZ z H0 i ρ t σ H N → WT X c σ H fun v H' => v = b ∧ Same H H' ∧ StZ z H0 i ρ t σ H' N
end
section
variable {τ α β γ S R : Type} {X : Cx} {z : Zp X.K τ} {H0 : Hp} {i k : Nat} {Φ : Hp → Prop} {ρ ρ1 : Env'} {t t1 : τ} {st : Stmt} {sts rest body as bs : List Stmt} {b c e : Expr} {p1 pos : Pos} {o : OcZ τ} {D : γ → OcZ τ}
theorem ContZ.mono {N N' : Hp} {DD : Ends} (c : ContZ z H0 i N DD o) (s : Same N N') : ContZ z H0 i N' DD o := by
  cases o with
  | nx ρ T => exact fun σ H N2 s2 r => c σ H N2 (s.trans s2) r
  | ex n ρ =>
    obtain ⟨W, t, k⟩ := c
    exact ⟨W, t, fun C σ H N2 m s2 r => k C σ H N2 m (s.trans s2) r⟩
  | rt d => exact fun v H a b r => c v H a (s.trans b) r
theorem ez_nil : ExecZ z H0 i ρ t [] (.nx ρ t) := fun D σ H N r k => wb_of pss_nil (k σ H N (Same.refl _) r)
theorem ez_then (h : ExSZ z H0 i ρ t st (.nx ρ1 t1)) (tt : ExecZ z H0 i ρ1 t1 rest o) : ExecZ z H0 i ρ t (st :: rest) o := fun D σ H N r c => by
  refine wb_of (pss_cons ps_w pb_w) ?_
  show WS X st { D with nx := WB X rest D } σ H
  exact h _ σ H N r fun σ' H' N' s r' => tt D σ' H' N' r' (c.mono s)
theorem ez_ex {n : Str} {ρ' : Env'} (h : ExSZ z H0 i ρ t st (.ex n ρ')) : ExecZ z H0 i ρ t (st :: rest) (.ex n ρ') := fun D σ H N r c => by
  refine wb_of (pss_cons ps_w pb_w) ?_
  show WS X st { D with nx := WB X rest D } σ H
  exact h _ σ H N r c
theorem xz_then {m : M γ} (h : ExSZ z H0 i ρ t st (.nx ρ1 t1)) (tt : ExMZ z H0 i ρ1 t1 k rest D m) : ExMZ z H0 i ρ t k (st :: rest) D m := by
  cases m with
  | ok v => exact ez_then h tt
  | ex n => exact ez_then h tt
  | far => trivial
theorem xz_gd {m : M γ} {g : Bool} (h : g = true → ExMZ z H0 i ρ t k sts D m) : ExMZ z H0 i ρ t k sts D (M.gd g m) := by
  cases g with
  | true => exact h rfl
  | false => trivial
theorem xz_ofO {ob : Option β} {f : β → M γ} (h : ∀ r, ob = some r → ExMZ z H0 i ρ t k sts D (f r)) : ExMZ z H0 i ρ t k sts D (M.bind (M.ofO ob) f) := by
  cases ob with
  | some r => exact h r rfl
  | none => trivial
theorem xz_bind {mb : M β} {f : β → M γ} (h : ∀ r, mb = .ok r → ExMZ z H0 i ρ t k sts D (f r)) : ExMZ z H0 i ρ t k sts D (M.bind (M.nox mb) f) := by
  cases mb with
  | ok r => exact h r rfl
  | ex _ => trivial
  | far => trivial
theorem StZ.drop {σ : L2.St} {H N : Hp} (j : Nat) (hj : j ≠ i) (h : StZ z H0 i ρ t σ H N) : StZ z H0 i (ρ.set j .no) t σ H N := by
  obtain ⟨p, Hs, n, d, r⟩ := h
  refine ⟨p, Hs, n, d, ?_⟩
  rw [List.set_comm _ _ hj]
  exact r.drop j
theorem xz_end {v : γ} (hD : D v = .nx ρ t := by rfl) : ExMZ z H0 i ρ t k [] D (.ok v) := by
  show ExecZ z H0 i ρ t [] (D v)
  rw [hD]
  exact ez_nil
theorem xz_drop {m : M γ} (j : Nat) (hj : j ≠ i) (h : ExMZ z H0 i (ρ.set j .no) t k sts D m) : ExMZ z H0 i ρ t k sts D m := by
  cases m with
  | ok v => exact fun DD σ H N r c => h DD σ H N (r.drop j hj) c
  | ex n => exact fun DD σ H N r c => h DD σ H N (r.drop j hj) c
  | far => trivial
theorem un_same {Hs : Hp} (d : ∀ a u, Hs a = some u → H0 a = none) : Same H0 (Un H0 Hs) := fun a u e => by
  unfold Un
  cases q : Hs a with
  | none => exact e
  | some w => rw [d a w q] at e; cases e
/-- a statement that doesn't touch the thing -/
theorem sz_plain (hΦ : Φ H0) (mΦ : ∀ {A B : Hp}, Same A B → Φ A → Φ B) (h : ∀ H0' p, Φ H0' → ExS X H0' (ρ.set i (.rf p)) st (.nx (ρ1.set i (.rf p)))) : ExSZ z H0 i ρ t st (.nx ρ1 t) := fun D σ H N ⟨p, Hs, n, d, r⟩ c =>
  h (Un H0 Hs) p (mΦ (un_same d) hΦ) D σ H N r fun σ' H' N' s r' => c σ' H' N' s ⟨p, Hs, z.mono s n, d, r'⟩
theorem sz_plainX {n : Str} {k : Nat} (hΦ : Φ H0) (mΦ : ∀ {A B : Hp}, Same A B → Φ A → Φ B) (h : ∀ H0' p, Φ H0' → ExS X H0' (ρ.set i (.rf p)) st (.ex n (List.replicate k .no))) : ExSZ z H0 i ρ t st (.ex n (List.replicate k .no)) := fun D σ H N ⟨p, Hs, nn, d, r⟩ ⟨W, tk, c⟩ =>
  h (Un H0 Hs) p (mΦ (un_same d) hΦ) D σ H N r ⟨W, tk, fun C σ' H' N' m s r' => c C σ' H' N' m s (r'.low2 d (noOl_no k))⟩
theorem xz_one {m : M β} {f : β → M γ} (eS : β → Env') (hΦ : Φ H0) (mΦ : ∀ {A B : Hp}, Same A B → Φ A → Φ B) (h : ∀ H0' p, Φ H0' → ExM X H0' (ρ.set i (.rf p)) k [st] (fun r => .nx ((eS r).set i (.rf p))) m) (tt : ∀ r, ExMZ z H0 i (eS r) t k rest D (f r)) : ExMZ z H0 i ρ t k (st :: rest) D (M.bind m f) := by
  cases m with
  | ok r => exact xz_then (sz_plain (Φ := Φ) hΦ mΦ fun H0' p hp => fun DD σ H N rp c => ws_one (h H0' p hp DD σ H N rp c)) (tt r)
  | ex n => exact ez_ex (sz_plainX (Φ := Φ) hΦ mΦ fun H0' p hp => fun DD σ H N rp c => ws_one (h H0' p hp DD σ H N rp c))
  | far => trivial
/-- the thing as data that nobody changes -/
theorem Rep.frz {Hs H N : Hp} {σ : L2.St} {p : Addr} (hn : noOl ρ) (hi : i < ρ.length) (n : z.Z t N Hs p) (d : ∀ a u, Hs a = some u → H0 a = none) (r : Rep X.K (Un H0 Hs) (ρ.set i (.rf p)) σ H N) : Same N (Un N Hs) ∧ Rep X.K H0 (ρ.set i (.im (z.en t))) σ H (Un N Hs) := by
  have hp : σ[i]? = some (some (V.ref p)) := r.rf i p (List.getElem?_set_self hi)
  have nn : ∀ a u, Hs a = some u → N a = none := fun a u e => n_of r (un_some e) (z.mu n e)
  have sN : Same N (Un N Hs) := fun a u e => by
    unfold Un
    cases q : Hs a with
    | none => exact e
    | some w => rw [nn a w q] at e; cases e
  have sH : Same Hs (Un N Hs) := fun a u e => un_some e
  have so := un_same d
  refine ⟨sN, so.trans r.old, fun a u e => ?_, ((imm_same so).trans r.imm).trans sN, fun a u e m => ?_, by rw [List.length_set]; have := r.len; rw [List.length_set] at this; exact this, fun j x e => ?_, fun j x e => ?_, fun j x e => ?_, fun j a e => ?_, fun j k x x' q ne a b c => ?_⟩
  · unfold Un at e
    cases q : Hs a with
    | none => rw [q] at e; exact r.sub a u e
    | some w => rw [q] at e; cases e; exact r.old a _ (un_some q)
  · unfold Un at e
    cases q : Hs a with
    | none => rw [q] at e; exact (un_none (r.fresh a u e m)).2
    | some w => exact d a w q
  · rcases get_set e with ⟨rfl, y⟩ | ⟨n1, e⟩
    · cases y
      exact ⟨_, hp, z.at_ n sN sH⟩
    · obtain ⟨v, a1, a2⟩ := r.im j x (by rw [List.getElem?_set_ne (Ne.symm n1)]; exact e)
      exact ⟨v, a1, a2.mono sN⟩
  · rcases get_set e with ⟨_, y⟩ | ⟨n1, e⟩
    · cases y
    · exact absurd e (hn j x)
  · rcases get_set e with ⟨_, y⟩ | ⟨n1, e⟩
    · cases y
    · obtain ⟨q, a1, a2, a3, a4⟩ := r.ow j x (by rw [List.getElem?_set_ne (Ne.symm n1)]; exact e)
      obtain ⟨z1, z2⟩ := un_none a2
      refine ⟨q, a1, z2, by unfold Un; rw [z1]; exact a3, ?_⟩
      cases x with
      | lst ds => obtain ⟨vs, b1, b2⟩ := a4; exact ⟨vs, b1, b2.mono sN⟩
      | dic ds => obtain ⟨vs, b1, b2⟩ := a4; exact ⟨vs, b1, b2.mono sN⟩
      | non => exact a4.elim
      | bl _ => exact a4.elim
      | int _ => exact a4.elim
      | str _ => exact a4.elim
      | tup _ => exact a4.elim
  · rcases get_set e with ⟨_, y⟩ | ⟨n1, e⟩
    · cases y
    · exact r.rf j a (by rw [List.getElem?_set_ne (Ne.symm n1)]; exact e)
  · rcases get_set a with ⟨_, y⟩ | ⟨n1, a⟩
    · cases y
    rcases get_set b with ⟨_, y⟩ | ⟨n2, b⟩
    · cases y
    exact r.apart j k x x' q ne (by rw [List.getElem?_set_ne (Ne.symm n1)]; exact a) (by rw [List.getElem?_set_ne (Ne.symm n2)]; exact b) c
/-- a test may read the thing -/
theorem etz_see {v : Bool} (hn : noOl ρ) (hi : i < ρ.length) (hΦ : Φ H0) (h : ∀ H0', Φ H0' → EvT X H0' (ρ.set i (.im (z.en t))) c v) : EtZ z H0 i ρ t c v := fun σ H N ⟨p, Hs, n, d, r⟩ => by
  obtain ⟨s1, r1⟩ := Rep.frz hn hi n d r
  exact (h H0 hΦ σ H _ r1).imp fun w H' ⟨e1, N', s, s2, r'⟩ => ⟨e1, s, p, Hs, n, d, r.grow s⟩
theorem xz_if {eS : S → Env'} {tS : S → τ} {g : Bool} {m1 m2 : M S} {f : S → M γ} (hc : EtZ z H0 i ρ t c g) (h1 : g = true → ExMZ z H0 i ρ t k as (fun s => .nx (eS s) (tS s)) m1) (h2 : g = false → ExMZ z H0 i ρ t k bs (fun s => .nx (eS s) (tS s)) m2) (tt : ∀ s, ExMZ z H0 i (eS s) (tS s) k rest D (f s)) :
    ExMZ z H0 i ρ t k (.If c as bs pos :: rest) D (M.bind (if g = true then m1 else m2) f) := by
  have go : ∀ {o : OcZ τ}, (g = true → ExecZ z H0 i ρ t as o) → (g = false → ExecZ z H0 i ρ t bs o) → ExSZ z H0 i ρ t (.If c as bs pos) o := fun {o} k1 k2 DD σ H N s cc => by
    refine ws_of (ps_if pt_w pb_w pb_w) ((hc σ H N s).imp fun v H' ⟨e1, _, s'⟩ => ?_)
    subst e1
    cases v with
    | true => exact iteT (k1 rfl DD σ H' N s' cc)
    | false => exact iteF (k2 rfl DD σ H' N s' cc)
  cases g with
  | true =>
    rw [if_pos rfl]
    have h1 := h1 rfl
    cases m1 with
    | ok v => exact xz_then (go (fun _ => h1) (fun z => nomatch z)) (tt v)
    | ex n => exact ez_ex (go (fun _ => h1) (fun z => nomatch z))
    | far => trivial
  | false =>
    rw [if_neg (by decide)]
    have h2 := h2 rfl
    cases m2 with
    | ok v => exact xz_then (go (fun z => nomatch z) (fun _ => h2)) (tt v)
    | ex n => exact ez_ex (go (fun z => nomatch z) (fun _ => h2))
    | far => trivial
/-! while -/
def WhZ (z : Zp X.K τ) (H0 : Hp) (i : Nat) (c : Expr) (body : List Stmt) (o : OcZ τ) : Nat → Env' → τ → Prop
  | 0, ρ, t => (EtZ z H0 i ρ t c false ∧ o = .nx ρ t) ∨ (EtZ z H0 i ρ t c true ∧ ∃ n ρ1, ExecZ z H0 i ρ t body (.ex n ρ1) ∧ o = .ex n ρ1)
  | m + 1, ρ, t => ∃ ρ1 t1, EtZ z H0 i ρ t c true ∧ ExecZ z H0 i ρ t body (.nx ρ1 t1) ∧ WhZ z H0 i c body o m ρ1 t1
theorem sz_while {m0 : Nat} (hp : PassesOwn (model X.prog X.w) X.A X.env X.xe) (h0 : WhZ z H0 i c body o m0 ρ t) : ExSZ z H0 i ρ t (.While c body [] pos) o := fun D σ H N r k => by
  refine ws_of (ps_while hp pt_w pb_w) ⟨fun m σ' H' => ∃ ρ' t' N', Same N N' ∧ StZ z H0 i ρ' t' σ' H' N' ∧ WhZ z H0 i c body o m ρ' t', ⟨m0, ρ, t, N, Same.refl _, r, h0⟩, ?_⟩
  rintro m σ' H' ⟨ρ', t', N', s, r', w⟩
  cases m with
  | zero =>
    rcases w with ⟨hc, eo⟩ | ⟨hc, n, ρ1, hb, eo⟩
    · refine (hc σ' H' N' r').imp fun b H1 ⟨eb, s1, r1⟩ => ?_
      subst eb
      subst eo
      exact iteF (k σ' H1 N' s r1)
    · refine (hc σ' H' N' r').imp fun b H1 ⟨eb, s1, r1⟩ => ?_
      subst eb
      subst eo
      exact iteT ⟨fun _ _ => False, fun _ _ y => y.elim, hb _ σ' H1 N' r1 (ContZ.mono (o := .ex n ρ1) k s)⟩
  | succ m =>
    obtain ⟨ρ1, t1, hc, hb, w⟩ := w
    refine (hc σ' H' N' r').imp fun b H1 ⟨eb, s1, r1⟩ => ?_
    subst eb
    refine iteT ⟨fun σ2 H2 => ∃ N2, Same N N2 ∧ StZ z H0 i ρ1 t1 σ2 H2 N2, fun σ2 H2 ⟨N2, s2, r2⟩ => ⟨m, Nat.lt_succ_self m, ρ1, t1, N2, s2, r2, w⟩, ?_⟩
    exact hb _ σ' H1 N' r1 fun σ2 H2 N2 s2 r2 => ⟨N2, s.trans s2, r2⟩
theorem whM_Z {eS : S → Env'} {tS : S → τ} {cm : S → M Bool} {f : S → M S} (hc : ∀ s b, cm s = .ok b → EtZ z H0 i (eS s) (tS s) c b) (hb : ∀ s, ExMZ z H0 i (eS s) (tS s) k body (fun s => .nx (eS s) (tS s)) (f s)) (hx : ∀ s n, cm s ≠ .ex n) : ∀ (n : Nat) (s : S), match whileM cm f n s with | .ok s' => ∃ m, WhZ z H0 i c body (.nx (eS s') (tS s')) m (eS s) (tS s) | .ex e => ∃ m, WhZ z H0 i c body (.ex e (List.replicate k .no)) m (eS s) (tS s) | .far => True
  | 0, s => trivial
  | n + 1, s => by
    unfold whileM
    cases e : cm s with
    | far => trivial
    | ex q => exact absurd e (hx s q)
    | ok b =>
      rw [M.bind_ok]
      cases b with
      | false => exact ⟨0, .inl ⟨hc s false e, rfl⟩⟩
      | true =>
        rw [if_pos rfl]
        have hs := hb s
        cases e2 : f s with
        | far => trivial
        | ex q =>
          rw [e2] at hs
          exact ⟨0, .inr ⟨hc s true e, q, _, hs, rfl⟩⟩
        | ok s1 =>
          rw [e2] at hs
          rw [M.bind_ok]
          have ih := whM_Z hc hb hx n s1
          cases e3 : whileM cm f n s1 with
          | ok s2 => rw [e3] at ih; obtain ⟨m, w⟩ := ih; exact ⟨m + 1, _, _, hc s true e, hs, w⟩
          | ex q => rw [e3] at ih; obtain ⟨m, w⟩ := ih; exact ⟨m + 1, _, _, hc s true e, hs, w⟩
          | far => trivial
theorem xz_while {eS : S → Env'} {tS : S → τ} {cm : S → M Bool} {f : S → M S} {fk : S → M γ} {n : Nat} {s0 : S} (hp : PassesOwn (model X.prog X.w) X.A X.env X.xe) (h0 : ρ = eS s0) (ht : t = tS s0) (hc : ∀ s b, cm s = .ok b → EtZ z H0 i (eS s) (tS s) c b) (hx : ∀ s n, cm s ≠ .ex n) (hb : ∀ s, ExMZ z H0 i (eS s) (tS s) k body (fun s => .nx (eS s) (tS s)) (f s)) (tt : ∀ s, ExMZ z H0 i (eS s) (tS s) k rest D (fk s)) :
    ExMZ z H0 i ρ t k (.While c body [] pos :: rest) D (M.bind (whileM cm f n s0) fk) := by
  have h := whM_Z hc hb hx n s0
  subst h0
  subst ht
  cases e : whileM cm f n s0 with
  | ok s => rw [e] at h; obtain ⟨m, w⟩ := h; exact xz_then (sz_while hp w) (tt s)
  | ex q => rw [e] at h; obtain ⟨m, w⟩ := h; exact ez_ex (sz_while hp w)
  | far => trivial
/-- the thing is one's own no more: it may be read, no one changes it -/
theorem xz_freeze {eR : γ → Dat} {m : M γ} (hn : noOl ρ) (hi : i < ρ.length) (h : ExM X H0 (ρ.set i (.im (z.en t))) k sts (fun r => .rt (eR r)) m) : ExMZ z H0 i ρ t k sts (fun r => .rt (eR r)) m := by
  cases m with
  | ok r => exact fun DD σ H N ⟨p, Hs, n, d, rr⟩ c => let ⟨s1, r1⟩ := Rep.frz hn hi n d rr; h DD σ H _ r1 fun v H' a b q => c v H' a (s1.trans b) q
  | ex n => exact fun DD σ H N ⟨p, Hs, nn, d, rr⟩ ⟨W, tk, c⟩ => let ⟨s1, r1⟩ := Rep.frz hn hi nn d rr; h DD σ H _ r1 ⟨W, tk, fun C σ' H' N' m s r' => c C σ' H' N' m (s1.trans s) r'⟩
  | far => trivial
/-- what is handed in, by its address -/
theorem xm_lend {Dx : γ → Outc} {d' : List Dat} {m : M γ} (j : Nat) (hj : ρ[j]? = some (.ol (.lst d'))) (h : ∀ a, At X.K H0 (.ref a) (.lst d') → ExM X H0 (ρ.set j (.rf a)) k sts Dx m) : ExM X H0 ρ k sts Dx m := by
  have go : ∀ {o : Outc}, (∀ a, At X.K H0 (.ref a) (.lst d') → Exec X H0 (ρ.set j (.rf a)) sts o) → Exec X H0 ρ sts o := fun {o} hh DD σ H N r c => by
    obtain ⟨v, h1, h2⟩ := r.ol j _ hj
    cases h2 with
    | lst q1 q2 =>
      refine hh _ (.lst q1 q2) DD σ H N ?_ c
      exact Rep.toRf h1 (r.drop j)
  cases m with
  | ok v => exact go h
  | ex n => exact go h
  | far => trivial
end
end B

namespace B
open PySem PySem.Spec PyProof.Rows L2
/-! ### a list == [], whatever it holds -/
def rEmp (K : PySem.W.Frag) (f : Bool → Bool) : R2 := fun x y H Q => ∃ a b xs, x = .ref a ∧ y = .ref b ∧ SqL K H a xs ∧ SqL K H b [] ∧ Q (.bl (f xs.isEmpty)) H
theorem op_eqE {X : Cx} (hu : X.A.units + 64 < cLine) : OpR X (compareOp .Eq) (rEmp X.K fun b => b) := by
  intro pins s σ H x y v u Q I rx ry ⟨a, b, xs, e1, e2, h1, h2, q⟩
  subst e1; subst e2
  cases rx; cases ry
  obtain ⟨its, r1, p1, _⟩ := Inv.list I h1
  obtain ⟨its2, r2, p2, _⟩ := Inv.list I h2
  have l1 := Vals.length r1
  have l2 := Vals.length r2
  have hu' : X.A.units < cLine := by omega
  cases xs with
  | nil =>
    refine (SeqAt.RcAt.lists (e := fun _ => true) (PlainL.isList p1) (PlainL.isList p2) (by simp at l1 l2; simp [← l1, ← l2]) hu' (fun j h1 h2 => ?_)) X.prog X.w X.xe _ ⟨.bl true, H, I, ?_, q⟩
    · simp at l1
      simp [← l1] at h1
    · simp [L2.RelV]
  | cons x xs =>
    refine (SeqAt.RcAt.lists_lengths (PlainL.isList p1) (PlainL.isList p2) (by simp at l1 l2; simp [← l1, ← l2]) hu') X.prog X.w X.xe _ ⟨.bl false, H, I, ?_, q⟩
    simp [L2.RelV]
theorem op_neE {X : Cx} (hu : X.A.units + 64 < cLine) : OpR X (compareOp .NotEq) (rEmp X.K fun b => !b) := by
  intro pins s σ H x y v u Q I rx ry ⟨a, b, xs, e1, e2, h1, h2, q⟩
  subst e1; subst e2
  cases rx; cases ry
  obtain ⟨its, r1, p1, _⟩ := Inv.list I h1
  obtain ⟨its2, r2, p2, _⟩ := Inv.list I h2
  have l1 := Vals.length r1
  have l2 := Vals.length r2
  have hu' : X.A.units < cLine := by omega
  cases xs with
  | nil =>
    refine (SeqAt.RcNeAt.lists (e := fun _ => true) (PlainL.isList p1) (PlainL.isList p2) (by simp at l1 l2; simp [← l1, ← l2]) hu' (fun j h1 h2 => ?_)) X.prog X.w X.xe _ ⟨.bl false, H, I, ?_, q⟩
    · simp at l1
      simp [← l1] at h1
    · simp [L2.RelV]
  | cons x xs =>
    refine (SeqAt.RcNeAt.lists_lengths (PlainL.isList p1) (PlainL.isList p2) (by simp at l1 l2; simp [← l1, ← l2]) hu') X.prog X.w X.xe _ ⟨.bl true, H, I, ?_, q⟩
    simp [L2.RelV]
section
variable {X : Cx} {H0 : Hp} {ρ ρ1 : Env'} {α β γ : Type} {a b c e : Expr} {rest : List Stmt} {d : Dat} {ds : List Dat} {p pos apos : Pos} {k : Nat} {D : γ → Outc}
theorem emp_go {f : Bool → Bool} {en : α → Dat} {l : List α} {x y : V} {σ : L2.St} {H N : Hp} {Q : VK} (p : At X.K H x (lstd en l)) (q : At X.K H y (.lst [])) (r : Rep X.K H0 ρ σ H N) (g : Goes X.K H0 ρ σ H N (.bl (f l.isEmpty)) Q) : rEmp X.K f x y H Q := by
  obtain ⟨p1, vs, e1, q1, q2⟩ := at_lst p
  obtain ⟨p2, ws, e2, q3, q4⟩ := at_lst q
  cases q4
  have hl : vs.isEmpty = l.isEmpty := by
    have := q2.length
    rw [List.length_map] at this
    cases vs <;> cases l <;> simp at this ⊢
  exact ⟨p1, p2, vs, e1, e2, q1, q3, by rw [hl]; exact goes_self (Q := Q) g r (.bl _)⟩
theorem et_eqE {en : α → Dat} {l : List α} (hu : X.A.units + 64 < cLine) (ha : EvB X H0 ρ a (lstd en l)) (hb : EvB X H0 ρ b (.lst [])) : EvT X H0 ρ (.Compare a [.Eq] [b] pos) l.isEmpty := evt_bin (fun _ _ h k => pt_cmpR (op_eqE hu) h k (nomark _)) ha hb fun x y σ H N Q r p q g => emp_go p q r g
theorem et_neE {en : α → Dat} {l : List α} (hu : X.A.units + 64 < cLine) (ha : EvB X H0 ρ a (lstd en l)) (hb : EvB X H0 ρ b (.lst [])) : EvT X H0 ρ (.Compare a [.NotEq] [b] pos) (!l.isEmpty) := evt_bin (fun _ _ h k => pt_cmpR (op_neE hu) h k (nomark _)) ha hb fun x y σ H N Q r p q g => emp_go p q r g
theorem ev_eqE {en : α → Dat} {l : List α} (hu : X.A.units + 64 < cLine) (ha : EvB X H0 ρ a (lstd en l)) (hb : EvB X H0 ρ b (.lst [])) : Ev X H0 ρ (.Compare a [.Eq] [b] pos) (.bl l.isEmpty) := ev_bin (fun _ _ h k => pe_cmpR (op_eqE hu) h k (nomark _)) ha hb fun x y σ H N Q r p q g => emp_go p q r g
theorem ev_neE {en : α → Dat} {l : List α} (hu : X.A.units + 64 < cLine) (ha : EvB X H0 ρ a (lstd en l)) (hb : EvB X H0 ρ b (.lst [])) : Ev X H0 ρ (.Compare a [.NotEq] [b] pos) (.bl (!l.isEmpty)) := ev_bin (fun _ _ h k => pe_cmpR (op_neE hu) h k (nomark _)) ha hb fun x y σ H N Q r p q g => emp_go p q r g
end
end B

namespace B
open PySem PySem.Spec PyProof.Rows L2
/-! ### a pile: a list of one's own of lists of one's own -/
inductive RwP (K : PySem.W.Frag) (N Hs : Hp) : List (List Dat) → List Addr → Prop where
  | nil : RwP K N Hs [] []
  | cons {row : List Dat} {T : List (List Dat)} {q : Addr} {qs : List Addr} {ws : List V} : Hs q = some (.lst ws) → Ats K N ws row → RwP K N Hs T qs → RwP K N Hs (row :: T) (q :: qs)
section
variable {K : PySem.W.Frag} {N N' Hs : Hp} {T : List (List Dat)} {qs : List Addr}
theorem RwP.mono (s : Same N N') (h : RwP K N Hs T qs) : RwP K N' Hs T qs := by
  induction h with
  | nil => exact .nil
  | cons a b _ ih => exact .cons a (b.mono s) ih
theorem RwP.updH {a : Addr} {o : HO} (h : RwP K N Hs T qs) (ha : a ∉ qs) : RwP K N (upd Hs a o) T qs := by
  induction h with
  | nil => exact .nil
  | cons e b _ ih =>
    rw [List.mem_cons, not_or] at ha
    exact .cons (by rw [upd_ne (Ne.symm ha.1)]; exact e) b (ih ha.2)
theorem RwP.snoc {row : List Dat} {q : Addr} {ws : List V} (e : Hs q = some (.lst ws)) (b : Ats K N ws row) (h : RwP K N Hs T qs) : RwP K N Hs (T ++ [row]) (qs ++ [q]) := by
  induction h with
  | nil => exact .cons e b .nil
  | cons e' b' _ ih => exact .cons e' b' ih
theorem RwP.len (h : RwP K N Hs T qs) : qs.length = T.length := by
  induction h with
  | nil => rfl
  | cons _ _ _ ih => rw [List.length_cons, List.length_cons, ih]
theorem RwP.mem (h : RwP K N Hs T qs) : ∀ q ∈ qs, ∃ ws, Hs q = some (.lst ws) := by
  induction h with
  | nil => intro q hq; cases hq
  | cons e b _ ih =>
    intro q hq
    rcases List.mem_cons.mp hq with rfl | hq
    · exact ⟨_, e⟩
    · exact ih q hq
theorem RwP.last {row : List Dat} : ∀ {T0 : List (List Dat)} {qs : List Addr}, RwP K N Hs (T0 ++ [row]) qs → ∃ qs0 q ws, qs = qs0 ++ [q] ∧ RwP K N Hs T0 qs0 ∧ Hs q = some (.lst ws) ∧ Ats K N ws row
  | [], _, h => by
    cases h with
    | cons e b t => cases t; exact ⟨[], _, _, rfl, .nil, e, b⟩
  | _ :: T0, _, h => by
    cases h with
    | cons e b t =>
      obtain ⟨qs0, q, ws, rfl, h1, h2, h3⟩ := RwP.last t
      exact ⟨_ :: qs0, q, ws, rfl, .cons e b h1, h2, h3⟩
theorem RwP.ats {G : Hp} (s : Same N G) (g : Same Hs G) (h : RwP K N Hs T qs) : Ats K G (qs.map V.ref) (T.map Dat.lst) := by
  induction h with
  | nil => exact .nil
  | cons e b _ ih => exact .cons (.lst (.inl (.inl (g _ _ e))) (b.mono s)) ih
structure PlZ (K : PySem.W.Frag) (T : List (List Dat)) (N Hs : Hp) (p : Addr) : Prop where
  r : ∃ qs, RwP K N Hs T qs ∧ Hs p = some (.lst (qs.map V.ref)) ∧ (p :: qs).Nodup
  mu : ∀ a u, Hs a = some u → Mut (some u)
end
def plZ (K : PySem.W.Frag) : Zp K (List (List Dat)) where
  Z := PlZ K
  en := fun T => .lst (T.map Dat.lst)
  mono := fun s h => ⟨let ⟨qs, a, b, c⟩ := h.r; ⟨qs, a.mono s, b, c⟩, h.mu⟩
  mu := fun h e => h.mu _ _ e
  at_ := fun h s g => let ⟨_, a, b, _⟩ := h.r; .lst (.inl (.inl (g _ _ b))) (a.ats s g)
section
variable {γ : Type} {X : Cx} {H0 : Hp} {i k : Nat} {Φ : Hp → Prop} {ρ ρ1 : Env'} {T T0 : List (List Dat)} {row : List Dat} {st : Stmt} {sts rest : List Stmt} {a b c e ix ix2 : Expr} {p1 p2 p3 p4 pos : Pos} {D : γ → OcZ (List (List Dat))}
/-- a cell of the thing is written, or comes to it -/
theorem Rep.updS {K : PySem.W.Frag} {Hs H N : Hp} {σ : L2.St} {q : Addr} {o : HO} (hn : noOl ρ) (m : Mut (some o)) (r : Rep K (Un H0 Hs) ρ σ H N) (hq : (∃ u, Hs q = some u ∧ Mut (some u)) ∨ (N q = none ∧ ∀ (j : Nat) (d' : Dat), ρ[j]? = some (Ent.ow d') → σ[j]? ≠ some (some (V.ref q)))) : Rep K (Un H0 (upd Hs q o)) ρ σ (upd H q o) N := by
  rw [un_upd]
  rcases hq with ⟨u, h, mu⟩ | ⟨h1, h2⟩
  · exact r.upd0 hn m (n_of r (un_some h) mu) (own_ne r (un_some h))
  · exact r.upd0 hn m h1 h2
theorem mu_upd {Hs : Hp} {q : Addr} {o : HO} (m : Mut (some o)) (h : ∀ a u, Hs a = some u → Mut (some u)) : ∀ a u, upd Hs q o a = some u → Mut (some u) := fun a u e => by
  by_cases c : a = q
  · subst c; rw [upd_same] at e; cases e; exact m
  · rw [upd_ne c] at e; exact h a u e
theorem mu_l {Hs : Hp} {q : Addr} {l : List V} (h : ∀ a u, Hs a = some u → Mut (some u)) : ∀ a u, upd Hs q (.lst l) a = some u → Mut (some u) := mu_upd (o := .lst l) True.intro h
theorem none_all {P : Addr → HO → Prop} : ∀ (a : Addr) (u : HO), (fun _ => none : Hp) a = some u → P a u := fun a u e => by cases e
theorem dj_upd {Hs : Hp} {q : Addr} {o : HO} (m : H0 q = none) (h : ∀ a u, Hs a = some u → H0 a = none) : ∀ a u, upd Hs q o a = some u → H0 a = none := fun a u e => by
  by_cases c : a = q
  · rw [c]; exact m
  · rw [upd_ne c] at e; exact h a u e
/-- pile = [[]] -/
theorem xz_start {y : Str} {eR : γ → Dat} {m : M γ} (hn : noOl ρ) (h0 : ρ[i]? = some .no) (h : ExMZ (plZ X.K) H0 i ρ [[]] k rest (fun r => .rt (eR r)) m) (nd : X.N.Nodup) (hi : X.N[i]? = some y := by rfl) (hx : Loc X.env.scope y := by first | exact Or.inl rfl | exact Or.inr rfl)
    (hs : swapsWith (.List [.List [] p1] p2) (some (.Name y p3)) pos.line X.env = pure false := by rfl) (hf : X.fn y = true ∨ X.env.scope.names.lookup y = some .local := by first | exact .inl rfl | exact .inr rfl | assumption)
    (he : starEach [Expr.List [] p1] X.env = (false, eval (.List [] p1) X.env) :: starEach [] X.env := by rfl) :
    ExM X H0 ρ k (.Assign [.Name y p3] (.List [.List [] p1] p2) pos :: rest) (fun r => .rt (eR r)) m := by
  have go : ∀ {o : OcZ (List (List Dat))} {o' : Outc}, ExecZ (plZ X.K) H0 i ρ [[]] rest o → (∀ N DD, Cont X H0 N DD o' → ContZ (plZ X.K) H0 i N DD o) → Exec X H0 ρ (.Assign [.Name y p3] (.List [.List [] p1] p2) pos :: rest) o' := fun {o o'} hh hc DD σ H N r cc => by
    refine wb_of (pss_cons (ps_set nd hi hx (pe_lst (pa_cons (pe_lst pa_nil) pa_nil he)) hs hf) pb_w) ⟨Nat.zero_le _, fun q hq => ⟨by show 1 ≤ sizeLine; decide, fun p hp => ?_⟩⟩
    have hpq : p ≠ q := fun z => by rw [z, upd_same] at hp; cases hp
    have hp0 : H p = none := by rw [upd_ne hpq] at hp; exact hp
    have r0 : Rep X.K (Un H0 (fun _ => none)) ρ σ H N := r
    have r1 := r0.updS hn (q := q) (o := .lst []) True.intro (.inr ⟨r.sub.free hq, fun j d' e => no_own r hq j d' e⟩)
    have r2 := r1.updS hn (q := p) (o := .lst [V.ref q]) True.intro (.inr ⟨r1.sub.free hp, fun j d' e => no_own r1 hp j d' e⟩)
    have r3 := r2.setE (i := i) (v := .ref p) (e := .rf p) rfl
    have hb := hh DD _ _ N ⟨p, _, ⟨⟨[q], .cons (ws := []) (by rw [upd_ne (Ne.symm hpq)]; exact upd_same) .nil .nil, upd_same, by simp [hpq]⟩, mu_l (mu_l none_all)⟩, dj_upd (r.old.free hp0) (dj_upd (r.old.free hq) none_all), r3⟩ (hc N DD cc)
    exact hb
  cases m with
  | ok r => exact go h fun N DD c => c
  | ex n => exact go h fun N DD c => c
  | far => trivial
/-- pile.append([]) -/
theorem xz_push {y : Str} {f : List (List Dat) → M γ} (hn : noOl ρ) (hi : i < ρ.length) (hΦ : Φ H0) (mΦ : ∀ {A B : Hp}, Same A B → Φ A → Φ B) (he : ∀ H0' p, Φ H0' → EvO X H0' (ρ.set i (.rf p)) e (.lst [])) (hz : lenLt T = true) (tt : ∀ T, ExMZ (plZ X.K) H0 i ρ T k rest D (f T)) (hN : X.N[i]? = some y := by rfl) (hv : Vis X.env.scope y := by first | exact Or.inl rfl | exact Or.inr (Or.inl rfl) | exact Or.inr (Or.inr rfl))
    (hd : (y == ("__debug__" : Str)) = false := by decide) (hcd : (y == ("__classdict__" : Str)) = false := by decide)
    (hpe : ∀ to t, PE X (.Name y p1) to → PA X [e] t → PE X (.Call (.Attribute (.Name y p1) "append" p2) [e] [] p3) (tBM X.K "list" rAppend to t) := by exact fun _ _ h g => pe_bm PySem.F.plainAttrs_list PySem.F.slot_list_append PySem.F.type_list_append mt_append h g)
    (hs1 : starEach [e] X.env = (false, eval e X.env) :: starEach [] X.env := by rfl) (hs : swapsWith (.Call (.Attribute (.Name y p1) "append" p2) [e] [] p3) none pos.line X.env = pure false := by rfl) :
    ExMZ (plZ X.K) H0 i ρ T k (.Expr (.Call (.Attribute (.Name y p1) "append" p2) [e] [] p3) pos :: rest) D (M.lt (T ++ [[]]) f) := by
  refine xz_then (ρ1 := ρ) (t1 := T ++ [[]]) (fun DD σ H N ⟨p, Hs, n, d, r⟩ kk => ?_) (tt _)
  obtain ⟨qs, n1, n2, n3⟩ := n.r
  have hp : σ[i]? = some (some (V.ref p)) := r.rf i p (List.getElem?_set_self hi)
  have hn' : noOl (ρ.set i (.rf p)) := noOl_set hn
  refine ws_of (ps_expr (hpe _ _ (pv i hN hv hd hcd) (pa_cons pe_w pa_nil hs1)) hs) ⟨_, hp, .inl ⟨rfl, _, .inl (.inl (r.old p _ (un_some n2)))⟩, (he _ p (mΦ (un_same d) hΦ) σ H N r).imp fun v H1 ⟨N1, q, e1, hq, s1, m1, r1, nq, ws, w1, w2⟩ => ?_⟩
  subst e1
  have uq : Un H0 Hs q = none := by
    cases z : Un H0 Hs q with
    | none => rfl
    | some u => rw [r.old q u z] at hq; cases hq
  obtain ⟨hsq, h0q⟩ := un_none uq
  have pq : p ≠ q := fun z => by rw [← z, n2] at hsq; cases hsq
  have qqs : q ∉ qs := fun m => by obtain ⟨w, z⟩ := n1.mem q m; rw [z] at hsq; cases hsq
  have pqs := (List.nodup_cons.mp n3).1
  refine ⟨p, _, _, rfl, rfl, s1 _ _ (r.old p _ (un_some n2)), by rw [List.length_map, n1.len]; exact lenLt_ok hz, kk σ _ N1 m1 ?_⟩
  have r2 := r1.updS hn' (q := q) (o := .lst ws) True.intro (.inr ⟨nq, fun j d' e => no_own r hq j d' e⟩)
  rw [upd_id w1] at r2
  have r3 := r2.updS hn' (q := p) (o := .lst (qs.map V.ref ++ [V.ref q])) True.intro (.inl ⟨.lst (qs.map V.ref), by rw [upd_ne pq]; exact n2, True.intro⟩)
  refine ⟨p, _, ⟨⟨qs ++ [q], ?_, by rw [upd_same, List.map_append]; rfl, ?_⟩, mu_l (mu_l n.mu)⟩, dj_upd (d p _ n2) (dj_upd h0q d), r3⟩
  · refine RwP.updH (RwP.snoc (ws := ws) upd_same w2 ((n1.mono m1).updH qqs)) ?_
    rw [List.mem_append, not_or]
    exact ⟨pqs, fun m => pq (List.mem_singleton.mp m)⟩
  · rw [show p :: (qs ++ [q]) = (p :: qs) ++ [q] from rfl, List.nodup_append]
    refine ⟨n3, by simp, fun a ha b hb z => ?_⟩
    rw [List.mem_singleton.mp hb] at z
    subst z
    rcases List.mem_cons.mp ha with m | m
    · exact pq m.symm
    · exact qqs m
theorem last_at {qs : List Addr} {q : Addr} : atI ((qs ++ [q]).map V.ref) (-1) = some (V.ref q) := by
  unfold atI
  have : ixN ((qs ++ [q]).map V.ref).length (-1) = some qs.length := by
    unfold ixN
    rw [if_neg (by omega)]
    simp
    omega
  rw [this]
  simp
theorem nd_ne {p q : Addr} {qs : List Addr} (h : (p :: (qs ++ [q])).Nodup) : p ≠ q ∧ q ∉ qs ∧ (p :: qs).Nodup ∧ p ∉ qs := by
  rw [show p :: (qs ++ [q]) = (p :: qs) ++ [q] from rfl, List.nodup_append] at h
  obtain ⟨h1, _, h2⟩ := h
  exact ⟨fun z => h2 p List.mem_cons_self q (by simp) z, fun m => h2 q (List.mem_cons_of_mem _ m) q (by simp) rfl, h1, (List.nodup_cons.mp h1).1⟩
/-- the last row is another one -/
theorem plz_last {Hs N N' : Hp} {p q : Addr} {qs0 : List Addr} {us : List V} {row' : List Dat} (h1 : RwP X.K N Hs T0 qs0) (n2 : Hs p = some (.lst ((qs0 ++ [q]).map V.ref))) (n3 : (p :: (qs0 ++ [q])).Nodup) (mu : ∀ a u, Hs a = some u → Mut (some u)) (s : Same N N') (u : Ats X.K N' us row') : PlZ X.K (T0 ++ [row']) N' (upd Hs q (.lst us)) p := by
  obtain ⟨a1, a2, a3, a4⟩ := nd_ne n3
  exact ⟨⟨qs0 ++ [q], RwP.snoc upd_same u ((h1.mono s).updH a2), by rw [upd_ne a1]; exact n2, n3⟩, mu_l mu⟩
/-- pile[-1].append(e) -/
theorem xz_add {dd : Dat} {y : Str} {f : List (List Dat) → M γ} (hn : noOl ρ) (hi : i < ρ.length) (hΦ : Φ H0) (mΦ : ∀ {A B : Hp}, Same A B → Φ A → Φ B) (hT : T = T0 ++ [row]) (hix : ∀ H0' p, Φ H0' → Ev X H0' (ρ.set i (.rf p)) ix (.int (-1))) (he : ∀ H0' p, Φ H0' → Ev X H0' (ρ.set i (.rf p)) e dd) (hz : lenLt row = true) (tt : ∀ T, ExMZ (plZ X.K) H0 i ρ T k rest D (f T)) (hN : X.N[i]? = some y := by rfl) (hv : Vis X.env.scope y := by first | exact Or.inl rfl | exact Or.inr (Or.inl rfl) | exact Or.inr (Or.inr rfl))
    (hd : (y == ("__debug__" : Str)) = false := by decide) (hcd : (y == ("__classdict__" : Str)) = false := by decide) (hsx : PlainIx ix := by exact fun _ _ => rfl)
    (hpe : ∀ to t, PE X (.Subscript (.Name y p1) ix p4) to → PA X [e] t → PE X (.Call (.Attribute (.Subscript (.Name y p1) ix p4) "append" p2) [e] [] p3) (tBM X.K "list" rAppend to t) := by exact fun _ _ h g => pe_bm PySem.F.plainAttrs_list PySem.F.slot_list_append PySem.F.type_list_append mt_append h g)
    (hs1 : starEach [e] X.env = (false, eval e X.env) :: starEach [] X.env := by rfl) (hs : swapsWith (.Call (.Attribute (.Subscript (.Name y p1) ix p4) "append" p2) [e] [] p3) none pos.line X.env = pure false := by rfl) :
    ExMZ (plZ X.K) H0 i ρ T k (.Expr (.Call (.Attribute (.Subscript (.Name y p1) ix p4) "append" p2) [e] [] p3) pos :: rest) D (M.lt (T0 ++ [row ++ [dd]]) f) := by
  subst hT
  refine xz_then (ρ1 := ρ) (t1 := T0 ++ [row ++ [dd]]) (fun DD σ H N ⟨p, Hs, n, d, r⟩ kk => ?_) (tt _)
  obtain ⟨qs, n1, n2, n3⟩ := n.r
  obtain ⟨qs0, q, ws, rfl, h1, h2, h3⟩ := RwP.last n1
  have hp : σ[i]? = some (some (V.ref p)) := r.rf i p (List.getElem?_set_self hi)
  have hn' : noOl (ρ.set i (.rf p)) := noOl_set hn
  have hΦ' := mΦ (un_same d) hΦ
  refine ws_of (ps_expr (hpe _ _ (pe_ix ix_list (pv i hN hv hd hcd) pe_w hsx) (pa_cons pe_w pa_nil hs1)) hs) ⟨_, hp, (hix _ p hΦ' σ H N r).imp fun v H1 ⟨N1, s1, m1, r1, a1⟩ => ?_⟩
  have h5 := at_int a1
  subst h5
  refine ⟨p, _, _, V.ref q, rfl, rfl, .inl (.inl (r1.old p _ (un_some n2))), last_at, .inl ⟨rfl, _, .inl (.inl (r1.old q _ (un_some h2)))⟩, (he _ p hΦ' σ H1 N1 r1).imp fun w H2 ⟨N2, s2, m2, r2, a2⟩ => ?_⟩
  refine ⟨q, ws, w, rfl, rfl, r2.old q _ (un_some h2), by rw [h3.length]; exact lenLt_ok hz, kk σ _ N2 (m1.trans m2) ?_⟩
  have r3 := r2.updS hn' (q := q) (o := .lst (ws ++ [w])) True.intro (.inl ⟨_, h2, True.intro⟩)
  exact ⟨p, _, plz_last h1 n2 n3 n.mu (m1.trans m2) ((h3.mono (m1.trans m2)).append (.cons a2 .nil)), dj_upd (d q _ h2) d, r3⟩
/-- pile[-1][-1] = e -/
theorem xz_put {dd : Dat} {row2 : List Dat} {y : Str} {f : List (List Dat) → M γ} (hn : noOl ρ) (hi : i < ρ.length) (hΦ : Φ H0) (mΦ : ∀ {A B : Hp}, Same A B → Φ A → Φ B) (hT : T = T0 ++ [row]) (hix : ∀ H0' p, Φ H0' → Ev X H0' (ρ.set i (.rf p)) ix (.int (-1))) (hix2 : ∀ H0' p, Φ H0' → Ev X H0' (ρ.set i (.rf p)) ix2 (.int (-1))) (he : ∀ H0' p, Φ H0' → Ev X H0' (ρ.set i (.rf p)) e dd) (hj : setI row (-1) dd = some row2) (tt : ∀ T, ExMZ (plZ X.K) H0 i ρ T k rest D (f T)) (hN : X.N[i]? = some y := by rfl) (hv : Vis X.env.scope y := by first | exact Or.inl rfl | exact Or.inr (Or.inl rfl) | exact Or.inr (Or.inr rfl))
    (hd : (y == ("__debug__" : Str)) = false := by decide) (hcd : (y == ("__classdict__" : Str)) = false := by decide) (hsx : PlainIx ix := by exact fun _ _ => rfl)
    (hp : ∀ te to ti, PE X e te → PE X (.Subscript (.Name y p1) ix p4) to → PE X ix2 ti → PS X (.Assign [.Subscript (.Subscript (.Name y p1) ix p4) ix2 p2] e pos) (tAsg te (gSub to ti rSetL)) := by exact fun te to ti h g f => ps_asg h (pg_sub g f set_list)) :
    ExMZ (plZ X.K) H0 i ρ T k (.Assign [.Subscript (.Subscript (.Name y p1) ix p4) ix2 p2] e pos :: rest) D (M.lt (T0 ++ [row2]) f) := by
  subst hT
  unfold setI at hj
  obtain ⟨j, hj1, hj2⟩ := Option.map_eq_some_iff.mp hj
  refine xz_then (ρ1 := ρ) (t1 := T0 ++ [row2]) (fun DD σ H N ⟨p, Hs, n, d, r⟩ kk => ?_) (tt _)
  obtain ⟨qs, n1, n2, n3⟩ := n.r
  obtain ⟨qs0, q, ws, rfl, h1, h2, h3⟩ := RwP.last n1
  have hpp : σ[i]? = some (some (V.ref p)) := r.rf i p (List.getElem?_set_self hi)
  have hn' : noOl (ρ.set i (.rf p)) := noOl_set hn
  have hΦ' := mΦ (un_same d) hΦ
  refine ws_of (hp _ _ _ pe_w (pe_ix ix_list (pv i hN hv hd hcd) pe_w hsx) pe_w) ((he _ p hΦ' σ H N r).imp fun v H1 ⟨N1, s1, m1, r1, a1⟩ => ⟨_, hpp, (hix _ p hΦ' σ H1 N1 r1).imp fun u H2 ⟨N2, s2, m2, r2, a2⟩ => ?_⟩)
  have h5 := at_int a2
  subst h5
  refine ⟨p, _, _, V.ref q, rfl, rfl, .inl (.inl (r2.old p _ (un_some n2))), last_at, (hix2 _ p hΦ' σ H2 N2 r2).imp fun w H3 ⟨N3, s3, m3, r3, a3⟩ => ?_⟩
  refine ⟨q, ws, -1, j, rfl, at_int a3, r3.old q _ (un_some h2), by rw [h3.length]; exact hj1, kk σ _ N3 ((m1.trans m2).trans m3) ?_⟩
  have r4 := r3.updS hn' (q := q) (o := .lst (ws.set j v)) True.intro (.inl ⟨_, h2, True.intro⟩)
  have a5 := (h3.mono ((m1.trans m2).trans m3)).set (a1.mono (m2.trans m3)) j
  rw [hj2] at a5
  exact ⟨p, _, plz_last h1 n2 n3 n.mu ((m1.trans m2).trans m3) a5, dj_upd (d q _ h2) d, r4⟩
/-- x = tuple(pile.pop()) -/
theorem xz_pop {y z : Str} {p5 p6 : Pos} {f : List Dat × List (List Dat) → M γ} (j : Nat) (hn : noOl ρ) (hi : i < ρ.length) (hij : j ≠ i) (hT : T = T0 ++ [row]) (nd : X.N.Nodup) (hm : X.mg "tuple" = none) (tt : ∀ q : List Dat × List (List Dat), ExMZ (plZ X.K) H0 i (ρ.set j (.im (.tup q.1))) q.2 k rest D (f q)) (hg : Gl X "tuple" := by rfl) (hN : X.N[i]? = some y := by rfl) (hv : Vis X.env.scope y := by first | exact Or.inl rfl | exact Or.inr (Or.inl rfl) | exact Or.inr (Or.inr rfl))
    (hd : (y == ("__debug__" : Str)) = false := by decide) (hcd : (y == ("__classdict__" : Str)) = false := by decide)
    (hpe : ∀ to, PE X (.Name y p1) to → PE X (.Call (.Attribute (.Name y p1) "pop" p2) [] [] p4) (tBM0 X.K "list" rPop to) := by exact fun _ h => pe_bm0 PySem.F.plainAttrs_list PySem.F.slot_list_pop PySem.F.type_list_pop mt_pop h)
    (na : starEach [Expr.Call (.Attribute (.Name y p1) "pop" p2) [] [] p4] X.env = (false, eval (.Call (.Attribute (.Name y p1) "pop" p2) [] [] p4) X.env) :: starEach [] X.env := by rfl)
    (hj : X.N[j]? = some z := by rfl) (hx : Loc X.env.scope z := by first | exact Or.inl rfl | exact Or.inr rfl)
    (hs : swapsWith (.Call (.Name "tuple" p5) [.Call (.Attribute (.Name y p1) "pop" p2) [] [] p4] [] p6) (some (.Name z p3)) pos.line X.env = pure false := by rfl) (hf : X.fn z = true ∨ X.env.scope.names.lookup z = some .local := by first | exact .inl rfl | exact .inr rfl | assumption) :
    ExMZ (plZ X.K) H0 i ρ T k (.Assign [.Name z p3] (.Call (.Name "tuple" p5) [.Call (.Attribute (.Name y p1) "pop" p2) [] [] p4] [] p6) pos :: rest) D (M.lt (row, T0) f) := by
  subst hT
  refine xz_then (ρ1 := ρ.set j (.im (.tup row))) (t1 := T0) (fun DD σ H N ⟨p, Hs, n, d, r⟩ kk => ?_) (tt (row, T0))
  obtain ⟨qs, n1, n2, n3⟩ := n.r
  obtain ⟨qs0, q, ws, rfl, h1, h2, h3⟩ := RwP.last n1
  obtain ⟨b1, b2, b3, b4⟩ := nd_ne n3
  have hpp : σ[i]? = some (some (V.ref p)) := r.rf i p (List.getElem?_set_self hi)
  have hn' : noOl (ρ.set i (.rf p)) := noOl_set hn
  have oP := r.old p _ (un_some n2)
  refine ws_of (ps_set nd hj hx (pe_tupleOf hg hm (hpe _ (pv i hN hv hd hcd)) na) hs hf) ⟨_, hpp, .inl ⟨rfl, _, .inl (.inl oP)⟩, p, _, V.ref q, rfl, rfl, oP, by simp, .inl ⟨q, ws, rfl, .inl (.inl (by rw [upd_ne (Ne.symm b1)]; exact r.old q _ (un_some h2))), fun t ht => ?_⟩⟩
  have r2 := r.updS hn' (q := p) (o := .lst ((qs0 ++ [q]).map V.ref).dropLast) True.intro (.inl ⟨_, n2, True.intro⟩)
  obtain ⟨r3, m3⟩ := r2.new (o := .tup ws) ht
  have r4 := r3.setE (i := j) (v := .ref t) (e := .im (.tup row)) (.tup (.inl (.inl upd_same)) (h3.mono m3))
  rw [List.set_comm _ _ (Ne.symm hij)] at r4
  refine kk _ _ _ m3 ⟨p, _, ⟨⟨qs0, (h1.mono m3).updH b4, ?_, b3⟩, mu_l n.mu⟩, dj_upd (d p _ n2) d, r4⟩
  rw [upd_same, List.map_append, List.map_singleton, List.dropLast_concat]
end
/-! ### what the generator asks -/
section
variable {τ γ S : Type} {X : Cx} {z : Zp X.K τ} {H0 : Hp} {i k : Nat} {Φ : Hp → Prop} {ρ : Env'} {t : τ} {T : List (List Dat)} {sts rest body : List Stmt} {c : Expr} {pos p1 : Pos} {D : γ → OcZ τ} {m : M Bool} {α β : Type}
theorem gl_ok {l : List α} {r : α} (h : l.getLast? = some r) : l = l.dropLast ++ [r] := by
  rcases List.eq_nil_or_concat l with rfl | ⟨us, x, rfl⟩
  · cases h
  · rw [List.concat_eq_append] at *
    simp at h
    rw [h]
    simp
theorem en_pl {K : PySem.W.Frag} (T : List (List Dat)) : (plZ K).en T = lstd (lstd idd) T := by
  show Dat.lst (T.map Dat.lst) = Dat.lst (T.map fun l => Dat.lst (l.map fun d => d))
  congr 1
  exact List.map_congr_left fun l _ => by rw [List.map_id']
theorem etp_see {v : Bool} (hn : noOl ρ) (hi : i < ρ.length) (hΦ : Φ H0) (h : ∀ H0', Φ H0' → EvT X H0' (ρ.set i (.im (lstd (lstd idd) T))) c v) : EtZ (plZ X.K) H0 i ρ T c v := etz_see (Φ := Φ) hn hi hΦ fun H0' f => by rw [en_pl]; exact h H0' f
theorem xp_freeze {eR : γ → Dat} {m : M γ} (hn : noOl ρ) (hi : i < ρ.length) (h : ExM X H0 (ρ.set i (.im (lstd (lstd idd) T))) k sts (fun r => .rt (eR r)) m) : ExMZ (plZ X.K) H0 i ρ T k sts (fun r => .rt (eR r)) m := xz_freeze hn hi (by rw [en_pl]; exact h)
def EtMZ (z : Zp X.K τ) (H0 : Hp) (i : Nat) (ρ : Env') (t : τ) (c : Expr) (m : M Bool) : Prop := match m with
  | .ok b => EtZ z H0 i ρ t c b
  | .ex _ => False
  | .far => True
theorem etzm_gd {g : Bool} (h : g = true → EtMZ z H0 i ρ t c m) : EtMZ z H0 i ρ t c (M.gd g m) := by
  cases g with
  | true => exact h rfl
  | false => trivial
theorem etzm_ofO {ob : Option β} {f : β → M Bool} (h : ∀ r, ob = some r → EtMZ z H0 i ρ t c (f r)) : EtMZ z H0 i ρ t c (M.bind (M.ofO ob) f) := by
  cases ob with
  | some r => exact h r rfl
  | none => trivial
theorem etzm_bind {mb : M β} {f : β → M Bool} (h : ∀ r, mb = .ok r → EtMZ z H0 i ρ t c (f r)) : EtMZ z H0 i ρ t c (M.bind (M.nox mb) f) := by
  cases mb with
  | ok r => exact h r rfl
  | ex _ => trivial
  | far => trivial
theorem etzm_ok {v : Bool} (h : EtZ z H0 i ρ t c v) : EtMZ z H0 i ρ t c (.ok v) := h
theorem xz_whileM {eS : S → Env'} {tS : S → τ} {cm : S → M Bool} {f : S → M S} {fk : S → M γ} {n : Nat} {s0 : S} (hp : PassesOwn (model X.prog X.w) X.A X.env X.xe) (h0 : ρ = eS s0) (ht : t = tS s0) (hc : ∀ s, EtMZ z H0 i (eS s) (tS s) c (cm s)) (hb : ∀ s, ExMZ z H0 i (eS s) (tS s) k body (fun s => .nx (eS s) (tS s)) (f s)) (tt : ∀ s, ExMZ z H0 i (eS s) (tS s) k rest D (fk s)) :
    ExMZ z H0 i ρ t k (.While c body [] pos :: rest) D (M.bind (whileM cm f n s0) fk) :=
  xz_while hp h0 ht (fun s b e => by have := hc s; rw [e] at this; exact this) (fun s n e => by have := hc s; rw [e] at this; exact this) hb tt
theorem eb_name_rf {a : Addr} {d : Dat} (j : Nat) {x : Str} (h : ρ[j]? = some (.rf a)) (f : At X.K H0 (.ref a) d) (hN : X.N[j]? = some x := by rfl) (hv : Vis X.env.scope x := by first | exact Or.inl rfl | exact Or.inr (Or.inl rfl) | exact Or.inr (Or.inr rfl)) (hd : (x == ("__debug__" : Str)) = false := by decide)
    (hcd : (x == ("__classdict__" : Str)) = false := by decide) : EvB X H0 ρ (.Name x pos) d := fun σ H N r => we_of (pv j hN hv hd hcd) ⟨.ref a, r.rf j a h, N, Same.refl _, Same.refl _, r, f.mono r.old⟩
end
mutual
def trOf : Dat → Option Tr
  | .non => some .leaf
  | .tup ds => (trsOf ds).map Tr.node
  | _ => none
def trsOf : List Dat → Option (List Tr)
  | [] => some []
  | d :: r => match trOf d, trsOf r with
    | some t, some l => some (t :: l)
    | _, _ => none
end
mutual
theorem trOf_ok : ∀ {d : Dat} {t : Tr}, trOf d = some t → d = trd t
  | .non, t, h => by rw [trOf] at h; cases h; rfl
  | .tup ds, t, h => by
    rw [trOf] at h
    obtain ⟨l, h1, rfl⟩ := Option.map_eq_some_iff.mp h
    rw [trd, trsOf_ok h1]
  | .bl _, _, h => by simp [trOf] at h
  | .int _, _, h => by simp [trOf] at h
  | .str _, _, h => by simp [trOf] at h
  | .lst _, _, h => by simp [trOf] at h
  | .dic _, _, h => by simp [trOf] at h
theorem trsOf_ok : ∀ {ds : List Dat} {l : List Tr}, trsOf ds = some l → ds = trds l
  | [], l, h => by rw [trsOf] at h; cases h; rfl
  | d :: r, l, h => by
    rw [trsOf] at h
    cases h1 : trOf d with
    | none => rw [h1] at h; cases h
    | some t =>
      cases h2 : trsOf r with
      | none => rw [h1, h2] at h; cases h
      | some m =>
        rw [h1, h2] at h
        cases h
        rw [trds, trOf_ok h1, trsOf_ok h2]
end
mutual
theorem trOf_trd : ∀ t : Tr, trOf (trd t) = some t
  | .leaf => rfl
  | .node l => by rw [trd, trOf, trsOf_trds l]; rfl
theorem trsOf_trds : ∀ l : List Tr, trsOf (trds l) = some l
  | [] => rfl
  | t :: r => by rw [trds, trsOf, trOf_trd t, trsOf_trds r]
end
theorem ev_trOf {X : Cx} {H0 : Hp} {ρ : Env'} {e : Expr} {d : Dat} {t : Tr} (h : Ev X H0 ρ e d) (q : trOf d = some t) : Ev X H0 ρ e (trd t) := by rw [← trOf_ok q]; exact h
theorem eo_lstD {X : Cx} {H0 : Hp} {ρ : Env'} {es : List Expr} {ds : List Dat} {pos : Pos} (h : EvA X H0 ρ es ds) (hz : ds.length ≤ sizeLine) : EvO X H0 ρ (.List es pos) (lstd idd ds) := by
  have e : lstd idd ds = .lst ds := by show Dat.lst (ds.map fun d => d) = _; rw [List.map_id']
  rw [e]
  exact eo_lst h hz
end B

namespace B
open PySem PySem.Spec PyProof.Rows L2
/-! ### more plain tools on mirrors -/
section
variable {α β S S' L L' R : Type}
theorem whileF_done {c : S → M Bool} {f : S → M (Fl S S R)} {n : Nat} {s : S} (h : c s = .ok false) : (whileF c f (n + 1) s : M (Fl S L R)) = .ok (.nx s) := by unfold whileF; rw [h]; rfl
theorem whileF_nx {c : S → M Bool} {f : S → M (Fl S S R)} {n : Nat} {s s' : S} (h : c s = .ok true) (h2 : f s = .ok (.nx s') ∨ f s = .ok (.ct s')) : (whileF c f (n + 1) s : M (Fl S L R)) = whileF c f n s' := by
  conv => lhs; unfold whileF
  rw [h, M.bind_ok, if_pos rfl]
  rcases h2 with h2 | h2 <;> rw [h2]
theorem whileF_rt {c : S → M Bool} {f : S → M (Fl S S R)} {n : Nat} {s : S} {r : R} (h : c s = .ok true) (h2 : f s = .ok (.rt r)) : (whileF c f (n + 1) s : M (Fl S L R)) = .ok (.rt r) := by
  conv => lhs; unfold whileF
  rw [h, M.bind_ok, if_pos rfl, h2]
/-- a while that may leave the def: what comes of a state stays -/
theorem seqT_whileV {c : S → M Bool} {f : S → M (Fl S S R)} {k : S → M R} (V : S → M R) (I : S → Prop) (μ : S → Nat)
    (h : ∀ s, I s → (c s = .ok false ∧ k s = V s) ∨ (c s = .ok true ∧ ((∃ r, f s = .ok (.rt r) ∧ V s = .ok r) ∨ ∃ s', (f s = .ok (.nx s') ∨ f s = .ok (.ct s')) ∧ I s' ∧ μ s' < μ s ∧ V s = V s'))) : ∀ (n : Nat) {s0 : S}, I s0 → μ s0 < n → M.seqT (whileF c f n s0 : M (Fl S L R)) k = V s0
  | 0, _, _, hn => by omega
  | n + 1, s, hI, hn => by
    rcases h s hI with ⟨h0, h1⟩ | ⟨h0, ⟨r, h1, h2⟩ | ⟨s', h1, h2, h3, h4⟩⟩
    · rw [whileF_done h0, h2k h1]
    · rw [whileF_rt h0 h1, h2]; rfl
    · rw [whileF_nx h0 h1, h4]
      exact seqT_whileV V I μ h n h2 (by omega)
where
  h2k {s : S} {k V : S → M R} (h1 : k s = V s) : M.seqT (.ok (.nx s) : M (Fl S L R)) k = V s := h1
/-- a walk that is left at the first that is not so -/
theorem seqT_all {f : α → Unit → M (Fl Unit Unit R)} {p : α → Bool} {r : R} {k : Unit → M R} : ∀ {xs : List α}, (∀ x ∈ xs, f x () = .ok (if p x = true then .nx () else .rt r)) → M.seqT (forF f xs () : M (Fl Unit L R)) k = if xs.all p = true then k () else .ok r
  | [], _ => rfl
  | x :: xs, h => by
    unfold forF
    rw [h x List.mem_cons_self]
    have ih := seqT_all (f := f) (p := p) (r := r) (k := k) (xs := xs) fun y hy => h y (List.mem_cons_of_mem _ hy)
    cases e : p x with
    | true => simp only [if_pos, List.all_cons, e, Bool.true_and]; exact ih
    | false => simp [e]
theorem if_t {α : Type} {b : Bool} {x y : α} (h : b = true) : (if b = true then x else y) = x := if_pos h
theorem if_f {α : Type} {b : Bool} {x y : α} (h : b = false) : (if b = true then x else y) = y := if_neg (by rw [h]; decide)
theorem snoc_of {α : Type} {l : List α} (h : l ≠ []) : ∃ u x, l = u ++ [x] := by
  rcases List.eq_nil_or_concat l with rfl | ⟨u, x, rfl⟩
  · exact (h rfl).elim
  · exact ⟨u, x, by rw [List.concat_eq_append]⟩
theorem gl_snoc {α : Type} (l : List α) (x : α) : (l ++ [x]).getLast? = some x := by simp
theorem dl_snoc {α : Type} (l : List α) (x : α) : (l ++ [x]).dropLast = l := by simp
theorem atI_last {α : Type} (l : List α) (x : α) : atI (l ++ [x]) (-1) = some x := by
  have := atI_neg (l := l ++ [x]) (k := 1) (by decide) (by simp)
  rw [show (-1 : Int) = -((1 : Nat) : Int) by decide, this]
  simp
theorem setI_last {α : Type} (l : List α) (x y : α) : setI (l ++ [x]) (-1) y = some (l ++ [y]) := by
  unfold setI ixN
  simp only [List.length_append, List.length_singleton]
  rw [if_neg (by omega), if_pos (by omega)]
  rw [show ((-1 : Int) + ((l.length + 1 : Nat) : Int)).toNat = l.length by omega]
  simp
theorem atI_0 {α : Type} (l : List α) : atI l 0 = l[0]? := by
  cases l with
  | nil => rfl
  | cons x l => exact atI_n (l := x :: l) (i := 0) (by simp)
end
/-! ### trees of a frame, as data -/
def isT (m : Nat) : Nat → Dat → Bool
  | 0, d => isNon d
  | k + 1, d => match d with
    | .non => true
    | .tup ds => decide (ds.length = m) && ds.all (isT m k)
    | _ => false
theorem isT_non (m k : Nat) : isT m k .non = true := by cases k <;> rfl
theorem isT_tup (m k : Nat) (ds : List Dat) : isT m (k + 1) (.tup ds) = (decide (ds.length = m) && ds.all (isT m k)) := rfl
/-- how many knots are looked at -/
def visT (m : Nat) : Nat → Dat → Nat
  | 0, _ => 1
  | k + 1, d => match d with
    | .tup ds => if ds.length = m then 1 + (ds.map (visT m k)).sum else 1
    | _ => 1
def wd6 : Nat → Nat
  | 0 => 1
  | k + 1 => 1 + 6 * wd6 k
theorem wd6_pos : ∀ k, 1 ≤ wd6 k
  | 0 => Nat.le_refl _
  | k + 1 => Nat.le_add_right _ _
theorem sum_le_n {α : Type} {f : α → Nat} {c : Nat} : ∀ {l : List α}, (∀ a ∈ l, f a ≤ c) → (l.map f).sum ≤ l.length * c
  | [], _ => Nat.zero_le _
  | a :: l, h => by
    have h1 := h a List.mem_cons_self
    have h2 := sum_le_n (l := l) fun b hb => h b (List.mem_cons_of_mem _ hb)
    rw [List.map_cons, List.sum_cons, List.length_cons, Nat.succ_mul]
    omega
theorem visT_le {m : Nat} (hm : m ≤ 6) : ∀ (k : Nat) (d : Dat), visT m k d ≤ wd6 k
  | 0, _ => Nat.le_refl _
  | k + 1, d => by
    have hp := wd6_pos (k + 1)
    unfold visT
    split
    · split
      · rename_i ds h
        have h1 := sum_le_n (f := visT m k) (l := ds) fun a _ => visT_le hm k a
        have h2 : ds.length * wd6 k ≤ 6 * wd6 k := Nat.mul_le_mul_right _ (by omega)
        show _ ≤ 1 + 6 * wd6 k
        omega
      · exact hp
    · exact hp
theorem visT_pos (m k : Nat) (d : Dat) : 1 ≤ visT m k d := by
  unfold visT
  split
  · exact Nat.le_refl _
  · split
    · split
      · exact Nat.le_add_right _ _
      · exact Nat.le_refl _
    · exact Nat.le_refl _
theorem wd6_le : ∀ {k : Nat}, k ≤ 6 → wd6 k ≤ 60000
  | 0, _ => by decide
  | 1, _ => by decide
  | 2, _ => by decide
  | 3, _ => by decide
  | 4, _ => by decide
  | 5, _ => by decide
  | 6, _ => by decide
  | k + 7, h => by omega
/-- what is a tree is one of Tr -/
theorem isT_tr {m : Nat} : ∀ {k : Nat} {d : Dat}, isT m k d = true → ∃ t, d = trd t
  | 0, d, h => by
    cases d <;> first | exact ⟨.leaf, rfl⟩ | exact absurd h (by decide) | skip
    all_goals cases h
  | k + 1, d, h => by
    cases d with
    | non => exact ⟨.leaf, rfl⟩
    | tup ds =>
      rw [isT_tup, Bool.and_eq_true, List.all_eq_true] at h
      obtain ⟨l, hl⟩ : ∃ l, ds = trds l := by
        have h2 := h.2
        clear h
        induction ds with
        | nil => exact ⟨[], rfl⟩
        | cons d ds ih =>
          obtain ⟨l, hl⟩ := ih fun x hx => h2 x (List.mem_cons_of_mem _ hx)
          obtain ⟨t, ht⟩ := isT_tr (h2 d List.mem_cons_self)
          exact ⟨t :: l, by rw [trds, ht, hl]⟩
      exact ⟨.node l, by rw [trd, hl]⟩
    | bl _ => cases h
    | int _ => cases h
    | str _ => cases h
    | lst _ => cases h
    | dic _ => cases h
/-- .. as trees -/
def isTr (m : Nat) : Nat → Tr → Bool
  | 0, t => isLf t
  | k + 1, t => match t with
    | .leaf => true
    | .node l => decide (l.length = m) && l.all (isTr m k)
theorem isT_trd (m : Nat) : ∀ (k : Nat) (t : Tr), isT m k (trd t) = isTr m k t
  | 0, t => by
    show isNon (trd t) = isLf t
    exact isNon_trd t
  | k + 1, .leaf => rfl
  | k + 1, .node l => by
    rw [trd_node]
    show (decide ((l.map trd).length = m) && (l.map trd).all (isT m k)) = (decide (l.length = m) && l.all (isTr m k))
    rw [List.length_map, List.all_map]
    congr 1
    congr 1
    funext t
    exact isT_trd m k t
theorem isTr_dp {m : Nat} : ∀ {k : Nat} {t : Tr}, isTr m k t = true → Dp k t
  | 0, .leaf, _ => .leaf
  | 0, .node _, h => by cases h
  | k + 1, .leaf, _ => .leaf
  | k + 1, .node l, h => by
    have h' : (decide (l.length = m) && l.all (isTr m k)) = true := h
    rw [Bool.and_eq_true, List.all_eq_true] at h'
    exact .node fun t ht => isTr_dp (h'.2 t ht)
/-! ### an error from within a row of arguments -/
section
variable {X : Cx} {H0 : Hp} {ρ : Env'} {α β : Type} {e : Expr} {es : List Expr} {d : Dat} {p pos : Pos} {x n : Str} {R : List Dat → Res → Prop} {en : α → Dat} {k : Nat}
def EvAX (X : Cx) (H0 : Hp) (ρ : Env') (es : List Expr) (n : Str) : Prop := ∀ σ H N, Rep X.K H0 ρ σ H N → ∀ W : WX, Takes X W → (∀ C H' N', X.mg n = some (.ref C) → Same N N' → Rep X.K H0 ρ σ H' N' → W (.ref C) none σ H') → ∀ Q, WA X es σ H Q
theorem eax_here (h : EvX X H0 ρ e n) (hs : starEach (e :: es) X.env = (false, eval e X.env) :: starEach es X.env := by rfl) : EvAX X H0 ρ (e :: es) n := fun σ H N r W tk kw Q => wa_of (pa_cons pe_w pa_w hs) (h σ H N r W tk kw _)
theorem eax_next (h : EvB X H0 ρ e d) (t : EvAX X H0 ρ es n) (hs : starEach (e :: es) X.env = (false, eval e X.env) :: starEach es X.env := by rfl) : EvAX X H0 ρ (e :: es) n := fun σ H N r W tk kw Q => wa_of (pa_cons pe_w pa_w hs) ((h σ H N r).imp fun v H1 ⟨N1, s1, n1, r1, a1⟩ => t σ H1 N1 r1 W tk (fun C H' N' hC n2 r2 => kw C H' N' hC (n1.trans n2) r2) _)
theorem exc_args (G : GFn X.prog X.w X.K X.mg X.base x k R) (hr : Room k X.A) (ha : EvAX X H0 ρ (e :: es) n) (hg : Gl X x := by rfl) (hdb : (x == ("__debug__" : Str)) = false := by decide)
    (he : starEach (e :: es) X.env = (false, eval e X.env) :: starEach es X.env := by rfl) (hpl : (backTo pos (starEach es X.env)).any (·.1) = false := by rfl) : EvX X H0 ρ (.Call (.Name x p) (e :: es) [] pos) n := fun σ H N r W tk kw Q => by
  obtain ⟨f, fd, ps, F, hm, hk, hb⟩ := G
  exact we_of (pe_callS F hr hg hm hk hb (fun σ => passAt tk σ) pa_w hdb he hpl) (ha σ H N r W tk kw _)
theorem evx_get {m : M α} (h : EvM X H0 ρ e en m) (q : m = .ex n) : EvX X H0 ρ e n := by subst q; exact h
theorem evm_callA {mb : M β} {f : β → M α} (G : GFn X.prog X.w X.K X.mg X.base x k R) (hr : Room k X.A) (hx : ∀ n, mb = .ex n → EvAX X H0 ρ (e :: es) n) (t : ∀ r, mb = .ok r → EvM X H0 ρ (.Call (.Name x p) (e :: es) [] pos) en (f r)) (hg : Gl X x := by rfl) (hdb : (x == ("__debug__" : Str)) = false := by decide)
    (he : starEach (e :: es) X.env = (false, eval e X.env) :: starEach es X.env := by rfl) (hpl : (backTo pos (starEach es X.env)).any (·.1) = false := by rfl) : EvM X H0 ρ (.Call (.Name x p) (e :: es) [] pos) en (M.bind mb f) := by
  cases mb with
  | ok r => exact t r rfl
  | ex n => exact exc_args G hr (hx n rfl) hg hdb he hpl
  | far => trivial
theorem eom_callA {mb : M β} {f : β → M α} (G : GFn X.prog X.w X.K X.mg X.base x k R) (hr : Room k X.A) (hx : ∀ n, mb = .ex n → EvAX X H0 ρ (e :: es) n) (t : ∀ r, mb = .ok r → EoM X H0 ρ (.Call (.Name x p) (e :: es) [] pos) en (f r)) (hg : Gl X x := by rfl) (hdb : (x == ("__debug__" : Str)) = false := by decide)
    (he : starEach (e :: es) X.env = (false, eval e X.env) :: starEach es X.env := by rfl) (hpl : (backTo pos (starEach es X.env)).any (·.1) = false := by rfl) : EoM X H0 ρ (.Call (.Name x p) (e :: es) [] pos) en (M.bind mb f) := by
  cases mb with
  | ok r => exact t r rfl
  | ex n => exact exc_args G hr (hx n rfl) hg hdb he hpl
  | far => trivial
end
end B

namespace B
open PySem PySem.Spec PyProof.Rows L2 RZ
/-! ### zip of a text and a tuple -/
def ItzS (K : PySem.W.Frag) (z : Str) (b : Addr) : It :=
  ⟨fun i H => ∃ (ys : List V) (y : V), SqT K H b ys ∧ i < z.cps.size ∧ ys[i]? = some y,
    fun i H v H' => ∃ T y c, v = .ref T ∧ H T = none ∧ H' = upd H T (.tup [.str ⟨#[c]⟩, y]) ∧ z.cps[i]? = some c ∧ ∀ ys, SqT K H b ys → ys[i]? = some y,
    fun i H => ∃ ys : List V, SqT K H b ys ∧ i ≤ z.cps.size ∧ i ≤ ys.length ∧ (i = z.cps.size ∨ i = ys.length)⟩
theorem strIter_at {h h' : Heap} {I : Addr} {n : String} {x : Str} {t : Tok} {i : Nat} (st : h.IsStrIter I n x t i) (k : ∀ o, h.get? I = some o → h'.get? I = some o) : h'.IsStrIter I n x t i := by
  obtain ⟨o, ho, hc, hd⟩ := st
  exact ⟨o, k o ho, hc, hd⟩
theorem turn_zipS {P : Program} {w : World} {K : PySem.W.Frag} {elts : List Expr} {kk : Nat} {tpos : Pos} {z : Str} {t : Tok} {b Z TI TO i1 i2 : Addr} (D : ZipSep2 Z TI TO i1 i2 [i1] [i2, b]) (hbi : b ≠ i2) :
    Turn P w K (.Tuple elts kk tpos) (ItzS K z b) [Z, TI, TO, i1, i2] Z (fun i h => IsZip h Z TI TO .none ∧ IsPair h TI (.ref i1) (.ref i2) ∧ (∃ x y, IsPair h TO x y) ∧ h.IsStrIter i1 (strIterType z) z t i ∧ h.IsTupleIter i2 b i) where
  mem := by simp
  obj := fun i h st c hc => by
    obtain ⟨hz, hTI, ⟨x, y, hTO⟩, ⟨o1, e1, _, d1⟩, ⟨o2, e2, _, d2⟩⟩ := st
    have e' : c = Z ∨ c = TI ∨ c = TO ∨ c = i1 ∨ c = i2 := by simpa using hc
    rcases e' with q | q | q | q | q
    · rw [q]; exact ⟨_, hz, fun v q => nomatch q⟩
    · rw [q]; exact ⟨_, hTI, fun v q => nomatch q⟩
    · rw [q]; exact ⟨_, hTO, fun v q => nomatch q⟩
    · rw [q]; exact ⟨o1, e1, fun v q => by rw [d1] at q; cases q⟩
    · rw [q]; exact ⟨o2, e2, fun v q => by rw [d2] at q; cases q⟩
  keep := fun i h h' st k => by
    obtain ⟨hz, hTI, ⟨x, y, hTO⟩, h1, h2⟩ := st
    exact ⟨k Z (by simp) _ hz, k TI (by simp) _ hTI, ⟨x, y, k TO (by simp) _ hTO⟩, strIter_at h1 (fun o q => k i1 (by simp) o q), h2.at fun o q => k i2 (by simp) o q⟩
  item := by
    intro X hP hw hK hc i pins s σ H E I hf st hg
    subst hP hw hK
    obtain ⟨hz, hTI, ⟨x0, y0, hTO⟩, h1, h2⟩ := st
    obtain ⟨ys, y, hqy, hlt, hy⟩ := hg
    obtain ⟨its2, rv2, p2, _⟩ := I.tuple hqy
    obtain ⟨u2, hu2, ru2⟩ := rv2.get hy
    have hzl : Z < s.heap.objs.size := Heap.lt_size hz
    have hin : X.A.in1.handled = none := I.ok.hd hc
    refine wpAny_pyNext_zipD2_item D (Draws.text hin i1 z t) (Draws.tuple hin i2 b hbi its2.toArray) hz hTI hTO h1 ⟨h2, p2⟩ hlt (by have := (List.getElem?_eq_some_iff.mp hu2).1; simpa using this) fun x1 x2 h' tk y1 y2 z' TO' h1' h2' hT hsz hk => ?_
    obtain ⟨c, uu, hc1, rfl⟩ := y1
    have hx2 : x2 = u2 := by
      have : its2.toArray[i]? = some u2 := by simpa using hu2
      rw [this] at y2
      exact (Option.some.inj y2).symm
    subst hx2
    refine ⟨_, rfl, wpAny_letOwnedTupleGo_zip (s := { s with heap := h', toks := tk }) z' fun h'' z'' sb => ?_⟩
    have hT2 : h''.get? s.heap.objs.size = some { cls := .type "tuple", data := .seq #[.str ⟨#[c]⟩ uu, x2] } := (sb.2 _ (Nat.ne_of_gt hzl)).trans hT
    have new : ObjOk X.prog X.w (upd H s.heap.objs.size (.tup [.str ⟨#[c]⟩, y])) h'' s.heap.objs.size (.tup [.str ⟨#[c]⟩, y]) :=
      ⟨by show 2 ≤ sizeLine; decide, [.str ⟨#[c]⟩ uu, x2], .cons ⟨_, rfl⟩ (.cons ru2 .nil), ⟨_, hT2, rfl, _, rfl⟩⟩
    have I1 : Inv X pins σ (upd H s.heap.objs.size (.tup [.str ⟨#[c]⟩, y])) { s with heap := h'', toks := tk } :=
      I.turnedNew (t' := tk) (ch := [Z, TI, TO, i1, i2]) (fun c o hb q => (sb.2 c (fun q' => hb (by simp [q']))).trans (hk c o (fun q' => hb (by simp [q'])) (fun q' => hb (by simp [q'])) (fun q' => hb (by simp [q'])) (fun q' => hb (by simp [q'])) q)) hf (Nat.le_refl _) new
    refine ⟨.ref s.heap.objs.size, _, I1, rfl, ⟨_, y, c, rfl, I.hok.fresh (Nat.le_refl _), rfl, hc1, fun l hl => by rw [I.tuple_inj hl hqy]; exact hy⟩, ⟨z'', ?_, ⟨.str ⟨#[c]⟩ uu, x2, ?_⟩, ?_, ?_⟩, fun c hcm => ?_⟩
    · exact (sb.2 _ D.TIz).trans (hk _ _ D.TIz D.TITO D.TIi1 D.TIi2 hTI)
    · exact (sb.2 _ D.TOz).trans TO'
    · exact strIter_at h1' fun o q => (sb.2 _ (Ne.symm D.zi1)).trans q
    · exact h2'.1.at fun o q => (sb.2 _ (Ne.symm D.zi2)).trans q
    · have hlt : c < s.heap.objs.size := by
        have e' : c = Z ∨ c = TI ∨ c = TO ∨ c = i1 ∨ c = i2 := by simpa using hcm
        rcases e' with q | q | q | q | q
        · rw [q]; exact hzl
        · rw [q]; exact Heap.lt_size hTI
        · rw [q]; exact Heap.lt_size hTO
        · rw [q]; obtain ⟨_, e1, _⟩ := h1; exact Heap.lt_size e1
        · rw [q]; obtain ⟨_, e2, _⟩ := h2; exact Heap.lt_size e2
      rw [upd_ne (Nat.ne_of_lt hlt)]
      exact (hf c hcm).1
  done := by
    intro X hP hw hK hc i pins s σ H E I hf st hg
    subst hP hw hK
    obtain ⟨hz, hTI, ⟨x0, y0, hTO⟩, h1, h2⟩ := st
    obtain ⟨ys, hqy, le1, le2, hend⟩ := hg
    obtain ⟨its2, rv2, p2, _⟩ := I.tuple hqy
    have l2 := rv2.length
    have hin : X.A.in1.handled = none := I.ok.hd hc
    exact wpAny_pyNext_zipD2_end D (Draws.text hin i1 z t) (Draws.tuple hin i2 b hbi its2.toArray) hz hTI hTO h1 ⟨h2, p2⟩ le1 (by simp; omega) (by simp; omega) fun h' tk hk => ⟨rfl, I.turnedL (t' := tk) (ch := [Z, TI, TO, i1, i2]) (fun c o hb q =>
      hk c o (fun q' => hb (by simp [q'])) (fun q' => hb (by simp [q'])) (fun q' => hb (by simp [q'])) (fun q' => hb (by simp [q'])) q) hf⟩
  self := fun A i s Q E st h => wpAny_pyIter_zip st.1 h
def iZipS (K : PySem.W.Frag) (ta : TA) : TI := fun σ H R => ta σ H fun vs H1 => ∃ z b ys, vs = [.str z, .ref b] ∧ SqT K H1 b ys ∧ R (ItzS K z b) H1
theorem pi_zipS {X : Cx} {e e2 : Expr} {ta : TA} {p pos tpos : Pos} {elts : List Expr} {kk : Nat} (hg : Gl X "zip") (hm : X.mg "zip" = none) (ha : PA X [e, e2] ta)
    (hs : starEach [e, e2] X.env = (false, eval e X.env) :: starEach [e2] X.env := by rfl) (hpl : (backTo pos (starEach [e2] X.env)).any (·.1) = false := by rfl) :
    PI X (.Tuple elts kk tpos) (.Call (.Name "zip" p) [e, e2] [] pos) (iZipS X.K ta) := by
  refine ⟨fun pins s σ H R I h => ?_⟩
  refine Call_ (ld_blt I hg hm PyProof.Rows.boot_zip (PyProof.Rows.callWith_type1 (thn (ha.run pos pins s σ H _ I h) fun us s1 ⟨vs, H1, I1, r1, q1⟩ => ?_) hs hpl))
  obtain ⟨z, b, ys, ex, hqy, q⟩ := q1
  subst ex
  cases r1 with
  | cons r rr =>
    cases rr with
    | cons r' rr =>
      cases rr
      obtain ⟨t, rfl⟩ := r
      cases r'
      have fresh5 : ∀ c, c ∈ [s1.heap.objs.size + 4, s1.heap.objs.size + 2, s1.heap.objs.size + 3, s1.heap.objs.size, s1.heap.objs.size + 1] → FpOk X pins H1 c := fun c hcm => by
        have e' : c = s1.heap.objs.size + 4 ∨ c = s1.heap.objs.size + 2 ∨ c = s1.heap.objs.size + 3 ∨ c = s1.heap.objs.size ∨ c = s1.heap.objs.size + 1 := by simpa using hcm
        have hle : s1.heap.objs.size ≤ c := by
          rcases e' with z | z | z | z | z
          · rw [z]; exact Nat.le_add_right _ _
          · rw [z]; exact Nat.le_add_right _ _
          · rw [z]; exact Nat.le_add_right _ _
          · rw [z]; exact Nat.le_refl _
          · rw [z]; exact Nat.le_add_right _ _
        exact I1.fpOk hle (I1.hok.fresh hle)
      obtain ⟨its2, rv2, p2, _⟩ := I1.tuple hqy
      obtain ⟨o2, ho2, _⟩ := id p2
      have hb : b < s1.heap.objs.size := Heap.lt_size ho2
      refine zip_begins2 (begins_text z t) (begins_tuple b its2.toArray) trivial (show s1.heap.IsTuple b its2.toArray from p2) fun h' hz hTI hTO g1 g2 hsz hk => wpAny_pyIter_zip hz ?_
      have I2 : Inv X pins σ H1 { s1 with heap := h' } := I1.kept (t' := s1.toks) hk
      exact ⟨s1.heap.objs.size + 4, [s1.heap.objs.size + 4, s1.heap.objs.size + 2, s1.heap.objs.size + 3, s1.heap.objs.size, s1.heap.objs.size + 1], _, _, H1, rfl, I2,
        turn_zipS (zip_sep2 (fp1 := []) (fp2 := [b]) (fun _ m => nomatch m) (fun c m => by rw [List.mem_singleton.mp m]; exact hb)) (Nat.ne_of_lt (Nat.lt_succ_of_lt hb)), ⟨hz, hTI, ⟨_, _, hTO⟩, ⟨_, g1, rfl, rfl⟩, ⟨_, g2, rfl, rfl⟩⟩, fresh5, q⟩
section
variable {X : Cx} {H0 : Hp} {ρ ρ1 : Env'} {α β γ : Type} {a b c e : Expr} {p pos apos : Pos}
theorem it_zipS {eb : β → Dat} {l1 : List Nat} {l2 : List β} {elts : List Expr} {kk : Nat} {tpos : Pos} (ha : Ev X H0 ρ a (tx l1)) (hb : Ev X H0 ρ b (tpnd eb l2)) (hm : X.mg "zip" = none) (hg : Gl X "zip" := by rfl) (hs : starEach [a, b] X.env = (false, eval a X.env) :: starEach [b] X.env := by rfl) (hs2 : starEach [b] X.env = (false, eval b X.env) :: starEach [] X.env := by rfl) (hpl : (backTo pos (starEach [b] X.env)).any (·.1) = false := by rfl) :
    Iter X H0 ρ (.Tuple elts kk tpos) (.Call (.Name "zip" p) [a, b] [] pos) ((l1.zip l2).map (tup2 chd eb)) := ⟨_, pi_zipS hg hm pa_w hs hpl, fun σ H N r R k => (ea_cons ha (ea_cons hb ea_nil (hs := hs2)) (hs := hs) σ H N r).imp fun vs H' ⟨N', s, n, r', q⟩ => by
  cases q with
  | cons a1 t =>
    cases t with
    | cons a2 t2 =>
      cases t2
      have h1 := at_str a1
      subst h1
      obtain ⟨p2, v2, rfl, q3, q4⟩ := at_seq a2
      refine ⟨SX.S l1, p2, v2, rfl, sqt_same r'.sub q3, k _ H' N' n s r' fun H02 ρ2 σ2 H2 N2 i s02 s2 r2 => ?_⟩
      have g3 := sqt_same r2.sub (sqt_same s2 q3)
      have l2l : v2.length = l2.length := by rw [q4.length, List.length_map]
      have l1l : (SX.S l1).cps.size = l1.length := by show l1.toArray.size = _; simp
      refine ⟨fun hi => ?_, fun hi => ?_⟩
      · rw [List.length_map, List.length_zip] at hi
        have i1 : i < l1.length := by omega
        have i2 : i < l2.length := by omega
        obtain ⟨y1, y2, y3⟩ := (q4.mono s2).get (i := i) (d := eb l2[i]) (by rw [List.getElem?_map, List.getElem?_eq_getElem i2]; rfl)
        refine ⟨⟨v2, y1, g3, by omega, y2⟩, fun x H3 y => ?_⟩
        obtain ⟨T, yy, c, rfl, hT, rfl, f1, f2⟩ := y
        have e1 : c = l1[i] := by
          have : (SX.S l1).cps[i]? = l1[i]? := by show l1.toArray[i]? = _; simp
          rw [this, List.getElem?_eq_getElem i1] at f1
          exact (Option.some.inj f1).symm
        subst e1
        have e2 := f2 _ g3
        rw [y2] at e2
        cases e2
        obtain ⟨r3, n3⟩ := r2.new (o := .tup [.str ⟨#[l1[i]]⟩, y1]) hT
        refine ⟨_, tup2 chd eb (l1[i], l2[i]), n3, Same.of_none hT, r3, ?_, .tup (.inl (.inl upd_same)) (.cons (.str _) (.cons (y3.mono n3) .nil))⟩
        rw [List.getElem?_map]
        have hz : (l1.zip l2)[i]? = some (l1[i], l2[i]) := by
          rw [List.getElem?_zip_eq_some]
          exact ⟨List.getElem?_eq_getElem i1, List.getElem?_eq_getElem i2⟩
        rw [hz]
        rfl
      · rw [List.length_map, List.length_zip] at hi
        exact ⟨v2, g3, by omega, by omega, by omega⟩⟩
end
/-! ### all, any of a list of truths -/
theorem Ats.bls {K : PySem.W.Frag} {H : Hp} : ∀ {vs : List V} {bs : List Bool}, Ats K H vs (bs.map .bl) → vs = bs.map .bl
  | [], [], _ => rfl
  | _ :: _, n :: ns, .cons a t => by
    cases a
    rw [Ats.bls t]
    rfl
  | [], _ :: _, h => by cases h
  | _ :: _, [], h => by cases h
section
variable {X : Cx} {H0 : Hp} {ρ ρ1 : Env'} {a : Expr} {p pos : Pos}
theorem ev_allL {bs : List Bool} (ha : EvB X H0 ρ a (lstd Dat.bl bs)) (hc : X.calm = true) (hm : X.mg "all" = none) (hg : Gl X "all" := by rfl) (he : starEach [a] X.env = (false, eval a X.env) :: starEach [] X.env := by rfl) (hpl : (backTo pos (starEach [] X.env)).any (·.1) = false := by rfl) :
    Ev X H0 ρ (.Call (.Name "all" p) [a] [] pos) (.bl (bs.all id)) := ev_blt (cr_all hc) hm (by decide +kernel) (eab1 ha he) (fun vs σ H N Q r q g => by
    obtain ⟨v, e1, e2⟩ := ats_one q
    obtain ⟨pp, us, e3, h1, h2⟩ := at_lst e2
    rw [h2.bls] at h1
    exact ⟨pp, bs, by rw [e1, e3], h1, goes_self g r (.bl _)⟩) hg (by decide) (by decide) he hpl
theorem ev_anyL {bs : List Bool} (ha : EvB X H0 ρ a (lstd Dat.bl bs)) (hc : X.calm = true) (hm : X.mg "any" = none) (hg : Gl X "any" := by rfl) (he : starEach [a] X.env = (false, eval a X.env) :: starEach [] X.env := by rfl) (hpl : (backTo pos (starEach [] X.env)).any (·.1) = false := by rfl) :
    Ev X H0 ρ (.Call (.Name "any" p) [a] [] pos) (.bl (bs.any id)) := ev_blt (cr_any hc) hm (by decide +kernel) (eab1 ha he) (fun vs σ H N Q r q g => by
    obtain ⟨v, e1, e2⟩ := ats_one q
    obtain ⟨pp, us, e3, h1, h2⟩ := at_lst e2
    rw [h2.bls] at h1
    exact ⟨pp, bs, by rw [e1, e3], h1, goes_self g r (.bl _)⟩) hg (by decide) (by decide) he hpl
end
theorem eom_ev {X : Cx} {H0 : Hp} {ρ : Env'} {α : Type} {e : Expr} {en : α → Dat} {m : M α} (h : EoM X H0 ρ e en m) : EvM X H0 ρ e en m := by
  cases m with
  | ok v => exact EvO.ev h
  | ex n => exact h
  | far => trivial
end B

namespace B
open PySem PySem.Spec PyProof.Rows L2
/-! ### x in a list, a tuple of whole numbers, of texts -/
theorem inV_ints (i : Int) (l : List Int) : inV (.int i) (l.map V.int) = decide (i ∈ l) := by
  unfold inV
  induction l with
  | nil => rfl
  | cons a l ih =>
    rw [List.map_cons, List.any_cons, ih]
    show ((a == i) || decide (i ∈ l)) = _
    by_cases h : a = i
    · subst h; simp
    · have : (a == i) = false := by simpa using h
      rw [this, Bool.false_or]
      have e : i ∈ a :: l ↔ i ∈ l := by simp [Ne.symm h]
      exact decide_eq_decide.mpr e.symm
theorem inV_strs (s : List Nat) (l : List (List Nat)) : inV (.str (SX.S s)) ((l.map SX.S).map V.str) = decide (s ∈ l) := by
  unfold inV
  induction l with
  | nil => rfl
  | cons a l ih =>
    rw [List.map_cons, List.map_cons, List.any_cons, ih]
    show ((SX.S a == SX.S s) || decide (s ∈ l)) = _
    by_cases h : a = s
    · subst h; simp
    · have : (SX.S a == SX.S s) = false := by
        have h2 : ¬ SX.S a = SX.S s := fun z => h (SX.S_inj z)
        simpa using h2
      rw [this, Bool.false_or]
      have e : s ∈ a :: l ↔ s ∈ l := by simp [Ne.symm h]
      exact decide_eq_decide.mpr e.symm
theorem flat_ints (l : List Int) : (l.map V.int).all flatV = true := by
  rw [List.all_map]; exact List.all_eq_true.mpr fun _ _ => rfl
theorem flat_strs (l : List Str) : (l.map V.str).all flatV = true := by
  rw [List.all_map]; exact List.all_eq_true.mpr fun _ _ => rfl
section
variable {X : Cx} {H0 : Hp} {ρ ρ1 : Env'} {a b : Expr} {pos : Pos}
theorem et_inL_int {i : Int} {l : List Int} (ha : Ev X H0 ρ a (.int i)) (hb : EvB X H0 ρ b (lstd Dat.int l)) (hm : behindInMarks .In b = false := by rfl) : EvT X H0 ρ (.Compare a [.In] [b] pos) (decide (i ∈ l)) :=
  evt_bin (fun _ _ h k => pt_cmpR op_in_seq h k hm) ha.toB hb fun x y σ H N Q r p q g => by
    obtain ⟨pp, vs, e, h1, h2⟩ := at_lst q
    have e2 := Ats.ints h2
    have e3 := at_int p
    subst e e2 e3
    exact ⟨pp, _, rfl, .inl h1, rfl, flat_ints l, by rw [inV_ints]; exact goes_self g r (.bl _)⟩
theorem ev_inL_int {i : Int} {l : List Int} (ha : Ev X H0 ρ a (.int i)) (hb : EvB X H0 ρ b (lstd Dat.int l)) (hm : behindInMarks .In b = false := by rfl) : Ev X H0 ρ (.Compare a [.In] [b] pos) (.bl (decide (i ∈ l))) :=
  ev_bin (fun _ _ h k => pe_cmpR op_in_seq h k hm) ha.toB hb fun x y σ H N Q r p q g => by
    obtain ⟨pp, vs, e, h1, h2⟩ := at_lst q
    have e2 := Ats.ints h2
    have e3 := at_int p
    subst e e2 e3
    exact ⟨pp, _, rfl, .inl h1, rfl, flat_ints l, by rw [inV_ints]; exact goes_self g r (.bl _)⟩
theorem et_ninL_int {i : Int} {l : List Int} (ha : Ev X H0 ρ a (.int i)) (hb : EvB X H0 ρ b (lstd Dat.int l)) (hm : behindInMarks .NotIn b = false := by rfl) : EvT X H0 ρ (.Compare a [.NotIn] [b] pos) (!decide (i ∈ l)) :=
  evt_bin (fun _ _ h k => pt_cmpR op_notIn_seq h k hm) ha.toB hb fun x y σ H N Q r p q g => by
    obtain ⟨pp, vs, e, h1, h2⟩ := at_lst q
    have e2 := Ats.ints h2
    have e3 := at_int p
    subst e e2 e3
    exact ⟨pp, _, rfl, .inl h1, rfl, flat_ints l, by rw [inV_ints]; exact goes_self g r (.bl _)⟩
theorem ev_ninL_int {i : Int} {l : List Int} (ha : Ev X H0 ρ a (.int i)) (hb : EvB X H0 ρ b (lstd Dat.int l)) (hm : behindInMarks .NotIn b = false := by rfl) : Ev X H0 ρ (.Compare a [.NotIn] [b] pos) (.bl (!decide (i ∈ l))) :=
  ev_bin (fun _ _ h k => pe_cmpR op_notIn_seq h k hm) ha.toB hb fun x y σ H N Q r p q g => by
    obtain ⟨pp, vs, e, h1, h2⟩ := at_lst q
    have e2 := Ats.ints h2
    have e3 := at_int p
    subst e e2 e3
    exact ⟨pp, _, rfl, .inl h1, rfl, flat_ints l, by rw [inV_ints]; exact goes_self g r (.bl _)⟩
theorem et_inL_str {i : List Nat} {l : List (List Nat)} (ha : Ev X H0 ρ a (tx i)) (hb : EvB X H0 ρ b (lstd tx l)) (hm : behindInMarks .In b = false := by rfl) : EvT X H0 ρ (.Compare a [.In] [b] pos) (decide (i ∈ l)) :=
  evt_bin (fun _ _ h k => pt_cmpR op_in_seq h k hm) ha.toB hb fun x y σ H N Q r p q g => by
    obtain ⟨pp, vs, e, h1, h2⟩ := at_lst q
    rw [show l.map tx = (l.map SX.S).map Dat.str by rw [List.map_map]; rfl] at h2
    have e2 := ats_strs h2
    have e3 := at_str p
    subst e e2 e3
    exact ⟨pp, _, rfl, .inl h1, rfl, flat_strs (l.map SX.S), by rw [inV_strs]; exact goes_self g r (.bl _)⟩
theorem ev_inL_str {i : List Nat} {l : List (List Nat)} (ha : Ev X H0 ρ a (tx i)) (hb : EvB X H0 ρ b (lstd tx l)) (hm : behindInMarks .In b = false := by rfl) : Ev X H0 ρ (.Compare a [.In] [b] pos) (.bl (decide (i ∈ l))) :=
  ev_bin (fun _ _ h k => pe_cmpR op_in_seq h k hm) ha.toB hb fun x y σ H N Q r p q g => by
    obtain ⟨pp, vs, e, h1, h2⟩ := at_lst q
    rw [show l.map tx = (l.map SX.S).map Dat.str by rw [List.map_map]; rfl] at h2
    have e2 := ats_strs h2
    have e3 := at_str p
    subst e e2 e3
    exact ⟨pp, _, rfl, .inl h1, rfl, flat_strs (l.map SX.S), by rw [inV_strs]; exact goes_self g r (.bl _)⟩
theorem et_ninL_str {i : List Nat} {l : List (List Nat)} (ha : Ev X H0 ρ a (tx i)) (hb : EvB X H0 ρ b (lstd tx l)) (hm : behindInMarks .NotIn b = false := by rfl) : EvT X H0 ρ (.Compare a [.NotIn] [b] pos) (!decide (i ∈ l)) :=
  evt_bin (fun _ _ h k => pt_cmpR op_notIn_seq h k hm) ha.toB hb fun x y σ H N Q r p q g => by
    obtain ⟨pp, vs, e, h1, h2⟩ := at_lst q
    rw [show l.map tx = (l.map SX.S).map Dat.str by rw [List.map_map]; rfl] at h2
    have e2 := ats_strs h2
    have e3 := at_str p
    subst e e2 e3
    exact ⟨pp, _, rfl, .inl h1, rfl, flat_strs (l.map SX.S), by rw [inV_strs]; exact goes_self g r (.bl _)⟩
theorem ev_ninL_str {i : List Nat} {l : List (List Nat)} (ha : Ev X H0 ρ a (tx i)) (hb : EvB X H0 ρ b (lstd tx l)) (hm : behindInMarks .NotIn b = false := by rfl) : Ev X H0 ρ (.Compare a [.NotIn] [b] pos) (.bl (!decide (i ∈ l))) :=
  ev_bin (fun _ _ h k => pe_cmpR op_notIn_seq h k hm) ha.toB hb fun x y σ H N Q r p q g => by
    obtain ⟨pp, vs, e, h1, h2⟩ := at_lst q
    rw [show l.map tx = (l.map SX.S).map Dat.str by rw [List.map_map]; rfl] at h2
    have e2 := ats_strs h2
    have e3 := at_str p
    subst e e2 e3
    exact ⟨pp, _, rfl, .inl h1, rfl, flat_strs (l.map SX.S), by rw [inV_strs]; exact goes_self g r (.bl _)⟩
theorem et_inT_int {i : Int} {l : List Int} (ha : Ev X H0 ρ a (.int i)) (hb : EvB X H0 ρ b (tpnd Dat.int l)) (hm : behindInMarks .In b = false := by rfl) : EvT X H0 ρ (.Compare a [.In] [b] pos) (decide (i ∈ l)) :=
  evt_bin (fun _ _ h k => pt_cmpR op_in_seq h k hm) ha.toB hb fun x y σ H N Q r p q g => by
    obtain ⟨pp, vs, e, h1, h2⟩ := at_seq q
    have e2 := Ats.ints h2
    have e3 := at_int p
    subst e e2 e3
    exact ⟨pp, _, rfl, .inr h1, rfl, flat_ints l, by rw [inV_ints]; exact goes_self g r (.bl _)⟩
theorem ev_inT_int {i : Int} {l : List Int} (ha : Ev X H0 ρ a (.int i)) (hb : EvB X H0 ρ b (tpnd Dat.int l)) (hm : behindInMarks .In b = false := by rfl) : Ev X H0 ρ (.Compare a [.In] [b] pos) (.bl (decide (i ∈ l))) :=
  ev_bin (fun _ _ h k => pe_cmpR op_in_seq h k hm) ha.toB hb fun x y σ H N Q r p q g => by
    obtain ⟨pp, vs, e, h1, h2⟩ := at_seq q
    have e2 := Ats.ints h2
    have e3 := at_int p
    subst e e2 e3
    exact ⟨pp, _, rfl, .inr h1, rfl, flat_ints l, by rw [inV_ints]; exact goes_self g r (.bl _)⟩
theorem et_ninT_int {i : Int} {l : List Int} (ha : Ev X H0 ρ a (.int i)) (hb : EvB X H0 ρ b (tpnd Dat.int l)) (hm : behindInMarks .NotIn b = false := by rfl) : EvT X H0 ρ (.Compare a [.NotIn] [b] pos) (!decide (i ∈ l)) :=
  evt_bin (fun _ _ h k => pt_cmpR op_notIn_seq h k hm) ha.toB hb fun x y σ H N Q r p q g => by
    obtain ⟨pp, vs, e, h1, h2⟩ := at_seq q
    have e2 := Ats.ints h2
    have e3 := at_int p
    subst e e2 e3
    exact ⟨pp, _, rfl, .inr h1, rfl, flat_ints l, by rw [inV_ints]; exact goes_self g r (.bl _)⟩
theorem ev_ninT_int {i : Int} {l : List Int} (ha : Ev X H0 ρ a (.int i)) (hb : EvB X H0 ρ b (tpnd Dat.int l)) (hm : behindInMarks .NotIn b = false := by rfl) : Ev X H0 ρ (.Compare a [.NotIn] [b] pos) (.bl (!decide (i ∈ l))) :=
  ev_bin (fun _ _ h k => pe_cmpR op_notIn_seq h k hm) ha.toB hb fun x y σ H N Q r p q g => by
    obtain ⟨pp, vs, e, h1, h2⟩ := at_seq q
    have e2 := Ats.ints h2
    have e3 := at_int p
    subst e e2 e3
    exact ⟨pp, _, rfl, .inr h1, rfl, flat_ints l, by rw [inV_ints]; exact goes_self g r (.bl _)⟩
theorem et_inT_str {i : List Nat} {l : List (List Nat)} (ha : Ev X H0 ρ a (tx i)) (hb : EvB X H0 ρ b (tpnd tx l)) (hm : behindInMarks .In b = false := by rfl) : EvT X H0 ρ (.Compare a [.In] [b] pos) (decide (i ∈ l)) :=
  evt_bin (fun _ _ h k => pt_cmpR op_in_seq h k hm) ha.toB hb fun x y σ H N Q r p q g => by
    obtain ⟨pp, vs, e, h1, h2⟩ := at_seq q
    rw [show l.map tx = (l.map SX.S).map Dat.str by rw [List.map_map]; rfl] at h2
    have e2 := ats_strs h2
    have e3 := at_str p
    subst e e2 e3
    exact ⟨pp, _, rfl, .inr h1, rfl, flat_strs (l.map SX.S), by rw [inV_strs]; exact goes_self g r (.bl _)⟩
theorem ev_inT_str {i : List Nat} {l : List (List Nat)} (ha : Ev X H0 ρ a (tx i)) (hb : EvB X H0 ρ b (tpnd tx l)) (hm : behindInMarks .In b = false := by rfl) : Ev X H0 ρ (.Compare a [.In] [b] pos) (.bl (decide (i ∈ l))) :=
  ev_bin (fun _ _ h k => pe_cmpR op_in_seq h k hm) ha.toB hb fun x y σ H N Q r p q g => by
    obtain ⟨pp, vs, e, h1, h2⟩ := at_seq q
    rw [show l.map tx = (l.map SX.S).map Dat.str by rw [List.map_map]; rfl] at h2
    have e2 := ats_strs h2
    have e3 := at_str p
    subst e e2 e3
    exact ⟨pp, _, rfl, .inr h1, rfl, flat_strs (l.map SX.S), by rw [inV_strs]; exact goes_self g r (.bl _)⟩
theorem et_ninT_str {i : List Nat} {l : List (List Nat)} (ha : Ev X H0 ρ a (tx i)) (hb : EvB X H0 ρ b (tpnd tx l)) (hm : behindInMarks .NotIn b = false := by rfl) : EvT X H0 ρ (.Compare a [.NotIn] [b] pos) (!decide (i ∈ l)) :=
  evt_bin (fun _ _ h k => pt_cmpR op_notIn_seq h k hm) ha.toB hb fun x y σ H N Q r p q g => by
    obtain ⟨pp, vs, e, h1, h2⟩ := at_seq q
    rw [show l.map tx = (l.map SX.S).map Dat.str by rw [List.map_map]; rfl] at h2
    have e2 := ats_strs h2
    have e3 := at_str p
    subst e e2 e3
    exact ⟨pp, _, rfl, .inr h1, rfl, flat_strs (l.map SX.S), by rw [inV_strs]; exact goes_self g r (.bl _)⟩
theorem ev_ninT_str {i : List Nat} {l : List (List Nat)} (ha : Ev X H0 ρ a (tx i)) (hb : EvB X H0 ρ b (tpnd tx l)) (hm : behindInMarks .NotIn b = false := by rfl) : Ev X H0 ρ (.Compare a [.NotIn] [b] pos) (.bl (!decide (i ∈ l))) :=
  ev_bin (fun _ _ h k => pe_cmpR op_notIn_seq h k hm) ha.toB hb fun x y σ H N Q r p q g => by
    obtain ⟨pp, vs, e, h1, h2⟩ := at_seq q
    rw [show l.map tx = (l.map SX.S).map Dat.str by rw [List.map_map]; rfl] at h2
    have e2 := ats_strs h2
    have e3 := at_str p
    subst e e2 e3
    exact ⟨pp, _, rfl, .inr h1, rfl, flat_strs (l.map SX.S), by rw [inV_strs]; exact goes_self g r (.bl _)⟩
end
end B

namespace B
open PySem PySem.Spec PyProof.Rows L2


def top (i : Nat) : Stmt := PySem.Challenge.pw_boughpress_k34_worth_by_a_tree.main.body.getD i (.Pass ⟨0, 0, 0, 0⟩)
abbrev s_checked : Stmt := top 7
abbrev n_checked : List Str := ["frame", "text", "sign"]
theorem sc_checked : FnScope n_checked ["frame", "text"] (defScope s_checked) := ⟨rfl, rfl, rfl, by decide +kernel, rfl, by decide +kernel, by decide +kernel⟩
abbrev s_signs_ahead : Stmt := top 9
abbrev n_signs_ahead : List Str := ["frame", "text", "at", "letters", "depth", "behind"]
theorem sc_signs_ahead : FnScope n_signs_ahead ["frame", "text", "at"] (defScope s_signs_ahead) := ⟨rfl, rfl, rfl, by decide +kernel, rfl, by decide +kernel, by decide +kernel⟩
abbrev s_elders : Stmt := top 10
abbrev n_elders : List Str := ["frame", "text", "at"]
theorem sc_elders : FnScope n_elders ["frame", "text", "at"] (defScope s_elders) := ⟨rfl, rfl, rfl, by decide +kernel, rfl, by decide +kernel, by decide +kernel⟩
abbrev s_greatest_divisor : Stmt := top 12
abbrev n_greatest_divisor : List Str := ["one", "other"]
theorem sc_greatest_divisor : FnScope n_greatest_divisor ["one", "other"] (defScope s_greatest_divisor) := ⟨rfl, rfl, rfl, by decide +kernel, rfl, by decide +kernel, by decide +kernel⟩
abbrev s_fraction : Stmt := top 13
abbrev n_fraction : List Str := ["top", "bottom", "many"]
theorem sc_fraction : FnScope n_fraction ["top", "bottom"] (defScope s_fraction) := ⟨rfl, rfl, rfl, by decide +kernel, rfl, by decide +kernel, by decide +kernel⟩
abbrev s_times : Stmt := top 14
abbrev n_times : List Str := ["one", "other"]
theorem sc_times : FnScope n_times ["one", "other"] (defScope s_times) := ⟨rfl, rfl, rfl, by decide +kernel, rfl, by decide +kernel, by decide +kernel⟩
abbrev s_odd_product : Stmt := top 16
abbrev n_odd_product : List Str := ["many", "found", "k"]
theorem sc_odd_product : FnScope n_odd_product ["many"] (defScope s_odd_product) := ⟨rfl, rfl, rfl, by decide +kernel, rfl, by decide +kernel, by decide +kernel⟩
abbrev s_worth : Stmt := top 17
abbrev n_worth : List Str := ["counts", "top", "many", "bottom", "k"]
theorem sc_worth : FnScope n_worth ["counts"] (defScope s_worth) := ⟨rfl, rfl, rfl, by decide +kernel, rfl, by decide +kernel, by decide +kernel⟩
abbrev s_is_bough : Stmt := top 19
abbrev n_is_bough : List Str := ["thing", "many", "left", "branch"]
theorem sc_is_bough : FnScope n_is_bough ["thing", "many", "left"] (defScope s_is_bough) := ⟨rfl, rfl, rfl, by decide +kernel, rfl, by decide +kernel, by decide +kernel⟩
abbrev s_is_tree : Stmt := top 20
abbrev n_is_tree : List Str := ["frame", "thing"]
theorem sc_is_tree : FnScope n_is_tree ["frame", "thing"] (defScope s_is_tree) := ⟨rfl, rfl, rfl, by decide +kernel, rfl, by decide +kernel, by decide +kernel⟩
abbrev s_need_tree : Stmt := top 21
abbrev n_need_tree : List Str := ["frame", "thing"]
theorem sc_need_tree : FnScope n_need_tree ["frame", "thing"] (defScope s_need_tree) := ⟨rfl, rfl, rfl, by decide +kernel, rfl, by decide +kernel, by decide +kernel⟩
abbrev s_leaf_size : Stmt := top 22
abbrev n_leaf_size : List Str := ["letters", "tree", "row", "size"]
theorem sc_leaf_size : FnScope n_leaf_size ["letters", "tree", "row"] (defScope s_leaf_size) := ⟨rfl, rfl, rfl, by decide +kernel, rfl, by decide +kernel, by decide +kernel⟩
abbrev s_worth_by : Stmt := top 23
abbrev n_worth_by : List Str := ["frame", "tree", "text", "some", "at", "row", "knot", "found", "letter"]
theorem sc_worth_by : FnScope n_worth_by ["frame", "tree", "text"] (defScope s_worth_by) := ⟨rfl, rfl, rfl, by decide +kernel, rfl, by decide +kernel, by decide +kernel⟩
abbrev s_law_cell_at : Stmt := top 25
abbrev n_law_cell_at : List Str := ["script", "k"]
theorem sc_law_cell_at : FnScope n_law_cell_at ["script", "k"] (defScope s_law_cell_at) := ⟨rfl, rfl, rfl, by decide +kernel, rfl, by decide +kernel, by decide +kernel⟩
abbrev s_law_signs : Stmt := top 26
abbrev n_law_signs : List Str := ["cell", "many", "some", "number", "found", "k", "at"]
theorem sc_law_signs : FnScope n_law_signs ["cell", "many"] (defScope s_law_signs) := ⟨rfl, rfl, rfl, by decide +kernel, rfl, by decide +kernel, by decide +kernel⟩
abbrev s_law_frame : Stmt := top 27
abbrev n_law_frame : List Str := ["cell", "many", "depth"]
theorem sc_law_frame : FnScope n_law_frame ["cell"] (defScope s_law_frame) := ⟨rfl, rfl, rfl, by decide +kernel, rfl, by decide +kernel, by decide +kernel⟩
abbrev s_law_cells : Stmt := top 28
abbrev n_law_cells : List Str := ["script", "many", "way", "most", "k"]
theorem sc_law_cells : FnScope n_law_cells ["script", "many"] (defScope s_law_cells) := ⟨rfl, rfl, rfl, by decide +kernel, rfl, by decide +kernel, by decide +kernel⟩
abbrev s_law_thing : Stmt := top 29
abbrev n_law_thing : List Str := ["thing", "kind", "many", "k"]
theorem sc_law_thing : FnScope n_law_thing ["thing", "kind", "many"] (defScope s_law_thing) := ⟨rfl, rfl, rfl, by decide +kernel, rfl, by decide +kernel, by decide +kernel⟩
abbrev s_law_tree : Stmt := top 30
abbrev n_law_tree : List Str := ["cells", "many", "depth", "place", "kind", "pile", "at", "placed", "branches"]
theorem sc_law_tree : FnScope n_law_tree ["cells", "many", "depth", "place", "kind"] (defScope s_law_tree) := ⟨rfl, rfl, rfl, by decide +kernel, rfl, by decide +kernel, by decide +kernel⟩
abbrev s_law_is : Stmt := top 31
abbrev n_law_is : List Str := ["thing", "many", "depth", "pile", "here", "left", "branch"]
theorem sc_law_is : FnScope n_law_is ["thing", "many", "depth"] (defScope s_law_is) := ⟨rfl, rfl, rfl, by decide +kernel, rfl, by decide +kernel, by decide +kernel⟩
abbrev s_law_text : Stmt := top 32
abbrev n_law_text : List Str := ["cells", "letters", "lean", "text", "cell", "pick"]
theorem sc_law_text : FnScope n_law_text ["cells", "letters", "lean"] (defScope s_law_text) := ⟨rfl, rfl, rfl, by decide +kernel, rfl, by decide +kernel, by decide +kernel⟩
abbrev s_law_elders : Stmt := top 33
abbrev n_law_elders : List Str := ["frame", "text", "at", "row", "k"]
theorem sc_law_elders : FnScope n_law_elders ["frame", "text", "at"] (defScope s_law_elders) := ⟨rfl, rfl, rfl, by decide +kernel, rfl, by decide +kernel, by decide +kernel⟩
abbrev s_law_whole : Stmt := top 34
abbrev n_law_whole : List Str := ["found"]
theorem sc_law_whole : FnScope n_law_whole ["found"] (defScope s_law_whole) := ⟨rfl, rfl, rfl, by decide +kernel, rfl, by decide +kernel, by decide +kernel⟩
abbrev s_law_divisor : Stmt := top 35
abbrev n_law_divisor : List Str := ["one", "other"]
theorem sc_law_divisor : FnScope n_law_divisor ["one", "other"] (defScope s_law_divisor) := ⟨rfl, rfl, rfl, by decide +kernel, rfl, by decide +kernel, by decide +kernel⟩
abbrev s_law_fraction : Stmt := top 36
abbrev n_law_fraction : List Str := ["found", "top", "bottom"]
theorem sc_law_fraction : FnScope n_law_fraction ["found", "top", "bottom"] (defScope s_law_fraction) := ⟨rfl, rfl, rfl, by decide +kernel, rfl, by decide +kernel, by decide +kernel⟩
abbrev s_law_spread : Stmt := top 37
abbrev n_law_spread : List Str := ["cells", "size", "found", "k", "again"]
theorem sc_law_spread : FnScope n_law_spread ["cells", "size"] (defScope s_law_spread) := ⟨rfl, rfl, rfl, by decide +kernel, rfl, by decide +kernel, by decide +kernel⟩
abbrev s_law_strange : Stmt := top 38
abbrev n_law_strange : List Str := ["letters", "cell", "some", "sign"]
theorem sc_law_strange : FnScope n_law_strange ["letters", "cell"] (defScope s_law_strange) := ⟨rfl, rfl, rfl, by decide +kernel, rfl, by decide +kernel, by decide +kernel⟩
abbrev s_law_bad : Stmt := top 39
abbrev n_law_bad : List Str := ["letters", "text", "cell", "at", "rest", "one", "other"]
theorem sc_law_bad : FnScope n_law_bad ["letters", "text", "cell"] (defScope s_law_bad) := ⟨rfl, rfl, rfl, by decide +kernel, rfl, by decide +kernel, by decide +kernel⟩
abbrev s_law_leaf : Stmt := top 40
abbrev n_law_leaf : List Str := ["frame", "tree", "row", "size"]
theorem sc_law_leaf : FnScope n_law_leaf ["frame", "tree", "row"] (defScope s_law_leaf) := ⟨rfl, rfl, rfl, by decide +kernel, rfl, by decide +kernel, by decide +kernel⟩
abbrev s_law_worth : Stmt := top 41
abbrev n_law_worth : List Str := ["frame", "tree", "text", "some", "top", "bottom", "at", "knot", "came"]
theorem sc_law_worth : FnScope n_law_worth ["frame", "tree", "text"] (defScope s_law_worth) := ⟨rfl, rfl, rfl, by decide +kernel, rfl, by decide +kernel, by decide +kernel⟩
abbrev s_law_kinds : Stmt := top 42
abbrev n_law_kinds : List Str := ["frame", "tree", "text", "kinds", "e"]
theorem sc_law_kinds : FnScope n_law_kinds ["frame", "tree", "text"] (defScope s_law_kinds) := ⟨rfl, rfl, rfl, by decide +kernel, rfl, by decide +kernel, by decide +kernel⟩
abbrev s_law_asked : Stmt := top 43
abbrev n_law_asked : List Str := ["frame", "thing", "text", "bad", "due"]
theorem sc_law_asked : FnScope n_law_asked ["frame", "thing", "text", "bad"] (defScope s_law_asked) := ⟨rfl, rfl, rfl, by decide +kernel, rfl, by decide +kernel, by decide +kernel⟩
abbrev s_law_told : Stmt := top 44
abbrev n_law_told : List Str := ["script", "letters", "cells", "way", "text"]
theorem sc_law_told : FnScope n_law_told ["script", "letters"] (defScope s_law_told) := ⟨rfl, rfl, rfl, by decide +kernel, rfl, by decide +kernel, by decide +kernel⟩
abbrev s_law : Stmt := top 45
abbrev n_law : List Str := ["script", "frame", "many", "cells", "cell", "tree", "wrong", "text", "bad", "thing"]
theorem sc_law : FnScope n_law ["script"] (defScope s_law) := ⟨rfl, rfl, rfl, by decide +kernel, rfl, by decide +kernel, by decide +kernel⟩
/-- what the top has left: the built-ins are what they were, the classes of errors stand -/
structure Txt (K : PySem.W.Frag) (mg : Str → Option Value) : Prop where
  b_ValueError : mg "ValueError" = none
  b_abs : mg "abs" = none
  b_bool : mg "bool" = none
  b_int : mg "int" = none
  b_isinstance : mg "isinstance" = none
  b_len : mg "len" = none
  b_list : mg "list" = none
  b_max : mg "max" = none
  b_range : mg "range" = none
  b_sum : mg "sum" = none
  b_tuple : mg "tuple" = none
  e_NoPlace : Exc K mg "NoPlace"
  e_NoFraction : Exc K mg "NoFraction"
  e_NoTree : Exc K mg "NoTree"
  e_NoText : Exc K mg "NoText"
  x_NoPlace : ∃ C, ExcX K mg "NoPlace" [("PressError", true), ("NoFraction", false), ("NoText", false), ("NoPlace", true), ("NoTree", false)] C
  x_NoFraction : ∃ C, ExcX K mg "NoFraction" [("PressError", true), ("NoFraction", true), ("NoText", false), ("NoPlace", false), ("NoTree", false)] C
  x_NoTree : ∃ C, ExcX K mg "NoTree" [("PressError", true), ("NoFraction", false), ("NoText", false), ("NoPlace", false), ("NoTree", true)] C
  x_NoText : ∃ C, ExcX K mg "NoText" [("PressError", true), ("NoFraction", false), ("NoText", true), ("NoPlace", false), ("NoTree", false)] C
noncomputable def m_checked (frame_ : ((List Nat) × Int)) (text_ : List Nat) : M (List Nat) :=
  M.bind (forM (fun (x1 : Nat) (s2 : Unit) => (
    M.bind (if (!(decide (x1 ∈ frame_.1))) = true then (
      .ex "NoText"
    ) else (
      .ok ()
    )) fun (s3 : Unit) =>
    .ok ()
  )) text_ ()) fun (s2 : Unit) =>
  .ok text_
noncomputable def m_signs_ahead (frame_ : ((List Nat) × Int)) (text_ : List Nat) (at_ : Int) : M (List Nat) :=
  M.lt (frame_ : ((List Nat) × Int)) fun q1 =>
  M.gd (lenOk q1.1) <|
  M.bind (M.ofO (atI q1.1 (0 : Int))) fun r3 =>
  M.gd (repOk [r3] q1.2) <|
  M.gd (lenOk text_) <|
  M.gd (catOk (repS [r3] q1.2) (cut text_ (some (max (0 : Int) (at_ - q1.2))) (some at_))) <|
  M.lt (((repS [r3] q1.2) ++ (cut text_ (some (max (0 : Int) (at_ - q1.2))) (some at_))) : List Nat) fun behind_ =>
  M.gd (lenOk behind_) <|
  M.gd (lenOk (behind_).reverse) <|
  .ok (cut (behind_).reverse none (some q1.2))
noncomputable def m_elders (frame_ : ((List Nat) × Int)) (text_ : List Nat) (at_ : Int) : M (List Nat) :=
  M.bind (m_checked frame_ text_) fun _ =>
  M.bind (M.nox (if (decide (at_ < (0 : Int))) = true then M.ok true else (M.gd (lenOk text_) <| .ok (decide (((text_).length : Int) < at_))))) fun r2 =>
  if r2 = true then (
    .ex "NoPlace"
  ) else
  M.bind (m_signs_ahead frame_ text_ at_) fun r => .ok r
noncomputable def m_greatest_divisor (one_ : Int) (other_ : Int) : M Int :=
  M.lt (((one_).natAbs : Int) : Int) fun one_ =>
  M.lt (((other_).natAbs : Int) : Int) fun other_ =>
  M.bind (whileM (fun (s1 : Int × Int) => .ok ((!decide (s1.2 = (0 : Int))))) (fun (s1 : Int × Int) => (
    M.gd (decide (0 < s1.2)) <|
    M.lt ((s1.2, (s1.1 % s1.2)) : Int × Int) fun q3 =>
    .ok (q3.1, q3.2)
  )) ((other_).natAbs + 2) (one_, other_)) fun (s1 : Int × Int) =>
  .ok s1.1
noncomputable def m_fraction (top_ : Int) (bottom_ : Int) : M (Int × Int) :=
  if (decide (bottom_ = (0 : Int))) = true then (
    .ex "NoFraction"
  ) else
  M.bind (m_greatest_divisor top_ bottom_) fun many_ =>
  M.bind (if (decide (bottom_ < (0 : Int))) = true then (
    M.lt ((-many_) : Int) fun many_ =>
    .ok many_
  ) else (
    .ok many_
  )) fun (s1 : Int) =>
  M.gd (fdivOk s1) <|
  M.gd (fdivOk s1) <|
  .ok ((Int.fdiv top_ s1), (Int.fdiv bottom_ s1))
noncomputable def m_times (one_ : (Int × Int)) (other_ : (Int × Int)) : M (Int × Int) :=
  M.gd (mulOk one_.1 other_.1) <|
  M.gd (mulOk one_.2 other_.2) <|
  M.bind (m_fraction (one_.1 * other_.1) (one_.2 * other_.2)) fun r => .ok r
noncomputable def m_odd_product (many_ : Int) : M Int :=
  M.lt ((1 : Int) : Int) fun found_ =>
  M.gd (rngOk 0 many_) <|
  M.bind (forM (fun (x2 : Int) (s4 : Int) => (
    M.gd (mulOk s4 (((2 : Int) * x2) + (1 : Int))) <|
    M.lt ((s4 * (((2 : Int) * x2) + (1 : Int))) : Int) fun found_ =>
    .ok found_
  )) (rng 0 1 (many_).toNat) found_) fun (s4 : Int) =>
  .ok s4
noncomputable def m_worth (counts_ : (List Int)) : M (Int × Int) :=
  M.lt ((1 : Int) : Int) fun top_ =>
  M.bind (forM (fun (x1 : Int) (s2 : Int) => (
    M.bind (M.nox (m_odd_product x1)) fun r3 =>
    M.gd (mulOk s2 r3) <|
    M.lt ((s2 * r3) : Int) fun top_ =>
    .ok top_
  )) counts_ top_) fun (s2 : Int) =>
  M.lt ((1 : Int) : Int) fun bottom_ =>
  M.gd (rngOk 0 (counts_).sum) <|
  M.bind (forM (fun (x7 : Int) (s9 : Int) => (
    M.gd (mulOk s9 (((2 : Int) * x7) + ((counts_).length : Int))) <|
    M.lt ((s9 * (((2 : Int) * x7) + ((counts_).length : Int))) : Int) fun bottom_ =>
    .ok bottom_
  )) (rng 0 1 ((counts_).sum).toNat) bottom_) fun (s9 : Int) =>
  M.bind (m_fraction s2 s9) fun r => .ok r
noncomputable def m_is_bough : Nat → Dat → Int → Int → M Bool
  | 0, _, _, _ => .far
  | lv + 1, thing_, many_, left_ =>
    if (isNon (idd thing_)) = true then (
      .ok true
    ) else
    M.bind (M.nox (if (!(isTup (idd thing_))) = true then M.ok true else (M.bind (M.nox (if (decide (left_ = (0 : Int))) = true then M.ok true else (M.bind (M.ofO (dlen thing_)) fun r1 => .ok (!decide ((r1 : Int) = many_))))) fun r3 => .ok r3))) fun r5 =>
    if r5 = true then (
      .ok false
    ) else
    M.bind (M.ofO (tupOf thing_)) fun r10 =>
    M.seqT (forF 
    (fun (x9 : Dat) (s12 : Unit) => (
      M.bind (M.nox (m_is_bough lv x9 many_ (left_ - (1 : Int)))) fun r13 =>
      M.seq (if (!r13) = true then (
        .ok (.rt false)
      ) else (
        .ok (.nx ())
      ) : M (Fl Unit Unit Bool)) fun (s15 : Unit) =>
      .ok (.nx ())
    )) r10 () : M (Fl Unit Unit Bool)) fun (s12 : Unit) =>
    .ok true
noncomputable def m_is_tree (frame_ : ((List Nat) × Int)) (thing_ : Dat) : M Bool :=
  M.gd (lenOk frame_.1) <|
  M.bind (m_is_bough 8 thing_ ((frame_.1).length : Int) frame_.2) fun r => .ok r
noncomputable def m_need_tree (frame_ : ((List Nat) × Int)) (thing_ : Dat) : M Tr :=
  M.bind (M.nox (m_is_tree frame_ thing_)) fun r1 =>
  if (!r1) = true then (
    .ex "NoTree"
  ) else
  M.bind (M.ofO (trOf thing_)) fun r3 =>
  .ok r3
noncomputable def m_leaf_size (letters_ : List Nat) (tree_ : Tr) (row_ : List Nat) : M Int :=
  M.lt ((0 : Int) : Int) fun size_ =>
  M.bind (whileM (fun (s1 : Tr × Int) => .ok ((!(isLf s1.1)))) (fun (s1 : Tr × Int) => (
    M.bind (M.ofO (kid s1.1)) fun r2 =>
    M.gd (lenOk row_) <|
    M.bind (M.ofO (atI row_ s1.2)) fun r5 =>
    M.bind (M.ofO (atI r2 (fndX letters_ [r5]))) fun r7 =>
    M.lt (r7 : Tr) fun tree_ =>
    M.lt (s1.2 + (1 : Int)) fun size_ =>
    .ok (tree_, size_)
  )) (100000) (tree_, size_)) fun (s1 : Tr × Int) =>
  .ok s1.2
noncomputable def m_worth_by (frame_ : ((List Nat) × Int)) (tree_ : Dat) (text_ : List Nat) : M (Int × Int) :=
  M.bind (m_need_tree frame_ tree_) fun _ =>
  M.bind (m_checked frame_ text_) fun _ =>
  M.lt ([] : (List (List Nat × (List Int)))) fun _ =>
  M.gd (lenOk text_) <|
  M.gd (rngOk 0 ((text_).length : Int)) <|
  M.bind (forM (fun (x3 : Int) (s4 : (List (List Nat × (List Int)))) => (
    M.bind (M.bind (m_elders frame_ text_ x3) fun row_ => .ok row_) fun row_ =>
    M.bind (M.ofO (trOf tree_)) fun r5 =>
    M.bind (M.nox (m_leaf_size frame_.1 r5 row_)) fun r7 =>
    M.gd (lenOk row_) <|
    M.bind (M.lt ((cut row_ none (some r7)) : List Nat) fun knot_ => .ok knot_) fun knot_ =>
    M.bind (if (!dhas s4 knot_) = true then (
      M.gd (lenLt frame_.1) <|
      M.bind (M.nox (compM (fun _ => .ok true) (fun letter_ => .ok ((0 : Int))) frame_.1)) fun r12 =>
      M.gd (lenLt s4) <|
      M.gd (!dhas s4 knot_) <|
      M.lt (s4 ++ [(knot_, r12)]) fun some_ =>
      .ok some_
    ) else (
      .ok s4
    )) fun (s10 : (List (List Nat × (List Int)))) =>
    M.bind (M.ofO (dget s10 knot_)) fun r16 =>
    M.gd (lenOk text_) <|
    M.bind (M.ofO (atI text_ x3)) fun r19 =>
    M.gd (decide (0 ≤ (fndX frame_.1 [r19]))) <|
    M.bind (M.ofO (atI r16 (fndX frame_.1 [r19]))) fun r22 =>
    M.bind (M.ofO (setI r16 (fndX frame_.1 [r19]) (r22 + (1 : Int)))) fun r24 =>
    M.lt (dset s10 knot_ r24) fun some_ =>
    .ok some_
  )) (rng 0 1 (((text_).length : Int)).toNat) ([] : (List (List Nat × (List Int))))) fun (s4 : (List (List Nat × (List Int)))) =>
  M.lt (((1 : Int), (1 : Int)) : (Int × Int)) fun found_ =>
  M.bind (M.nox (forM (fun (x26 : List Nat) (s27 : (Int × Int)) => (
    M.bind (M.ofO (dget s4 x26)) fun r28 =>
    M.bind (M.nox (m_worth r28)) fun r30 =>
    M.bind (m_times s27 r30) fun found_ =>
    .ok found_
  )) ((s4).map (·.1)) found_)) fun (s27 : (Int × Int)) =>
  .ok s27
noncomputable def m_law_cell_at (script_ : (List Int)) (k_ : Int) : M Int :=
  if (decide (k_ < ((script_).length : Int))) = true then (
    M.bind (M.ofO (atI script_ k_)) fun r1 =>
    .ok r1
  ) else
  .ok (0 : Int)
def txt0 : List Nat := [32, 33, 34, 35, 36, 38, 39, 40, 41, 42, 43, 44, 45, 46, 47, 48, 49, 50, 51, 52, 53, 54, 55, 56, 57, 58, 59, 60, 61, 62, 63, 64, 65, 66, 67, 68, 69, 70, 71, 72, 73, 74, 75, 76, 77, 78, 79, 80, 81, 82, 83, 84, 85, 86, 87, 88, 89, 90, 91, 92, 93, 94, 95, 96]
def txt1 : List Nat := [97, 98, 99, 100, 101, 102, 103, 104, 105, 106, 107, 108, 109, 110, 111, 112, 113, 114, 115, 116, 117, 118, 119, 120, 121, 122, 123, 124, 125, 126]
noncomputable def m_law_signs (cell_ : Int) (many_ : Int) : M (List Nat) :=
  M.lt (txt0 : List Nat) fun some_ =>
  M.gd (catOk some_ txt1) <|
  M.lt ((some_ ++ txt1) : List Nat) fun some_ =>
  M.lt ((cell_ / (2 : Int)) : Int) fun number_ =>
  M.bind (if (decide ((cell_ % (2 : Int)) = (1 : Int))) = true then (
    M.gd (mulOk number_ (755025238823861643209264527426574067654365331163161167985785434308279504849166858912194103233288234579318044655171871211416828048690375574609316503041 : Int)) <|
    M.lt (((number_ * (755025238823861643209264527426574067654365331163161167985785434308279504849166858912194103233288234579318044655171871211416828048690375574609316503041 : Int)) + (48271 : Int)) : Int) fun number_ =>
    .ok number_
  ) else (
    .ok number_
  )) fun (s2 : Int) =>
  M.lt (([] : List Nat) : List Nat) fun found_ =>
  M.gd (rngOk 0 many_) <|
  M.bind (forM (fun (x5 : Int) (s7 : (List Nat) × Int × (List Nat)) => (
    M.gd (lenOk s7.1) <|
    M.gd (decide (0 < ((s7.1).length : Int))) <|
    M.lt ((s7.2.1 % ((s7.1).length : Int)) : Int) fun at_ =>
    M.gd (lenOk s7.1) <|
    M.gd (divOk ((s7.1).length : Int)) <|
    M.lt ((s7.2.1 / ((s7.1).length : Int)) : Int) fun number_ =>
    M.gd (lenOk s7.1) <|
    M.bind (M.ofO (atI s7.1 at_)) fun r13 =>
    M.gd (catOk s7.2.2 [r13]) <|
    M.lt ((s7.2.2 ++ [r13]) : List Nat) fun found_ =>
    M.gd (lenOk s7.1) <|
    M.gd (lenOk s7.1) <|
    M.gd (catOk (cut s7.1 none (some at_)) (cut s7.1 (some (at_ + (1 : Int))) none)) <|
    M.lt (((cut s7.1 none (some at_)) ++ (cut s7.1 (some (at_ + (1 : Int))) none)) : List Nat) fun some_ =>
    .ok (some_, number_, found_)
  )) (rng 0 1 (many_).toNat) (some_, s2, found_)) fun (s7 : (List Nat) × Int × (List Nat)) =>
  .ok s7.2.2
noncomputable def m_law_frame (cell_ : Int) : M ((List Nat) × Int) :=
  M.lt (((2 : Int) + (cell_ % (5 : Int))) : Int) fun many_ =>
  M.bind (M.ofO (atI [(2 : Int), (3 : Int), (1 : Int), (0 : Int), (2 : Int), (3 : Int), (4 : Int), (1 : Int), (5 : Int), (6 : Int)] ((cell_ / (5 : Int)) % (10 : Int)))) fun r1 =>
  M.lt (r1 : Int) fun depth_ =>
  M.bind (M.nox (m_law_signs (cell_ / (50 : Int)) many_)) fun r3 =>
  .ok (r3, depth_)
noncomputable def m_law_cells (script_ : (List Int)) (many_ : Int) : M (List Int) :=
  M.bind (M.nox (m_law_cell_at script_ (1 : Int))) fun r1 =>
  M.lt (((r1 / (2 : Int)) % (8 : Int)) : Int) fun way_ =>
  M.gd (divOk many_) <|
  M.lt (((990 : Int) / many_) : Int) fun most_ =>
  if (decide (way_ = (3 : Int))) = true then (
    M.bind (M.nox (m_law_cell_at script_ (1 : Int))) fun r4 =>
    M.gd (decide (0 < (most_ + (1 : Int)))) <|
    M.gd (rngOk 0 ((r4 / (16 : Int)) % (most_ + (1 : Int)))) <|
    M.gd (lenLt (rng 0 1 (((r4 / (16 : Int)) % (most_ + (1 : Int)))).toNat)) <|
    M.bind (M.nox (compM (fun _ => .ok true) (fun k_ => .ok ((1 : Int))) (rng 0 1 (((r4 / (16 : Int)) % (most_ + (1 : Int)))).toNat))) fun r9 =>
    .ok r9
  ) else
  if (decide (way_ = (5 : Int))) = true then (
    M.gd (repOk (cut script_ (some (3 : Int)) (some (63 : Int))) (17 : Int)) <|
    M.bind (M.nox (m_law_cell_at script_ (1 : Int))) fun r12 =>
    M.gd (decide (0 < (most_ + (1 : Int)))) <|
    .ok (cut (repS (cut script_ (some (3 : Int)) (some (63 : Int))) (17 : Int)) none (some ((r12 / (16 : Int)) % (most_ + (1 : Int)))))
  ) else
  .ok (cut script_ (some (3 : Int)) (some (63 : Int)))
noncomputable def m_law_thing (thing_ : Tr) (kind_ : Int) (many_ : Int) : M Dat :=
  if (decide (kind_ = (0 : Int))) = true then (
    M.gd (rngOk 0 many_) <|
    M.gd (lenLt (rng 0 1 (many_).toNat)) <|
    M.bind (M.nox (compM (fun _ => .ok true) (fun k_ => .ok (())) (rng 0 1 (many_).toNat))) fun r3 =>
    .ok ((lstd nond) r3)
  ) else
  if (decide (kind_ = (1 : Int))) = true then (
    M.gd (rngOk 0 (many_ + (1 : Int))) <|
    M.gd (lenLt (rng 0 1 ((many_ + (1 : Int))).toNat)) <|
    M.bind (M.nox (compM (fun _ => .ok true) (fun k_ => .ok (())) (rng 0 1 ((many_ + (1 : Int))).toNat))) fun r7 =>
    .ok ((tpnd nond) r7)
  ) else
  if (decide (kind_ = (2 : Int))) = true then (
    M.gd (rngOk 0 (many_ - (1 : Int))) <|
    M.gd (lenLt (rng 0 1 ((many_ - (1 : Int))).toNat)) <|
    M.bind (M.nox (compM (fun _ => .ok true) (fun k_ => .ok (())) (rng 0 1 ((many_ - (1 : Int))).toNat))) fun r11 =>
    .ok ((tpnd nond) r11)
  ) else
  if (decide (kind_ = (3 : Int))) = true then (
    M.gd (rngOk 0 many_) <|
    M.gd (lenLt (rng 0 1 (many_).toNat)) <|
    M.bind (M.nox (compM (fun _ => .ok true) (fun k_ => .ok (())) (rng 0 1 (many_).toNat))) fun r15 =>
    .ok ((tpnd nond) r15)
  ) else
  if ((decide (kind_ = (4 : Int))) && (!(isLf thing_))) = true then (
    M.bind (M.ofO (kid thing_)) fun r17 =>
    .ok ((lstd trd) r17)
  ) else
  M.gd (repOk ([46] : List Nat) many_) <|
  M.bind (M.ofO (atI [(Dat.bl false), (Dat.tup []), (tx ([46] : List Nat)), (Dat.int (0 : Int)), (Dat.bl true), (tx ([] : List Nat)), ((lstd Dat.int) []), ((dicd Dat.int) []), (Dat.int (7 : Int)), (tx ([40, 46, 46, 41] : List Nat)), (tx (repS ([46] : List Nat) many_)), (Dat.int (-1 : Int))] (kind_ - (4 : Int)))) fun r20 =>
  .ok r20
noncomputable def m_law_tree (cells_ : (List Int)) (many_ : Int) (depth_ : Int) (place_ : Int) (kind_ : Int) : M Dat :=
  M.bind (M.lt ((0 : Int) : Int) fun at_ => .ok at_) fun at_ =>
  M.bind (M.lt ((0 : Int) : Int) fun placed_ => .ok placed_) fun placed_ =>
  M.bind (whileM (fun (s1 : (List (List Dat)) × Int × Int) => M.bind (M.ofO (atI s1.1 (0 : Int))) fun r2 => .ok (((r2).isEmpty))) (fun (s1 : (List (List Dat)) × Int × Int) => (
    M.bind (M.nox (if (decide (((s1.1).length : Int) ≤ depth_)) = true then (M.bind (M.nox (if (decide (s1.2.1 < ((cells_).length : Int))) = true then (M.bind (M.ofO (atI cells_ s1.2.1)) fun r4 => .ok (decide ((0 : Int) < (r4 % (3 : Int))))) else M.ok false)) fun r6 => .ok r6) else M.ok false)) fun r8 =>
    M.bind (if r8 = true then (
      M.gd (lenLt s1.1) <|
      M.lt (s1.1 ++ [[]]) fun pile_ =>
      .ok (pile_, s1.2.2)
    ) else (
      M.bind (M.ofO ((s1.1).getLast?)) fun r12 =>
      M.gd (lenLt r12) <|
      M.lt ((s1.1).dropLast ++ [r12 ++ [(nond ())]]) fun pile_ =>
      M.bind (if (decide (s1.2.2 = place_)) = true then (
        M.bind (M.ofO ((pile_).getLast?)) fun r16 =>
        M.bind (M.nox (m_law_thing Tr.leaf kind_ many_)) fun r18 =>
        M.bind (M.ofO (setI r16 (-1) r18)) fun r20 =>
        M.lt ((pile_).dropLast ++ [r20]) fun pile_ =>
        .ok pile_
      ) else (
        .ok pile_
      )) fun (s15 : (List (List Dat))) =>
      M.bind (M.lt ((s1.2.2 + (1 : Int)) : Int) fun placed_ => .ok placed_) fun placed_ =>
      .ok (s15, placed_)
    )) fun (s10 : (List (List Dat)) × Int) =>
    M.bind (M.lt ((s1.2.1 + (1 : Int)) : Int) fun at_ => .ok at_) fun at_ =>
    M.bind (whileM (fun (s22 : (List (List Dat)) × Int) => M.bind (M.nox (if (decide ((1 : Int) < ((s22.1).length : Int))) = true then (M.bind (M.ofO (atI s22.1 (-1 : Int))) fun r23 => .ok (decide (((r23).length : Int) = many_))) else M.ok false)) fun r25 => .ok (r25)) (fun (s22 : (List (List Dat)) × Int) => (
      M.bind (M.ofO ((s22.1).getLast?)) fun r27 =>
      M.lt (r27, (s22.1).dropLast) fun q29 =>
      M.bind (M.ofO ((q29.2).getLast?)) fun r30 =>
      M.gd (lenLt r30) <|
      M.lt ((q29.2).dropLast ++ [r30 ++ [(Dat.tup q29.1)]]) fun pile_ =>
      M.bind (if (decide (s22.2 = place_)) = true then (
        M.bind (M.ofO ((pile_).getLast?)) fun r34 =>
        M.bind (M.ofO (trOf (Dat.tup q29.1))) fun r36 =>
        M.bind (M.nox (m_law_thing r36 kind_ many_)) fun r38 =>
        M.bind (M.ofO (setI r34 (-1) r38)) fun r40 =>
        M.lt ((pile_).dropLast ++ [r40]) fun pile_ =>
        .ok pile_
      ) else (
        .ok pile_
      )) fun (s33 : (List (List Dat))) =>
      M.bind (M.lt ((s22.2 + (1 : Int)) : Int) fun placed_ => .ok placed_) fun placed_ =>
      .ok (s33, placed_)
    )) (100000) (s10.1, s10.2)) fun (s22 : (List (List Dat)) × Int) =>
    .ok (s22.1, at_, s22.2)
  )) (100000) (([[]] : (List (List Dat))), at_, placed_)) fun (s1 : (List (List Dat)) × Int × Int) =>
  M.bind (M.ofO (atI s1.1 (0 : Int))) fun r42 =>
  M.bind (M.ofO (atI r42 (0 : Int))) fun r44 =>
  .ok r44
noncomputable def m_law_is (thing_ : Dat) (many_ : Int) (depth_ : Int) : M Bool :=
  M.lt ([(thing_, depth_)] : (List (Dat × Int))) fun pile_ =>
  M.seqT (whileF 
  (fun (s1 : (List (Dat × Int))) => .ok ((!(s1).isEmpty))) (fun (s1 : (List (Dat × Int))) => (
    M.bind (M.ofO ((s1).getLast?)) fun r2 =>
    M.lt ((s1).dropLast, r2) fun q4 =>
    M.seq (if (!isNon (idd q4.2.1)) = true then (
      M.bind (M.nox (if (!(isTup (idd q4.2.1))) = true then M.ok true else (M.bind (M.nox (if (decide (q4.2.2 = (0 : Int))) = true then M.ok true else (M.bind (M.ofO (dlen q4.2.1)) fun r6 => .ok (!decide ((r6 : Int) = many_))))) fun r8 => .ok r8))) fun r10 =>
      M.seq (if r10 = true then (
        .ok (.rt false)
      ) else (
        .ok (.nx ())
      ) : M (Fl Unit (List (Dat × Int)) Bool)) fun (s12 : Unit) =>
      M.bind (M.ofO (tupOf q4.2.1)) fun r16 =>
      M.bind (forM (fun (x15 : Dat) (s18 : (List (Dat × Int))) => (
        M.gd (lenLt s18) <|
        M.lt (s18 ++ [(x15, (q4.2.2 - (1 : Int)))]) fun pile_ =>
        .ok pile_
      )) r16 q4.1) fun (s18 : (List (Dat × Int))) =>
      .ok (.nx s18)
    ) else (
      .ok (.nx q4.1)
    ) : M (Fl (List (Dat × Int)) (List (Dat × Int)) Bool)) fun (s5 : (List (Dat × Int))) =>
    .ok (.nx s5)
  )) (100000) pile_ : M (Fl (List (Dat × Int)) (List (Dat × Int)) Bool)) fun (s1 : (List (Dat × Int))) =>
  .ok true
noncomputable def m_law_text (cells_ : (List Int)) (letters_ : List Nat) (lean_ : Bool) : M (List Nat) :=
  M.lt (([] : List Nat) : List Nat) fun text_ =>
  M.bind (forM (fun (x1 : Int) (s2 : List Nat) => (
    M.lt ((x1 / (3 : Int)) : Int) fun pick_ =>
    M.bind (M.nox (if lean_ = true then (M.gd (lenOk s2) <| .ok ((decide ((2 : Int) < ((s2).length : Int))) && (decide ((0 : Int) < (pick_ % (4 : Int)))))) else M.ok false)) fun r4 =>
    M.bind (if r4 = true then (
      M.gd (lenOk s2) <|
      M.bind (M.ofO (atI s2 ((-1 : Int) - ((pick_ / (4 : Int)) % (3 : Int))))) fun r8 =>
      M.gd (catOk s2 [r8]) <|
      M.lt ((s2 ++ [r8]) : List Nat) fun text_ =>
      .ok text_
    ) else (
      M.gd (lenOk letters_) <|
      M.gd (decide (0 < ((letters_).length : Int))) <|
      M.gd (lenOk letters_) <|
      M.bind (M.ofO (atI letters_ ((pick_ / (4 : Int)) % ((letters_).length : Int)))) fun r14 =>
      M.gd (catOk s2 [r14]) <|
      M.lt ((s2 ++ [r14]) : List Nat) fun text_ =>
      .ok text_
    )) fun (s6 : List Nat) =>
    .ok s6
  )) cells_ text_) fun (s2 : List Nat) =>
  .ok s2
noncomputable def m_law_elders (frame_ : ((List Nat) × Int)) (text_ : List Nat) (at_ : Int) : M (List Nat) :=
  M.lt (([] : List Nat) : List Nat) fun row_ =>
  M.gd (rngOk 0 frame_.2) <|
  M.bind (forM (fun (x2 : Int) (s4 : List Nat) => (
    M.bind (if (decide (x2 < at_)) = true then (
      M.gd (lenOk text_) <|
      M.bind (M.ofO (atI text_ ((at_ - (1 : Int)) - x2))) fun r7 =>
      M.gd (catOk s4 [r7]) <|
      M.lt ((s4 ++ [r7]) : List Nat) fun row_ =>
      .ok row_
    ) else (
      M.gd (lenOk frame_.1) <|
      M.bind (M.ofO (atI frame_.1 (0 : Int))) fun r11 =>
      M.gd (catOk s4 [r11]) <|
      M.lt ((s4 ++ [r11]) : List Nat) fun row_ =>
      .ok row_
    )) fun (s5 : List Nat) =>
    .ok s5
  )) (rng 0 1 (frame_.2).toNat) row_) fun (s4 : List Nat) =>
  .ok s4
noncomputable def m_law_whole (found_ : Int) : M Bool :=
  .ok (true && (!false))
noncomputable def m_law_divisor (one_ : Int) (other_ : Int) : M Int :=
  M.bind (whileM (fun (s1 : Int × Int) => .ok ((!decide (s1.2 = (0 : Int))))) (fun (s1 : Int × Int) => (
    M.gd (decide (0 < s1.2)) <|
    M.lt ((s1.2, (s1.1 % s1.2)) : Int × Int) fun q3 =>
    .ok (q3.1, q3.2)
  )) ((other_).natAbs + 2) (one_, other_)) fun (s1 : Int × Int) =>
  .ok s1.1
noncomputable def m_law_fraction (found_ : (Int × Int)) (top_ : Int) (bottom_ : Int) : M Bool :=
  M.bind (M.nox (if (!true) = true then M.ok true else (M.bind (M.nox (if (!decide ((2 : Int) = (2 : Int))) = true then M.ok true else (M.bind (M.nox (m_law_whole found_.1)) fun r1 => M.bind (M.nox (if (!r1) = true then M.ok true else (M.bind (M.nox (m_law_whole found_.2)) fun r3 => .ok (!r3)))) fun r5 => .ok r5))) fun r7 => .ok r7))) fun r9 =>
  if r9 = true then (
    .ok false
  ) else
  M.bind (M.nox (if (decide (found_.1 < (1 : Int))) = true then M.ok true else (M.bind (M.nox (if (decide (found_.2 < (1 : Int))) = true then M.ok true else (M.gd (mulOk found_.1 bottom_) <| M.gd (mulOk top_ found_.2) <| .ok (!decide ((found_.1 * bottom_) = (top_ * found_.2)))))) fun r13 => .ok r13))) fun r15 =>
  if r15 = true then (
    .ok false
  ) else
  M.bind (M.nox (m_law_divisor found_.1 found_.2)) fun r17 =>
  .ok (decide (r17 = (1 : Int)))
noncomputable def m_law_spread (cells_ : (List Int)) (size_ : Int) : M (List Int) :=
  M.lt ([] : (List Int)) fun found_ =>
  M.gd (rngOk 0 size_) <|
  M.bind (forM (fun (x2 : Int) (s4 : (List Int)) => (
    M.gd (divOk ((cells_).length : Int)) <|
    M.lt ((x2 / ((cells_).length : Int)) : Int) fun again_ =>
    M.gd (decide (0 < ((cells_).length : Int))) <|
    M.bind (M.ofO (atI cells_ (x2 % ((cells_).length : Int)))) fun r7 =>
    M.gd (divOk ((1 : Int) + ((18 : Int) * again_))) <|
    M.gd (lenLt s4) <|
    M.lt (s4 ++ [((r7 / ((1 : Int) + ((18 : Int) * again_))) + ((3 : Int) * again_))]) fun found_ =>
    .ok found_
  )) (rng 0 1 (size_).toNat) found_) fun (s4 : (List Int)) =>
  .ok s4
noncomputable def m_law_strange (letters_ : List Nat) (cell_ : Int) : M (List Nat) :=
  M.lt (txt0 : List Nat) fun some_ =>
  M.gd (catOk some_ txt1) <|
  M.lt ((some_ ++ txt1) : List Nat) fun some_ =>
  M.gd (lenLt some_) <|
  M.bind (M.nox (compM (fun sign_ => .ok ((!(decide (sign_ ∈ letters_))))) (fun sign_ => .ok (sign_)) some_)) fun r3 =>
  M.gd (joinOkC ([] : List Nat) r3) <|
  M.lt ((joinC ([] : List Nat) r3) : List Nat) fun some_ =>
  M.gd (lenOk some_) <|
  M.gd (decide (0 < ((some_).length : Int))) <|
  M.gd (lenOk some_) <|
  M.bind (M.ofO (atI some_ (cell_ % ((some_).length : Int)))) fun r9 =>
  .ok [r9]
noncomputable def m_law_bad (letters_ : List Nat) (text_ : List Nat) (cell_ : Int) : M (List Nat) :=
  M.gd (lenOk text_) <|
  M.gd (decide (0 < (((text_).length : Int) + (1 : Int)))) <|
  M.lt ((cell_ % (((text_).length : Int) + (1 : Int))) : Int) fun at_ =>
  M.lt ((cell_ / (101 : Int)) : Int) fun rest_ =>
  M.bind (m_law_strange letters_ (rest_ / (4 : Int))) fun one_ =>
  M.bind (m_law_strange letters_ (rest_ / (400 : Int))) fun other_ =>
  if (decide ((rest_ % (4 : Int)) = (0 : Int))) = true then (
    M.gd (lenOk text_) <|
    M.gd (catOk (cut text_ none (some at_)) one_) <|
    M.gd (lenOk text_) <|
    M.gd (catOk ((cut text_ none (some at_)) ++ one_) (cut text_ (some at_) none)) <|
    .ok (((cut text_ none (some at_)) ++ one_) ++ (cut text_ (some at_) none))
  ) else
  if (decide ((rest_ % (4 : Int)) = (1 : Int))) = true then (
    M.gd (lenOk text_) <|
    M.gd (catOk (cut text_ none (some at_)) one_) <|
    M.gd (catOk ((cut text_ none (some at_)) ++ one_) other_) <|
    M.gd (lenOk text_) <|
    M.gd (catOk (((cut text_ none (some at_)) ++ one_) ++ other_) (cut text_ (some at_) none)) <|
    .ok ((((cut text_ none (some at_)) ++ one_) ++ other_) ++ (cut text_ (some at_) none))
  ) else
  if (decide ((rest_ % (4 : Int)) = (2 : Int))) = true then (
    M.gd (lenOk text_) <|
    M.gd (catOk one_ (cut text_ none (some at_))) <|
    M.gd (catOk (one_ ++ (cut text_ none (some at_))) other_) <|
    M.gd (lenOk text_) <|
    M.gd (catOk ((one_ ++ (cut text_ none (some at_))) ++ other_) (cut text_ (some at_) none)) <|
    .ok (((one_ ++ (cut text_ none (some at_))) ++ other_) ++ (cut text_ (some at_) none))
  ) else
  M.gd (repOk one_ at_) <|
  M.gd (catOk (repS one_ at_) other_) <|
  .ok ((repS one_ at_) ++ other_)
noncomputable def m_law_leaf (frame_ : ((List Nat) × Int)) (tree_ : Tr) (row_ : List Nat) : M (List Nat) :=
  M.lt ((0 : Int) : Int) fun size_ =>
  M.bind (whileM (fun (s1 : Tr × Int) => .ok ((!(isLf s1.1)))) (fun (s1 : Tr × Int) => (
    M.bind (M.ofO (kid s1.1)) fun r2 =>
    M.gd (lenOk row_) <|
    M.bind (M.ofO (atI row_ s1.2)) fun r5 =>
    M.bind (M.ofO (atI r2 (fndX frame_.1 [r5]))) fun r7 =>
    M.lt (r7 : Tr) fun tree_ =>
    M.lt ((s1.2 + (1 : Int)) : Int) fun size_ =>
    .ok (tree_, size_)
  )) (100000) (tree_, size_)) fun (s1 : Tr × Int) =>
  M.gd (lenOk row_) <|
  .ok (cut row_ none (some s1.2))
noncomputable def m_law_worth (frame_ : ((List Nat) × Int)) (tree_ : Tr) (text_ : List Nat) : M (Int × Int) :=
  M.lt ([] : (List (List Nat × List Nat))) fun some_ =>
  M.lt ((1 : Int) : Int) fun top_ =>
  M.lt ((1 : Int) : Int) fun bottom_ =>
  M.gd (lenOk text_) <|
  M.gd (rngOk 0 ((text_).length : Int)) <|
  M.bind (forM (fun (x3 : Int) (s6 : (List (List Nat × List Nat)) × Int × Int) => (
    M.bind (M.nox (m_law_elders frame_ text_ x3)) fun r7 =>
    M.bind (m_law_leaf frame_ tree_ r7) fun knot_ =>
    M.lt (((dget s6.1 knot_).getD ([] : List Nat)) : List Nat) fun came_ =>
    M.gd (lenOk text_) <|
    M.bind (M.ofO (atI text_ x3)) fun r10 =>
    M.gd (mulOk s6.2.1 (((2 : Int) * (cntX came_ [r10])) + (1 : Int))) <|
    M.lt ((s6.2.1 * (((2 : Int) * (cntX came_ [r10])) + (1 : Int))) : Int) fun top_ =>
    M.gd (lenOk came_) <|
    M.gd (lenOk frame_.1) <|
    M.gd (mulOk s6.2.2 (((2 : Int) * ((came_).length : Int)) + ((frame_.1).length : Int))) <|
    M.lt ((s6.2.2 * (((2 : Int) * ((came_).length : Int)) + ((frame_.1).length : Int))) : Int) fun bottom_ =>
    M.gd (lenOk text_) <|
    M.bind (M.ofO (atI text_ x3)) fun r17 =>
    M.gd (catOk came_ [r17]) <|
    M.gd (lenLt s6.1) <|
    M.lt (dput s6.1 knot_ (came_ ++ [r17])) fun some_ =>
    .ok (some_, top_, bottom_)
  )) (rng 0 1 (((text_).length : Int)).toNat) (some_, top_, bottom_)) fun (s6 : (List (List Nat × List Nat)) × Int × Int) =>
  .ok (s6.2.1, s6.2.2)
noncomputable def m_law_kinds (frame_ : ((List Nat) × Int)) (tree_ : Dat) (text_ : List Nat) : M (List Bool) :=
  M.lt ([] : (List Bool)) fun kinds_ =>
  M.bind (tryM (m_worth_by frame_ tree_ text_) (kinds_ : (List Bool)) [("NoTree", (M.lt ([true, true, false] : (List Bool)) fun kinds_ => .ok kinds_)), ("NoText", (M.lt ([true, false, true] : (List Bool)) fun kinds_ => .ok kinds_)), ("NoPlace", (M.lt ([true, false, false] : (List Bool)) fun kinds_ => .ok kinds_)), ("NoFraction", (M.lt ([true, false, false] : (List Bool)) fun kinds_ => .ok kinds_))]) fun (s1 : (List Bool)) =>
  .ok s1
noncomputable def m_law_asked (frame_ : ((List Nat) × Int)) (thing_ : Dat) (text_ : List Nat) (bad_ : List Nat) : M Bool :=
  M.gd (lenOk frame_.1) <|
  M.bind (M.nox (m_law_is thing_ ((frame_.1).length : Int) frame_.2)) fun r2 =>
  if (!r2) = true then (
    M.bind (M.nox (m_law_kinds frame_ thing_ bad_)) fun r4 =>
    .ok (decide (r4 = [true, true, false]))
  ) else
  if (!decide (bad_ = text_)) = true then (
    M.bind (M.nox (m_law_kinds frame_ thing_ bad_)) fun r6 =>
    .ok (decide (r6 = [true, false, true]))
  ) else
  M.bind (M.ofO (trOf thing_)) fun r8 =>
  M.bind (m_law_worth frame_ r8 text_) fun due_ =>
  M.bind (M.nox (m_worth_by frame_ thing_ text_)) fun r10 =>
  M.bind (m_law_fraction r10 due_.1 due_.2) fun r => .ok r
noncomputable def m_law_told (script_ : (List Int)) (letters_ : List Nat) : M (List Nat) :=
  M.lt ((cut script_ (some (3 : Int)) (some (63 : Int))) : (List Int)) fun cells_ =>
  M.bind (M.nox (m_law_cell_at script_ (2 : Int))) fun r1 =>
  M.lt ((r1 / (8 : Int)) : Int) fun way_ =>
  M.bind (if ((decide ((way_ % (8 : Int)) = (1 : Int))) && (!decide (cells_ = []))) = true then (
    M.bind (m_law_spread cells_ ((94 : Int) + ((way_ / (8 : Int)) % (5 : Int)))) fun cells_ =>
    .ok cells_
  ) else (
    .ok cells_
  )) fun (s3 : (List Int)) =>
  M.bind (M.nox (m_law_cell_at script_ (1 : Int))) fun r4 =>
  M.bind (m_law_text s3 letters_ (decide ((r4 % (2 : Int)) = (1 : Int)))) fun text_ =>
  if (decide ((way_ % (8 : Int)) ∈ [(2 : Int), (3 : Int), (4 : Int)])) = true then (
    M.gd (lenOk text_) <|
    M.gd (decide (0 < (((text_).length : Int) + (1 : Int)))) <|
    M.gd (lenOk text_) <|
    .ok (cut text_ none (some ((way_ / (8 : Int)) % (((text_).length : Int) + (1 : Int)))))
  ) else
  .ok text_
noncomputable def m_law (script_ : (List Int)) : M Bool :=
  M.bind (M.nox (m_law_cell_at script_ (0 : Int))) fun r1 =>
  M.bind (m_law_frame r1) fun frame_ =>
  M.gd (lenOk frame_.1) <|
  M.lt (((frame_.1).length : Int) : Int) fun many_ =>
  M.bind (m_law_cells script_ many_) fun cells_ =>
  M.bind (M.nox (m_law_cell_at script_ (2 : Int))) fun r4 =>
  M.lt ((r4 / (6464 : Int)) : Int) fun cell_ =>
  M.bind (m_law_tree cells_ many_ frame_.2 (-1 : Int) (0 : Int)) fun tree_ =>
  M.bind (M.ofO (atI [(7 : Int), (1000 : Int)] ((cell_ / (16 : Int)) % (2 : Int)))) fun r6 =>
  M.gd (decide (0 < r6)) <|
  M.bind (m_law_tree cells_ many_ frame_.2 ((cell_ / (32 : Int)) % r6) (cell_ % (16 : Int))) fun wrong_ =>
  M.bind (m_law_told script_ frame_.1) fun text_ =>
  M.lt (text_ : List Nat) fun bad_ =>
  M.bind (M.nox (m_law_cell_at script_ (2 : Int))) fun r9 =>
  M.bind (if (decide ((r9 % (4 : Int)) = (1 : Int))) = true then (
    M.bind (m_law_bad frame_.1 text_ cell_) fun bad_ =>
    .ok bad_
  ) else (
    .ok bad_
  )) fun (s11 : List Nat) =>
  M.seqT (forF 
  (fun (x12 : Dat) (s13 : Unit) => (
    M.bind (M.nox (m_law_asked frame_ x12 text_ s11)) fun r14 =>
    M.seq (if (!r14) = true then (
      .ok (.rt false)
    ) else (
      .ok (.nx ())
    ) : M (Fl Unit Unit Bool)) fun (s16 : Unit) =>
    .ok (.nx ())
  )) [tree_, wrong_, ((lstd idd) [tree_])] () : M (Fl Unit Unit Bool)) fun (s13 : Unit) =>
  M.gd (lenOk text_) <|
  M.gd (lenOk text_) <|
  M.bind (M.nox (m_law_asked frame_ (nond ()) (cut text_ (some (1 : Int)) none) (cut text_ (some (1 : Int)) none))) fun r19 =>
  M.bind (M.nox (if r19 = true then M.nox (M.bind (M.nox (m_law_asked frame_ tree_ text_ text_)) fun r21 => .ok r21) else M.ok false)) fun r23 =>
  .ok r23
end B
namespace B
open PySem PySem.Spec PyProof.Rows L2
section
variable {P : Program} {w : World} {K : PySem.W.Frag} {mg : Str → Option Value} {base : Heap}
def R_checked : List Dat → Res → Prop := fun ds o => ∃ (frame_ : ((List Nat) × Int)) (text_ : List Nat), ds = [(tup2 tx Dat.int) frame_, tx text_] ∧ Rm tx (m_checked frame_ text_) o
theorem ok_checked (T : Txt K mg)  (D : Df K mg "checked" s_checked ["frame", "text"]) : GFn P w K mg base "checked" 1 R_checked := by
  refine GFn.mk2 D sc_checked (fun ds o h => by obtain ⟨_, _, rfl, _⟩ := h; rfl) fun f cdv A outer s H E hr ds o hR => ?_
  obtain ⟨frame_, text_, rfl, hm⟩ := hR
  refine ⟨_, (.im ((fun _ => rfl) _) (.im ((fun _ => rfl) _) .nil)), fun H0 => ends_m (k := 3) (en := tx) ?_ o hm⟩
  unfold m_checked
  refine xm_for (ea := chd) (eS := (fun (s : Unit) => [.im ((tup2 tx Dat.int) frame_), .im (tx text_), .no])) (passes_of rfl) rfl (it_tx (ev_name 1 rfl)) (tg_name 2 sc_checked.nd) (fun _ _ => trivial) rfl (fun x1 s2 => ?_) (fun s2 => ?_)
  · -- if sign not in frame[0]
    refine xm_ifN (eS := (fun (s : Unit) => [.im ((tup2 tx Dat.int) frame_), .im (tx text_), .no])) (et_ninX (ev_name 2 rfl) (ev_ixT (ev_name 0 rfl) ev_int (by rfl))) (fun hc => ?_) (fun hc => ?_) (fun s3 => ?_)
    · -- raise NoText('a sign that is no letter')
      exact xm_raise T.e_NoText rfl
    · exact xm_end [2]
    exact xm_end []
  exact xm_ret (ev_name 1 rfl)
def R_signs_ahead : List Dat → Res → Prop := fun ds o => ∃ (frame_ : ((List Nat) × Int)) (text_ : List Nat) (at_ : Int), ds = [(tup2 tx Dat.int) frame_, tx text_, Dat.int at_] ∧ Rm tx (m_signs_ahead frame_ text_ at_) o
theorem ok_signs_ahead (T : Txt K mg)  (D : Df K mg "signs_ahead" s_signs_ahead ["frame", "text", "at"]) : GFn P w K mg base "signs_ahead" 1 R_signs_ahead := by
  refine GFn.mk2 D sc_signs_ahead (fun ds o h => by obtain ⟨_, _, _, rfl, _⟩ := h; rfl) fun f cdv A outer s H E hr ds o hR => ?_
  obtain ⟨frame_, text_, at_, rfl, hm⟩ := hR
  refine ⟨_, (.im ((fun _ => rfl) _) (.im ((fun _ => rfl) _) (.im ((fun _ => rfl) _) .nil))), fun H0 => ends_m (k := 6) (en := tx) ?_ o hm⟩
  unfold m_signs_ahead
  refine xm_asg (en := (tup2 tx Dat.int)) (ev_name 0 rfl) (tg_pair 3 4 sc_signs_ahead.nd rfl) (fun _ => ⟨_, _, rfl⟩) (fun q1 => ?_)
  refine xm_gd fun h2 => ?_
  refine xm_ofO fun r3 h4 => ?_
  refine xm_gd fun h5 => ?_
  refine xm_gd fun h6 => ?_
  refine xm_gd fun h7 => ?_
  refine xm_set (en := tx) 5 (ev_catX (ev_repXm (ev_ixX (ev_name 3 rfl) ev_int (lenOk_ok h2) h4) (ev_name 4 rfl) h5) (ev_slX (ev_name 1 rfl) (eo_some (ev_max2 ev_int (ev_sub (ev_name 2 rfl) (ev_name 4 rfl)) rfl T.b_max)) (eo_some (ev_name 2 rfl)) (lenOk_ok h6)) (catOk_ok h7)) sc_signs_ahead.nd (fun behind_ => ?_)
  refine xm_gd fun h8 => ?_
  refine xm_gd fun h9 => ?_
  exact xm_ret (ev_slX (ev_revX (ev_name 5 rfl) (lenOk_ok h8)) eo_none (eo_some (ev_name 4 rfl)) (lenOk_ok h9))
def R_elders : List Dat → Res → Prop := fun ds o => ∃ (frame_ : ((List Nat) × Int)) (text_ : List Nat) (at_ : Int), ds = [(tup2 tx Dat.int) frame_, tx text_, Dat.int at_] ∧ Rm tx (m_elders frame_ text_ at_) o
theorem ok_elders (T : Txt K mg) (G_checked : GFn P w K mg base "checked" 1 R_checked) (G_signs_ahead : GFn P w K mg base "signs_ahead" 1 R_signs_ahead) (D : Df K mg "elders" s_elders ["frame", "text", "at"]) : GFn P w K mg base "elders" 2 R_elders := by
  refine GFn.mk2 D sc_elders (fun ds o h => by obtain ⟨_, _, _, rfl, _⟩ := h; rfl) fun f cdv A outer s H E hr ds o hR => ?_
  obtain ⟨frame_, text_, at_, rfl, hm⟩ := hR
  refine ⟨_, (.im ((fun _ => rfl) _) (.im ((fun _ => rfl) _) (.im ((fun _ => rfl) _) .nil))), fun H0 => ends_m (k := 3) (en := tx) ?_ o hm⟩
  unfold m_elders
  refine xm_exprM (eb := tx) (evm_call (en := tx) G_checked (by exact hr.mono (by first | decide | omega)) (eab_cons (Ev.toB (ev_name 0 rfl)) (eab_cons (Ev.toB (ev_name 1 rfl)) eab_nil)) (fun o q => ⟨frame_, text_, rfl, q⟩)) (fun _ => ?_)
  refine xm_bind fun r2 h3 => ?_
  refine xm_ifX (fun _ => trivial) (EvW.t (ewm_get (ewm_or (et_lt (ev_name 2 rfl) ev_int) (fun hq => (ewm_gd fun h1 => (ewm_ok (ew_or1 (et_gt (ev_name 2 rfl) (ev_len (Ev.toB (ev_name 1 rfl)) (dlen_tx (lenOk_ok h1)) T.b_len))))))) h3)) (fun hc => ?_) (fun hc => ?_)
  · -- raise NoPlace('a place that is not in the text')
    exact xm_raise T.e_NoPlace rfl
  exact xm_retM (eb := tx) (evm_call (en := tx) G_signs_ahead (by exact hr.mono (by first | decide | omega)) (eab_cons (Ev.toB (ev_name 0 rfl)) (eab_cons (Ev.toB (ev_name 1 rfl)) (eab_cons (Ev.toB (ev_name 2 rfl)) eab_nil))) (fun o q => ⟨frame_, text_, at_, rfl, q⟩))
def R_greatest_divisor : List Dat → Res → Prop := fun ds o => ∃ (one_ : Int) (other_ : Int), ds = [Dat.int one_, Dat.int other_] ∧ Rm Dat.int (m_greatest_divisor one_ other_) o
theorem ok_greatest_divisor (T : Txt K mg)  (D : Df K mg "greatest_divisor" s_greatest_divisor ["one", "other"]) : GFn P w K mg base "greatest_divisor" 1 R_greatest_divisor := by
  refine GFn.mk2 D sc_greatest_divisor (fun ds o h => by obtain ⟨_, _, rfl, _⟩ := h; rfl) fun f cdv A outer s H E hr ds o hR => ?_
  obtain ⟨one_, other_, rfl, hm⟩ := hR
  refine ⟨_, (.im ((fun _ => rfl) _) (.im ((fun _ => rfl) _) .nil)), fun H0 => ends_m (k := 2) (en := Dat.int) ?_ o hm⟩
  unfold m_greatest_divisor
  refine xm_set (en := Dat.int) 0 (ev_abs (ev_name 0 rfl) T.b_abs) sc_greatest_divisor.nd (fun one_ => ?_)
  refine xm_set (en := Dat.int) 1 (ev_abs (ev_name 1 rfl) T.b_abs) sc_greatest_divisor.nd (fun other_ => ?_)
  refine xm_while (eS := (fun (s : Int × Int) => [.im (Dat.int s.1), .im (Dat.int s.2)])) (passes_of rfl) rfl (fun s1 => (etm_ok (et_ne (ev_name 1 rfl) ev_int))) (fun s1 => ?_) (fun s1 => ?_)
  · refine xm_gd fun h2 => ?_
    refine xm_par2 (ea := Dat.int) (eb := Dat.int) 0 1 (ev_name 1 rfl) (ev_mod (ev_name 0 rfl) (ev_name 1 rfl) (of_decide_eq_true h2)) sc_greatest_divisor.nd rfl (by decide) (fun q3 => ?_)
    exact xm_end []
  exact xm_ret (ev_name 0 rfl)
def R_fraction : List Dat → Res → Prop := fun ds o => ∃ (top_ : Int) (bottom_ : Int), ds = [Dat.int top_, Dat.int bottom_] ∧ Rm (tup2 Dat.int Dat.int) (m_fraction top_ bottom_) o
theorem ok_fraction (T : Txt K mg) (G_greatest_divisor : GFn P w K mg base "greatest_divisor" 1 R_greatest_divisor) (D : Df K mg "fraction" s_fraction ["top", "bottom"]) : GFn P w K mg base "fraction" 2 R_fraction := by
  refine GFn.mk2 D sc_fraction (fun ds o h => by obtain ⟨_, _, rfl, _⟩ := h; rfl) fun f cdv A outer s H E hr ds o hR => ?_
  obtain ⟨top_, bottom_, rfl, hm⟩ := hR
  refine ⟨_, (.im ((fun _ => rfl) _) (.im ((fun _ => rfl) _) .nil)), fun H0 => ends_m (k := 3) (en := (tup2 Dat.int Dat.int)) ?_ o hm⟩
  unfold m_fraction
  refine xm_ifX (fun _ => trivial) (et_eq (ev_name 1 rfl) ev_int) (fun hc => ?_) (fun hc => ?_)
  · -- raise NoFraction('a bottom that is 0')
    exact xm_raise T.e_NoFraction rfl
  refine xm_setM (eb := Dat.int) 2 (evm_call (en := Dat.int) G_greatest_divisor (by exact hr.mono (by first | decide | omega)) (eab_cons (Ev.toB (ev_name 0 rfl)) (eab_cons (Ev.toB (ev_name 1 rfl)) eab_nil)) (fun o q => ⟨top_, bottom_, rfl, q⟩)) sc_fraction.nd (fun many_ => ?_)
  refine xm_ifN (eS := (fun (s : Int) => [.im (Dat.int top_), .im (Dat.int bottom_), .im (Dat.int s)])) (et_lt (ev_name 1 rfl) ev_int) (fun hc => ?_) (fun hc => ?_) (fun s1 => ?_)
  · -- many = -many
    refine xm_set (en := Dat.int) 2 (ev_neg (ev_name 2 rfl)) sc_fraction.nd (fun many_ => ?_)
    exact xm_end []
  · exact xm_end []
  refine xm_gd fun h2 => ?_
  refine xm_gd fun h3 => ?_
  exact xm_ret (ev_tup (ea_cons (ev_fdivN (ev_name 0 rfl) (ev_name 2 rfl) (fdivOk_1 h2) (fdivOk_2 h2)) (ea_cons (ev_fdivN (ev_name 1 rfl) (ev_name 2 rfl) (fdivOk_1 h3) (fdivOk_2 h3)) ea_nil)) (by show 2 ≤ sizeLine; decide))
def R_times : List Dat → Res → Prop := fun ds o => ∃ (one_ : (Int × Int)) (other_ : (Int × Int)), ds = [(tup2 Dat.int Dat.int) one_, (tup2 Dat.int Dat.int) other_] ∧ Rm (tup2 Dat.int Dat.int) (m_times one_ other_) o
theorem ok_times (T : Txt K mg) (G_fraction : GFn P w K mg base "fraction" 2 R_fraction) (D : Df K mg "times" s_times ["one", "other"]) : GFn P w K mg base "times" 3 R_times := by
  refine GFn.mk2 D sc_times (fun ds o h => by obtain ⟨_, _, rfl, _⟩ := h; rfl) fun f cdv A outer s H E hr ds o hR => ?_
  obtain ⟨one_, other_, rfl, hm⟩ := hR
  refine ⟨_, (.im ((fun _ => rfl) _) (.im ((fun _ => rfl) _) .nil)), fun H0 => ends_m (k := 2) (en := (tup2 Dat.int Dat.int)) ?_ o hm⟩
  unfold m_times
  refine xm_gd fun h1 => ?_
  refine xm_gd fun h2 => ?_
  exact xm_retM (eb := (tup2 Dat.int Dat.int)) (evm_call (en := (tup2 Dat.int Dat.int)) G_fraction (by exact hr.mono (by first | decide | omega)) (eab_cons (Ev.toB (ev_mul (ev_ixT (ev_name 0 rfl) ev_int (by rfl)) (ev_ixT (ev_name 1 rfl) ev_int (by rfl)) (mulOk_ok h1))) (eab_cons (Ev.toB (ev_mul (ev_ixT (ev_name 0 rfl) ev_int (by rfl)) (ev_ixT (ev_name 1 rfl) ev_int (by rfl)) (mulOk_ok h2))) eab_nil)) (fun o q => ⟨(one_.1 * other_.1), (one_.2 * other_.2), rfl, q⟩))
def R_odd_product : List Dat → Res → Prop := fun ds o => ∃ (many_ : Int), ds = [Dat.int many_] ∧ Rm Dat.int (m_odd_product many_) o
theorem ok_odd_product (T : Txt K mg)  (D : Df K mg "odd_product" s_odd_product ["many"]) : GFn P w K mg base "odd_product" 1 R_odd_product := by
  refine GFn.mk2 D sc_odd_product (fun ds o h => by obtain ⟨_, rfl, _⟩ := h; rfl) fun f cdv A outer s H E hr ds o hR => ?_
  obtain ⟨many_, rfl, hm⟩ := hR
  refine ⟨_, (.im ((fun _ => rfl) _) .nil), fun H0 => ends_m (k := 3) (en := Dat.int) ?_ o hm⟩
  unfold m_odd_product
  refine xm_set (en := Dat.int) 1 ev_int sc_odd_product.nd (fun found_ => ?_)
  refine xm_gd fun h3 => ?_
  refine xm_for (ea := Dat.int) (eS := (fun (s : Int) => [.im (Dat.int many_), .im (Dat.int s), .no])) (passes_of rfl) rfl (itm_r1 (ev_name 0 rfl) h3 T.b_range) (tg_name 2 sc_odd_product.nd) (fun _ _ => trivial) rfl (fun x2 s4 => ?_) (fun s4 => ?_)
  · refine xm_gd fun h5 => ?_
    refine xm_set (en := Dat.int) 1 (ev_mul (ev_name 1 rfl) (ev_add (ev_mul ev_int (ev_name 2 rfl) (mul_l (by decide) (by decide))) ev_int) (mulOk_ok h5)) sc_odd_product.nd (fun found_ => ?_)
    exact xm_end [2]
  exact xm_ret (ev_name 1 rfl)
def R_worth : List Dat → Res → Prop := fun ds o => ∃ (counts_ : (List Int)), ds = [(lstd Dat.int) counts_] ∧ Rm (tup2 Dat.int Dat.int) (m_worth counts_) o
theorem ok_worth (T : Txt K mg) (G_fraction : GFn P w K mg base "fraction" 2 R_fraction) (G_odd_product : GFn P w K mg base "odd_product" 1 R_odd_product) (D : Df K mg "worth" s_worth ["counts"]) : GFn P w K mg base "worth" 3 R_worth := by
  refine GFn.mk2 D sc_worth (fun ds o h => by obtain ⟨_, rfl, _⟩ := h; rfl) fun f cdv A outer s H E hr ds o hR => ?_
  obtain ⟨counts_, rfl, hm⟩ := hR
  refine ⟨_, (.ol .nil), fun H0 => ends_m (k := 5) (en := (tup2 Dat.int Dat.int)) ?_ o hm⟩
  unfold m_worth
  refine xm_set (en := Dat.int) 1 ev_int sc_worth.nd (fun top_ => ?_)
  refine xm_for (ea := Dat.int) (eS := (fun (s : Int) => [.ol ((lstd Dat.int) counts_), .im (Dat.int s), .no, .no, .no])) (passes_of rfl) rfl (itm_ol (fun _ => rfl) 0 rfl) (tg_name 2 sc_worth.nd) (fun _ _ => trivial) rfl (fun x1 s2 => ?_) (fun s2 => ?_)
  · refine xm_bind fun r3 h4 => ?_
    refine xm_gd fun h5 => ?_
    refine xm_set (en := Dat.int) 1 (ev_mul (ev_name 1 rfl) (by exact evm_get (en := Dat.int) (v := r3) (evm_call (en := Dat.int) G_odd_product (by exact hr.mono (by first | decide | omega)) (eab_cons (Ev.toB (ev_name 2 rfl)) eab_nil) (fun o q => ⟨x1, rfl, q⟩)) h4) (mulOk_ok h5)) sc_worth.nd (fun top_ => ?_)
    exact xm_end [2]
  refine xm_set (en := Dat.int) 3 ev_int sc_worth.nd (fun bottom_ => ?_)
  refine xm_gd fun h8 => ?_
  refine xm_for (ea := Dat.int) (eS := (fun (s : Int) => [.ol ((lstd Dat.int) counts_), .im (Dat.int s2), .no, .im (Dat.int s), .no])) (passes_of rfl) rfl (itm_r1 (ev_sum (eb_name_ol 0 rfl) rfl T.b_sum) h8 T.b_range) (tg_name 4 sc_worth.nd) (fun _ _ => trivial) rfl (fun x7 s9 => ?_) (fun s9 => ?_)
  · refine xm_gd fun h10 => ?_
    refine xm_set (en := Dat.int) 3 (ev_mul (ev_name 3 rfl) (ev_add (ev_mul ev_int (ev_name 4 rfl) (mul_l (by decide) (by decide))) (ev_lenm (eb_name_ol 0 rfl) T.b_len)) (mulOk_ok h10)) sc_worth.nd (fun bottom_ => ?_)
    exact xm_end [4]
  exact xm_retM (eb := (tup2 Dat.int Dat.int)) (evm_call (en := (tup2 Dat.int Dat.int)) G_fraction (by exact hr.mono (by first | decide | omega)) (eab_cons (Ev.toB (ev_name 1 rfl)) (eab_cons (Ev.toB (ev_name 3 rfl)) eab_nil)) (fun o q => ⟨s2, s9, rfl, q⟩))
def R_is_bough (lv : Nat) : List Dat → Res → Prop := fun ds o => ∃ (thing_ : Dat) (many_ : Int) (left_ : Int), ds = [idd thing_, Dat.int many_, Dat.int left_] ∧ Rm Dat.bl (m_is_bough lv thing_ many_ left_) o
theorem ok_is_bough (T : Txt K mg)  (D : Df K mg "is_bough" s_is_bough ["thing", "many", "left"]) : ∀ lv : Nat, GFn P w K mg base "is_bough" (1 + lv) (R_is_bough lv)
  | 0 => GFn.mk2I (k := 0) D sc_is_bough (fun ds o h => by obtain ⟨_, _, _, rfl, _⟩ := h; rfl) (fun ds o h => by obtain ⟨thing_, many_, left_, _, hm⟩ := h; exact rm_flat (fun _ => rfl) hm) fun f cdv A outer s H E hr ds o hR => by obtain ⟨thing_, many_, left_, rfl, hm⟩ := hR; exact (show False from hm).elim
  | lv + 1 => by
    have G_is_bough : ∀ q : Nat, GFn P w K mg base "is_bough" (1 + lv) (R_is_bough lv) := fun _ => ok_is_bough T  D lv
    refine GFn.mk2I (k := 1 + lv) D sc_is_bough (fun ds o h => by obtain ⟨_, _, _, rfl, _⟩ := h; rfl) (fun ds o h => by obtain ⟨thing_, many_, left_, _, hm⟩ := h; exact rm_flat (fun _ => rfl) hm) fun f cdv A outer s H E hr ds o hR => ?_
    obtain ⟨thing_, many_, left_, rfl, hm⟩ := hR
    refine ⟨_, (.im (.im (.im .nil))), fun H0 => ends_m (k := 4) (en := Dat.bl) ?_ o hm⟩
    unfold m_is_bough
    refine xm_ifX (fun _ => trivial) (et_isN (Ev.toB (ev_name 0 rfl))) (fun hc => ?_) (fun hc => ?_)
    · -- return True
      exact xm_ret ev_bl
    refine xm_bind fun r5 h6 => ?_
    refine xm_ifX (fun _ => trivial) (EvW.t (ewm_get (ewm_or (et_not (et_val (ev_isi_tuple (d := idd thing_) (Ev.toB (ev_name 0 rfl)) T.b_isinstance T.b_tuple))) (fun hq => (ewm_bind fun r3 h4 => (ewm_ok (ewm_get (ewm_or (et_eq (ev_name 2 rfl) ev_int) (fun hq => (ewm_ofO fun r1 h2 => (ewm_ok (ew_or1 (et_ne (ev_len (Ev.toB (ev_name 0 rfl)) h2 T.b_len) (ev_name 1 rfl))))))) h4))))) h6)) (fun hc => ?_) (fun hc => ?_)
    · -- return False
      exact xm_ret ev_bl
    refine xm_ofO fun r10 h11 => ?_
    refine xm_forJT (ea := idd) (eS := (fun (s : Unit) => [.im (idd thing_), .im (Dat.int many_), .im (Dat.int left_), .no])) (oR := (fun r => Outc.rt (Dat.bl r))) (fun r => ⟨_, .inl rfl⟩) (passes_of rfl) rfl (it_tupD ((ev_name 0 rfl)) h11) (tg_name 3 sc_is_bough.nd) (fun _ _ => trivial) rfl (fun x9 s12 => ?_) (fun s12 => ?_)
    · refine xm_bind fun r13 h14 => ?_
      refine xm_ifJ (eS := (fun (s : Unit) => [.im (idd thing_), .im (Dat.int many_), .im (Dat.int left_), .no])) (eL := (fun (s : Unit) => [.im (idd thing_), .im (Dat.int many_), .im (Dat.int left_), .no])) (oR := (fun r => Outc.rt (Dat.bl r))) (fun _ => trivial) (et_not (et_val (by exact evm_get (en := Dat.bl) (v := r13) (evm_call (en := Dat.bl) (G_is_bough lv) (by exact hr.mono (by first | decide | omega)) (eab_cons (Ev.toB (ev_name 3 rfl)) (eab_cons (Ev.toB (ev_name 1 rfl)) (eab_cons (Ev.toB (ev_sub (ev_name 2 rfl) ev_int)) eab_nil))) (fun o q => ⟨x9, many_, (left_ - (1 : Int)), rfl, q⟩)) h14))) (fun hc => ?_) (fun hc => ?_) (fun s15 => ?_)
      · -- return False
        exact xm_ret ev_bl
      · exact xm_end [3]
      exact xm_end []
    exact xm_ret ev_bl
def R_is_tree : List Dat → Res → Prop := fun ds o => ∃ (frame_ : ((List Nat) × Int)) (thing_ : Dat), ds = [(tup2 tx Dat.int) frame_, idd thing_] ∧ Rm Dat.bl (m_is_tree frame_ thing_) o
theorem ok_is_tree (T : Txt K mg) (G_is_bough : ∀ lv : Nat, GFn P w K mg base "is_bough" (1 + lv) (R_is_bough lv)) (D : Df K mg "is_tree" s_is_tree ["frame", "thing"]) : GFn P w K mg base "is_tree" 10 R_is_tree := by
  refine GFn.mk2I D sc_is_tree (fun ds o h => by obtain ⟨_, _, rfl, _⟩ := h; rfl) (fun ds o h => by obtain ⟨frame_, thing_, _, hm⟩ := h; exact rm_flat (fun _ => rfl) hm) fun f cdv A outer s H E hr ds o hR => ?_
  obtain ⟨frame_, thing_, rfl, hm⟩ := hR
  refine ⟨_, (.im (.im .nil)), fun H0 => ends_m (k := 2) (en := Dat.bl) ?_ o hm⟩
  unfold m_is_tree
  refine xm_gd fun h1 => ?_
  exact xm_retM (eb := Dat.bl) (evm_call (en := Dat.bl) (G_is_bough 8) (by exact hr.mono (by first | decide | omega)) (eab_cons (Ev.toB (ev_name 1 rfl)) (eab_cons (Ev.toB (ev_len (Ev.toB (ev_ixT (ev_name 0 rfl) ev_int (by rfl))) (dlen_tx (lenOk_ok h1)) T.b_len)) (eab_cons (Ev.toB (ev_ixT (ev_name 0 rfl) ev_int (by rfl))) eab_nil))) (fun o q => ⟨thing_, ((frame_.1).length : Int), frame_.2, rfl, q⟩))
def R_need_tree : List Dat → Res → Prop := fun ds o => ∃ (frame_ : ((List Nat) × Int)) (thing_ : Dat), ds = [(tup2 tx Dat.int) frame_, idd thing_] ∧ Rm trd (m_need_tree frame_ thing_) o
theorem ok_need_tree (T : Txt K mg) (G_is_tree : GFn P w K mg base "is_tree" 10 R_is_tree) (D : Df K mg "need_tree" s_need_tree ["frame", "thing"]) : GFn P w K mg base "need_tree" 11 R_need_tree := by
  refine GFn.mk2I D sc_need_tree (fun ds o h => by obtain ⟨_, _, rfl, _⟩ := h; rfl) (fun ds o h => by obtain ⟨frame_, thing_, _, hm⟩ := h; exact rm_flat flat_trd hm) fun f cdv A outer s H E hr ds o hR => ?_
  obtain ⟨frame_, thing_, rfl, hm⟩ := hR
  refine ⟨_, (.im (.im .nil)), fun H0 => ends_m (k := 2) (en := trd) ?_ o hm⟩
  unfold m_need_tree
  refine xm_bind fun r1 h2 => ?_
  refine xm_ifX (fun _ => trivial) (et_not (et_val (by exact evm_get (en := Dat.bl) (v := r1) (evm_call (en := Dat.bl) G_is_tree (by exact hr.mono (by first | decide | omega)) (eab_cons (Ev.toB (ev_name 0 rfl)) (eab_cons (Ev.toB (ev_name 1 rfl)) eab_nil)) (fun o q => ⟨frame_, thing_, rfl, q⟩)) h2))) (fun hc => ?_) (fun hc => ?_)
  · -- raise NoTree('no tree of the frame')
    exact xm_raise T.e_NoTree rfl
  refine xm_ofO fun r3 h4 => ?_
  exact xm_ret (ev_trOf (ev_name 1 rfl) h4)
def R_leaf_size : List Dat → Res → Prop := fun ds o => ∃ (letters_ : List Nat) (tree_ : Tr) (row_ : List Nat), ds = [tx letters_, trd tree_, tx row_] ∧ Rm Dat.int (m_leaf_size letters_ tree_ row_) o
theorem ok_leaf_size (T : Txt K mg)  (D : Df K mg "leaf_size" s_leaf_size ["letters", "tree", "row"]) : GFn P w K mg base "leaf_size" 1 R_leaf_size := by
  refine GFn.mk2 D sc_leaf_size (fun ds o h => by obtain ⟨_, _, _, rfl, _⟩ := h; rfl) fun f cdv A outer s H E hr ds o hR => ?_
  obtain ⟨letters_, tree_, row_, rfl, hm⟩ := hR
  refine ⟨_, (.im ((fun _ => rfl) _) (.im (flat_trd _) (.im ((fun _ => rfl) _) .nil))), fun H0 => ends_m (k := 4) (en := Dat.int) ?_ o hm⟩
  unfold m_leaf_size
  refine xm_set (en := Dat.int) 3 ev_int sc_leaf_size.nd (fun size_ => ?_)
  refine xm_while (eS := (fun (s : Tr × Int) => [.im (tx letters_), .im (trd s.1), .im (tx row_), .im (Dat.int s.2)])) (passes_of rfl) rfl (fun s1 => (etm_ok (et_to (et_notN (Ev.toB (ev_name 1 rfl))) (congrArg (fun q => !q) (isNon_trd s1.1))))) (fun s1 => ?_) (fun s1 => ?_)
  · refine xm_ofO fun r2 h3 => ?_
    refine xm_gd fun h4 => ?_
    refine xm_ofO fun r5 h6 => ?_
    refine xm_ofO fun r7 h8 => ?_
    refine xm_set (en := trd) 1 (ev_ixTm (en := trd) (ev_trk (ev_name 1 rfl) h3) (ev_find0 (ev_name 0 rfl) (ev_ixX (ev_name 2 rfl) (ev_name 3 rfl) (lenOk_ok h4) h6) rfl rfl rfl) h8) sc_leaf_size.nd (fun tree_ => ?_)
    refine xm_augI (hp := fun te h => ps_aug sc_leaf_size.nd rfl (by first | exact Or.inl rfl | exact Or.inr rfl) h ip_add) 3 rfl ev_int sc_leaf_size.nd (fun size_ => ?_)
    exact xm_end []
  exact xm_ret (ev_name 3 rfl)
def R_worth_by : List Dat → Res → Prop := fun ds o => ∃ (frame_ : ((List Nat) × Int)) (tree_ : Dat) (text_ : List Nat), ds = [(tup2 tx Dat.int) frame_, idd tree_, tx text_] ∧ Rm (tup2 Dat.int Dat.int) (m_worth_by frame_ tree_ text_) o
theorem ok_worth_by (T : Txt K mg) (G_need_tree : GFn P w K mg base "need_tree" 11 R_need_tree) (G_checked : GFn P w K mg base "checked" 1 R_checked) (G_elders : GFn P w K mg base "elders" 2 R_elders) (G_times : GFn P w K mg base "times" 3 R_times) (G_worth : GFn P w K mg base "worth" 3 R_worth) (G_leaf_size : GFn P w K mg base "leaf_size" 1 R_leaf_size) (D : Df K mg "worth_by" s_worth_by ["frame", "tree", "text"]) : GFn P w K mg base "worth_by" 12 R_worth_by := by
  refine GFn.mk2I D sc_worth_by (fun ds o h => by obtain ⟨_, _, _, rfl, _⟩ := h; rfl) (fun ds o h => by obtain ⟨frame_, tree_, text_, _, hm⟩ := h; exact rm_flat (fun _ => rfl) hm) fun f cdv A outer s H E hr ds o hR => ?_
  obtain ⟨frame_, tree_, text_, rfl, hm⟩ := hR
  refine ⟨_, (.im (.im (.im .nil))), fun H0 => ends_m (k := 9) (en := (tup2 Dat.int Dat.int)) ?_ o hm⟩
  unfold m_worth_by
  refine xm_exprM (eb := trd) (evm_call (en := trd) G_need_tree (by exact hr.mono (by first | decide | omega)) (eab_cons (Ev.toB (ev_name 0 rfl)) (eab_cons (Ev.toB (ev_name 1 rfl)) eab_nil)) (fun o q => ⟨frame_, tree_, rfl, q⟩)) (fun _ => ?_)
  refine xm_exprM (eb := tx) (evm_call (en := tx) G_checked (by exact hr.mono (by first | decide | omega)) (eab_cons (Ev.toB (ev_name 0 rfl)) (eab_cons (Ev.toB (ev_name 2 rfl)) eab_nil)) (fun o q => ⟨frame_, text_, rfl, q⟩)) (fun _ => ?_)
  refine xm_setOV (en0 := (dicd (lstd Dat.int))) (v := []) 3 ?_ sc_worth_by.nd ?_
  · exact eo_dic0
  refine xm2_start (en := Dat.int) (en0 := (lstd Dat.int)) (i := 3) rfl (noOl_of rfl) ?_
  refine xm2_gd fun h1 => ?_
  refine xm2_gd fun h2 => ?_
  refine xm2_for (ea := Dat.int) (eS := (fun (s : (List (List Nat × (List Int)))) => [.im ((tup2 tx Dat.int) frame_), .im (idd tree_), .im (tx text_), .no, .no, .no, .no, .no, .no])) (tS := (fun (s4 : (List (List Nat × (List Int)))) => s4)) 4 (passes_of rfl) rfl (itA_r1 (fun H0b bp => (ev_len (Ev.toB (ev_name 2 rfl)) (dlen_tx (lenOk_ok h1)) T.b_len)) h2 T.b_range) sc_worth_by.nd (by decide) rfl rfl (fun x3 s4 => ?_) (fun s4 => ?_)
  · -- row = elders(frame, text, at)
    refine xm2_one (fun row_ => [.im ((tup2 tx Dat.int) frame_), .im (idd tree_), .im (tx text_), .no, .im (Dat.int x3), .im (tx row_), .no, .no, .no]) (fun H0b bp => ?_) (fun row_ => ?_)
    · refine xm_setM (eb := tx) 5 (evm_call (en := tx) G_elders (by exact hr.mono (by first | decide | omega)) (eab_cons (Ev.toB (ev_name 0 rfl)) (eab_cons (Ev.toB (ev_name 2 rfl)) (eab_cons (Ev.toB (ev_name 4 rfl)) eab_nil))) (fun o q => ⟨frame_, text_, x3, rfl, q⟩)) sc_worth_by.nd (fun row_ => ?_)
      exact xm_end []
    refine xm2_ofO fun r5 h6 => ?_
    refine xm2_bind fun r7 h8 => ?_
    refine xm2_gd fun h9 => ?_
    refine xm2_one (fun knot_ => [.im ((tup2 tx Dat.int) frame_), .im (idd tree_), .im (tx text_), .no, .im (Dat.int x3), .im (tx row_), .im (tx knot_), .no, .no]) (fun H0b bp => ?_) (fun knot_ => ?_)
    · refine xm_set (en := tx) 6 (ev_slX (ev_name 5 rfl) eo_none (eo_some (by exact evm_get (en := Dat.int) (v := r7) (evm_call (en := Dat.int) G_leaf_size (by exact hr.mono (by first | decide | omega)) (eab_cons (Ev.toB (ev_ixT (ev_name 0 rfl) ev_int (by rfl))) (eab_cons (Ev.toB (ev_trOf (ev_name 1 rfl) h6)) (eab_cons (Ev.toB (ev_name 5 rfl)) eab_nil))) (fun o q => ⟨frame_.1, r5, row_, rfl, q⟩)) h8)) (lenOk_ok h9)) sc_worth_by.nd (fun knot_ => ?_)
      exact xm_end []
    refine xm2_if (eS := (fun (s : (List (List Nat × (List Int)))) => [.im ((tup2 tx Dat.int) frame_), .im (idd tree_), .im (tx text_), .no, .im (Dat.int x3), .no, .im (tx knot_), .no, .no])) (tS := (fun (s10 : (List (List Nat × (List Int)))) => s10)) (fun _ => rfl) (noOl_of rfl) (Nat.le_of_ble_eq_true rfl) (fun H0b => (et_ninKm (ev_name 6 rfl) (eb_name_ol 3 rfl) (hu_of hr))) (fun hc => ?_) (fun hc => ?_) (fun s10 => ?_)
    · refine xm2_gd fun h11 => ?_
      refine xm2_bind fun r12 h13 => ?_
      refine xm2_gd fun h14 => ?_
      refine xm2_gd fun h15 => ?_
      refine xm2_put (noOl_of rfl) (Nat.le_of_ble_eq_true rfl) (fun H0b bp => (eo_compM (xn := "letter") (ea := chd) (eb := Dat.int) 8 inj_chr rfl sc_worth_by.nd (it_tx (ev_ixT (ev_name 0 rfl) ev_int (by rfl))) rfl rfl (fun _ _ _ _ _ => pg_name sc_worth_by.nd rfl (by first | exact Or.inl rfl | exact Or.inr rfl)) h13 (.inl ⟨rfl, fun _ => rfl⟩) (fun H0' s' H' C' cl' fp' hs' letter_ => (evm_ok ev_int)) h11)) (fun H0b bp => (ev_name 6 rfl)) h14 h15 (hu_of hr) (fun some_ => ?_)
      refine xm2_drop 5 (by decide) ?_
      exact xm2_end
    · refine xm2_drop 5 (by decide) ?_
      exact xm2_end
    refine xm2_ofO fun r16 h17 => ?_
    refine xm2_gd fun h18 => ?_
    refine xm2_ofO fun r19 h20 => ?_
    refine xm2_gd fun h21 => ?_
    refine xm2_ofO fun r22 h23 => ?_
    refine xm2_ofO fun r24 h25 => ?_
    refine xm2_aug (noOl_of rfl) (Nat.le_of_ble_eq_true rfl) (fun H0b bp => (ev_name 6 rfl)) h17 (fun H0b bp => (ev_find0 (ev_ixT (ev_name 0 rfl) ev_int (by rfl)) (ev_ixX (ev_name 2 rfl) (ev_name 4 rfl) (lenOk_ok h18) h20) rfl rfl rfl)) h21 h23 (fun H0b bp => ev_int) h25 (hu_of hr) (fun some_ => ?_)
    refine xm2_drop 4 (by decide) ?_
    refine xm2_drop 6 (by decide) ?_
    exact xm2_end
  refine xm2_freeze (noOl_of rfl) (Nat.le_of_ble_eq_true rfl) ?_
  refine xm_set (en := (tup2 Dat.int Dat.int)) 7 (ev_tup (ea_cons ev_int (ea_cons ev_int ea_nil)) (by show 2 ≤ sizeLine; decide)) sc_worth_by.nd (fun found_ => ?_)
  refine xm_drops [0, 1, 2] ?_
  refine xm_forK (en := (lstd Dat.int)) (eS := (fun (s : (Int × Int)) => [.no, .no, .no, .im ((dicd (lstd Dat.int)) s4), .no, .no, .no, .im ((tup2 Dat.int Dat.int) s), .no])) 3 (passes_of rfl) rfl rfl (tg_name 6 sc_worth_by.nd) (fun _ _ => trivial) rfl (fun x26 s27 => ?_) (fun s27 => ?_)
  · refine xm_ofO fun r28 h29 => ?_
    refine xm_bind fun r30 h31 => ?_
    refine xm_setM (eb := (tup2 Dat.int Dat.int)) 7 (evm_call (en := (tup2 Dat.int Dat.int)) G_times (by exact hr.mono (by first | decide | omega)) (eab_cons (Ev.toB (ev_name 7 rfl)) (eab_cons (Ev.toB (by exact evm_get (en := (tup2 Dat.int Dat.int)) (v := r30) (evm_call (en := (tup2 Dat.int Dat.int)) G_worth (by exact hr.mono (by first | decide | omega)) (eab_cons (Ev.toB (ev_dgetm (en := (lstd Dat.int)) (ev_name 3 rfl) (ev_name 6 rfl) h29 (hu_of hr))) eab_nil) (fun o q => ⟨r28, rfl, q⟩)) h31)) eab_nil)) (fun o q => ⟨s27, r30, rfl, q⟩)) sc_worth_by.nd (fun found_ => ?_)
    exact xm_end [6]
  exact xm_ret (ev_name 7 rfl)
end
end B
namespace B
open PySem PySem.Spec PyProof.Rows L2
section
variable {P : Program} {w : World} {K : PySem.W.Frag} {mg : Str → Option Value} {base : Heap}
def R_law_cell_at : List Dat → Res → Prop := fun ds o => ∃ (script_ : (List Int)) (k_ : Int), ds = [(lstd Dat.int) script_, Dat.int k_] ∧ Rm Dat.int (m_law_cell_at script_ k_) o
theorem ok_law_cell_at (T : Txt K mg)  (D : Df K mg "_law_cell_at" s_law_cell_at ["script", "k"]) : GFn P w K mg base "_law_cell_at" 1 R_law_cell_at := by
  refine GFn.mk2 D sc_law_cell_at (fun ds o h => by obtain ⟨_, _, rfl, _⟩ := h; rfl) fun f cdv A outer s H E hr ds o hR => ?_
  obtain ⟨script_, k_, rfl, hm⟩ := hR
  refine ⟨_, (.ol (.im ((fun _ => rfl) _) .nil)), fun H0 => ends_m (k := 2) (en := Dat.int) ?_ o hm⟩
  unfold m_law_cell_at
  refine xm_ifX (fun _ => trivial) (et_lt (ev_name 1 rfl) (ev_lenm (eb_name_ol 0 rfl) T.b_len)) (fun hc => ?_) (fun hc => ?_)
  · refine xm_ofO fun r1 h2 => ?_
    exact xm_ret (EvB.flat (eb_ixLm (en := Dat.int) (eb_name_ol 0 rfl) (ev_name 1 rfl) h2) ((fun _ => rfl) _))
  exact xm_ret ev_int
def R_law_signs : List Dat → Res → Prop := fun ds o => ∃ (cell_ : Int) (many_ : Int), ds = [Dat.int cell_, Dat.int many_] ∧ Rm tx (m_law_signs cell_ many_) o
theorem ok_law_signs (T : Txt K mg)  (D : Df K mg "_law_signs" s_law_signs ["cell", "many"]) : GFn P w K mg base "_law_signs" 1 R_law_signs := by
  refine GFn.mk2 D sc_law_signs (fun ds o h => by obtain ⟨_, _, rfl, _⟩ := h; rfl) fun f cdv A outer s H E hr ds o hR => ?_
  obtain ⟨cell_, many_, rfl, hm⟩ := hR
  refine ⟨_, (.im ((fun _ => rfl) _) (.im ((fun _ => rfl) _) .nil)), fun H0 => ends_m (k := 7) (en := tx) ?_ o hm⟩
  unfold m_law_signs
  refine xm_set (en := tx) 2 (ev_lit (l := txt0)) sc_law_signs.nd (fun some_ => ?_)
  refine xm_gd fun h1 => ?_
  refine xm_set (en := tx) 2 (ev_catX (ev_name 2 rfl) (ev_lit (l := txt1)) (catOk_ok h1)) sc_law_signs.nd (fun some_ => ?_)
  refine xm_set (en := Dat.int) 3 (ev_fdiv (ev_name 0 rfl) ev_int (by decide) (by decide +kernel)) sc_law_signs.nd (fun number_ => ?_)
  refine xm_ifN (eS := (fun (s : Int) => [.no, .im (Dat.int many_), .im (tx some_), .im (Dat.int s), .no, .no, .no])) (et_eq (ev_mod (ev_name 0 rfl) ev_int (by decide)) ev_int) (fun hc => ?_) (fun hc => ?_) (fun s2 => ?_)
  · refine xm_gd fun h3 => ?_
    refine xm_set (en := Dat.int) 3 (ev_add (ev_mul (ev_name 3 rfl) (ev_powC ev_int ev_int (r := 755025238823861643209264527426574067654365331163161167985785434308279504849166858912194103233288234579318044655171871211416828048690375574609316503041) ⟨by decide, by decide, by decide⟩ (by decide +kernel)) (mulOk_ok h3)) ev_int) sc_law_signs.nd (fun number_ => ?_)
    exact xm_end [0]
  · exact xm_end [0]
  refine xm_set (en := tx) 4 (ev_lit (l := [])) sc_law_signs.nd (fun found_ => ?_)
  refine xm_gd fun h6 => ?_
  refine xm_for (ea := Dat.int) (eS := (fun (s : (List Nat) × Int × (List Nat)) => [.no, .im (Dat.int many_), .im (tx s.1), .im (Dat.int s.2.1), .im (tx s.2.2), .no, .no])) (passes_of rfl) rfl (itm_r1 (ev_name 1 rfl) h6 T.b_range) (tg_name 5 sc_law_signs.nd) (fun _ _ => trivial) rfl (fun x5 s7 => ?_) (fun s7 => ?_)
  · refine xm_gd fun h8 => ?_
    refine xm_gd fun h9 => ?_
    refine xm_set (en := Dat.int) 6 (ev_mod (ev_name 3 rfl) (ev_len (Ev.toB (ev_name 2 rfl)) (dlen_tx (lenOk_ok h8)) T.b_len) (of_decide_eq_true h9)) sc_law_signs.nd (fun at_ => ?_)
    refine xm_gd fun h10 => ?_
    refine xm_gd fun h11 => ?_
    refine xm_set (en := Dat.int) 3 (ev_fdiv (ev_name 3 rfl) (ev_len (Ev.toB (ev_name 2 rfl)) (dlen_tx (lenOk_ok h10)) T.b_len) (divOk_1 h11) (divOk_2 h11)) sc_law_signs.nd (fun number_ => ?_)
    refine xm_gd fun h12 => ?_
    refine xm_ofO fun r13 h14 => ?_
    refine xm_gd fun h15 => ?_
    refine xm_set (en := tx) 4 (ev_catX (ev_name 4 rfl) (ev_ixX (ev_name 2 rfl) (ev_name 6 rfl) (lenOk_ok h12) h14) (catOk_ok h15)) sc_law_signs.nd (fun found_ => ?_)
    refine xm_gd fun h16 => ?_
    refine xm_gd fun h17 => ?_
    refine xm_gd fun h18 => ?_
    refine xm_set (en := tx) 2 (ev_catX (ev_slX (ev_name 2 rfl) eo_none (eo_some (ev_name 6 rfl)) (lenOk_ok h16)) (ev_slX (ev_name 2 rfl) (eo_some (ev_add (ev_name 6 rfl) ev_int)) eo_none (lenOk_ok h17)) (catOk_ok h18)) sc_law_signs.nd (fun some_ => ?_)
    exact xm_end [5, 6]
  exact xm_ret (ev_name 4 rfl)
def R_law_frame : List Dat → Res → Prop := fun ds o => ∃ (cell_ : Int), ds = [Dat.int cell_] ∧ Rm (tup2 tx Dat.int) (m_law_frame cell_) o
theorem ok_law_frame (T : Txt K mg) (G_law_signs : GFn P w K mg base "_law_signs" 1 R_law_signs) (D : Df K mg "_law_frame" s_law_frame ["cell"]) : GFn P w K mg base "_law_frame" 2 R_law_frame := by
  refine GFn.mk2 D sc_law_frame (fun ds o h => by obtain ⟨_, rfl, _⟩ := h; rfl) fun f cdv A outer s H E hr ds o hR => ?_
  obtain ⟨cell_, rfl, hm⟩ := hR
  refine ⟨_, (.im ((fun _ => rfl) _) .nil), fun H0 => ends_m (k := 3) (en := (tup2 tx Dat.int)) ?_ o hm⟩
  unfold m_law_frame
  refine xm_set (en := Dat.int) 1 (ev_add ev_int (ev_mod (ev_name 0 rfl) ev_int (by decide))) sc_law_frame.nd (fun many_ => ?_)
  refine xm_ofO fun r1 h2 => ?_
  refine xm_set (en := Dat.int) 2 (ev_ixLm (en := Dat.int) (l := [(2 : Int), (3 : Int), (1 : Int), (0 : Int), (2 : Int), (3 : Int), (4 : Int), (1 : Int), (5 : Int), (6 : Int)]) (EvO.ev (eo_lst (ea_cons ev_int (ea_cons ev_int (ea_cons ev_int (ea_cons ev_int (ea_cons ev_int (ea_cons ev_int (ea_cons ev_int (ea_cons ev_int (ea_cons ev_int (ea_cons ev_int ea_nil)))))))))) (by show 10 ≤ sizeLine; decide))) (ev_mod (ev_fdiv (ev_name 0 rfl) ev_int (by decide) (by decide +kernel)) ev_int (by decide)) h2) sc_law_frame.nd (fun depth_ => ?_)
  refine xm_bind fun r3 h4 => ?_
  exact xm_ret (ev_tup (ea_cons (by exact evm_get (en := tx) (v := r3) (evm_call (en := tx) G_law_signs (by exact hr.mono (by first | decide | omega)) (eab_cons (Ev.toB (ev_fdiv (ev_name 0 rfl) ev_int (by decide) (by decide +kernel))) (eab_cons (Ev.toB (ev_name 1 rfl)) eab_nil)) (fun o q => ⟨(cell_ / (50 : Int)), many_, rfl, q⟩)) h4) (ea_cons (ev_name 2 rfl) ea_nil)) (by show 2 ≤ sizeLine; decide))
def R_law_cells : List Dat → Res → Prop := fun ds o => ∃ (script_ : (List Int)) (many_ : Int), ds = [(lstd Dat.int) script_, Dat.int many_] ∧ RmO (lstd Dat.int) (m_law_cells script_ many_) o
theorem ok_law_cells (T : Txt K mg) (G_law_cell_at : GFn P w K mg base "_law_cell_at" 1 R_law_cell_at) (D : Df K mg "_law_cells" s_law_cells ["script", "many"]) : GFn P w K mg base "_law_cells" 2 R_law_cells := by
  refine GFn.mk2 D sc_law_cells (fun ds o h => by obtain ⟨_, _, rfl, _⟩ := h; rfl) fun f cdv A outer s H E hr ds o hR => ?_
  obtain ⟨script_, many_, rfl, hm⟩ := hR
  refine ⟨_, (.ol (.im ((fun _ => rfl) _) .nil)), fun H0 => ends_mO (k := 5) (en := (lstd Dat.int)) ?_ o hm⟩
  unfold m_law_cells
  refine xm_bind fun r1 h2 => ?_
  refine xm_set (en := Dat.int) 2 (ev_mod (ev_fdiv (by exact evm_get (en := Dat.int) (v := r1) (evm_call (en := Dat.int) G_law_cell_at (by exact hr.mono (by first | decide | omega)) (eab_cons (eb_name_ol 0 rfl) (eab_cons (Ev.toB ev_int) eab_nil)) (fun o q => ⟨script_, (1 : Int), rfl, q⟩)) h2) ev_int (by decide) (by decide +kernel)) ev_int (by decide)) sc_law_cells.nd (fun way_ => ?_)
  refine xm_gd fun h3 => ?_
  refine xm_set (en := Dat.int) 3 (ev_fdiv ev_int (ev_name 1 rfl) (divOk_1 h3) (divOk_2 h3)) sc_law_cells.nd (fun most_ => ?_)
  refine xm_ifX (fun _ => trivial) (et_eq (ev_name 2 rfl) ev_int) (fun hc => ?_) (fun hc => ?_)
  · refine xm_bind fun r4 h5 => ?_
    refine xm_gd fun h6 => ?_
    refine xm_gd fun h7 => ?_
    refine xm_gd fun h8 => ?_
    refine xm_bind fun r9 h10 => ?_
    exact xm_retO (eo_compM (xn := "k") (ea := Dat.int) (eb := Dat.int) 4 inj_int rfl sc_law_cells.nd (itm_r1 (ev_mod (ev_fdiv (by exact evm_get (en := Dat.int) (v := r4) (evm_call (en := Dat.int) G_law_cell_at (by exact hr.mono (by first | decide | omega)) (eab_cons (eb_name_ol 0 rfl) (eab_cons (Ev.toB ev_int) eab_nil)) (fun o q => ⟨script_, (1 : Int), rfl, q⟩)) h5) ev_int (by decide) (by decide +kernel)) (ev_add (ev_name 3 rfl) ev_int) (of_decide_eq_true h6)) h7 T.b_range) rfl rfl (fun _ _ _ _ _ => pg_name sc_law_cells.nd rfl (by first | exact Or.inl rfl | exact Or.inr rfl)) h10 (.inl ⟨rfl, fun _ => rfl⟩) (fun H0' s' H' C' cl' fp' hs' k_ => (evm_ok ev_int)) h8)
  refine xm_ifX (fun _ => trivial) (et_eq (ev_name 2 rfl) ev_int) (fun hc => ?_) (fun hc => ?_)
  · refine xm_gd fun h11 => ?_
    refine xm_bind fun r12 h13 => ?_
    refine xm_gd fun h14 => ?_
    exact xm_retO (eo_slLm (en := Dat.int) (l := (repS (cut script_ (some (3 : Int)) (some (63 : Int))) (17 : Int))) (fun _ => rfl) (Ev.toB (EvO.ev (eo_repOm (en := Dat.int) (l := (cut script_ (some (3 : Int)) (some (63 : Int)))) (eo_slLm (en := Dat.int) (l := script_) (fun _ => rfl) (eb_name_ol 0 rfl) (eo_some ev_int) (eo_some ev_int)) ev_int h11))) eo_none (eo_some (ev_mod (ev_fdiv (by exact evm_get (en := Dat.int) (v := r12) (evm_call (en := Dat.int) G_law_cell_at (by exact hr.mono (by first | decide | omega)) (eab_cons (eb_name_ol 0 rfl) (eab_cons (Ev.toB ev_int) eab_nil)) (fun o q => ⟨script_, (1 : Int), rfl, q⟩)) h13) ev_int (by decide) (by decide +kernel)) (ev_add (ev_name 3 rfl) ev_int) (of_decide_eq_true h14))))
  exact xm_retO (eo_slLm (en := Dat.int) (l := script_) (fun _ => rfl) (eb_name_ol 0 rfl) (eo_some ev_int) (eo_some ev_int))
def R_law_thing : List Dat → Res → Prop := fun ds o => ∃ (thing_ : Tr) (kind_ : Int) (many_ : Int), ds = [trd thing_, Dat.int kind_, Dat.int many_] ∧ Rm idd (m_law_thing thing_ kind_ many_) o
theorem ok_law_thing (T : Txt K mg)  (D : Df K mg "_law_thing" s_law_thing ["thing", "kind", "many"]) : GFn P w K mg base "_law_thing" 1 R_law_thing := by
  refine GFn.mk2 D sc_law_thing (fun ds o h => by obtain ⟨_, _, _, rfl, _⟩ := h; rfl) fun f cdv A outer s H E hr ds o hR => ?_
  obtain ⟨thing_, kind_, many_, rfl, hm⟩ := hR
  refine ⟨_, (.im (flat_trd _) (.im ((fun _ => rfl) _) (.im ((fun _ => rfl) _) .nil))), fun H0 => ends_m (k := 4) (en := idd) ?_ o hm⟩
  unfold m_law_thing
  refine xm_ifX (fun _ => trivial) (et_eq (ev_name 1 rfl) ev_int) (fun hc => ?_) (fun hc => ?_)
  · refine xm_gd fun h1 => ?_
    refine xm_gd fun h2 => ?_
    refine xm_bind fun r3 h4 => ?_
    exact xm_ret (EvO.ev (eo_compM (xn := "k") (ea := Dat.int) (eb := nond) 3 inj_int rfl sc_law_thing.nd (itm_r1 (ev_name 2 rfl) h1 T.b_range) rfl rfl (fun _ _ _ _ _ => pg_name sc_law_thing.nd rfl (by first | exact Or.inl rfl | exact Or.inr rfl)) h4 (.inl ⟨rfl, fun _ => rfl⟩) (fun H0' s' H' C' cl' fp' hs' k_ => (evm_ok ev_non)) h2))
  refine xm_ifX (fun _ => trivial) (et_eq (ev_name 1 rfl) ev_int) (fun hc => ?_) (fun hc => ?_)
  · refine xm_gd fun h5 => ?_
    refine xm_gd fun h6 => ?_
    refine xm_bind fun r7 h8 => ?_
    exact xm_ret (ev_tupleLm (fun _ => rfl) (Ev.toB (EvO.ev (eo_compM (xn := "k") (ea := Dat.int) (eb := nond) 3 inj_int rfl sc_law_thing.nd (itm_r1 (ev_add (ev_name 2 rfl) ev_int) h5 T.b_range) rfl rfl (fun _ _ _ _ _ => pg_name sc_law_thing.nd rfl (by first | exact Or.inl rfl | exact Or.inr rfl)) h8 (.inl ⟨rfl, fun _ => rfl⟩) (fun H0' s' H' C' cl' fp' hs' k_ => (evm_ok ev_non)) h6))) T.b_tuple)
  refine xm_ifX (fun _ => trivial) (et_eq (ev_name 1 rfl) ev_int) (fun hc => ?_) (fun hc => ?_)
  · refine xm_gd fun h9 => ?_
    refine xm_gd fun h10 => ?_
    refine xm_bind fun r11 h12 => ?_
    exact xm_ret (ev_tupleLm (fun _ => rfl) (Ev.toB (EvO.ev (eo_compM (xn := "k") (ea := Dat.int) (eb := nond) 3 inj_int rfl sc_law_thing.nd (itm_r1 (ev_sub (ev_name 2 rfl) ev_int) h9 T.b_range) rfl rfl (fun _ _ _ _ _ => pg_name sc_law_thing.nd rfl (by first | exact Or.inl rfl | exact Or.inr rfl)) h12 (.inl ⟨rfl, fun _ => rfl⟩) (fun H0' s' H' C' cl' fp' hs' k_ => (evm_ok ev_non)) h10))) T.b_tuple)
  refine xm_ifX (fun _ => trivial) (et_eq (ev_name 1 rfl) ev_int) (fun hc => ?_) (fun hc => ?_)
  · refine xm_gd fun h13 => ?_
    refine xm_gd fun h14 => ?_
    refine xm_bind fun r15 h16 => ?_
    exact xm_ret (ev_tupleLm (fun _ => rfl) (Ev.toB (EvO.ev (eo_compM (xn := "k") (ea := Dat.int) (eb := nond) 3 inj_int rfl sc_law_thing.nd (itm_r1 (ev_name 2 rfl) h13 T.b_range) rfl rfl (fun _ _ _ _ _ => pg_name sc_law_thing.nd rfl (by first | exact Or.inl rfl | exact Or.inr rfl)) h16 (.inl ⟨rfl, fun _ => rfl⟩) (fun H0' s' H' C' cl' fp' hs' k_ => (evm_ok ev_non)) h14))) T.b_tuple)
  refine xm_ifX (fun _ => trivial) (EvW.t (ew_and (et_eq (ev_name 1 rfl) ev_int) fun hq => (ew_and1 (et_to (et_notN (Ev.toB (ev_name 0 rfl))) (congrArg (fun q => !q) (isNon_trd thing_)))))) (fun hc => ?_) (fun hc => ?_)
  · refine xm_ofO fun r17 h18 => ?_
    exact xm_ret (EvO.ev (eo_listTm flat_trd (Ev.toB (ev_trk (ev_name 0 rfl) h18)) T.b_list))
  refine xm_gd fun h19 => ?_
  refine xm_ofO fun r20 h21 => ?_
  exact xm_ret (ev_ixLm (en := idd) (l := [(Dat.bl false), (Dat.tup []), (tx ([46] : List Nat)), (Dat.int (0 : Int)), (Dat.bl true), (tx ([] : List Nat)), ((lstd Dat.int) []), ((dicd Dat.int) []), (Dat.int (7 : Int)), (tx ([40, 46, 46, 41] : List Nat)), (tx (repS ([46] : List Nat) many_)), (Dat.int (-1 : Int))]) (EvO.ev (eo_lstD (ds := [(Dat.bl false), (Dat.tup []), (tx ([46] : List Nat)), (Dat.int (0 : Int)), (Dat.bl true), (tx ([] : List Nat)), ((lstd Dat.int) []), ((dicd Dat.int) []), (Dat.int (7 : Int)), (tx ([40, 46, 46, 41] : List Nat)), (tx (repS ([46] : List Nat) many_)), (Dat.int (-1 : Int))]) (ea_cons ev_bl (ea_cons (ev_tup ea_nil (by show 0 ≤ sizeLine; decide)) (ea_cons (ev_lit (l := [46])) (ea_cons ev_int (ea_cons ev_bl (ea_cons (ev_lit (l := [])) (ea_cons (EvO.ev (eo_lst ea_nil (by show 0 ≤ sizeLine; decide))) (ea_cons (EvO.ev eo_dic0) (ea_cons ev_int (ea_cons (ev_lit (l := [40, 46, 46, 41])) (ea_cons (ev_repXm (ev_lit (l := [46])) (ev_name 2 rfl) h19) (ea_cons (ev_neg ev_int) ea_nil)))))))))))) (by show 12 ≤ sizeLine; decide))) (ev_sub (ev_name 1 rfl) ev_int) h21)
def R_law_tree : List Dat → Res → Prop := fun ds o => ∃ (cells_ : (List Int)) (many_ : Int) (depth_ : Int) (place_ : Int) (kind_ : Int), ds = [(lstd Dat.int) cells_, Dat.int many_, Dat.int depth_, Dat.int place_, Dat.int kind_] ∧ Rm idd (m_law_tree cells_ many_ depth_ place_ kind_) o
theorem ok_law_tree (T : Txt K mg) (G_law_thing : GFn P w K mg base "_law_thing" 1 R_law_thing) (D : Df K mg "_law_tree" s_law_tree ["cells", "many", "depth", "place", "kind"]) : GFn P w K mg base "_law_tree" 2 R_law_tree := by
  refine GFn.mk2 D sc_law_tree (fun ds o h => by obtain ⟨_, _, _, _, _, rfl, _⟩ := h; rfl) fun f cdv A outer s H E hr ds o hR => ?_
  obtain ⟨cells_, many_, depth_, place_, kind_, rfl, hm⟩ := hR
  refine ⟨_, (.ol (.im ((fun _ => rfl) _) (.im ((fun _ => rfl) _) (.im ((fun _ => rfl) _) (.im ((fun _ => rfl) _) .nil))))), fun H0 => ends_m (k := 9) (en := idd) ?_ o hm⟩
  unfold m_law_tree
  refine xm_lend 0 rfl (fun ca hca => ?_)
  refine xz_start (i := 5) (noOl_of rfl) rfl ?_ sc_law_tree.nd
  refine xz_one (fun at_ => [.rf ca, .im (Dat.int many_), .im (Dat.int depth_), .im (Dat.int place_), .im (Dat.int kind_), .no, .im (Dat.int at_), .no, .no]) (Φ := fun G => At K G (.ref ca) ((lstd Dat.int) cells_)) hca (fun s h => h.mono s) (fun H0b bp hF => ?_) (fun at_ => ?_)
  · refine xm_set (en := Dat.int) 6 ev_int sc_law_tree.nd (fun at_ => ?_)
    exact xm_end []
  refine xz_one (fun placed_ => [.rf ca, .im (Dat.int many_), .im (Dat.int depth_), .im (Dat.int place_), .im (Dat.int kind_), .no, .im (Dat.int at_), .im (Dat.int placed_), .no]) (Φ := fun G => At K G (.ref ca) ((lstd Dat.int) cells_)) hca (fun s h => h.mono s) (fun H0b bp hF => ?_) (fun placed_ => ?_)
  · refine xm_set (en := Dat.int) 7 ev_int sc_law_tree.nd (fun placed_ => ?_)
    exact xm_end []
  refine xz_whileM (eS := (fun (s : (List (List Dat)) × Int × Int) => [.rf ca, .im (Dat.int many_), .im (Dat.int depth_), .im (Dat.int place_), .im (Dat.int kind_), .no, .im (Dat.int s.2.1), .im (Dat.int s.2.2), .no])) (tS := (fun (s1 : (List (List Dat)) × Int × Int) => s1.1)) (passes_of rfl) rfl rfl (fun s1 => (etzm_ofO fun r2 h3 => (etzm_ok (etp_see (noOl_of rfl) (Nat.le_of_ble_eq_true rfl) (Φ := fun G => At K G (.ref ca) ((lstd Dat.int) cells_)) hca (fun H0b hF => (et_eqE (en := idd) hr.units (Ev.toB (ev_ixLm (en := (lstd idd)) (l := s1.1) (ev_name 5 rfl) ev_int h3)) (Ev.toB (EvO.ev (eo_lst ea_nil (by show 0 ≤ sizeLine; decide)))))))))) (fun s1 => ?_) (fun s1 => ?_)
  · refine xz_bind fun r8 h9 => ?_
    refine xz_if (eS := (fun (s : (List (List Dat)) × Int) => [.rf ca, .im (Dat.int many_), .im (Dat.int depth_), .im (Dat.int place_), .im (Dat.int kind_), .no, .im (Dat.int s1.2.1), .im (Dat.int s.2), .no])) (tS := (fun (s10 : (List (List Dat)) × Int) => s10.1)) (etp_see (noOl_of rfl) (Nat.le_of_ble_eq_true rfl) (Φ := fun G => At K G (.ref ca) ((lstd Dat.int) cells_)) hca (fun H0b hF => (EvW.t (ewm_get (ewm_and (et_le (ev_lenm (Ev.toB (ev_name 5 rfl)) T.b_len) (ev_name 2 rfl)) (fun hq => (ewm_bind fun r6 h7 => (ewm_ok (ewm_get (ewm_and (et_lt (ev_name 6 rfl) (ev_lenm (eb_name_rf 0 rfl hF) T.b_len)) (fun hq => (ewm_ofO fun r4 h5 => (ewm_ok (ew_and1 (et_gt (ev_mod (EvB.flat (eb_ixLm (en := Dat.int) (eb_name_rf 0 rfl hF) (ev_name 6 rfl) h5) ((fun _ => rfl) _)) ev_int (by decide)) ev_int)))))) h7))))) h9)))) (fun hc => ?_) (fun hc => ?_) (fun s10 => ?_)
    · refine xz_gd fun h11 => ?_
      refine xz_push (noOl_of rfl) (Nat.le_of_ble_eq_true rfl) (Φ := fun G => At K G (.ref ca) ((lstd Dat.int) cells_)) hca (fun s h => h.mono s) (fun H0b bp _ => eo_lst ea_nil (by show 0 ≤ sizeLine; decide)) h11 (fun pile_ => ?_)
      exact xz_end
    · refine xz_ofO fun r12 h13 => ?_
      refine xz_gd fun h14 => ?_
      refine xz_add (dd := (nond ())) (noOl_of rfl) (Nat.le_of_ble_eq_true rfl) (Φ := fun G => At K G (.ref ca) ((lstd Dat.int) cells_)) hca (fun s h => h.mono s) (gl_ok h13) (fun H0b bp _ => ev_neg ev_int) (fun H0b bp _ => ev_non) h14 (fun pile_ => ?_)
      refine xz_if (eS := (fun (s : (List (List Dat))) => [.rf ca, .im (Dat.int many_), .im (Dat.int depth_), .im (Dat.int place_), .im (Dat.int kind_), .no, .im (Dat.int s1.2.1), .im (Dat.int s1.2.2), .no])) (tS := (fun (s15 : (List (List Dat))) => s15)) (etp_see (noOl_of rfl) (Nat.le_of_ble_eq_true rfl) (Φ := fun G => At K G (.ref ca) ((lstd Dat.int) cells_)) hca (fun H0b hF => (et_eq (ev_name 7 rfl) (ev_name 3 rfl)))) (fun hc => ?_) (fun hc => ?_) (fun s15 => ?_)
      · refine xz_ofO fun r16 h17 => ?_
        refine xz_bind fun r18 h19 => ?_
        refine xz_ofO fun r20 h21 => ?_
        refine xz_put (dd := r18) (noOl_of rfl) (Nat.le_of_ble_eq_true rfl) (Φ := fun G => At K G (.ref ca) ((lstd Dat.int) cells_)) hca (fun s h => h.mono s) (gl_ok h17) (fun H0b bp _ => ev_neg ev_int) (fun H0b bp _ => ev_neg ev_int) (fun H0b bp _ => (by exact evm_get (en := idd) (v := r18) (evm_call (en := idd) G_law_thing (by exact hr.mono (by first | decide | omega)) (eab_cons (Ev.toB (ev_trl ev_non)) (eab_cons (Ev.toB (ev_name 4 rfl)) (eab_cons (Ev.toB (ev_name 1 rfl)) eab_nil))) (fun o q => ⟨Tr.leaf, kind_, many_, rfl, q⟩)) h19)) h21 (fun pile_ => ?_)
        exact xz_end
      · exact xz_end
      refine xz_one (fun placed_ => [.rf ca, .im (Dat.int many_), .im (Dat.int depth_), .im (Dat.int place_), .im (Dat.int kind_), .no, .im (Dat.int s1.2.1), .im (Dat.int placed_), .no]) (Φ := fun G => At K G (.ref ca) ((lstd Dat.int) cells_)) hca (fun s h => h.mono s) (fun H0b bp hF => ?_) (fun placed_ => ?_)
      · refine xm_set (en := Dat.int) 7 (ev_add (ev_name 7 rfl) ev_int) sc_law_tree.nd (fun placed_ => ?_)
        exact xm_end []
      exact xz_end
    refine xz_one (fun at_ => [.rf ca, .im (Dat.int many_), .im (Dat.int depth_), .im (Dat.int place_), .im (Dat.int kind_), .no, .im (Dat.int at_), .im (Dat.int s10.2), .no]) (Φ := fun G => At K G (.ref ca) ((lstd Dat.int) cells_)) hca (fun s h => h.mono s) (fun H0b bp hF => ?_) (fun at_ => ?_)
    · refine xm_set (en := Dat.int) 6 (ev_add (ev_name 6 rfl) ev_int) sc_law_tree.nd (fun at_ => ?_)
      exact xm_end []
    refine xz_whileM (eS := (fun (s : (List (List Dat)) × Int) => [.rf ca, .im (Dat.int many_), .im (Dat.int depth_), .im (Dat.int place_), .im (Dat.int kind_), .no, .im (Dat.int at_), .im (Dat.int s.2), .no])) (tS := (fun (s22 : (List (List Dat)) × Int) => s22.1)) (passes_of rfl) rfl rfl (fun s22 => (etzm_bind fun r25 h26 => (etzm_ok (etp_see (noOl_of rfl) (Nat.le_of_ble_eq_true rfl) (Φ := fun G => At K G (.ref ca) ((lstd Dat.int) cells_)) hca (fun H0b hF => (EvW.t (ewm_get (ewm_and (et_gt (ev_lenm (Ev.toB (ev_name 5 rfl)) T.b_len) ev_int) (fun hq => (ewm_ofO fun r23 h24 => (ewm_ok (ew_and1 (et_eq (ev_lenm (Ev.toB (ev_ixLm (en := (lstd idd)) (l := s22.1) (ev_name 5 rfl) (ev_neg ev_int) h24)) T.b_len) (ev_name 1 rfl))))))) h26))))))) (fun s22 => ?_) (fun s22 => ?_)
    · refine xz_ofO fun r27 h28 => ?_
      refine xz_pop 8 (noOl_of rfl) (Nat.le_of_ble_eq_true rfl) (by decide) (gl_ok h28) sc_law_tree.nd T.b_tuple (fun q29 => ?_)
      refine xz_ofO fun r30 h31 => ?_
      refine xz_gd fun h32 => ?_
      refine xz_add (dd := (Dat.tup q29.1)) (noOl_of rfl) (Nat.le_of_ble_eq_true rfl) (Φ := fun G => At K G (.ref ca) ((lstd Dat.int) cells_)) hca (fun s h => h.mono s) (gl_ok h31) (fun H0b bp _ => ev_neg ev_int) (fun H0b bp _ => (ev_name 8 rfl)) h32 (fun pile_ => ?_)
      refine xz_if (eS := (fun (s : (List (List Dat))) => [.rf ca, .im (Dat.int many_), .im (Dat.int depth_), .im (Dat.int place_), .im (Dat.int kind_), .no, .im (Dat.int at_), .im (Dat.int s22.2), .no])) (tS := (fun (s33 : (List (List Dat))) => s33)) (etp_see (noOl_of rfl) (Nat.le_of_ble_eq_true rfl) (Φ := fun G => At K G (.ref ca) ((lstd Dat.int) cells_)) hca (fun H0b hF => (et_eq (ev_name 7 rfl) (ev_name 3 rfl)))) (fun hc => ?_) (fun hc => ?_) (fun s33 => ?_)
      · refine xz_ofO fun r34 h35 => ?_
        refine xz_ofO fun r36 h37 => ?_
        refine xz_bind fun r38 h39 => ?_
        refine xz_ofO fun r40 h41 => ?_
        refine xz_put (dd := r38) (noOl_of rfl) (Nat.le_of_ble_eq_true rfl) (Φ := fun G => At K G (.ref ca) ((lstd Dat.int) cells_)) hca (fun s h => h.mono s) (gl_ok h35) (fun H0b bp _ => ev_neg ev_int) (fun H0b bp _ => ev_neg ev_int) (fun H0b bp _ => (by exact evm_get (en := idd) (v := r38) (evm_call (en := idd) G_law_thing (by exact hr.mono (by first | decide | omega)) (eab_cons (Ev.toB (ev_trOf (ev_name 8 rfl) h37)) (eab_cons (Ev.toB (ev_name 4 rfl)) (eab_cons (Ev.toB (ev_name 1 rfl)) eab_nil))) (fun o q => ⟨r36, kind_, many_, rfl, q⟩)) h39)) h41 (fun pile_ => ?_)
        refine xz_drop 8 (by decide) ?_
        exact xz_end
      · refine xz_drop 8 (by decide) ?_
        exact xz_end
      refine xz_one (fun placed_ => [.rf ca, .im (Dat.int many_), .im (Dat.int depth_), .im (Dat.int place_), .im (Dat.int kind_), .no, .im (Dat.int at_), .im (Dat.int placed_), .no]) (Φ := fun G => At K G (.ref ca) ((lstd Dat.int) cells_)) hca (fun s h => h.mono s) (fun H0b bp hF => ?_) (fun placed_ => ?_)
      · refine xm_set (en := Dat.int) 7 (ev_add (ev_name 7 rfl) ev_int) sc_law_tree.nd (fun placed_ => ?_)
        exact xm_end []
      exact xz_end
    exact xz_end
  refine xp_freeze (noOl_of rfl) (Nat.le_of_ble_eq_true rfl) ?_
  refine xm_ofO fun r42 h43 => ?_
  refine xm_ofO fun r44 h45 => ?_
  exact xm_ret (ev_ixLm (en := idd) (l := r42) (ev_ixLm (en := (lstd idd)) (l := s1.1) (ev_name 5 rfl) ev_int h43) ev_int h45)
def R_law_is : List Dat → Res → Prop := fun ds o => ∃ (thing_ : Dat) (many_ : Int) (depth_ : Int), ds = [idd thing_, Dat.int many_, Dat.int depth_] ∧ Rm Dat.bl (m_law_is thing_ many_ depth_) o
theorem ok_law_is (T : Txt K mg)  (D : Df K mg "_law_is" s_law_is ["thing", "many", "depth"]) : GFn P w K mg base "_law_is" 1 R_law_is := by
  refine GFn.mk2I D sc_law_is (fun ds o h => by obtain ⟨_, _, _, rfl, _⟩ := h; rfl) (fun ds o h => by obtain ⟨thing_, many_, depth_, _, hm⟩ := h; exact rm_flat (fun _ => rfl) hm) fun f cdv A outer s H E hr ds o hR => ?_
  obtain ⟨thing_, many_, depth_, rfl, hm⟩ := hR
  refine ⟨_, (.im (.im (.im .nil))), fun H0 => ends_m (k := 7) (en := Dat.bl) ?_ o hm⟩
  unfold m_law_is
  refine xm_setO (en := (lstd (tup2 idd Dat.int))) 3 ?_ sc_law_is.nd (fun pile_ => ?_)
  · exact (eo_lst (ea_cons (ev_tup (ea_cons (ev_name 0 rfl) (ea_cons (ev_name 2 rfl) ea_nil)) (by show 2 ≤ sizeLine; decide)) ea_nil) (by show 1 ≤ sizeLine; decide))
  refine xm_drops [0, 2] ?_
  refine xm_whileJT (eS := (fun (s : (List (Dat × Int))) => [.no, .im (Dat.int many_), .no, .ow ((lstd (tup2 idd Dat.int)) s), .no, .no, .no])) (oR := (fun r => Outc.rt (Dat.bl r))) (fun r => ⟨_, .inl rfl⟩) (passes_of rfl) rfl (fun s1 => (etm_ok (et_neE (en := (tup2 idd Dat.int)) hr.units (eb_name_ow 3 rfl) (Ev.toB (EvO.ev (eo_lst ea_nil (by show 0 ≤ sizeLine; decide))))))) (fun s1 => ?_) (fun s1 => ?_)
  · refine xm_ofO fun r2 h3 => ?_
    refine xm_popT (en := (tup2 idd Dat.int)) 3 rfl h3 (tg_pair 4 5 sc_law_is.nd rfl) (fun _ => ⟨_, _, rfl⟩) (fun q4 => ?_)
    refine xm_ifJ (eS := (fun (s : (List (Dat × Int))) => [.no, .im (Dat.int many_), .no, .ow ((lstd (tup2 idd Dat.int)) s), .no, .no, .no])) (eL := (fun (s : (List (Dat × Int))) => [.no, .im (Dat.int many_), .no, .ow ((lstd (tup2 idd Dat.int)) s), .no, .no, .no])) (oR := (fun r => Outc.rt (Dat.bl r))) (fun _ => trivial) (et_notN (Ev.toB (ev_name 4 rfl))) (fun hc => ?_) (fun hc => ?_) (fun s5 => ?_)
    · refine xm_bind fun r10 h11 => ?_
      refine xm_ifJ (eS := (fun (s : Unit) => [.no, .im (Dat.int many_), .no, .ow ((lstd (tup2 idd Dat.int)) q4.1), .im (idd q4.2.1), .im (Dat.int q4.2.2), .no])) (eL := (fun (s : (List (Dat × Int))) => [.no, .im (Dat.int many_), .no, .ow ((lstd (tup2 idd Dat.int)) s), .no, .no, .no])) (oR := (fun r => Outc.rt (Dat.bl r))) (fun _ => trivial) (EvW.t (ewm_get (ewm_or (et_not (et_val (ev_isi_tuple (d := idd q4.2.1) (Ev.toB (ev_name 4 rfl)) T.b_isinstance T.b_tuple))) (fun hq => (ewm_bind fun r8 h9 => (ewm_ok (ewm_get (ewm_or (et_eq (ev_name 5 rfl) ev_int) (fun hq => (ewm_ofO fun r6 h7 => (ewm_ok (ew_or1 (et_ne (ev_len (Ev.toB (ev_name 4 rfl)) h7 T.b_len) (ev_name 1 rfl))))))) h9))))) h11)) (fun hc => ?_) (fun hc => ?_) (fun s12 => ?_)
      · -- return False
        exact xm_ret ev_bl
      · exact xm_end []
      refine xm_ofO fun r16 h17 => ?_
      refine xm_for (ea := idd) (eS := (fun (s : (List (Dat × Int))) => [.no, .im (Dat.int many_), .no, .ow ((lstd (tup2 idd Dat.int)) s), .im (idd q4.2.1), .im (Dat.int q4.2.2), .no])) (passes_of rfl) rfl (it_tupD ((ev_name 4 rfl)) h17) (tg_name 6 sc_law_is.nd) (fun _ _ => trivial) rfl (fun x15 s18 => ?_) (fun s18 => ?_)
      · refine xm_gd fun h19 => ?_
        refine xm_append (en := (tup2 idd Dat.int)) 3 rfl (ev_tup (ea_cons (ev_name 6 rfl) (ea_cons (ev_sub (ev_name 5 rfl) ev_int) ea_nil)) (by show 2 ≤ sizeLine; decide)) h19 (fun pile_ => ?_)
        exact xm_end [6]
      exact xm_end [4, 5]
    · exact xm_end [4, 5]
    exact xm_end []
  exact xm_ret ev_bl
def R_law_text : List Dat → Res → Prop := fun ds o => ∃ (cells_ : (List Int)) (letters_ : List Nat) (lean_ : Bool), ds = [(lstd Dat.int) cells_, tx letters_, Dat.bl lean_] ∧ Rm tx (m_law_text cells_ letters_ lean_) o
theorem ok_law_text (T : Txt K mg)  (D : Df K mg "_law_text" s_law_text ["cells", "letters", "lean"]) : GFn P w K mg base "_law_text" 1 R_law_text := by
  refine GFn.mk2 D sc_law_text (fun ds o h => by obtain ⟨_, _, _, rfl, _⟩ := h; rfl) fun f cdv A outer s H E hr ds o hR => ?_
  obtain ⟨cells_, letters_, lean_, rfl, hm⟩ := hR
  refine ⟨_, (.ol (.im ((fun _ => rfl) _) (.im ((fun _ => rfl) _) .nil))), fun H0 => ends_m (k := 6) (en := tx) ?_ o hm⟩
  unfold m_law_text
  refine xm_set (en := tx) 3 (ev_lit (l := [])) sc_law_text.nd (fun text_ => ?_)
  refine xm_for (ea := Dat.int) (eS := (fun (s : List Nat) => [.ol ((lstd Dat.int) cells_), .im (tx letters_), .im (Dat.bl lean_), .im (tx s), .no, .no])) (passes_of rfl) rfl (itm_ol (fun _ => rfl) 0 rfl) (tg_name 4 sc_law_text.nd) (fun _ _ => trivial) rfl (fun x1 s2 => ?_) (fun s2 => ?_)
  · -- pick = cell // 3
    refine xm_set (en := Dat.int) 5 (ev_fdiv (ev_name 4 rfl) ev_int (by decide) (by decide +kernel)) sc_law_text.nd (fun pick_ => ?_)
    refine xm_bind fun r4 h5 => ?_
    refine xm_ifN (eS := (fun (s : List Nat) => [.ol ((lstd Dat.int) cells_), .im (tx letters_), .im (Dat.bl lean_), .im (tx s), .no, .no])) (EvW.t (ewm_get (ewm_and (et_val (ev_name 2 rfl)) (fun hq => (ewm_gd fun h3 => (ewm_ok (ew_and (et_gt (ev_len (Ev.toB (ev_name 3 rfl)) (dlen_tx (lenOk_ok h3)) T.b_len) ev_int) fun hq => (ew_and1 (et_gt (ev_mod (ev_name 5 rfl) ev_int (by decide)) ev_int))))))) h5)) (fun hc => ?_) (fun hc => ?_) (fun s6 => ?_)
    · refine xm_gd fun h7 => ?_
      refine xm_ofO fun r8 h9 => ?_
      refine xm_gd fun h10 => ?_
      refine xm_set (en := tx) 3 (ev_catX (ev_name 3 rfl) (ev_ixX (ev_name 3 rfl) (ev_sub (ev_neg ev_int) (ev_mod (ev_fdiv (ev_name 5 rfl) ev_int (by decide) (by decide +kernel)) ev_int (by decide))) (lenOk_ok h7) h9) (catOk_ok h10)) sc_law_text.nd (fun text_ => ?_)
      exact xm_end [4, 5]
    · refine xm_gd fun h11 => ?_
      refine xm_gd fun h12 => ?_
      refine xm_gd fun h13 => ?_
      refine xm_ofO fun r14 h15 => ?_
      refine xm_gd fun h16 => ?_
      refine xm_set (en := tx) 3 (ev_catX (ev_name 3 rfl) (ev_ixX (ev_name 1 rfl) (ev_mod (ev_fdiv (ev_name 5 rfl) ev_int (by decide) (by decide +kernel)) (ev_len (Ev.toB (ev_name 1 rfl)) (dlen_tx (lenOk_ok h11)) T.b_len) (of_decide_eq_true h12)) (lenOk_ok h13) h15) (catOk_ok h16)) sc_law_text.nd (fun text_ => ?_)
      exact xm_end [4, 5]
    exact xm_end []
  exact xm_ret (ev_name 3 rfl)
def R_law_elders : List Dat → Res → Prop := fun ds o => ∃ (frame_ : ((List Nat) × Int)) (text_ : List Nat) (at_ : Int), ds = [(tup2 tx Dat.int) frame_, tx text_, Dat.int at_] ∧ Rm tx (m_law_elders frame_ text_ at_) o
theorem ok_law_elders (T : Txt K mg)  (D : Df K mg "_law_elders" s_law_elders ["frame", "text", "at"]) : GFn P w K mg base "_law_elders" 1 R_law_elders := by
  refine GFn.mk2 D sc_law_elders (fun ds o h => by obtain ⟨_, _, _, rfl, _⟩ := h; rfl) fun f cdv A outer s H E hr ds o hR => ?_
  obtain ⟨frame_, text_, at_, rfl, hm⟩ := hR
  refine ⟨_, (.im ((fun _ => rfl) _) (.im ((fun _ => rfl) _) (.im ((fun _ => rfl) _) .nil))), fun H0 => ends_m (k := 5) (en := tx) ?_ o hm⟩
  unfold m_law_elders
  refine xm_set (en := tx) 3 (ev_lit (l := [])) sc_law_elders.nd (fun row_ => ?_)
  refine xm_gd fun h3 => ?_
  refine xm_for (ea := Dat.int) (eS := (fun (s : List Nat) => [.im ((tup2 tx Dat.int) frame_), .im (tx text_), .im (Dat.int at_), .im (tx s), .no])) (passes_of rfl) rfl (itm_r1 (ev_ixT (ev_name 0 rfl) ev_int (by rfl)) h3 T.b_range) (tg_name 4 sc_law_elders.nd) (fun _ _ => trivial) rfl (fun x2 s4 => ?_) (fun s4 => ?_)
  · -- if at > k
    refine xm_ifN (eS := (fun (s : List Nat) => [.im ((tup2 tx Dat.int) frame_), .im (tx text_), .im (Dat.int at_), .im (tx s), .no])) (et_gt (ev_name 2 rfl) (ev_name 4 rfl)) (fun hc => ?_) (fun hc => ?_) (fun s5 => ?_)
    · refine xm_gd fun h6 => ?_
      refine xm_ofO fun r7 h8 => ?_
      refine xm_gd fun h9 => ?_
      refine xm_set (en := tx) 3 (ev_catX (ev_name 3 rfl) (ev_ixX (ev_name 1 rfl) (ev_sub (ev_sub (ev_name 2 rfl) ev_int) (ev_name 4 rfl)) (lenOk_ok h6) h8) (catOk_ok h9)) sc_law_elders.nd (fun row_ => ?_)
      exact xm_end [4]
    · refine xm_gd fun h10 => ?_
      refine xm_ofO fun r11 h12 => ?_
      refine xm_gd fun h13 => ?_
      refine xm_set (en := tx) 3 (ev_catX (ev_name 3 rfl) (ev_ixX (ev_ixT (ev_name 0 rfl) ev_int (by rfl)) ev_int (lenOk_ok h10) h12) (catOk_ok h13)) sc_law_elders.nd (fun row_ => ?_)
      exact xm_end [4]
    exact xm_end []
  exact xm_ret (ev_name 3 rfl)
def R_law_whole : List Dat → Res → Prop := fun ds o => ∃ (found_ : Int), ds = [Dat.int found_] ∧ Rm Dat.bl (m_law_whole found_) o
theorem ok_law_whole (T : Txt K mg)  (D : Df K mg "_law_whole" s_law_whole ["found"]) : GFn P w K mg base "_law_whole" 1 R_law_whole := by
  refine GFn.mk2 D sc_law_whole (fun ds o h => by obtain ⟨_, rfl, _⟩ := h; rfl) fun f cdv A outer s H E hr ds o hR => ?_
  obtain ⟨found_, rfl, hm⟩ := hR
  refine ⟨_, (.im ((fun _ => rfl) _) .nil), fun H0 => ends_m (k := 1) (en := Dat.bl) ?_ o hm⟩
  unfold m_law_whole
  exact xm_ret (ev_andB (ev_to (d := Dat.bl true) (ev_isi_int (d := Dat.int found_) (Ev.toB (ev_name 0 rfl)) T.b_isinstance T.b_int) rfl) fun hq => (ev_one (ev_not (ev_to (d := Dat.bl false) (ev_isi_bool (d := Dat.int found_) (Ev.toB (ev_name 0 rfl)) T.b_isinstance T.b_bool) rfl))))
def R_law_divisor : List Dat → Res → Prop := fun ds o => ∃ (one_ : Int) (other_ : Int), ds = [Dat.int one_, Dat.int other_] ∧ Rm Dat.int (m_law_divisor one_ other_) o
theorem ok_law_divisor (T : Txt K mg)  (D : Df K mg "_law_divisor" s_law_divisor ["one", "other"]) : GFn P w K mg base "_law_divisor" 1 R_law_divisor := by
  refine GFn.mk2 D sc_law_divisor (fun ds o h => by obtain ⟨_, _, rfl, _⟩ := h; rfl) fun f cdv A outer s H E hr ds o hR => ?_
  obtain ⟨one_, other_, rfl, hm⟩ := hR
  refine ⟨_, (.im ((fun _ => rfl) _) (.im ((fun _ => rfl) _) .nil)), fun H0 => ends_m (k := 2) (en := Dat.int) ?_ o hm⟩
  unfold m_law_divisor
  refine xm_while (eS := (fun (s : Int × Int) => [.im (Dat.int s.1), .im (Dat.int s.2)])) (passes_of rfl) rfl (fun s1 => (etm_ok (et_ne (ev_name 1 rfl) ev_int))) (fun s1 => ?_) (fun s1 => ?_)
  · refine xm_gd fun h2 => ?_
    refine xm_par2 (ea := Dat.int) (eb := Dat.int) 0 1 (ev_name 1 rfl) (ev_mod (ev_name 0 rfl) (ev_name 1 rfl) (of_decide_eq_true h2)) sc_law_divisor.nd rfl (by decide) (fun q3 => ?_)
    exact xm_end []
  exact xm_ret (ev_name 0 rfl)
def R_law_fraction : List Dat → Res → Prop := fun ds o => ∃ (found_ : (Int × Int)) (top_ : Int) (bottom_ : Int), ds = [(tup2 Dat.int Dat.int) found_, Dat.int top_, Dat.int bottom_] ∧ Rm Dat.bl (m_law_fraction found_ top_ bottom_) o
theorem ok_law_fraction (T : Txt K mg) (G_law_divisor : GFn P w K mg base "_law_divisor" 1 R_law_divisor) (G_law_whole : GFn P w K mg base "_law_whole" 1 R_law_whole) (D : Df K mg "_law_fraction" s_law_fraction ["found", "top", "bottom"]) : GFn P w K mg base "_law_fraction" 2 R_law_fraction := by
  refine GFn.mk2 D sc_law_fraction (fun ds o h => by obtain ⟨_, _, _, rfl, _⟩ := h; rfl) fun f cdv A outer s H E hr ds o hR => ?_
  obtain ⟨found_, top_, bottom_, rfl, hm⟩ := hR
  refine ⟨_, (.im ((fun _ => rfl) _) (.im ((fun _ => rfl) _) (.im ((fun _ => rfl) _) .nil))), fun H0 => ends_m (k := 3) (en := Dat.bl) ?_ o hm⟩
  unfold m_law_fraction
  refine xm_bind fun r9 h10 => ?_
  refine xm_ifX (fun _ => trivial) (EvW.t (ewm_get (ewm_or (et_not (et_val (ev_to (d := Dat.bl true) (ev_isi_tuple (d := (tup2 Dat.int Dat.int) found_) (Ev.toB (ev_name 0 rfl)) T.b_isinstance T.b_tuple) rfl))) (fun hq => (ewm_bind fun r7 h8 => (ewm_ok (ewm_get (ewm_or (et_ne (ev_len (Ev.toB (ev_name 0 rfl)) rfl T.b_len) ev_int) (fun hq => (ewm_bind fun r1 h2 => (ewm_bind fun r5 h6 => (ewm_ok (ewm_get (ewm_or (et_not (et_val (by exact evm_get (en := Dat.bl) (v := r1) (evm_call (en := Dat.bl) G_law_whole (by exact hr.mono (by first | decide | omega)) (eab_cons (Ev.toB (ev_ixT (ev_name 0 rfl) ev_int (by rfl))) eab_nil) (fun o q => ⟨found_.1, rfl, q⟩)) h2))) (fun hq => (ewm_bind fun r3 h4 => (ewm_ok (ew_or1 (et_not (et_val (by exact evm_get (en := Dat.bl) (v := r3) (evm_call (en := Dat.bl) G_law_whole (by exact hr.mono (by first | decide | omega)) (eab_cons (Ev.toB (ev_ixT (ev_name 0 rfl) ev_int (by rfl))) eab_nil) (fun o q => ⟨found_.2, rfl, q⟩)) h4)))))))) h6)))))) h8))))) h10)) (fun hc => ?_) (fun hc => ?_)
  · -- return False
    exact xm_ret ev_bl
  refine xm_bind fun r15 h16 => ?_
  refine xm_ifX (fun _ => trivial) (EvW.t (ewm_get (ewm_or (et_lt (ev_ixT (ev_name 0 rfl) ev_int (by rfl)) ev_int) (fun hq => (ewm_bind fun r13 h14 => (ewm_ok (ewm_get (ewm_or (et_lt (ev_ixT (ev_name 0 rfl) ev_int (by rfl)) ev_int) (fun hq => (ewm_gd fun h11 => (ewm_gd fun h12 => (ewm_ok (ew_or1 (et_ne (ev_mul (ev_ixT (ev_name 0 rfl) ev_int (by rfl)) (ev_name 2 rfl) (mulOk_ok h11)) (ev_mul (ev_name 1 rfl) (ev_ixT (ev_name 0 rfl) ev_int (by rfl)) (mulOk_ok h12))))))))) h14))))) h16)) (fun hc => ?_) (fun hc => ?_)
  · -- return False
    exact xm_ret ev_bl
  refine xm_bind fun r17 h18 => ?_
  exact xm_ret (ev_eq (by exact evm_get (en := Dat.int) (v := r17) (evm_call (en := Dat.int) G_law_divisor (by exact hr.mono (by first | decide | omega)) (eab_cons (Ev.toB (ev_ixT (ev_name 0 rfl) ev_int (by rfl))) (eab_cons (Ev.toB (ev_ixT (ev_name 0 rfl) ev_int (by rfl))) eab_nil)) (fun o q => ⟨found_.1, found_.2, rfl, q⟩)) h18) ev_int)
def R_law_spread : List Dat → Res → Prop := fun ds o => ∃ (cells_ : (List Int)) (size_ : Int), ds = [(lstd Dat.int) cells_, Dat.int size_] ∧ RmO (lstd Dat.int) (m_law_spread cells_ size_) o
theorem ok_law_spread (T : Txt K mg)  (D : Df K mg "_law_spread" s_law_spread ["cells", "size"]) : GFn P w K mg base "_law_spread" 1 R_law_spread := by
  refine GFn.mk2 D sc_law_spread (fun ds o h => by obtain ⟨_, _, rfl, _⟩ := h; rfl) fun f cdv A outer s H E hr ds o hR => ?_
  obtain ⟨cells_, size_, rfl, hm⟩ := hR
  refine ⟨_, (.ol (.im ((fun _ => rfl) _) .nil)), fun H0 => ends_mO (k := 5) (en := (lstd Dat.int)) ?_ o hm⟩
  unfold m_law_spread
  refine xm_setO (en := (lstd Dat.int)) 2 ?_ sc_law_spread.nd (fun found_ => ?_)
  · exact (eo_lst ea_nil (by show 0 ≤ sizeLine; decide))
  refine xm_gd fun h3 => ?_
  refine xm_for (ea := Dat.int) (eS := (fun (s : (List Int)) => [.ol ((lstd Dat.int) cells_), .im (Dat.int size_), .ow ((lstd Dat.int) s), .no, .no])) (passes_of rfl) rfl (itm_r1 (ev_name 1 rfl) h3 T.b_range) (tg_name 3 sc_law_spread.nd) (fun _ _ => trivial) rfl (fun x2 s4 => ?_) (fun s4 => ?_)
  · refine xm_gd fun h5 => ?_
    refine xm_set (en := Dat.int) 4 (ev_fdiv (ev_name 3 rfl) (ev_lenm (eb_name_ol 0 rfl) T.b_len) (divOk_1 h5) (divOk_2 h5)) sc_law_spread.nd (fun again_ => ?_)
    refine xm_gd fun h6 => ?_
    refine xm_ofO fun r7 h8 => ?_
    refine xm_gd fun h9 => ?_
    refine xm_gd fun h10 => ?_
    refine xm_append (en := Dat.int) 2 rfl (ev_add (ev_fdiv (EvB.flat (eb_ixLm (en := Dat.int) (eb_name_ol 0 rfl) (ev_mod (ev_name 3 rfl) (ev_lenm (eb_name_ol 0 rfl) T.b_len) (of_decide_eq_true h6)) h8) ((fun _ => rfl) _)) (ev_add ev_int (ev_mul ev_int (ev_name 4 rfl) (mul_l (by decide) (by decide)))) (divOk_1 h9) (divOk_2 h9)) (ev_mul ev_int (ev_name 4 rfl) (mul_l (by decide) (by decide)))) h10 (fun found_ => ?_)
    exact xm_end [3, 4]
  exact xm_retOw 2 rfl
def R_law_strange : List Dat → Res → Prop := fun ds o => ∃ (letters_ : List Nat) (cell_ : Int), ds = [tx letters_, Dat.int cell_] ∧ Rm tx (m_law_strange letters_ cell_) o
theorem ok_law_strange (T : Txt K mg)  (D : Df K mg "_law_strange" s_law_strange ["letters", "cell"]) : GFn P w K mg base "_law_strange" 1 R_law_strange := by
  refine GFn.mk2 D sc_law_strange (fun ds o h => by obtain ⟨_, _, rfl, _⟩ := h; rfl) fun f cdv A outer s H E hr ds o hR => ?_
  obtain ⟨letters_, cell_, rfl, hm⟩ := hR
  refine ⟨_, (.im ((fun _ => rfl) _) (.im ((fun _ => rfl) _) .nil)), fun H0 => ends_m (k := 4) (en := tx) ?_ o hm⟩
  unfold m_law_strange
  refine xm_set (en := tx) 2 (ev_lit (l := txt0)) sc_law_strange.nd (fun some_ => ?_)
  refine xm_gd fun h1 => ?_
  refine xm_set (en := tx) 2 (ev_catX (ev_name 2 rfl) (ev_lit (l := txt1)) (catOk_ok h1)) sc_law_strange.nd (fun some_ => ?_)
  refine xm_gd fun h2 => ?_
  refine xm_bind fun r3 h4 => ?_
  refine xm_gd fun h5 => ?_
  refine xm_set (en := tx) 2 (ev_joinCm (ev_lit (l := [])) (Ev.toB (EvO.ev (eo_compM (xn := "sign") (ea := chd) (eb := chd) 3 inj_chr rfl sc_law_strange.nd (it_tx (ev_name 2 rfl)) rfl rfl (fun _ _ _ _ _ => pg_name sc_law_strange.nd rfl (by first | exact Or.inl rfl | exact Or.inr rfl)) h4 (.inr ⟨_, rfl, fun H0' s' H' C' cl' fp' sign_ => (etm_ok (et_ninX (ev_name 3 rfl) (ev_name 0 rfl)))⟩) (fun H0' s' H' C' cl' fp' hs' sign_ => (evm_ok (ev_name 3 rfl))) h2))) h5) sc_law_strange.nd (fun some_ => ?_)
  refine xm_gd fun h6 => ?_
  refine xm_gd fun h7 => ?_
  refine xm_gd fun h8 => ?_
  refine xm_ofO fun r9 h10 => ?_
  exact xm_ret (ev_ixX (ev_name 2 rfl) (ev_mod (ev_name 1 rfl) (ev_len (Ev.toB (ev_name 2 rfl)) (dlen_tx (lenOk_ok h6)) T.b_len) (of_decide_eq_true h7)) (lenOk_ok h8) h10)
def R_law_bad : List Dat → Res → Prop := fun ds o => ∃ (letters_ : List Nat) (text_ : List Nat) (cell_ : Int), ds = [tx letters_, tx text_, Dat.int cell_] ∧ Rm tx (m_law_bad letters_ text_ cell_) o
theorem ok_law_bad (T : Txt K mg) (G_law_strange : GFn P w K mg base "_law_strange" 1 R_law_strange) (D : Df K mg "_law_bad" s_law_bad ["letters", "text", "cell"]) : GFn P w K mg base "_law_bad" 2 R_law_bad := by
  refine GFn.mk2 D sc_law_bad (fun ds o h => by obtain ⟨_, _, _, rfl, _⟩ := h; rfl) fun f cdv A outer s H E hr ds o hR => ?_
  obtain ⟨letters_, text_, cell_, rfl, hm⟩ := hR
  refine ⟨_, (.im ((fun _ => rfl) _) (.im ((fun _ => rfl) _) (.im ((fun _ => rfl) _) .nil))), fun H0 => ends_m (k := 7) (en := tx) ?_ o hm⟩
  unfold m_law_bad
  refine xm_gd fun h1 => ?_
  refine xm_gd fun h2 => ?_
  refine xm_set (en := Dat.int) 3 (ev_mod (ev_name 2 rfl) (ev_add (ev_len (Ev.toB (ev_name 1 rfl)) (dlen_tx (lenOk_ok h1)) T.b_len) ev_int) (of_decide_eq_true h2)) sc_law_bad.nd (fun at_ => ?_)
  refine xm_set (en := Dat.int) 4 (ev_fdiv (ev_name 2 rfl) ev_int (by decide) (by decide +kernel)) sc_law_bad.nd (fun rest_ => ?_)
  refine xm_setM (eb := tx) 5 (evm_call (en := tx) G_law_strange (by exact hr.mono (by first | decide | omega)) (eab_cons (Ev.toB (ev_name 0 rfl)) (eab_cons (Ev.toB (ev_fdiv (ev_name 4 rfl) ev_int (by decide) (by decide +kernel))) eab_nil)) (fun o q => ⟨letters_, (rest_ / (4 : Int)), rfl, q⟩)) sc_law_bad.nd (fun one_ => ?_)
  refine xm_setM (eb := tx) 6 (evm_call (en := tx) G_law_strange (by exact hr.mono (by first | decide | omega)) (eab_cons (Ev.toB (ev_name 0 rfl)) (eab_cons (Ev.toB (ev_fdiv (ev_name 4 rfl) ev_int (by decide) (by decide +kernel))) eab_nil)) (fun o q => ⟨letters_, (rest_ / (400 : Int)), rfl, q⟩)) sc_law_bad.nd (fun other_ => ?_)
  refine xm_ifX (fun _ => trivial) (et_eq (ev_mod (ev_name 4 rfl) ev_int (by decide)) ev_int) (fun hc => ?_) (fun hc => ?_)
  · refine xm_gd fun h3 => ?_
    refine xm_gd fun h4 => ?_
    refine xm_gd fun h5 => ?_
    refine xm_gd fun h6 => ?_
    exact xm_ret (ev_catX (ev_catX (ev_slX (ev_name 1 rfl) eo_none (eo_some (ev_name 3 rfl)) (lenOk_ok h3)) (ev_name 5 rfl) (catOk_ok h4)) (ev_slX (ev_name 1 rfl) (eo_some (ev_name 3 rfl)) eo_none (lenOk_ok h5)) (catOk_ok h6))
  refine xm_ifX (fun _ => trivial) (et_eq (ev_mod (ev_name 4 rfl) ev_int (by decide)) ev_int) (fun hc => ?_) (fun hc => ?_)
  · refine xm_gd fun h7 => ?_
    refine xm_gd fun h8 => ?_
    refine xm_gd fun h9 => ?_
    refine xm_gd fun h10 => ?_
    refine xm_gd fun h11 => ?_
    exact xm_ret (ev_catX (ev_catX (ev_catX (ev_slX (ev_name 1 rfl) eo_none (eo_some (ev_name 3 rfl)) (lenOk_ok h7)) (ev_name 5 rfl) (catOk_ok h8)) (ev_name 6 rfl) (catOk_ok h9)) (ev_slX (ev_name 1 rfl) (eo_some (ev_name 3 rfl)) eo_none (lenOk_ok h10)) (catOk_ok h11))
  refine xm_ifX (fun _ => trivial) (et_eq (ev_mod (ev_name 4 rfl) ev_int (by decide)) ev_int) (fun hc => ?_) (fun hc => ?_)
  · refine xm_gd fun h12 => ?_
    refine xm_gd fun h13 => ?_
    refine xm_gd fun h14 => ?_
    refine xm_gd fun h15 => ?_
    refine xm_gd fun h16 => ?_
    exact xm_ret (ev_catX (ev_catX (ev_catX (ev_name 5 rfl) (ev_slX (ev_name 1 rfl) eo_none (eo_some (ev_name 3 rfl)) (lenOk_ok h12)) (catOk_ok h13)) (ev_name 6 rfl) (catOk_ok h14)) (ev_slX (ev_name 1 rfl) (eo_some (ev_name 3 rfl)) eo_none (lenOk_ok h15)) (catOk_ok h16))
  refine xm_gd fun h17 => ?_
  refine xm_gd fun h18 => ?_
  exact xm_ret (ev_catX (ev_repXm (ev_name 5 rfl) (ev_name 3 rfl) h17) (ev_name 6 rfl) (catOk_ok h18))
def R_law_leaf : List Dat → Res → Prop := fun ds o => ∃ (frame_ : ((List Nat) × Int)) (tree_ : Tr) (row_ : List Nat), ds = [(tup2 tx Dat.int) frame_, trd tree_, tx row_] ∧ Rm tx (m_law_leaf frame_ tree_ row_) o
theorem ok_law_leaf (T : Txt K mg)  (D : Df K mg "_law_leaf" s_law_leaf ["frame", "tree", "row"]) : GFn P w K mg base "_law_leaf" 1 R_law_leaf := by
  refine GFn.mk2 D sc_law_leaf (fun ds o h => by obtain ⟨_, _, _, rfl, _⟩ := h; rfl) fun f cdv A outer s H E hr ds o hR => ?_
  obtain ⟨frame_, tree_, row_, rfl, hm⟩ := hR
  refine ⟨_, (.im ((fun _ => rfl) _) (.im (flat_trd _) (.im ((fun _ => rfl) _) .nil))), fun H0 => ends_m (k := 4) (en := tx) ?_ o hm⟩
  unfold m_law_leaf
  refine xm_set (en := Dat.int) 3 ev_int sc_law_leaf.nd (fun size_ => ?_)
  refine xm_while (eS := (fun (s : Tr × Int) => [.im ((tup2 tx Dat.int) frame_), .im (trd s.1), .im (tx row_), .im (Dat.int s.2)])) (passes_of rfl) rfl (fun s1 => (etm_ok (et_to (et_notN (Ev.toB (ev_name 1 rfl))) (congrArg (fun q => !q) (isNon_trd s1.1))))) (fun s1 => ?_) (fun s1 => ?_)
  · refine xm_ofO fun r2 h3 => ?_
    refine xm_gd fun h4 => ?_
    refine xm_ofO fun r5 h6 => ?_
    refine xm_ofO fun r7 h8 => ?_
    refine xm_set (en := trd) 1 (ev_ixTm (en := trd) (ev_trk (ev_name 1 rfl) h3) (ev_find0 (ev_ixT (ev_name 0 rfl) ev_int (by rfl)) (ev_ixX (ev_name 2 rfl) (ev_name 3 rfl) (lenOk_ok h4) h6) rfl rfl rfl) h8) sc_law_leaf.nd (fun tree_ => ?_)
    refine xm_set (en := Dat.int) 3 (ev_add (ev_name 3 rfl) ev_int) sc_law_leaf.nd (fun size_ => ?_)
    exact xm_end []
  refine xm_gd fun h9 => ?_
  exact xm_ret (ev_slX (ev_name 2 rfl) eo_none (eo_some (ev_name 3 rfl)) (lenOk_ok h9))
def R_law_worth : List Dat → Res → Prop := fun ds o => ∃ (frame_ : ((List Nat) × Int)) (tree_ : Tr) (text_ : List Nat), ds = [(tup2 tx Dat.int) frame_, trd tree_, tx text_] ∧ Rm (tup2 Dat.int Dat.int) (m_law_worth frame_ tree_ text_) o
theorem ok_law_worth (T : Txt K mg) (G_law_leaf : GFn P w K mg base "_law_leaf" 1 R_law_leaf) (G_law_elders : GFn P w K mg base "_law_elders" 1 R_law_elders) (D : Df K mg "_law_worth" s_law_worth ["frame", "tree", "text"]) : GFn P w K mg base "_law_worth" 2 R_law_worth := by
  refine GFn.mk2 D sc_law_worth (fun ds o h => by obtain ⟨_, _, _, rfl, _⟩ := h; rfl) fun f cdv A outer s H E hr ds o hR => ?_
  obtain ⟨frame_, tree_, text_, rfl, hm⟩ := hR
  refine ⟨_, (.im ((fun _ => rfl) _) (.im (flat_trd _) (.im ((fun _ => rfl) _) .nil))), fun H0 => ends_m (k := 9) (en := (tup2 Dat.int Dat.int)) ?_ o hm⟩
  unfold m_law_worth
  refine xm_setO (en := (dicd tx)) 3 ?_ sc_law_worth.nd (fun some_ => ?_)
  · exact eo_dic0
  refine xm_set (en := Dat.int) 4 ev_int sc_law_worth.nd (fun top_ => ?_)
  refine xm_set (en := Dat.int) 5 ev_int sc_law_worth.nd (fun bottom_ => ?_)
  refine xm_gd fun h4 => ?_
  refine xm_gd fun h5 => ?_
  refine xm_for (ea := Dat.int) (eS := (fun (s : (List (List Nat × List Nat)) × Int × Int) => [.im ((tup2 tx Dat.int) frame_), .im (trd tree_), .im (tx text_), .ow ((dicd tx) s.1), .im (Dat.int s.2.1), .im (Dat.int s.2.2), .no, .no, .no])) (passes_of rfl) rfl (itm_r1 (ev_len (Ev.toB (ev_name 2 rfl)) (dlen_tx (lenOk_ok h4)) T.b_len) h5 T.b_range) (tg_name 6 sc_law_worth.nd) (fun _ _ => trivial) rfl (fun x3 s6 => ?_) (fun s6 => ?_)
  · refine xm_bind fun r7 h8 => ?_
    refine xm_setM (eb := tx) 7 (evm_call (en := tx) G_law_leaf (by exact hr.mono (by first | decide | omega)) (eab_cons (Ev.toB (ev_name 0 rfl)) (eab_cons (Ev.toB (ev_name 1 rfl)) (eab_cons (Ev.toB (by exact evm_get (en := tx) (v := r7) (evm_call (en := tx) G_law_elders (by exact hr.mono (by first | decide | omega)) (eab_cons (Ev.toB (ev_name 0 rfl)) (eab_cons (Ev.toB (ev_name 2 rfl)) (eab_cons (Ev.toB (ev_name 6 rfl)) eab_nil))) (fun o q => ⟨frame_, text_, x3, rfl, q⟩)) h8)) eab_nil))) (fun o q => ⟨frame_, tree_, r7, rfl, q⟩)) sc_law_worth.nd (fun knot_ => ?_)
    refine xm_set (en := tx) 8 (ev_dget2w (en := tx) (l := s6.1) 3 (ev_name 7 rfl) (ev_lit (l := [])) (hu_of hr)) sc_law_worth.nd (fun came_ => ?_)
    refine xm_gd fun h9 => ?_
    refine xm_ofO fun r10 h11 => ?_
    refine xm_gd fun h12 => ?_
    refine xm_set (en := Dat.int) 4 (ev_mul (ev_name 4 rfl) (ev_add (ev_mul ev_int (ev_count0 (ev_name 8 rfl) (ev_ixX (ev_name 2 rfl) (ev_name 6 rfl) (lenOk_ok h9) h11) rfl rfl rfl) (mul_l (by decide) (by decide))) ev_int) (mulOk_ok h12)) sc_law_worth.nd (fun top_ => ?_)
    refine xm_gd fun h13 => ?_
    refine xm_gd fun h14 => ?_
    refine xm_gd fun h15 => ?_
    refine xm_set (en := Dat.int) 5 (ev_mul (ev_name 5 rfl) (ev_add (ev_mul ev_int (ev_len (Ev.toB (ev_name 8 rfl)) (dlen_tx (lenOk_ok h13)) T.b_len) (mul_l (by decide) (by decide))) (ev_len (Ev.toB (ev_ixT (ev_name 0 rfl) ev_int (by rfl))) (dlen_tx (lenOk_ok h14)) T.b_len)) (mulOk_ok h15)) sc_law_worth.nd (fun bottom_ => ?_)
    refine xm_gd fun h16 => ?_
    refine xm_ofO fun r17 h18 => ?_
    refine xm_gd fun h19 => ?_
    refine xm_gd fun h20 => ?_
    refine xm_dput (en := tx) 3 (ev_catX (ev_name 8 rfl) (ev_ixX (ev_name 2 rfl) (ev_name 6 rfl) (lenOk_ok h16) h18) (catOk_ok h19)) (ev_name 7 rfl) h20 (hu_of hr) (fun some_ => ?_)
    exact xm_end [6, 7, 8]
  exact xm_ret (ev_tup (ea_cons (ev_name 4 rfl) (ea_cons (ev_name 5 rfl) ea_nil)) (by show 2 ≤ sizeLine; decide))
def R_law_kinds : List Dat → Res → Prop := fun ds o => ∃ (frame_ : ((List Nat) × Int)) (tree_ : Dat) (text_ : List Nat), ds = [(tup2 tx Dat.int) frame_, idd tree_, tx text_] ∧ RmO (lstd Dat.bl) (m_law_kinds frame_ tree_ text_) o
theorem ok_law_kinds (T : Txt K mg) (G_worth_by : GFn P w K mg base "worth_by" 12 R_worth_by) (D : Df K mg "_law_kinds" s_law_kinds ["frame", "tree", "text"]) : GFn P w K mg base "_law_kinds" 13 R_law_kinds := by
  refine GFn.mk2 D sc_law_kinds (fun ds o h => by obtain ⟨_, _, _, rfl, _⟩ := h; rfl) fun f cdv A outer s H E hr ds o hR => ?_
  obtain ⟨frame_, tree_, text_, rfl, hm⟩ := hR
  refine ⟨_, (.im ((fun _ => rfl) _) (.ol (.im ((fun _ => rfl) _) .nil))), fun H0 => ends_mO (k := 5) (en := (lstd Dat.bl)) ?_ o hm⟩
  unfold m_law_kinds
  refine xm_setO (en := (lstd Dat.bl)) 3 ?_ sc_law_kinds.nd (fun kinds_ => ?_)
  · exact (eo_lst ea_nil (by show 0 ≤ sizeLine; decide))
  obtain ⟨D0, hD0, hDx⟩ : ∃ D0, mg "PressError" = some (.ref D0) ∧ ((∀ C, mg "NoTree" = some (.ref C) → PySem.W.exmOne K (.ref C) (.ref D0) = some true) ∧ (∀ C, mg "NoText" = some (.ref C) → PySem.W.exmOne K (.ref C) (.ref D0) = some true) ∧ (∀ C, mg "NoPlace" = some (.ref C) → PySem.W.exmOne K (.ref C) (.ref D0) = some true) ∧ (∀ C, mg "NoFraction" = some (.ref C) → PySem.W.exmOne K (.ref C) (.ref D0) = some true)) := by
    obtain ⟨Ca, xa⟩ := T.x_NoTree
    obtain ⟨D0, g0, _⟩ := xa.press
    refine ⟨D0, g0, ?_, ?_, ?_, ?_⟩
    · obtain ⟨C0, xc⟩ := T.x_NoTree; obtain ⟨D1, g1, g2⟩ := xc.press; intro C hC; rw [xc.eq hC]; rw [g0] at g1; cases g1; exact g2
    · obtain ⟨C0, xc⟩ := T.x_NoText; obtain ⟨D1, g1, g2⟩ := xc.press; intro C hC; rw [xc.eq hC]; rw [g0] at g1; cases g1; exact g2
    · obtain ⟨C0, xc⟩ := T.x_NoPlace; obtain ⟨D1, g1, g2⟩ := xc.press; intro C hC; rw [xc.eq hC]; rw [g0] at g1; cases g1; exact g2
    · obtain ⟨C0, xc⟩ := T.x_NoFraction; obtain ⟨D1, g1, g2⟩ := xc.press; intro C hC; rw [xc.eq hC]; rw [g0] at g1; cases g1; exact g2
  refine xm_try1 (eS := (fun (s : (List Bool)) => [.no, .no, .no, .ow ((lstd Dat.bl) s), .no])) 4 [0, 1, 2] rfl rfl sc_law_kinds.nd (names_of hD0) (fun pn xe hp => (evm_call (en := (tup2 Dat.int Dat.int)) G_worth_by (by exact hr.mono (by first | decide | omega)) (eab_cons (Ev.toB (ev_name 0 rfl)) (eab_cons (eb_name_ol 1 rfl) (eab_cons (Ev.toB (ev_name 2 rfl)) eab_nil))) (fun o q => ⟨frame_, tree_, text_, rfl, q⟩))) rfl ⟨?_, ?_, ?_, ?_, trivial⟩ (fun _ => rfl) (fun s1 => ?_)
  · refine ⟨hDx.1, fun a C oe pn hC hz hf => ?_⟩
    obtain ⟨C0, xc⟩ := T.x_NoTree
    have e := xc.eq hC
    subst e
    dsimp only
    refine xm_setO (en := (lstd Dat.bl)) 3 ?_ sc_law_kinds.nd (fun kinds_ => ?_)
    · exact (eo_lst (ea_cons (by exact ev_isEv 4 xc.ve T.b_ValueError xc.ec hz hf rfl T.b_isinstance) (ea_cons (by exact ev_isEo 4 (xc.kits.get "NoTree" true (by decide +kernel)) xc.ec hz hf rfl T.b_isinstance) (ea_cons (by exact ev_isEo 4 (xc.kits.get "NoText" false (by decide +kernel)) xc.ec hz hf rfl T.b_isinstance) ea_nil))) (by show 3 ≤ sizeLine; decide))
    exact xm_end [0, 1, 2, 4]
  · refine ⟨hDx.2.1, fun a C oe pn hC hz hf => ?_⟩
    obtain ⟨C0, xc⟩ := T.x_NoText
    have e := xc.eq hC
    subst e
    dsimp only
    refine xm_setO (en := (lstd Dat.bl)) 3 ?_ sc_law_kinds.nd (fun kinds_ => ?_)
    · exact (eo_lst (ea_cons (by exact ev_isEv 4 xc.ve T.b_ValueError xc.ec hz hf rfl T.b_isinstance) (ea_cons (by exact ev_isEo 4 (xc.kits.get "NoTree" false (by decide +kernel)) xc.ec hz hf rfl T.b_isinstance) (ea_cons (by exact ev_isEo 4 (xc.kits.get "NoText" true (by decide +kernel)) xc.ec hz hf rfl T.b_isinstance) ea_nil))) (by show 3 ≤ sizeLine; decide))
    exact xm_end [0, 1, 2, 4]
  · refine ⟨hDx.2.2.1, fun a C oe pn hC hz hf => ?_⟩
    obtain ⟨C0, xc⟩ := T.x_NoPlace
    have e := xc.eq hC
    subst e
    dsimp only
    refine xm_setO (en := (lstd Dat.bl)) 3 ?_ sc_law_kinds.nd (fun kinds_ => ?_)
    · exact (eo_lst (ea_cons (by exact ev_isEv 4 xc.ve T.b_ValueError xc.ec hz hf rfl T.b_isinstance) (ea_cons (by exact ev_isEo 4 (xc.kits.get "NoTree" false (by decide +kernel)) xc.ec hz hf rfl T.b_isinstance) (ea_cons (by exact ev_isEo 4 (xc.kits.get "NoText" false (by decide +kernel)) xc.ec hz hf rfl T.b_isinstance) ea_nil))) (by show 3 ≤ sizeLine; decide))
    exact xm_end [0, 1, 2, 4]
  · refine ⟨hDx.2.2.2, fun a C oe pn hC hz hf => ?_⟩
    obtain ⟨C0, xc⟩ := T.x_NoFraction
    have e := xc.eq hC
    subst e
    dsimp only
    refine xm_setO (en := (lstd Dat.bl)) 3 ?_ sc_law_kinds.nd (fun kinds_ => ?_)
    · exact (eo_lst (ea_cons (by exact ev_isEv 4 xc.ve T.b_ValueError xc.ec hz hf rfl T.b_isinstance) (ea_cons (by exact ev_isEo 4 (xc.kits.get "NoTree" false (by decide +kernel)) xc.ec hz hf rfl T.b_isinstance) (ea_cons (by exact ev_isEo 4 (xc.kits.get "NoText" false (by decide +kernel)) xc.ec hz hf rfl T.b_isinstance) ea_nil))) (by show 3 ≤ sizeLine; decide))
    exact xm_end [0, 1, 2, 4]
  exact xm_retOw 3 rfl
def R_law_asked : List Dat → Res → Prop := fun ds o => ∃ (frame_ : ((List Nat) × Int)) (thing_ : Dat) (text_ : List Nat) (bad_ : List Nat), ds = [(tup2 tx Dat.int) frame_, idd thing_, tx text_, tx bad_] ∧ Rm Dat.bl (m_law_asked frame_ thing_ text_ bad_) o
theorem ok_law_asked (T : Txt K mg) (G_law_worth : GFn P w K mg base "_law_worth" 2 R_law_worth) (G_law_fraction : GFn P w K mg base "_law_fraction" 2 R_law_fraction) (G_law_is : GFn P w K mg base "_law_is" 1 R_law_is) (G_worth_by : GFn P w K mg base "worth_by" 12 R_worth_by) (G_law_kinds : GFn P w K mg base "_law_kinds" 13 R_law_kinds) (D : Df K mg "_law_asked" s_law_asked ["frame", "thing", "text", "bad"]) : GFn P w K mg base "_law_asked" 14 R_law_asked := by
  refine GFn.mk2I D sc_law_asked (fun ds o h => by obtain ⟨_, _, _, _, rfl, _⟩ := h; rfl) (fun ds o h => by obtain ⟨frame_, thing_, text_, bad_, _, hm⟩ := h; exact rm_flat (fun _ => rfl) hm) fun f cdv A outer s H E hr ds o hR => ?_
  obtain ⟨frame_, thing_, text_, bad_, rfl, hm⟩ := hR
  refine ⟨_, (.im (.im (.im (.im .nil)))), fun H0 => ends_m (k := 5) (en := Dat.bl) ?_ o hm⟩
  unfold m_law_asked
  refine xm_gd fun h1 => ?_
  refine xm_bind fun r2 h3 => ?_
  refine xm_ifX (fun _ => trivial) (et_not (et_val (by exact evm_get (en := Dat.bl) (v := r2) (evm_call (en := Dat.bl) G_law_is (by exact hr.mono (by first | decide | omega)) (eab_cons (Ev.toB (ev_name 1 rfl)) (eab_cons (Ev.toB (ev_len (Ev.toB (ev_ixT (ev_name 0 rfl) ev_int (by rfl))) (dlen_tx (lenOk_ok h1)) T.b_len)) (eab_cons (Ev.toB (ev_ixT (ev_name 0 rfl) ev_int (by rfl))) eab_nil))) (fun o q => ⟨thing_, ((frame_.1).length : Int), frame_.2, rfl, q⟩)) h3))) (fun hc => ?_) (fun hc => ?_)
  · refine xm_bind fun r4 h5 => ?_
    exact xm_ret (ev_to (ev_eqD (Ev.toB (EvO.ev (by exact eom_get (en := (lstd Dat.bl)) (v := r4) (eom_call (en := (lstd Dat.bl)) G_law_kinds (by exact hr.mono (by first | decide | omega)) (eab_cons (Ev.toB (ev_name 0 rfl)) (eab_cons (Ev.toB (ev_name 1 rfl)) (eab_cons (Ev.toB (ev_name 3 rfl)) eab_nil))) (fun o q => ⟨frame_, thing_, bad_, rfl, q⟩)) h5))) (Ev.toB (EvO.ev (eo_lst (ea_cons ev_bl (ea_cons ev_bl (ea_cons ev_bl ea_nil))) (by show 3 ≤ sizeLine; decide)))) hr.units (okD_of (n := 8) ((okn_lst okn_b) r4)) (okD_of (n := 8) ((okn_lst okn_b) [true, true, false]))) (congrArg Dat.bl ((eqs_lst eqs_bool) r4 [true, true, false])))
  refine xm_ifX (fun _ => trivial) (et_neX (ev_name 3 rfl) (ev_name 2 rfl)) (fun hc => ?_) (fun hc => ?_)
  · refine xm_bind fun r6 h7 => ?_
    exact xm_ret (ev_to (ev_eqD (Ev.toB (EvO.ev (by exact eom_get (en := (lstd Dat.bl)) (v := r6) (eom_call (en := (lstd Dat.bl)) G_law_kinds (by exact hr.mono (by first | decide | omega)) (eab_cons (Ev.toB (ev_name 0 rfl)) (eab_cons (Ev.toB (ev_name 1 rfl)) (eab_cons (Ev.toB (ev_name 3 rfl)) eab_nil))) (fun o q => ⟨frame_, thing_, bad_, rfl, q⟩)) h7))) (Ev.toB (EvO.ev (eo_lst (ea_cons ev_bl (ea_cons ev_bl (ea_cons ev_bl ea_nil))) (by show 3 ≤ sizeLine; decide)))) hr.units (okD_of (n := 8) ((okn_lst okn_b) r6)) (okD_of (n := 8) ((okn_lst okn_b) [true, false, true]))) (congrArg Dat.bl ((eqs_lst eqs_bool) r6 [true, false, true])))
  refine xm_ofO fun r8 h9 => ?_
  refine xm_setM (eb := (tup2 Dat.int Dat.int)) 4 (evm_call (en := (tup2 Dat.int Dat.int)) G_law_worth (by exact hr.mono (by first | decide | omega)) (eab_cons (Ev.toB (ev_name 0 rfl)) (eab_cons (Ev.toB (ev_trOf (ev_name 1 rfl) h9)) (eab_cons (Ev.toB (ev_name 2 rfl)) eab_nil))) (fun o q => ⟨frame_, r8, text_, rfl, q⟩)) sc_law_asked.nd (fun due_ => ?_)
  refine xm_bind fun r10 h11 => ?_
  exact xm_retM (eb := Dat.bl) (evm_call (en := Dat.bl) G_law_fraction (by exact hr.mono (by first | decide | omega)) (eab_cons (Ev.toB (by exact evm_get (en := (tup2 Dat.int Dat.int)) (v := r10) (evm_call (en := (tup2 Dat.int Dat.int)) G_worth_by (by exact hr.mono (by first | decide | omega)) (eab_cons (Ev.toB (ev_name 0 rfl)) (eab_cons (Ev.toB (ev_name 1 rfl)) (eab_cons (Ev.toB (ev_name 2 rfl)) eab_nil))) (fun o q => ⟨frame_, thing_, text_, rfl, q⟩)) h11)) (eab_cons (Ev.toB (ev_ixT (ev_name 4 rfl) ev_int (by rfl))) (eab_cons (Ev.toB (ev_ixT (ev_name 4 rfl) ev_int (by rfl))) eab_nil))) (fun o q => ⟨r10, due_.1, due_.2, rfl, q⟩))
def R_law_told : List Dat → Res → Prop := fun ds o => ∃ (script_ : (List Int)) (letters_ : List Nat), ds = [(lstd Dat.int) script_, tx letters_] ∧ Rm tx (m_law_told script_ letters_) o
theorem ok_law_told (T : Txt K mg) (G_law_text : GFn P w K mg base "_law_text" 1 R_law_text) (G_law_cell_at : GFn P w K mg base "_law_cell_at" 1 R_law_cell_at) (G_law_spread : GFn P w K mg base "_law_spread" 1 R_law_spread) (D : Df K mg "_law_told" s_law_told ["script", "letters"]) : GFn P w K mg base "_law_told" 2 R_law_told := by
  refine GFn.mk2 D sc_law_told (fun ds o h => by obtain ⟨_, _, rfl, _⟩ := h; rfl) fun f cdv A outer s H E hr ds o hR => ?_
  obtain ⟨script_, letters_, rfl, hm⟩ := hR
  refine ⟨_, (.ol (.im ((fun _ => rfl) _) .nil)), fun H0 => ends_m (k := 5) (en := tx) ?_ o hm⟩
  unfold m_law_told
  refine xm_setO (en := (lstd Dat.int)) 2 ?_ sc_law_told.nd (fun cells_ => ?_)
  · exact (eo_slLm (en := Dat.int) (l := script_) (fun _ => rfl) (eb_name_ol 0 rfl) (eo_some ev_int) (eo_some ev_int))
  refine xm_bind fun r1 h2 => ?_
  refine xm_set (en := Dat.int) 3 (ev_fdiv (by exact evm_get (en := Dat.int) (v := r1) (evm_call (en := Dat.int) G_law_cell_at (by exact hr.mono (by first | decide | omega)) (eab_cons (eb_name_ol 0 rfl) (eab_cons (Ev.toB ev_int) eab_nil)) (fun o q => ⟨script_, (2 : Int), rfl, q⟩)) h2) ev_int (by decide) (by decide +kernel)) sc_law_told.nd (fun way_ => ?_)
  refine xm_ifN (eS := (fun (s : (List Int)) => [.ol ((lstd Dat.int) script_), .im (tx letters_), .ow ((lstd Dat.int) s), .im (Dat.int way_), .no])) (EvW.t (ew_and (et_eq (ev_mod (ev_name 3 rfl) ev_int (by decide)) ev_int) fun hq => (ew_and1 (et_to (et_neD (eb_name_ow 2 rfl) (Ev.toB (EvO.ev (eo_lst ea_nil (by show 0 ≤ sizeLine; decide)))) hr.units (okD_of (n := 8) ((okn_lst okn_i) cells_)) (okD_of (n := 8) ((okn_lst okn_i) []))) (congrArg (fun q => (!q)) ((eqs_lst eqs_int) cells_ [])))))) (fun hc => ?_) (fun hc => ?_) (fun s3 => ?_)
  · -- cells = _law_spread(cells, 94 + way // 8 % 5)
    refine xm_setMO (eb := (lstd Dat.int)) 2 (eom_call (en := (lstd Dat.int)) G_law_spread (by exact hr.mono (by first | decide | omega)) (eab_cons (eb_name_ow 2 rfl) (eab_cons (Ev.toB (ev_add ev_int (ev_mod (ev_fdiv (ev_name 3 rfl) ev_int (by decide) (by decide +kernel)) ev_int (by decide)))) eab_nil)) (fun o q => ⟨cells_, ((94 : Int) + ((way_ / (8 : Int)) % (5 : Int))), rfl, q⟩)) sc_law_told.nd (fun cells_ => ?_)
    exact xm_end []
  · exact xm_end []
  refine xm_bind fun r4 h5 => ?_
  refine xm_setM (eb := tx) 4 (evm_call (en := tx) G_law_text (by exact hr.mono (by first | decide | omega)) (eab_cons (eb_name_ow 2 rfl) (eab_cons (Ev.toB (ev_name 1 rfl)) (eab_cons (Ev.toB (ev_eq (ev_mod (by exact evm_get (en := Dat.int) (v := r4) (evm_call (en := Dat.int) G_law_cell_at (by exact hr.mono (by first | decide | omega)) (eab_cons (eb_name_ol 0 rfl) (eab_cons (Ev.toB ev_int) eab_nil)) (fun o q => ⟨script_, (1 : Int), rfl, q⟩)) h5) ev_int (by decide)) ev_int)) eab_nil))) (fun o q => ⟨s3, letters_, (decide ((r4 % (2 : Int)) = (1 : Int))), rfl, q⟩)) sc_law_told.nd (fun text_ => ?_)
  refine xm_ifX (fun _ => trivial) (et_inT_int (ev_mod (ev_name 3 rfl) ev_int (by decide)) (Ev.toB (ev_tup (ea_cons ev_int (ea_cons ev_int (ea_cons ev_int ea_nil))) (by show 3 ≤ sizeLine; decide)))) (fun hc => ?_) (fun hc => ?_)
  · refine xm_gd fun h6 => ?_
    refine xm_gd fun h7 => ?_
    refine xm_gd fun h8 => ?_
    exact xm_ret (ev_slX (ev_name 4 rfl) eo_none (eo_some (ev_mod (ev_fdiv (ev_name 3 rfl) ev_int (by decide) (by decide +kernel)) (ev_add (ev_len (Ev.toB (ev_name 4 rfl)) (dlen_tx (lenOk_ok h6)) T.b_len) ev_int) (of_decide_eq_true h7))) (lenOk_ok h8))
  exact xm_ret (ev_name 4 rfl)
def R_lawm : List Dat → Res → Prop := fun ds o => ∃ (script_ : (List Int)), ds = [(lstd Dat.int) script_] ∧ Rm Dat.bl (m_law script_) o
theorem ok_law {f : Addr} {fd : FuncData} (T : Txt K mg) (G_law_frame : GFn P w K mg base "_law_frame" 2 R_law_frame) (G_law_cells : GFn P w K mg base "_law_cells" 2 R_law_cells) (G_law_tree : GFn P w K mg base "_law_tree" 2 R_law_tree) (G_law_told : GFn P w K mg base "_law_told" 2 R_law_told) (G_law_cell_at : GFn P w K mg base "_law_cell_at" 1 R_law_cell_at) (G_law_bad : GFn P w K mg base "_law_bad" 2 R_law_bad) (G_law_asked : GFn P w K mg base "_law_asked" 14 R_law_asked) (F : Fun K "law" "law" s_law f fd) : FnOk P w K mg base (L2.CX P w) 15 f fd ["script"] (spR K mg R_lawm) := by
  refine fn_mk2 F sc_law (fun ds o h => by obtain ⟨_, rfl, _⟩ := h; rfl) fun f cdv A outer s H E hr ds o hR => ?_
  obtain ⟨script_, rfl, hm⟩ := hR
  refine ⟨_, (.ol .nil), fun H0 => ends_m (k := 10) (en := Dat.bl) ?_ o hm⟩
  unfold m_law
  refine xm_bind fun r1 h2 => ?_
  refine xm_setM (eb := (tup2 tx Dat.int)) 1 (evm_call (en := (tup2 tx Dat.int)) G_law_frame (by exact hr.mono (by first | decide | omega)) (eab_cons (Ev.toB (by exact evm_get (en := Dat.int) (v := r1) (evm_call (en := Dat.int) G_law_cell_at (by exact hr.mono (by first | decide | omega)) (eab_cons (eb_name_ol 0 rfl) (eab_cons (Ev.toB ev_int) eab_nil)) (fun o q => ⟨script_, (0 : Int), rfl, q⟩)) h2)) eab_nil) (fun o q => ⟨r1, rfl, q⟩)) sc_law.nd (fun frame_ => ?_)
  refine xm_gd fun h3 => ?_
  refine xm_set (en := Dat.int) 2 (ev_len (Ev.toB (ev_ixT (ev_name 1 rfl) ev_int (by rfl))) (dlen_tx (lenOk_ok h3)) T.b_len) sc_law.nd (fun many_ => ?_)
  refine xm_setMO (eb := (lstd Dat.int)) 3 (eom_call (en := (lstd Dat.int)) G_law_cells (by exact hr.mono (by first | decide | omega)) (eab_cons (eb_name_ol 0 rfl) (eab_cons (Ev.toB (ev_name 2 rfl)) eab_nil)) (fun o q => ⟨script_, many_, rfl, q⟩)) sc_law.nd (fun cells_ => ?_)
  refine xm_bind fun r4 h5 => ?_
  refine xm_set (en := Dat.int) 4 (ev_fdiv (by exact evm_get (en := Dat.int) (v := r4) (evm_call (en := Dat.int) G_law_cell_at (by exact hr.mono (by first | decide | omega)) (eab_cons (eb_name_ol 0 rfl) (eab_cons (Ev.toB ev_int) eab_nil)) (fun o q => ⟨script_, (2 : Int), rfl, q⟩)) h5) ev_int (by decide) (by decide +kernel)) sc_law.nd (fun cell_ => ?_)
  refine xm_setM (eb := idd) 5 (evm_call (en := idd) G_law_tree (by exact hr.mono (by first | decide | omega)) (eab_cons (eb_name_ow 3 rfl) (eab_cons (Ev.toB (ev_name 2 rfl)) (eab_cons (Ev.toB (ev_ixT (ev_name 1 rfl) ev_int (by rfl))) (eab_cons (Ev.toB (ev_neg ev_int)) (eab_cons (Ev.toB ev_int) eab_nil))))) (fun o q => ⟨cells_, many_, frame_.2, (-1 : Int), (0 : Int), rfl, q⟩)) sc_law.nd (fun tree_ => ?_)
  refine xm_ofO fun r6 h7 => ?_
  refine xm_gd fun h8 => ?_
  refine xm_setM (eb := idd) 6 (evm_call (en := idd) G_law_tree (by exact hr.mono (by first | decide | omega)) (eab_cons (eb_name_ow 3 rfl) (eab_cons (Ev.toB (ev_name 2 rfl)) (eab_cons (Ev.toB (ev_ixT (ev_name 1 rfl) ev_int (by rfl))) (eab_cons (Ev.toB (ev_mod (ev_fdiv (ev_name 4 rfl) ev_int (by decide) (by decide +kernel)) (ev_ixLm (en := Dat.int) (l := [(7 : Int), (1000 : Int)]) (EvO.ev (eo_lst (ea_cons ev_int (ea_cons ev_int ea_nil)) (by show 2 ≤ sizeLine; decide))) (ev_mod (ev_fdiv (ev_name 4 rfl) ev_int (by decide) (by decide +kernel)) ev_int (by decide)) h7) (of_decide_eq_true h8))) (eab_cons (Ev.toB (ev_mod (ev_name 4 rfl) ev_int (by decide))) eab_nil))))) (fun o q => ⟨cells_, many_, frame_.2, ((cell_ / (32 : Int)) % r6), (cell_ % (16 : Int)), rfl, q⟩)) sc_law.nd (fun wrong_ => ?_)
  refine xm_setM (eb := tx) 7 (evm_call (en := tx) G_law_told (by exact hr.mono (by first | decide | omega)) (eab_cons (eb_name_ol 0 rfl) (eab_cons (Ev.toB (ev_ixT (ev_name 1 rfl) ev_int (by rfl))) eab_nil)) (fun o q => ⟨script_, frame_.1, rfl, q⟩)) sc_law.nd (fun text_ => ?_)
  refine xm_set (en := tx) 8 (ev_name 7 rfl) sc_law.nd (fun bad_ => ?_)
  refine xm_bind fun r9 h10 => ?_
  refine xm_ifN (eS := (fun (s : List Nat) => [.no, .im ((tup2 tx Dat.int) frame_), .no, .no, .no, .im (idd tree_), .im (idd wrong_), .im (tx text_), .im (tx s), .no])) (et_eq (ev_mod (by exact evm_get (en := Dat.int) (v := r9) (evm_call (en := Dat.int) G_law_cell_at (by exact hr.mono (by first | decide | omega)) (eab_cons (eb_name_ol 0 rfl) (eab_cons (Ev.toB ev_int) eab_nil)) (fun o q => ⟨script_, (2 : Int), rfl, q⟩)) h10) ev_int (by decide)) ev_int) (fun hc => ?_) (fun hc => ?_) (fun s11 => ?_)
  · -- bad = _law_bad(frame[0], text, cell)
    refine xm_setM (eb := tx) 8 (evm_call (en := tx) G_law_bad (by exact hr.mono (by first | decide | omega)) (eab_cons (Ev.toB (ev_ixT (ev_name 1 rfl) ev_int (by rfl))) (eab_cons (Ev.toB (ev_name 7 rfl)) (eab_cons (Ev.toB (ev_name 4 rfl)) eab_nil))) (fun o q => ⟨frame_.1, text_, cell_, rfl, q⟩)) sc_law.nd (fun bad_ => ?_)
    exact xm_end [0, 2, 3, 4]
  · exact xm_end [0, 2, 3, 4]
  refine xm_forJT (ea := idd) (eS := (fun (s : Unit) => [.no, .im ((tup2 tx Dat.int) frame_), .no, .no, .no, .im (idd tree_), .im (idd wrong_), .im (tx text_), .im (tx s11), .no])) (oR := (fun r => Outc.rt (Dat.bl r))) (fun r => ⟨_, .inl rfl⟩) (passes_of rfl) rfl (it_list (EvO.ev (eo_lstD (ds := [tree_, wrong_, ((lstd idd) [tree_])]) (ea_cons (ev_name 5 rfl) (ea_cons (ev_name 6 rfl) (ea_cons (EvO.ev (eo_lstD (ds := [tree_]) (ea_cons (ev_name 5 rfl) ea_nil) (by show 1 ≤ sizeLine; decide))) ea_nil))) (by show 3 ≤ sizeLine; decide)))) (tg_name 9 sc_law.nd) (fun _ _ => trivial) rfl (fun x12 s13 => ?_) (fun s13 => ?_)
  · refine xm_bind fun r14 h15 => ?_
    refine xm_ifJ (eS := (fun (s : Unit) => [.no, .im ((tup2 tx Dat.int) frame_), .no, .no, .no, .im (idd tree_), .im (idd wrong_), .im (tx text_), .im (tx s11), .no])) (eL := (fun (s : Unit) => [.no, .im ((tup2 tx Dat.int) frame_), .no, .no, .no, .im (idd tree_), .im (idd wrong_), .im (tx text_), .im (tx s11), .no])) (oR := (fun r => Outc.rt (Dat.bl r))) (fun _ => trivial) (et_not (et_val (by exact evm_get (en := Dat.bl) (v := r14) (evm_call (en := Dat.bl) G_law_asked (by exact hr.mono (by first | decide | omega)) (eab_cons (Ev.toB (ev_name 1 rfl)) (eab_cons (Ev.toB (ev_name 9 rfl)) (eab_cons (Ev.toB (ev_name 7 rfl)) (eab_cons (Ev.toB (ev_name 8 rfl)) eab_nil)))) (fun o q => ⟨frame_, x12, text_, s11, rfl, q⟩)) h15))) (fun hc => ?_) (fun hc => ?_) (fun s16 => ?_)
    · -- return False
      exact xm_ret ev_bl
    · exact xm_end [9]
    exact xm_end []
  refine xm_gd fun h17 => ?_
  refine xm_gd fun h18 => ?_
  refine xm_bind fun r19 h20 => ?_
  refine xm_bind fun r23 h24 => ?_
  exact xm_ret (evm_get (evm_and (by exact evm_get (en := Dat.bl) (v := r19) (evm_call (en := Dat.bl) G_law_asked (by exact hr.mono (by first | decide | omega)) (eab_cons (Ev.toB (ev_name 1 rfl)) (eab_cons (Ev.toB ev_non) (eab_cons (Ev.toB (ev_slX (ev_name 7 rfl) (eo_some ev_int) eo_none (lenOk_ok h17))) (eab_cons (Ev.toB (ev_slX (ev_name 7 rfl) (eo_some ev_int) eo_none (lenOk_ok h18))) eab_nil)))) (fun o q => ⟨frame_, (nond ()), (cut text_ (some (1 : Int)) none), (cut text_ (some (1 : Int)) none), rfl, q⟩)) h20) (fun hq => evm_nox (evm_bind fun r21 h22 => (evm_ok (ev_one (by exact evm_get (en := Dat.bl) (v := r21) (evm_call (en := Dat.bl) G_law_asked (by exact hr.mono (by first | decide | omega)) (eab_cons (Ev.toB (ev_name 1 rfl)) (eab_cons (Ev.toB (ev_name 5 rfl)) (eab_cons (Ev.toB (ev_name 7 rfl)) (eab_cons (Ev.toB (ev_name 7 rfl)) eab_nil)))) (fun o q => ⟨frame_, tree_, text_, text_, rfl, q⟩)) h22))))) nox_ne) h24)
end
end B
namespace B
open PySem PySem.Spec PyProof.Rows L2
structure Fr (L : List Nat) (D : Nat) : Prop where
  l1 : 0 < L.length
  l6 : L.length ≤ 6
  nd : L.Nodup
  d6 : D ≤ 6

theorem p_is_bough {m : Nat} : ∀ (k : Nat) {lv : Nat} (d : Dat), k < lv → m_is_bough lv d (m : Int) (k : Int) = .ok (isT m k d)
  | k, 0, d, h => by omega
  | k, lv + 1, d, h => by
    unfold m_is_bough
    cases d with
    | non => rw [isT_non]; rfl
    | tup ds =>
      rw [if_neg (show ¬ (isNon (idd (.tup ds)) = true) from fun z => by cases z), if_neg (show ¬ ((!(isTup (idd (.tup ds)))) = true) from fun z => by cases z)]
      cases k with
      | zero => rfl
      | succ k =>
        rw [if_neg (show ¬ (decide (((k + 1 : Nat) : Int) = 0) = true) by simp; omega)]
        simp only [dlen, M.ofO_some, M.bind_ok, M.nox_ok, tupOf]
        rw [isT_tup]
        by_cases e : ds.length = m
        · rw [if_neg (by simp [e]), seqT_all (p := isT m k) (r := false) fun x _ => ?_]
          · rw [decide_eq_true e, Bool.true_and]
            cases ds.all (isT m k) <;> rfl
          · have h1 := p_is_bough (m := m) k (lv := lv) x (by omega)
            rw [show (((k + 1 : Nat) : Int) - 1) = (k : Int) by omega, h1, M.nox_ok, M.bind_ok]
            cases isT m k x <;> rfl
        · rw [if_pos (by simp; omega), decide_eq_false e, Bool.false_and]
    | bl _ => cases k <;> rfl
    | int _ => cases k <;> rfl
    | str _ => cases k <;> rfl
    | lst _ => cases k <;> rfl
    | dic _ => cases k <;> rfl
theorem p_is_tree {L : List Nat} {D : Nat} {d : Dat} (F : Fr L D) : m_is_tree (L, (D : Int)) d = .ok (isT L.length D d) := by
  have h1 := F.l6
  have h2 := F.d6
  unfold m_is_tree
  rw [M.gd_of _ (lenOk_i (by show L.length ≤ _; omega)), p_is_bough D d (by omega)]
  rfl
theorem visT_tup {m k : Nat} {ds : List Dat} (h : ds.length = m) : visT m (k + 1) (.tup ds) = 1 + (ds.map (visT m k)).sum := if_pos h
def visP (m : Nat) (s : List (Dat × Int)) : Nat := (s.map fun p => visT m p.2.toNat p.1).sum
theorem visP_len (m : Nat) : ∀ s : List (Dat × Int), s.length ≤ visP m s
  | [] => Nat.le_refl _
  | p :: s => by
    have h1 := visT_pos m p.2.toNat p.1
    have h2 := visP_len m s
    show s.length + 1 ≤ visT m p.2.toNat p.1 + visP m s
    omega
theorem visP_app (m : Nat) (s u : List (Dat × Int)) : visP m (s ++ u) = visP m s + visP m u := by
  unfold visP
  rw [List.map_append, List.sum_append]
theorem visP_br (m k : Nat) : ∀ ds : List Dat, visP m (ds.map fun d => (d, (k : Int))) = (ds.map (visT m k)).sum
  | [] => rfl
  | d :: ds => by
    show visT m ((k : Int)).toNat d + visP m (ds.map fun d => (d, (k : Int))) = _
    rw [visP_br m k ds]
    rfl
theorem all_br (m k : Nat) (ds : List Dat) : (ds.map fun d => (d, (k : Int))).all (fun p => isT m p.2.toNat p.1) = ds.all (isT m k) := by
  rw [List.all_map]
  rfl
theorem forM_pushD {i j : Int} {l : List Dat} {u : List (Dat × Int)} (hj : i - 1 = j) (h : u.length + l.length ≤ 1000000) : forM (fun (x : Dat) (s : List (Dat × Int)) => M.gd (lenLt s) <| M.ok (s ++ [(x, i - 1)])) l u = .ok (u ++ l.map fun d => (d, j)) := by
  obtain ⟨v, v1, v2⟩ := forM_invN (f := fun (x : Dat) (s : List (Dat × Int)) => (M.gd (lenLt s) <| M.ok (s ++ [(x, i - 1)]))) (xs := l) (s := u) (fun n s => s = u ++ (l.take n).map fun d => (d, j)) (by simp) (fun n x hx s hs => by
    have hi := lt_of_get hx
    rw [M.gd_of _ (lenLt_i (by rw [hs, List.length_append, List.length_map, List.length_take]; omega))]
    refine ⟨_, rfl, ?_⟩
    rw [hs, List.take_succ, hx, List.append_assoc, hj, List.map_append]
    rfl)
  rw [v1, v2, List.take_length]
theorem p_law_is {m : Nat} (hm : m ≤ 6) {D : Nat} (hD : D ≤ 6) (d : Dat) : m_law_is d (m : Int) (D : Int) = .ok (isT m D d) := by
  unfold m_law_is
  simp only [M.lt_eq]
  have h0 : visP m [(d, (D : Int))] = visT m D d := by show visT m ((D : Int)).toNat d + 0 = _; rw [Int.toNat_natCast]; omega
  have h1 := visT_le hm D d
  have h2 := wd6_le hD
  rw [seqT_whileV (fun s => .ok (s.all fun p => isT m p.2.toNat p.1)) (fun s => (∀ p ∈ s, (0 : Int) ≤ p.2) ∧ visP m s ≤ 60000) (visP m) ?_ 100000 (s0 := [(d, (D : Int))]) ⟨fun p hp => by rw [List.mem_singleton.mp hp]; exact Int.natCast_nonneg D, by omega⟩ (by omega)]
  · simp
  intro s ⟨i1, i2⟩
  rcases List.eq_nil_or_concat s with rfl | ⟨u, ⟨x, l⟩, rfl⟩
  · exact .inl ⟨rfl, rfl⟩
  right
  rw [List.concat_eq_append] at *
  refine ⟨by simp, ?_⟩
  obtain ⟨k, rfl⟩ : ∃ k : Nat, l = (k : Int) := ⟨l.toNat, by have := i1 (x, l) (by simp); simp only at this; omega⟩
  rw [visP_app] at i2
  have hx : visP m [(x, (k : Int))] = visT m k x := by show visT m ((k : Int)).toNat x + 0 = _; rw [Int.toNat_natCast]; omega
  have hu := visP_len m u
  simp only [gl_snoc, dl_snoc, M.ofO_some, M.bind_ok, List.all_append, List.all_cons, List.all_nil, Bool.and_true, Int.toNat_natCast]
  have stay : visP m u < visP m (u ++ [(x, (k : Int))]) := by
    rw [visP_app, hx]
    have := visT_pos m k x
    omega
  have i1' : ∀ p ∈ u, (0 : Int) ≤ p.2 := fun p hp => i1 p (List.mem_append_left _ hp)
  cases x with
  | non =>
    right
    exact ⟨u, .inl rfl, ⟨i1', by omega⟩, stay, by rw [isT_non, Bool.and_true]⟩
  | tup ds =>
    rw [if_pos (show (!isNon (idd (.tup ds))) = true from rfl), if_neg (show ¬ ((!isTup (idd (.tup ds))) = true) from fun z => by cases z)]
    cases k with
    | zero => exact .inl ⟨false, rfl, by rw [show isT m 0 (.tup ds) = false from rfl, Bool.and_false]⟩
    | succ k =>
      rw [if_neg (show ¬ (decide (((k + 1 : Nat) : Int) = 0) = true) by simp; omega)]
      simp only [dlen, M.ofO_some, M.bind_ok, M.nox_ok, tupOf]
      rw [isT_tup]
      by_cases e : ds.length = m
      · right
        have hlen : u.length + ds.length ≤ 1000000 := by omega
        rw [if_neg (by simp [e]), M.seq_nx, forM_pushD (j := (k : Int)) (by omega) hlen]
        rw [visT_tup e] at hx
        refine ⟨_, .inl rfl, ⟨fun p hp => ?_, ?_⟩, ?_, ?_⟩
        · rcases List.mem_append.mp hp with q | q
          · exact i1' p q
          · obtain ⟨d, _, rfl⟩ := List.mem_map.mp q
            exact Int.natCast_nonneg k
        · rw [visP_app, visP_br]; omega
        · rw [visP_app, visP_app, visP_br, hx]; omega
        · rw [List.all_append, all_br, decide_eq_true e, Bool.true_and]
      · left
        refine ⟨false, ?_, by rw [decide_eq_false e, Bool.false_and, Bool.and_false]⟩
        rw [if_pos (by simp; omega)]
        rfl
  | bl _ => exact .inl ⟨false, rfl, by cases k <;> simp [isT, isNon]⟩
  | int _ => exact .inl ⟨false, rfl, by cases k <;> simp [isT, isNon]⟩
  | str _ => exact .inl ⟨false, rfl, by cases k <;> simp [isT, isNon]⟩
  | lst _ => exact .inl ⟨false, rfl, by cases k <;> simp [isT, isNon]⟩
  | dic _ => exact .inl ⟨false, rfl, by cases k <;> simp [isT, isNon]⟩
theorem forM_pushG {α β : Type} {f : α → β} {l : List α} {u : List β} (h : u.length + l.length ≤ 1000000) : forM (fun (x : α) (s : List β) => M.gd (lenLt s) <| M.ok (s ++ [f x])) l u = .ok (u ++ l.map f) := by
  obtain ⟨v, v1, v2⟩ := forM_invN (f := fun (x : α) (s : List β) => (M.gd (lenLt s) <| M.ok (s ++ [f x]))) (xs := l) (s := u) (fun n s => s = u ++ (l.take n).map f) (by simp) (fun n x hx s hs => by
    have hi := lt_of_get hx
    rw [M.gd_of _ (lenLt_i (by rw [hs, List.length_append, List.length_map, List.length_take]; omega))]
    refine ⟨_, rfl, ?_⟩
    rw [hs, List.take_succ, hx, List.append_assoc, List.map_append]
    rfl)
  rw [v1, v2, List.take_length]
/-! trees in a pile, each with what is left -/
theorem dp_mono : ∀ {n m : Nat} {t : Tr}, Dp n t → n ≤ m → Dp m t
  | _, _, _, .leaf, _ => .leaf
  | n + 1, m, .node l, .node h, hm => by
    obtain ⟨q, rfl⟩ : ∃ q, m = q + 1 := ⟨m - 1, by omega⟩
    exact .node fun t ht => dp_mono (h t ht) (by omega)
def trP (p : Tr × Int) : Dat × Int := (trd p.1, p.2)
/-- all are trees, with what is left to each -/
def okP (m : Nat) (s : List (Tr × Int)) : Prop := ∀ p ∈ s, (0 : Int) ≤ p.2 ∧ p.2 ≤ 6 ∧ isTr m p.2.toNat p.1 = true
theorem okn_pairs {α : Type} {ea : α → Dat} {s : List (Tr × α)} (h : ∀ p ∈ s, Dp 6 p.1) (ha : ∀ p ∈ s, okn 58 (ea p.2) = true) : okn 60 ((lstd (tup2 trd ea)) s) = true := by
  show (s.map (tup2 trd ea)).all (okn 59) = true
  rw [List.all_map, List.all_eq_true]
  intro p hp
  show okn 59 (.tup [trd p.1, ea p.2]) = true
  show ([trd p.1, ea p.2]).all (okn 58) = true
  rw [List.all_cons, List.all_cons, okn_dp (h p hp) (m := 58) (by decide), ha p hp]
  rfl
theorem okP_dp {m : Nat} {s : List (Tr × Int)} (h : okP m s) : ∀ p ∈ s, Dp 6 p.1 := fun p hp => by
  obtain ⟨h1, h2, h3⟩ := h p hp
  exact dp_mono (isTr_dp h3) (by omega)
theorem okP_node {m : Nat} {k : Int} {l : List Tr} (h : (0 : Int) ≤ k ∧ k ≤ 6 ∧ isTr m k.toNat (.node l) = true) : ∃ j : Nat, k = ((j + 1 : Nat) : Int) ∧ l.length = m ∧ ∀ t ∈ l, isTr m j t = true := by
  obtain ⟨h1, h2, h3⟩ := h
  cases e : k.toNat with
  | zero => rw [e] at h3; cases h3
  | succ j =>
    rw [e] at h3
    have h' : (decide (l.length = m) && l.all (isTr m j)) = true := h3
    rw [Bool.and_eq_true, List.all_eq_true] at h'
    exact ⟨j, by omega, of_decide_eq_true h'.1, h'.2⟩
theorem visP_tr (m j : Nat) (l : List Tr) : visP m ((l.map fun t => (t, (j : Int))).map trP) = ((l.map trd).map (visT m j)).sum := by
  have e : (l.map fun t => (t, (j : Int))).map trP = (l.map trd).map fun d => (d, (j : Int)) := by rw [List.map_map, List.map_map]; rfl
  rw [e, visP_br]
theorem visP_node {m j : Nat} {l : List Tr} (h : l.length = m) : visP m [trP (.node l, ((j + 1 : Nat) : Int))] = 1 + visP m ((l.map fun t => (t, (j : Int))).map trP) := by
  rw [visP_tr]
  show visT m (((j + 1 : Nat) : Int)).toNat (trd (.node l)) + 0 = _
  rw [Int.toNat_natCast, trd_node, Nat.add_zero]
  exact visT_tup (by rw [List.length_map]; exact h)
theorem visP_start {m : Nat} (hm : m ≤ 6) {D : Nat} (hD : D ≤ 6) (t : Tr) : visP m ([(t, (D : Int))].map trP) ≤ 60000 := by
  show visT m ((D : Int)).toNat (trd t) + 0 ≤ _
  rw [Int.toNat_natCast]
  have := visT_le hm D (trd t)
  have := wd6_le hD
  omega
theorem okP_kids {m : Nat} {u : List (Tr × Int)} {j : Nat} {l : List Tr} (hu : okP m u) (hj : j ≤ 6) (h : ∀ t ∈ l, isTr m j t = true) : okP m (u ++ l.map fun t => (t, (j : Int))) := fun p hp => by
  rcases List.mem_append.mp hp with q | q
  · exact hu p q
  · obtain ⟨t, ht, rfl⟩ := List.mem_map.mp q
    exact ⟨Int.natCast_nonneg j, by show (j : Int) ≤ 6; omega, by show isTr m ((j : Int)).toNat t = true; rw [Int.toNat_natCast]; exact h t ht⟩
theorem p_need_tree {L : List Nat} {D : Nat} {d : Dat} (F : Fr L D) : m_need_tree (L, (D : Int)) d = if isT L.length D d = true then (match trOf d with | some t => .ok t | none => .far) else .ex "NoTree" := by
  unfold m_need_tree
  rw [p_is_tree F, M.nox_ok, M.bind_ok]
  cases h : isT L.length D d with
  | false => rfl
  | true =>
    obtain ⟨t, ht⟩ := isT_tr h
    subst ht
    rw [trOf_trd]
    rfl
theorem p_need_yes {L : List Nat} {D : Nat} {t : Tr} (F : Fr L D) (h : isTr L.length D t = true) : m_need_tree (L, (D : Int)) (trd t) = .ok t := by
  rw [p_need_tree F, isT_trd, h, trOf_trd]
  rfl
theorem p_need_no {L : List Nat} {D : Nat} {d : Dat} (F : Fr L D) (h : isT L.length D d = false) : m_need_tree (L, (D : Int)) d = .ex "NoTree" := by
  rw [p_need_tree F, h]
  rfl

end B
namespace B
open PySem PySem.Spec PyProof.Rows L2
theorem p_thing {m : Nat} (hm : m ≤ 6) (hm1 : 1 ≤ m) {k : Int} (k0 : 0 ≤ k) (k16 : k < 16) (t : Tr) : ∃ d, m_law_thing t k (m : Int) = .ok d := by
  unfold m_law_thing
  have cm : ∀ {n : Int}, M.nox (compM (fun _ => .ok true) (fun k_ => .ok (())) (rng 0 1 n.toNat)) = .ok ((rng 0 1 n.toNat).map fun _ => ()) := fun {n} => by rw [compM_map (fun x _ => rfl) (fun x _ => rfl)]; rfl
  have ln : ∀ {n : Int}, n ≤ 100 → lenLt (rng 0 1 n.toNat) = true := fun {n} h => lenLt_i (by rw [rng_len]; omega)
  have rn : ∀ {n : Int}, 0 ≤ n → n ≤ 100 → rngOk 0 n = true := fun {n} h h2 => rngOk_i (by omega) (by omega) (by omega) (by omega)
  by_cases e0 : k = 0
  · rw [if_pos (decide_eq_true e0), M.gd_of _ (rn (by omega) (by omega)), M.gd_of _ (ln (by omega)), cm, M.bind_ok]; exact ⟨_, rfl⟩
  rw [if_neg (by simpa using e0)]
  by_cases e1 : k = 1
  · rw [if_pos (decide_eq_true e1), M.gd_of _ (rn (by omega) (by omega)), M.gd_of _ (ln (by omega)), cm, M.bind_ok]; exact ⟨_, rfl⟩
  rw [if_neg (by simpa using e1)]
  by_cases e2 : k = 2
  · rw [if_pos (decide_eq_true e2), M.gd_of _ (rn (by omega) (by omega)), M.gd_of _ (ln (by omega)), cm, M.bind_ok]; exact ⟨_, rfl⟩
  rw [if_neg (by simpa using e2)]
  by_cases e3 : k = 3
  · rw [if_pos (decide_eq_true e3), M.gd_of _ (rn (by omega) (by omega)), M.gd_of _ (ln (by omega)), cm, M.bind_ok]; exact ⟨_, rfl⟩
  rw [if_neg (by simpa using e3)]
  have rest : ∀ l : List Dat, l.length = 12 → ∃ d, (M.bind (M.ofO (atI l (k - 4))) fun r20 => M.ok r20) = .ok d := fun l hl => by
    rw [atI_i (by omega) (by omega), M.ofO_some, M.bind_ok]
    exact ⟨_, rfl⟩
  have hr : repOk ([46] : List Nat) (m : Int) = true := repOk_i (by omega) (by omega) (by decide)
  by_cases e4 : k = 4
  · cases t with
    | leaf => rw [if_neg (by simp [isLf]), M.gd_of _ hr]; exact rest _ rfl
    | node l => rw [if_pos (by simp [isLf, e4])]; exact ⟨_, rfl⟩
  · rw [if_neg (by simp [e4]), M.gd_of _ hr]; exact rest _ rfl
/-! the pile -/
def slots (m : Nat) (T : List (List Dat)) : Int := (T.map fun r => (m : Int) - (r.length : Int)).sum - (T.length : Int) - (m : Int) + 2
theorem slots_snoc (m : Nat) (P : List (List Dat)) (r : List Dat) : slots m (P ++ [r]) = slots m P + (m : Int) - (r.length : Int) - 1 := by
  unfold slots
  rw [List.map_append, List.sum_append, List.length_append]
  simp
  omega
def rowsOk (m D : Nat) (T : List (List Dat)) : Prop := ∀ (i : Nat) r, T[i]? = some r → ∀ d ∈ r, isT m (D - i) d = true
/-- P the lower rows, r the last one; G: all are trees so far -/
structure PileI (m D : Nat) (G : Prop) (lim : Nat) (P : List (List Dat)) (r : List Dat) : Prop where
  low : ∀ q ∈ P, q.length < m
  hd : P ≠ [] → P[0]? = some []
  top : r.length ≤ if P = [] then 1 else lim
  dep : P.length ≤ D
  tr : G → rowsOk m D (P ++ [r])
theorem rowsOk_last {m D : Nat} {P : List (List Dat)} {r : List Dat} (h : rowsOk m D (P ++ [r])) : ∀ d ∈ r, isT m (D - P.length) d = true := h P.length r (by simp)
theorem rowsOk_low {m D : Nat} {P : List (List Dat)} {r : List Dat} (h : rowsOk m D (P ++ [r])) : rowsOk m D P := fun i q e => h i q (by rw [List.getElem?_append_left (by have := lt_of_get e; exact this)]; exact e)
theorem rowsOk_snoc {m D : Nat} {P : List (List Dat)} {r : List Dat} (h : rowsOk m D P) (hr : ∀ d ∈ r, isT m (D - P.length) d = true) : rowsOk m D (P ++ [r]) := fun i q e => by
  by_cases hi : i < P.length
  · rw [List.getElem?_append_left hi] at e; exact h i q e
  · rw [List.getElem?_append_right (by omega)] at e
    have : i - P.length = 0 := by
      cases z : i - P.length with
      | zero => rfl
      | succ n => rw [z] at e; simp at e
    rw [this] at e
    cases e
    have : i = P.length := by omega
    subst this
    exact hr
theorem slots_low {m : Nat} : ∀ {P : List (List Dat)}, (∀ q ∈ P, q.length < m) → (P.length : Int) ≤ (P.map fun r => (m : Int) - (r.length : Int)).sum
  | [], _ => by simp
  | q :: P, h => by
    have h1 := h q List.mem_cons_self
    have h2 := slots_low (P := P) fun x hx => h x (List.mem_cons_of_mem _ hx)
    rw [List.map_cons, List.sum_cons, List.length_cons]
    omega
/-- where the tree isn't whole something is open -/
theorem PileI.open_ {m D : Nat} {G : Prop} {P : List (List Dat)} {r : List Dat} (I : PileI m D G (m - 1) P r) (hm : 1 ≤ m) (h0 : (P ++ [r])[0]? = some []) : 1 ≤ slots m (P ++ [r]) := by
  rw [slots_snoc]
  cases P with
  | nil =>
    cases h0
    unfold slots
    simp
    omega
  | cons q P =>
    have hq : q = [] := by have := I.hd (by simp); simpa using this
    subst hq
    have ht := I.top
    rw [if_neg (by simp)] at ht
    have hl := slots_low (P := P) fun x hx => I.low x (List.mem_cons_of_mem _ hx)
    unfold slots
    rw [List.map_cons, List.sum_cons, List.length_cons]
    simp only [List.length_nil]
    omega
theorem ofO_ok {α β : Type} {o : Option α} {a : α} {k : α → M β} (h : o = some a) : M.bind (M.ofO o) k = k a := by rw [h]; rfl
theorem trOf_isT {m k : Nat} {d : Dat} (h : isT m k d = true) : ∃ t, trOf d = some t := by
  obtain ⟨t, rfl⟩ := isT_tr h
  exact ⟨t, trOf_trd t⟩
theorem p_law_tree {m D : Nat} (hm1 : 2 ≤ m) (hm : m ≤ 6) (hD : D ≤ 6) {cells : List Int} (hc : cells.length ≤ 2000) {place kind : Int} (k0 : 0 ≤ kind) (k16 : kind < 16) :
    ∃ d, m_law_tree cells (m : Int) (D : Int) place kind = .ok d ∧ (place < 0 → isT m D d = true) := by
  unfold m_law_tree
  simp only [M.lt_eq, M.bind_ok]
  have inv0 : ∀ p : Int, 0 ≤ p → PileI m D (place < 0 ∨ p ≤ place) (m - 1) [] [] := fun p _ => ⟨by simp, by simp, by simp, Nat.zero_le _, fun _ i r e => by
    cases i with
    | zero => cases e; simp
    | succ i => simp at e⟩
  refine bind_while (s0 := (([[]] : List (List Dat)), (0 : Int), (0 : Int))) (Q := fun (mm : M Dat) => ∃ d, mm = .ok d ∧ (place < 0 → isT m D d = true)) (fun s => ∃ P r, s.1 = P ++ [r] ∧ PileI m D (place < 0 ∨ s.2.2 ≤ place) (m - 1) P r ∧ 0 ≤ s.2.1 ∧ 0 ≤ s.2.2) (fun s => (slots m s.1 + (m : Int) * max 0 ((cells.length : Int) - s.2.1)).toNat) ⟨[], [], rfl, inv0 0 (Int.le_refl _), Int.le_refl _, Int.le_refl _⟩ ?_ ?_ ?_
  · have : slots m [[]] = 1 := by unfold slots; simp; omega
    simp only [this]
    have h1 : (m : Int) * max 0 ((cells.length : Int) - 0) ≤ 6 * 2000 := by
      have e : max 0 ((cells.length : Int) - 0) = (cells.length : Int) := by omega
      rw [e]
      have : ((m * cells.length : Nat) : Int) ≤ ((6 * 2000 : Nat) : Int) := Int.ofNat_le.mpr (Nat.mul_le_mul hm hc)
      simpa using this
    omega
  · rintro ⟨T, a, p⟩ ⟨P, r, e1, I, ha, hp0⟩
    simp only at e1 I ha hp0
    subst e1
    obtain ⟨x, hx⟩ : ∃ x, (P ++ [r])[0]? = some x := ⟨_, List.getElem?_eq_getElem (by simp)⟩
    simp only [atI_0, ofO_ok hx]
    cases x with
    | cons y x => exact .inl rfl
    | nil =>
    refine .inr ⟨rfl, ?_⟩
    have hop := I.open_ (by omega) hx
    have hlim : PileI m D (place < 0 ∨ p ≤ place) m P r := ⟨I.low, I.hd, by have := I.top; split at this <;> (rename_i q; simp only [q, if_pos, if_neg, ↓reduceIte]; omega), I.dep, I.tr⟩
    have htest : ∃ b, (M.nox (if (decide (((P ++ [r]).length : Int) ≤ (D : Int))) = true then (M.bind (M.nox (if (decide (a < ((cells).length : Int))) = true then (M.bind (M.ofO (atI cells a)) fun r4 => .ok (decide ((0 : Int) < (r4 % (3 : Int))))) else M.ok false)) fun r6 => .ok r6) else M.ok false)) = .ok b ∧ (b = true → (P ++ [r]).length ≤ D ∧ a < cells.length) := by
      by_cases c1 : ((P ++ [r]).length : Int) ≤ (D : Int)
      · rw [if_pos (decide_eq_true c1)]
        by_cases c2 : a < (cells.length : Int)
        · rw [if_pos (decide_eq_true c2), atI_i ha (by omega)]
          exact ⟨_, rfl, fun _ => ⟨by omega, c2⟩⟩
        · rw [if_neg (by simpa using c2)]
          exact ⟨false, rfl, fun z => by cases z⟩
      · rw [if_neg (by simpa using c1)]
        exact ⟨false, rfl, fun z => by cases z⟩
    obtain ⟨b, b1, b2⟩ := htest
    rw [b1, M.bind_ok]
    have first : ∃ (P' : List (List Dat)) (r' : List Dat) (p' : Int), (if b = true then (M.gd (lenLt (P ++ [r])) <| M.ok (P ++ [r] ++ [[]], p)) else
          (M.bind (M.ofO ((P ++ [r]).getLast?)) fun r12 =>
          M.gd (lenLt r12) <|
          M.bind (if (decide (p = place)) = true then (
            M.bind (M.ofO (((P ++ [r]).dropLast ++ [r12 ++ [(nond ())]]).getLast?)) fun r16 =>
            M.bind (M.nox (m_law_thing Tr.leaf kind (m : Int))) fun r18 =>
            M.bind (M.ofO (setI r16 (-1) r18)) fun r20 =>
            M.ok (((P ++ [r]).dropLast ++ [r12 ++ [(nond ())]]).dropLast ++ [r20])
          ) else (
            M.ok ((P ++ [r]).dropLast ++ [r12 ++ [(nond ())]])
          )) fun (s15 : (List (List Dat))) =>
          M.ok (s15, p + (1 : Int)))) = .ok (P' ++ [r'], p') ∧ 0 ≤ p' ∧ PileI m D (place < 0 ∨ p' ≤ place) m P' r' ∧ slots m (P' ++ [r']) + (m : Int) * max 0 ((cells.length : Int) - (a + 1)) < slots m (P ++ [r]) + (m : Int) * max 0 ((cells.length : Int) - a) := by
      have hmx : (m : Int) * max 0 ((cells.length : Int) - (a + 1)) ≤ (m : Int) * max 0 ((cells.length : Int) - a) := Int.mul_le_mul_of_nonneg_left (by omega) (by omega)
      have hll : (P ++ [r]).length ≤ 7 := by rw [List.length_append]; have := I.dep; simp; omega
      cases b with
      | true =>
        obtain ⟨d1, d2⟩ := b2 rfl
        rw [if_pos rfl, M.gd_of _ (lenLt_i (by omega))]
        refine ⟨P ++ [r], [], p, rfl, hp0, ⟨fun q hq => ?_, fun _ => hx, by simp, d1, fun g => rowsOk_snoc (I.tr g) (by simp)⟩, ?_⟩
        · rcases List.mem_append.mp hq with z | z
          · exact I.low q z
          · rw [List.mem_singleton.mp z]
            have := I.top
            split at this
            · rename_i hP
              subst hP
              simp at hx
              rw [hx]; simp; omega
            · omega
        · rw [slots_snoc m (P ++ [r])]
          have e : max 0 ((cells.length : Int) - a) = max 0 ((cells.length : Int) - (a + 1)) + 1 := by omega
          rw [e, Int.mul_add]
          simp
          omega
      | false =>
        have hrl : r.length ≤ 6 := by have := I.top; split at this <;> omega
        rw [if_neg (by decide), gl_snoc, M.ofO_some, M.bind_ok, M.gd_of _ (lenLt_i (by omega)), dl_snoc]
        have grow : r.length + 1 ≤ if P = [] then 1 else m := by
          have := I.top
          split at this
          · rename_i hP
            subst hP
            simp at hx
            rw [hx]; simp
          · rename_i hP
            rw [if_neg hP]; omega
        have sl : slots m (P ++ [r ++ [(nond ())]]) = slots m (P ++ [r]) - 1 := by rw [slots_snoc, slots_snoc]; simp; omega
        by_cases hp : p = place
        · rw [if_pos (decide_eq_true hp), gl_snoc, M.ofO_some, M.bind_ok]
          obtain ⟨d, hd⟩ := p_thing hm (by omega) k0 k16 Tr.leaf
          rw [hd, M.nox_ok, M.bind_ok, setI_last, M.ofO_some, M.bind_ok, dl_snoc, M.bind_ok]
          refine ⟨P, r ++ [d], p + 1, rfl, by omega, ⟨I.low, I.hd, by simpa using grow, I.dep, fun g => ?_⟩, ?_⟩
          · rcases g with g | g
            · have := I.tr (.inl g)
              exfalso
              omega
            · omega
          · have : slots m (P ++ [r ++ [d]]) = slots m (P ++ [r ++ [(nond ())]]) := by rw [slots_snoc, slots_snoc]; simp
            rw [this, sl]
            omega
        · rw [if_neg (by simpa using hp), M.bind_ok]
          refine ⟨P, r ++ [(nond ())], p + 1, rfl, by omega, ⟨I.low, I.hd, by simpa using grow, I.dep, fun g => ?_⟩, by rw [sl]; omega⟩
          have g' := I.tr (by rcases g with g | g; exact .inl g; exact .inr (by omega))
          refine rowsOk_snoc (rowsOk_low g') fun d hd => ?_
          rcases List.mem_append.mp hd with z | z
          · exact rowsOk_last g' d z
          · rw [List.mem_singleton.mp z]; exact isT_non _ _
    obtain ⟨P', r', p', f1, hp', I', sl⟩ := first
    rw [f1, M.bind_ok]
    refine bind_while (s0 := (P' ++ [r'], p')) (Q := fun (mm : M (List (List Dat) × Int × Int)) => ∃ s', mm = .ok s' ∧ (∃ P r, s'.1 = P ++ [r] ∧ PileI m D (place < 0 ∨ s'.2.2 ≤ place) (m - 1) P r ∧ 0 ≤ s'.2.1 ∧ 0 ≤ s'.2.2) ∧ (slots m s'.1 + (m : Int) * max 0 ((cells.length : Int) - s'.2.1)).toNat < (slots m (P ++ [r]) + (m : Int) * max 0 ((cells.length : Int) - a)).toNat) (fun s => ∃ P r, s.1 = P ++ [r] ∧ PileI m D (place < 0 ∨ s.2 ≤ place) m P r ∧ slots m s.1 = slots m (P' ++ [r']) ∧ 0 ≤ s.2) (fun s => s.1.length) ⟨P', r', rfl, I', rfl, hp'⟩ ?_ ?_ ?_
    · rw [List.length_append]
      have := I'.dep
      simp
      omega
    · rintro ⟨T, p⟩ ⟨P, r, e1, I, hsl, hp0⟩
      simp only at e1 I hsl hp0
      subst e1
      simp only [atI_last, M.ofO_some, M.bind_ok]
      by_cases hP : P = []
      · subst hP
        exact .inl rfl
      obtain ⟨P0, r0, rfl⟩ := snoc_of hP
      rw [if_pos (by simp; omega), M.nox_ok, M.bind_ok]
      by_cases hr : r.length = m
      · right
        have hr0 : r0.length < m := I.low r0 (by simp)
        refine ⟨by rw [decide_eq_true (by omega)], ?_⟩
        have lowT : (place < 0 ∨ p ≤ place) → isT m (D - P0.length) (.tup r) = true := fun g => by
          have g' := I.tr g
          have hd := I.dep
          rw [List.length_append, List.length_singleton] at hd
          obtain ⟨k, hk⟩ : ∃ k, D - P0.length = k + 1 := ⟨D - P0.length - 1, by omega⟩
          rw [hk, isT_tup, decide_eq_true hr, Bool.true_and, List.all_eq_true]
          have h2 := rowsOk_last g'
          rw [List.length_append, List.length_singleton, show D - (P0.length + 1) = k by omega] at h2
          exact h2
        have newI : ∀ (x : Dat) (p2 : Int), ((place < 0 ∨ p2 ≤ place) → isT m (D - P0.length) x = true ∧ (place < 0 ∨ p ≤ place)) → PileI m D (place < 0 ∨ p2 ≤ place) m P0 (r0 ++ [x]) := fun x p2 hx => by
          refine ⟨fun q hq => I.low q (List.mem_append_left _ hq), fun h0 => ?_, ?_, ?_, fun g => ?_⟩
          · have := I.hd (by simp)
            rw [List.getElem?_append_left (by cases P0; exact (h0 rfl).elim; simp)] at this
            exact this
          · split
            · rename_i h0
              subst h0
              have := I.hd (by simp)
              simp at this
              rw [this]; simp
            · rw [List.length_append, List.length_singleton]; omega
          · have := I.dep
            rw [List.length_append] at this
            omega
          · obtain ⟨g1, g2⟩ := hx g
            have g' := rowsOk_low (I.tr g2)
            refine rowsOk_snoc (rowsOk_low g') fun d hd => ?_
            rcases List.mem_append.mp hd with z | z
            · exact rowsOk_last g' d z
            · rw [List.mem_singleton.mp z]; exact g1
        have newS : ∀ x : Dat, slots m (P0 ++ [r0 ++ [x]]) = slots m (P0 ++ [r0] ++ [r]) := fun x => by
          rw [slots_snoc, slots_snoc, slots_snoc]
          simp
          omega
        simp only [gl_snoc, dl_snoc, M.ofO_some, M.bind_ok]
        rw [M.gd_of _ (lenLt_i (by omega))]
        by_cases hp : p = place
        · obtain ⟨t, ht⟩ := trOf_isT (lowT (.inr (by omega)))
          obtain ⟨d, hd⟩ := p_thing hm (by omega) k0 k16 t
          rw [if_pos (decide_eq_true hp), ofO_ok ht, hd, M.nox_ok, M.bind_ok, setI_last, M.ofO_some, M.bind_ok, M.bind_ok]
          refine ⟨_, rfl, ⟨P0, r0 ++ [d], rfl, newI d (p + 1) (fun g => ?_), by rw [← hsl]; exact newS d, by show 0 ≤ p + 1; omega⟩, by simp⟩
          omega
        · rw [if_neg (by simpa using hp), M.bind_ok]
          refine ⟨_, rfl, ⟨P0, r0 ++ [.tup r], rfl, newI (.tup r) (p + 1) (fun g => ?_), by rw [← hsl]; exact newS _, by show 0 ≤ p + 1; omega⟩, by simp⟩
          have g2 : place < 0 ∨ p ≤ place := by omega
          exact ⟨lowT g2, g2⟩
      · left
        rw [decide_eq_false (by omega)]
    · rintro ⟨T, p⟩ ⟨P, r, e1, I, hsl, hp0⟩ hend
      simp only at e1 I hsl hp0
      subst e1
      refine ⟨_, rfl, ⟨P, r, rfl, ⟨I.low, I.hd, ?_, I.dep, I.tr⟩, by show 0 ≤ a + 1; omega, hp0⟩, ?_⟩
      · split
        · rename_i hP
          have := I.top
          rw [if_pos hP] at this
          exact this
        · rename_i hP
          have ht := I.top
          rw [if_neg hP] at ht
          obtain ⟨P0, r0, rfl⟩ := snoc_of hP
          simp only [atI_last, M.ofO_some, M.bind_ok] at hend
          rw [if_pos (by simp; omega), M.nox_ok, M.bind_ok] at hend
          have : decide ((r.length : Int) = (m : Int)) = false := by injection hend
          have := of_decide_eq_false this
          omega
      · show (slots m (P ++ [r]) + (m : Int) * max 0 ((cells.length : Int) - (a + 1))).toNat < _
        rw [hsl]
        have : (0 : Int) ≤ (m : Int) * max 0 ((cells.length : Int) - a) := Int.mul_nonneg (by omega) (by omega)
        omega
  · rintro ⟨T, a, p⟩ ⟨P, r, e1, I, ha, hp0⟩ hend
    simp only at e1 I ha hp0
    subst e1
    obtain ⟨x, hx⟩ : ∃ x, (P ++ [r])[0]? = some x := ⟨_, List.getElem?_eq_getElem (by simp)⟩
    simp only [atI_0, ofO_ok hx] at hend ⊢
    cases x with
    | nil => cases hend
    | cons y x =>
      refine ⟨y, rfl, fun hpl => ?_⟩
      exact I.tr (.inl hpl) 0 (y :: x) hx y List.mem_cons_self

/-! ### the mathematics -/
/-- the fraction in lowest terms -/
def ftop (t b : Int) : Int := b.sign * (t / (Int.gcd t b : Int))
def fbot (t b : Int) : Int := (b.natAbs : Int) / (Int.gcd t b : Int)
theorem gcd_pos {t b : Int} (h : b ≠ 0) : (0 : Int) < (Int.gcd t b : Int) := by
  have : 0 < Int.gcd t b := Int.gcd_pos_of_ne_zero_right t h
  omega
theorem gcd_le {t b : Int} (h : b ≠ 0) : Int.gcd t b ≤ b.natAbs := Nat.le_of_dvd (by omega) (Int.gcd_dvd_natAbs_right t b)
theorem log2_mono {a b : Nat} (h : a ≤ b) (hb : b.log2 < 9000) : a.log2 < 9000 := by
  by_cases h0 : a = 0
  · subst h0; decide
  · have h1 : 2 ^ a.log2 ≤ a := Nat.log2_self_le h0
    have hb0 : b ≠ 0 := by omega
    have h2 : b < 2 ^ (b.log2 + 1) := Nat.lt_log2_self
    have h3 : 2 ^ a.log2 < 2 ^ (b.log2 + 1) := by omega
    have h4 : a.log2 < b.log2 + 1 := (Nat.pow_lt_pow_iff_right (by decide)).mp h3
    omega
theorem fdiv_top (t b : Int) (h : b ≠ 0) : t.fdiv (if b < 0 then -(Int.gcd t b : Int) else (Int.gcd t b : Int)) = ftop t b := by
  have g := gcd_pos (t := t) h
  have d : (Int.gcd t b : Int) ∣ t := Int.gcd_dvd_left t b
  unfold ftop
  split
  · rename_i hb
    rw [Int.fdiv_eq_ediv_of_dvd (by rwa [Int.neg_dvd]), Int.ediv_neg, Int.sign_eq_neg_one_of_neg hb]
    omega
  · rename_i hb
    rw [Int.fdiv_eq_ediv_of_dvd d, Int.sign_eq_one_of_pos (by omega)]
    omega
theorem fdiv_bot (t b : Int) (h : b ≠ 0) : b.fdiv (if b < 0 then -(Int.gcd t b : Int) else (Int.gcd t b : Int)) = fbot t b := by
  have d : (Int.gcd t b : Int) ∣ b := Int.gcd_dvd_right t b
  unfold fbot
  split
  · rename_i hb
    rw [Int.fdiv_eq_ediv_of_dvd (by rwa [Int.neg_dvd]), Int.ediv_neg, show (b.natAbs : Int) = -b by omega, Int.neg_ediv_of_dvd d]
  · rename_i hb
    rw [Int.fdiv_eq_ediv_of_dvd d, show (b.natAbs : Int) = b by omega]
theorem fbot_pos (t b : Int) (h : b ≠ 0) : 0 < fbot t b := by
  unfold fbot
  have g := gcd_pos (t := t) h
  have l := gcd_le (t := t) h
  exact Int.ediv_pos_of_pos_of_dvd (by omega) (by omega) (by rw [Int.dvd_natAbs]; exact Int.gcd_dvd_right t b)
theorem f_cross (t b : Int) : ftop t b * b = t * fbot t b := by
  unfold ftop fbot
  have h1 : (Int.gcd t b : Int) ∣ t := Int.gcd_dvd_left t b
  have h2 : (Int.gcd t b : Int) ∣ (b.natAbs : Int) := by rw [Int.dvd_natAbs]; exact Int.gcd_dvd_right t b
  have e : b.sign * b = (b.natAbs : Int) := by rw [Int.mul_comm]; exact Int.mul_sign_self b
  rw [Int.mul_right_comm, e, Int.mul_comm, ← Int.mul_ediv_assoc _ h2, Int.mul_comm, ← Int.mul_ediv_assoc _ h1, Int.mul_comm]
theorem f_coprime (t b : Int) (h : b ≠ 0) : Int.gcd (ftop t b) (fbot t b) = 1 := by
  unfold ftop fbot
  have g : 0 < Int.gcd t b := Int.gcd_pos_of_ne_zero_right t h
  have e1 : (b.sign * (t / (Int.gcd t b : Int))).natAbs = t.natAbs / Int.gcd t b := by
    rw [Int.natAbs_mul, Int.natAbs_sign, if_neg h, Nat.one_mul, Int.natAbs_ediv_of_dvd (Int.gcd_dvd_left t b), Int.natAbs_natCast]
  have e2 : ((b.natAbs : Int) / (Int.gcd t b : Int)).natAbs = b.natAbs / Int.gcd t b := by
    rw [← Int.natCast_ediv, Int.natAbs_natCast]
  show Nat.gcd _ _ = 1
  rw [e1, e2]
  exact Nat.gcd_div_gcd_div_gcd_of_pos_right (by omega)
theorem log_200 {b : Int} (h : b.natAbs < 2 ^ 200) : b.natAbs.log2 < 9000 := by
  by_cases h0 : b.natAbs = 0
  · rw [h0]; decide
  · exact Nat.lt_of_lt_of_le ((Nat.log2_lt h0).mpr h) (by decide)
theorem ftop_lt {t b : Int} (h : t.natAbs < 2 ^ 200) : (ftop t b).natAbs < 2 ^ 200 := by
  unfold ftop
  rw [Int.natAbs_mul]
  have h1 : b.sign.natAbs ≤ 1 := by rw [Int.natAbs_sign]; split <;> omega
  have h2 : (t / (Int.gcd t b : Int)).natAbs ≤ t.natAbs := by
    rw [Int.natAbs_ediv_of_dvd (Int.gcd_dvd_left t b), Int.natAbs_natCast]
    exact Nat.div_le_self _ _
  have h3 := Nat.mul_le_mul h1 h2
  omega
theorem fbot_lt {t b : Int} (h : b.natAbs < 2 ^ 200) : (fbot t b).natAbs < 2 ^ 200 := by
  unfold fbot
  rw [← Int.natCast_ediv, Int.natAbs_natCast]
  exact Nat.lt_of_le_of_lt (Nat.div_le_self _ _) h
theorem cell_ix {ns : List Int} {k : Nat} (h : k < ns.length) : atI (ns.map Dat.int) (k : Int) = some (.int (ns.getD k 0)) := by
  rw [atI_nat (v := .int (ns.getD k 0))]
  rw [List.getElem?_map, List.getD_eq_getElem?_getD, List.getElem?_eq_getElem h]
  rfl

theorem gcd_rec2 {a b : Int} : Int.gcd b (a % b) = Int.gcd a b := by rw [Int.emod_def, Int.gcd_sub_mul_left_right, Int.gcd_comm]
theorem euclid {c : Int × Int → M Bool} {f : Int × Int → M (Int × Int)} (hc : ∀ s : Int × Int, c s = .ok (!decide (s.2 = 0))) (hf : ∀ s : Int × Int, 0 < s.2 → f s = .ok (s.2, s.1 % s.2)) (a b : Int) (hb : 0 ≤ b) : ∃ x, whileM c f (b.natAbs + 2) (a, b) = .ok (x, 0) ∧ x.natAbs = Int.gcd a b ∧ (0 ≤ a → 0 ≤ x) := by
  have h := whileM_by (c := c) (f := f) (I := fun s => 0 ≤ s.2 ∧ Int.gcd s.1 s.2 = Int.gcd a b ∧ (0 ≤ a → 0 ≤ s.1)) (fun s => s.2.natAbs) (fun s hs => by
    by_cases h0 : s.2 = 0
    · left; rw [hc]; simp [h0]
    · right
      have hp : 0 < s.2 := by omega
      have e1 := Int.emod_nonneg s.1 (b := s.2) (by omega)
      have e2 := Int.emod_lt_of_pos s.1 hp
      refine ⟨by rw [hc]; simp [h0], _, hf s hp, ⟨e1, ?_, fun _ => hs.1⟩, ?_⟩
      · rw [gcd_rec2]; exact hs.2.1
      · show (s.1 % s.2).natAbs < s.2.natAbs
        omega) (b.natAbs + 2) (s := (a, b)) ⟨hb, rfl, id⟩ (by show b.natAbs < _; omega)
  obtain ⟨⟨x, y⟩, h1, ⟨h2, h3, h5⟩, h4⟩ := h
  rw [hc] at h4
  have hy : y = 0 := by simpa using h4
  subst hy
  refine ⟨x, h1, ?_, h5⟩
  rw [← h3]
  simp
theorem p_greatest_divisor (a b : Int) : m_greatest_divisor a b = .ok (Int.gcd a b : Int) := by
  unfold m_greatest_divisor
  simp only [M.lt_eq]
  obtain ⟨x, h1, h2, h3⟩ := euclid (c := fun (s1 : Int × Int) => .ok ((!(decide (s1.2 = (0 : Int)))))) (f := fun (s1 : Int × Int) => M.gd ((decide (0 < s1.2))) <| M.ok (s1.2, (s1.1 % s1.2))) (fun s => rfl) (fun s hs => by rw [M.gd_of _ (by simpa using hs)]) (a.natAbs : Int) (b.natAbs : Int) (by omega)
  rw [M.bind_of h1]
  have h4 := h3 (by omega)
  have h5 : Int.gcd (a.natAbs : Int) (b.natAbs : Int) = Int.gcd a b := by simp [Int.gcd]
  rw [h5] at h2
  show M.ok x = _
  rw [show x = (Int.gcd a b : Int) by omega]
theorem p_fraction0 (t : Int) : m_fraction t 0 = .ex "NoFraction" := by
  unfold m_fraction
  rw [if_pos (by simp)]
theorem p_fraction {t b : Int} (h : b ≠ 0) (hl : b.natAbs.log2 < 9000) : m_fraction t b = .ok (ftop t b, fbot t b) := by
  unfold m_fraction
  rw [if_neg (by simpa using h), p_greatest_divisor, M.bind_ok]
  have e1 := fdiv_top t b h
  have e2 := fdiv_bot t b h
  have g := gcd_pos (t := t) h
  have l := log2_mono (gcd_le (t := t) h) hl
  by_cases hs : b < 0
  · rw [if_pos hs] at e1 e2
    have ok : fdivOk (-(Int.gcd t b : Int)) = true := fdivOk_i (by omega) (by rw [Int.natAbs_neg]; exact l)
    rw [if_pos (by simpa using hs)]
    simp only [M.lt_eq, M.bind_ok]
    rw [M.gd_of _ ok, M.gd_of _ ok, e1, e2]
  · rw [if_neg hs] at e1 e2
    have ok : fdivOk (Int.gcd t b : Int) = true := fdivOk_i (by omega) l
    rw [if_neg (by simpa using hs)]
    simp only [M.bind_ok]
    rw [M.gd_of _ ok, M.gd_of _ ok, e1, e2]
theorem p_law_divisor {a : Int} (ha : 0 ≤ a) {b : Int} (hb : 0 ≤ b) : m_law_divisor a b = .ok (Int.gcd a b : Int) := by
  unfold m_law_divisor
  simp only [M.lt_eq]
  obtain ⟨x, h1, h2, h3⟩ := euclid (c := fun (s1 : Int × Int) => .ok ((!(decide (s1.2 = (0 : Int)))))) (f := fun (s1 : Int × Int) => M.gd ((decide (0 < s1.2))) <| M.ok (s1.2, (s1.1 % s1.2))) (fun s => rfl) (fun s hs => by rw [M.gd_of _ (by simpa using hs)]) a b hb
  rw [M.bind_of h1]
  show M.ok x = _
  have := h3 ha
  rw [show x = (Int.gcd a b : Int) by omega]

/-! ### dicts -/
abbrev En := List Int × (Int × Int) × (Int × Int)
theorem dget_nil {α : Type} (q : List Nat) : dget ([] : List (List Nat × α)) q = none := rfl
theorem dget_app {α : Type} {l : List (List Nat × α)} {k : List Nat} {v : α} {q : List Nat} : dget (l ++ [(k, v)]) q = match dget l q with | some w => some w | none => if k = q then some v else none := by
  induction l with
  | nil => rw [List.nil_append, dget_cons, dget_nil]
  | cons p l ih =>
    rw [List.cons_append, dget_cons, dget_cons, ih]
    by_cases h : p.1 = q
    · rw [if_pos h, if_pos h]
    · rw [if_neg h, if_neg h]
theorem dget_mapo {α : Type} {k : List Nat} {v : α} {q : List Nat} (hq : k ≠ q) : ∀ l : List (List Nat × α), dget (l.map fun p => if p.1 = k then (p.1, v) else p) q = dget l q
  | [] => rfl
  | p :: l => by
    rw [List.map_cons, dget_cons, dget_cons, dget_mapo hq l]
    by_cases h : p.1 = k
    · rw [if_pos h]
      show (if p.1 = q then _ else _) = _
      rw [if_neg (by rw [h]; exact hq), if_neg (by rw [h]; exact hq)]
    · rw [if_neg h]
theorem dget_map {α : Type} {k : List Nat} {v : α} : ∀ l : List (List Nat × α), (l.any fun p => decide (p.1 = k)) = true → dget (l.map fun p => if p.1 = k then (p.1, v) else p) k = some v
  | [], h => by cases h
  | p :: l, h => by
    rw [List.map_cons, dget_cons]
    by_cases e : p.1 = k
    · rw [if_pos e]
      show (if p.1 = k then _ else _) = _
      rw [if_pos e]
    · rw [if_neg e, if_neg e]
      rw [List.any_cons, decide_eq_false e, Bool.false_or] at h
      exact dget_map l h
theorem dget_none {α : Type} {k : List Nat} : ∀ l : List (List Nat × α), k ∉ l.map (·.1) → dget l k = none
  | [], _ => rfl
  | p :: l, h => by
    rw [List.map_cons, List.mem_cons, not_or] at h
    rw [dget_cons, if_neg (fun e => h.1 e.symm)]
    exact dget_none l h.2
theorem any_iff {α : Type} {k : List Nat} (l : List (List Nat × α)) : (l.any fun p => decide (p.1 = k)) = true ↔ k ∈ l.map (·.1) := by
  rw [List.any_eq_true]
  constructor
  · rintro ⟨p, h1, h2⟩
    exact List.mem_map.mpr ⟨p, h1, of_decide_eq_true h2⟩
  · intro h
    obtain ⟨p, h1, h2⟩ := List.mem_map.mp h
    exact ⟨p, h1, decide_eq_true h2⟩
theorem dget_put {α : Type} (l : List (List Nat × α)) (k : List Nat) (v : α) (q : List Nat) : dget (dput l k v) q = if k = q then some v else dget l q := by
  unfold dput
  by_cases h : (l.any fun p => decide (p.1 = k)) = true
  · rw [if_pos h]
    by_cases e : k = q
    · subst e; rw [if_pos rfl]; exact dget_map l h
    · rw [if_neg e]; exact dget_mapo e l
  · rw [if_neg h, dget_app]
    by_cases e : k = q
    · subst e
      rw [dget_none l (fun m => h ((any_iff l).mpr m))]
    · rw [if_neg e]
      cases dget l q with
      | none => simp [e]
      | some w => simp [e]
theorem dput_new {α : Type} {l : List (List Nat × α)} {k : List Nat} {v : α} (h : k ∉ l.map (·.1)) : dput l k v = l ++ [(k, v)] := by
  unfold dput
  rw [if_neg (fun q => h ((any_iff l).mp q))]
theorem dget_merge {α : Type} : ∀ (m l : List (List Nat × α)) (q : List Nat), (m.map (·.1)).Nodup → dget (dmerge l m) q = match dget m q with | some w => some w | none => dget l q
  | [], l, q, _ => rfl
  | p :: m, l, q, h => by
    rw [List.map_cons, List.nodup_cons] at h
    show dget (dmerge (dput l p.1 p.2) m) q = _
    rw [dget_merge m _ q h.2, dget_put, dget_cons]
    by_cases e : p.1 = q
    · rw [if_pos e, if_pos e, dget_none m (e ▸ h.1)]
    · rw [if_neg e, if_neg e]
theorem dhas_is {α : Type} (l : List (List Nat × α)) (k : List Nat) : dhas l k = (dget l k).isSome := rfl
/-! ### the frame's functions -/
theorem rep_one {α : Type} (n : Nat) (x : α) : (List.replicate n [x]).flatten = List.replicate n x := by
  induction n with
  | zero => rfl
  | succ n ih => rw [List.replicate_succ, List.flatten_cons, ih]; rfl
theorem repS_one {α : Type} (n : Nat) (x : α) : repS [x] (n : Int) = List.replicate n x := by
  unfold repS; rw [Int.toNat_natCast, rep_one]
theorem p_checked {L : List Nat} {D : Int} {t : List Nat} (h : ∀ c ∈ t, c ∈ L) : m_checked (L, D) t = .ok t := by
  unfold m_checked
  refine bind_forI (Q := fun q => q = .ok t) (fun _ => True) trivial (fun x hx s _ => ?_) (fun s _ => rfl)
  simp only
  rw [if_neg (by simp [h x hx])]
  exact ⟨(), rfl, trivial⟩
theorem forM_bad {f : Nat → Unit → M Unit} {p : Nat → Bool} {n : Str} : ∀ {xs : List Nat}, (∀ x ∈ xs, f x () = if p x = true then .ok () else .ex n) → (∃ x ∈ xs, p x = false) → forM f xs () = .ex n
  | [], _, ⟨x, h, _⟩ => by cases h
  | x :: xs, h, hb => by
    show (f x ()).bind _ = _
    rw [h x List.mem_cons_self]
    cases e : p x with
    | false => rw [if_neg (by decide)]; rfl
    | true =>
      rw [if_pos rfl]
      refine forM_bad (fun y hy => h y (List.mem_cons_of_mem _ hy)) ?_
      obtain ⟨y, h1, h2⟩ := hb
      rcases List.mem_cons.mp h1 with rfl | h1
      · rw [e] at h2; cases h2
      · exact ⟨y, h1, h2⟩
theorem p_checked_bad {L : List Nat} {D : Int} {t : List Nat} (h : ∃ c ∈ t, c ∉ L) : m_checked (L, D) t = .ex "NoText" := by
  unfold m_checked
  rw [forM_bad (p := fun c => decide (c ∈ L)) (n := "NoText") (fun x hx => ?_) (by obtain ⟨c, h1, h2⟩ := h; exact ⟨c, h1, decide_eq_false h2⟩)]
  · rfl
  · simp only
    by_cases e : x ∈ L
    · rw [if_neg (by simp [e]), if_pos (by simp [e])]; rfl
    · rw [if_pos (by simp [e]), if_neg (by simp [e])]; rfl
/-- the elders of the place behind a text -/
def nearL (L : List Nat) (D : Nat) (t : List Nat) : List Nat := (List.replicate D (L.headD 0) ++ t).reverse.take D
theorem near_len {L : List Nat} {D : Nat} {t : List Nat} : (nearL L D t).length = D := by
  unfold nearL
  rw [List.length_take, List.length_reverse, List.length_append, List.length_replicate]
  omega
theorem near_mem {L : List Nat} {D : Nat} {t : List Nat} (hL : 0 < L.length) (h : ∀ c ∈ t, c ∈ L) : ∀ c ∈ nearL L D t, c ∈ L := fun c hc => by
  have := List.mem_of_mem_take hc
  rw [List.mem_reverse, List.mem_append] at this
  rcases this with m | m
  · rw [List.eq_of_mem_replicate m]
    cases L with
    | nil => cases hL
    | cons x L => exact List.mem_cons_self
  · exact h c m
theorem near_cut {L : List Nat} {D : Nat} (u : List Nat) : nearL L D (u.drop (u.length - D)) = nearL L D u := by
  unfold nearL
  rw [List.reverse_append, List.reverse_append, List.take_append, List.take_append, List.reverse_drop, List.take_take]
  congr 1
  · by_cases h : D ≤ u.length
    · congr 1; omega
    · rw [List.take_of_length_le (by rw [List.length_reverse]; omega), List.take_of_length_le (by rw [List.length_reverse]; omega)]
  · congr 1
    rw [List.length_take, List.length_reverse]
    omega

theorem p_elders {L : List Nat} {D i : Nat} {t : List Nat} (hL : 0 < L.length) (hL2 : L.length ≤ 100) (hD : D ≤ 10) (ht : t.length ≤ 1000) (hi : i ≤ t.length) (h : ∀ c ∈ t, c ∈ L) : m_elders (L, (D : Int)) t (i : Int) = .ok (nearL L D (t.take i)) := by
  have e1 : lenOk t = true := lenOk_i (by omega)
  unfold m_elders
  rw [p_checked h, M.bind_ok, if_neg (by simp), M.gd_of _ e1, M.nox_ok, M.bind_ok, if_neg (by simp; omega)]
  unfold m_signs_ahead
  simp only [M.lt_eq]
  have a0 : atI L ((0 : Nat) : Int) = some (L.headD 0) := by
    rw [atI_n hL]
    cases L with
    | nil => cases hL
    | cons x L => rfl
  have hc : cut t (some (max (0 : Int) ((i : Int) - (D : Int)))) (some (i : Int)) = (t.take i).drop ((t.take i).length - D) := by
    rw [show max (0 : Int) ((i : Int) - (D : Int)) = ((i - D : Nat) : Int) by omega, cut_nn (by omega), List.length_take, Nat.min_eq_left hi, List.drop_take]
  rw [M.gd_of _ (lenOk_i (by omega)), show (0 : Int) = ((0 : Nat) : Int) from rfl, a0, M.ofO_some, M.bind_ok, M.gd_of _ (repOk_i (by omega) (by omega) (by simp)), M.gd_of _ e1, repS_one]
  rw [show (((0 : Nat) : Int)) = (0 : Int) from rfl, hc]
  have l1 : (List.replicate D (L.headD 0) ++ (t.take i).drop ((t.take i).length - D)).length ≤ 16777216 := by
    rw [List.length_append, List.length_replicate, List.length_drop, List.length_take]; omega
  rw [M.gd_of _ (catOk_i (by rw [List.length_append] at l1; exact l1)), M.gd_of _ (lenOk_i l1), M.gd_of _ (lenOk_i (by rw [List.length_reverse]; exact l1)), cut_to (by omega), Int.toNat_natCast, ← near_cut (t.take i)]
  rfl
def ent (n : Nat) (kn : List (List Nat × En)) (x : List Nat) : En := (dget kn x).getD (List.replicate n 0, (1, 1), (1, 1))

end B
namespace B
open PySem PySem.Spec PyProof.Rows L2
/-! ### worths -/
def oprod : Nat → Nat
  | 0 => 1
  | n + 1 => oprod n * (2 * n + 1)
def wtop (ns : List Nat) : Nat := ns.foldl (fun a n => a * oprod n) 1
def wbot (k : Nat) : Nat → Nat
  | 0 => 1
  | n + 1 => wbot k n * (2 * n + k)
theorem oprod_lt : ∀ {n : Nat}, n ≤ 1000 → oprod n ≤ 2 ^ (11 * n)
  | 0, _ => by decide
  | n + 1, h => by
    show oprod n * (2 * n + 1) ≤ _
    have h1 := oprod_lt (n := n) (by omega)
    have h2 : 2 * n + 1 ≤ 2 ^ 11 := by omega
    have := Nat.mul_le_mul h1 h2
    rw [← Nat.pow_add] at this
    rw [show 11 * (n + 1) = 11 * n + 11 by omega]
    exact this
theorem wbot_lt {k : Nat} (hk : k ≤ 40) : ∀ {n : Nat}, n ≤ 1000 → wbot k n ≤ 2 ^ (11 * n)
  | 0, _ => by show 1 ≤ _; exact Nat.one_le_two_pow
  | n + 1, h => by
    show wbot k n * (2 * n + k) ≤ _
    have h1 := wbot_lt hk (n := n) (by omega)
    have h2 : 2 * n + k ≤ 2 ^ 11 := by omega
    have := Nat.mul_le_mul h1 h2
    rw [← Nat.pow_add] at this
    rw [show 11 * (n + 1) = 11 * n + 11 by omega]
    exact this
theorem wbot_pos {k : Nat} (hk : 0 < k) : ∀ {n : Nat}, 0 < wbot k n
  | 0 => by show 0 < 1; decide
  | n + 1 => Nat.mul_pos (wbot_pos hk) (by omega)
theorem wfold_lt : ∀ (ns : List Nat) (a m : Nat), a ≤ 2 ^ (11 * m) → m + ns.sum ≤ 1000 → ns.foldl (fun a n => a * oprod n) a ≤ 2 ^ (11 * (m + ns.sum))
  | [], a, m, h, _ => by simpa using h
  | n :: ns, a, m, h, hs => by
    rw [List.sum_cons] at hs
    have h1 := Nat.mul_le_mul h (oprod_lt (n := n) (by omega))
    rw [← Nat.pow_add] at h1
    have := wfold_lt ns (a * oprod n) (m + n) (by rw [show 11 * (m + n) = 11 * m + 11 * n by omega]; exact h1) (by omega)
    rw [List.foldl_cons, List.sum_cons, show m + (n + ns.sum) = m + n + ns.sum by omega]
    exact this
def natI (ns : List Nat) : List Int := ns.map fun n : Nat => (n : Int)
theorem natI_sum (ns : List Nat) : (natI ns).sum = ((ns.sum : Nat) : Int) := by
  induction ns with
  | nil => rfl
  | cons n ns ih =>
    show (n : Int) + (natI ns).sum = _
    rw [ih, List.sum_cons, Int.natCast_add]
theorem natI_len (ns : List Nat) : (natI ns).length = ns.length := by unfold natI; simp

/-- one letter more -/
def plus1 (cs : List Nat) (p : Nat) : List Nat := cs.set p (cs.getD p 0 + 1)
theorem fold_mul : ∀ (ns : List Nat) (a : Nat), ns.foldl (fun a n => a * oprod n) a = a * wtop ns
  | [], a => by show a = a * 1; omega
  | n :: ns, a => by
    rw [List.foldl_cons, fold_mul ns (a * oprod n)]
    show a * oprod n * wtop ns = a * ns.foldl (fun a n => a * oprod n) (1 * oprod n)
    rw [fold_mul ns (1 * oprod n), Nat.one_mul, Nat.mul_assoc]
theorem wtop_cons (n : Nat) (ns : List Nat) : wtop (n :: ns) = oprod n * wtop ns := by
  show ns.foldl (fun a n => a * oprod n) (1 * oprod n) = _
  rw [fold_mul, Nat.one_mul]
theorem wtop_plus : ∀ (cs : List Nat) (p : Nat), p < cs.length → wtop (plus1 cs p) = wtop cs * (2 * cs.getD p 0 + 1)
  | c :: cs, 0, _ => by
    show wtop ((c + 1) :: cs) = wtop (c :: cs) * (2 * c + 1)
    rw [wtop_cons, wtop_cons, Nat.mul_right_comm]
    rfl
  | c :: cs, p + 1, h => by
    show wtop (c :: plus1 cs p) = wtop (c :: cs) * (2 * cs.getD p 0 + 1)
    rw [wtop_cons, wtop_cons, wtop_plus cs p (Nat.lt_of_succ_lt_succ h), Nat.mul_assoc]
theorem sum_plus : ∀ (cs : List Nat) (p : Nat), p < cs.length → (plus1 cs p).sum = cs.sum + 1
  | c :: cs, 0, _ => by
    show ((c + 1) :: cs).sum = (c :: cs).sum + 1
    rw [List.sum_cons, List.sum_cons]; omega
  | c :: cs, p + 1, h => by
    show (c :: plus1 cs p).sum = (c :: cs).sum + 1
    rw [List.sum_cons, List.sum_cons, sum_plus cs p (Nat.lt_of_succ_lt_succ h)]; omega
theorem plus_len (cs : List Nat) (p : Nat) : (plus1 cs p).length = cs.length := by unfold plus1; simp
def cou (k : Nat) (ps : List Nat) : List Nat := ps.foldl plus1 (List.replicate k 0)
theorem cou_len : ∀ (ps : List Nat) (cs : List Nat), (ps.foldl plus1 cs).length = cs.length
  | [], _ => rfl
  | p :: ps, cs => by rw [List.foldl_cons, cou_len ps, plus_len]
theorem cou_sum : ∀ (ps : List Nat) (cs : List Nat), (∀ p ∈ ps, p < cs.length) → (ps.foldl plus1 cs).sum = cs.sum + ps.length
  | [], _, _ => rfl
  | p :: ps, cs, h => by
    rw [List.foldl_cons, cou_sum ps _ (fun q hq => by rw [plus_len]; exact h q (List.mem_cons_of_mem _ hq)), sum_plus cs p (h p List.mem_cons_self), List.length_cons]
    omega
theorem cou_take {k : Nat} {ps : List Nat} {j : Nat} (h : j < ps.length) : cou k (ps.take (j + 1)) = plus1 (cou k (ps.take j)) ps[j] := by
  unfold cou
  rw [List.take_succ, List.getElem?_eq_getElem h, List.foldl_append]
  rfl
theorem getD_le_sum : ∀ (cs : List Nat) (p : Nat), cs.getD p 0 ≤ cs.sum
  | [], p => by simp
  | c :: cs, 0 => by show c ≤ _; rw [List.sum_cons]; omega
  | c :: cs, p + 1 => by
    show cs.getD p 0 ≤ _
    have := getD_le_sum cs p
    rw [List.sum_cons]; omega

theorem p_odd_product {n : Nat} (h : n ≤ 100000) : m_odd_product (n : Int) = .ok (oprod n : Int) := by
  unfold m_odd_product
  simp only [M.lt_eq]
  rw [M.gd_of _ (rngOk_i (by omega) (by omega) (by omega) (by omega)), Int.toNat_natCast]
  refine bind_rng (fun j => ((oprod j : Nat) : Int)) rfl (fun i hi => ?_) rfl
  rw [M.gd_of _ (mulOk_r (by omega) (by omega))]
  rw [show oprod (i + 1) = oprod i * (2 * i + 1) from rfl, Int.natCast_mul, Int.natCast_add, Int.natCast_mul]
  rfl
theorem p_worth {ns : List Nat} (hk0 : 0 < ns.length) (hk : ns.length ≤ 40) (hs : ns.sum ≤ 700) : m_worth (natI ns) = .ok (ftop (wtop ns) (wbot ns.length ns.sum), fbot (wtop ns) (wbot ns.length ns.sum)) := by
  unfold m_worth
  simp only [M.lt_eq]
  have key : ∀ (ns : List Nat) (a m : Nat), a ≤ 2 ^ (11 * m) → m + ns.sum ≤ 700 → forM (fun (x1 : Int) (s2 : Int) => M.bind (M.nox (m_odd_product x1)) fun r3 => M.gd (mulOk s2 r3) <| M.ok (s2 * r3)) (natI ns) (a : Int) = .ok ((ns.foldl (fun a n => a * oprod n) a : Nat) : Int) := by
    intro ns
    induction ns with
    | nil => intro a m _ _; rfl
    | cons n ns ih =>
      intro a m h1 h2
      rw [List.sum_cons] at h2
      have ho := oprod_lt (n := n) (by omega)
      have p1 : a * oprod n ≤ 2 ^ (11 * (m + n)) := by
        have := Nat.mul_le_mul h1 ho
        rw [← Nat.pow_add] at this
        rw [show 11 * (m + n) = 11 * m + 11 * n by omega]; exact this
      have b1 : (a : Int).natAbs < 2 ^ 7701 := by
        rw [Int.natAbs_natCast]
        exact Nat.lt_of_le_of_lt h1 ((Nat.pow_lt_pow_iff_right (by decide)).mpr (by omega))
      have b2 : (oprod n : Int).natAbs < 2 ^ 7701 := by
        rw [Int.natAbs_natCast]
        exact Nat.lt_of_le_of_lt ho ((Nat.pow_lt_pow_iff_right (by decide)).mpr (by omega))
      show (M.bind (M.nox (m_odd_product (n : Int))) fun r3 => M.gd (mulOk (a : Int) r3) <| M.ok ((a : Int) * r3)).bind _ = _
      rw [p_odd_product (by omega), M.nox_ok, M.bind_ok, M.gd_of _ (mulOk_i 7701 7701 b1 b2 (by decide) (by decide) (by decide)), M.bind_ok, ← Int.natCast_mul]
      exact ih _ _ p1 (by omega)
  have k1 := key ns 1 0 (by decide) (by omega)
  rw [show ((1 : Nat) : Int) = 1 from rfl] at k1
  rw [M.bind_of k1, natI_sum, natI_len, M.gd_of _ (rngOk_i (by omega) (by omega) (by omega) (by omega)), Int.toNat_natCast]
  refine bind_rng (fun j => ((wbot ns.length j : Nat) : Int)) rfl (fun i hi => ?_) ?_
  rotate_left
  · have hb := wbot_lt hk (n := ns.sum) (by omega)
    have hbp := wbot_pos (k := ns.length) hk0 (n := ns.sum)
    have hlog : (wbot ns.length ns.sum : Int).natAbs.log2 < 9000 := by
      rw [Int.natAbs_natCast]
      exact log2_9000 (m := 8000) (Nat.lt_of_le_of_lt hb ((Nat.pow_lt_pow_iff_right (by decide)).mpr (by omega))) (by decide)
    rw [show ns.foldl (fun a n => a * oprod n) 1 = wtop ns from rfl, p_fraction (by omega) hlog]
    rfl
  · rw [M.gd_of _ (mulOk_r (by omega) (by omega))]
    rw [show wbot ns.length (i + 1) = wbot ns.length i * (2 * i + ns.length) from rfl, Int.natCast_mul, Int.natCast_add, Int.natCast_mul]
    rfl

theorem mulnat {x y : Int} {m n : Nat} (hx : x.natAbs < 2 ^ m) (hy : y.natAbs < 2 ^ n) : (x * y).natAbs < 2 ^ (m + n) := by
  rw [Int.natAbs_mul, Nat.pow_add]
  exact Nat.mul_lt_mul_of_lt_of_lt hx hy

theorem nat200 {x y : Int} {m : Nat} (hx : x.natAbs < 2 ^ m) (hy : y.natAbs < 2 ^ m) : (x * y).natAbs < 2 ^ (m + m) := by
  rw [Int.natAbs_mul, Nat.pow_add]
  exact Nat.mul_lt_mul_of_lt_of_lt hx hy
theorem log_9000 {b : Int} (h : b.natAbs < 2 ^ 3000) : b.natAbs.log2 < 9000 := by
  by_cases h0 : b.natAbs = 0
  · rw [h0]; decide
  · have h1 : 2 ^ b.natAbs.log2 ≤ b.natAbs := Nat.log2_self_le h0
    have h2 : 2 ^ b.natAbs.log2 < 2 ^ 3000 := by omega
    have h4 := (Nat.pow_lt_pow_iff_right (by decide)).mp h2
    omega
theorem up_200 {x : Int} {m n : Nat} (h : x.natAbs < 2 ^ m) (l : m ≤ n) : x.natAbs < 2 ^ n := Nat.lt_of_lt_of_le h (Nat.pow_le_pow_right (by decide) l)
theorem ftop_lt' {t b : Int} {m : Nat} (h : t.natAbs < 2 ^ m) : (ftop t b).natAbs < 2 ^ m := by
  unfold ftop
  rw [Int.natAbs_mul]
  have h1 : b.sign.natAbs ≤ 1 := by rw [Int.natAbs_sign]; split <;> omega
  have h2 : (t / (Int.gcd t b : Int)).natAbs ≤ t.natAbs := by
    rw [Int.natAbs_ediv_of_dvd (Int.gcd_dvd_left t b), Int.natAbs_natCast]
    exact Nat.div_le_self _ _
  have h3 := Nat.mul_le_mul h1 h2
  omega
theorem fbot_lt' {t b : Int} {m : Nat} (h : b.natAbs < 2 ^ m) : (fbot t b).natAbs < 2 ^ m := by
  unfold fbot
  rw [← Int.natCast_ediv, Int.natAbs_natCast]
  exact Nat.lt_of_le_of_lt (Nat.div_le_self _ _) h
theorem kmul {x : Int} {k : Int} (h : x.natAbs < 2 ^ 1000) (hk : k.natAbs ≤ 4) : (k * x).natAbs < 2 ^ 1002 := by
  rw [Int.natAbs_mul]
  have := Nat.mul_le_mul hk (Nat.le_of_lt h)
  have e : k.natAbs * x.natAbs ≤ 4 * x.natAbs := Nat.mul_le_mul hk (Nat.le_refl _)
  omega

abbrev red (p : Int × Int) : Int × Int := (ftop p.1 p.2, fbot p.1 p.2)

/-! ### fractions in lowest terms are one -/
theorem dvd_cop {q p r : Int} (g : Int.gcd q p = 1) (h : q ∣ p * r) : q ∣ r := by
  rw [← Int.natAbs_dvd_natAbs] at h ⊢
  rw [Int.natAbs_mul] at h
  exact Nat.Coprime.dvd_of_dvd_mul_left g h
theorem red_eq {a b c d : Int} (hb : 0 < b) (hd : 0 < d) (h : a * d = c * b) : red (a, b) = red (c, d) := by
  have c1 := f_cross a b
  have c2 := f_cross c d
  have g1 := f_coprime a b (by omega)
  have g2 := f_coprime c d (by omega)
  have p1 := fbot_pos a b (by omega)
  have p2 := fbot_pos c d (by omega)
  show (ftop a b, fbot a b) = (ftop c d, fbot c d)
  generalize ftop a b = p at *
  generalize fbot a b = q at *
  generalize ftop c d = p' at *
  generalize fbot c d = q' at *
  have e : p * q' = p' * q := by
    refine Int.eq_of_mul_eq_mul_right (a := b * d) (by have := Int.mul_pos hb hd; omega) ?_
    have e1 : p * q' * (b * d) = p * b * q' * d := by grind
    have e2 : p' * q * (b * d) = p' * d * q * b := by grind
    rw [e1, e2, c1, c2]
    have e3 : a * q * q' * d = a * d * (q * q') := by grind
    have e4 : c * q' * q * b = c * b * (q * q') := by grind
    rw [e3, e4, h]
  have d1 : q ∣ q' := by
    have : q ∣ p * q' := ⟨p', by rw [e]; exact Int.mul_comm _ _⟩
    exact dvd_cop (by rw [Int.gcd_comm]; exact g1) this
  have d2 : q' ∣ q := by
    have : q' ∣ p' * q := ⟨p, by rw [← e]; exact Int.mul_comm _ _⟩
    exact dvd_cop (by rw [Int.gcd_comm]; exact g2) this
  have l1 := Int.le_of_dvd p2 d1
  have l2 := Int.le_of_dvd p1 d2
  have eq : q = q' := by omega
  subst eq
  have : p = p' := Int.eq_of_mul_eq_mul_right (by omega) e
  rw [this]
theorem red_pos {a b : Int} (hb : 0 < b) : 0 < (red (a, b)).2 := fbot_pos a b (by omega)
theorem red_one : red (1, 1) = (1, 1) := by decide
theorem ftop_pos {a b : Int} (ha : 0 < a) (hb : 0 < b) : 0 < ftop a b := by
  have c := f_cross a b
  have p := fbot_pos a b (by omega)
  rcases Int.lt_or_le 0 (ftop a b) with q | q
  · exact q
  · have := Int.mul_le_mul_of_nonneg_right q (Int.le_of_lt hb)
    have := Int.mul_pos ha p
    omega
theorem mulZ {x y : Int} {m n : Nat} (hx : x.natAbs < 2 ^ m) (hy : y.natAbs < 2 ^ n) : (x * y).natAbs < 2 ^ (m + n) := mulnat hx hy
theorem p_times {a0 a1 b0 b1 : Int} {A B Z : Nat} (hA : 0 < A) (hB : 0 < B) (hAB : A + B ≤ 100000) (hZ : Z ≤ 9000) (za0 : a0.natAbs < 2 ^ A) (za1 : a1.natAbs < 2 ^ A) (zb0 : b0.natAbs < 2 ^ B) (zb1 : b1.natAbs < 2 ^ B) (h1 : 0 < a1) (h2 : 0 < b1) (hz : (a1 * b1).natAbs < 2 ^ Z) :
    m_times (a0, a1) (b0, b1) = .ok (red (a0 * b0, a1 * b1)) := by
  unfold m_times
  have p := Int.mul_pos h1 h2
  dsimp only
  rw [M.gd_of _ (mulOk_i A B za0 zb0 hA hB (by omega)), M.gd_of _ (mulOk_i A B za1 zb1 hA hB (by omega)), p_fraction (by omega) (log2_9000 hz hZ), M.bind_ok]
theorem fbot_le {t b : Int} (h : 0 < b) : fbot t b ≤ b := by
  unfold fbot
  rw [show (b.natAbs : Int) = b by omega]
  exact Int.ediv_le_self _ (Int.le_of_lt h)
theorem red_mul {P Q u v : Int} (hQ : 0 < Q) (hv : 0 < v) : red ((red (P, Q)).1 * (red (u, v)).1, (red (P, Q)).2 * (red (u, v)).2) = red (P * u, Q * v) := by
  refine red_eq (Int.mul_pos (red_pos hQ) (red_pos hv)) (Int.mul_pos hQ hv) ?_
  have c1 := f_cross P Q
  have c2 := f_cross u v
  show ftop P Q * ftop u v * (Q * v) = P * u * (fbot P Q * fbot u v)
  have e1 : ftop P Q * ftop u v * (Q * v) = ftop P Q * Q * (ftop u v * v) := by grind
  rw [e1, c1, c2]
  grind
theorem red_add {P Q u v : Int} (hQ : 0 < Q) (hv : 0 < v) : red ((red (P, Q)).1 * (red (u, v)).2 + (red (u, v)).1 * (red (P, Q)).2, (red (P, Q)).2 * (red (u, v)).2) = red (P * v + u * Q, Q * v) := by
  refine red_eq (Int.mul_pos (red_pos hQ) (red_pos hv)) (Int.mul_pos hQ hv) ?_
  have c1 := f_cross P Q
  have c2 := f_cross u v
  show (ftop P Q * fbot u v + ftop u v * fbot P Q) * (Q * v) = (P * v + u * Q) * (fbot P Q * fbot u v)
  have e1 : (ftop P Q * fbot u v + ftop u v * fbot P Q) * (Q * v) = ftop P Q * Q * (v * fbot u v) + ftop u v * v * (Q * fbot P Q) := by grind
  rw [e1, c1, c2]
  grind
theorem red_half {P Q : Int} (hQ : 0 < Q) : red ((red (P, Q)).1, 2 * (red (P, Q)).2) = red (P, 2 * Q) := by
  have h := red_pos (a := P) hQ
  refine red_eq (by omega) (by omega) ?_
  have c1 := f_cross P Q
  show ftop P Q * (2 * Q) = P * (2 * fbot P Q)
  have e1 : ftop P Q * (2 * Q) = 2 * (ftop P Q * Q) := by grind
  rw [e1, c1]
  grind
theorem p_timesR {P Q u v : Int} {A B Z : Nat} (hA : 0 < A) (hB : 0 < B) (hAB : A + B ≤ 100000) (hZ : Z ≤ 9000) (za0 : P.natAbs < 2 ^ A) (za1 : Q.natAbs < 2 ^ A) (zb0 : u.natAbs < 2 ^ B) (zb1 : v.natAbs < 2 ^ B) (h1 : 0 < Q) (h2 : 0 < v) (hz : (Q * v).natAbs < 2 ^ Z) :
    m_times (red (P, Q)) (red (u, v)) = .ok (red (P * u, Q * v)) := by
  rw [← red_mul h1 h2]
  have p1 := red_pos (a := P) h1
  have p2 := red_pos (a := u) h2
  have hle : (red (P, Q)).2 * (red (u, v)).2 ≤ Q * v := Int.mul_le_mul (fbot_le h1) (fbot_le h2) (Int.le_of_lt p2) (Int.le_of_lt h1)
  have hp := Int.mul_pos p1 p2
  have hz' : ((red (P, Q)).2 * (red (u, v)).2).natAbs < 2 ^ Z := by omega
  exact p_times hA hB hAB hZ (ftop_lt' za0) (fbot_lt' za1) (ftop_lt' zb0) (fbot_lt' zb1) p1 p2 hz'

theorem near_at {L t : List Nat} {D j : Nat} (hj : j < D) : (nearL L D t)[j]? = some (if j < t.length then t.getD (t.length - 1 - j) 0 else L.headD 0) := by
  unfold nearL
  rw [List.getElem?_take, if_pos hj, List.reverse_append]
  by_cases c : j < t.length
  · rw [if_pos c, List.getElem?_append_left (by rw [List.length_reverse]; exact c), List.getElem?_reverse c, List.getElem?_eq_getElem (by omega), List.getD_eq_getElem?_getD, List.getElem?_eq_getElem (by omega)]
    rfl
  · rw [if_neg c, List.getElem?_append_right (by rw [List.length_reverse]; omega), List.reverse_replicate, List.length_reverse, List.getElem?_replicate, if_pos (by omega)]
theorem p_lelders {L : List Nat} {D i : Nat} {t : List Nat} (hL : 0 < L.length) (hL2 : L.length ≤ 100) (hD : D ≤ 10) (ht : t.length ≤ 1000) (hi : i ≤ t.length) : m_law_elders (L, (D : Int)) t (i : Int) = .ok (nearL L D (t.take i)) := by
  unfold m_law_elders
  simp only [M.lt_eq]
  rw [M.gd_of _ (rngOk_i (by omega) (by omega) (by omega) (by omega)), Int.toNat_natCast]
  have nl := near_len (L := L) (D := D) (t := t.take i)
  refine bind_forN (s0 := ([] : List Nat)) (Q := fun m => m = .ok (nearL L D (t.take i))) (fun (j : Nat) (s : List Nat) => s = (nearL L D (t.take i)).take j) (by simp) (fun j x hx s hs => ?_) (fun s hs => ?_)
  · have hj : j < D := by have := lt_of_get hx; rwa [rng_len] at this
    have hx2 : x = (j : Int) := by
      rw [List.getElem?_eq_getElem (by rw [rng_len]; exact hj), rng_get] at hx
      have := Option.some.inj hx
      omega
    subst hx2
    have na := near_at (L := L) (t := t.take i) hj
    have hlt : (t.take i).length = i := by rw [List.length_take]; omega
    rw [hlt] at na
    have sl : s.length ≤ 10 := by rw [hs, List.length_take]; omega
    have tk : (nearL L D (t.take i)).take (j + 1) = s ++ [if j < i then (t.take i).getD (i - 1 - j) 0 else L.headD 0] := by
      rw [List.take_succ, na, hs]; rfl
    by_cases c : j < i
    · have e : (t.take i).getD (i - 1 - j) 0 = t[i - 1 - j] := by
        rw [List.getD_eq_getElem?_getD, List.getElem?_take, if_pos (by omega), List.getElem?_eq_getElem (by omega)]
        rfl
      rw [if_pos (by simp; omega), M.gd_of _ (lenOk_i (by omega)), show (i : Int) - (1 : Int) - (j : Int) = ((i - 1 - j : Nat) : Int) by omega, atI_n (show i - 1 - j < t.length by omega), M.ofO_some, M.bind_ok, M.gd_of _ (catOk_i (by simp; omega)), M.bind_ok]
      refine ⟨_, rfl, ?_⟩
      rw [tk, if_pos c, e]
    · have a0 : atI L (0 : Int) = some (L.headD 0) := by
        rw [show (0 : Int) = ((0 : Nat) : Int) from rfl, atI_n hL]
        cases L with
        | nil => cases hL
        | cons x L => rfl
      rw [if_neg (by simp; omega), M.gd_of _ (lenOk_i (by omega)), a0, M.ofO_some, M.bind_ok, M.gd_of _ (catOk_i (by simp; omega)), M.bind_ok]
      refine ⟨_, rfl, ?_⟩
      rw [tk, if_neg c]
  · rw [rng_len, List.take_of_length_le (by omega)] at hs
    rw [hs]

end B
namespace B
open PySem PySem.Spec PyProof.Rows L2
/-! ### the leaf of a row of signs -/
def lfs (L : List Nat) : Nat → Tr → List Nat → Nat
  | 0, _, _ => 0
  | k + 1, t, r => match t, r with
    | .node l, c :: r => 1 + lfs L k (l.getD (L.idxOf c) .leaf) r
    | _, _ => 0
theorem lfs_leaf (L : List Nat) (k : Nat) (r : List Nat) : lfs L k .leaf r = 0 := by cases k <;> rfl
theorem lfs_le (L : List Nat) : ∀ (k : Nat) (t : Tr) (r : List Nat), lfs L k t r ≤ k
  | 0, _, _ => Nat.le_refl _
  | k + 1, .leaf, _ => Nat.zero_le _
  | k + 1, .node _, [] => Nat.zero_le _
  | k + 1, .node l, c :: r => by
    have := lfs_le L k (l.getD (L.idxOf c) .leaf) r
    show 1 + lfs L k (l.getD (L.idxOf c) .leaf) r ≤ k + 1
    omega
/-- the walk down -/
theorem leaf_while {L row : List Nat} {c : Tr × Int → M Bool} {f : Tr × Int → M (Tr × Int)} (h6 : L.length ≤ 6) (hrow : row.length ≤ 6) (hc : ∀ c ∈ row, c ∈ L) (h1 : ∀ s, c s = .ok (!isLf s.1))
    (h2 : ∀ (l : List Tr) (s : Nat) (hs : s < row.length), l.length = L.length → f (.node l, (s : Int)) = .ok (l.getD (L.idxOf row[s]) .leaf, (s : Int) + 1)) :
    ∀ (k : Nat) (t : Tr) (s n : Nat), isTr L.length k t = true → s + k = row.length → k < n → whileM c f n (t, (s : Int)) = .ok (.leaf, ((s + lfs L k t (row.drop s) : Nat) : Int))
  | k, .leaf, s, n, _, _, hn => by
    obtain ⟨n, rfl⟩ : ∃ q, n = q + 1 := ⟨n - 1, by omega⟩
    rw [whileM_done (by rw [h1]; rfl), lfs_leaf]
    rfl
  | 0, .node l, s, n, ht, _, _ => by cases ht
  | k + 1, .node l, s, n, ht, hk, hn => by
    obtain ⟨n, rfl⟩ : ∃ q, n = q + 1 := ⟨n - 1, by omega⟩
    have h' : (decide (l.length = L.length) && l.all (isTr L.length k)) = true := ht
    rw [Bool.and_eq_true, List.all_eq_true] at h'
    have hl := of_decide_eq_true h'.1
    have hs : s < row.length := by omega
    have hi : L.idxOf row[s] < l.length := by rw [hl]; exact List.idxOf_lt_length_of_mem (hc _ (List.getElem_mem hs))
    have hb : isTr L.length k (l.getD (L.idxOf row[s]) .leaf) = true := by
      rw [List.getD_eq_getElem?_getD, List.getElem?_eq_getElem hi]
      exact h'.2 _ (List.getElem_mem hi)
    rw [whileM_turn (by rw [h1]; rfl) (h2 l s hs hl)]
    have ih := leaf_while h6 hrow hc h1 h2 k (l.getD (L.idxOf row[s]) .leaf) (s + 1) n hb (by omega) (by omega)
    rw [show ((s + 1 : Nat) : Int) = (s : Int) + 1 by omega] at ih
    rw [ih]
    have hd : row.drop s = row[s] :: row.drop (s + 1) := List.drop_eq_getElem_cons hs
    rw [hd]
    show M.ok (Tr.leaf, ((s + 1 + lfs L k (l.getD (L.idxOf row[s]) .leaf) (row.drop (s + 1)) : Nat) : Int)) = M.ok (Tr.leaf, ((s + (1 + lfs L k (l.getD (L.idxOf row[s]) .leaf) (row.drop (s + 1))) : Nat) : Int))
    rw [Nat.add_assoc]
theorem atI_idx {α : Type} {l : List α} {i : Nat} {d : α} (h : i < l.length) : atI l (i : Int) = some (l.getD i d) := by
  rw [atI_n h, List.getD_eq_getElem?_getD, List.getElem?_eq_getElem h]
  rfl
theorem p_leaf_size {L row : List Nat} {D : Nat} {t : Tr} (F : Fr L D) (hr : row.length = D) (hc : ∀ c ∈ row, c ∈ L) (ht : isTr L.length D t = true) : m_leaf_size L t row = .ok ((lfs L D t row : Nat) : Int) := by
  have h6 := F.l6
  have hD := F.d6
  unfold m_leaf_size
  simp only [M.lt_eq]
  have h := leaf_while (L := L) (row := row) (c := fun (s1 : Tr × Int) => .ok ((!(isLf s1.1)))) (f := fun (s1 : Tr × Int) => (
    M.bind (M.ofO (kid s1.1)) fun r2 =>
    M.gd (lenOk row) <|
    M.bind (M.ofO (atI row s1.2)) fun r5 =>
    M.bind (M.ofO (atI r2 (fndX L [r5]))) fun r7 =>
    M.ok (r7, s1.2 + (1 : Int)))) h6 (by omega) hc (fun _ => rfl) (fun l s hs hl => by
      show M.bind (M.ofO (some l)) _ = _
      rw [M.ofO_some, M.bind_ok, M.gd_of _ (lenOk_i (by omega)), atI_n hs, M.ofO_some, M.bind_ok, fndX_one (hc _ (List.getElem_mem hs)), atI_idx (d := .leaf) (by rw [hl]; exact List.idxOf_lt_length_of_mem (hc _ (List.getElem_mem hs))), M.ofO_some, M.bind_ok]) D t 0 100000 ht (by omega) (by omega)
  rw [show (((0 : Nat)) : Int) = 0 from rfl] at h
  rw [h, M.bind_ok, Nat.zero_add]
  rfl
theorem p_law_leaf {L row : List Nat} {D : Nat} {t : Tr} (F : Fr L D) (hr : row.length = D) (hc : ∀ c ∈ row, c ∈ L) (ht : isTr L.length D t = true) : m_law_leaf (L, (D : Int)) t row = .ok (row.take (lfs L D t row)) := by
  have h6 := F.l6
  have hD := F.d6
  unfold m_law_leaf
  simp only [M.lt_eq]
  have h := leaf_while (L := L) (row := row) (c := fun (s1 : Tr × Int) => .ok ((!(isLf s1.1)))) (f := fun (s1 : Tr × Int) => (
    M.bind (M.ofO (kid s1.1)) fun r2 =>
    M.gd (lenOk row) <|
    M.bind (M.ofO (atI row s1.2)) fun r5 =>
    M.bind (M.ofO (atI r2 (fndX L [r5]))) fun r7 =>
    M.ok (r7, s1.2 + (1 : Int)))) h6 (by omega) hc (fun _ => rfl) (fun l s hs hl => by
      show M.bind (M.ofO (some l)) _ = _
      rw [M.ofO_some, M.bind_ok, M.gd_of _ (lenOk_i (by omega)), atI_n hs, M.ofO_some, M.bind_ok, fndX_one (hc _ (List.getElem_mem hs)), atI_idx (d := .leaf) (by rw [hl]; exact List.idxOf_lt_length_of_mem (hc _ (List.getElem_mem hs))), M.ofO_some, M.bind_ok]) D t 0 100000 ht (by omega) (by omega)
  rw [show (((0 : Nat)) : Int) = 0 from rfl] at h
  rw [h, M.bind_ok, M.gd_of _ (lenOk_i (by omega)), Nat.zero_add, cut_to (by omega), Int.toNat_natCast]
  rfl
/-! ### what came in each leaf -/
def cn (L s : List Nat) : List Nat := L.map fun a => s.count a
theorem cn_len (L s : List Nat) : (cn L s).length = L.length := by unfold cn; rw [List.length_map]
theorem cn_nil (L : List Nat) : cn L [] = L.map fun _ => 0 := rfl
theorem cn_getD {L s : List Nat} {c : Nat} (hc : c ∈ L) : (cn L s).getD (L.idxOf c) 0 = s.count c := by
  have hi := List.idxOf_lt_length_of_mem hc
  unfold cn
  rw [List.getD_eq_getElem?_getD, List.getElem?_map, List.getElem?_eq_getElem hi]
  show s.count L[L.idxOf c] = _
  rw [List.getElem_idxOf hi]
theorem cn_snoc {L s : List Nat} {c : Nat} (nd : L.Nodup) (hc : c ∈ L) : cn L (s ++ [c]) = plus1 (cn L s) (L.idxOf c) := by
  have hi := List.idxOf_lt_length_of_mem hc
  unfold plus1
  rw [cn_getD hc]
  refine List.ext_getElem? fun j => ?_
  by_cases hj : j < L.length
  · by_cases e : L.idxOf c = j
    · subst e
      rw [List.getElem?_set_self (by rw [cn_len]; exact hi)]
      unfold cn
      rw [List.getElem?_map, List.getElem?_eq_getElem hi]
      show some ((s ++ [c]).count L[L.idxOf c]) = _
      rw [List.getElem_idxOf hi, List.count_append]
      simp
    · rw [List.getElem?_set_ne e]
      unfold cn
      rw [List.getElem?_map, List.getElem?_map, List.getElem?_eq_getElem hj]
      show some ((s ++ [c]).count L[j]) = some (s.count L[j])
      rw [List.count_append]
      have hne : L[j] ≠ c := fun z => e (by
        have := nd.idxOf_getElem j hj
        rw [z] at this
        exact this)
      have : List.count L[j] [c] = 0 := by
        rw [List.count_eq_zero]
        simpa using hne
      rw [this, Nat.add_zero]
  · rw [List.getElem?_eq_none (by rw [cn_len]; omega), List.getElem?_eq_none (by rw [List.length_set, cn_len]; omega)]
theorem cn_sum {L : List Nat} (nd : L.Nodup) : ∀ (n : Nat) {s : List Nat}, s.length = n → (∀ c ∈ s, c ∈ L) → (cn L s).sum = n
  | 0, s, h, _ => by
    rw [List.length_eq_zero_iff.mp h, cn_nil, List.map_const']
    simp
  | n + 1, s, h, hs => by
    obtain ⟨u, c, rfl⟩ := snoc_of (l := s) (fun z => by rw [z] at h; cases h)
    have hc : c ∈ L := hs c (by simp)
    rw [List.length_append, List.length_singleton] at h
    rw [cn_snoc nd hc, sum_plus _ _ (by rw [cn_len]; exact List.idxOf_lt_length_of_mem hc), cn_sum nd n (by omega) fun x hx => hs x (List.mem_append_left _ hx)]
theorem natI_plus {cs : List Nat} {p : Nat} (h : p < cs.length) : natI (plus1 cs p) = (natI cs).set p ((cs.getD p 0 : Nat) + 1 : Int) := by
  unfold natI plus1
  rw [List.map_set]
  rfl
theorem natI_atI {cs : List Nat} {p : Nat} (h : p < cs.length) : atI (natI cs) (p : Int) = some ((cs.getD p 0 : Nat) : Int) := by
  unfold natI
  rw [atI_n (by rw [List.length_map]; exact h), List.getElem_map, List.getD_eq_getElem?_getD, List.getElem?_eq_getElem h]
  rfl
theorem oprod_pos : ∀ n, 1 ≤ oprod n
  | 0 => Nat.le_refl _
  | n + 1 => Nat.mul_pos (oprod_pos n) (by omega)
theorem wtop_pos : ∀ ns : List Nat, 1 ≤ wtop ns
  | [] => Nat.le_refl _
  | n :: ns => by rw [wtop_cons]; exact Nat.mul_pos (oprod_pos n) (wtop_pos ns)
/-! tables -/
def prN (l : List Nat) : Nat := l.foldr (· * ·) 1
theorem prN_cons (a : Nat) (l : List Nat) : prN (a :: l) = a * prN l := rfl
theorem prN_app : ∀ (l m : List Nat), prN (l ++ m) = prN l * prN m
  | [], m => by show prN m = 1 * prN m; omega
  | a :: l, m => by rw [List.cons_append, prN_cons, prN_cons, prN_app l m, Nat.mul_assoc]
theorem prN_pos : ∀ {l : List Nat}, (∀ a ∈ l, 1 ≤ a) → 1 ≤ prN l
  | [], _ => Nat.le_refl _
  | a :: l, h => by rw [prN_cons]; exact Nat.mul_pos (h a List.mem_cons_self) (prN_pos fun b hb => h b (List.mem_cons_of_mem _ hb))
theorem prN_take {l : List Nat} (h : ∀ a ∈ l, 1 ≤ a) (j : Nat) : prN (l.take j) ≤ prN l := by
  conv => rhs; rw [← List.take_append_drop j l, prN_app]
  exact Nat.le_mul_of_pos_right _ (prN_pos fun a ha => h a (List.mem_of_mem_drop ha))
theorem rep_id {α : Type} {k : List Nat} {v : α} : ∀ {C : List (List Nat × α)}, k ∉ C.map (·.1) → (C.map fun p => if p.1 = k then (p.1, v) else p) = C
  | [], _ => rfl
  | p :: C, h => by
    rw [List.map_cons, List.mem_cons, not_or] at h
    rw [List.map_cons, rep_id h.2, if_neg (fun z => h.1 z.symm)]
theorem prN_rep {f : List Nat → Nat} {k v v' : List Nat} {x : Nat} (hf : f v' = f v * x) : ∀ {C : List (List Nat × List Nat)}, (C.map (·.1)).Nodup → dget C k = some v → prN ((C.map fun p => if p.1 = k then (p.1, v') else p).map fun p => f p.2) = prN (C.map fun p => f p.2) * x
  | [], _, h => by cases h
  | p :: C, nd, h => by
    rw [List.map_cons] at nd
    obtain ⟨n1, n2⟩ := List.nodup_cons.mp nd
    rw [dget_cons] at h
    by_cases e : p.1 = k
    · rw [if_pos e] at h
      cases h
      rw [List.map_cons, if_pos e, rep_id (by rw [← e]; exact n1), List.map_cons, List.map_cons, prN_cons, prN_cons]
      show f v' * _ = _
      rw [hf, Nat.mul_assoc, Nat.mul_comm x, Nat.mul_assoc]
    · rw [if_neg e] at h
      rw [List.map_cons, if_neg e, List.map_cons, List.map_cons, prN_cons, prN_cons, prN_rep hf n2 h, Nat.mul_assoc]
theorem any_dget {α : Type} {k : List Nat} : ∀ C : List (List Nat × α), (C.any fun p => decide (p.1 = k)) = (dget C k).isSome
  | [] => rfl
  | p :: C => by
    rw [List.any_cons, dget_cons, any_dget C]
    by_cases e : p.1 = k
    · rw [if_pos e]; simp [e]
    · rw [if_neg e]; simp [e]
theorem dput_none {α : Type} {C : List (List Nat × α)} {k : List Nat} {v : α} (h : dget C k = none) : dput C k v = C ++ [(k, v)] := by
  unfold dput
  rw [any_dget, h]
  rfl
theorem dput_some {α : Type} {C : List (List Nat × α)} {k : List Nat} {v w : α} (h : dget C k = some w) : dput C k v = C.map fun p => if p.1 = k then (p.1, v) else p := by
  unfold dput
  rw [any_dget, h]
  rfl
theorem dget_not {α : Type} {C : List (List Nat × α)} {k : List Nat} (h : dget C k = none) : k ∉ C.map (·.1) := fun m => by
  obtain ⟨p, hp, e⟩ := List.mem_map.mp m
  have := any_dget (k := k) C
  rw [h] at this
  have h2 : (C.any fun p => decide (p.1 = k)) = true := List.any_eq_true.mpr ⟨p, hp, by simpa using e⟩
  rw [this] at h2
  cases h2
theorem rep_keys {α : Type} {k : List Nat} {v : α} (C : List (List Nat × α)) : (C.map fun p => if p.1 = k then (p.1, v) else p).map (·.1) = C.map (·.1) := by
  rw [List.map_map]
  refine List.map_congr_left fun p _ => ?_
  show (if p.1 = k then (p.1, v) else p).1 = p.1
  split <;> rfl
theorem prN_put {f : List Nat → Nat} {C : List (List Nat × List Nat)} {k v' : List Nat} {x : Nat} (nd : (C.map (·.1)).Nodup) (f0 : f [] = 1) (hf : f v' = f ((dget C k).getD []) * x) : prN ((dput C k v').map fun p => f p.2) = prN (C.map fun p => f p.2) * x := by
  cases e : dget C k with
  | none =>
    rw [dput_none e, List.map_append, prN_app]
    rw [e] at hf
    have hf : f v' = f [] * x := hf
    show _ * (f v' * 1) = _
    rw [hf, f0]; simp
  | some v =>
    rw [dput_some e]
    rw [e] at hf
    exact prN_rep hf nd e
/-- the counts, as the program keeps them -/
def phi (L : List Nat) (p : List Nat × List Nat) : List Nat × List Int := (p.1, natI (cn L p.2))
theorem dget_phi (L : List Nat) (k : List Nat) : ∀ C : List (List Nat × List Nat), dget (C.map (phi L)) k = (dget C k).map fun s => natI (cn L s)
  | [] => rfl
  | p :: C => by
    rw [List.map_cons, dget_cons, dget_cons, dget_phi L k C]
    show (if p.1 = k then some (natI (cn L p.2)) else _) = _
    by_cases e : p.1 = k
    · rw [if_pos e, if_pos e]; rfl
    · rw [if_neg e, if_neg e]
theorem dset_new {α : Type} {k : List Nat} {z w : List α} : ∀ {T : List (List Nat × List α)}, k ∉ T.map (·.1) → dset (T ++ [(k, z)]) k w = T ++ [(k, w)]
  | [], _ => by show dset [(k, z)] k w = _; unfold dset; rw [if_pos rfl]; rfl
  | p :: T, h => by
    rw [List.map_cons, List.mem_cons, not_or] at h
    rw [List.cons_append]
    unfold dset
    rw [if_neg (fun e => h.1 e.symm), dset_new h.2]
    rfl
theorem dset_phi {L k v' : List Nat} : ∀ {C : List (List Nat × List Nat)}, (C.map (·.1)).Nodup → dset (C.map (phi L)) k (natI (cn L v')) = (C.map fun p => if p.1 = k then (p.1, v') else p).map (phi L)
  | [], _ => rfl
  | p :: C, nd => by
    rw [List.map_cons] at nd
    obtain ⟨n1, n2⟩ := List.nodup_cons.mp nd
    rw [List.map_cons, List.map_cons]
    unfold dset
    by_cases e : p.1 = k
    · rw [if_pos (show (phi L p).1 = k from e), if_pos e, List.map_cons, rep_id (by rw [← e]; exact n1)]
      rfl
    · rw [if_neg (show ¬ (phi L p).1 = k from e), if_neg e, List.map_cons, dset_phi n2]
theorem dget_at {α : Type} {k : List Nat} {v : α} : ∀ {C : List (List Nat × α)}, (C.map (·.1)).Nodup → (k, v) ∈ C → dget C k = some v
  | [], _, h => by cases h
  | p :: C, nd, h => by
    rw [List.map_cons] at nd
    obtain ⟨n1, n2⟩ := List.nodup_cons.mp nd
    rw [dget_cons]
    rcases List.mem_cons.mp h with e | m
    · rw [← e, if_pos rfl]
    · have ne : ¬ p.1 = k := fun z => n1 (by rw [z]; exact List.mem_map.mpr ⟨_, m, rfl⟩)
      rw [if_neg ne, dget_at n2 m]
/-! .. sign by sign -/
section
variable (L : List Nat) (D : Nat) (t : Tr) (x : List Nat)
def knL (i : Nat) : List Nat := (nearL L D (x.take i)).take (lfs L D t (nearL L D (x.take i)))
def CT : Nat → List (List Nat × List Nat)
  | 0 => []
  | i + 1 => dput (CT i) (knL L D t x i) ((dget (CT i) (knL L D t x i)).getD [] ++ [x.getD i 0])
def tpL (C : List (List Nat × List Nat)) : Nat := prN (C.map fun p => wtop (cn L p.2))
def btL (C : List (List Nat × List Nat)) : Nat := prN (C.map fun p => wbot L.length p.2.length)
end
structure CTI (L : List Nat) (n : Nat) (C : List (List Nat × List Nat)) : Prop where
  nd : (C.map (·.1)).Nodup
  len : C.length ≤ n
  val : ∀ p ∈ C, p.2.length ≤ n ∧ ∀ c ∈ p.2, c ∈ L
  tp : tpL L C < 2 ^ (9 * n + 1)
  bt : btL L C < 2 ^ (9 * n + 1)
theorem dget_mem {α : Type} {k : List Nat} {v : α} : ∀ {C : List (List Nat × α)}, dget C k = some v → (k, v) ∈ C
  | [], h => by cases h
  | p :: C, h => by
    rw [dget_cons] at h
    by_cases e : p.1 = k
    · rw [if_pos e] at h
      cases h
      rw [← e]
      exact List.mem_cons_self
    · rw [if_neg e] at h
      exact List.mem_cons_of_mem _ (dget_mem h)
section
variable {L : List Nat} {D : Nat} {t : Tr} {x : List Nat}
theorem tp_step (nd : L.Nodup) {C : List (List Nat × List Nat)} {k : List Nat} {c : Nat} (hC : (C.map (·.1)).Nodup) (hc : c ∈ L) : tpL L (dput C k ((dget C k).getD [] ++ [c])) = tpL L C * (2 * ((dget C k).getD []).count c + 1) := by
  refine prN_put (f := fun s => wtop (cn L s)) hC (by show wtop (cn L []) = 1; rw [cn_nil, List.map_const']; exact wtopz _) ?_
  show wtop (cn L ((dget C k).getD [] ++ [c])) = _
  rw [cn_snoc nd hc, wtop_plus _ _ (by rw [cn_len]; exact List.idxOf_lt_length_of_mem hc), cn_getD hc]
where
  wtopz : ∀ n : Nat, wtop (List.replicate n 0) = 1
    | 0 => rfl
    | n + 1 => by rw [List.replicate_succ, wtop_cons, wtopz n]; rfl
theorem bt_step {C : List (List Nat × List Nat)} {k : List Nat} {c : Nat} (hC : (C.map (·.1)).Nodup) : btL L (dput C k ((dget C k).getD [] ++ [c])) = btL L C * (2 * ((dget C k).getD []).length + L.length) := by
  refine prN_put (f := fun s => wbot L.length s.length) hC rfl ?_
  show wbot L.length ((dget C k).getD [] ++ [c]).length = _
  rw [List.length_append, List.length_singleton]
  rfl
theorem ct_ok (F : Fr L D) (hx : x.length ≤ 120) (hxL : ∀ c ∈ x, c ∈ L) : ∀ i, i ≤ x.length → CTI L i (CT L D t x i)
  | 0, _ => ⟨(by show ([] : List (List Nat)).Nodup; simp), Nat.le_refl _, (fun p hp => by cases hp), (by show 1 < 2 ^ (9 * 0 + 1); decide), (by show 1 < 2 ^ (9 * 0 + 1); decide)⟩
  | i + 1, h => by
    have I := ct_ok F hx hxL i (by omega)
    have h6 := F.l6
    obtain ⟨c, hc⟩ : ∃ c, x.getD i 0 = c := ⟨_, rfl⟩
    have hcL : c ∈ L := by
      rw [← hc, List.getD_eq_getElem?_getD, List.getElem?_eq_getElem (by omega)]
      exact hxL _ (List.getElem_mem _)
    have hcame : ((dget (CT L D t x i) (knL L D t x i)).getD []).length ≤ i ∧ ∀ a ∈ (dget (CT L D t x i) (knL L D t x i)).getD [], a ∈ L := by
      cases e : dget (CT L D t x i) (knL L D t x i) with
      | none => exact ⟨Nat.zero_le _, fun a ha => by cases ha⟩
      | some v => exact I.val _ (dget_mem e)
    have f1 : 2 * ((dget (CT L D t x i) (knL L D t x i)).getD []).count c + 1 < 2 ^ 9 := by
      have := List.count_le_length (a := c) (l := (dget (CT L D t x i) (knL L D t x i)).getD [])
      have : (2 : Nat) ^ 9 = 512 := by decide
      omega
    have f2 : 2 * ((dget (CT L D t x i) (knL L D t x i)).getD []).length + L.length < 2 ^ 9 := by
      have : (2 : Nat) ^ 9 = 512 := by decide
      omega
    have hp : 2 ^ (9 * (i + 1) + 1) = 2 ^ (9 * i + 1) * 2 ^ 9 := by rw [← Nat.pow_add, show 9 * i + 1 + 9 = 9 * (i + 1) + 1 by omega]
    show CTI L (i + 1) (dput _ _ _)
    rw [hc]
    refine ⟨?_, ?_, ?_, ?_, ?_⟩
    · cases e : dget (CT L D t x i) (knL L D t x i) with
      | none =>
        rw [dput_none e, List.map_append, List.nodup_append]
        refine ⟨I.nd, by simp, fun a ha b hb z => dget_not e ?_⟩
        have hb2 : b = knL L D t x i := by simpa using hb
        rw [← hb2, ← z]
        exact ha
      | some v => rw [dput_some e, rep_keys]; exact I.nd
    · cases e : dget (CT L D t x i) (knL L D t x i) with
      | none => rw [dput_none e, List.length_append, List.length_singleton]; have := I.len; omega
      | some v => rw [dput_some e, List.length_map]; have := I.len; omega
    · have new : ((dget (CT L D t x i) (knL L D t x i)).getD [] ++ [c]).length ≤ i + 1 ∧ ∀ a ∈ (dget (CT L D t x i) (knL L D t x i)).getD [] ++ [c], a ∈ L := by
        refine ⟨by rw [List.length_append, List.length_singleton]; omega, fun a ha => ?_⟩
        rcases List.mem_append.mp ha with m | m
        · exact hcame.2 a m
        · rw [List.mem_singleton.mp m]; exact hcL
      generalize (dget (CT L D t x i) (knL L D t x i)).getD [] ++ [c] = w at *
      intro p hp
      cases e : dget (CT L D t x i) (knL L D t x i) with
      | none =>
        rw [dput_none e] at hp
        rcases List.mem_append.mp hp with m | m
        · obtain ⟨a, b⟩ := I.val p m
          exact ⟨by omega, b⟩
        · rw [List.mem_singleton.mp m]; exact new
      | some v =>
        rw [dput_some e] at hp
        obtain ⟨q, hq, rfl⟩ := List.mem_map.mp hp
        by_cases z : q.1 = knL L D t x i
        · rw [if_pos z]; exact new
        · rw [if_neg z]
          obtain ⟨a, b⟩ := I.val q hq
          exact ⟨by omega, b⟩
    · rw [tp_step F.nd I.nd hcL, hp]
      exact Nat.mul_lt_mul'' I.tp f1
    · rw [bt_step I.nd, hp]
      exact Nat.mul_lt_mul'' I.bt f2
theorem p_law_worth (F : Fr L D) (hx : x.length ≤ 120) (hxL : ∀ c ∈ x, c ∈ L) (ht : isTr L.length D t = true) : m_law_worth (L, (D : Int)) t x = .ok (((tpL L (CT L D t x x.length) : Nat) : Int), ((btL L (CT L D t x x.length) : Nat) : Int)) := by
  have h6 := F.l6
  have hD := F.d6
  have lx : lenOk x = true := lenOk_i (by omega)
  unfold m_law_worth
  simp only [M.lt_eq]
  rw [M.gd_of _ lx, M.gd_of _ (rngOk_i (by omega) (by omega) (by omega) (by omega)), Int.toNat_natCast]
  refine bind_rng (fun i => (CT L D t x i, ((tpL L (CT L D t x i) : Nat) : Int), ((btL L (CT L D t x i) : Nat) : Int))) rfl (fun i hi => ?_) rfl
  have I := ct_ok (t := t) F hx hxL i (by omega)
  have nl := near_len (L := L) (D := D) (t := x.take i)
  have nm := near_mem (L := L) (D := D) (t := x.take i) F.l1 fun c hc => hxL c (List.mem_of_mem_take hc)
  obtain ⟨c, hc⟩ : ∃ c, x.getD i 0 = c := ⟨_, rfl⟩
  have hc2 : x[i] = c := by rw [← hc, List.getD_eq_getElem?_getD, List.getElem?_eq_getElem hi]; rfl
  have hcL : c ∈ L := hc2 ▸ hxL _ (List.getElem_mem hi)
  have ht2 := tp_step (k := knL L D t x i) F.nd I.nd hcL
  have hb2 := bt_step (L := L) (k := knL L D t x i) (c := c) I.nd
  have hcame : ((dget (CT L D t x i) (knL L D t x i)).getD []).length ≤ i := by
    cases e : dget (CT L D t x i) (knL L D t x i) with
    | none => exact Nat.zero_le _
    | some v => exact (I.val _ (dget_mem e)).1
  have hkn : (nearL L D (x.take i)).take (lfs L D t (nearL L D (x.take i))) = knL L D t x i := rfl
  have hCT : CT L D t x (i + 1) = dput (CT L D t x i) (knL L D t x i) ((dget (CT L D t x i) (knL L D t x i)).getD [] ++ [c]) := by rw [← hc]; rfl
  rw [hCT, ht2, hb2]
  dsimp only
  rw [p_lelders F.l1 (by omega) (by omega) (by omega) (by omega), M.nox_ok, M.bind_ok, p_law_leaf F nl nm ht, M.bind_ok, hkn]
  have hl := I.len
  generalize knL L D t x i = kn at *
  generalize tpL L (CT L D t x i) = P at *
  generalize btL L (CT L D t x i) = Q at *
  generalize CT L D t x i = C at *
  generalize (dget C kn).getD [] = came at *
  have hcnt := List.count_le_length (a := c) (l := came)
  rw [M.gd_of _ lx, atI_n hi, M.ofO_some, M.bind_ok, hc2, cntX_one, M.gd_of _ (mulOk_r (by omega) (by omega)), M.gd_of _ (lenOk_i (by omega)), M.gd_of _ (lenOk_i (by omega)), M.gd_of _ (mulOk_r (by omega) (by omega)), M.gd_of _ lx, M.bind_ok, M.gd_of _ (catOk_i (by simp; omega)), M.gd_of _ (lenLt_i (by omega)), Int.natCast_mul, Int.natCast_mul]
  simp
theorem p_worth_by (F : Fr L D) (hx : x.length ≤ 120) (hxL : ∀ c ∈ x, c ∈ L) (ht : isTr L.length D t = true) : m_worth_by (L, (D : Int)) (trd t) x = .ok (red (((tpL L (CT L D t x x.length) : Nat) : Int), ((btL L (CT L D t x x.length) : Nat) : Int))) := by
  have h6 := F.l6
  have h1 := F.l1
  have hD := F.d6
  have lx : lenOk x = true := lenOk_i (by omega)
  unfold m_worth_by
  simp only [M.lt_eq]
  rw [p_need_yes F ht, M.bind_ok, p_checked hxL, M.bind_ok, M.gd_of _ lx, M.gd_of _ (rngOk_i (by omega) (by omega) (by omega) (by omega)), Int.toNat_natCast]
  refine bind_rng (fun i => (CT L D t x i).map (phi L)) rfl (fun i hi => ?_) ?_
  · have I := ct_ok (t := t) F hx hxL i (by omega)
    have nl := near_len (L := L) (D := D) (t := x.take i)
    have nm := near_mem (L := L) (D := D) (t := x.take i) F.l1 fun c hc => hxL c (List.mem_of_mem_take hc)
    have hle := lfs_le L D t (nearL L D (x.take i))
    obtain ⟨c, hc⟩ : ∃ c, x.getD i 0 = c := ⟨_, rfl⟩
    have hc2 : x[i] = c := by rw [← hc, List.getD_eq_getElem?_getD, List.getElem?_eq_getElem hi]; rfl
    have hcL : c ∈ L := hc2 ▸ hxL _ (List.getElem_mem hi)
    have hix := List.idxOf_lt_length_of_mem hcL
    rw [p_elders F.l1 (by omega) (by omega) (by omega) (by omega) hxL, M.bind_ok, M.bind_ok, trOf_trd, M.ofO_some, M.bind_ok, p_leaf_size F nl nm ht, M.nox_ok, M.bind_ok, M.gd_of _ (lenOk_i (by omega)), cut_to (by omega), Int.toNat_natCast, M.bind_ok]
    have hkn : (nearL L D (x.take i)).take (lfs L D t (nearL L D (x.take i))) = knL L D t x i := rfl
    have hCT : CT L D t x (i + 1) = dput (CT L D t x i) (knL L D t x i) ((dget (CT L D t x i) (knL L D t x i)).getD [] ++ [c]) := by rw [← hc]; rfl
    rw [hkn]
    generalize knL L D t x i = kn at *
    generalize CT L D t x i = C at *
    have hdg := dget_phi L kn C
    cases e : dget C kn with
    | none =>
      rw [e] at hdg hCT
      have hk2 : kn ∉ (C.map (phi L)).map (·.1) := by
        rw [List.map_map]
        exact dget_not e
      rw [if_pos (by rw [dhas_is, hdg]; rfl), M.gd_of _ (lenLt_i (by omega)), compM_map (k := fun _ => (0 : Int)) (fun _ _ => rfl) (fun _ _ => rfl), M.nox_ok, M.bind_ok, M.gd_of _ (lenLt_i (by rw [List.length_map]; have := I.len; omega)), M.gd_of _ (by rw [dhas_is, hdg]; rfl), M.bind_ok]
      have hz : L.map (fun _ => (0 : Int)) = natI (cn L []) := by rw [cn_nil]; unfold natI; rw [List.map_map]; rfl
      rw [hz, dget_app, hdg]
      show M.bind (M.ofO (if kn = kn then some (natI (cn L [])) else none)) _ = _
      rw [if_pos rfl, M.ofO_some, M.bind_ok, M.gd_of _ lx, atI_n hi, M.ofO_some, M.bind_ok, hc2, fndX_one hcL, M.gd_of _ (decide_eq_true (by omega)), natI_atI (by rw [cn_len]; exact hix), M.ofO_some, M.bind_ok, setI_n (by rw [natI_len, cn_len]; exact hix), M.ofO_some, M.bind_ok, ← natI_plus (by rw [cn_len]; exact hix), ← cn_snoc F.nd hcL, dset_new hk2, hCT, dput_none e, List.map_append]
      rfl
    | some v =>
      rw [e] at hdg hCT
      rw [if_neg (by rw [dhas_is, hdg]; simp), M.bind_ok, hdg]
      show M.bind (M.ofO (some (natI (cn L v)))) _ = _
      rw [M.ofO_some, M.bind_ok, M.gd_of _ lx, atI_n hi, M.ofO_some, M.bind_ok, hc2, fndX_one hcL, M.gd_of _ (decide_eq_true (by omega)), natI_atI (by rw [cn_len]; exact hix), M.ofO_some, M.bind_ok, setI_n (by rw [natI_len, cn_len]; exact hix), M.ofO_some, M.bind_ok, ← natI_plus (by rw [cn_len]; exact hix), ← cn_snoc F.nd hcL, dset_phi I.nd, hCT, dput_some e]
      rfl
  · have I := ct_ok (t := t) F hx hxL x.length (Nat.le_refl _)
    generalize CT L D t x x.length = C at *
    have ft : ∀ a ∈ C.map fun p => wtop (cn L p.2), 1 ≤ a := fun a ha => by
      obtain ⟨p, _, rfl⟩ := List.mem_map.mp ha
      exact wtop_pos _
    have fb : ∀ a ∈ C.map fun p => wbot L.length p.2.length, 1 ≤ a := fun a ha => by
      obtain ⟨p, _, rfl⟩ := List.mem_map.mp ha
      exact wbot_pos h1
    have keyE : (C.map (phi L)).map (·.1) = C.map (·.1) := by rw [List.map_map]; rfl
    rw [keyE]
    have hloop : ∃ s, forM (fun (x26 : List Nat) (s27 : (Int × Int)) => (
        M.bind (M.ofO (dget (C.map (phi L)) x26)) fun r28 =>
        M.bind (M.nox (m_worth r28)) fun r30 =>
        M.bind (m_times s27 r30) fun found_ =>
        M.ok found_)) (C.map (·.1)) (1, 1) = .ok s ∧ s = red (((prN ((C.map fun p => wtop (cn L p.2)).take (C.map (·.1)).length) : Nat) : Int), ((prN ((C.map fun p => wbot L.length p.2.length).take (C.map (·.1)).length) : Nat) : Int)) := by
      refine forM_invN (fun j s => s = red (((prN ((C.map fun p => wtop (cn L p.2)).take j) : Nat) : Int), ((prN ((C.map fun p => wbot L.length p.2.length).take j) : Nat) : Int))) (by rw [List.take_zero, List.take_zero]; exact red_one.symm) (fun j k hk s hs => ?_)
      have hj : j < C.length := by have := lt_of_get hk; rwa [List.length_map] at this
      have hk2 : C[j].1 = k := by
        rw [List.getElem?_map, List.getElem?_eq_getElem hj] at hk
        exact Option.some.inj hk
      have hmem : (k, C[j].2) ∈ C := by rw [← hk2]; exact List.getElem_mem hj
      have hdg : dget (C.map (phi L)) k = some (natI (cn L C[j].2)) := by rw [dget_phi, dget_at I.nd hmem]; rfl
      obtain ⟨v1, v2⟩ := I.val _ hmem
      have v1 : C[j].2.length ≤ x.length := v1
      have v2 : ∀ c ∈ C[j].2, c ∈ L := v2
      have hsum := cn_sum F.nd _ rfl v2
      have hw := p_worth (ns := cn L C[j].2) (by rw [cn_len]; exact h1) (by rw [cn_len]; omega) (by rw [hsum]; omega)
      rw [cn_len, hsum] at hw
      have tk1 : (C.map fun p => wtop (cn L p.2)).take (j + 1) = (C.map fun p => wtop (cn L p.2)).take j ++ [wtop (cn L C[j].2)] := by
        rw [List.take_succ, List.getElem?_map, List.getElem?_eq_getElem hj]; rfl
      have tk2 : (C.map fun p => wbot L.length p.2.length).take (j + 1) = (C.map fun p => wbot L.length p.2.length).take j ++ [wbot L.length C[j].2.length] := by
        rw [List.take_succ, List.getElem?_map, List.getElem?_eq_getElem hj]; rfl
      have b1 := Nat.lt_of_le_of_lt (prN_take ft (j + 1)) I.tp
      have b2 := Nat.lt_of_le_of_lt (prN_take fb (j + 1)) I.bt
      have pe : 9 * x.length + 1 ≤ 1100 := by omega
      rw [tk1, prN_app] at b1
      rw [tk2, prN_app] at b2
      have p1 := prN_pos (l := (C.map fun p => wtop (cn L p.2)).take j) fun a ha => ft a (List.mem_of_mem_take ha)
      have p2 := prN_pos (l := (C.map fun p => wbot L.length p.2.length).take j) fun a ha => fb a (List.mem_of_mem_take ha)
      have q1 := wtop_pos (cn L C[j].2)
      have q2 := wbot_pos (k := L.length) h1 (n := C[j].2.length)
      rw [hdg, M.ofO_some, M.bind_ok]
      rw [hw, M.nox_ok, M.bind_ok, tk1, tk2, prN_app, prN_app]
      have e1 : prN [wtop (cn L C[j].2)] = wtop (cn L C[j].2) := by show _ * 1 = _; omega
      have e2 : prN [wbot L.length C[j].2.length] = wbot L.length C[j].2.length := by show _ * 1 = _; omega
      rw [e1] at b1
      rw [e2] at b2
      rw [e1, e2, hs]
      generalize prN ((C.map fun p => wtop (cn L p.2)).take j) = P at *
      generalize prN ((C.map fun p => wbot L.length p.2.length).take j) = Q at *
      generalize wtop (cn L C[j].2) = u at *
      generalize wbot L.length C[j].2.length = v at *
      have up : 2 ^ (9 * x.length + 1) ≤ 2 ^ 1100 := Nat.pow_le_pow_right (by decide) pe
      have c1 : P < 2 ^ 1100 := Nat.lt_of_le_of_lt (Nat.le_mul_of_pos_right _ q1) (Nat.lt_of_lt_of_le b1 up)
      have c2 : Q < 2 ^ 1100 := Nat.lt_of_le_of_lt (Nat.le_mul_of_pos_right _ q2) (Nat.lt_of_lt_of_le b2 up)
      have c3 : u < 2 ^ 1100 := Nat.lt_of_le_of_lt (Nat.le_mul_of_pos_left _ p1) (Nat.lt_of_lt_of_le b1 up)
      have c4 : v < 2 ^ 1100 := Nat.lt_of_le_of_lt (Nat.le_mul_of_pos_left _ p2) (Nat.lt_of_lt_of_le b2 up)
      have c5 : ((Q : Int) * (v : Int)).natAbs < 2 ^ 1100 := by rw [← Int.natCast_mul, Int.natAbs_natCast]; exact Nat.lt_of_lt_of_le b2 up
      rw [show (ftop (u : Int) (v : Int), fbot (u : Int) (v : Int)) = red ((u : Int), (v : Int)) from rfl, p_timesR (A := 1100) (B := 1100) (Z := 1100) (by decide) (by decide) (by decide) (by decide) (by rw [Int.natAbs_natCast]; exact c1) (by rw [Int.natAbs_natCast]; exact c2) (by rw [Int.natAbs_natCast]; exact c3) (by rw [Int.natAbs_natCast]; exact c4) (by omega) (by omega) c5]
      exact ⟨_, rfl, by rw [Int.natCast_mul, Int.natCast_mul]⟩
    obtain ⟨s, s1, s2⟩ := hloop
    rw [List.length_map] at s2
    rw [List.take_of_length_le (by rw [List.length_map]; exact Nat.le_refl _), List.take_of_length_le (by rw [List.length_map]; exact Nat.le_refl _)] at s2
    rw [s1, M.nox_ok, M.bind_ok, s2]
    rfl
theorem p_worth_no {d : Dat} (F : Fr L D) (h : isT L.length D d = false) : m_worth_by (L, (D : Int)) d x = .ex "NoTree" := by
  unfold m_worth_by
  rw [p_need_no F h]
  rfl
theorem p_worth_bad (F : Fr L D) (ht : isTr L.length D t = true) (hb : ∃ c ∈ x, c ∉ L) : m_worth_by (L, (D : Int)) (trd t) x = .ex "NoText" := by
  unfold m_worth_by
  rw [p_need_yes F ht, M.bind_ok, p_checked_bad hb]
  rfl
end

end B
namespace B
open PySem PySem.Spec PyProof.Rows L2
theorem p_cell_at {ns : List Int} {k : Nat} : m_law_cell_at ns (k : Int) = .ok (ns.getD k 0) := by
  unfold m_law_cell_at
  by_cases h : k < ns.length
  · rw [if_pos (by simpa using h), atI_n h]
    simp [List.getD_eq_getElem?_getD, h]
  · rw [if_neg (by simpa using h)]
    simp [List.getD_eq_getElem?_getD, h]

theorem joinL_nil : ∀ yss : List (List Nat), TL.joinL [] yss = yss.flatten
  | [] => rfl
  | [p] => by show p = [p].flatten; simp
  | p :: q :: r => by
    show p ++ ([] ++ TL.joinL [] (q :: r)) = _
    rw [joinL_nil (q :: r), List.nil_append]
    rfl
theorem ones_flat (l : List Nat) : (l.map fun c => [c]).flatten = l := by
  induction l with
  | nil => rfl
  | cons c l ih => rw [List.map_cons, List.flatten_cons, ih]; rfl
theorem ones_len (l : List Nat) : ((l.map fun c => [c]).map (·.length)).sum = l.length := by
  induction l with
  | nil => rfl
  | cons c l ih => rw [List.map_cons, List.map_cons, List.sum_cons, ih, List.length_cons]; simp; omega
theorem joinC_nil (l : List Nat) : joinC [] l = l := by
  unfold joinC
  rw [joinL_nil, ones_flat]
theorem joinOkC_nil {l : List Nat} (h : l.length ≤ 16777216) : joinOkC [] l = true := by
  unfold joinOkC joinOk
  refine cl_i ?_
  rw [ones_len]
  simp
  exact h

def sg : List Nat := txt0 ++ txt1
theorem sg_len : sg.length = 94 := by decide +kernel
theorem sg_nodup : sg.Nodup := by decide +kernel
theorem intBits_div {c d : Int} {m : Nat} (hd : 0 < d) (h : Builtin.Int.intBits c ≤ m) : Builtin.Int.intBits (c / d) ≤ m := intBits_le_of_natAbs (Int.natAbs_ediv_le_natAbs c d) h
theorem erase_perm {α : Type} : ∀ (l : List α) (i : Nat) (h : i < l.length), (l[i] :: l.eraseIdx i).Perm l
  | a :: l, 0, _ => .refl _
  | a :: l, i + 1, h => .trans (.swap _ _ _) (.cons _ (erase_perm l i (Nat.lt_of_succ_lt_succ h)))
theorem p_signs {c : Int} {n : Nat} (hn : n ≤ 6) (hb : Builtin.Int.intBits c ≤ 1048576) : ∃ L, m_law_signs c (n : Int) = .ok L ∧ L.length = n ∧ L.Nodup ∧ ∀ x ∈ L, x ∈ sg := by
  unfold m_law_signs
  simp only [M.lt_eq]
  rw [M.gd_of _ (catOk_i (by decide))]
  have hm : mulOk (c / 2) 755025238823861643209264527426574067654365331163161167985785434308279504849166858912194103233288234579318044655171871211416828048690375574609316503041 = true := by
    have h1 := intBits_div (d := 2) (by decide) hb
    have h2 : Builtin.Int.intBits 755025238823861643209264527426574067654365331163161167985785434308279504849166858912194103233288234579318044655171871211416828048690375574609316503041 ≤ 600 := intBits_le_iff.mpr (by decide +kernel)
    exact mulOk_x (by omega)
  have hi : ∃ N : Int, (if (decide (c % 2 = 1)) = true then M.gd (mulOk (c / 2) 755025238823861643209264527426574067654365331163161167985785434308279504849166858912194103233288234579318044655171871211416828048690375574609316503041) (M.ok (c / 2 * 755025238823861643209264527426574067654365331163161167985785434308279504849166858912194103233288234579318044655171871211416828048690375574609316503041 + 48271)) else M.ok (c / 2)) = .ok N := by
    split
    · exact ⟨_, by rw [M.gd_of _ hm]⟩
    · exact ⟨_, rfl⟩
  obtain ⟨N, hN⟩ := hi
  rw [hN, M.bind_ok, M.gd_of _ (rngOk_i (by omega) (by omega) (by omega) (by omega)), Int.toNat_natCast]
  refine bind_forN (s0 := (sg, N, ([] : List Nat))) (Q := fun (m : M (List Nat)) => ∃ L, m = .ok L ∧ L.length = n ∧ L.Nodup ∧ ∀ x ∈ L, x ∈ sg) (fun (i : Nat) (s : List Nat × Int × List Nat) => s.1.length + i = 94 ∧ s.2.2.length = i ∧ (s.2.2 ++ s.1).Perm sg) ⟨sg_len, rfl, .refl _⟩ (fun i x hx s hs => ?_) (fun s hs => ?_)
  · obtain ⟨S, q, T⟩ := s
    obtain ⟨h1, h2, h3⟩ := hs
    simp only at h1 h2 h3
    have hi : i < n := by have := lt_of_get hx; rwa [rng_len] at this
    have hp : (0 : Int) < (S.length : Int) := by omega
    have a1 := Int.emod_nonneg q (b := (S.length : Int)) (by omega)
    have a2 := Int.emod_lt_of_pos q hp
    have hl : lenOk S = true := lenOk_i (by omega)
    have hj : (q % (S.length : Int)).toNat < S.length := by omega
    have hcut : cut S none (some (q % (S.length : Int))) ++ cut S (some (q % (S.length : Int) + 1)) none = S.eraseIdx (q % (S.length : Int)).toNat := by
      rw [cut_to a1, cut_from (by omega), List.eraseIdx_eq_take_drop_succ, show (q % (S.length : Int) + 1).toNat = (q % (S.length : Int)).toNat + 1 by omega]
    have c1 := cut_len2 S none (some (q % (S.length : Int)))
    have c2 := cut_len2 S (some (q % (S.length : Int) + 1)) none
    have hlog : (S.length : Int).natAbs.log2 < 9000 := by
      rw [Int.natAbs_natCast]
      exact log2_9000 (m := 10) (by omega) (by decide)
    simp only [M.gd_of _ hl]
    rw [M.gd_of _ (by simp; omega), M.gd_of _ (divOk_i hp hlog), atI_i a1 hj, M.ofO_some, M.bind_ok, M.gd_of _ (catOk_i (by simp; omega)), M.gd_of _ (catOk_i (by omega)), hcut]
    refine ⟨_, rfl, ?_, by simp [h2], ?_⟩
    · show (S.eraseIdx _).length + _ = _
      rw [List.length_eraseIdx_of_lt hj]; omega
    · refine .trans ?_ h3
      show (T ++ [_] ++ S.eraseIdx _).Perm _
      rw [List.append_assoc]
      exact .append_left _ (erase_perm _ _ hj)
  · rw [rng_len] at hs
    obtain ⟨h1, h2, h3⟩ := hs
    exact ⟨s.2.2, rfl, h2, (List.nodup_append.mp (h3.nodup_iff.mpr sg_nodup)).1, fun x hx => h3.mem_iff.mp (List.mem_append_left _ hx)⟩
theorem p_lframe {c : Int} (hb : Builtin.Int.intBits c ≤ 1048576) : ∃ (L : List Nat) (D : Nat), m_law_frame c = .ok (L, (D : Int)) ∧ Fr L D ∧ 2 ≤ L.length ∧ ∀ x ∈ L, x ∈ sg := by
  unfold m_law_frame
  simp only [M.lt_eq]
  obtain ⟨n, hn⟩ : ∃ n : Nat, 2 + c % 5 = (n : Int) := ⟨(2 + c % 5).toNat, by omega⟩
  have n1 : 2 ≤ n ∧ n ≤ 6 := by omega
  obtain ⟨L, l1, l2, l3, l4⟩ := p_signs (c := c / 50) (n := n) n1.2 (intBits_div (by decide) hb)
  have hd : ∃ D : Nat, D ≤ 6 ∧ atI [(2 : Int), 3, 1, 0, 2, 3, 4, 1, 5, 6] (c / 5 % 10) = some (D : Int) := by
    have h1 := Int.emod_nonneg (c / 5) (b := 10) (by decide)
    have h2 := Int.emod_lt_of_pos (c / 5) (b := 10) (by decide)
    have key : ∀ j : Nat, j < 10 → ∃ D : Nat, D ≤ 6 ∧ atI [(2 : Int), 3, 1, 0, 2, 3, 4, 1, 5, 6] ((j : Nat) : Int) = some (D : Int) := fun j hj => by
      have : j = 0 ∨ j = 1 ∨ j = 2 ∨ j = 3 ∨ j = 4 ∨ j = 5 ∨ j = 6 ∨ j = 7 ∨ j = 8 ∨ j = 9 := by omega
      rcases this with e | e | e | e | e | e | e | e | e | e <;> subst e
      · exact ⟨2, by decide, rfl⟩
      · exact ⟨3, by decide, rfl⟩
      · exact ⟨1, by decide, rfl⟩
      · exact ⟨0, by decide, rfl⟩
      · exact ⟨2, by decide, rfl⟩
      · exact ⟨3, by decide, rfl⟩
      · exact ⟨4, by decide, rfl⟩
      · exact ⟨1, by decide, rfl⟩
      · exact ⟨5, by decide, rfl⟩
      · exact ⟨6, by decide, rfl⟩
    obtain ⟨D, d1, d2⟩ := key (c / 5 % 10).toNat (by omega)
    rw [Int.toNat_of_nonneg h1] at d2
    exact ⟨D, d1, d2⟩
  obtain ⟨D, d1, d2⟩ := hd
  rw [d2, M.ofO_some, M.bind_ok, hn, l1, M.nox_ok, M.bind_ok]
  exact ⟨L, D, rfl, ⟨by omega, by omega, l3, d1⟩, by omega, l4⟩
theorem p_ltext {L : List Nat} (h0 : 0 < L.length) (h6 : L.length ≤ 6) (cs : List Int) (lean : Bool) (hc : cs.length ≤ 1000) : ∃ t, m_law_text cs L lean = .ok t ∧ t.length = cs.length ∧ ∀ c ∈ t, c ∈ L := by
  unfold m_law_text
  simp only [M.lt_eq]
  have l1 : lenOk L = true := lenOk_i (by omega)
  refine bind_forN (s0 := ([] : List Nat)) (Q := fun (m : M (List Nat)) => ∃ t, m = .ok t ∧ t.length = cs.length ∧ ∀ c ∈ t, c ∈ L) (fun (i : Nat) (s : List Nat) => s.length = i ∧ ∀ c ∈ s, c ∈ L) ⟨rfl, fun c hc => by cases hc⟩ (fun i x hx s hs => ?_) (fun s hs => ⟨s, rfl, hs⟩)
  obtain ⟨i1, i2⟩ := hs
  have hi := lt_of_get hx
  have ls : lenOk s = true := lenOk_i (by omega)
  have h4 : ∃ v, M.nox (if lean = true then (M.gd (lenOk s) <| M.ok ((decide ((2 : Int) < ((s).length : Int))) && (decide ((0 : Int) < (x / 3 % (4 : Int)))))) else M.ok false) = .ok v ∧ (v = true → 2 < s.length) := by
    rw [M.gd_of _ ls]
    split
    · refine ⟨_, rfl, fun h => ?_⟩
      simp only [Bool.and_eq_true, decide_eq_true_eq] at h
      omega
    · exact ⟨_, rfl, fun h => by cases h⟩
  obtain ⟨v, v1, v2⟩ := h4
  rw [v1, M.bind_ok]
  split
  · rename_i hv
    have hl := v2 hv
    have m1 := Int.emod_nonneg (x / 3 / 4) (b := 3) (by decide)
    have m2 := Int.emod_lt_of_pos (x / 3 / 4) (b := 3) (by decide)
    obtain ⟨k, hk⟩ : ∃ k : Nat, (-1 : Int) - x / 3 / 4 % 3 = -((k : Nat) : Int) := ⟨(1 + x / 3 / 4 % 3).toNat, by omega⟩
    rw [M.gd_of _ ls, hk, atI_neg (by omega) (by omega), M.ofO_some, M.bind_ok, M.gd_of _ (catOk_i (by simp; omega)), M.bind_ok]
    refine ⟨_, rfl, by simp [i1], fun c hc => ?_⟩
    rcases List.mem_append.mp hc with m | m
    · exact i2 c m
    · rw [List.mem_singleton.mp m]; exact i2 _ (List.getElem_mem _)
  · have m1 := Int.emod_nonneg (x / 3 / 4) (b := (L.length : Int)) (by omega)
    have m2 := Int.emod_lt_of_pos (x / 3 / 4) (b := (L.length : Int)) (by omega)
    rw [M.gd_of _ l1, M.gd_of _ (decide_eq_true (by omega)), M.gd_of _ l1, atI_i m1 (by omega), M.ofO_some, M.bind_ok, M.gd_of _ (catOk_i (by simp; omega)), M.bind_ok]
    refine ⟨_, rfl, by simp [i1], fun c hc => ?_⟩
    rcases List.mem_append.mp hc with m | m
    · exact i2 c m
    · rw [List.mem_singleton.mp m]; exact List.getElem_mem _

/-! ### texts that are none, longer texts -/
theorem p_strange {L : List Nat} {cell : Int} (h6 : L.length ≤ 6) : ∃ c, m_law_strange L cell = .ok [c] ∧ c ∉ L := by
  unfold m_law_strange
  simp only [M.lt_eq]
  have hf : ∃ c, c ∈ sg.filter fun c => !decide (c ∈ L) := by
    rcases List.eq_nil_or_concat (sg.filter fun c => !decide (c ∈ L)) with e | ⟨us, c, e⟩
    · exfalso
      have hsub : ∀ c ∈ sg, c ∈ L := fun c hc => by
        have h := List.filter_eq_nil_iff.mp e c hc
        simpa using h
      have := List.Nodup.length_le_of_subset sg_nodup hsub
      rw [sg_len] at this
      omega
    · exact ⟨c, by rw [e]; simp⟩
  have hl : (sg.filter fun c => !decide (c ∈ L)).length ≤ 94 := by
    have := List.length_filter_le (fun c => !decide (c ∈ L)) sg
    rw [sg_len] at this
    exact this
  have hm : ∀ c ∈ sg.filter fun c => !decide (c ∈ L), c ∉ L := fun c hc => by
    have h := (List.mem_filter.mp hc).2
    simpa using h
  have hcomp : compM (fun (sign_ : Nat) => .ok ((!(decide (sign_ ∈ L))))) (fun (sign_ : Nat) => .ok (sign_)) sg = .ok (sg.filter fun c => !decide (c ∈ L)) := by
    rw [compM_filter (p := fun c => !decide (c ∈ L)) (k := fun c => c) (fun x _ => rfl) (fun x _ _ => rfl), List.map_id']
  have e0 : (txt0 ++ txt1 : List Nat) = sg := rfl
  rw [M.gd_of _ (catOk_i (by decide)), e0, M.gd_of _ (lenLt_i (by rw [sg_len]; omega)), hcomp, M.nox_ok, M.bind_ok, M.gd_of _ (joinOkC_nil (by omega)), joinC_nil]
  obtain ⟨c, hc⟩ := hf
  have hpos : 0 < (sg.filter fun c => !decide (c ∈ L)).length := List.length_pos_of_mem hc
  generalize (sg.filter fun c => !decide (c ∈ L)) = l at *
  have m1 := Int.emod_nonneg cell (b := (l.length : Int)) (by omega)
  have m2 := Int.emod_lt_of_pos cell (b := (l.length : Int)) (by omega)
  have hj : (cell % (l.length : Int)).toNat < l.length := by omega
  have ll : lenOk l = true := lenOk_i (by omega)
  rw [M.gd_of _ ll, M.gd_of _ (decide_eq_true (by omega)), M.gd_of _ ll, atI_i m1 hj, M.ofO_some, M.bind_ok]
  exact ⟨_, rfl, hm _ (List.getElem_mem _)⟩
theorem p_bad {L t : List Nat} {cell : Int} (h6 : L.length ≤ 6) (ht : t.length ≤ 1000) : ∃ b, m_law_bad L t cell = .ok b ∧ ∃ c ∈ b, c ∉ L := by
  unfold m_law_bad
  simp only [M.lt_eq]
  have lt : lenOk t = true := lenOk_i (by omega)
  simp only [M.gd_of _ lt]
  rw [M.gd_of _ (decide_eq_true (by omega))]
  have a1 := Int.emod_nonneg cell (b := (t.length : Int) + 1) (by omega)
  have a2 := Int.emod_lt_of_pos cell (b := (t.length : Int) + 1) (by omega)
  obtain ⟨x, x1, x2⟩ := p_strange (L := L) (cell := cell / 101 / 4) h6
  obtain ⟨y, y1, y2⟩ := p_strange (L := L) (cell := cell / 101 / 400) h6
  rw [x1, M.bind_ok, y1, M.bind_ok]
  have c1 := cut_len2 t none (some (cell % ((t.length : Int) + 1)))
  have c2 := cut_len2 t (some (cell % ((t.length : Int) + 1))) none
  by_cases q0 : cell / 101 % 4 = 0
  · rw [if_pos (decide_eq_true q0), M.gd_of _ (catOk_i (by simp; omega)), M.gd_of _ (catOk_i (by simp; omega))]
    exact ⟨_, rfl, x, by simp, x2⟩
  rw [if_neg (by simpa using q0)]
  by_cases q1 : cell / 101 % 4 = 1
  · rw [if_pos (decide_eq_true q1), M.gd_of _ (catOk_i (by simp; omega)), M.gd_of _ (catOk_i (by simp; omega)), M.gd_of _ (catOk_i (by simp; omega))]
    exact ⟨_, rfl, x, by simp, x2⟩
  rw [if_neg (by simpa using q1)]
  by_cases q2 : cell / 101 % 4 = 2
  · rw [if_pos (decide_eq_true q2), M.gd_of _ (catOk_i (by simp; omega)), M.gd_of _ (catOk_i (by simp; omega)), M.gd_of _ (catOk_i (by simp; omega))]
    exact ⟨_, rfl, x, by simp, x2⟩
  rw [if_neg (by simpa using q2)]
  have hr : (repS [x] (cell % ((t.length : Int) + 1))).length ≤ 1000 := by
    obtain ⟨n, hn⟩ : ∃ n : Nat, cell % ((t.length : Int) + 1) = (n : Int) := ⟨(cell % ((t.length : Int) + 1)).toNat, by omega⟩
    rw [hn, repS_one, List.length_replicate]
    omega
  rw [M.gd_of _ (repOk_i (by omega) (by omega) (by simp)), M.gd_of _ (catOk_i (by simp; omega))]
  exact ⟨_, rfl, y, by simp, y2⟩
theorem p_spread {cs : List Int} {n : Nat} (hc : cs ≠ []) (hl : cs.length ≤ 1000) (hn : n ≤ 1000) : ∃ r : List Int, m_law_spread cs (n : Int) = .ok r ∧ r.length = n := by
  have hp : 0 < cs.length := List.length_pos_iff.mpr hc
  unfold m_law_spread
  simp only [M.lt_eq]
  rw [M.gd_of _ (rngOk_i (by omega) (by omega) (by omega) (by omega)), Int.toNat_natCast]
  refine bind_forN (s0 := ([] : List Int)) (Q := fun m => ∃ r : List Int, m = .ok r ∧ r.length = n) (fun (i : Nat) (s : List Int) => s.length = i) rfl (fun i x hx s hs => ?_) (fun s hs => ?_)
  · have hi : i < n := by have := lt_of_get hx; rwa [rng_len] at this
    have hx2 : x = (i : Int) := by
      rw [List.getElem?_eq_getElem (by rw [rng_len]; exact hi), rng_get] at hx
      have := Option.some.inj hx
      omega
    subst hx2
    have m1 := Int.emod_nonneg (i : Int) (b := (cs.length : Int)) (by omega)
    have m2 := Int.emod_lt_of_pos (i : Int) (b := (cs.length : Int)) (by omega)
    have hj : ((i : Int) % (cs.length : Int)).toNat < cs.length := by omega
    have d1 : 0 ≤ (i : Int) / (cs.length : Int) := Int.ediv_nonneg (by omega) (by omega)
    have d2 : (i : Int) / (cs.length : Int) ≤ (i : Int) := Int.ediv_le_self _ (by omega)
    have hd1 : divOk (cs.length : Int) = true := divOk_i (by omega) (by rw [Int.natAbs_natCast]; exact log2_9000 (m := 20) (by omega) (by decide))
    have hd2 : divOk (1 + 18 * ((i : Int) / (cs.length : Int))) = true := divOk_i (by omega) (log2_9000 (m := 20) (by omega) (by decide))
    rw [M.gd_of _ hd1, M.gd_of _ (decide_eq_true (by omega)), atI_i m1 hj, M.ofO_some, M.bind_ok, M.gd_of _ hd2, M.gd_of _ (lenLt_i (by omega))]
    exact ⟨_, rfl, by simp [hs]⟩
  · rw [rng_len] at hs
    exact ⟨s, rfl, hs⟩

theorem p_law_cells {ns : List Int} {m : Nat} (hm1 : 2 ≤ m) (hm : m ≤ 6) : ∃ cs, m_law_cells ns (m : Int) = .ok cs ∧ cs.length ≤ 1020 := by
  unfold m_law_cells
  simp only [M.lt_eq]
  have c1 : m_law_cell_at ns 1 = .ok (ns.getD 1 0) := p_cell_at (ns := ns) (k := 1)
  have hcut : (cut ns (some (3 : Int)) (some (63 : Int))).length ≤ 60 := cut_len3 ns (i := 3) (j := 63)
  have hq : (990 : Int) / (m : Int) ≤ 990 := Int.ediv_le_self _ (by decide)
  have hq0 : (0 : Int) ≤ (990 : Int) / (m : Int) := Int.ediv_nonneg (by decide) (by omega)
  rw [c1, M.nox_ok, M.bind_ok, M.gd_of _ (divOk_i (by omega) (log2_9000 (m := 10) (by simp; omega) (by decide)))]
  generalize (990 : Int) / (m : Int) = q at *
  have r0 := Int.emod_nonneg (ns.getD 1 0 / 16) (b := q + 1) (by omega)
  have r1 := Int.emod_lt_of_pos (ns.getD 1 0 / 16) (b := q + 1) (by omega)
  by_cases e3 : ns.getD 1 0 / 2 % 8 = 3
  · rw [if_pos (decide_eq_true e3), M.bind_ok, M.gd_of _ (decide_eq_true (by omega)), M.gd_of _ (rngOk_i (by omega) (by omega) (by omega) (by omega)), M.gd_of _ (lenLt_i (by rw [rng_len]; omega)), compM_map (k := fun _ => (1 : Int)) (fun x _ => rfl) (fun x _ => rfl), M.nox_ok, M.bind_ok]
    exact ⟨_, rfl, by rw [List.length_map, rng_len]; omega⟩
  rw [if_neg (by simpa using e3)]
  by_cases e5 : ns.getD 1 0 / 2 % 8 = 5
  · rw [if_pos (decide_eq_true e5), M.gd_of _ (repOk_i (by decide) (by decide) (by omega)), M.bind_ok, M.gd_of _ (decide_eq_true (by omega))]
    refine ⟨_, rfl, Nat.le_trans (cut_len2 _ _ _) ?_⟩
    have h : (repS (cut ns (some (3 : Int)) (some (63 : Int))) 17).length = 17 * (cut ns (some (3 : Int)) (some (63 : Int))).length := by
      unfold repS
      simp
      try omega
    omega
  rw [if_neg (by simpa using e5)]
  exact ⟨_, rfl, by omega⟩
theorem cell_bits {ns : List Int} (h2 : ∀ z ∈ ns, Builtin.Int.intBits z ≤ 1048576) (k : Nat) : Builtin.Int.intBits (ns.getD k 0) ≤ 1048576 := by
  rw [List.getD_eq_getElem?_getD]
  cases e : ns[k]? with
  | none => exact Nat.le_trans (Nat.le_of_eq rfl) (by decide)
  | some z => exact h2 z (List.mem_of_getElem? e)

theorem p_frac {a b : Int} {A : Nat} (hA : A ≤ 8000) (hA0 : 0 < A) (ha : 0 < a) (hb : 0 < b) (za : a.natAbs < 2 ^ A) (zb : b.natAbs < 2 ^ A) : m_law_fraction (red (a, b)) a b = .ok true := by
  have p1 := ftop_pos ha hb
  have p2 := fbot_pos a b (by omega)
  have z1 := ftop_lt' (b := b) za
  have z2 := fbot_lt' (t := a) zb
  have c := f_cross a b
  have g := f_coprime a b (by omega)
  show m_law_fraction (ftop a b, fbot a b) a b = _
  generalize ftop a b = p at *
  generalize fbot a b = q at *
  unfold m_law_fraction
  have e : ∀ i, m_law_whole i = .ok true := fun i => rfl
  have n1 : M.nox (if (!true) = true then M.ok true else (M.bind (M.nox (if (!decide ((2 : Int) = (2 : Int))) = true then M.ok true else (M.bind (M.nox (m_law_whole (p, q).1)) fun r1 => M.bind (M.nox (if (!r1) = true then M.ok true else (M.bind (M.nox (m_law_whole (p, q).2)) fun r3 => .ok (!r3)))) fun r5 => .ok r5))) fun r7 => .ok r7)) = .ok false := by
    rw [if_neg (by decide), if_neg (by decide), e, M.nox_ok, M.bind_ok, if_neg (by decide), e]
    rfl
  rw [n1, M.bind_ok, if_neg (by decide)]
  dsimp only
  rw [if_neg (by simp; omega), if_neg (by simp; omega), M.gd_of _ (mulOk_i A A z1 zb hA0 hA0 (by omega)), M.gd_of _ (mulOk_i A A za z2 hA0 hA0 (by omega)), M.nox_ok, M.bind_ok, M.nox_ok, M.bind_ok, if_neg (by simp [c]), p_law_divisor (by omega) (by omega), M.nox_ok, M.bind_ok, g]
  rfl

section
variable {L : List Nat} {D : Nat}
theorem p_kinds_tree {d : Dat} {x : List Nat} (F : Fr L D) (h : isT L.length D d = false) : m_law_kinds (L, (D : Int)) d x = .ok [true, true, false] := by
  unfold m_law_kinds
  simp only [M.lt_eq]
  rw [p_worth_no F h, tryM_ex, lookM_here]
  rfl
theorem p_kinds_text {t : Tr} {x : List Nat} (F : Fr L D) (h : isTr L.length D t = true) (hb : ∃ c ∈ x, c ∉ L) : m_law_kinds (L, (D : Int)) (trd t) x = .ok [true, false, true] := by
  unfold m_law_kinds
  simp only [M.lt_eq]
  rw [p_worth_bad F h hb, tryM_ex, lookM_next (by decide), lookM_here]
  rfl
theorem p_asked {d : Dat} {x b : List Nat} (F : Fr L D) (hx : x.length ≤ 120) (hxL : ∀ c ∈ x, c ∈ L) (hb : b = x ∨ ∃ c ∈ b, c ∉ L) : m_law_asked (L, (D : Int)) d x b = .ok true := by
  have h6 := F.l6
  have hD := F.d6
  unfold m_law_asked
  dsimp only
  rw [M.gd_of _ (lenOk_i (by omega)), p_law_is F.l6 F.d6, M.nox_ok, M.bind_ok]
  cases h : isT L.length D d with
  | false => rw [if_pos (by decide), p_kinds_tree F h]; rfl
  | true =>
    obtain ⟨t, rfl⟩ := isT_tr h
    rw [isT_trd] at h
    rw [if_neg (by decide)]
    rcases hb with rfl | hb
    · have I := ct_ok (t := t) F hx hxL b.length (Nat.le_refl _)
      rw [if_neg (by simp), trOf_trd, M.ofO_some, M.bind_ok, p_law_worth F hx hxL h, M.bind_ok, p_worth_by F hx hxL h, M.nox_ok, M.bind_ok]
      have p1 : 1 ≤ tpL L (CT L D t b b.length) := prN_pos fun a ha => by
        obtain ⟨p, _, rfl⟩ := List.mem_map.mp ha
        exact wtop_pos _
      have p2 : 1 ≤ btL L (CT L D t b b.length) := prN_pos fun a ha => by
        obtain ⟨p, _, rfl⟩ := List.mem_map.mp ha
        exact wbot_pos F.l1
      have i1 := I.tp
      have i2 := I.bt
      generalize tpL L (CT L D t b b.length) = P at *
      generalize btL L (CT L D t b b.length) = Q at *
      have up : 2 ^ (9 * b.length + 1) ≤ 2 ^ 1100 := Nat.pow_le_pow_right (by decide) (by omega)
      rw [p_frac (A := 1100) (by decide) (by decide) (by omega) (by omega) (by rw [Int.natAbs_natCast]; exact Nat.lt_of_lt_of_le i1 up) (by rw [Int.natAbs_natCast]; exact Nat.lt_of_lt_of_le i2 up)]
      rfl
    · have hne : ¬ b = x := fun e => by
        obtain ⟨c, h1, h2⟩ := hb
        exact h2 (hxL c (e ▸ h1))
      rw [if_pos (by simp [hne]), p_kinds_text F h hb]
      rfl
end
theorem p_told {L : List Nat} {ns : List Int} (h1 : 0 < L.length) (h6 : L.length ≤ 6) : ∃ t, m_law_told ns L = .ok t ∧ t.length ≤ 98 ∧ ∀ c ∈ t, c ∈ L := by
  have hcl : (cut ns (some (3 : Int)) (some (63 : Int))).length ≤ 60 := cut_len3 (l := ns) (i := 3) (j := 63)
  have c1 : m_law_cell_at ns 1 = .ok (ns.getD 1 0) := p_cell_at (ns := ns) (k := 1)
  have c2 : m_law_cell_at ns 2 = .ok (ns.getD 2 0) := p_cell_at (ns := ns) (k := 2)
  unfold m_law_told
  simp only [M.lt_eq]
  generalize cut ns (some (3 : Int)) (some (63 : Int)) = cs at *
  rw [c2, M.nox_ok, M.bind_ok]
  have h2 : ∃ r : List Int, (if ((decide ((ns.getD 2 0 / 8 % (8 : Int)) = (1 : Int))) && (!decide (cs = []))) = true then (
    M.bind (m_law_spread cs ((94 : Int) + ((ns.getD 2 0 / 8 / (8 : Int)) % (5 : Int)))) fun cells_ =>
    M.ok cells_) else (M.ok cs)) = .ok r ∧ r.length ≤ 98 := by
    split
    · rename_i hc
      rw [Bool.and_eq_true] at hc
      have hne : cs ≠ [] := by simpa using hc.2
      obtain ⟨n, hn⟩ : ∃ n : Nat, (94 : Int) + ns.getD 2 0 / 8 / 8 % 5 = (n : Int) := ⟨((94 : Int) + ns.getD 2 0 / 8 / 8 % 5).toNat, by omega⟩
      obtain ⟨r, r1, r2⟩ := p_spread (n := n) hne (by omega) (by omega)
      rw [hn, r1, M.bind_ok]
      exact ⟨r, rfl, by omega⟩
    · exact ⟨cs, rfl, by omega⟩
  obtain ⟨r, r1, r2⟩ := h2
  obtain ⟨t, t1, t2, t3⟩ := p_ltext h1 h6 r (decide (ns.getD 1 0 % 2 = 1)) (by omega)
  rw [r1, M.bind_ok, c1, M.nox_ok, M.bind_ok, t1, M.bind_ok]
  split
  · have lt : lenOk t = true := lenOk_i (by omega)
    rw [M.gd_of _ lt, M.gd_of _ (decide_eq_true (by omega)), M.gd_of _ lt]
    exact ⟨_, rfl, Nat.le_trans (cut_len2 _ _ _) (by omega), fun c hc => t3 c (cut_mem hc)⟩
  · exact ⟨t, rfl, by omega, t3⟩
theorem law_holds (ns : List Int) (h1 : ns.length ≤ 63) (h2 : ∀ z ∈ ns, Builtin.Int.intBits z ≤ 1048576) : m_law ns = .ok true := by
  unfold m_law
  simp only [M.lt_eq]
  have c0 : m_law_cell_at ns 0 = .ok (ns.getD 0 0) := p_cell_at (ns := ns) (k := 0)
  have c2 : m_law_cell_at ns 2 = .ok (ns.getD 2 0) := p_cell_at (ns := ns) (k := 2)
  obtain ⟨L, D, f1, F, l2, hs⟩ := p_lframe (cell_bits h2 0)
  have l6 := F.l6
  have hD := F.d6
  obtain ⟨cs, k1, k2⟩ := p_law_cells (ns := ns) l2 l6
  obtain ⟨c, hc⟩ : ∃ c, ns.getD 2 0 / 6464 = c := ⟨_, rfl⟩
  have e0 := Int.emod_nonneg c (b := 16) (by decide)
  have e1 := Int.emod_lt_of_pos c (b := 16) (by decide)
  obtain ⟨t, t1, t2⟩ := p_law_tree (cells := cs) l2 l6 F.d6 (by omega) (place := -1) (kind := 0) (by decide) (by decide)
  have two : ∀ c : Int, ∃ r : Int, 0 < r ∧ atI [(7 : Int), 1000] (c % 2) = some r := fun c => by
    rcases Int.emod_two_eq c with e | e <;> rw [e]
    · exact ⟨7, by decide, rfl⟩
    · exact ⟨1000, by decide, rfl⟩
  obtain ⟨r, r1, r2⟩ := two (c / 16)
  obtain ⟨u, u1, _⟩ := p_law_tree (cells := cs) l2 l6 F.d6 (by omega) (place := c / 32 % r) e0 e1
  obtain ⟨x, x1, x2, x3⟩ := p_told (ns := ns) F.l1 l6
  have lx : lenOk x = true := lenOk_i (by omega)
  rw [c0, M.nox_ok, M.bind_ok, f1, M.bind_ok, M.gd_of _ (lenOk_i (by show L.length ≤ _; omega)), k1, M.bind_ok, c2, M.nox_ok, M.bind_ok, hc]
  dsimp only
  rw [t1, M.bind_ok, ofO_ok r2, M.gd_of _ (decide_eq_true r1), u1, M.bind_ok, x1, M.bind_ok]
  have hb : ∃ b, (if (decide ((ns.getD 2 0 % (4 : Int)) = (1 : Int))) = true then (M.bind (m_law_bad L x c) fun bad_ => M.ok bad_) else (M.ok x)) = .ok b ∧ (b = x ∨ ∃ c ∈ b, c ∉ L) := by
    split
    · obtain ⟨b, b1, b2⟩ := p_bad (L := L) (t := x) (cell := c) l6 (by omega)
      rw [b1, M.bind_ok]
      exact ⟨b, rfl, .inr b2⟩
    · exact ⟨x, rfl, .inl rfl⟩
  obtain ⟨b, b1, b2⟩ := hb
  rw [M.bind_ok, b1, M.bind_ok]
  refine seqT_forI (Q := fun (mm : M Bool) => mm = .ok true) (fun _ => True) trivial (fun y _ s _ => ?_) (fun s _ => ?_)
  · rw [p_asked F (by omega) x3 b2, M.nox_ok, M.bind_ok, if_neg (by decide)]
    exact ⟨(), .inl rfl, trivial⟩
  · have hcl := cut_len2 x (some (1 : Int)) none
    rw [M.gd_of _ lx, M.gd_of _ lx, p_asked F (by omega) (fun c hc => x3 c (cut_mem hc)) (.inl rfl), M.nox_ok, M.bind_ok, if_pos rfl, p_asked F (by omega) x3 (.inl rfl)]
    rfl

end B
namespace B
open PySem PySem.Spec PyProof.Rows L2
theorem all_mk {P : Program} {w : World} {K : PySem.W.Frag} {h : Heap} {mg : Str → Option Value} {fa : Addr} (X : K.In h) (G : h.Ns mainGlobals mg) (hfa : mg "law" = some (.ref fa))
    {f1 : Addr} {od1 an1 : Option Addr} {sl1 : Array (Option Value)} {oc1 kV1 dc1 pm1 cd1 ct1 : Value}
    {f2 : Addr} {od2 an2 : Option Addr} {sl2 : Array (Option Value)} {oc2 kV2 dc2 pm2 cd2 ct2 : Value}
    {f3 : Addr} {od3 an3 : Option Addr} {sl3 : Array (Option Value)} {oc3 kV3 dc3 pm3 cd3 ct3 : Value}
    {f4 : Addr} {od4 an4 : Option Addr} {sl4 : Array (Option Value)} {oc4 kV4 dc4 pm4 cd4 ct4 : Value}
    {f5 : Addr} {od5 an5 : Option Addr} {sl5 : Array (Option Value)} {oc5 kV5 dc5 pm5 cd5 ct5 : Value}
    {f6 : Addr} {od6 an6 : Option Addr} {sl6 : Array (Option Value)} {oc6 kV6 dc6 pm6 cd6 ct6 : Value}
    {f7 : Addr} {od7 an7 : Option Addr} {sl7 : Array (Option Value)} {oc7 kV7 dc7 pm7 cd7 ct7 : Value}
    {f8 : Addr} {od8 an8 : Option Addr} {sl8 : Array (Option Value)} {oc8 kV8 dc8 pm8 cd8 ct8 : Value}
    {f9 : Addr} {od9 an9 : Option Addr} {sl9 : Array (Option Value)} {oc9 kV9 dc9 pm9 cd9 ct9 : Value}
    {f10 : Addr} {od10 an10 : Option Addr} {sl10 : Array (Option Value)} {oc10 kV10 dc10 pm10 cd10 ct10 : Value}
    {f11 : Addr} {od11 an11 : Option Addr} {sl11 : Array (Option Value)} {oc11 kV11 dc11 pm11 cd11 ct11 : Value}
    {f12 : Addr} {od12 an12 : Option Addr} {sl12 : Array (Option Value)} {oc12 kV12 dc12 pm12 cd12 ct12 : Value}
    {f13 : Addr} {od13 an13 : Option Addr} {sl13 : Array (Option Value)} {oc13 kV13 dc13 pm13 cd13 ct13 : Value}
    {f14 : Addr} {od14 an14 : Option Addr} {sl14 : Array (Option Value)} {oc14 kV14 dc14 pm14 cd14 ct14 : Value}
    {f15 : Addr} {od15 an15 : Option Addr} {sl15 : Array (Option Value)} {oc15 kV15 dc15 pm15 cd15 ct15 : Value}
    {f16 : Addr} {od16 an16 : Option Addr} {sl16 : Array (Option Value)} {oc16 kV16 dc16 pm16 cd16 ct16 : Value}
    {f17 : Addr} {od17 an17 : Option Addr} {sl17 : Array (Option Value)} {oc17 kV17 dc17 pm17 cd17 ct17 : Value}
    {f18 : Addr} {od18 an18 : Option Addr} {sl18 : Array (Option Value)} {oc18 kV18 dc18 pm18 cd18 ct18 : Value}
    {f19 : Addr} {od19 an19 : Option Addr} {sl19 : Array (Option Value)} {oc19 kV19 dc19 pm19 cd19 ct19 : Value}
    {f20 : Addr} {od20 an20 : Option Addr} {sl20 : Array (Option Value)} {oc20 kV20 dc20 pm20 cd20 ct20 : Value}
    {f21 : Addr} {od21 an21 : Option Addr} {sl21 : Array (Option Value)} {oc21 kV21 dc21 pm21 cd21 ct21 : Value}
    {f22 : Addr} {od22 an22 : Option Addr} {sl22 : Array (Option Value)} {oc22 kV22 dc22 pm22 cd22 ct22 : Value}
    {f23 : Addr} {od23 an23 : Option Addr} {sl23 : Array (Option Value)} {oc23 kV23 dc23 pm23 cd23 ct23 : Value}
    {f24 : Addr} {od24 an24 : Option Addr} {sl24 : Array (Option Value)} {oc24 kV24 dc24 pm24 cd24 ct24 : Value}
    {f25 : Addr} {od25 an25 : Option Addr} {sl25 : Array (Option Value)} {oc25 kV25 dc25 pm25 cd25 ct25 : Value}
    {f26 : Addr} {od26 an26 : Option Addr} {sl26 : Array (Option Value)} {oc26 kV26 dc26 pm26 cd26 ct26 : Value}
    {f27 : Addr} {od27 an27 : Option Addr} {sl27 : Array (Option Value)} {oc27 kV27 dc27 pm27 cd27 ct27 : Value}
    {f28 : Addr} {od28 an28 : Option Addr} {sl28 : Array (Option Value)} {oc28 kV28 dc28 pm28 cd28 ct28 : Value}
    {f29 : Addr} {od29 an29 : Option Addr} {sl29 : Array (Option Value)} {oc29 kV29 dc29 pm29 cd29 ct29 : Value}
    {f30 : Addr} {od30 an30 : Option Addr} {sl30 : Array (Option Value)} {oc30 kV30 dc30 pm30 cd30 ct30 : Value}
    {f31 : Addr} {od31 an31 : Option Addr} {sl31 : Array (Option Value)} {oc31 kV31 dc31 pm31 cd31 ct31 : Value}
    {f32 : Addr} {od32 an32 : Option Addr} {sl32 : Array (Option Value)} {oc32 kV32 dc32 pm32 cd32 ct32 : Value}
    {f33 : Addr} {od33 an33 : Option Addr} {sl33 : Array (Option Value)} {oc33 kV33 dc33 pm33 cd33 ct33 : Value}
    {f34 : Addr} {od34 an34 : Option Addr} {sl34 : Array (Option Value)} {oc34 kV34 dc34 pm34 cd34 ct34 : Value}
    {C_NoPlace : Addr}
    {C_NoFraction : Addr}
    {C_NoTree : Addr}
    {C_NoText : Addr}
    {C_PressError : Addr}
    (a1 : PySem.W.nsIn K mainGlobals "checked" = some (some (.ref f1))) (l1 : K.lookup f1 = some ⟨oc1, od1, .func (PySem.W.fnOf "checked" "checked" (defArgs s_checked) (defBody s_checked) (defScope s_checked) .none kV1 dc1 pm1 an1 cd1 ct1), sl1⟩) (c1 : PySem.W.codeIn K cd1 "checked" = true) (k1 : PySem.W.keepIn K (.ref f1) = true)
    (a2 : PySem.W.nsIn K mainGlobals "signs_ahead" = some (some (.ref f2))) (l2 : K.lookup f2 = some ⟨oc2, od2, .func (PySem.W.fnOf "signs_ahead" "signs_ahead" (defArgs s_signs_ahead) (defBody s_signs_ahead) (defScope s_signs_ahead) .none kV2 dc2 pm2 an2 cd2 ct2), sl2⟩) (c2 : PySem.W.codeIn K cd2 "signs_ahead" = true) (k2 : PySem.W.keepIn K (.ref f2) = true)
    (a3 : PySem.W.nsIn K mainGlobals "elders" = some (some (.ref f3))) (l3 : K.lookup f3 = some ⟨oc3, od3, .func (PySem.W.fnOf "elders" "elders" (defArgs s_elders) (defBody s_elders) (defScope s_elders) .none kV3 dc3 pm3 an3 cd3 ct3), sl3⟩) (c3 : PySem.W.codeIn K cd3 "elders" = true) (k3 : PySem.W.keepIn K (.ref f3) = true)
    (a4 : PySem.W.nsIn K mainGlobals "greatest_divisor" = some (some (.ref f4))) (l4 : K.lookup f4 = some ⟨oc4, od4, .func (PySem.W.fnOf "greatest_divisor" "greatest_divisor" (defArgs s_greatest_divisor) (defBody s_greatest_divisor) (defScope s_greatest_divisor) .none kV4 dc4 pm4 an4 cd4 ct4), sl4⟩) (c4 : PySem.W.codeIn K cd4 "greatest_divisor" = true) (k4 : PySem.W.keepIn K (.ref f4) = true)
    (a5 : PySem.W.nsIn K mainGlobals "fraction" = some (some (.ref f5))) (l5 : K.lookup f5 = some ⟨oc5, od5, .func (PySem.W.fnOf "fraction" "fraction" (defArgs s_fraction) (defBody s_fraction) (defScope s_fraction) .none kV5 dc5 pm5 an5 cd5 ct5), sl5⟩) (c5 : PySem.W.codeIn K cd5 "fraction" = true) (k5 : PySem.W.keepIn K (.ref f5) = true)
    (a6 : PySem.W.nsIn K mainGlobals "times" = some (some (.ref f6))) (l6 : K.lookup f6 = some ⟨oc6, od6, .func (PySem.W.fnOf "times" "times" (defArgs s_times) (defBody s_times) (defScope s_times) .none kV6 dc6 pm6 an6 cd6 ct6), sl6⟩) (c6 : PySem.W.codeIn K cd6 "times" = true) (k6 : PySem.W.keepIn K (.ref f6) = true)
    (a7 : PySem.W.nsIn K mainGlobals "odd_product" = some (some (.ref f7))) (l7 : K.lookup f7 = some ⟨oc7, od7, .func (PySem.W.fnOf "odd_product" "odd_product" (defArgs s_odd_product) (defBody s_odd_product) (defScope s_odd_product) .none kV7 dc7 pm7 an7 cd7 ct7), sl7⟩) (c7 : PySem.W.codeIn K cd7 "odd_product" = true) (k7 : PySem.W.keepIn K (.ref f7) = true)
    (a8 : PySem.W.nsIn K mainGlobals "worth" = some (some (.ref f8))) (l8 : K.lookup f8 = some ⟨oc8, od8, .func (PySem.W.fnOf "worth" "worth" (defArgs s_worth) (defBody s_worth) (defScope s_worth) .none kV8 dc8 pm8 an8 cd8 ct8), sl8⟩) (c8 : PySem.W.codeIn K cd8 "worth" = true) (k8 : PySem.W.keepIn K (.ref f8) = true)
    (a9 : PySem.W.nsIn K mainGlobals "is_bough" = some (some (.ref f9))) (l9 : K.lookup f9 = some ⟨oc9, od9, .func (PySem.W.fnOf "is_bough" "is_bough" (defArgs s_is_bough) (defBody s_is_bough) (defScope s_is_bough) .none kV9 dc9 pm9 an9 cd9 ct9), sl9⟩) (c9 : PySem.W.codeIn K cd9 "is_bough" = true) (k9 : PySem.W.keepIn K (.ref f9) = true)
    (a10 : PySem.W.nsIn K mainGlobals "is_tree" = some (some (.ref f10))) (l10 : K.lookup f10 = some ⟨oc10, od10, .func (PySem.W.fnOf "is_tree" "is_tree" (defArgs s_is_tree) (defBody s_is_tree) (defScope s_is_tree) .none kV10 dc10 pm10 an10 cd10 ct10), sl10⟩) (c10 : PySem.W.codeIn K cd10 "is_tree" = true) (k10 : PySem.W.keepIn K (.ref f10) = true)
    (a11 : PySem.W.nsIn K mainGlobals "need_tree" = some (some (.ref f11))) (l11 : K.lookup f11 = some ⟨oc11, od11, .func (PySem.W.fnOf "need_tree" "need_tree" (defArgs s_need_tree) (defBody s_need_tree) (defScope s_need_tree) .none kV11 dc11 pm11 an11 cd11 ct11), sl11⟩) (c11 : PySem.W.codeIn K cd11 "need_tree" = true) (k11 : PySem.W.keepIn K (.ref f11) = true)
    (a12 : PySem.W.nsIn K mainGlobals "leaf_size" = some (some (.ref f12))) (l12 : K.lookup f12 = some ⟨oc12, od12, .func (PySem.W.fnOf "leaf_size" "leaf_size" (defArgs s_leaf_size) (defBody s_leaf_size) (defScope s_leaf_size) .none kV12 dc12 pm12 an12 cd12 ct12), sl12⟩) (c12 : PySem.W.codeIn K cd12 "leaf_size" = true) (k12 : PySem.W.keepIn K (.ref f12) = true)
    (a13 : PySem.W.nsIn K mainGlobals "worth_by" = some (some (.ref f13))) (l13 : K.lookup f13 = some ⟨oc13, od13, .func (PySem.W.fnOf "worth_by" "worth_by" (defArgs s_worth_by) (defBody s_worth_by) (defScope s_worth_by) .none kV13 dc13 pm13 an13 cd13 ct13), sl13⟩) (c13 : PySem.W.codeIn K cd13 "worth_by" = true) (k13 : PySem.W.keepIn K (.ref f13) = true)
    (a14 : PySem.W.nsIn K mainGlobals "_law_cell_at" = some (some (.ref f14))) (l14 : K.lookup f14 = some ⟨oc14, od14, .func (PySem.W.fnOf "_law_cell_at" "_law_cell_at" (defArgs s_law_cell_at) (defBody s_law_cell_at) (defScope s_law_cell_at) .none kV14 dc14 pm14 an14 cd14 ct14), sl14⟩) (c14 : PySem.W.codeIn K cd14 "_law_cell_at" = true) (k14 : PySem.W.keepIn K (.ref f14) = true)
    (a15 : PySem.W.nsIn K mainGlobals "_law_signs" = some (some (.ref f15))) (l15 : K.lookup f15 = some ⟨oc15, od15, .func (PySem.W.fnOf "_law_signs" "_law_signs" (defArgs s_law_signs) (defBody s_law_signs) (defScope s_law_signs) .none kV15 dc15 pm15 an15 cd15 ct15), sl15⟩) (c15 : PySem.W.codeIn K cd15 "_law_signs" = true) (k15 : PySem.W.keepIn K (.ref f15) = true)
    (a16 : PySem.W.nsIn K mainGlobals "_law_frame" = some (some (.ref f16))) (l16 : K.lookup f16 = some ⟨oc16, od16, .func (PySem.W.fnOf "_law_frame" "_law_frame" (defArgs s_law_frame) (defBody s_law_frame) (defScope s_law_frame) .none kV16 dc16 pm16 an16 cd16 ct16), sl16⟩) (c16 : PySem.W.codeIn K cd16 "_law_frame" = true) (k16 : PySem.W.keepIn K (.ref f16) = true)
    (a17 : PySem.W.nsIn K mainGlobals "_law_cells" = some (some (.ref f17))) (l17 : K.lookup f17 = some ⟨oc17, od17, .func (PySem.W.fnOf "_law_cells" "_law_cells" (defArgs s_law_cells) (defBody s_law_cells) (defScope s_law_cells) .none kV17 dc17 pm17 an17 cd17 ct17), sl17⟩) (c17 : PySem.W.codeIn K cd17 "_law_cells" = true) (k17 : PySem.W.keepIn K (.ref f17) = true)
    (a18 : PySem.W.nsIn K mainGlobals "_law_thing" = some (some (.ref f18))) (l18 : K.lookup f18 = some ⟨oc18, od18, .func (PySem.W.fnOf "_law_thing" "_law_thing" (defArgs s_law_thing) (defBody s_law_thing) (defScope s_law_thing) .none kV18 dc18 pm18 an18 cd18 ct18), sl18⟩) (c18 : PySem.W.codeIn K cd18 "_law_thing" = true) (k18 : PySem.W.keepIn K (.ref f18) = true)
    (a19 : PySem.W.nsIn K mainGlobals "_law_tree" = some (some (.ref f19))) (l19 : K.lookup f19 = some ⟨oc19, od19, .func (PySem.W.fnOf "_law_tree" "_law_tree" (defArgs s_law_tree) (defBody s_law_tree) (defScope s_law_tree) .none kV19 dc19 pm19 an19 cd19 ct19), sl19⟩) (c19 : PySem.W.codeIn K cd19 "_law_tree" = true) (k19 : PySem.W.keepIn K (.ref f19) = true)
    (a20 : PySem.W.nsIn K mainGlobals "_law_is" = some (some (.ref f20))) (l20 : K.lookup f20 = some ⟨oc20, od20, .func (PySem.W.fnOf "_law_is" "_law_is" (defArgs s_law_is) (defBody s_law_is) (defScope s_law_is) .none kV20 dc20 pm20 an20 cd20 ct20), sl20⟩) (c20 : PySem.W.codeIn K cd20 "_law_is" = true) (k20 : PySem.W.keepIn K (.ref f20) = true)
    (a21 : PySem.W.nsIn K mainGlobals "_law_text" = some (some (.ref f21))) (l21 : K.lookup f21 = some ⟨oc21, od21, .func (PySem.W.fnOf "_law_text" "_law_text" (defArgs s_law_text) (defBody s_law_text) (defScope s_law_text) .none kV21 dc21 pm21 an21 cd21 ct21), sl21⟩) (c21 : PySem.W.codeIn K cd21 "_law_text" = true) (k21 : PySem.W.keepIn K (.ref f21) = true)
    (a22 : PySem.W.nsIn K mainGlobals "_law_elders" = some (some (.ref f22))) (l22 : K.lookup f22 = some ⟨oc22, od22, .func (PySem.W.fnOf "_law_elders" "_law_elders" (defArgs s_law_elders) (defBody s_law_elders) (defScope s_law_elders) .none kV22 dc22 pm22 an22 cd22 ct22), sl22⟩) (c22 : PySem.W.codeIn K cd22 "_law_elders" = true) (k22 : PySem.W.keepIn K (.ref f22) = true)
    (a23 : PySem.W.nsIn K mainGlobals "_law_whole" = some (some (.ref f23))) (l23 : K.lookup f23 = some ⟨oc23, od23, .func (PySem.W.fnOf "_law_whole" "_law_whole" (defArgs s_law_whole) (defBody s_law_whole) (defScope s_law_whole) .none kV23 dc23 pm23 an23 cd23 ct23), sl23⟩) (c23 : PySem.W.codeIn K cd23 "_law_whole" = true) (k23 : PySem.W.keepIn K (.ref f23) = true)
    (a24 : PySem.W.nsIn K mainGlobals "_law_divisor" = some (some (.ref f24))) (l24 : K.lookup f24 = some ⟨oc24, od24, .func (PySem.W.fnOf "_law_divisor" "_law_divisor" (defArgs s_law_divisor) (defBody s_law_divisor) (defScope s_law_divisor) .none kV24 dc24 pm24 an24 cd24 ct24), sl24⟩) (c24 : PySem.W.codeIn K cd24 "_law_divisor" = true) (k24 : PySem.W.keepIn K (.ref f24) = true)
    (a25 : PySem.W.nsIn K mainGlobals "_law_fraction" = some (some (.ref f25))) (l25 : K.lookup f25 = some ⟨oc25, od25, .func (PySem.W.fnOf "_law_fraction" "_law_fraction" (defArgs s_law_fraction) (defBody s_law_fraction) (defScope s_law_fraction) .none kV25 dc25 pm25 an25 cd25 ct25), sl25⟩) (c25 : PySem.W.codeIn K cd25 "_law_fraction" = true) (k25 : PySem.W.keepIn K (.ref f25) = true)
    (a26 : PySem.W.nsIn K mainGlobals "_law_spread" = some (some (.ref f26))) (l26 : K.lookup f26 = some ⟨oc26, od26, .func (PySem.W.fnOf "_law_spread" "_law_spread" (defArgs s_law_spread) (defBody s_law_spread) (defScope s_law_spread) .none kV26 dc26 pm26 an26 cd26 ct26), sl26⟩) (c26 : PySem.W.codeIn K cd26 "_law_spread" = true) (k26 : PySem.W.keepIn K (.ref f26) = true)
    (a27 : PySem.W.nsIn K mainGlobals "_law_strange" = some (some (.ref f27))) (l27 : K.lookup f27 = some ⟨oc27, od27, .func (PySem.W.fnOf "_law_strange" "_law_strange" (defArgs s_law_strange) (defBody s_law_strange) (defScope s_law_strange) .none kV27 dc27 pm27 an27 cd27 ct27), sl27⟩) (c27 : PySem.W.codeIn K cd27 "_law_strange" = true) (k27 : PySem.W.keepIn K (.ref f27) = true)
    (a28 : PySem.W.nsIn K mainGlobals "_law_bad" = some (some (.ref f28))) (l28 : K.lookup f28 = some ⟨oc28, od28, .func (PySem.W.fnOf "_law_bad" "_law_bad" (defArgs s_law_bad) (defBody s_law_bad) (defScope s_law_bad) .none kV28 dc28 pm28 an28 cd28 ct28), sl28⟩) (c28 : PySem.W.codeIn K cd28 "_law_bad" = true) (k28 : PySem.W.keepIn K (.ref f28) = true)
    (a29 : PySem.W.nsIn K mainGlobals "_law_leaf" = some (some (.ref f29))) (l29 : K.lookup f29 = some ⟨oc29, od29, .func (PySem.W.fnOf "_law_leaf" "_law_leaf" (defArgs s_law_leaf) (defBody s_law_leaf) (defScope s_law_leaf) .none kV29 dc29 pm29 an29 cd29 ct29), sl29⟩) (c29 : PySem.W.codeIn K cd29 "_law_leaf" = true) (k29 : PySem.W.keepIn K (.ref f29) = true)
    (a30 : PySem.W.nsIn K mainGlobals "_law_worth" = some (some (.ref f30))) (l30 : K.lookup f30 = some ⟨oc30, od30, .func (PySem.W.fnOf "_law_worth" "_law_worth" (defArgs s_law_worth) (defBody s_law_worth) (defScope s_law_worth) .none kV30 dc30 pm30 an30 cd30 ct30), sl30⟩) (c30 : PySem.W.codeIn K cd30 "_law_worth" = true) (k30 : PySem.W.keepIn K (.ref f30) = true)
    (a31 : PySem.W.nsIn K mainGlobals "_law_kinds" = some (some (.ref f31))) (l31 : K.lookup f31 = some ⟨oc31, od31, .func (PySem.W.fnOf "_law_kinds" "_law_kinds" (defArgs s_law_kinds) (defBody s_law_kinds) (defScope s_law_kinds) .none kV31 dc31 pm31 an31 cd31 ct31), sl31⟩) (c31 : PySem.W.codeIn K cd31 "_law_kinds" = true) (k31 : PySem.W.keepIn K (.ref f31) = true)
    (a32 : PySem.W.nsIn K mainGlobals "_law_asked" = some (some (.ref f32))) (l32 : K.lookup f32 = some ⟨oc32, od32, .func (PySem.W.fnOf "_law_asked" "_law_asked" (defArgs s_law_asked) (defBody s_law_asked) (defScope s_law_asked) .none kV32 dc32 pm32 an32 cd32 ct32), sl32⟩) (c32 : PySem.W.codeIn K cd32 "_law_asked" = true) (k32 : PySem.W.keepIn K (.ref f32) = true)
    (a33 : PySem.W.nsIn K mainGlobals "_law_told" = some (some (.ref f33))) (l33 : K.lookup f33 = some ⟨oc33, od33, .func (PySem.W.fnOf "_law_told" "_law_told" (defArgs s_law_told) (defBody s_law_told) (defScope s_law_told) .none kV33 dc33 pm33 an33 cd33 ct33), sl33⟩) (c33 : PySem.W.codeIn K cd33 "_law_told" = true) (k33 : PySem.W.keepIn K (.ref f33) = true)
    (a34 : PySem.W.nsIn K mainGlobals "law" = some (some (.ref f34))) (l34 : K.lookup f34 = some ⟨oc34, od34, .func (PySem.W.fnOf "law" "law" (defArgs s_law) (defBody s_law) (defScope s_law) .none kV34 dc34 pm34 an34 cd34 ct34), sl34⟩) (c34 : PySem.W.codeIn K cd34 "law" = true) (k34 : PySem.W.keepIn K (.ref f34) = true)
    (z_ValueError : PySem.W.nsIn K mainGlobals "ValueError" = some none)
    (z_abs : PySem.W.nsIn K mainGlobals "abs" = some none)
    (z_bool : PySem.W.nsIn K mainGlobals "bool" = some none)
    (z_int : PySem.W.nsIn K mainGlobals "int" = some none)
    (z_isinstance : PySem.W.nsIn K mainGlobals "isinstance" = some none)
    (z_len : PySem.W.nsIn K mainGlobals "len" = some none)
    (z_list : PySem.W.nsIn K mainGlobals "list" = some none)
    (z_max : PySem.W.nsIn K mainGlobals "max" = some none)
    (z_range : PySem.W.nsIn K mainGlobals "range" = some none)
    (z_sum : PySem.W.nsIn K mainGlobals "sum" = some none)
    (z_tuple : PySem.W.nsIn K mainGlobals "tuple" = some none)
    (aC_NoPlace : PySem.W.nsIn K mainGlobals "NoPlace" = some (some (.ref C_NoPlace))) (xC_NoPlace : PySem.W.excIn K C_NoPlace [.type "ValueError", .type "Exception", .type "BaseException", .type "object"] "ValueError.__new__" = true) (kC_NoPlace : PySem.W.keepIn K (.ref C_NoPlace) = true) (bC_NoPlace : PySem.W.subIn K (.ref C_NoPlace) (.type "BaseException") = some true) (tC_NoPlace : PySem.W.typeIn K (.ref C_NoPlace) = some (.type "type"))
    (aC_NoFraction : PySem.W.nsIn K mainGlobals "NoFraction" = some (some (.ref C_NoFraction))) (xC_NoFraction : PySem.W.excIn K C_NoFraction [.type "ValueError", .type "Exception", .type "BaseException", .type "object"] "ValueError.__new__" = true) (kC_NoFraction : PySem.W.keepIn K (.ref C_NoFraction) = true) (bC_NoFraction : PySem.W.subIn K (.ref C_NoFraction) (.type "BaseException") = some true) (tC_NoFraction : PySem.W.typeIn K (.ref C_NoFraction) = some (.type "type"))
    (aC_NoTree : PySem.W.nsIn K mainGlobals "NoTree" = some (some (.ref C_NoTree))) (xC_NoTree : PySem.W.excIn K C_NoTree [.type "ValueError", .type "Exception", .type "BaseException", .type "object"] "ValueError.__new__" = true) (kC_NoTree : PySem.W.keepIn K (.ref C_NoTree) = true) (bC_NoTree : PySem.W.subIn K (.ref C_NoTree) (.type "BaseException") = some true) (tC_NoTree : PySem.W.typeIn K (.ref C_NoTree) = some (.type "type"))
    (aC_NoText : PySem.W.nsIn K mainGlobals "NoText" = some (some (.ref C_NoText))) (xC_NoText : PySem.W.excIn K C_NoText [.type "ValueError", .type "Exception", .type "BaseException", .type "object"] "ValueError.__new__" = true) (kC_NoText : PySem.W.keepIn K (.ref C_NoText) = true) (bC_NoText : PySem.W.subIn K (.ref C_NoText) (.type "BaseException") = some true) (tC_NoText : PySem.W.typeIn K (.ref C_NoText) = some (.type "type"))
    (aC_PressError : PySem.W.nsIn K mainGlobals "PressError" = some (some (.ref C_PressError)))
    (gA_NoText : PySem.W.findIn K (.ref C_NoText) "__getattribute__" = some (some (.builtin "BaseException.__getattribute__")))
    (gB_NoText : PySem.W.findIn K (.ref C_NoText) "__getattr__" = some none)
    (gD_NoText : PySem.W.hasDictIn K C_NoText = true)
    (gC_NoText : PySem.W.findIn K (.ref C_NoText) "__class__" = some (some (.builtin "object.__class__")))
    (gM_NoText : PySem.W.mroIn K C_NoText (.type "object") = some true)
    (gA_NoFraction : PySem.W.findIn K (.ref C_NoFraction) "__getattribute__" = some (some (.builtin "BaseException.__getattribute__")))
    (gB_NoFraction : PySem.W.findIn K (.ref C_NoFraction) "__getattr__" = some none)
    (gD_NoFraction : PySem.W.hasDictIn K C_NoFraction = true)
    (gC_NoFraction : PySem.W.findIn K (.ref C_NoFraction) "__class__" = some (some (.builtin "object.__class__")))
    (gM_NoFraction : PySem.W.mroIn K C_NoFraction (.type "object") = some true)
    (gA_NoPlace : PySem.W.findIn K (.ref C_NoPlace) "__getattribute__" = some (some (.builtin "BaseException.__getattribute__")))
    (gB_NoPlace : PySem.W.findIn K (.ref C_NoPlace) "__getattr__" = some none)
    (gD_NoPlace : PySem.W.hasDictIn K C_NoPlace = true)
    (gC_NoPlace : PySem.W.findIn K (.ref C_NoPlace) "__class__" = some (some (.builtin "object.__class__")))
    (gM_NoPlace : PySem.W.mroIn K C_NoPlace (.type "object") = some true)
    (gA_NoTree : PySem.W.findIn K (.ref C_NoTree) "__getattribute__" = some (some (.builtin "BaseException.__getattribute__")))
    (gB_NoTree : PySem.W.findIn K (.ref C_NoTree) "__getattr__" = some none)
    (gD_NoTree : PySem.W.hasDictIn K C_NoTree = true)
    (gC_NoTree : PySem.W.findIn K (.ref C_NoTree) "__class__" = some (some (.builtin "object.__class__")))
    (gM_NoTree : PySem.W.mroIn K C_NoTree (.type "object") = some true)
    (sp1 : PySem.W.specialIn K (.builtin "object.__class__") "__get__" = some (some (.builtin "getset_descriptor.__get__"))) (sp2 : PySem.W.takesIn K (.builtin "object.__class__") = some true)
    (tC_PressError : PySem.W.typeIn K (.ref C_PressError) = some (.type "type"))
    (bC_PressError : PySem.W.subIn K (.ref C_PressError) (.type "BaseException") = some true)
    (gD_PressError : PySem.W.hasDictIn K C_PressError = true)
    (sV_NoText : PySem.W.subIn K (.ref C_NoText) (.type "ValueError") = some true)
    (s_NoText_PressError : PySem.W.subIn K (.ref C_NoText) (.ref C_PressError) = some true)
    (s_NoText_NoFraction : PySem.W.subIn K (.ref C_NoText) (.ref C_NoFraction) = some false)
    (s_NoText_NoText : PySem.W.subIn K (.ref C_NoText) (.ref C_NoText) = some true)
    (s_NoText_NoPlace : PySem.W.subIn K (.ref C_NoText) (.ref C_NoPlace) = some false)
    (s_NoText_NoTree : PySem.W.subIn K (.ref C_NoText) (.ref C_NoTree) = some false)
    (sV_NoFraction : PySem.W.subIn K (.ref C_NoFraction) (.type "ValueError") = some true)
    (s_NoFraction_PressError : PySem.W.subIn K (.ref C_NoFraction) (.ref C_PressError) = some true)
    (s_NoFraction_NoFraction : PySem.W.subIn K (.ref C_NoFraction) (.ref C_NoFraction) = some true)
    (s_NoFraction_NoText : PySem.W.subIn K (.ref C_NoFraction) (.ref C_NoText) = some false)
    (s_NoFraction_NoPlace : PySem.W.subIn K (.ref C_NoFraction) (.ref C_NoPlace) = some false)
    (s_NoFraction_NoTree : PySem.W.subIn K (.ref C_NoFraction) (.ref C_NoTree) = some false)
    (sV_NoPlace : PySem.W.subIn K (.ref C_NoPlace) (.type "ValueError") = some true)
    (s_NoPlace_PressError : PySem.W.subIn K (.ref C_NoPlace) (.ref C_PressError) = some true)
    (s_NoPlace_NoFraction : PySem.W.subIn K (.ref C_NoPlace) (.ref C_NoFraction) = some false)
    (s_NoPlace_NoText : PySem.W.subIn K (.ref C_NoPlace) (.ref C_NoText) = some false)
    (s_NoPlace_NoPlace : PySem.W.subIn K (.ref C_NoPlace) (.ref C_NoPlace) = some true)
    (s_NoPlace_NoTree : PySem.W.subIn K (.ref C_NoPlace) (.ref C_NoTree) = some false)
    (sV_NoTree : PySem.W.subIn K (.ref C_NoTree) (.type "ValueError") = some true)
    (s_NoTree_PressError : PySem.W.subIn K (.ref C_NoTree) (.ref C_PressError) = some true)
    (s_NoTree_NoFraction : PySem.W.subIn K (.ref C_NoTree) (.ref C_NoFraction) = some false)
    (s_NoTree_NoText : PySem.W.subIn K (.ref C_NoTree) (.ref C_NoText) = some false)
    (s_NoTree_NoPlace : PySem.W.subIn K (.ref C_NoTree) (.ref C_NoPlace) = some false)
    (s_NoTree_NoTree : PySem.W.subIn K (.ref C_NoTree) (.ref C_NoTree) = some true)
    : ∃ fd : FuncData, (∀ (s : Shared) (v : Value), BindsTo s fd ⟨[v], []⟩ [("script", v)]) ∧ ∀ base : Heap, K.In base → base.Ns mainGlobals mg → FnOk P w K mg base (L2.CX P w) 15 fa fd ["script"] (spLaw K) := by
  have F_checked := fun_mk (st := s_checked) l1 c1 k1
  have D_checked : Df K mg "checked" s_checked ["frame", "text"] := ⟨f1, _, F_checked, PySem.W.mg_of X G a1, F_checked.binds (ps := ["frame", "text"]) (fun _ _ _ _ _ _ us hl => match us, hl with | [_, _], _ => rfl)⟩
  have F_signs_ahead := fun_mk (st := s_signs_ahead) l2 c2 k2
  have D_signs_ahead : Df K mg "signs_ahead" s_signs_ahead ["frame", "text", "at"] := ⟨f2, _, F_signs_ahead, PySem.W.mg_of X G a2, F_signs_ahead.binds (ps := ["frame", "text", "at"]) (fun _ _ _ _ _ _ us hl => match us, hl with | [_, _, _], _ => rfl)⟩
  have F_elders := fun_mk (st := s_elders) l3 c3 k3
  have D_elders : Df K mg "elders" s_elders ["frame", "text", "at"] := ⟨f3, _, F_elders, PySem.W.mg_of X G a3, F_elders.binds (ps := ["frame", "text", "at"]) (fun _ _ _ _ _ _ us hl => match us, hl with | [_, _, _], _ => rfl)⟩
  have F_greatest_divisor := fun_mk (st := s_greatest_divisor) l4 c4 k4
  have D_greatest_divisor : Df K mg "greatest_divisor" s_greatest_divisor ["one", "other"] := ⟨f4, _, F_greatest_divisor, PySem.W.mg_of X G a4, F_greatest_divisor.binds (ps := ["one", "other"]) (fun _ _ _ _ _ _ us hl => match us, hl with | [_, _], _ => rfl)⟩
  have F_fraction := fun_mk (st := s_fraction) l5 c5 k5
  have D_fraction : Df K mg "fraction" s_fraction ["top", "bottom"] := ⟨f5, _, F_fraction, PySem.W.mg_of X G a5, F_fraction.binds (ps := ["top", "bottom"]) (fun _ _ _ _ _ _ us hl => match us, hl with | [_, _], _ => rfl)⟩
  have F_times := fun_mk (st := s_times) l6 c6 k6
  have D_times : Df K mg "times" s_times ["one", "other"] := ⟨f6, _, F_times, PySem.W.mg_of X G a6, F_times.binds (ps := ["one", "other"]) (fun _ _ _ _ _ _ us hl => match us, hl with | [_, _], _ => rfl)⟩
  have F_odd_product := fun_mk (st := s_odd_product) l7 c7 k7
  have D_odd_product : Df K mg "odd_product" s_odd_product ["many"] := ⟨f7, _, F_odd_product, PySem.W.mg_of X G a7, F_odd_product.binds (ps := ["many"]) (fun _ _ _ _ _ _ us hl => match us, hl with | [_], _ => rfl)⟩
  have F_worth := fun_mk (st := s_worth) l8 c8 k8
  have D_worth : Df K mg "worth" s_worth ["counts"] := ⟨f8, _, F_worth, PySem.W.mg_of X G a8, F_worth.binds (ps := ["counts"]) (fun _ _ _ _ _ _ us hl => match us, hl with | [_], _ => rfl)⟩
  have F_is_bough := fun_mk (st := s_is_bough) l9 c9 k9
  have D_is_bough : Df K mg "is_bough" s_is_bough ["thing", "many", "left"] := ⟨f9, _, F_is_bough, PySem.W.mg_of X G a9, F_is_bough.binds (ps := ["thing", "many", "left"]) (fun _ _ _ _ _ _ us hl => match us, hl with | [_, _, _], _ => rfl)⟩
  have F_is_tree := fun_mk (st := s_is_tree) l10 c10 k10
  have D_is_tree : Df K mg "is_tree" s_is_tree ["frame", "thing"] := ⟨f10, _, F_is_tree, PySem.W.mg_of X G a10, F_is_tree.binds (ps := ["frame", "thing"]) (fun _ _ _ _ _ _ us hl => match us, hl with | [_, _], _ => rfl)⟩
  have F_need_tree := fun_mk (st := s_need_tree) l11 c11 k11
  have D_need_tree : Df K mg "need_tree" s_need_tree ["frame", "thing"] := ⟨f11, _, F_need_tree, PySem.W.mg_of X G a11, F_need_tree.binds (ps := ["frame", "thing"]) (fun _ _ _ _ _ _ us hl => match us, hl with | [_, _], _ => rfl)⟩
  have F_leaf_size := fun_mk (st := s_leaf_size) l12 c12 k12
  have D_leaf_size : Df K mg "leaf_size" s_leaf_size ["letters", "tree", "row"] := ⟨f12, _, F_leaf_size, PySem.W.mg_of X G a12, F_leaf_size.binds (ps := ["letters", "tree", "row"]) (fun _ _ _ _ _ _ us hl => match us, hl with | [_, _, _], _ => rfl)⟩
  have F_worth_by := fun_mk (st := s_worth_by) l13 c13 k13
  have D_worth_by : Df K mg "worth_by" s_worth_by ["frame", "tree", "text"] := ⟨f13, _, F_worth_by, PySem.W.mg_of X G a13, F_worth_by.binds (ps := ["frame", "tree", "text"]) (fun _ _ _ _ _ _ us hl => match us, hl with | [_, _, _], _ => rfl)⟩
  have F_law_cell_at := fun_mk (st := s_law_cell_at) l14 c14 k14
  have D_law_cell_at : Df K mg "_law_cell_at" s_law_cell_at ["script", "k"] := ⟨f14, _, F_law_cell_at, PySem.W.mg_of X G a14, F_law_cell_at.binds (ps := ["script", "k"]) (fun _ _ _ _ _ _ us hl => match us, hl with | [_, _], _ => rfl)⟩
  have F_law_signs := fun_mk (st := s_law_signs) l15 c15 k15
  have D_law_signs : Df K mg "_law_signs" s_law_signs ["cell", "many"] := ⟨f15, _, F_law_signs, PySem.W.mg_of X G a15, F_law_signs.binds (ps := ["cell", "many"]) (fun _ _ _ _ _ _ us hl => match us, hl with | [_, _], _ => rfl)⟩
  have F_law_frame := fun_mk (st := s_law_frame) l16 c16 k16
  have D_law_frame : Df K mg "_law_frame" s_law_frame ["cell"] := ⟨f16, _, F_law_frame, PySem.W.mg_of X G a16, F_law_frame.binds (ps := ["cell"]) (fun _ _ _ _ _ _ us hl => match us, hl with | [_], _ => rfl)⟩
  have F_law_cells := fun_mk (st := s_law_cells) l17 c17 k17
  have D_law_cells : Df K mg "_law_cells" s_law_cells ["script", "many"] := ⟨f17, _, F_law_cells, PySem.W.mg_of X G a17, F_law_cells.binds (ps := ["script", "many"]) (fun _ _ _ _ _ _ us hl => match us, hl with | [_, _], _ => rfl)⟩
  have F_law_thing := fun_mk (st := s_law_thing) l18 c18 k18
  have D_law_thing : Df K mg "_law_thing" s_law_thing ["thing", "kind", "many"] := ⟨f18, _, F_law_thing, PySem.W.mg_of X G a18, F_law_thing.binds (ps := ["thing", "kind", "many"]) (fun _ _ _ _ _ _ us hl => match us, hl with | [_, _, _], _ => rfl)⟩
  have F_law_tree := fun_mk (st := s_law_tree) l19 c19 k19
  have D_law_tree : Df K mg "_law_tree" s_law_tree ["cells", "many", "depth", "place", "kind"] := ⟨f19, _, F_law_tree, PySem.W.mg_of X G a19, F_law_tree.binds (ps := ["cells", "many", "depth", "place", "kind"]) (fun _ _ _ _ _ _ us hl => match us, hl with | [_, _, _, _, _], _ => rfl)⟩
  have F_law_is := fun_mk (st := s_law_is) l20 c20 k20
  have D_law_is : Df K mg "_law_is" s_law_is ["thing", "many", "depth"] := ⟨f20, _, F_law_is, PySem.W.mg_of X G a20, F_law_is.binds (ps := ["thing", "many", "depth"]) (fun _ _ _ _ _ _ us hl => match us, hl with | [_, _, _], _ => rfl)⟩
  have F_law_text := fun_mk (st := s_law_text) l21 c21 k21
  have D_law_text : Df K mg "_law_text" s_law_text ["cells", "letters", "lean"] := ⟨f21, _, F_law_text, PySem.W.mg_of X G a21, F_law_text.binds (ps := ["cells", "letters", "lean"]) (fun _ _ _ _ _ _ us hl => match us, hl with | [_, _, _], _ => rfl)⟩
  have F_law_elders := fun_mk (st := s_law_elders) l22 c22 k22
  have D_law_elders : Df K mg "_law_elders" s_law_elders ["frame", "text", "at"] := ⟨f22, _, F_law_elders, PySem.W.mg_of X G a22, F_law_elders.binds (ps := ["frame", "text", "at"]) (fun _ _ _ _ _ _ us hl => match us, hl with | [_, _, _], _ => rfl)⟩
  have F_law_whole := fun_mk (st := s_law_whole) l23 c23 k23
  have D_law_whole : Df K mg "_law_whole" s_law_whole ["found"] := ⟨f23, _, F_law_whole, PySem.W.mg_of X G a23, F_law_whole.binds (ps := ["found"]) (fun _ _ _ _ _ _ us hl => match us, hl with | [_], _ => rfl)⟩
  have F_law_divisor := fun_mk (st := s_law_divisor) l24 c24 k24
  have D_law_divisor : Df K mg "_law_divisor" s_law_divisor ["one", "other"] := ⟨f24, _, F_law_divisor, PySem.W.mg_of X G a24, F_law_divisor.binds (ps := ["one", "other"]) (fun _ _ _ _ _ _ us hl => match us, hl with | [_, _], _ => rfl)⟩
  have F_law_fraction := fun_mk (st := s_law_fraction) l25 c25 k25
  have D_law_fraction : Df K mg "_law_fraction" s_law_fraction ["found", "top", "bottom"] := ⟨f25, _, F_law_fraction, PySem.W.mg_of X G a25, F_law_fraction.binds (ps := ["found", "top", "bottom"]) (fun _ _ _ _ _ _ us hl => match us, hl with | [_, _, _], _ => rfl)⟩
  have F_law_spread := fun_mk (st := s_law_spread) l26 c26 k26
  have D_law_spread : Df K mg "_law_spread" s_law_spread ["cells", "size"] := ⟨f26, _, F_law_spread, PySem.W.mg_of X G a26, F_law_spread.binds (ps := ["cells", "size"]) (fun _ _ _ _ _ _ us hl => match us, hl with | [_, _], _ => rfl)⟩
  have F_law_strange := fun_mk (st := s_law_strange) l27 c27 k27
  have D_law_strange : Df K mg "_law_strange" s_law_strange ["letters", "cell"] := ⟨f27, _, F_law_strange, PySem.W.mg_of X G a27, F_law_strange.binds (ps := ["letters", "cell"]) (fun _ _ _ _ _ _ us hl => match us, hl with | [_, _], _ => rfl)⟩
  have F_law_bad := fun_mk (st := s_law_bad) l28 c28 k28
  have D_law_bad : Df K mg "_law_bad" s_law_bad ["letters", "text", "cell"] := ⟨f28, _, F_law_bad, PySem.W.mg_of X G a28, F_law_bad.binds (ps := ["letters", "text", "cell"]) (fun _ _ _ _ _ _ us hl => match us, hl with | [_, _, _], _ => rfl)⟩
  have F_law_leaf := fun_mk (st := s_law_leaf) l29 c29 k29
  have D_law_leaf : Df K mg "_law_leaf" s_law_leaf ["frame", "tree", "row"] := ⟨f29, _, F_law_leaf, PySem.W.mg_of X G a29, F_law_leaf.binds (ps := ["frame", "tree", "row"]) (fun _ _ _ _ _ _ us hl => match us, hl with | [_, _, _], _ => rfl)⟩
  have F_law_worth := fun_mk (st := s_law_worth) l30 c30 k30
  have D_law_worth : Df K mg "_law_worth" s_law_worth ["frame", "tree", "text"] := ⟨f30, _, F_law_worth, PySem.W.mg_of X G a30, F_law_worth.binds (ps := ["frame", "tree", "text"]) (fun _ _ _ _ _ _ us hl => match us, hl with | [_, _, _], _ => rfl)⟩
  have F_law_kinds := fun_mk (st := s_law_kinds) l31 c31 k31
  have D_law_kinds : Df K mg "_law_kinds" s_law_kinds ["frame", "tree", "text"] := ⟨f31, _, F_law_kinds, PySem.W.mg_of X G a31, F_law_kinds.binds (ps := ["frame", "tree", "text"]) (fun _ _ _ _ _ _ us hl => match us, hl with | [_, _, _], _ => rfl)⟩
  have F_law_asked := fun_mk (st := s_law_asked) l32 c32 k32
  have D_law_asked : Df K mg "_law_asked" s_law_asked ["frame", "thing", "text", "bad"] := ⟨f32, _, F_law_asked, PySem.W.mg_of X G a32, F_law_asked.binds (ps := ["frame", "thing", "text", "bad"]) (fun _ _ _ _ _ _ us hl => match us, hl with | [_, _, _, _], _ => rfl)⟩
  have F_law_told := fun_mk (st := s_law_told) l33 c33 k33
  have D_law_told : Df K mg "_law_told" s_law_told ["script", "letters"] := ⟨f33, _, F_law_told, PySem.W.mg_of X G a33, F_law_told.binds (ps := ["script", "letters"]) (fun _ _ _ _ _ _ us hl => match us, hl with | [_, _], _ => rfl)⟩
  have F_law := fun_mk (st := s_law) l34 c34 k34
  have T : Txt K mg := { b_ValueError := PySem.W.mg_none_of X G z_ValueError, b_abs := PySem.W.mg_none_of X G z_abs, b_bool := PySem.W.mg_none_of X G z_bool, b_int := PySem.W.mg_none_of X G z_int, b_isinstance := PySem.W.mg_none_of X G z_isinstance, b_len := PySem.W.mg_none_of X G z_len, b_list := PySem.W.mg_none_of X G z_list, b_max := PySem.W.mg_none_of X G z_max, b_range := PySem.W.mg_none_of X G z_range, b_sum := PySem.W.mg_none_of X G z_sum, b_tuple := PySem.W.mg_none_of X G z_tuple, e_NoPlace := ⟨C_NoPlace, PySem.W.mg_of X G aC_NoPlace, xC_NoPlace, kC_NoPlace, bC_NoPlace, tC_NoPlace⟩, e_NoFraction := ⟨C_NoFraction, PySem.W.mg_of X G aC_NoFraction, xC_NoFraction, kC_NoFraction, bC_NoFraction, tC_NoFraction⟩, e_NoTree := ⟨C_NoTree, PySem.W.mg_of X G aC_NoTree, xC_NoTree, kC_NoTree, bC_NoTree, tC_NoTree⟩, e_NoText := ⟨C_NoText, PySem.W.mg_of X G aC_NoText, xC_NoText, kC_NoText, bC_NoText, tC_NoText⟩, x_NoText := ⟨C_NoText, ⟨PySem.W.mg_of X G aC_NoText, xC_NoText, kC_NoText, bC_NoText, tC_NoText⟩, ⟨gA_NoText, gB_NoText, bC_NoText, gD_NoText, gC_NoText, sp1, sp2, gM_NoText⟩, PySem.W.exm_ref bC_NoText gD_NoText tC_NoText s_NoText_NoText, ⟨C_PressError, PySem.W.mg_of X G aC_PressError, PySem.W.exm_ref bC_PressError gD_PressError tC_PressError s_NoText_PressError⟩, kit_ve sV_NoText, (kits_cons ⟨C_PressError, PySem.W.mg_of X G aC_PressError, kit_own s_NoText_NoText gD_PressError tC_PressError s_NoText_PressError⟩ (kits_cons ⟨C_NoFraction, PySem.W.mg_of X G aC_NoFraction, kit_own s_NoText_NoText gD_NoFraction tC_NoFraction s_NoText_NoFraction⟩ (kits_cons ⟨C_NoText, PySem.W.mg_of X G aC_NoText, kit_own s_NoText_NoText gD_NoText tC_NoText s_NoText_NoText⟩ (kits_cons ⟨C_NoPlace, PySem.W.mg_of X G aC_NoPlace, kit_own s_NoText_NoText gD_NoPlace tC_NoPlace s_NoText_NoPlace⟩ (kits_cons ⟨C_NoTree, PySem.W.mg_of X G aC_NoTree, kit_own s_NoText_NoText gD_NoTree tC_NoTree s_NoText_NoTree⟩ kits_nil)))))⟩, x_NoFraction := ⟨C_NoFraction, ⟨PySem.W.mg_of X G aC_NoFraction, xC_NoFraction, kC_NoFraction, bC_NoFraction, tC_NoFraction⟩, ⟨gA_NoFraction, gB_NoFraction, bC_NoFraction, gD_NoFraction, gC_NoFraction, sp1, sp2, gM_NoFraction⟩, PySem.W.exm_ref bC_NoFraction gD_NoFraction tC_NoFraction s_NoFraction_NoFraction, ⟨C_PressError, PySem.W.mg_of X G aC_PressError, PySem.W.exm_ref bC_PressError gD_PressError tC_PressError s_NoFraction_PressError⟩, kit_ve sV_NoFraction, (kits_cons ⟨C_PressError, PySem.W.mg_of X G aC_PressError, kit_own s_NoFraction_NoFraction gD_PressError tC_PressError s_NoFraction_PressError⟩ (kits_cons ⟨C_NoFraction, PySem.W.mg_of X G aC_NoFraction, kit_own s_NoFraction_NoFraction gD_NoFraction tC_NoFraction s_NoFraction_NoFraction⟩ (kits_cons ⟨C_NoText, PySem.W.mg_of X G aC_NoText, kit_own s_NoFraction_NoFraction gD_NoText tC_NoText s_NoFraction_NoText⟩ (kits_cons ⟨C_NoPlace, PySem.W.mg_of X G aC_NoPlace, kit_own s_NoFraction_NoFraction gD_NoPlace tC_NoPlace s_NoFraction_NoPlace⟩ (kits_cons ⟨C_NoTree, PySem.W.mg_of X G aC_NoTree, kit_own s_NoFraction_NoFraction gD_NoTree tC_NoTree s_NoFraction_NoTree⟩ kits_nil)))))⟩, x_NoPlace := ⟨C_NoPlace, ⟨PySem.W.mg_of X G aC_NoPlace, xC_NoPlace, kC_NoPlace, bC_NoPlace, tC_NoPlace⟩, ⟨gA_NoPlace, gB_NoPlace, bC_NoPlace, gD_NoPlace, gC_NoPlace, sp1, sp2, gM_NoPlace⟩, PySem.W.exm_ref bC_NoPlace gD_NoPlace tC_NoPlace s_NoPlace_NoPlace, ⟨C_PressError, PySem.W.mg_of X G aC_PressError, PySem.W.exm_ref bC_PressError gD_PressError tC_PressError s_NoPlace_PressError⟩, kit_ve sV_NoPlace, (kits_cons ⟨C_PressError, PySem.W.mg_of X G aC_PressError, kit_own s_NoPlace_NoPlace gD_PressError tC_PressError s_NoPlace_PressError⟩ (kits_cons ⟨C_NoFraction, PySem.W.mg_of X G aC_NoFraction, kit_own s_NoPlace_NoPlace gD_NoFraction tC_NoFraction s_NoPlace_NoFraction⟩ (kits_cons ⟨C_NoText, PySem.W.mg_of X G aC_NoText, kit_own s_NoPlace_NoPlace gD_NoText tC_NoText s_NoPlace_NoText⟩ (kits_cons ⟨C_NoPlace, PySem.W.mg_of X G aC_NoPlace, kit_own s_NoPlace_NoPlace gD_NoPlace tC_NoPlace s_NoPlace_NoPlace⟩ (kits_cons ⟨C_NoTree, PySem.W.mg_of X G aC_NoTree, kit_own s_NoPlace_NoPlace gD_NoTree tC_NoTree s_NoPlace_NoTree⟩ kits_nil)))))⟩, x_NoTree := ⟨C_NoTree, ⟨PySem.W.mg_of X G aC_NoTree, xC_NoTree, kC_NoTree, bC_NoTree, tC_NoTree⟩, ⟨gA_NoTree, gB_NoTree, bC_NoTree, gD_NoTree, gC_NoTree, sp1, sp2, gM_NoTree⟩, PySem.W.exm_ref bC_NoTree gD_NoTree tC_NoTree s_NoTree_NoTree, ⟨C_PressError, PySem.W.mg_of X G aC_PressError, PySem.W.exm_ref bC_PressError gD_PressError tC_PressError s_NoTree_PressError⟩, kit_ve sV_NoTree, (kits_cons ⟨C_PressError, PySem.W.mg_of X G aC_PressError, kit_own s_NoTree_NoTree gD_PressError tC_PressError s_NoTree_PressError⟩ (kits_cons ⟨C_NoFraction, PySem.W.mg_of X G aC_NoFraction, kit_own s_NoTree_NoTree gD_NoFraction tC_NoFraction s_NoTree_NoFraction⟩ (kits_cons ⟨C_NoText, PySem.W.mg_of X G aC_NoText, kit_own s_NoTree_NoTree gD_NoText tC_NoText s_NoTree_NoText⟩ (kits_cons ⟨C_NoPlace, PySem.W.mg_of X G aC_NoPlace, kit_own s_NoTree_NoTree gD_NoPlace tC_NoPlace s_NoTree_NoPlace⟩ (kits_cons ⟨C_NoTree, PySem.W.mg_of X G aC_NoTree, kit_own s_NoTree_NoTree gD_NoTree tC_NoTree s_NoTree_NoTree⟩ kits_nil)))))⟩ }
  have e := hfa.symm.trans (PySem.W.mg_of X G a34)
  cases e
  refine ⟨PySem.W.fnOf "law" "law" (defArgs s_law) (defBody s_law) (defScope s_law) .none kV34 dc34 pm34 an34 cd34 ct34, fun s v => .of_eq rfl, fun base _ _ => ?_⟩
  have G_checked := ok_checked (P := P) (w := w) (base := base) T D_checked
  have G_signs_ahead := ok_signs_ahead (P := P) (w := w) (base := base) T D_signs_ahead
  have G_elders := ok_elders T G_checked G_signs_ahead D_elders
  have G_greatest_divisor := ok_greatest_divisor (P := P) (w := w) (base := base) T D_greatest_divisor
  have G_fraction := ok_fraction T G_greatest_divisor D_fraction
  have G_times := ok_times T G_fraction D_times
  have G_odd_product := ok_odd_product (P := P) (w := w) (base := base) T D_odd_product
  have G_worth := ok_worth T G_fraction G_odd_product D_worth
  have G_is_bough := ok_is_bough (P := P) (w := w) (base := base) T D_is_bough
  have G_is_tree := ok_is_tree T G_is_bough D_is_tree
  have G_need_tree := ok_need_tree T G_is_tree D_need_tree
  have G_leaf_size := ok_leaf_size (P := P) (w := w) (base := base) T D_leaf_size
  have G_worth_by := ok_worth_by T G_need_tree G_checked G_elders G_times G_worth G_leaf_size D_worth_by
  have G_law_cell_at := ok_law_cell_at (P := P) (w := w) (base := base) T D_law_cell_at
  have G_law_signs := ok_law_signs (P := P) (w := w) (base := base) T D_law_signs
  have G_law_frame := ok_law_frame T G_law_signs D_law_frame
  have G_law_cells := ok_law_cells T G_law_cell_at D_law_cells
  have G_law_thing := ok_law_thing (P := P) (w := w) (base := base) T D_law_thing
  have G_law_tree := ok_law_tree T G_law_thing D_law_tree
  have G_law_is := ok_law_is (P := P) (w := w) (base := base) T D_law_is
  have G_law_text := ok_law_text (P := P) (w := w) (base := base) T D_law_text
  have G_law_elders := ok_law_elders (P := P) (w := w) (base := base) T D_law_elders
  have G_law_whole := ok_law_whole (P := P) (w := w) (base := base) T D_law_whole
  have G_law_divisor := ok_law_divisor (P := P) (w := w) (base := base) T D_law_divisor
  have G_law_fraction := ok_law_fraction T G_law_divisor G_law_whole D_law_fraction
  have G_law_spread := ok_law_spread (P := P) (w := w) (base := base) T D_law_spread
  have G_law_strange := ok_law_strange (P := P) (w := w) (base := base) T D_law_strange
  have G_law_bad := ok_law_bad T G_law_strange D_law_bad
  have G_law_leaf := ok_law_leaf (P := P) (w := w) (base := base) T D_law_leaf
  have G_law_worth := ok_law_worth T G_law_leaf G_law_elders D_law_worth
  have G_law_kinds := ok_law_kinds T G_worth_by D_law_kinds
  have G_law_asked := ok_law_asked T G_law_worth G_law_fraction G_law_is G_worth_by G_law_kinds D_law_asked
  have G_law_told := ok_law_told T G_law_text G_law_cell_at G_law_spread D_law_told
  refine law_imp (FnOk_sub (fun ds o h => ?_) (ok_law T G_law_frame G_law_cells G_law_tree G_law_told G_law_cell_at G_law_bad G_law_asked F_law))
  obtain ⟨ns, rfl, h1, h2, rfl⟩ := h
  exact ⟨ns, rfl, by rw [law_holds ns h1 h2]; rfl⟩
end B
open PySem PySem.W PyProof.Rows
set_option maxRecDepth 100000 in
set_option maxHeartbeats 0 in
theorem PySem.Challenge.cw_boughpress_k34_worth_by_a_tree_holds : PySem.Challenge.rw_boughpress_k34_worth_by_a_tree.Holds := by
  w_on; o_law; k_head; (case hw => w_witness2)
  k_fill
  refine B.walk (l := PySem.Challenge.rw_boughpress_k34_worth_by_a_tree) (k := 15) rfl rfl ⟨rfl, by decide, by decide⟩ (fun w h Y => PySem.W.kIn_of Y) ?F
  case F =>
    intro w mg fa h KX G hmg
    refine' B.all_mk KX G hmg ?a1 ?l1 ?c1 ?k1 ?a2 ?l2 ?c2 ?k2 ?a3 ?l3 ?c3 ?k3 ?a4 ?l4 ?c4 ?k4 ?a5 ?l5 ?c5 ?k5 ?a6 ?l6 ?c6 ?k6 ?a7 ?l7 ?c7 ?k7 ?a8 ?l8 ?c8 ?k8 ?a9 ?l9 ?c9 ?k9 ?a10 ?l10 ?c10 ?k10 ?a11 ?l11 ?c11 ?k11 ?a12 ?l12 ?c12 ?k12 ?a13 ?l13 ?c13 ?k13 ?a14 ?l14 ?c14 ?k14 ?a15 ?l15 ?c15 ?k15 ?a16 ?l16 ?c16 ?k16 ?a17 ?l17 ?c17 ?k17 ?a18 ?l18 ?c18 ?k18 ?a19 ?l19 ?c19 ?k19 ?a20 ?l20 ?c20 ?k20 ?a21 ?l21 ?c21 ?k21 ?a22 ?l22 ?c22 ?k22 ?a23 ?l23 ?c23 ?k23 ?a24 ?l24 ?c24 ?k24 ?a25 ?l25 ?c25 ?k25 ?a26 ?l26 ?c26 ?k26 ?a27 ?l27 ?c27 ?k27 ?a28 ?l28 ?c28 ?k28 ?a29 ?l29 ?c29 ?k29 ?a30 ?l30 ?c30 ?k30 ?a31 ?l31 ?c31 ?k31 ?a32 ?l32 ?c32 ?k32 ?a33 ?l33 ?c33 ?k33 ?a34 ?l34 ?c34 ?k34 ?z_ValueError ?z_abs ?z_bool ?z_int ?z_isinstance ?z_len ?z_list ?z_max ?z_range ?z_sum ?z_tuple ?aC_NoPlace ?xC_NoPlace ?kC_NoPlace ?bC_NoPlace ?tC_NoPlace ?aC_NoFraction ?xC_NoFraction ?kC_NoFraction ?bC_NoFraction ?tC_NoFraction ?aC_NoTree ?xC_NoTree ?kC_NoTree ?bC_NoTree ?tC_NoTree ?aC_NoText ?xC_NoText ?kC_NoText ?bC_NoText ?tC_NoText ?aC_PressError ?gA_NoText ?gB_NoText ?gD_NoText ?gC_NoText ?gM_NoText ?gA_NoFraction ?gB_NoFraction ?gD_NoFraction ?gC_NoFraction ?gM_NoFraction ?gA_NoPlace ?gB_NoPlace ?gD_NoPlace ?gC_NoPlace ?gM_NoPlace ?gA_NoTree ?gB_NoTree ?gD_NoTree ?gC_NoTree ?gM_NoTree ?sp1 ?sp2 ?tC_PressError ?bC_PressError ?gD_PressError ?sV_NoText ?s_NoText_PressError ?s_NoText_NoFraction ?s_NoText_NoText ?s_NoText_NoPlace ?s_NoText_NoTree ?sV_NoFraction ?s_NoFraction_PressError ?s_NoFraction_NoFraction ?s_NoFraction_NoText ?s_NoFraction_NoPlace ?s_NoFraction_NoTree ?sV_NoPlace ?s_NoPlace_PressError ?s_NoPlace_NoFraction ?s_NoPlace_NoText ?s_NoPlace_NoPlace ?s_NoPlace_NoTree ?sV_NoTree ?s_NoTree_PressError ?s_NoTree_NoFraction ?s_NoTree_NoText ?s_NoTree_NoPlace ?s_NoTree_NoTree
    (case a1 => k_is)
    (case l1 => k_is)
    (case c1 => k_is)
    (case k1 => k_is)
    (case a2 => k_is)
    (case l2 => k_is)
    (case c2 => k_is)
    (case k2 => k_is)
    (case a3 => k_is)
    (case l3 => k_is)
    (case c3 => k_is)
    (case k3 => k_is)
    (case a4 => k_is)
    (case l4 => k_is)
    (case c4 => k_is)
    (case k4 => k_is)
    (case a5 => k_is)
    (case l5 => k_is)
    (case c5 => k_is)
    (case k5 => k_is)
    (case a6 => k_is)
    (case l6 => k_is)
    (case c6 => k_is)
    (case k6 => k_is)
    (case a7 => k_is)
    (case l7 => k_is)
    (case c7 => k_is)
    (case k7 => k_is)
    (case a8 => k_is)
    (case l8 => k_is)
    (case c8 => k_is)
    (case k8 => k_is)
    (case a9 => k_is)
    (case l9 => k_is)
    (case c9 => k_is)
    (case k9 => k_is)
    (case a10 => k_is)
    (case l10 => k_is)
    (case c10 => k_is)
    (case k10 => k_is)
    (case a11 => k_is)
    (case l11 => k_is)
    (case c11 => k_is)
    (case k11 => k_is)
    (case a12 => k_is)
    (case l12 => k_is)
    (case c12 => k_is)
    (case k12 => k_is)
    (case a13 => k_is)
    (case l13 => k_is)
    (case c13 => k_is)
    (case k13 => k_is)
    (case a14 => k_is)
    (case l14 => k_is)
    (case c14 => k_is)
    (case k14 => k_is)
    (case a15 => k_is)
    (case l15 => k_is)
    (case c15 => k_is)
    (case k15 => k_is)
    (case a16 => k_is)
    (case l16 => k_is)
    (case c16 => k_is)
    (case k16 => k_is)
    (case a17 => k_is)
    (case l17 => k_is)
    (case c17 => k_is)
    (case k17 => k_is)
    (case a18 => k_is)
    (case l18 => k_is)
    (case c18 => k_is)
    (case k18 => k_is)
    (case a19 => k_is)
    (case l19 => k_is)
    (case c19 => k_is)
    (case k19 => k_is)
    (case a20 => k_is)
    (case l20 => k_is)
    (case c20 => k_is)
    (case k20 => k_is)
    (case a21 => k_is)
    (case l21 => k_is)
    (case c21 => k_is)
    (case k21 => k_is)
    (case a22 => k_is)
    (case l22 => k_is)
    (case c22 => k_is)
    (case k22 => k_is)
    (case a23 => k_is)
    (case l23 => k_is)
    (case c23 => k_is)
    (case k23 => k_is)
    (case a24 => k_is)
    (case l24 => k_is)
    (case c24 => k_is)
    (case k24 => k_is)
    (case a25 => k_is)
    (case l25 => k_is)
    (case c25 => k_is)
    (case k25 => k_is)
    (case a26 => k_is)
    (case l26 => k_is)
    (case c26 => k_is)
    (case k26 => k_is)
    (case a27 => k_is)
    (case l27 => k_is)
    (case c27 => k_is)
    (case k27 => k_is)
    (case a28 => k_is)
    (case l28 => k_is)
    (case c28 => k_is)
    (case k28 => k_is)
    (case a29 => k_is)
    (case l29 => k_is)
    (case c29 => k_is)
    (case k29 => k_is)
    (case a30 => k_is)
    (case l30 => k_is)
    (case c30 => k_is)
    (case k30 => k_is)
    (case a31 => k_is)
    (case l31 => k_is)
    (case c31 => k_is)
    (case k31 => k_is)
    (case a32 => k_is)
    (case l32 => k_is)
    (case c32 => k_is)
    (case k32 => k_is)
    (case a33 => k_is)
    (case l33 => k_is)
    (case c33 => k_is)
    (case k33 => k_is)
    (case a34 => k_is)
    (case l34 => k_is)
    (case c34 => k_is)
    (case k34 => k_is)
    (case z_ValueError => k_is)
    (case z_abs => k_is)
    (case z_bool => k_is)
    (case z_int => k_is)
    (case z_isinstance => k_is)
    (case z_len => k_is)
    (case z_list => k_is)
    (case z_max => k_is)
    (case z_range => k_is)
    (case z_sum => k_is)
    (case z_tuple => k_is)
    (case aC_NoPlace => k_is)
    (case xC_NoPlace => k_exc)
    (case kC_NoPlace => k_is)
    (case bC_NoPlace => k_is)
    (case tC_NoPlace => k_is)
    (case aC_NoFraction => k_is)
    (case xC_NoFraction => k_exc)
    (case kC_NoFraction => k_is)
    (case bC_NoFraction => k_is)
    (case tC_NoFraction => k_is)
    (case aC_NoTree => k_is)
    (case xC_NoTree => k_exc)
    (case kC_NoTree => k_is)
    (case bC_NoTree => k_is)
    (case tC_NoTree => k_is)
    (case aC_NoText => k_is)
    (case xC_NoText => k_exc)
    (case kC_NoText => k_is)
    (case bC_NoText => k_is)
    (case tC_NoText => k_is)
    (case aC_PressError => k_is)
    (case gA_NoText => k_is)
    (case gB_NoText => k_is)
    (case gD_NoText => k_is)
    (case gC_NoText => k_is)
    (case gM_NoText => k_is)
    (case gA_NoFraction => k_is)
    (case gB_NoFraction => k_is)
    (case gD_NoFraction => k_is)
    (case gC_NoFraction => k_is)
    (case gM_NoFraction => k_is)
    (case gA_NoPlace => k_is)
    (case gB_NoPlace => k_is)
    (case gD_NoPlace => k_is)
    (case gC_NoPlace => k_is)
    (case gM_NoPlace => k_is)
    (case gA_NoTree => k_is)
    (case gB_NoTree => k_is)
    (case gD_NoTree => k_is)
    (case gC_NoTree => k_is)
    (case gM_NoTree => k_is)
    (case sp1 => k_is)
    (case sp2 => k_is)
    (case tC_PressError => k_is)
    (case bC_PressError => k_is)
    (case gD_PressError => k_is)
    (case sV_NoText => k_is)
    (case s_NoText_PressError => k_is)
    (case s_NoText_NoFraction => k_is)
    (case s_NoText_NoText => first | rfl | k_is)
    (case s_NoText_NoPlace => k_is)
    (case s_NoText_NoTree => k_is)
    (case sV_NoFraction => k_is)
    (case s_NoFraction_PressError => k_is)
    (case s_NoFraction_NoFraction => first | rfl | k_is)
    (case s_NoFraction_NoText => k_is)
    (case s_NoFraction_NoPlace => k_is)
    (case s_NoFraction_NoTree => k_is)
    (case sV_NoPlace => k_is)
    (case s_NoPlace_PressError => k_is)
    (case s_NoPlace_NoFraction => k_is)
    (case s_NoPlace_NoText => k_is)
    (case s_NoPlace_NoPlace => first | rfl | k_is)
    (case s_NoPlace_NoTree => k_is)
    (case sV_NoTree => k_is)
    (case s_NoTree_PressError => k_is)
    (case s_NoTree_NoFraction => k_is)
    (case s_NoTree_NoText => k_is)
    (case s_NoTree_NoPlace => k_is)
    (case s_NoTree_NoTree => first | rfl | k_is)
#print axioms PySem.Challenge.cw_boughpress_k34_worth_by_a_tree_holds


