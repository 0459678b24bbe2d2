import PyProof.Rows.All
import Wide.All
import OpenK.AllK
import Wide.FinOn
import HandS.ForMost
import HandS.Exc
import HandS.TryOnly
import HandS.ExcOwn
import HandS.WordsExc
import HandS.ExcIs
import HandS.IsInst
import HandS.Wide
import HandS.EndBits
import HandS.Codes
import HandS.StrMore
import HandS.TupAny
import HandS.Rev
import HandS.Text
import HandS.WideBits
import HandS.Dict
import HandS.Small
import HandS.Style
import HandS.RevTup
import HandS.Conv
import HandS.More
import PyProof.ListStr
import HandS.Defaults
import PyProof.DictUpdate
import PyProof.Rows.SumAny
import PyProof.Draws
import PyProof.EnumMake
import HandS.CallSlots
import PyProof.Rows.StrPadFill
import PyProof.Rows.StrPadWhole
import PyProof.Laws
import HandS.SortInts
import HandS.ExcCtx
import HandS.SuiteRaise
import HandS.Zip
import KE.GoesMore
import KE.GoesEnum
import HandS.Strs
import PyProof.StrWalks
import HandS.SetKeys
import KE.DataMinMax
import PySem.Challenge.RW_boughpress_k23_whole_worths_come_to_one
set_option Elab.async false
set_option linter.all false
set_option maxRecDepth 100000
set_option maxHeartbeats 4000000
namespace B
open PySem PySem.Spec PyProof.Rows L2

/-! ### data without the heap -/
inductive Dat where
  | non
  | bl (b : Bool)
  | int (i : Int)
  | str (s : Str)
  | tup (ds : List Dat)
  | lst (ds : List Dat)
  | dic (kvs : List (Key × Dat))
  /-- an instance of the class of that name, its attributes -/
  | ins (n : Str) (fs : List Str) (ds : List Dat)
  /-- a tuple of ints and texts that H tracks by itself: a key -/
  | tix (ks : List Key)
  /-- a dict with such keys -/
  | dit (ks : List (List Key)) (ds : List Dat)

mutual
/-- nothing in it may be changed -/
def flat : Dat → Bool
  | .non => true
  | .bl _ => true
  | .int _ => true
  | .str _ => true
  | .tup ds => flats ds
  | .lst _ => false
  | .dic _ => false
  | .ins _ _ _ => false
  | .tix _ => false
  | .dit _ _ => false
def flats : List Dat → Bool
  | [] => true
  | d :: r => flat d && flats r
end

def kits : List String := ["int", "bool", "str", "tuple", "list", "dict"]
/-- what of the text a class must have, by its name -/
structure KCls (K : PySem.W.Frag) (n : Str) (C : Addr) : Prop where
  at_ : PySem.W.nsIn K mainGlobals n = some (some (.ref C))
  cl : Cls K C
  ha : PySem.W.findIn K (.ref C) "__class__" = some (some (.builtin "object.__class__"))
  hn : PySem.W.specialIn K (.builtin "object.__class__") "__get__" = some (some (.builtin "getset_descriptor.__get__"))
  htk : PySem.W.takesIn K (.builtin "object.__class__") = some true
  hm : PySem.W.mroIn K C (.type "object") = some true
  ki : ∀ T, kits.contains T = true → PySem.W.kitOne K (.ref C) (.type T) = some false
mutual
inductive At (K : PySem.W.Frag) (H : Hp) : V → Dat → Prop where
  | non : At K H .non .non
  | bl (b : Bool) : At K H (.bl b) (.bl b)
  | int (i : Int) : At K H (.int i) (.int i)
  | str (s : Str) : At K H (.str s) (.str s)
  | tup {p : Addr} {vs : List V} {ds : List Dat} : SqT K H p vs → Ats K H vs ds → At K H (.ref p) (.tup ds)
  | lst {p : Addr} {vs : List V} {ds : List Dat} : SqL K H p vs → Ats K H vs ds → At K H (.ref p) (.lst ds)
  | dic {p : Addr} {vs : List (Key × V)} {ds : List (Key × Dat)} : Rd H p (.dK vs) → Atk K H vs ds → At K H (.ref p) (.dic ds)
  | ins {p C dx : Addr} {n : Str} {fs : List Str} {vs : List V} {ds : List Dat} : H p = some (.ins C dx (fs.zip vs)) → KCls K n C → (∀ f ∈ fs, NoAttr K C f) → fs.length = ds.length → Ats K H vs ds → At K H (.ref p) (.ins n fs ds)
  | tix {p : Addr} {ks : List Key} : H p = some (.tup (ks.map kV)) → At K H (.ref p) (.tix ks)
  | dit {p : Addr} {ks : List (List Key)} {vs : List V} {ds : List Dat} : Rd H p (.dT (ks.zip vs)) → ks.length = ds.length → Ats K H vs ds → At K H (.ref p) (.dit ks ds)
inductive Ats (K : PySem.W.Frag) (H : Hp) : List V → List Dat → Prop where
  | nil : Ats K H [] []
  | cons {v : V} {d : Dat} {vs : List V} {ds : List Dat} : At K H v d → Ats K H vs ds → Ats K H (v :: vs) (d :: ds)
inductive Atk (K : PySem.W.Frag) (H : Hp) : List (Key × V) → List (Key × Dat) → Prop where
  | nil : Atk K H [] []
  | cons {k : Key} {v : V} {d : Dat} {vs : List (Key × V)} {ds : List (Key × Dat)} : At K H v d → Atk K H vs ds → Atk K H ((k, v) :: vs) ((k, d) :: ds)
end

theorem sql_same {K : PySem.W.Frag} {H H' : Hp} {a : Addr} {xs : List V} (e : Same H H') (h : SqL K H a xs) : SqL K H' a xs := e.seq h
theorem sqt_same {K : PySem.W.Frag} {H H' : Hp} {a : Addr} {xs : List V} (e : Same H H') (h : SqT K H a xs) : SqT K H' a xs := by
  rcases h with (h | ⟨o, h⟩) | h
  · exact .inl (.inl (e _ _ h))
  · exact .inl (.inr ⟨o, e _ _ h⟩)
  · exact .inr h

theorem rd_same {H H' : Hp} {a : Addr} {u : HO} (e : Same H H') (h : Rd H a u) : Rd H' a u := by
  rcases h with h | ⟨o, h⟩
  · exact .inl (e _ _ h)
  · exact .inr ⟨o, e _ _ h⟩
mutual
theorem At.mono {K : PySem.W.Frag} {H H' : Hp} (e : Same H H') : ∀ {v : V} {d : Dat}, At K H v d → At K H' v d
  | _, _, .non => .non
  | _, _, .bl b => .bl b
  | _, _, .int i => .int i
  | _, _, .str s => .str s
  | _, _, .tup h t => .tup (sqt_same e h) (Ats.mono e t)
  | _, _, .lst h t => .lst (sql_same e h) (Ats.mono e t)
  | _, _, .dic h t => .dic (rd_same e h) (Atk.mono e t)
  | _, _, .ins h c a l t => .ins (e _ _ h) c a l (Ats.mono e t)
  | _, _, .tix h => .tix (e _ _ h)
  | _, _, .dit h l t => .dit (rd_same e h) l (Ats.mono e t)
theorem Ats.mono {K : PySem.W.Frag} {H H' : Hp} (e : Same H H') : ∀ {vs : List V} {ds : List Dat}, Ats K H vs ds → Ats K H' vs ds
  | _, _, .nil => .nil
  | _, _, .cons a t => .cons (At.mono e a) (Ats.mono e t)
theorem Atk.mono {K : PySem.W.Frag} {H H' : Hp} (e : Same H H') : ∀ {vs : List (Key × V)} {ds : List (Key × Dat)}, Atk K H vs ds → Atk K H' vs ds
  | _, _, .nil => .nil
  | _, _, .cons a t => .cons (At.mono e a) (Atk.mono e t)
end

open Classical in
/-- what of a heap no one can change -/
noncomputable def Imm (H : Hp) : Hp := fun a => if Mut (H a) then none else H a
theorem imm_sub (H : Hp) : Same (Imm H) H := fun a o h => by
  unfold Imm at h
  split at h
  · cases h
  · exact h
theorem imm_of {H : Hp} {a : Addr} {o : HO} (h : H a = some o) (n : ¬ Mut (some o)) : Imm H a = some o := by
  unfold Imm
  rw [if_neg (by rw [h]; exact n)]
  exact h
theorem imm_not {H : Hp} {a : Addr} {o : HO} (h : Imm H a = some o) : ¬ Mut (some o) := by
  intro m
  have e := imm_sub H a o h
  unfold Imm at h
  rw [if_pos (by rw [e]; exact m)] at h
  cases h
theorem imm_same {H H' : Hp} (e : Same H H') : Same (Imm H) (Imm H') := fun a o h => imm_of (e a o (imm_sub H a o h)) (imm_not h)
theorem sqt_imm {K : PySem.W.Frag} {H : Hp} {a : Addr} {xs : List V} (h : SqT K H a xs) : SqT K (Imm H) a xs := by
  rcases h with (h | ⟨o, h⟩) | h
  · exact .inl (.inl (imm_of h fun z => z))
  · exact .inl (.inr ⟨o, imm_of h fun z => z⟩)
  · exact .inr h
mutual
theorem At.imm {K : PySem.W.Frag} {H : Hp} : ∀ {v : V} {d : Dat}, At K H v d → flat d = true → At K (Imm H) v d
  | _, _, .non, _ => .non
  | _, _, .bl b, _ => .bl b
  | _, _, .int i, _ => .int i
  | _, _, .str s, _ => .str s
  | _, _, .tup h t, f => .tup (sqt_imm h) (Ats.imm t (by simpa only [flat] using f))
  | _, _, .lst _ _, f => by simp [flat] at f
  | _, _, .dic _ _, f => by simp [flat] at f
  | _, _, .ins _ _ _ _ _, f => by simp [flat] at f
  | _, _, .tix _, f => by simp [flat] at f
  | _, _, .dit _ _ _, f => by simp [flat] at f
theorem Ats.imm {K : PySem.W.Frag} {H : Hp} : ∀ {vs : List V} {ds : List Dat}, Ats K H vs ds → flats ds = true → Ats K (Imm H) vs ds
  | _, _, .nil, _ => .nil
  | _, _, .cons a t, f => by
    simp only [flats, Bool.and_eq_true] at f
    exact .cons (At.imm a f.1) (Ats.imm t f.2)
end
theorem Ats.length {K : PySem.W.Frag} {H : Hp} : ∀ {vs : List V} {ds : List Dat}, Ats K H vs ds → vs.length = ds.length
  | _, _, .nil => rfl
  | _, _, .cons _ t => by rw [List.length_cons, List.length_cons, Ats.length t]
theorem Ats.get {K : PySem.W.Frag} {H : Hp} : ∀ {vs : List V} {ds : List Dat} {i : Nat} {d : Dat}, Ats K H vs ds → ds[i]? = some d → ∃ v, vs[i]? = some v ∧ At K H v d
  | _, _, i, _, .nil, e => by simp at e
  | _, _, 0, _, .cons a _, e => by
    simp at e
    subst e
    exact ⟨_, rfl, a⟩
  | _, _, i + 1, d, .cons _ t, e => by
    obtain ⟨v, h1, h2⟩ := Ats.get (i := i) (d := d) t (by simpa using e)
    exact ⟨v, by simpa using h1, h2⟩
theorem Ats.getV {K : PySem.W.Frag} {H : Hp} : ∀ {vs : List V} {ds : List Dat} {i : Nat} {v : V}, Ats K H vs ds → vs[i]? = some v → ∃ d, ds[i]? = some d ∧ At K H v d
  | _, _, i, _, .nil, e => by simp at e
  | _, _, 0, _, .cons a _, e => by
    simp at e
    subst e
    exact ⟨_, rfl, a⟩
  | _, _, i + 1, d, .cons _ t, e => by
    obtain ⟨v, h1, h2⟩ := Ats.getV (i := i) (v := d) t (by simpa using e)
    exact ⟨v, by simpa using h1, h2⟩
theorem Ats.append {K : PySem.W.Frag} {H : Hp} : ∀ {vs us : List V} {ds es : List Dat}, Ats K H vs ds → Ats K H us es → Ats K H (vs ++ us) (ds ++ es)
  | _, _, _, _, .nil, s => s
  | _, _, _, _, .cons a t, s => .cons a (Ats.append t s)
theorem Ats.set {K : PySem.W.Frag} {H : Hp} {v : V} {d : Dat} (a : At K H v d) : ∀ {vs : List V} {ds : List Dat} (i : Nat), Ats K H vs ds → Ats K H (vs.set i v) (ds.set i d)
  | _, _, _, .nil => .nil
  | _, _, 0, .cons _ t => .cons a t
  | _, _, i + 1, .cons b t => .cons b (Ats.set a i t)
theorem Ats.take {K : PySem.W.Frag} {H : Hp} : ∀ {vs : List V} {ds : List Dat} (n : Nat), Ats K H vs ds → Ats K H (vs.take n) (ds.take n)
  | _, _, 0, _ => .nil
  | _, _, _ + 1, .nil => .nil
  | _, _, n + 1, .cons a t => .cons a (Ats.take n t)
theorem Ats.drop {K : PySem.W.Frag} {H : Hp} : ∀ {vs : List V} {ds : List Dat} (n : Nat), Ats K H vs ds → Ats K H (vs.drop n) (ds.drop n)
  | _, _, 0, r => r
  | _, _, _ + 1, .nil => .nil
  | _, _, n + 1, .cons _ t => Ats.drop n t
theorem Ats.ints {K : PySem.W.Frag} {H : Hp} : ∀ {vs : List V} {ns : List Int}, Ats K H vs (ns.map .int) → vs = ns.map .int
  | [], [], _ => rfl
  | _ :: _, n :: ns, .cons a t => by
    cases a
    rw [Ats.ints t]
    rfl
  | [], _ :: _, h => by cases h
  | _ :: _, [], h => by cases h
theorem Ats.ofInts {K : PySem.W.Frag} {H : Hp} : ∀ (ns : List Int), Ats K H (ns.map .int) (ns.map .int)
  | [] => .nil
  | n :: ns => .cons (.int n) (Ats.ofInts ns)

/-! ### what a def's names hold -/
inductive Ent where
  /-- no value, or one that is not asked for -/
  | no
  /-- data that nobody changes -/
  | im (d : Dat)
  /-- handed in: stands as it was at the entry -/
  | ol (d : Dat)
  /-- a list or dict of the def's own, that it may change -/
  | ow (d : Dat)
  /-- the thing at that address -/
  | rf (a : Addr)
abbrev Env' := List Ent

def Own (K : PySem.W.Frag) (H N : Hp) (p : Addr) : Dat → Prop
  | .lst ds => ∃ vs, H p = some (.lst vs) ∧ Ats K N vs ds
  | .dic ds => ∃ vs, H p = some (.dK vs) ∧ Atk K N vs ds
  | .dit ks ds => ∃ vs, H p = some (.dT (ks.zip vs)) ∧ ks.length = ds.length ∧ Ats K N vs ds
  | _ => False

structure Rep (K : PySem.W.Frag) (H0 : Hp) (ρ : Env') (σ : L2.St) (H N : Hp) : Prop where
  old : Same H0 H
  sub : Same N H
  imm : Same (Imm H0) N
  fresh : ∀ a o, N a = some o → Mut (some o) → H0 a = none
  len : ρ.length = σ.length
  im : ∀ (i : Nat) d, ρ[i]? = some (Ent.im d) → ∃ v, σ[i]? = some (some v) ∧ At K N v d
  ol : ∀ (i : Nat) d, ρ[i]? = some (Ent.ol d) → ∃ v, σ[i]? = some (some v) ∧ At K H0 v d
  ow : ∀ (i : Nat) d, ρ[i]? = some (Ent.ow d) → ∃ p, σ[i]? = some (some (V.ref p)) ∧ H0 p = none ∧ N p = none ∧ Own K H N p d
  rf : ∀ (i : Nat) a, ρ[i]? = some (Ent.rf a) → σ[i]? = some (some (V.ref a))
  apart : ∀ (i j : Nat) d d' p, i ≠ j → ρ[i]? = some (Ent.ow d) → ρ[j]? = some (Ent.ow d') → σ[i]? = some (some (V.ref p)) → σ[j]? ≠ some (some (V.ref p))

/-- what is handed out: nothing of it was there ahead and may be changed -/
def Ret (K : PySem.W.Frag) (H0 : Hp) (v : V) (d : Dat) (H : Hp) : Prop := ∃ N, Same N H ∧ (∀ a o, N a = some o → Mut (some o) → H0 a = none) ∧ At K N v d

/-! ### the machine's own wishes, as readings -/
section
variable (X : Cx)
@[irreducible] def WE (e : Expr) : TE := fun σ H Q => ∀ (pins : List (Addr × Obj)) (s : Shared), Inv X pins σ H s → wpAny (model X.prog X.w) X.A (eval e X.env) (EP X pins σ Q) X.xe s
@[irreducible] def WT (e : Expr) : TT := fun σ H Q => ∀ (pins : List (Addr × Obj)) (s : Shared), Inv X pins σ H s → wpAny (model X.prog X.w) X.A (isTrue e X.env (eval e X.env)) (TP X pins σ Q) X.xe s
@[irreducible] def WW (e : Expr) : TT := fun σ H Q => ∀ (whole : Sem Value) (pins : List (Addr × Obj)) (s : Shared), Inv X pins σ H s → wpAny (model X.prog X.w) X.A (isTrue e X.env whole) (TP X pins σ Q) X.xe s
@[irreducible] def WA (es : List Expr) : TA := fun σ H Q => ∀ (pos : Pos) (pins : List (Addr × Obj)) (s : Shared), Inv X pins σ H s → wpAny (model X.prog X.w) X.A (spliced (backTo pos (starEach es X.env))) (AP X pins σ Q) X.xe s
@[irreducible] def WS (st : Stmt) : TS := fun D σ H => ∀ (pins : List (Addr × Obj)) (s : Shared), Inv X pins σ H s → wpAny (model X.prog X.w) X.A (exec st X.env) (SP X pins D) X.xe s
@[irreducible] def WB (sts : List Stmt) : TS := fun D σ H => ∀ (pins : List (Addr × Obj)) (s : Shared), Inv X pins σ H s → wpAny (model X.prog X.w) X.A (execs sts X.env) (SP X pins D) X.xe s
end
section
variable {X : Cx} {e : Expr} {es : List Expr} {st : Stmt} {sts : List Stmt}
theorem pe_w : PE X e (WE X e) := ⟨fun pins s _ _ _ I h => by unfold WE at h; exact h pins s I⟩
theorem pt_w : PT X e (WT X e) := ⟨fun pins s _ _ _ I h => by unfold WT at h; exact h pins s I⟩
theorem pw_w : PW X e (WW X e) := ⟨fun wh pins s _ _ _ I h => by unfold WW at h; exact h wh pins s I⟩
theorem pa_w : PA X es (WA X es) := ⟨fun pos pins s _ _ _ I h => by unfold WA at h; exact h pos pins s I⟩
theorem ps_w : PS X st (WS X st) := ⟨fun pins s _ _ _ I h => by unfold WS at h; exact h pins s I⟩
theorem pb_w : PSs X sts (WB X sts) := ⟨fun pins s _ _ _ I h => by unfold WB at h; exact h pins s I⟩
theorem WE.go {σ : L2.St} {H : Hp} {Q : VK} (h : WE X e σ H Q) : ∀ (pins : List (Addr × Obj)) (s : Shared), Inv X pins σ H s → wpAny (model X.prog X.w) X.A (eval e X.env) (EP X pins σ Q) X.xe s := by unfold WE at h; exact h
theorem WT.go {σ : L2.St} {H : Hp} {Q : Bool → Hp → Prop} (h : WT X e σ H Q) : ∀ (pins : List (Addr × Obj)) (s : Shared), Inv X pins σ H s → wpAny (model X.prog X.w) X.A (isTrue e X.env (eval e X.env)) (TP X pins σ Q) X.xe s := by unfold WT at h; exact h
theorem WS.go {D : Ends} {σ : L2.St} {H : Hp} (h : WS X st D σ H) : ∀ (pins : List (Addr × Obj)) (s : Shared), Inv X pins σ H s → wpAny (model X.prog X.w) X.A (exec st X.env) (SP X pins D) X.xe s := by unfold WS at h; exact h
theorem WB.go {D : Ends} {σ : L2.St} {H : Hp} (h : WB X sts D σ H) : ∀ (pins : List (Addr × Obj)) (s : Shared), Inv X pins σ H s → wpAny (model X.prog X.w) X.A (execs sts X.env) (SP X pins D) X.xe s := by unfold WB at h; exact h
theorem we_of {t : TE} {σ : L2.St} {H : Hp} {Q : VK} (p : PE X e t) (h : t σ H Q) : WE X e σ H Q := by unfold WE; exact fun pins s I => p.run pins s σ H Q I h
theorem wt_of {t : TT} {σ : L2.St} {H : Hp} {Q : Bool → Hp → Prop} (p : PT X e t) (h : t σ H Q) : WT X e σ H Q := by unfold WT; exact fun pins s I => p.run pins s σ H Q I h
theorem ww_of {t : TT} {σ : L2.St} {H : Hp} {Q : Bool → Hp → Prop} (p : PW X e t) (h : t σ H Q) : WW X e σ H Q := by unfold WW; exact fun wh pins s I => p.run wh pins s σ H Q I h
theorem wa_of {t : TA} {σ : L2.St} {H : Hp} {Q : List V → Hp → Prop} (p : PA X es t) (h : t σ H Q) : WA X es σ H Q := by unfold WA; exact fun pos pins s I => p.run pos pins s σ H Q I h
theorem ws_of {t : TS} {D : Ends} {σ : L2.St} {H : Hp} (p : PS X st t) (h : t D σ H) : WS X st D σ H := by unfold WS; exact fun pins s I => p.run pins s σ H D I h
theorem wb_of {t : TS} {D : Ends} {σ : L2.St} {H : Hp} (p : PSs X sts t) (h : t D σ H) : WB X sts D σ H := by unfold WB; exact fun pins s I => p.run pins s σ H D I h
theorem WE.imp {σ : L2.St} {H : Hp} {Q Q' : VK} (h : WE X e σ H Q) (k : ∀ v H', Q v H' → Q' v H') : WE X e σ H Q' := by unfold WE at h ⊢; exact fun pins s I => thn (h pins s I) fun _ _ ⟨v, H', I', r, q⟩ => ⟨v, H', I', r, k v H' q⟩
theorem WT.imp {σ : L2.St} {H : Hp} {Q Q' : Bool → Hp → Prop} (h : WT X e σ H Q) (k : ∀ v H', Q v H' → Q' v H') : WT X e σ H Q' := by unfold WT at h ⊢; exact fun pins s I => thn (h pins s I) fun _ _ ⟨H', I', q⟩ => ⟨H', I', k _ H' q⟩
theorem WW.imp {σ : L2.St} {H : Hp} {Q Q' : Bool → Hp → Prop} (h : WW X e σ H Q) (k : ∀ v H', Q v H' → Q' v H') : WW X e σ H Q' := by unfold WW at h ⊢; exact fun wh pins s I => thn (h wh pins s I) fun _ _ ⟨H', I', q⟩ => ⟨H', I', k _ H' q⟩
theorem WW.wt {σ : L2.St} {H : Hp} {Q : Bool → Hp → Prop} (h : WW X e σ H Q) : WT X e σ H Q := by unfold WW at h; unfold WT; exact fun pins s I => h _ pins s I
theorem WA.imp {σ : L2.St} {H : Hp} {Q Q' : List V → Hp → Prop} (h : WA X es σ H Q) (k : ∀ v H', Q v H' → Q' v H') : WA X es σ H Q' := by unfold WA at h ⊢; exact fun pos pins s I => thn (h pos pins s I) fun _ _ ⟨v, H', I', r, q⟩ => ⟨v, H', I', r, k v H' q⟩
theorem sp_imp {pins : List (Addr × Obj)} {D D' : Ends} {f : Flow} {s : Shared} (h : SP X pins D f s) (h1 : ∀ σ H, D.nx σ H → D'.nx σ H) (h2 : ∀ v H, D.rt v H → D'.rt v H) (h3 : ∀ σ H, D.bk σ H → D'.bk σ H) (h4 : ∀ σ H, D.ct σ H → D'.ct σ H) : SP X pins D' f s := by
  cases f with
  | next => obtain ⟨σ', H', I, q⟩ := h; exact ⟨σ', H', I, h1 _ _ q⟩
  | brk => obtain ⟨σ', H', I, q⟩ := h; exact ⟨σ', H', I, h3 _ _ q⟩
  | cont => obtain ⟨σ', H', I, q⟩ := h; exact ⟨σ', H', I, h4 _ _ q⟩
  | ret u => obtain ⟨v, σ', H', I, r, q⟩ := h; exact ⟨v, σ', H', I, r, h2 _ _ q⟩
end

/-! ### what an expression is worth -/
section
variable (X : Cx) (H0 : Hp) (ρ : Env')
/-- data that nobody changes -/
def Ev (e : Expr) (d : Dat) : Prop := ∀ σ H N, Rep X.K H0 ρ σ H N → WE X e σ H fun v H' => ∃ N', Same H H' ∧ Same N N' ∧ Rep X.K H0 ρ σ H' N' ∧ At X.K N' v d
/-- data to be read -/
def EvB (e : Expr) (d : Dat) : Prop := ∀ σ H N, Rep X.K H0 ρ σ H N → WE X e σ H fun v H' => ∃ N', Same H H' ∧ Same N N' ∧ Rep X.K H0 ρ σ H' N' ∧ At X.K H' v d
def EvT (e : Expr) (b : Bool) : Prop := ∀ σ H N, Rep X.K H0 ρ σ H N → WT X e σ H fun c H' => c = b ∧ ∃ N', Same H H' ∧ Same N N' ∧ Rep X.K H0 ρ σ H' N'
def EvW (e : Expr) (b : Bool) : Prop := ∀ σ H N, Rep X.K H0 ρ σ H N → WW X e σ H fun c H' => c = b ∧ ∃ N', Same H H' ∧ Same N N' ∧ Rep X.K H0 ρ σ H' N'
def EvA (es : List Expr) (ds : List Dat) : Prop := ∀ σ H N, Rep X.K H0 ρ σ H N → WA X es σ H fun vs H' => ∃ N', Same H H' ∧ Same N N' ∧ Rep X.K H0 ρ σ H' N' ∧ Ats X.K N' vs ds
def EvAB (es : List Expr) (ds : List Dat) : Prop := ∀ σ H N, Rep X.K H0 ρ σ H N → WA X es σ H fun vs H' => ∃ N', Same H H' ∧ Same N N' ∧ Rep X.K H0 ρ σ H' N' ∧ Ats X.K H' vs ds
/-- it raises the class of that name -/
def EvX (e : Expr) (n : Str) : Prop := ∀ σ H N, Rep X.K H0 ρ σ H N → ∀ W : WX, Takes X W → (∀ C H' N', X.mg n = some (.ref C) → Same N N' → Rep X.K H0 ρ σ H' N' → W (.ref C) none σ H') → ∀ Q, WE X e σ H Q
end
theorem Same.of_none {H : Hp} {p : Addr} {o : HO} (h : H p = none) : Same H (upd H p o) := fun b u e => by
  rw [upd_ne (ne_of_none e h)]
  exact e
/-- the heap grows by a thing that nobody asks for -/
theorem Rep.grow {K : PySem.W.Frag} {H0 H N H' : Hp} {ρ : Env'} {σ : L2.St} (r : Rep K H0 ρ σ H N) (e : Same H H') : Rep K H0 ρ σ H' N where
  old := r.old.trans e
  sub := r.sub.trans e
  imm := r.imm
  fresh := r.fresh
  len := r.len
  im := r.im
  ol := r.ol
  ow := fun i d h => by
    obtain ⟨p, h1, h2, h3, h4⟩ := r.ow i d h
    refine ⟨p, h1, h2, h3, ?_⟩
    cases d with
    | lst ds =>
      obtain ⟨vs, q1, q2⟩ := h4
      exact ⟨vs, e _ _ q1, q2⟩
    | dic ds =>
      obtain ⟨vs, q1, q2⟩ := h4
      exact ⟨vs, e _ _ q1, q2⟩
    | dit ks ds =>
      obtain ⟨vs, q1, ql, q2⟩ := h4
      exact ⟨vs, e _ _ q1, ql, q2⟩
    | _ => exact h4
  rf := r.rf
  apart := r.apart
/-- more of the heap is data that nobody changes -/
theorem Rep.more {K : PySem.W.Frag} {H0 H N N' : Hp} {ρ : Env'} {σ : L2.St} (r : Rep K H0 ρ σ H N) (e : Same N N') (sub : Same N' H) (fresh : ∀ a o, N' a = some o → Mut (some o) → H0 a = none)
    (own : ∀ (i : Nat) d p, ρ[i]? = some (Ent.ow d) → σ[i]? = some (some (V.ref p)) → N p = none → N' p = none) : Rep K H0 ρ σ H N' where
  old := r.old
  sub := sub
  imm := r.imm.trans e
  fresh := fresh
  len := r.len
  im := fun i d h => by
    obtain ⟨v, h1, h2⟩ := r.im i d h
    exact ⟨v, h1, h2.mono e⟩
  ol := r.ol
  ow := fun i d h => by
    obtain ⟨p, h1, h2, h3, h4⟩ := r.ow i d h
    refine ⟨p, h1, h2, own i d p h h1 h3, ?_⟩
    cases d with
    | lst ds =>
      obtain ⟨vs, q1, q2⟩ := h4
      exact ⟨vs, q1, q2.mono e⟩
    | dic ds =>
      obtain ⟨vs, q1, q2⟩ := h4
      exact ⟨vs, q1, q2.mono e⟩
    | dit ks ds =>
      obtain ⟨vs, q1, ql, q2⟩ := h4
      exact ⟨vs, q1, ql, q2.mono e⟩
    | _ => exact h4
  rf := r.rf
  apart := r.apart
/-- an owned thing stands in the heap -/
theorem Rep.own_some {K : PySem.W.Frag} {H0 H N : Hp} {ρ : Env'} {σ : L2.St} (r : Rep K H0 ρ σ H N) {i : Nat} {d : Dat} (h : ρ[i]? = some (Ent.ow d)) : ∃ p o, σ[i]? = some (some (V.ref p)) ∧ H p = some o ∧ Mut (some o) := by
  obtain ⟨p, h1, _, _, h4⟩ := r.ow i d h
  cases d with
  | lst ds =>
    obtain ⟨vs, q1, _⟩ := h4
    exact ⟨p, _, h1, q1, True.intro⟩
  | dic ds =>
    obtain ⟨vs, q1, _⟩ := h4
    exact ⟨p, _, h1, q1, True.intro⟩
  | dit ks ds =>
    obtain ⟨vs, q1, _⟩ := h4
    exact ⟨p, _, h1, q1, True.intro⟩
  | _ => exact h4.elim
/-- something new comes, that nobody changes -/
theorem Rep.new {K : PySem.W.Frag} {H0 H N : Hp} {ρ : Env'} {σ : L2.St} (r : Rep K H0 ρ σ H N) {p : Addr} {o : HO} (hp : H p = none) : Rep K H0 ρ σ (upd H p o) (upd N p o) ∧ Same N (upd N p o) := by
  have np : N p = none := r.sub.free hp
  have e : Same N (upd N p o) := Same.of_none np
  refine ⟨(r.grow (Same.of_none hp)).more e (fun b u h => ?_) (fun b u h m => ?_) (fun i d q h1 h2 h3 => ?_), e⟩
  · by_cases hb : b = p
    · subst hb; rw [upd_same] at h ⊢; exact h
    · rw [upd_ne hb] at h ⊢; exact r.sub b u h
  · by_cases hb : b = p
    · subst hb; exact r.old.free hp
    · rw [upd_ne hb] at h; exact r.fresh b u h m
  · obtain ⟨p', o', e1, e2, _⟩ := r.own_some h1
    rw [h2] at e1
    cases e1
    rw [upd_ne (ne_of_none e2 hp)]
    exact h3
open Classical in
/-- two heaps of data, one beside the other -/
noncomputable def both (N M : Hp) : Hp := fun a => if N a = none then M a else N a
theorem both_l (N M : Hp) : Same N (both N M) := fun a o h => by
  unfold both
  rw [if_neg (by rw [h]; exact fun z => nomatch z)]
  exact h
theorem both_sub {N M H : Hp} (a : Same N H) (b : Same M H) : Same (both N M) H := fun x o h => by
  unfold both at h
  split at h
  · exact b x o h
  · exact a x o h
theorem both_r {N M H : Hp} (a : Same N H) (b : Same M H) : Same M (both N M) := fun x o h => by
  unfold both
  split
  · exact h
  · rename_i q
    cases e : N x with
    | none => exact (q e).elim
    | some u => rw [← a x u e, b x o h]
/-- what a call hands out is data that nobody changes -/
theorem Rep.ret {K : PySem.W.Frag} {H0 H N H' : Hp} {ρ : Env'} {σ : L2.St} {v : V} {d : Dat} (r : Rep K H0 ρ σ H N) (e : Same H H') (h : Ret K H v d H') : ∃ N', Same N N' ∧ Rep K H0 ρ σ H' N' ∧ At K N' v d := by
  obtain ⟨M, m1, m2, m3⟩ := h
  have r' := r.grow e
  refine ⟨both N M, both_l N M, r'.more (both_l N M) (both_sub r'.sub m1) (fun a o h m => ?_) (fun i d q h1 h2 h3 => ?_), m3.mono (both_r r'.sub m1)⟩
  · unfold both at h
    split at h
    · exact r.old.free (m2 a o h m)
    · exact r.fresh a o h m
  · unfold both
    rw [if_pos h3]
    obtain ⟨p', o', e1, e2, m⟩ := r.own_some h1
    rw [h2] at e1
    cases e1
    cases z : M q with
    | none => rfl
    | some u =>
      have e3 := m1 q u z
      rw [e _ _ e2] at e3
      cases e3
      have := m2 q _ z m
      rw [e2] at this
      cases this

/-! ### a name is given a value -/
theorem get_set {α : Type} {l : List α} {i j : Nat} {x y : α} (h : (l.set i x)[j]? = some y) : (j = i ∧ y = x) ∨ (j ≠ i ∧ l[j]? = some y) := by
  by_cases e : i = j
  · subst e
    by_cases hi : i < l.length
    · rw [List.getElem?_set_self hi] at h
      exact .inl ⟨rfl, (Option.some.inj h).symm⟩
    · rw [List.getElem?_eq_none (by rw [List.length_set]; omega)] at h
      cases h
  · rw [List.getElem?_set_ne e] at h
    exact .inr ⟨fun z => e z.symm, h⟩
theorem lt_of_get {α : Type} {l : List α} {i : Nat} {y : α} (h : l[i]? = some y) : i < l.length := (List.getElem?_eq_some_iff.mp h).1
/-- what holds of the value that entry i is to have -/
def EntOk (K : PySem.W.Frag) (H0 H N : Hp) (σ : L2.St) (ρ : Env') (i : Nat) (v : V) : Ent → Prop
  | .no => True
  | .im d => At K N v d
  | .ol d => At K H0 v d
  | .ow d => ∃ p, v = .ref p ∧ H0 p = none ∧ N p = none ∧ Own K H N p d ∧ ∀ j d', j ≠ i → ρ[j]? = some (.ow d') → σ[j]? ≠ some (some (V.ref p))
  | .rf a => v = .ref a
theorem Rep.setE {K : PySem.W.Frag} {H0 H N : Hp} {ρ : Env'} {σ : L2.St} (r : Rep K H0 ρ σ H N) {i : Nat} {v : V} {e : Ent} (h : EntOk K H0 H N σ ρ i v e) : Rep K H0 (ρ.set i e) (σ.set i (some v)) H N where
  old := r.old
  sub := r.sub
  imm := r.imm
  fresh := r.fresh
  len := by rw [List.length_set, List.length_set, r.len]
  im := fun j d q => by
    have hj := lt_of_get q
    rcases get_set q with ⟨rfl, q'⟩ | ⟨n, q'⟩
    · subst q'
      rw [List.length_set, r.len] at hj
      exact ⟨v, List.getElem?_set_self hj, h⟩
    · obtain ⟨u, h1, h2⟩ := r.im j d q'
      exact ⟨u, by rw [List.getElem?_set_ne (Ne.symm n)]; exact h1, h2⟩
  ol := fun j d q => by
    have hj := lt_of_get q
    rcases get_set q with ⟨rfl, q'⟩ | ⟨n, q'⟩
    · subst q'
      rw [List.length_set, r.len] at hj
      exact ⟨v, List.getElem?_set_self hj, h⟩
    · obtain ⟨u, h1, h2⟩ := r.ol j d q'
      exact ⟨u, by rw [List.getElem?_set_ne (Ne.symm n)]; exact h1, h2⟩
  ow := fun j d q => by
    have hj := lt_of_get q
    rcases get_set q with ⟨rfl, q'⟩ | ⟨n, q'⟩
    · subst q'
      rw [List.length_set, r.len] at hj
      obtain ⟨p, rfl, h1, h2, h3, _⟩ := h
      exact ⟨p, List.getElem?_set_self hj, h1, h2, h3⟩
    · obtain ⟨u, h1, h2⟩ := r.ow j d q'
      exact ⟨u, by rw [List.getElem?_set_ne (Ne.symm n)]; exact h1, h2⟩
  rf := fun j a q => by
    have hj := lt_of_get q
    rcases get_set q with ⟨rfl, q'⟩ | ⟨n, q'⟩
    · subst q'
      rw [List.length_set, r.len] at hj
      have e : v = .ref a := h
      rw [List.getElem?_set_self hj, e]
    · rw [List.getElem?_set_ne (Ne.symm n)]
      exact r.rf j a q'
  apart := fun j k d d' p ne q1 q2 z1 z2 => by
    rcases get_set q1 with ⟨rfl, e1⟩ | ⟨n1, q1'⟩
    · subst e1
      rcases get_set q2 with ⟨rfl, e2⟩ | ⟨n2, q2'⟩
      · exact ne rfl
      · obtain ⟨p', rfl, _, _, _, h4⟩ := h
        rcases get_set z1 with ⟨_, z1'⟩ | ⟨n3, _⟩
        · cases z1'
          rw [List.getElem?_set_ne (Ne.symm n2)] at z2
          exact h4 k d' n2 q2' z2
        · exact n3 rfl
    · rw [List.getElem?_set_ne (Ne.symm n1)] at z1
      rcases get_set q2 with ⟨rfl, e2⟩ | ⟨n2, q2'⟩
      · subst e2
        obtain ⟨p', rfl, _, _, _, h4⟩ := h
        rcases get_set z2 with ⟨_, z2'⟩ | ⟨n3, _⟩
        · cases z2'
          exact h4 j d n1 q1' z1
        · exact n3 rfl
      · rw [List.getElem?_set_ne (Ne.symm n2)] at z2
        exact r.apart j k d d' p ne q1' q2' z1 z2
/-- an owned thing is changed in place -/
theorem Rep.write {K : PySem.W.Frag} {H0 H N : Hp} {ρ : Env'} {σ : L2.St} (r : Rep K H0 ρ σ H N) {i : Nat} {p : Addr} {d d' : Dat} {o : HO} (hi : ρ[i]? = some (.ow d)) (hp : σ[i]? = some (some (V.ref p))) (ho : Own K (upd H p o) N p d') : Rep K H0 (ρ.set i (.ow d')) σ (upd H p o) N := by
  obtain ⟨p', q1, q2, q3, q4⟩ := r.ow i d hi
  rw [hp] at q1
  cases q1
  have hl := lt_of_get hi
  refine ⟨fun b u e => ?_, fun b u e => ?_, r.imm, r.fresh, by rw [List.length_set, r.len], fun j x q => ?_, fun j x q => ?_, fun j x q => ?_, fun j x q => ?_, fun j k x y z ne a b c => ?_⟩
  · rw [upd_ne (ne_of_none e q2)]
    exact r.old b u e
  · rw [upd_ne (ne_of_none e q3)]
    exact r.sub b u e
  · rcases get_set q with ⟨_, q'⟩ | ⟨_, q'⟩
    · cases q'
    · exact r.im j x q'
  · rcases get_set q with ⟨_, q'⟩ | ⟨_, q'⟩
    · cases q'
    · exact r.ol j x q'
  · rcases get_set q with ⟨rfl, q'⟩ | ⟨n, q'⟩
    · cases q'
      exact ⟨p, hp, q2, q3, ho⟩
    · obtain ⟨t, t1, t2, t3, t4⟩ := r.ow j x q'
      have tp : t ≠ p := by
        rintro rfl
        exact r.apart i j d x t (Ne.symm n) hi q' hp t1
      refine ⟨t, t1, t2, t3, ?_⟩
      cases x with
      | lst ds =>
        obtain ⟨vs, w1, w2⟩ := t4
        exact ⟨vs, by rw [upd_ne tp]; exact w1, w2⟩
      | dic ds =>
        obtain ⟨vs, w1, w2⟩ := t4
        exact ⟨vs, by rw [upd_ne tp]; exact w1, w2⟩
      | dit ks ds =>
        obtain ⟨vs, w1, ql, w2⟩ := t4
        exact ⟨vs, by rw [upd_ne tp]; exact w1, ql, w2⟩
      | _ => exact t4
  · rcases get_set q with ⟨_, q'⟩ | ⟨_, q'⟩
    · cases q'
    · exact r.rf j x q'
  · have own : ∀ {m : Nat} {w : Dat}, (ρ.set i (Ent.ow d'))[m]? = some (.ow w) → ∃ w', ρ[m]? = some (.ow w') := fun {m w} h => by
      rcases get_set h with ⟨rfl, _⟩ | ⟨_, h'⟩
      · exact ⟨_, hi⟩
      · exact ⟨_, h'⟩
    obtain ⟨x', a'⟩ := own a
    obtain ⟨y', b'⟩ := own b
    exact r.apart j k x' y' z ne a' b' c
/-- an owned thing is given out of hand: from now on nobody changes it -/
theorem Rep.freeze {K : PySem.W.Frag} {H0 H N : Hp} {ρ : Env'} {σ : L2.St} (r : Rep K H0 ρ σ H N) {p : Addr} {d : Dat} (h0 : H0 p = none) (hn : N p = none) (ho : Own K H N p d) (hx : ∀ (j : Nat) d', ρ[j]? = some (Ent.ow d') → σ[j]? ≠ some (some (V.ref p))) :
    ∃ N', Same N N' ∧ Rep K H0 ρ σ H N' ∧ At K N' (.ref p) d := by
  have go : ∀ o, H p = some o → Rep K H0 ρ σ H (upd N p o) ∧ Same N (upd N p o) := fun o e => by
    have s : Same N (upd N p o) := Same.of_none hn
    refine ⟨r.more s (fun b u q => ?_) (fun b u q m => ?_) (fun j x q a1 a2 a3 => ?_), s⟩
    · by_cases hb : b = p
      · subst hb; rw [upd_same] at q; rw [e]; exact q
      · rw [upd_ne hb] at q; exact r.sub b u q
    · by_cases hb : b = p
      · subst hb; exact h0
      · rw [upd_ne hb] at q; exact r.fresh b u q m
    · rw [upd_ne]
      · exact a3
      · rintro rfl
        exact hx j x a1 a2
  cases d with
  | lst ds =>
    obtain ⟨vs, q1, q2⟩ := ho
    obtain ⟨r', s⟩ := go _ q1
    exact ⟨_, s, r', .lst (.inl (.inl upd_same)) (q2.mono s)⟩
  | dic ds =>
    obtain ⟨vs, q1, q2⟩ := ho
    obtain ⟨r', s⟩ := go _ q1
    exact ⟨_, s, r', .dic (.inl upd_same) (q2.mono s)⟩
  | dit ks ds =>
    obtain ⟨vs, q1, ql, q2⟩ := ho
    obtain ⟨r', s⟩ := go _ q1
    exact ⟨_, s, r', .dit (.inl upd_same) ql (q2.mono s)⟩
  | _ => exact ho.elim
/-- a slot is forgotten -/
theorem Rep.drop {K : PySem.W.Frag} {H0 H N : Hp} {ρ : Env'} {σ : L2.St} (r : Rep K H0 ρ σ H N) (i : Nat) : Rep K H0 (ρ.set i .no) σ H N where
  old := r.old
  sub := r.sub
  imm := r.imm
  fresh := r.fresh
  len := by rw [List.length_set, r.len]
  im := fun j d q => by
    rcases get_set q with ⟨_, q'⟩ | ⟨_, q'⟩
    · cases q'
    · exact r.im j d q'
  ol := fun j d q => by
    rcases get_set q with ⟨_, q'⟩ | ⟨_, q'⟩
    · cases q'
    · exact r.ol j d q'
  ow := fun j d q => by
    rcases get_set q with ⟨_, q'⟩ | ⟨_, q'⟩
    · cases q'
    · exact r.ow j d q'
  rf := fun j d q => by
    rcases get_set q with ⟨_, q'⟩ | ⟨_, q'⟩
    · cases q'
    · exact r.rf j d q'
  apart := fun j k x y z ne a b c => by
    rcases get_set a with ⟨_, a'⟩ | ⟨_, a'⟩
    · cases a'
    · rcases get_set b with ⟨_, b'⟩ | ⟨_, b'⟩
      · cases b'
      · exact r.apart j k x y z ne a' b' c
/-- what is flat may be kept -/
theorem Rep.keep {K : PySem.W.Frag} {H0 H N : Hp} {ρ : Env'} {σ : L2.St} (r : Rep K H0 ρ σ H N) : ∃ N', Same N N' ∧ Rep K H0 ρ σ H N' ∧ Same (Imm H) N' := by
  refine ⟨both N (Imm H), both_l _ _, r.more (both_l _ _) (both_sub r.sub (imm_sub H)) (fun a o h m => ?_) (fun i d q h1 h2 h3 => ?_), both_r r.sub (imm_sub H)⟩
  · unfold both at h
    split at h
    · exact (imm_not h m).elim
    · exact r.fresh a o h m
  · unfold both
    rw [if_pos h3]
    obtain ⟨p', o', e1, e2, m⟩ := r.own_some h1
    rw [h2] at e1
    cases e1
    cases z : Imm H q with
    | none => rfl
    | some u =>
      have e3 := imm_sub H q u z
      rw [e2] at e3
      cases e3
      exact (imm_not z m).elim
end B

namespace B
open PySem PySem.Spec PyProof.Rows L2

section
variable {X : Cx} {H0 : Hp} {ρ : Env'} {a b c e : Expr} {es : List Expr} {d d1 d2 d3 : Dat} {ds : List Dat} {pos : Pos}

theorem at_int {K : PySem.W.Frag} {H : Hp} {v : V} {i : Int} (h : At K H v (.int i)) : v = .int i := by cases h; rfl
theorem at_bl {K : PySem.W.Frag} {H : Hp} {v : V} {i : Bool} (h : At K H v (.bl i)) : v = .bl i := by cases h; rfl
theorem at_str {K : PySem.W.Frag} {H : Hp} {v : V} {i : Str} (h : At K H v (.str i)) : v = .str i := by cases h; rfl
theorem at_non {K : PySem.W.Frag} {H : Hp} {v : V} (h : At K H v .non) : v = .non := by cases h; rfl

theorem Ev.toB (h : Ev X H0 ρ e d) : EvB X H0 ρ e d := fun σ H N r => (h σ H N r).imp fun v H' ⟨N', s, n, r', a⟩ => ⟨N', s, n, r', a.mono r'.sub⟩
theorem EvB.flat (h : EvB X H0 ρ e d) (f : flat d = true) : Ev X H0 ρ e d := fun σ H N r => (h σ H N r).imp fun v H' ⟨N', s, n, r', a⟩ =>
  let ⟨N2, n2, r2, k⟩ := r'.keep
  ⟨N2, s, n.trans n2, r2, (a.imm f).mono k⟩

/-! ### names, constants -/
theorem ev_int {i j} : Ev X H0 ρ (.Constant (.int i) j pos) (.int i) := fun _ H N r => we_of pe_int ⟨N, Same.refl _, Same.refl _, r, .int i⟩
theorem ev_bl {i j} : Ev X H0 ρ (.Constant (.bool i) j pos) (.bl i) := fun _ H N r => we_of pe_bl ⟨N, Same.refl _, Same.refl _, r, .bl i⟩
theorem ev_str {i j} : Ev X H0 ρ (.Constant (.str i) j pos) (.str i) := fun _ H N r => we_of pe_str ⟨N, Same.refl _, Same.refl _, r, .str i⟩
theorem ev_non {j} : Ev X H0 ρ (.Constant .none j pos) .non := fun _ H N r => we_of pe_non ⟨N, Same.refl _, Same.refl _, r, .non⟩
theorem ev_name (i : Nat) {x : Str} (h : ρ[i]? = some (.im d)) (hN : X.N[i]? = some x := by rfl) (hv : Vis X.env.scope x := by first | exact Or.inl rfl | exact Or.inr (Or.inl rfl) | exact Or.inr (Or.inr rfl)) (hd : (x == ("__debug__" : Str)) = false := by decide)
    (hcd : (x == ("__classdict__" : Str)) = false := by decide) : Ev X H0 ρ (.Name x pos) d := fun σ H N r => we_of (pv i hN hv hd hcd)
  (let ⟨v, h1, h2⟩ := r.im i d h; ⟨v, h1, N, Same.refl _, Same.refl _, r, h2⟩)
theorem eb_name_ol (i : Nat) {x : Str} (h : ρ[i]? = some (.ol d)) (hN : X.N[i]? = some x := by rfl) (hv : Vis X.env.scope x := by first | exact Or.inl rfl | exact Or.inr (Or.inl rfl) | exact Or.inr (Or.inr rfl)) (hd : (x == ("__debug__" : Str)) = false := by decide)
    (hcd : (x == ("__classdict__" : Str)) = false := by decide) : EvB X H0 ρ (.Name x pos) d := fun σ H N r => we_of (pv i hN hv hd hcd)
  (let ⟨v, h1, h2⟩ := r.ol i d h; ⟨v, h1, N, Same.refl _, Same.refl _, r, h2.mono r.old⟩)
theorem own_at {K : PySem.W.Frag} {H N : Hp} {p : Addr} (s : Same N H) (h : Own K H N p d) : At K H (.ref p) d := by
  cases d with
  | lst ds => obtain ⟨vs, q1, q2⟩ := h; exact .lst (.inl (.inl q1)) (q2.mono s)
  | dic ds => obtain ⟨vs, q1, q2⟩ := h; exact .dic (.inl q1) (q2.mono s)
  | dit ks ds => obtain ⟨vs, q1, ql, q2⟩ := h; exact .dit (.inl q1) ql (q2.mono s)
  | _ => exact h.elim
theorem eb_name_ow (i : Nat) {x : Str} (h : ρ[i]? = some (.ow d)) (hN : X.N[i]? = some x := by rfl) (hv : Vis X.env.scope x := by first | exact Or.inl rfl | exact Or.inr (Or.inl rfl) | exact Or.inr (Or.inr rfl)) (hd : (x == ("__debug__" : Str)) = false := by decide)
    (hcd : (x == ("__classdict__" : Str)) = false := by decide) : EvB X H0 ρ (.Name x pos) d := fun σ H N r => we_of (pv i hN hv hd hcd)
  (let ⟨p, h1, _, _, h2⟩ := r.ow i d h; ⟨.ref p, h1, N, Same.refl _, Same.refl _, r, own_at r.sub h2⟩)

/-! ### two operands, one -/
/-- what an operation's reading is to lead to -/
abbrev Goes (K : PySem.W.Frag) (H0 : Hp) (ρ : Env') (σ : L2.St) (H N : Hp) (d : Dat) (Q : VK) : Prop := ∀ v H' N', Same H H' → Same N N' → Rep K H0 ρ σ H' N' → At K N' v d → Q v H'
theorem ev_bin {r : R2} (p : ∀ ta tb, PE X a ta → PE X b tb → PE X e (tOp r ta tb)) (ha : EvB X H0 ρ a d1) (hb : EvB X H0 ρ b d2)
    (hr : ∀ x y σ H N Q, Rep X.K H0 ρ σ H N → At X.K H x d1 → At X.K H y d2 → Goes X.K H0 ρ σ H N d Q → r x y H Q) : Ev X H0 ρ e d := fun σ H N rp =>
  we_of (p _ _ pe_w pe_w) ((ha σ H N rp).imp fun x H1 ⟨N1, s1, n1, r1, a1⟩ => (hb σ H1 N1 r1).imp fun y H2 ⟨N2, s2, n2, r2, a2⟩ =>
    hr x y σ H2 N2 _ r2 (a1.mono s2) a2 fun v H' N' s n rr aa => ⟨N', (s1.trans s2).trans s, (n1.trans n2).trans n, rr, aa⟩)
theorem evt_bin {r : R2} {k : Bool} (p : ∀ ta tb, PE X a ta → PE X b tb → PT X e (tTest (tOp r ta tb))) (ha : EvB X H0 ρ a d1) (hb : EvB X H0 ρ b d2)
    (hr : ∀ x y σ H N Q, Rep X.K H0 ρ σ H N → At X.K H x d1 → At X.K H y d2 → Goes X.K H0 ρ σ H N (.bl k) Q → r x y H Q) : EvT X H0 ρ e k := fun σ H N rp =>
  wt_of (p _ _ pe_w pe_w) ((ha σ H N rp).imp fun x H1 ⟨N1, s1, n1, r1, a1⟩ => (hb σ H1 N1 r1).imp fun y H2 ⟨N2, s2, n2, r2, a2⟩ =>
    hr x y σ H2 N2 _ r2 (a1.mono s2) a2 fun v H' N' s n rr aa => ⟨k, at_bl aa, rfl, N', (s1.trans s2).trans s, (n1.trans n2).trans n, rr⟩)
theorem goes_self {K : PySem.W.Frag} {H0 : Hp} {ρ : Env'} {σ : L2.St} {H N : Hp} {d : Dat} {Q : VK} {v : V} (g : Goes K H0 ρ σ H N d Q) (r : Rep K H0 ρ σ H N) (a : At K N v d) : Q v H := g v H N (Same.refl _) (Same.refl _) r a

section arith
variable {i j : Int} (ha : Ev X H0 ρ a (.int i)) (hb : Ev X H0 ρ b (.int j))
include ha hb
theorem ev_intop {op : Operator} {C : Int → Int → Prop} {g : Int → Int → Int} (o : OpR X (binaryOp op) (rI C fun i j => .int (g i j))) (hc : C i j) : Ev X H0 ρ (.BinOp a op b pos) (.int (g i j)) :=
  ev_bin (fun _ _ h k => pe_op o h k) ha.toB hb.toB fun x y σ H N Q r p q g => ⟨i, j, at_int p, at_int q, hc, goes_self g r (.int _)⟩
theorem ev_add : Ev X H0 ρ (.BinOp a .Add b pos) (.int (i + j)) := ev_bin (fun _ _ h k => pe_op op_add h k) ha.toB hb.toB fun x y σ H N Q r p q g => ⟨i, j, at_int p, at_int q, goes_self g r (.int _)⟩
theorem ev_sub : Ev X H0 ρ (.BinOp a .Sub b pos) (.int (i - j)) := ev_bin (fun _ _ h k => pe_op op_sub h k) ha.toB hb.toB fun x y σ H N Q r p q g => ⟨i, j, at_int p, at_int q, goes_self g r (.int _)⟩
theorem ev_mul (h : IntMulOk i j) : Ev X H0 ρ (.BinOp a .Mult b pos) (.int (i * j)) := ev_intop ha hb (op := .Mult) (C := IntMulOk) (g := fun i j => i * j) (opI fun _ _ _ _ _ _ _ hc q => mul_int q hc) h
theorem ev_fdiv (h0 : 0 < j) (h : j.natAbs.log2 < 9000) : Ev X H0 ρ (.BinOp a .FloorDiv b pos) (.int (i / j)) := ev_intop ha hb (g := fun i j => i / j) op_fdivW ⟨h0, h⟩
theorem ev_fdivN (h0 : j ≠ 0) (h : j.natAbs.log2 < 9000) : Ev X H0 ρ (.BinOp a .FloorDiv b pos) (.int (i.fdiv j)) := ev_intop ha hb (op := .FloorDiv) (C := fun _ j => j ≠ 0 ∧ j.natAbs.log2 < 9000) (g := fun i j => i.fdiv j)
  (opI fun _ _ _ _ _ _ _ hc q => floordiv_int hc.1 q (.inl (PyProof.noPylong_of_log2 hc.2))) ⟨h0, h⟩
theorem ev_mod (h : 0 < j) : Ev X H0 ρ (.BinOp a .Mod b pos) (.int (i % j)) := ev_intop ha hb (g := fun i j => i % j) op_mod h
theorem ev_modN (h : j ≠ 0) : Ev X H0 ρ (.BinOp a .Mod b pos) (.int (i.fmod j)) := ev_intop ha hb (g := fun i j => i.fmod j) op_modN h
theorem ev_pow (h : CPow i j) : Ev X H0 ρ (.BinOp a .Pow b pos) (.int (i ^ j.toNat)) := ev_intop ha hb (g := fun i j => i ^ j.toNat) op_pow h
theorem ev_shl (h : CPow i j) : Ev X H0 ρ (.BinOp a .LShift b pos) (.int (i * 2 ^ j.toNat)) := ev_intop ha hb (g := fun i j => i * 2 ^ j.toNat) op_shl h
theorem ev_shr (h : 0 ≤ j) : Ev X H0 ρ (.BinOp a .RShift b pos) (.int (i / 2 ^ j.toNat)) := ev_intop ha hb (g := fun i j => i / 2 ^ j.toNat) op_shr h
theorem ev_and : Ev X H0 ρ (.BinOp a .BitAnd b pos) (.int (Builtin.bitAnd i j)) := ev_bin (fun _ _ h k => pe_op op_and h k) ha.toB hb.toB fun x y σ H N Q r p q g => ⟨i, j, at_int p, at_int q, goes_self g r (.int _)⟩
theorem et_lt : EvT X H0 ρ (.Compare a [.Lt] [b] pos) (decide (i < j)) := evt_bin (fun _ _ h k => pt_cmpR op_lt h k (nomark _)) ha.toB hb.toB fun x y σ H N Q r p q g => ⟨i, j, at_int p, at_int q, goes_self g r (.bl _)⟩
theorem et_le : EvT X H0 ρ (.Compare a [.LtE] [b] pos) (decide (i ≤ j)) := evt_bin (fun _ _ h k => pt_cmpR op_le h k (nomark _)) ha.toB hb.toB fun x y σ H N Q r p q g => ⟨i, j, at_int p, at_int q, goes_self g r (.bl _)⟩
theorem et_gt : EvT X H0 ρ (.Compare a [.Gt] [b] pos) (decide (j < i)) := evt_bin (fun _ _ h k => pt_cmpR op_gt h k (nomark _)) ha.toB hb.toB fun x y σ H N Q r p q g => ⟨i, j, at_int p, at_int q, goes_self g r (.bl _)⟩
theorem et_ge : EvT X H0 ρ (.Compare a [.GtE] [b] pos) (decide (j ≤ i)) := evt_bin (fun _ _ h k => pt_cmpR op_ge h k (nomark _)) ha.toB hb.toB fun x y σ H N Q r p q g => ⟨i, j, at_int p, at_int q, goes_self g r (.bl _)⟩
theorem ev_lt : Ev X H0 ρ (.Compare a [.Lt] [b] pos) (.bl (decide (i < j))) := ev_bin (fun _ _ h k => pe_cmpR op_lt h k (nomark _)) ha.toB hb.toB fun x y σ H N Q r p q g => ⟨i, j, at_int p, at_int q, goes_self g r (.bl _)⟩
theorem ev_le : Ev X H0 ρ (.Compare a [.LtE] [b] pos) (.bl (decide (i ≤ j))) := ev_bin (fun _ _ h k => pe_cmpR op_le h k (nomark _)) ha.toB hb.toB fun x y σ H N Q r p q g => ⟨i, j, at_int p, at_int q, goes_self g r (.bl _)⟩
theorem ev_gt : Ev X H0 ρ (.Compare a [.Gt] [b] pos) (.bl (decide (j < i))) := ev_bin (fun _ _ h k => pe_cmpR op_gt h k (nomark _)) ha.toB hb.toB fun x y σ H N Q r p q g => ⟨i, j, at_int p, at_int q, goes_self g r (.bl _)⟩
theorem ev_ge : Ev X H0 ρ (.Compare a [.GtE] [b] pos) (.bl (decide (j ≤ i))) := ev_bin (fun _ _ h k => pe_cmpR op_ge h k (nomark _)) ha.toB hb.toB fun x y σ H N Q r p q g => ⟨i, j, at_int p, at_int q, goes_self g r (.bl _)⟩
theorem et_eq : EvT X H0 ρ (.Compare a [.Eq] [b] pos) (decide (i = j)) := evt_bin (fun _ _ h k => pt_cmpR op_eq h k (nomark _)) ha.toB hb.toB fun x y σ H N Q r p q g => by
  rw [at_int p, at_int q]
  exact ⟨rfl, goes_self (Q := Q) (by rw [show decide (V.int i = V.int j) = decide (i = j) from by simp]; exact g) r (.bl _)⟩
theorem et_ne : EvT X H0 ρ (.Compare a [.NotEq] [b] pos) (!decide (i = j)) := evt_bin (fun _ _ h k => pt_cmpR op_ne h k (nomark _)) ha.toB hb.toB fun x y σ H N Q r p q g => by
  rw [at_int p, at_int q]
  exact ⟨rfl, goes_self (Q := Q) (by rw [show decide (V.int i = V.int j) = decide (i = j) from by simp]; exact g) r (.bl _)⟩
theorem ev_eq : Ev X H0 ρ (.Compare a [.Eq] [b] pos) (.bl (decide (i = j))) := ev_bin (fun _ _ h k => pe_cmpR op_eq h k (nomark _)) ha.toB hb.toB fun x y σ H N Q r p q g => by
  rw [at_int p, at_int q]
  exact ⟨rfl, goes_self (Q := Q) (by rw [show decide (V.int i = V.int j) = decide (i = j) from by simp]; exact g) r (.bl _)⟩
theorem ev_ne : Ev X H0 ρ (.Compare a [.NotEq] [b] pos) (.bl (!decide (i = j))) := ev_bin (fun _ _ h k => pe_cmpR op_ne h k (nomark _)) ha.toB hb.toB fun x y σ H N Q r p q g => by
  rw [at_int p, at_int q]
  exact ⟨rfl, goes_self (Q := Q) (by rw [show decide (V.int i = V.int j) = decide (i = j) from by simp]; exact g) r (.bl _)⟩
end arith
theorem ev_neg {i : Int} (ha : Ev X H0 ρ a (.int i)) : Ev X H0 ρ (.UnaryOp .USub a pos) (.int (-i)) := fun σ H N rp =>
  we_of (pe_un un_neg pe_w) ((ha σ H N rp).imp fun x H1 ⟨N1, s1, n1, r1, a1⟩ => ⟨i, at_int a1, N1, s1, n1, r1, .int _⟩)
/-- texts, == and + -/
theorem et_eqS {i j : Str} (ha : Ev X H0 ρ a (.str i)) (hb : Ev X H0 ρ b (.str j)) : EvT X H0 ρ (.Compare a [.Eq] [b] pos) (decide (i = j)) := evt_bin (fun _ _ h k => pt_cmpR op_eq h k (nomark _)) ha.toB hb.toB fun x y σ H N Q r p q g => by
  rw [at_str p, at_str q]
  exact ⟨rfl, goes_self (Q := Q) (by rw [show decide (V.str i = V.str j) = decide (i = j) from by simp]; exact g) r (.bl _)⟩
theorem et_neS {i j : Str} (ha : Ev X H0 ρ a (.str i)) (hb : Ev X H0 ρ b (.str j)) : EvT X H0 ρ (.Compare a [.NotEq] [b] pos) (!decide (i = j)) := evt_bin (fun _ _ h k => pt_cmpR op_ne h k (nomark _)) ha.toB hb.toB fun x y σ H N Q r p q g => by
  rw [at_str p, at_str q]
  exact ⟨rfl, goes_self (Q := Q) (by rw [show decide (V.str i = V.str j) = decide (i = j) from by simp]; exact g) r (.bl _)⟩
theorem ev_eqS {i j : Str} (ha : Ev X H0 ρ a (.str i)) (hb : Ev X H0 ρ b (.str j)) : Ev X H0 ρ (.Compare a [.Eq] [b] pos) (.bl (decide (i = j))) := ev_bin (fun _ _ h k => pe_cmpR op_eq h k (nomark _)) ha.toB hb.toB fun x y σ H N Q r p q g => by
  rw [at_str p, at_str q]
  exact ⟨rfl, goes_self (Q := Q) (by rw [show decide (V.str i = V.str j) = decide (i = j) from by simp]; exact g) r (.bl _)⟩
theorem ev_neS {i j : Str} (ha : Ev X H0 ρ a (.str i)) (hb : Ev X H0 ρ b (.str j)) : Ev X H0 ρ (.Compare a [.NotEq] [b] pos) (.bl (!decide (i = j))) := ev_bin (fun _ _ h k => pe_cmpR op_ne h k (nomark _)) ha.toB hb.toB fun x y σ H N Q r p q g => by
  rw [at_str p, at_str q]
  exact ⟨rfl, goes_self (Q := Q) (by rw [show decide (V.str i = V.str j) = decide (i = j) from by simp]; exact g) r (.bl _)⟩
theorem ev_cat {i j : Str} (ha : Ev X H0 ρ a (.str i)) (hb : Ev X H0 ρ b (.str j)) (hz : i.length + j.length ≤ sizeLine) : Ev X H0 ρ (.BinOp a .Add b pos) (.str (i ++ j)) :=
  ev_bin (fun _ _ h k => pe_op op_add_str h k) ha.toB hb.toB fun x y σ H N Q r p q g => ⟨i, j, at_str p, at_str q, hz, goes_self g r (.str _)⟩
/-- is None -/
theorem isnon {K : PySem.W.Frag} {H : Hp} {v : V} (h : At K H v d) : decide (v = .non) = (match d with | .non => true | _ => false) := by
  cases h <;> simp
def isNon : Dat → Bool
  | .non => true
  | _ => false
theorem at_isNon {K : PySem.W.Frag} {H : Hp} {v : V} (h : At K H v d) : decide (v = .non) = isNon d := by cases h <;> simp [isNon]
theorem et_isN {j pos'} (ha : EvB X H0 ρ a d) : EvT X H0 ρ (.Compare a [.Is] [.Constant .none j pos'] pos) (isNon d) :=
  evt_bin (d2 := .non) (fun _ _ h k => pt_cmpR op_isN h k (nomark _)) ha ev_non.toB fun x y σ H N Q r p q g => ⟨at_non q, by rw [at_isNon p]; exact goes_self (Q := Q) g r (.bl _)⟩
theorem et_notN {j pos'} (ha : EvB X H0 ρ a d) : EvT X H0 ρ (.Compare a [.IsNot] [.Constant .none j pos'] pos) (!isNon d) :=
  evt_bin (d2 := .non) (fun _ _ h k => pt_cmpR op_notN h k (nomark _)) ha ev_non.toB fun x y σ H N Q r p q g => ⟨at_non q, by rw [at_isNon p]; exact goes_self (Q := Q) g r (.bl _)⟩

/-! ### and, or, not, if -/
theorem et_val {k : Bool} (h : Ev X H0 ρ e (.bl k)) (he : ∀ whole, isTrue e X.env whole = (do let v ← whole; standAt e.pos; holding [v] (truthy v)) := by intro _; rfl) : EvT X H0 ρ e k := fun σ H N rp =>
  wt_of (pt_val pe_w he) ((h σ H N rp).imp fun x H1 ⟨N1, s1, n1, r1, a1⟩ => ⟨k, at_bl a1, rfl, N1, s1, n1, r1⟩)
theorem ew_and1 {k : Bool} (h : EvT X H0 ρ a k) : EvW X H0 ρ (.BoolOp .And [a] pos) k := fun σ H N rp => ww_of (pw_and1 pt_w) (h σ H N rp)
theorem ew_or1 {k : Bool} (h : EvT X H0 ρ a k) : EvW X H0 ρ (.BoolOp .Or [a] pos) k := fun σ H N rp => ww_of (pw_or1 pt_w) (h σ H N rp)
theorem ew_and {k l : Bool} {rest : List Expr} (h : EvT X H0 ρ a k) (g : k = true → EvW X H0 ρ (.BoolOp .And (b :: rest) pos) l) : EvW X H0 ρ (.BoolOp .And (a :: b :: rest) pos) (k && l) := fun σ H N rp =>
  ww_of (pw_and pt_w pw_w) ((h σ H N rp).imp fun c H1 ⟨e1, N1, s1, n1, r1⟩ => by
    subst e1
    cases c with
    | true => exact (g rfl σ H1 N1 r1).imp fun c2 H2 ⟨e2, N2, s2, n2, r2⟩ => ⟨e2, N2, s1.trans s2, n1.trans n2, r2⟩
    | false => exact ⟨rfl, N1, s1, n1, r1⟩)
theorem ew_or {k l : Bool} {rest : List Expr} (h : EvT X H0 ρ a k) (g : k = false → EvW X H0 ρ (.BoolOp .Or (b :: rest) pos) l) : EvW X H0 ρ (.BoolOp .Or (a :: b :: rest) pos) (k || l) := fun σ H N rp =>
  ww_of (pw_or pt_w pw_w) ((h σ H N rp).imp fun c H1 ⟨e1, N1, s1, n1, r1⟩ => by
    subst e1
    cases c with
    | false => exact (g rfl σ H1 N1 r1).imp fun c2 H2 ⟨e2, N2, s2, n2, r2⟩ => ⟨e2, N2, s1.trans s2, n1.trans n2, r2⟩
    | true => exact ⟨rfl, N1, s1, n1, r1⟩)
theorem EvW.t {k : Bool} (h : EvW X H0 ρ e k) : EvT X H0 ρ e k := fun σ H N rp => (h σ H N rp).wt
theorem et_not {k : Bool} (h : EvT X H0 ρ a k) : EvT X H0 ρ (.UnaryOp .Not a pos) (!k) := fun σ H N rp =>
  wt_of (pt_not pt_w) ((h σ H N rp).imp fun c H1 ⟨e1, N1, s1, n1, r1⟩ => ⟨by rw [e1], N1, s1, n1, r1⟩)
theorem ev_one {op} (h : Ev X H0 ρ a d) : Ev X H0 ρ (.BoolOp op [a] pos) d := fun σ H N rp => we_of (pe_one pe_w) (h σ H N rp)
theorem ev_andB {k l : Bool} {rest : List Expr} (h : Ev X H0 ρ a (.bl k)) (g : k = true → Ev X H0 ρ (.BoolOp .And (b :: rest) pos) (.bl l)) : Ev X H0 ρ (.BoolOp .And (a :: b :: rest) pos) (.bl (k && l)) := fun σ H N rp =>
  we_of (pe_and pe_w pe_w) ((h σ H N rp).imp fun x H1 ⟨N1, s1, n1, r1, a1⟩ => ⟨k, at_bl a1, by
    cases k with
    | true => exact iteT ((g rfl σ H1 N1 r1).imp fun x2 H2 ⟨N2, s2, n2, r2, a2⟩ => ⟨N2, s1.trans s2, n1.trans n2, r2, a2⟩)
    | false => exact iteF ⟨N1, s1, n1, r1, .bl _⟩⟩)
theorem ev_orB {k l : Bool} {rest : List Expr} (h : Ev X H0 ρ a (.bl k)) (g : k = false → Ev X H0 ρ (.BoolOp .Or (b :: rest) pos) (.bl l)) : Ev X H0 ρ (.BoolOp .Or (a :: b :: rest) pos) (.bl (k || l)) := fun σ H N rp =>
  we_of (pe_or pe_w pe_w) ((h σ H N rp).imp fun x H1 ⟨N1, s1, n1, r1, a1⟩ => ⟨k, at_bl a1, by
    cases k with
    | false => exact iteF ((g rfl σ H1 N1 r1).imp fun x2 H2 ⟨N2, s2, n2, r2, a2⟩ => ⟨N2, s1.trans s2, n1.trans n2, r2, a2⟩)
    | true => exact iteT ⟨N1, s1, n1, r1, .bl _⟩⟩)
theorem ev_not {k : Bool} (h : Ev X H0 ρ a (.bl k)) : Ev X H0 ρ (.UnaryOp .Not a pos) (.bl (!k)) := fun σ H N rp =>
  we_of (pe_not pe_w) ((h σ H N rp).imp fun x H1 ⟨N1, s1, n1, r1, a1⟩ => ⟨k, at_bl a1, N1, s1, n1, r1, .bl _⟩)
theorem ev_ifT (hc : EvT X H0 ρ c true) (h : Ev X H0 ρ a d) : Ev X H0 ρ (.IfExp c a b pos) d := fun σ H N rp =>
  we_of (pe_ifExp pt_w pe_w pe_w) ((hc σ H N rp).imp fun x H1 ⟨e1, N1, s1, n1, r1⟩ => by
    subst e1
    exact iteT ((h σ H1 N1 r1).imp fun x2 H2 ⟨N2, s2, n2, r2, a2⟩ => ⟨N2, s1.trans s2, n1.trans n2, r2, a2⟩))
theorem ev_ifF (hc : EvT X H0 ρ c false) (h : Ev X H0 ρ b d) : Ev X H0 ρ (.IfExp c a b pos) d := fun σ H N rp =>
  we_of (pe_ifExp pt_w pe_w pe_w) ((hc σ H N rp).imp fun x H1 ⟨e1, N1, s1, n1, r1⟩ => by
    subst e1
    exact iteF ((h σ H1 N1 r1).imp fun x2 H2 ⟨N2, s2, n2, r2, a2⟩ => ⟨N2, s1.trans s2, n1.trans n2, r2, a2⟩))

/-! ### argument lists, displays -/
theorem ea_nil : EvA X H0 ρ [] [] := fun σ H N rp => wa_of pa_nil ⟨N, Same.refl _, Same.refl _, rp, .nil⟩
theorem ea_cons (h : Ev X H0 ρ e d) (t : EvA X H0 ρ es ds) (hs : starEach (e :: es) X.env = (false, eval e X.env) :: starEach es X.env := by rfl) : EvA X H0 ρ (e :: es) (d :: ds) := fun σ H N rp =>
  wa_of (pa_cons pe_w pa_w hs) ((h σ H N rp).imp fun x H1 ⟨N1, s1, n1, r1, a1⟩ => (t σ H1 N1 r1).imp fun xs H2 ⟨N2, s2, n2, r2, a2⟩ => ⟨N2, s1.trans s2, n1.trans n2, r2, .cons (a1.mono n2) a2⟩)
theorem eab_nil : EvAB X H0 ρ [] [] := fun σ H N rp => wa_of pa_nil ⟨N, Same.refl _, Same.refl _, rp, .nil⟩
theorem eab_cons (h : EvB X H0 ρ e d) (t : EvAB X H0 ρ es ds) (hs : starEach (e :: es) X.env = (false, eval e X.env) :: starEach es X.env := by rfl) : EvAB X H0 ρ (e :: es) (d :: ds) := fun σ H N rp =>
  wa_of (pa_cons pe_w pa_w hs) ((h σ H N rp).imp fun x H1 ⟨N1, s1, n1, r1, a1⟩ => (t σ H1 N1 r1).imp fun xs H2 ⟨N2, s2, n2, r2, a2⟩ => ⟨N2, s1.trans s2, n1.trans n2, r2, .cons (a1.mono s2) a2⟩)
theorem ev_tup {x1} (h : EvA X H0 ρ es ds) (hz : ds.length ≤ sizeLine) : Ev X H0 ρ (.Tuple es x1 pos) (.tup ds) := fun σ H N rp =>
  we_of (pe_tup pa_w) ((h σ H N rp).imp fun xs H1 ⟨N1, s1, n1, r1, a1⟩ => ⟨by rw [a1.length]; exact hz, fun p hp =>
    let ⟨r2, n2⟩ := r1.new (o := .tup xs) hp
    ⟨_, s1.trans (Same.of_none hp), n1.trans n2, r2, .tup (.inl (.inl upd_same)) (a1.mono n2)⟩⟩)

/-- a new list or dict, for one to own -/
def EvO (X : Cx) (H0 : Hp) (ρ : Env') (e : Expr) (d : Dat) : Prop := ∀ σ H N, Rep X.K H0 ρ σ H N → WE X e σ H fun v H' => ∃ N' p, v = .ref p ∧ H p = none ∧ Same H H' ∧ Same N N' ∧ Rep X.K H0 ρ σ H' N' ∧ N' p = none ∧ Own X.K H' N' p d
theorem no_own {K : PySem.W.Frag} {H N : Hp} {σ : L2.St} (r : Rep K H0 ρ σ H N) {p : Addr} (h : H p = none) (j : Nat) (d' : Dat) (q : ρ[j]? = some (.ow d')) : σ[j]? ≠ some (some (V.ref p)) := fun z => by
  obtain ⟨p', o, e1, e2, _⟩ := r.own_some q
  rw [z] at e1
  cases e1
  rw [h] at e2
  cases e2
theorem EvO.ev (h : EvO X H0 ρ e d) : Ev X H0 ρ e d := fun σ H N rp => (h σ H N rp).imp fun v H' ⟨N', p, e1, hp, s, n, r, np, o⟩ => by
  subst e1
  obtain ⟨N2, n2, r2, a2⟩ := r.freeze (rp.old.free hp) np o (no_own rp hp)
  exact ⟨N2, s, n.trans n2, r2, a2⟩
theorem eo_new {H' : Hp} {K : PySem.W.Frag} {N : Hp} {σ : L2.St} {p : Addr} {o : HO} (r : Rep K H0 ρ σ H' N) (hp : H' p = none) : Rep K H0 ρ σ (upd H' p o) N ∧ N p = none := ⟨r.grow (Same.of_none hp), r.sub.free hp⟩
theorem eo_lst (h : EvA X H0 ρ es ds) (hz : ds.length ≤ sizeLine) : EvO X H0 ρ (.List es pos) (.lst ds) := fun σ H N rp =>
  we_of (pe_lst pa_w) ((h σ H N rp).imp fun xs H1 ⟨N1, s1, n1, r1, a1⟩ => ⟨by rw [a1.length]; exact hz, fun p hp =>
    let ⟨r2, n2⟩ := eo_new (o := .lst xs) r1 hp
    ⟨N1, p, rfl, s1.free hp, s1.trans (Same.of_none hp), n1, r2, n2, xs, upd_same, a1⟩⟩)
theorem eo_dic0 : EvO X H0 ρ (.Dict [] [] pos) (.dic []) := fun σ H N rp => we_of pe_dnewK (fun p hp =>
    let ⟨r2, n2⟩ := eo_new (o := .dK []) rp hp
    ⟨N, p, rfl, hp, Same.of_none hp, Same.refl _, r2, n2, [], upd_same, .nil⟩)

/-! ### items, slices -/
theorem at_seq {K : PySem.W.Frag} {H : Hp} {v : V} (h : At K H v (.tup ds)) : ∃ p vs, v = .ref p ∧ SqT K H p vs ∧ Ats K H vs ds := by cases h with | tup a b => exact ⟨_, _, rfl, a, b⟩
theorem at_lst {K : PySem.W.Frag} {H : Hp} {v : V} (h : At K H v (.lst ds)) : ∃ p vs, v = .ref p ∧ SqL K H p vs ∧ Ats K H vs ds := by cases h with | lst a b => exact ⟨_, _, rfl, a, b⟩
theorem atI_ats {K : PySem.W.Frag} {H : Hp} {vs : List V} (h : Ats K H vs ds) {i : Int} (q : atI ds i = some d) : ∃ v, atI vs i = some v ∧ At K H v d := by
  unfold atI at q ⊢
  rw [h.length]
  cases e : ixN ds.length i with
  | none => rw [e] at q; cases q
  | some j =>
    rw [e] at q
    exact h.get q
theorem eb_ixT {i : Int} (ha : EvB X H0 ρ a (.tup ds)) (hb : Ev X H0 ρ b (.int i)) (q : atI ds i = some d) (hs : PlainIx b := by exact fun _ _ => rfl) : EvB X H0 ρ (.Subscript a b pos) d := fun σ H N rp =>
  we_of (pe_ix ix_tup pe_w pe_w hs) ((ha σ H N rp).imp fun x H1 ⟨N1, s1, n1, r1, a1⟩ => (hb.toB σ H1 N1 r1).imp fun y H2 ⟨N2, s2, n2, r2, a2⟩ =>
    let ⟨p, vs, e1, h1, h2⟩ := at_seq (a1.mono s2)
    let ⟨v, g1, g2⟩ := atI_ats h2 q
    ⟨p, vs, i, v, e1, at_int a2, h1, g1, N2, s1.trans s2, n1.trans n2, r2, g2⟩)
theorem eb_ixL {i : Int} (ha : EvB X H0 ρ a (.lst ds)) (hb : Ev X H0 ρ b (.int i)) (q : atI ds i = some d) (hs : PlainIx b := by exact fun _ _ => rfl) : EvB X H0 ρ (.Subscript a b pos) d := fun σ H N rp =>
  we_of (pe_ix ix_list pe_w pe_w hs) ((ha σ H N rp).imp fun x H1 ⟨N1, s1, n1, r1, a1⟩ => (hb.toB σ H1 N1 r1).imp fun y H2 ⟨N2, s2, n2, r2, a2⟩ =>
    let ⟨p, vs, e1, h1, h2⟩ := at_lst (a1.mono s2)
    let ⟨v, g1, g2⟩ := atI_ats h2 q
    ⟨p, vs, i, v, e1, at_int a2, h1, g1, N2, s1.trans s2, n1.trans n2, r2, g2⟩)
theorem ev_ixT {i : Int} (ha : Ev X H0 ρ a (.tup ds)) (hb : Ev X H0 ρ b (.int i)) (q : atI ds i = some d) (hs : PlainIx b := by exact fun _ _ => rfl) : Ev X H0 ρ (.Subscript a b pos) d := fun σ H N rp =>
  we_of (pe_ix ix_tup pe_w pe_w hs) ((ha σ H N rp).imp fun x H1 ⟨N1, s1, n1, r1, a1⟩ => (hb.toB σ H1 N1 r1).imp fun y H2 ⟨N2, s2, n2, r2, a2⟩ =>
    let ⟨p, vs, e1, h1, h2⟩ := at_seq (a1.mono n2)
    let ⟨v, g1, g2⟩ := atI_ats h2 q
    ⟨p, vs, i, v, e1, at_int a2, sqt_same r2.sub h1, g1, N2, s1.trans s2, n1.trans n2, r2, g2⟩)
theorem ev_ixL {i : Int} (ha : Ev X H0 ρ a (.lst ds)) (hb : Ev X H0 ρ b (.int i)) (q : atI ds i = some d) (hs : PlainIx b := by exact fun _ _ => rfl) : Ev X H0 ρ (.Subscript a b pos) d := fun σ H N rp =>
  we_of (pe_ix ix_list pe_w pe_w hs) ((ha σ H N rp).imp fun x H1 ⟨N1, s1, n1, r1, a1⟩ => (hb.toB σ H1 N1 r1).imp fun y H2 ⟨N2, s2, n2, r2, a2⟩ =>
    let ⟨p, vs, e1, h1, h2⟩ := at_lst (a1.mono n2)
    let ⟨v, g1, g2⟩ := atI_ats h2 q
    ⟨p, vs, i, v, e1, at_int a2, sql_same r2.sub h1, g1, N2, s1.trans s2, n1.trans n2, r2, g2⟩)
theorem ev_ixS {z : Str} {i : Int} {k : Nat} (ha : Ev X H0 ρ a (.str z)) (hb : Ev X H0 ρ b (.int i)) (hz : z.length ≤ sizeLine) (q : atI z.cps.toList i = some k) (hs : PlainIx b := by exact fun _ _ => rfl) : Ev X H0 ρ (.Subscript a b pos) (.str ⟨#[k]⟩) :=
  ev_bin (fun _ _ h k => pe_ix ix_str h k hs) ha.toB hb.toB fun x y σ H N Q r p p2 g => ⟨z, i, k, at_str p, at_int p2, hz, q, goes_self g r (.str _)⟩
end
end B

namespace B
open PySem PySem.Spec PyProof.Rows L2

/-! ### how a block ends -/
inductive Outc where
  | nx (ρ : Env')
  | rt (d : Dat)
  | ex (n : Str) (ρ : Env')
  | bk (ρ : Env')
  | ct (ρ : Env')
  /-- an owned thing is handed out -/
  | ro (d : Dat)
def Cont (X : Cx) (H0 N : Hp) (D : Ends) : Outc → Prop
  | .nx ρ => ∀ σ H N', Same N N' → Rep X.K H0 ρ σ H N' → D.nx σ H
  | .rt d => ∀ v H, Same H0 H → Same N H → Ret X.K H0 v d H → D.rt v H
  | .ex n ρ => ∃ W, Takes X W ∧ ∀ C σ H N', X.mg n = some (.ref C) → Same N N' → Rep X.K H0 ρ σ H N' → W (.ref C) none σ H
  | .bk ρ => ∀ σ H N', Same N N' → Rep X.K H0 ρ σ H N' → D.bk σ H
  | .ct ρ => ∀ σ H N', Same N N' → Rep X.K H0 ρ σ H N' → D.ct σ H
  | .ro d => ∀ p H' N', Same H0 H' → Same N H' → Same N' H' → (∀ a u, N' a = some u → Mut (some u) → H0 a = none) → H0 p = none → N' p = none → Own X.K H' N' p d → D.rt (.ref p) H'
theorem Cont.mono {X : Cx} {H0 N N' : Hp} {D : Ends} {o : Outc} (c : Cont X H0 N D o) (s : Same N N') : Cont X H0 N' D o := by
  cases o with
  | nx ρ => exact fun σ H N2 s2 r => c σ H N2 (s.trans s2) r
  | rt d => exact fun v H a b r => c v H a (s.trans b) r
  | ex n ρ =>
    obtain ⟨W, t, k⟩ := c
    exact ⟨W, t, fun C σ H N2 m s2 r => k C σ H N2 m (s.trans s2) r⟩
  | bk ρ => exact fun σ H N2 s2 r => c σ H N2 (s.trans s2) r
  | ct ρ => exact fun σ H N2 s2 r => c σ H N2 (s.trans s2) r
  | ro d => exact fun p H' N2 a b r => c p H' N2 a (s.trans b) r
section
variable (X : Cx) (H0 : Hp) (ρ : Env')
def Exec (sts : List Stmt) (o : Outc) : Prop := ∀ D σ H N, Rep X.K H0 ρ σ H N → Cont X H0 N D o → WB X sts D σ H
def ExS (st : Stmt) (o : Outc) : Prop := ∀ D σ H N, Rep X.K H0 ρ σ H N → Cont X H0 N D o → WS X st D σ H
end
/-- what follows behind an end -/
def Thn (X : Cx) (H0 : Hp) (rest : List Stmt) (o1 o : Outc) : Prop := match o1 with
  | .nx ρ => Exec X H0 ρ rest o
  | o1 => o = o1

section
variable {X : Cx} {H0 : Hp} {ρ ρ1 ρ2 : Env'} {a b c e : Expr} {es : List Expr} {st : Stmt} {sts rest : List Stmt} {d d1 d2 : Dat} {ds : List Dat} {pos : Pos} {o o1 : Outc}
theorem ex_nil : Exec X H0 ρ [] (.nx ρ) := fun D σ H N r k => wb_of pss_nil (k σ H N (Same.refl _) r)
theorem ex_cons (h : ExS X H0 ρ st o1) (t : Thn X H0 rest o1 o) : Exec X H0 ρ (st :: rest) o := fun D σ H N r k => by
  refine wb_of (pss_cons ps_w pb_w) ?_
  show WS X st { D with nx := WB X rest D } σ H
  refine h _ σ H N r ?_
  cases o1 with
  | nx ρ' => exact fun σ' H' N' s r' => t D σ' H' N' r' (k.mono s)
  | rt d => cases (show o = _ from t); exact k
  | ex n ρ => cases (show o = _ from t); exact k
  | bk ρ => cases (show o = _ from t); exact k
  | ct ρ => cases (show o = _ from t); exact k
  | ro d => cases (show o = _ from t); exact k
theorem ex_one (h : ExS X H0 ρ st o) : Exec X H0 ρ [st] o := by
  refine ex_cons h ?_
  cases o with
  | nx ρ => exact ex_nil
  | _ => rfl
theorem ex_then (h : ExS X H0 ρ st (.nx ρ1)) (t : Exec X H0 ρ1 rest o) : Exec X H0 ρ (st :: rest) o := ex_cons h t
/-- an owned thing will not be changed any more -/
theorem ex_freeze (i : Nat) (hi : ρ[i]? = some (.ow d)) (h : Exec X H0 (ρ.set i (.im d)) sts o) : Exec X H0 ρ sts o := fun D σ H N r k => by
  obtain ⟨p, e1, h0, hn, ho⟩ := r.ow i d hi
  have r1 := r.drop i
  obtain ⟨N', s, r2, a⟩ := r1.freeze h0 hn ho (fun j d' q z => by
    rcases get_set q with ⟨_, q'⟩ | ⟨ne, q'⟩
    · cases q'
    · exact r.apart i j d d' p (Ne.symm ne) hi q' e1 z)
  have r3 := r2.setE (i := i) (v := .ref p) (e := .im d) a
  have eσ : σ.set i (some (V.ref p)) = σ := by
    apply List.ext_getElem?
    intro j
    by_cases hj : i = j
    · subst hj
      rw [List.getElem?_set_self (lt_of_get e1), e1]
    · rw [List.getElem?_set_ne hj]
  rw [eσ, List.set_set] at r3
  exact h D σ H N' r3 (k.mono s)
theorem ex_drop (i : Nat) (h : Exec X H0 (ρ.set i .no) sts o) : Exec X H0 ρ sts o := fun D σ H N r k => h D σ H N (r.drop i) k

/-! ### statements -/
theorem sx_pass : ExS X H0 ρ (.Pass pos) (.nx ρ) := fun D σ H N r k => ws_of ps_pass (k σ H N (Same.refl _) r)
theorem sx_break : ExS X H0 ρ (.Break pos) (.bk ρ) := fun D σ H N r k => ws_of ps_break (k σ H N (Same.refl _) r)
theorem sx_continue : ExS X H0 ρ (.Continue pos) (.ct ρ) := fun D σ H N r k => ws_of ps_continue (k σ H N (Same.refl _) r)
theorem sx_ret (h : Ev X H0 ρ e d) : ExS X H0 ρ (.Return (some e) pos) (.rt d) := fun D σ H N r k => ws_of (ps_ret pe_w) ((h σ H N r).imp fun v H' ⟨N', s, n, r', a⟩ => k v H' r'.old (n.trans r'.sub) ⟨N', r'.sub, r'.fresh, a⟩)
theorem sx_retN : ExS X H0 ρ (.Return none pos) (.rt .non) := fun D σ H N r k => ws_of ps_retN (k .non H r.old r.sub ⟨N, r.sub, r.fresh, .non⟩)
theorem sx_set (i : Nat) {x : Str} {pos' : Pos} (h : Ev X H0 ρ e d) (nd : X.N.Nodup) (hρ : ρ.set i (.im d) = ρ1 := by rfl) (hi : X.N[i]? = some x := by rfl) (hx : Loc X.env.scope x := by first | exact Or.inl rfl | exact Or.inr rfl)
    (hs : swapsWith e (some (.Name x pos')) pos.line X.env = pure false := by rfl) (hf : X.fn x = true ∨ X.env.scope.names.lookup x = some .local := by first | exact .inl rfl | exact .inr rfl | assumption) : ExS X H0 ρ (.Assign [.Name x pos'] e pos) (.nx ρ1) := fun D σ H N r k =>
  ws_of (ps_set nd hi hx pe_w hs hf) ((h σ H N r).imp fun v H' ⟨N', s, n, r', a⟩ => k _ H' N' n (hρ ▸ r'.setE a))
theorem sx_setO (i : Nat) {x : Str} {pos' : Pos} (h : EvO X H0 ρ e d) (nd : X.N.Nodup) (hρ : ρ.set i (.ow d) = ρ1 := by rfl) (hi : X.N[i]? = some x := by rfl) (hx : Loc X.env.scope x := by first | exact Or.inl rfl | exact Or.inr rfl)
    (hs : swapsWith e (some (.Name x pos')) pos.line X.env = pure false := by rfl) (hf : X.fn x = true ∨ X.env.scope.names.lookup x = some .local := by first | exact .inl rfl | exact .inr rfl | assumption) : ExS X H0 ρ (.Assign [.Name x pos'] e pos) (.nx ρ1) := fun D σ H N r k =>
  ws_of (ps_set nd hi hx pe_w hs hf) ((h σ H N r).imp fun v H' ⟨N', p, e1, hp, s, n, r', np, ow⟩ => k _ H' N' n (hρ ▸ r'.setE (e := .ow d) ⟨p, e1, r.old.free hp, np, ow, fun j d' _ q => no_own r hp j d' q⟩))
theorem sx_expr (h : Ev X H0 ρ e d) (hs : swapsWith e none pos.line X.env = pure false := by rfl) : ExS X H0 ρ (.Expr e pos) (.nx ρ) := fun D σ H N r k => ws_of (ps_expr pe_w hs) ((h σ H N r).imp fun v H' ⟨N', s, n, r', a⟩ => k _ H' N' n r')
theorem sx_ifT {as bs : List Stmt} (hc : EvT X H0 ρ c true) (h : Exec X H0 ρ as o) : ExS X H0 ρ (.If c as bs pos) o := fun D σ H N r k => ws_of (ps_if pt_w pb_w pb_w) ((hc σ H N r).imp fun v H' ⟨e1, N', s, n, r'⟩ => by
  subst e1
  exact iteT (h D σ H' N' r' (k.mono n)))
theorem sx_ifF {as bs : List Stmt} (hc : EvT X H0 ρ c false) (h : Exec X H0 ρ bs o) : ExS X H0 ρ (.If c as bs pos) o := fun D σ H N r k => ws_of (ps_if pt_w pb_w pb_w) ((hc σ H N r).imp fun v H' ⟨e1, N', s, n, r'⟩ => by
  subst e1
  exact iteF (h D σ H' N' r' (k.mono n)))
/-- an if without else that is not taken -/
theorem sx_skip {as : List Stmt} (hc : EvT X H0 ρ c false) : ExS X H0 ρ (.If c as [] pos) (.nx ρ) := sx_ifF hc ex_nil
theorem sx_if {as bs : List Stmt} {k : Bool} (hc : EvT X H0 ρ c k) (h1 : k = true → Exec X H0 ρ as o) (h2 : k = false → Exec X H0 ρ bs o) : ExS X H0 ρ (.If c as bs pos) o := by
  cases k with
  | true => exact sx_ifT hc (h1 rfl)
  | false => exact sx_ifF hc (h2 rfl)
theorem ex_if {as bs : List Stmt} {k : Bool} (hc : EvT X H0 ρ c k) (h1 : k = true → Exec X H0 ρ (.If c as bs pos :: rest) o) (h2 : k = false → Exec X H0 ρ (.If c as bs pos :: rest) o) : Exec X H0 ρ (.If c as bs pos :: rest) o := by
  cases k with
  | true => exact h1 rfl
  | false => exact h2 rfl

/-! ### while -/
/-- the turns of a while -/
inductive WhileT (X : Cx) (H0 : Hp) (c : Expr) (body : List Stmt) : Env' → Outc → Prop where
  | done {ρ : Env'} : EvT X H0 ρ c false → WhileT X H0 c body ρ (.nx ρ)
  | turn {ρ ρ1 : Env'} {o : Outc} : EvT X H0 ρ c true → Exec X H0 ρ body (.nx ρ1) → WhileT X H0 c body ρ1 o → WhileT X H0 c body ρ o
  | turnC {ρ ρ1 : Env'} {o : Outc} : EvT X H0 ρ c true → Exec X H0 ρ body (.ct ρ1) → WhileT X H0 c body ρ1 o → WhileT X H0 c body ρ o
  | brk {ρ ρ1 : Env'} : EvT X H0 ρ c true → Exec X H0 ρ body (.bk ρ1) → WhileT X H0 c body ρ (.nx ρ1)
  | ret {ρ : Env'} {d : Dat} : EvT X H0 ρ c true → Exec X H0 ρ body (.rt d) → WhileT X H0 c body ρ (.rt d)
  | exc {ρ ρ1 : Env'} {n : Str} : EvT X H0 ρ c true → Exec X H0 ρ body (.ex n ρ1) → WhileT X H0 c body ρ (.ex n ρ1)
  | retO {ρ : Env'} {d : Dat} : EvT X H0 ρ c true → Exec X H0 ρ body (.ro d) → WhileT X H0 c body ρ (.ro d)
/-- .. counted -/
def WhileN (X : Cx) (H0 : Hp) (c : Expr) (body : List Stmt) (o : Outc) : Nat → Env' → Prop
  | 0, ρ => (EvT X H0 ρ c false ∧ o = .nx ρ) ∨ (EvT X H0 ρ c true ∧ ((∃ ρ1, Exec X H0 ρ body (.bk ρ1) ∧ o = .nx ρ1) ∨ (∃ d, Exec X H0 ρ body (.rt d) ∧ o = .rt d) ∨ (∃ d, Exec X H0 ρ body (.ro d) ∧ o = .ro d) ∨ ∃ n ρ1, Exec X H0 ρ body (.ex n ρ1) ∧ o = .ex n ρ1))
  | m + 1, ρ => ∃ ρ1, EvT X H0 ρ c true ∧ (Exec X H0 ρ body (.nx ρ1) ∨ Exec X H0 ρ body (.ct ρ1)) ∧ WhileN X H0 c body o m ρ1
theorem WhileT.count {body : List Stmt} (h : WhileT X H0 c body ρ o) : ∃ m, WhileN X H0 c body o m ρ := by
  induction h with
  | done h => exact ⟨0, .inl ⟨h, rfl⟩⟩
  | turn h1 h2 _ ih => obtain ⟨m, q⟩ := ih; exact ⟨m + 1, _, h1, .inl h2, q⟩
  | turnC h1 h2 _ ih => obtain ⟨m, q⟩ := ih; exact ⟨m + 1, _, h1, .inr h2, q⟩
  | brk h1 h2 => exact ⟨0, .inr ⟨h1, .inl ⟨_, h2, rfl⟩⟩⟩
  | ret h1 h2 => exact ⟨0, .inr ⟨h1, .inr (.inl ⟨_, h2, rfl⟩)⟩⟩
  | exc h1 h2 => exact ⟨0, .inr ⟨h1, .inr (.inr (.inr ⟨_, _, h2, rfl⟩))⟩⟩
  | retO h1 h2 => exact ⟨0, .inr ⟨h1, .inr (.inr (.inl ⟨_, h2, rfl⟩))⟩⟩
theorem sx_while {body : List Stmt} (hp : PassesOwn (model X.prog X.w) X.A X.env X.xe) (h : WhileT X H0 c body ρ o) : ExS X H0 ρ (.While c body [] pos) o := fun D σ H N r k => by
  obtain ⟨m0, h0⟩ := h.count
  refine ws_of (ps_while hp pt_w pb_w) ⟨fun m σ' H' => ∃ ρ' N', Same N N' ∧ Rep X.K H0 ρ' σ' H' N' ∧ WhileN X H0 c body o m ρ', ⟨m0, ρ, N, Same.refl _, r, h0⟩, ?_⟩
  rintro m σ' H' ⟨ρ', N', s, r', w⟩
  cases m with
  | zero =>
    rcases w with ⟨hc, eo⟩ | ⟨hc, w⟩
    · refine (hc σ' H' N' r').imp fun b H1 ⟨eb, N1, s1, n1, r1⟩ => ?_
      subst eb
      subst eo
      exact iteF (k σ' H1 N1 (s.trans n1) r1)
    · refine (hc σ' H' N' r').imp fun b H1 ⟨eb, N1, s1, n1, r1⟩ => ?_
      subst eb
      refine iteT ⟨fun _ _ => False, fun _ _ z => z.elim, ?_⟩
      rcases w with ⟨ρ1, hb, eo⟩ | ⟨d, hb, eo⟩ | ⟨d, hb, eo⟩ | ⟨n, ρ1, hb, eo⟩
      · subst eo
        exact hb _ σ' H1 N1 r1 fun σ2 H2 N2 s2 r2 => k σ2 H2 N2 ((s.trans n1).trans s2) r2
      · subst eo
        exact hb _ σ' H1 N1 r1 (Cont.mono (o := .rt d) k (s.trans n1))
      · subst eo
        exact hb _ σ' H1 N1 r1 (Cont.mono (o := .ro d) k (s.trans n1))
      · subst eo
        exact hb _ σ' H1 N1 r1 (Cont.mono (o := .ex n ρ1) k (s.trans n1))
  | succ m =>
    obtain ⟨ρ1, hc, hb, w⟩ := w
    refine (hc σ' H' N' r').imp fun b H1 ⟨eb, N1, s1, n1, r1⟩ => ?_
    subst eb
    refine iteT ⟨fun σ2 H2 => ∃ N2, Same N N2 ∧ Rep X.K H0 ρ1 σ2 H2 N2, fun σ2 H2 ⟨N2, s2, r2⟩ => ⟨m, Nat.lt_succ_self m, ρ1, N2, s2, r2, w⟩, ?_⟩
    rcases hb with hb | hb
    · exact hb _ σ' H1 N1 r1 fun σ2 H2 N2 s2 r2 => ⟨N2, (s.trans n1).trans s2, r2⟩
    · exact hb _ σ' H1 N1 r1 fun σ2 H2 N2 s2 r2 => ⟨N2, (s.trans n1).trans s2, r2⟩


/-! ### what is walked -/
/-- it goes through ds -/
def Walks (K : PySem.W.Frag) (H0 : Hp) (J : It) (N1 : Hp) (ds : List Dat) : Prop := ∀ (H0' : Hp) (ρ : Env') (σ : L2.St) (H N : Hp) (i : Nat), Same H0 H0' → Same N1 N → Rep K H0' ρ σ H N →
  (i < ds.length → J.go i H ∧ ∀ x H', J.yld i H x H' → ∃ N' d, Same N N' ∧ Same H H' ∧ Rep K H0' ρ σ H' N' ∧ ds[i]? = some d ∧ At K N' x d) ∧ (i = ds.length → J.stop i H)
def Iter (X : Cx) (H0 : Hp) (ρ : Env') (t e : Expr) (ds : List Dat) : Prop := ∃ wi, PI X t e wi ∧ ∀ σ H N, Rep X.K H0 ρ σ H N → ∀ R, (∀ J H1 N1, Same N N1 → Same H H1 → Rep X.K H0 ρ σ H1 N1 → Walks X.K H0 J N1 ds → R J H1) → wi σ H R
theorem it_list {t : Expr} (h : Ev X H0 ρ e (.lst ds)) : Iter X H0 ρ t e ds := ⟨_, pi_list pe_w, fun σ H N r R k => (h σ H N r).imp fun v H' ⟨N', s, n, r', a⟩ => by
  obtain ⟨p, vs, rfl, h1, h2⟩ := at_lst a
  refine ⟨p, rfl, ⟨vs, sql_same r'.sub h1⟩, k _ H' N' n s r' fun H02 ρ2 σ2 H2 N2 i s02 s2 r2 => ⟨fun hi => ?_, fun hi => ⟨vs, sql_same (s2.trans r2.sub) h1, by rw [h2.length]; exact Nat.le_of_eq hi.symm⟩⟩⟩
  have hv : i < vs.length := by rw [h2.length]; exact hi
  refine ⟨⟨vs, vs[i], sql_same (s2.trans r2.sub) h1, by simp [hv]⟩, fun x H3 y => ?_⟩
  obtain ⟨rfl, y⟩ := y
  obtain ⟨d, e1, e2⟩ := h2.getV (y vs (sql_same (s2.trans r2.sub) h1))
  exact ⟨N2, d, Same.refl _, Same.refl _, r2, e1, e2.mono s2⟩⟩
theorem it_ol (i : Nat) {t : Expr} {x : Str} (h : ρ[i]? = some (.ol (.lst ds))) (f : flats ds = true) (hN : X.N[i]? = some x := by rfl) (hv : Vis X.env.scope x := by first | exact Or.inl rfl | exact Or.inr (Or.inl rfl) | exact Or.inr (Or.inr rfl)) (hd : (x == ("__debug__" : Str)) = false := by decide)
    (hcd : (x == ("__classdict__" : Str)) = false := by decide) : Iter X H0 ρ t (.Name x pos) ds := ⟨_, pi_list (pv i hN hv hd hcd), fun σ H N r R k => by
  obtain ⟨v, e1, a⟩ := r.ol i _ h
  obtain ⟨p, vs, rfl, h1, h2⟩ := at_lst a
  refine ⟨_, e1, p, rfl, ⟨vs, sql_same r.old h1⟩, k _ H N (Same.refl _) (Same.refl _) r fun H02 ρ2 σ2 H2 N2 j s02 s2 r2 => ⟨fun hi => ?_, fun hi => ⟨vs, sql_same (s02.trans r2.old) h1, by rw [h2.length]; exact Nat.le_of_eq hi.symm⟩⟩⟩
  have hv : j < vs.length := by rw [h2.length]; exact hi
  refine ⟨⟨vs, vs[j], sql_same (s02.trans r2.old) h1, by simp [hv]⟩, fun x H3 y => ?_⟩
  obtain ⟨rfl, y⟩ := y
  obtain ⟨d, e2, e3⟩ := (h2.imm f).getV (y vs (sql_same (s02.trans r2.old) h1))
  exact ⟨N2, d, Same.refl _, Same.refl _, r2, e2, (e3.mono (imm_same s02)).mono r2.imm⟩⟩
theorem it_tup {t : Expr} (h : Ev X H0 ρ e (.tup ds)) : Iter X H0 ρ t e ds := ⟨_, pi_tup pe_w, fun σ H N r R k => (h σ H N r).imp fun v H' ⟨N', s, n, r', a⟩ => by
  obtain ⟨p, vs, rfl, h1, h2⟩ := at_seq a
  refine ⟨p, rfl, ⟨vs, sqt_same r'.sub h1⟩, k _ H' N' n s r' fun H02 ρ2 σ2 H2 N2 i s02 s2 r2 => ⟨fun hi => ?_, fun hi => ⟨vs, sqt_same (s2.trans r2.sub) h1, by rw [h2.length]; exact Nat.le_of_eq hi.symm⟩⟩⟩
  have hv : i < vs.length := by rw [h2.length]; exact hi
  refine ⟨⟨vs, vs[i], sqt_same (s2.trans r2.sub) h1, by simp [hv]⟩, fun x H3 y => ?_⟩
  obtain ⟨rfl, y⟩ := y
  obtain ⟨d, e1, e2⟩ := h2.getV (y vs (sqt_same (s2.trans r2.sub) h1))
  exact ⟨N2, d, Same.refl _, Same.refl _, r2, e1, e2.mono s2⟩⟩
/-- the signs of a text, each a text -/
def signs (z : Str) : List Dat := z.cps.toList.map fun c => .str ⟨#[c]⟩
theorem it_str {t : Expr} {z : Str} (h : Ev X H0 ρ e (.str z)) : Iter X H0 ρ t e (signs z) := ⟨_, pi_str pe_w, fun σ H N r R k => (h σ H N r).imp fun v H' ⟨N', s, n, r', a⟩ => by
  refine ⟨z, at_str a, k _ H' N' n s r' fun H02 ρ2 σ2 H2 N2 i s02 s2 r2 => ⟨fun hi => ?_, fun hi => ?_⟩⟩
  · have hz : i < z.cps.size := by simpa [signs] using hi
    refine ⟨hz, fun x H3 y => ?_⟩
    obtain ⟨rfl, c, y1, rfl⟩ := y
    refine ⟨N2, .str ⟨#[c]⟩, Same.refl _, Same.refl _, r2, ?_, .str _⟩
    unfold signs
    rw [List.getElem?_map, Array.getElem?_toList, y1]
    rfl
  · show z.cps.size ≤ i
    rw [hi]
    simp [signs]⟩
/-- lo, lo + c, .. -/
def steps (lo c : Int) (n : Nat) : List Dat := (List.range n).map fun i : Nat => .int (lo + (i : Int) * c)
theorem steps_len {lo c : Int} {n : Nat} : (steps lo c n).length = n := by simp [steps]
theorem steps_get {lo c : Int} {n i : Nat} (h : i < n) : (steps lo c n)[i]? = some (.int (lo + (i : Int) * c)) := by
  unfold steps
  rw [List.getElem?_map, List.getElem?_range h]
  rfl
theorem wlk_r {K : PySem.W.Frag} {lo : Int} {n : Nat} {N1 : Hp} : Walks K H0 (Itr lo n) N1 (steps lo 1 n) := fun H02 ρ2 σ2 H2 N2 i s02 s2 r2 => by
  refine ⟨fun hi => ?_, fun hi => by rw [steps_len] at hi; exact Nat.le_of_eq hi.symm⟩
  rw [steps_len] at hi
  refine ⟨hi, fun x H3 y => ?_⟩
  obtain ⟨rfl, rfl⟩ := y
  exact ⟨N2, _, Same.refl _, Same.refl _, r2, steps_get hi, by rw [Int.mul_one]; exact .int _⟩
theorem wlk_c {K : PySem.W.Frag} {lo c : Int} {n : Nat} {N1 : Hp} : Walks K H0 (Itc lo c n) N1 (steps lo c n) := fun H02 ρ2 σ2 H2 N2 i s02 s2 r2 => by
  refine ⟨fun hi => ?_, fun hi => by rw [steps_len] at hi; exact Nat.le_of_eq hi.symm⟩
  rw [steps_len] at hi
  refine ⟨hi, fun x H3 y => ?_⟩
  obtain ⟨rfl, rfl⟩ := y
  exact ⟨N2, _, Same.refl _, Same.refl _, r2, steps_get hi, .int _⟩
theorem ats1 {K : PySem.W.Frag} {H : Hp} {vs : List V} {i : Int} (h : Ats K H vs [.int i]) : vs = [.int i] := Ats.ints (ns := [i]) h
theorem ats2 {K : PySem.W.Frag} {H : Hp} {vs : List V} {i j : Int} (h : Ats K H vs [.int i, .int j]) : vs = [.int i, .int j] := Ats.ints (ns := [i, j]) h
theorem ats3 {K : PySem.W.Frag} {H : Hp} {vs : List V} {i j k : Int} (h : Ats K H vs [.int i, .int j, .int k]) : vs = [.int i, .int j, .int k] := Ats.ints (ns := [i, j, k]) h
theorem it_range1 {t : Expr} {p : Pos} {j : Int} (h : Ev X H0 ρ a (.int j)) (b1 : -(2 ^ 62) ≤ j) (b2 : j < 2 ^ 62) (hm : X.mg "range" = none) (hg : Gl X "range" := by rfl) (hs : starEach [a] X.env = [(false, eval a X.env)] := by rfl) :
    Iter X H0 ρ t (.Call (.Name "range" p) [a] [] pos) (steps 0 1 j.toNat) := ⟨_, pi_range1 hg hm pa_w hs, fun σ H N r R k => (ea_cons h ea_nil (hs := hs) σ H N r).imp fun vs H' ⟨N', s, n, r', q⟩ => ⟨j, ats1 q, b1, b2, k _ H' N' n s r' wlk_r⟩⟩
theorem it_range2 {t : Expr} {p : Pos} {i j : Int} (h : Ev X H0 ρ a (.int i)) (h2 : Ev X H0 ρ b (.int j)) (bb : -(2 ^ 62) ≤ i ∧ i < 2 ^ 62 ∧ -(2 ^ 62) ≤ j ∧ j < 2 ^ 62) (hm : X.mg "range" = none) (hg : Gl X "range" := by rfl)
    (hs : starEach [a, b] X.env = [(false, eval a X.env), (false, eval b X.env)] := by rfl) (hs2 : starEach [b] X.env = [(false, eval b X.env)] := by rfl) :
    Iter X H0 ρ t (.Call (.Name "range" p) [a, b] [] pos) (steps i 1 (j - i).toNat) := ⟨_, pi_range2 hg hm pa_w hs hs2, fun σ H N r R k => (ea_cons h (ea_cons h2 ea_nil (hs := hs2)) (hs := by rw [hs, hs2]) σ H N r).imp fun vs H' ⟨N', s, n, r', q⟩ => ⟨i, j, ats2 q, bb, k _ H' N' n s r' wlk_r⟩⟩
theorem it_range3 {t : Expr} {p : Pos} {i j c' : Int} {n : Nat} (h : Ev X H0 ρ a (.int i)) (h2 : Ev X H0 ρ b (.int j)) (h3 : Ev X H0 ρ c (.int c')) (hr : RgC i j c' n) (hm : X.mg "range" = none) (hg : Gl X "range" := by rfl)
    (hs : ∀ l, PA X [a, b, c] l → PI X t (.Call (.Name "range" p) [a, b, c] [] pos) (iRng3 l) := by exact fun _ h => pi_range3 rfl (by assumption) h) (s1 : starEach [a, b, c] X.env = (false, eval a X.env) :: starEach [b, c] X.env := by rfl) (s2 : starEach [b, c] X.env = (false, eval b X.env) :: starEach [c] X.env := by rfl) (s3 : starEach [c] X.env = (false, eval c X.env) :: starEach [] X.env := by rfl) :
    Iter X H0 ρ t (.Call (.Name "range" p) [a, b, c] [] pos) (steps i c' n) := ⟨_, hs _ pa_w, fun σ H N r R k => (ea_cons h (ea_cons h2 (ea_cons h3 ea_nil (hs := s3)) (hs := s2)) (hs := s1) σ H N r).imp fun vs H' ⟨N', s, n', r', q⟩ => ⟨i, j, c', n, ats3 q, hr, k _ H' N' n' s r' wlk_c⟩⟩

/-! ### for -/
/-- what a target makes of an item: the names' entries -/
structure Tgt (X : Cx) (H0 : Hp) (t : Expr) (ok : Dat → Prop) (B : Dat → Env' → Env') : Prop where
  pg : ∃ g, PG X t g ∧ ∀ (ρ : Env') (σ : L2.St) (H N : Hp) (v : V) (d : Dat), Rep X.K H0 ρ σ H N → At X.K N v d → ok d → ∀ Q, (∀ σ' H' N', Same N N' → Rep X.K H0 (B d ρ) σ' H' N' → Q σ' H') → g v σ H Q
theorem tg_name (i : Nat) {x : Str} (nd : X.N.Nodup) (hi : X.N[i]? = some x := by rfl) (hx : Loc X.env.scope x := by first | exact Or.inl rfl | exact Or.inr rfl)
    (hf : X.fn x = true ∨ X.env.scope.names.lookup x = some .local := by first | exact .inl rfl | exact .inr rfl | assumption) : Tgt X H0 (.Name x pos) (fun _ => True) (fun d ρ => ρ.set i (.im d)) :=
  ⟨gName i, pg_name nd hi hx hf, fun ρ σ H N v d r a _ Q k => k _ H N (Same.refl _) (r.setE (e := .im d) a)⟩
/-- the turns of a for, what is left to be walked first -/
inductive ForT (X : Cx) (H0 : Hp) (B : Dat → Env' → Env') (body : List Stmt) : List Dat → Env' → Outc → Prop where
  | nil {ρ : Env'} : ForT X H0 B body [] ρ (.nx ρ)
  | turn {ρ ρ1 : Env'} {d : Dat} {ds : List Dat} {o : Outc} : Exec X H0 (B d ρ) body (.nx ρ1) → ForT X H0 B body ds ρ1 o → ForT X H0 B body (d :: ds) ρ o
  | turnC {ρ ρ1 : Env'} {d : Dat} {ds : List Dat} {o : Outc} : Exec X H0 (B d ρ) body (.ct ρ1) → ForT X H0 B body ds ρ1 o → ForT X H0 B body (d :: ds) ρ o
  | brk {ρ ρ1 : Env'} {d : Dat} {ds : List Dat} : Exec X H0 (B d ρ) body (.bk ρ1) → ForT X H0 B body (d :: ds) ρ (.nx ρ1)
  | ret {ρ : Env'} {d r : Dat} {ds : List Dat} : Exec X H0 (B d ρ) body (.rt r) → ForT X H0 B body (d :: ds) ρ (.rt r)
  | exc {ρ ρ1 : Env'} {d : Dat} {ds : List Dat} {n : Str} : Exec X H0 (B d ρ) body (.ex n ρ1) → ForT X H0 B body (d :: ds) ρ (.ex n ρ1)
  | retO {ρ : Env'} {d r : Dat} {ds : List Dat} : Exec X H0 (B d ρ) body (.ro r) → ForT X H0 B body (d :: ds) ρ (.ro r)
theorem sx_for {t iter : Expr} {body : List Stmt} {bd : Dat → Env' → Env'} {ok : Dat → Prop} (hp : PassesOwn (model X.prog X.w) X.A X.env X.xe) (hc : X.calm = true) (hi : Iter X H0 ρ t iter ds) (hg : Tgt X H0 t ok bd) (hk : ∀ d ∈ ds, ok d) (h : ForT X H0 bd body ds ρ o)
    (hs : ∀ x, foldedSetIterable iter X.env x = pure x := by intro _; rfl) : ExS X H0 ρ (.For t iter body [] pos) o := fun D σ H N r k => by
  obtain ⟨wi, pi, hw⟩ := hi
  obtain ⟨g, pg, hgg⟩ := hg.pg
  refine ws_of (ps_for hp hc pi pg pb_w hs) (hw σ H N r _ fun J H1 N1 n1 s1 r1 w => ?_)
  refine ⟨fun i m σ' H' => m = ds.length - i ∧ i ≤ ds.length ∧ ∃ ρ' N', Same N1 N' ∧ Rep X.K H0 ρ' σ' H' N' ∧ ForT X H0 bd body (ds.drop i) ρ' o, ⟨_, rfl, Nat.zero_le _, ρ, N1, Same.refl _, r1, h⟩, ?_⟩
  rintro i m σ' H' ⟨rfl, hi, ρ', N', s', r', f⟩
  obtain ⟨wg, wst⟩ := w H0 ρ' σ' H' N' i (Same.refl _) s' r'
  by_cases hlt : i < ds.length
  · obtain ⟨go, yl⟩ := wg hlt
    have e1 : ds.drop i = ds[i] :: ds.drop (i + 1) := List.drop_eq_getElem_cons hlt
    rw [e1] at f
    have base : ∀ (O : Outc) (Dx : Ends), Exec X H0 (bd ds[i] ρ') body O → (∀ N3, Same N1 N3 → Cont X H0 N3 Dx O) → ∀ x H2, J.yld i H' x H2 → g x σ' H2 fun σ3 H3 => WB X body Dx σ3 H3 := fun O Dx ex kk x H2 y => by
      obtain ⟨N3, d, n3, s3, r3, e3, a3⟩ := yl x H2 y
      have ed : d = ds[i] := by
        rw [List.getElem?_eq_getElem hlt] at e3
        exact (Option.some.inj e3).symm
      subst ed
      exact hgg ρ' σ' H2 N3 x _ r3 a3 (hk _ (List.getElem_mem hlt)) _ fun σ4 H4 N4 n4 r4 => ex Dx σ4 H4 N4 r4 (kk N4 ((s'.trans n3).trans n4))
    have again : ∀ ρ1, ForT X H0 bd body (ds.drop (i + 1)) ρ1 o → ∀ σ3 H3, (∃ N3, Same N1 N3 ∧ Rep X.K H0 ρ1 σ3 H3 N3) → ∃ m', m' < ds.length - i ∧ m' = ds.length - (i + 1) ∧ i + 1 ≤ ds.length ∧ ∃ ρ' N', Same N1 N' ∧ Rep X.K H0 ρ' σ3 H3 N' ∧ ForT X H0 bd body (ds.drop (i + 1)) ρ' o :=
      fun ρ1 ff σ3 H3 ⟨N3, q1, q2⟩ => ⟨ds.length - (i + 1), by omega, rfl, hlt, ρ1, N3, q1, q2, ff⟩
    cases f with
    | @turn _ ρ1 _ _ _ ex ff => exact .inr ⟨go, fun σ3 H3 => ∃ N3, Same N1 N3 ∧ Rep X.K H0 ρ1 σ3 H3 N3, again ρ1 ff, base (.nx ρ1) _ ex fun N3 q3 σ3 H3 N4 q4 r4 => ⟨N4, q3.trans q4, r4⟩⟩
    | @turnC _ ρ1 _ _ _ ex ff => exact .inr ⟨go, fun σ3 H3 => ∃ N3, Same N1 N3 ∧ Rep X.K H0 ρ1 σ3 H3 N3, again ρ1 ff, base (.ct ρ1) _ ex fun N3 q3 σ3 H3 N4 q4 r4 => ⟨N4, q3.trans q4, r4⟩⟩
    | @brk _ ρ1 _ _ ex => exact .inr ⟨go, fun _ _ => False, fun _ _ z => z.elim, base (.bk ρ1) _ ex fun N3 q3 σ3 H3 N4 q4 r4 => k σ3 H3 N4 ((n1.trans q3).trans q4) r4⟩
    | ret ex => exact .inr ⟨go, fun _ _ => False, fun _ _ z => z.elim, base _ _ ex fun N3 q3 => Cont.mono (o := .rt _) k (n1.trans q3)⟩
    | retO ex => exact .inr ⟨go, fun _ _ => False, fun _ _ z => z.elim, base _ _ ex fun N3 q3 => Cont.mono (o := .ro _) k (n1.trans q3)⟩
    | @exc _ ρ1 _ _ n ex => exact .inr ⟨go, fun _ _ => False, fun _ _ z => z.elim, base (.ex n ρ1) _ ex fun N3 q3 => Cont.mono (o := .ex n ρ1) k (n1.trans q3)⟩
  · have e1 : i = ds.length := by omega
    subst e1
    rw [List.drop_length] at f
    cases f
    exact .inl ⟨wst rfl, k σ' H' N' (n1.trans s') r'⟩
end
end B

namespace B
open PySem PySem.Spec PyProof.Rows L2

/-! ### what a def does: R of the data handed in and of its end -/
inductive Res where
  | val (d : Dat)
  /-- a new list or dict, the caller's own -/
  | own (d : Dat)
  | exc (n : Str)
def spR (K : PySem.W.Frag) (mg : Str → Option Value) (R : List Dat → Res → Prop) : Sp := fun vs H Q E => ∃ ds o, R ds o ∧ Ats K H vs ds ∧ match o with
  | .val d => ∀ v H', Same H H' → Ret K H v d H' → Q v H'
  | .own d => ∀ p H' N, Same H H' → Same N H' → (∀ a u, N a = some u → Mut (some u) → H a = none) → H p = none → N p = none → Own K H' N p d → Q (.ref p) H'
  | .exc n => ∀ C H', mg n = some (.ref C) → Same H H' → E (.ref C) none H'
def GFn (P : Program) (w : World) (K : PySem.W.Frag) (mg : Str → Option Value) (base : Heap) (x : Str) (k : Nat) (R : List Dat → Res → Prop) : Prop :=
  ∃ f fd ps, FnOk P w K mg base (L2.CX P w) k f fd ps (spR K mg R) ∧ mg x = some (.ref f) ∧ PySem.W.keepIn K (.ref f) = true ∧ Binds K fd ps []
/-- a def of the text as it stands behind the top -/
def Df (K : PySem.W.Frag) (mg : Str → Option Value) (x : Str) (st : Stmt) (ps : List Str) : Prop := ∃ f fd, Fun K x x st f fd ∧ mg x = some (.ref f) ∧ Binds K fd ps []

inductive Ents : List Ent → List Dat → Prop where
  | nil : Ents [] []
  | im {d : Dat} {es : List Ent} {ds : List Dat} (f : flat d = true) : Ents es ds → Ents (.im d :: es) (d :: ds)
  | ol {d : Dat} {es : List Ent} {ds : List Dat} : Ents es ds → Ents (.ol d :: es) (d :: ds)
/-- a block's end as a def's -/
def Outc.ok : Outc → Res → Prop
  | .nx _, .val .non => True
  | .rt d, .val e => d = e
  | .ex n _, .exc m => n = m
  | _, _ => False
theorem Ents.get {K : PySem.W.Frag} {H : Hp} : ∀ {es : List Ent} {ds : List Dat} {vs : List V}, Ents es ds → Ats K H vs ds → ∀ i : Nat, (es[i]? = none ∧ vs[i]? = none) ∨ ∃ v, vs[i]? = some v ∧ ((∃ d, es[i]? = some (Ent.im d) ∧ At K (Imm H) v d) ∨ ∃ d, es[i]? = some (Ent.ol d) ∧ At K H v d)
  | _, _, _, .nil, .nil, i => .inl ⟨by simp, by simp⟩
  | _, _, _, .im f _, .cons a _, 0 => .inr ⟨_, rfl, .inl ⟨_, rfl, a.imm f⟩⟩
  | _, _, _, .ol _, .cons a _, 0 => .inr ⟨_, rfl, .inr ⟨_, rfl, a⟩⟩
  | _, _, _, .im _ t, .cons _ b, i + 1 => by simpa using Ents.get t b i
  | _, _, _, .ol t, .cons _ b, i + 1 => by simpa using Ents.get t b i
theorem Ents.length : ∀ {es : List Ent} {ds : List Dat}, Ents es ds → es.length = ds.length
  | _, _, .nil => rfl
  | _, _, .im _ t => congrArg (· + 1) (Ents.length t)
  | _, _, .ol t => congrArg (· + 1) (Ents.length t)
theorem rep_start {K : PySem.W.Frag} {H : Hp} {es : List Ent} {ds : List Dat} {vs : List V} {N : List Str} (e : Ents es ds) (a : Ats K H vs ds) : Rep K H (es ++ List.replicate (N.length - vs.length) .no) (L2.start N vs) H (Imm H) := by
  have hl : es.length = vs.length := by rw [e.length, a.length]
  have geE : ∀ (i : Nat) x, (es ++ List.replicate (N.length - vs.length) Ent.no)[i]? = some x → x ≠ .no → es[i]? = some x := fun i x h n => by
    by_cases hi : i < es.length
    · rw [List.getElem?_append_left hi] at h; exact h
    · rw [List.getElem?_append_right (by omega), List.getElem?_replicate] at h
      split at h
      · cases h; exact (n rfl).elim
      · cases h
  have geV : ∀ (i : Nat) v, vs[i]? = some v → (L2.start N vs)[i]? = some (some v) := fun i v h => by
    unfold L2.start
    rw [List.getElem?_append_left (by rw [List.length_map]; exact (List.getElem?_eq_some_iff.mp h).1), List.getElem?_map, h]
    rfl
  refine ⟨Same.refl _, imm_sub H, Same.refl _, fun b u h m => (imm_not h m).elim, ?_, fun i d h => ?_, fun i d h => ?_, fun i d h => ?_, fun i d h => ?_, fun i j d d' p ne h => ?_⟩
  · unfold L2.start
    simp [hl]
  · have h1 := geE i _ h (fun z => nomatch z)
    rcases e.get a i with ⟨h2, _⟩ | ⟨v, hv, ⟨d', h2, q⟩ | ⟨d', h2, q⟩⟩
    · rw [h1] at h2; cases h2
    · rw [h1] at h2; cases h2; exact ⟨v, geV i v hv, q⟩
    · rw [h1] at h2; cases h2
  · have h1 := geE i _ h (fun z => nomatch z)
    rcases e.get a i with ⟨h2, _⟩ | ⟨v, hv, ⟨d', h2, q⟩ | ⟨d', h2, q⟩⟩
    · rw [h1] at h2; cases h2
    · rw [h1] at h2; cases h2
    · rw [h1] at h2; cases h2; exact ⟨v, geV i v hv, q⟩
  · have h1 := geE i _ h (fun z => nomatch z)
    rcases e.get a i with ⟨h2, _⟩ | ⟨v, hv, ⟨d', h2, q⟩ | ⟨d', h2, q⟩⟩ <;> (rw [h1] at h2; cases h2)
  · have h1 := geE i _ h (fun z => nomatch z)
    rcases e.get a i with ⟨h2, _⟩ | ⟨v, hv, ⟨d', h2, q⟩ | ⟨d', h2, q⟩⟩ <;> (rw [h1] at h2; cases h2)
  · have h1 := geE i _ h (fun z => nomatch z)
    rcases e.get a i with ⟨h2, _⟩ | ⟨v, hv, ⟨d', h2, q⟩ | ⟨d', h2, q⟩⟩ <;> (rw [h1] at h2; cases h2)
/-- the context of a def's body -/
abbrev XX (P : Program) (w : World) (K : PySem.W.Frag) (mg : Str → Option Value) (base : Heap) (N : List Str) (x : Str) (st : Stmt) (f : Addr) (cdv : Value) (A : Around) (outer : List PySem.Env) (s : Shared) (H : Hp) (E : XK) : Cx :=
  cxOf (L2.CX P w) P w K mg base N x (defScope st) f cdv A outer s H E
/-- a block's end as it is asked of a def's body -/
inductive Ends' (X : Cx) (H0 : Hp) (ρ : Env') (body : List Stmt) : Res → Prop where
  | ret {d : Dat} : Exec X H0 ρ body (.rt d) → Ends' X H0 ρ body (.val d)
  | non {ρ1 : Env'} : Exec X H0 ρ body (.nx ρ1) → Ends' X H0 ρ body (.val .non)
  | exc {ρ1 : Env'} {n : Str} : Exec X H0 ρ body (.ex n ρ1) → Ends' X H0 ρ body (.exc n)
  | own {d : Dat} : Exec X H0 ρ body (.ro d) → Ends' X H0 ρ body (.own d)
/-- an owned thing is handed out -/
def ExecO (X : Cx) (H0 : Hp) (ρ : Env') (sts : List Stmt) (d : Dat) : Prop := ∀ D σ H N, Rep X.K H0 ρ σ H N → (∀ p H' N', Same H0 H' → Same N' H' → (∀ a u, N' a = some u → Mut (some u) → H0 a = none) → H0 p = none → N' p = none → Own X.K H' N' p d → D.rt (.ref p) H') → WB X sts D σ H
section
variable {P : Program} {w : World} {K : PySem.W.Frag} {mg : Str → Option Value} {base : Heap} {x : Str} {st : Stmt} {ps N : List Str} {k : Nat} {R : List Dat → Res → Prop}
/-- THE RULE for a def -/
theorem GFn.mk (D : Df K mg x st ps) (S : FnScope N ps (defScope st)) (hl : ∀ ds o, R ds o → ds.length = ps.length)
    (body : ∀ (f : Addr) (cdv : Value) (A : Around) (outer : List PySem.Env) (s : Shared) (H : Hp) (E : XK), Room k (XX P w K mg base N x st f cdv A outer s H E).A → ∀ ds o, R ds o → ∃ es, Ents es ds ∧ ∀ H0, match o with
      | .own d => ExecO (XX P w K mg base N x st f cdv A outer s H E) H0 (es ++ List.replicate (N.length - ps.length) .no) (defBody st) d
      | o => Ends' (XX P w K mg base N x st f cdv A outer s H E) H0 (es ++ List.replicate (N.length - ps.length) .no) (defBody st) o) : GFn P w K mg base x (k + 1) R := by
  obtain ⟨f, fd, F, hm, hb⟩ := D
  refine ⟨f, fd, ps, ?_, hm, F.kp, hb⟩
  refine F.okX S (fun vs H Q E ⟨ds, o, hr, a, _⟩ => by rw [a.length]; exact hl ds o hr) fun cdv A outer s H vs Q E hr hsp => ?_
  obtain ⟨ds, o, hR, a, q⟩ := hsp
  obtain ⟨es, he, hbody⟩ := body f cdv A outer s H E hr ds o hR
  have hlen : vs.length = ps.length := by rw [a.length]; exact hl ds o hR
  have r : Rep K H (es ++ List.replicate (N.length - ps.length) .no) (L2.start N vs) H (Imm H) := hlen ▸ rep_start he a
  have hb := hbody H
  refine ⟨_, pb_w, ?_⟩
  cases o with
  | val d =>
    cases hb with
    | ret h => exact h { nx := fun _ H' => Q .non H', rt := Q } _ _ _ r fun v H' s _ rt => q v H' s rt
    | non h => exact h { nx := fun _ H' => Q .non H', rt := Q } _ _ _ r fun σ H' N' s r' => q .non H' r'.old ⟨N', r'.sub, r'.fresh, .non⟩
  | own d => exact hb { nx := fun _ H' => Q .non H', rt := Q } _ _ _ r fun p H' N' s1 s2 s3 s4 s5 s6 => q p H' N' s1 s2 s3 s4 s5 s6
  | exc n =>
    cases hb with
    | exc h => exact h { nx := fun _ H' => Q .non H', rt := Q } _ _ _ r ⟨_, takes_of rfl rfl rfl rfl, fun C σ H' N' hm s r' => q C H' hm r'.old⟩
end
section
variable {X : Cx} {H0 : Hp} {ρ ρ1 ρ2 : Env'} {a b c e : Expr} {es : List Expr} {st : Stmt} {sts rest : List Stmt} {d d1 d2 : Dat} {ds : List Dat} {p pos : Pos} {o o1 : Outc} {x n : Str} {k k' : Nat} {R : List Dat → Res → Prop}
theorem xo_cons (h : ExS X H0 ρ st (.nx ρ1)) (t : ExecO X H0 ρ1 rest d) : ExecO X H0 ρ (st :: rest) d := fun D σ H N r q => by
  refine wb_of (pss_cons ps_w pb_w) ?_
  show WS X st { D with nx := WB X rest D } σ H
  exact h _ σ H N r fun σ' H' N' s r' => t D σ' H' N' r' q
theorem xo_ret (h : EvO X H0 ρ e d) : ExecO X H0 ρ [.Return (some e) pos] d := fun D σ H N r q => wb_of (pss_one (ps_ret pe_w)) ((h σ H N r).imp fun v H' ⟨N', p, e1, hp, s, n, r', np, ow⟩ => by
  subst e1
  exact q p H' N' r'.old r'.sub r'.fresh (r.old.free hp) np ow)
theorem xo_own (i : Nat) (h : ρ[i]? = some (.ow d)) (hN : X.N[i]? = some x := by rfl) (hv : Vis X.env.scope x := by first | exact Or.inl rfl | exact Or.inr (Or.inl rfl) | exact Or.inr (Or.inr rfl)) (hd : (x == ("__debug__" : Str)) = false := by decide)
    (hcd : (x == ("__classdict__" : Str)) = false := by decide) {pos'} : ExecO X H0 ρ [.Return (some (.Name x pos')) pos] d := fun D σ H N r q => wb_of (pss_one (ps_ret (pv i hN hv hd hcd)))
  (let ⟨p, h1, h2, h3, h4⟩ := r.ow i d h; ⟨.ref p, h1, q p H N r.old r.sub r.fresh h2 h3 h4⟩)

/-! ### calls of the text's defs -/
theorem GFn.mono {P : Program} {w : World} {K : PySem.W.Frag} {mg : Str → Option Value} {base : Heap} (G : GFn P w K mg base x k R) (h : k ≤ k') : GFn P w K mg base x k' R := by
  obtain ⟨f, fd, ps, F, r⟩ := G
  exact ⟨f, fd, ps, F.mono h, r⟩
theorem ev_call (G : GFn X.prog X.w X.K X.mg X.base x k R) (hr : Room k X.A) (ha : EvAB X H0 ρ (e :: es) ds) (q : R ds (.val d)) (hg : Gl X x := by rfl) (hdb : (x == ("__debug__" : Str)) = false := by decide)
    (he : starEach (e :: es) X.env = (false, eval e X.env) :: starEach es X.env := by rfl) (hpl : (backTo pos (starEach es X.env)).any (·.1) = false := by rfl) : Ev X H0 ρ (.Call (.Name x p) (e :: es) [] pos) d := fun σ H N r => by
  obtain ⟨f, fd, ps, F, hm, hk, hb⟩ := G
  refine we_of (pe_call F hr hg hm hk hb .nil passL pa_w hdb he hpl) ((ha σ H N r).imp fun vs H1 ⟨N1, s1, n1, r1, a1⟩ => ⟨ds, .val d, q, by rw [List.append_nil]; exact a1, fun v H' s' rt => ?_⟩)
  obtain ⟨N2, n2, r2, a2⟩ := r1.ret s' rt
  exact ⟨N2, s1.trans s', n1.trans n2, r2, a2⟩
theorem ev_call0 (G : GFn X.prog X.w X.K X.mg X.base x k R) (hr : Room k X.A) (q : R [] (.val d)) (hg : Gl X x := by rfl) (hdb : (x == ("__debug__" : Str)) = false := by decide) : Ev X H0 ρ (.Call (.Name x p) [] [] pos) d := fun σ H N r => by
  obtain ⟨f, fd, ps, F, hm, hk, hb⟩ := G
  refine we_of (pe_call0 F hr hg hm hk hb .nil passL hdb) ⟨[], .val d, q, .nil, fun v H' s' rt => ?_⟩
  obtain ⟨N2, n2, r2, a2⟩ := r.ret s' rt
  exact ⟨N2, s', n2, r2, a2⟩
theorem eo_call (G : GFn X.prog X.w X.K X.mg X.base x k R) (hr : Room k X.A) (ha : EvAB X H0 ρ (e :: es) ds) (q : R ds (.own d)) (hg : Gl X x := by rfl) (hdb : (x == ("__debug__" : Str)) = false := by decide)
    (he : starEach (e :: es) X.env = (false, eval e X.env) :: starEach es X.env := by rfl) (hpl : (backTo pos (starEach es X.env)).any (·.1) = false := by rfl) : EvO X H0 ρ (.Call (.Name x p) (e :: es) [] pos) d := fun σ H N r => by
  obtain ⟨f, fd, ps, F, hm, hk, hb⟩ := G
  refine we_of (pe_call F hr hg hm hk hb .nil passL pa_w hdb he hpl) ((ha σ H N r).imp fun vs H1 ⟨N1, s1, n1, r1, a1⟩ => ⟨ds, .own d, q, by rw [List.append_nil]; exact a1, fun p H' M s' m1 m2 m3 m4 ow => ?_⟩)
  have mN : N1 p = none := r1.sub.free m3
  have r1' := r1.grow s'
  have bp : both N1 M p = none := by unfold both; rw [if_pos mN]; exact m4
  refine ⟨both N1 M, p, rfl, s1.free m3, s1.trans s', n1.trans (both_l _ _), r1'.more (both_l N1 M) (both_sub r1'.sub m1) (fun a o h m => ?_) (fun i d q h1 h2 h3 => ?_), bp, ?_⟩
  · unfold both at h
    split at h
    · exact r1.old.free (m2 a o h m)
    · exact r1.fresh a o h m
  · unfold both
    rw [if_pos h3]
    obtain ⟨p', o', e1, e2, m⟩ := r1.own_some h1
    rw [h2] at e1
    cases e1
    cases z : M q with
    | none => rfl
    | some u =>
      have e3 := m1 q u z
      rw [s' _ _ e2] at e3
      cases e3
      have := m2 q _ z m
      rw [e2] at this
      cases this
  · cases d with
    | lst ds => obtain ⟨vs, q1, q2⟩ := ow; exact ⟨vs, q1, q2.mono (both_r r1'.sub m1)⟩
    | dic ds => obtain ⟨vs, q1, q2⟩ := ow; exact ⟨vs, q1, q2.mono (both_r r1'.sub m1)⟩
    | dit ks ds => obtain ⟨vs, q1, ql, q2⟩ := ow; exact ⟨vs, q1, ql, q2.mono (both_r r1'.sub m1)⟩
    | _ => exact ow
theorem exc_call (G : GFn X.prog X.w X.K X.mg X.base x k R) (hr : Room k X.A) (ha : EvAB X H0 ρ (e :: es) ds) (q : R ds (.exc n)) (hg : Gl X x := by rfl) (hdb : (x == ("__debug__" : Str)) = false := by decide)
    (he : starEach (e :: es) X.env = (false, eval e X.env) :: starEach es X.env := by rfl) (hpl : (backTo pos (starEach es X.env)).any (·.1) = false := by rfl) : EvX X H0 ρ (.Call (.Name x p) (e :: es) [] pos) n := fun σ H N r W tk kw Q => by
  obtain ⟨f, fd, ps, F, hm, hk, hb⟩ := G
  refine we_of (pe_callS F hr hg hm hk hb (fun σ => passAt tk σ) pa_w hdb he hpl) ((ha σ H N r).imp fun vs H1 ⟨N1, s1, n1, r1, a1⟩ => ⟨ds, .exc n, q, a1, fun C H' hC s' => ?_⟩)
  exact kw C H' N1 hC n1 (r1.grow s')
/-! .. that raise -/
theorem sx_retX (h : EvX X H0 ρ e n) : ExS X H0 ρ (.Return (some e) pos) (.ex n ρ) := fun D σ H N r ⟨W, tk, q⟩ => ws_of (ps_ret pe_w) (h σ H N r W tk (fun C H' N' hC s r' => q C σ H' N' hC s r') _)
theorem sx_exprX (h : EvX X H0 ρ e n) (hs : swapsWith e none pos.line X.env = pure false := by rfl) : ExS X H0 ρ (.Expr e pos) (.ex n ρ) := fun D σ H N r ⟨W, tk, q⟩ => ws_of (ps_expr pe_w hs) (h σ H N r W tk (fun C H' N' hC s r' => q C σ H' N' hC s r') _)
theorem sx_setX {i : Nat} {x : Str} {pos' : Pos} (h : EvX X H0 ρ e n) (nd : X.N.Nodup) (hi : X.N[i]? = some x := by rfl) (hx : Loc X.env.scope x := by first | exact Or.inl rfl | exact Or.inr rfl)
    (hs : swapsWith e (some (.Name x pos')) pos.line X.env = pure false := by rfl) (hf : X.fn x = true ∨ X.env.scope.names.lookup x = some .local := by first | exact .inl rfl | exact .inr rfl | assumption) : ExS X H0 ρ (.Assign [.Name x pos'] e pos) (.ex n ρ) := fun D σ H N r ⟨W, tk, q⟩ =>
  ws_of (ps_set nd hi hx pe_w hs hf) (h σ H N r W tk (fun C H' N' hC s r' => q C σ H' N' hC s r') _)
theorem sx_asgX {t : Expr} {ok : Dat → Prop} {bd : Dat → Env' → Env'} (h : EvX X H0 ρ e n) (hg : Tgt X H0 t ok bd) (hs : swapsWithSole [t] e pos.line X.env = pure false := by rfl) (hw : swappedStores [t] e X.env = pure none := by rfl)
    (h1 : (assignEach [t] X.env).map (·.2) = [assign t X.env] := by rfl) : ExS X H0 ρ (.Assign [t] e pos) (.ex n ρ) := fun D σ H N r ⟨W, tk, q⟩ => by
  obtain ⟨g, pg, _⟩ := hg.pg
  exact ws_of (ps_asg pe_w pg hs hw h1) (h σ H N r W tk (fun C H' N' hC s r' => q C σ H' N' hC s r') _)
theorem sx_asg {t : Expr} {ok : Dat → Prop} {bd : Dat → Env' → Env'} (h : Ev X H0 ρ e d) (hg : Tgt X H0 t ok bd) (hk : ok d) (hρ : bd d ρ = ρ1 := by rfl) (hs : swapsWithSole [t] e pos.line X.env = pure false := by rfl) (hw : swappedStores [t] e X.env = pure none := by rfl)
    (h1 : (assignEach [t] X.env).map (·.2) = [assign t X.env] := by rfl) : ExS X H0 ρ (.Assign [t] e pos) (.nx ρ1) := fun D σ H N r q => by
  obtain ⟨g, pg, gg⟩ := hg.pg
  exact ws_of (ps_asg pe_w pg hs hw h1) ((h σ H N r).imp fun v H' ⟨N', s, n, r', a⟩ => gg ρ σ H' N' v d r' a hk _ fun σ2 H2 N2 n2 r2 => q σ2 H2 N2 (n.trans n2) (hρ ▸ r2))
/-- (a, b) = a pair -/
theorem tg_pair (i j : Nat) {y z : Str} {p1 p2 : Pos} {kk : Nat} (nd : X.N.Nodup) (hc : X.calm = true) (hi : X.N[i]? = some y := by rfl) (hj : X.N[j]? = some z := by rfl) (hx : Loc X.env.scope y := by first | exact Or.inl rfl | exact Or.inr rfl) (hx2 : Loc X.env.scope z := by first | exact Or.inl rfl | exact Or.inr rfl)
    (hf : X.fn y = true ∨ X.env.scope.names.lookup y = some .local := by first | exact .inl rfl | exact .inr rfl | assumption) (hf2 : X.fn z = true ∨ X.env.scope.names.lookup z = some .local := by first | exact .inl rfl | exact .inr rfl | assumption)
    (hn : (assignEach [Expr.Name y p1, .Name z p2] X.env).length = 2 := by rfl) (hst : (assignEach [Expr.Name y p1, .Name z p2] X.env).findIdx? (·.1) = none := by rfl)
    (h1 : (assignEach [Expr.Name y p1, .Name z p2] X.env).map (·.2) = assign (.Name y p1) X.env :: (assignEach [Expr.Name z p2] X.env).map (·.2) := by rfl) (h2 : (assignEach [Expr.Name z p2] X.env).map (·.2) = assign (.Name z p2) X.env :: (assignEach [] X.env).map (·.2) := by rfl) :
    Tgt X H0 (.Tuple [.Name y p1, .Name z p2] kk pos) (fun d => ∃ a b, d = .tup [a, b]) (fun d ρ => match d with | .tup [a, b] => (ρ.set i (.im a)).set j (.im b) | _ => ρ) := by
  refine ⟨_, pg_tup hc (pgs_cons (pg_name nd hi hx hf) (pgs_cons (pg_name nd hj hx2 hf2) pgs_nil h2) h1) hn hst, fun ρ σ H N v d r a ok Q k => ?_⟩
  obtain ⟨d1, d2, rfl⟩ := ok
  obtain ⟨p, vs, rfl, q1, q2⟩ := at_seq a
  cases q2 with
  | cons a1 t =>
    cases t with
    | cons a2 t2 =>
      cases t2
      exact ⟨p, _, rfl, sqt_same r.sub q1, rfl, _, _, rfl, _, _, rfl, rfl, k _ H N (Same.refl _) ((r.setE (e := .im d1) a1).setE (e := .im d2) a2)⟩
/-- a, b = x, y -/
theorem sx_par (i j : Nat) {y z : Str} {px py pt : Pos} {kt k2 pt2} (ha : Ev X H0 ρ a d1) (hb : Ev X H0 ρ b d2) (nd : X.N.Nodup) (hc : X.calm = true) (hij : i ≠ j) (hρ : (ρ.set i (.im d1)).set j (.im d2) = ρ1 := by rfl) (hi : X.N[i]? = some y := by rfl) (hj : X.N[j]? = some z := by rfl)
    (hx : X.env.scope.names.lookup y = some .local := by rfl) (hy : X.env.scope.names.lookup z = some .local := by rfl) (hw : swappedStores [.Tuple [.Name y px, .Name z py] kt pt] (.Tuple [a, b] k2 pt2) X.env = pure (some [y, z]) := by rfl)
    (hs : swapsWithSole [.Tuple [.Name y px, .Name z py] kt pt] (.Tuple [a, b] k2 pt2) pos.line X.env = pure false := by rfl) (h1 : starEach [a, b] X.env = (false, eval a X.env) :: starEach [b] X.env := by rfl) (h2 : starEach [b] X.env = (false, eval b X.env) :: starEach [] X.env := by rfl) :
    ExS X H0 ρ (.Assign [.Tuple [.Name y px, .Name z py] kt pt] (.Tuple [a, b] k2 pt2) pos) (.nx ρ1) := fun D σ H N r q =>
  ws_of (ps_par hc nd hi hj hij hx hy pa_w hw hs) ((ea_cons ha (ea_cons hb ea_nil (hs := h2)) (hs := h1) σ H N r).imp fun vs H' ⟨N', s, n, r', a⟩ => by
    cases a with
    | cons a1 t =>
      cases t with
      | cons a2 t2 =>
        cases t2
        exact ⟨_, _, rfl, q _ H' N' n (hρ ▸ (r'.setE (e := .im d1) a1).setE (e := .im d2) a2)⟩)

/-! ### calls of built-ins -/
theorem ev_blt {r : List V → Hp → VK → Prop} {id : String} (cr : CallR X (.builtin id) r) (hm : X.mg x = none) (hv : bootBuiltins x = some (.builtin id)) (ha : EvAB X H0 ρ (e :: es) ds)
    (hr : ∀ vs σ H N Q, Rep X.K H0 ρ σ H N → Ats X.K H vs ds → Goes X.K H0 ρ σ H N d Q → r vs H Q) (hg : Gl X x := by rfl) (hn : x ≠ "__name__" := by decide) (hdb : (x == ("__debug__" : Str)) = false := by decide)
    (he : starEach (e :: es) X.env = (false, eval e X.env) :: starEach es X.env := by rfl) (hpl : (backTo pos (starEach es X.env)).any (·.1) = false := by rfl) : Ev X H0 ρ (.Call (.Name x p) (e :: es) [] pos) d := fun σ H N rp =>
  we_of (pe_callB cr hg hm hv pa_w hn hdb he hpl) ((ha σ H N rp).imp fun vs H1 ⟨N1, s1, n1, r1, a1⟩ => hr vs σ H1 N1 _ r1 a1 fun v H' N' s n rr aa => ⟨N', s1.trans s, n1.trans n, rr, aa⟩)
theorem ev_ty {r : List V → Hp → VK → Prop} {T : String} (cr : CallR X (.type T) r) (hm : X.mg x = none) (hv : bootBuiltins x = some (.type T)) (ha : EvAB X H0 ρ (e :: es) ds)
    (hr : ∀ vs σ H N Q, Rep X.K H0 ρ σ H N → Ats X.K H vs ds → Goes X.K H0 ρ σ H N d Q → r vs H Q) (hg : Gl X x := by rfl) (hn : x ≠ "__name__" := by decide) (hdb : (x == ("__debug__" : Str)) = false := by decide)
    (he : starEach (e :: es) X.env = (false, eval e X.env) :: starEach es X.env := by rfl) (hpl : (backTo pos (starEach es X.env)).any (·.1) = false := by rfl) : Ev X H0 ρ (.Call (.Name x p) (e :: es) [] pos) d := fun σ H N rp =>
  we_of (pe_callTy cr hg hm hv pa_w hn hdb he hpl) ((ha σ H N rp).imp fun vs H1 ⟨N1, s1, n1, r1, a1⟩ => hr vs σ H1 N1 _ r1 a1 fun v H' N' s n rr aa => ⟨N', s1.trans s, n1.trans n, rr, aa⟩)
def dlen : Dat → Option Nat
  | .str z => if z.length ≤ sizeLine then some z.length else none
  | .tup ds => some ds.length
  | .lst ds => some ds.length
  | _ => none
theorem at_len {K : PySem.W.Frag} {H : Hp} {v : V} {m : Nat} (h : At K H v d) (e : dlen d = some m) : LenV K v H m := by
  cases h with
  | str z =>
    by_cases hz : z.length ≤ sizeLine
    · rw [show dlen (.str z) = some z.length from if_pos hz] at e
      cases e
      exact ⟨hz, rfl⟩
    · rw [show dlen (.str z) = none from if_neg hz] at e
      cases e
  | tup a b => cases e; exact .inr ⟨_, a, b.length.symm⟩
  | lst a b => cases e; exact .inl ⟨_, a, b.length.symm⟩
  | _ => cases e
section one
variable {hs : starEach [a] X.env = (false, eval a X.env) :: starEach [] X.env}
theorem eab1 (h : EvB X H0 ρ a d) (hs : starEach [a] X.env = (false, eval a X.env) :: starEach [] X.env) : EvAB X H0 ρ [a] [d] := eab_cons h eab_nil hs
end one
theorem ats_one {K : PySem.W.Frag} {H : Hp} {vs : List V} (h : Ats K H vs [d]) : ∃ v, vs = [v] ∧ At K H v d := by
  cases h with | cons a t => cases t; exact ⟨_, rfl, a⟩
theorem ats_two {K : PySem.W.Frag} {H : Hp} {vs : List V} (h : Ats K H vs [d1, d2]) : ∃ v w, vs = [v, w] ∧ At K H v d1 ∧ At K H w d2 := by
  cases h with | cons a t => cases t with | cons b t2 => cases t2; exact ⟨_, _, rfl, a, b⟩
theorem ev_len {m : Nat} (ha : EvB X H0 ρ a d) (e : dlen d = some m) (hm : X.mg "len" = none) (hg : Gl X "len" := by rfl) (he : starEach [a] X.env = (false, eval a X.env) :: starEach [] X.env := by rfl) (hpl : (backTo pos (starEach [] X.env)).any (·.1) = false := by rfl) : Ev X H0 ρ (.Call (.Name "len" p) [a] [] pos) (.int m) :=
  ev_blt call_len hm PySem.boot_len (eab1 ha he) (fun vs σ H N Q r q g => let ⟨v, e1, e2⟩ := ats_one q; ⟨v, m, e1, at_len e2 e, goes_self g r (.int _)⟩) hg (by decide) (by decide) he hpl
theorem abs_eq (i : Int) : (if i < 0 then -i else i) = ((i.natAbs : Nat) : Int) := by split <;> omega
theorem ev_abs {i : Int} (ha : Ev X H0 ρ a (.int i)) (hm : X.mg "abs" = none) (hg : Gl X "abs" := by rfl) (he : starEach [a] X.env = (false, eval a X.env) :: starEach [] X.env := by rfl) (hpl : (backTo pos (starEach [] X.env)).any (·.1) = false := by rfl) : Ev X H0 ρ (.Call (.Name "abs" p) [a] [] pos) (.int ((i.natAbs : Nat) : Int)) :=
  ev_blt call_abs hm (by decide +kernel) (eab1 ha.toB he) (fun vs σ H N Q r q g => ⟨i, ats1 q, by rw [abs_eq]; exact goes_self g r (.int _)⟩) hg (by decide) (by decide) he hpl
theorem ev_min2 {i j : Int} (ha : Ev X H0 ρ a (.int i)) (hb : Ev X H0 ρ b (.int j)) (hc : X.calm = true) (hm : X.mg "min" = none) (hg : Gl X "min" := by rfl) (he : starEach [a, b] X.env = (false, eval a X.env) :: starEach [b] X.env := by rfl) (he2 : starEach [b] X.env = (false, eval b X.env) :: starEach [] X.env := by rfl) (hpl : (backTo pos (starEach [b] X.env)).any (·.1) = false := by rfl) :
    Ev X H0 ρ (.Call (.Name "min" p) [a, b] [] pos) (.int (min i j)) := ev_blt (call_min2 hc) hm (by decide +kernel) (eab_cons ha.toB (eab_cons hb.toB eab_nil he2) he) (fun vs σ H N Q r q g => ⟨i, j, ats2 q, by rw [show (if j < i then j else i) = min i j by omega]; exact goes_self g r (.int _)⟩) hg (by decide) (by decide) he hpl
theorem ev_max2 {i j : Int} (ha : Ev X H0 ρ a (.int i)) (hb : Ev X H0 ρ b (.int j)) (hc : X.calm = true) (hm : X.mg "max" = none) (hg : Gl X "max" := by rfl) (he : starEach [a, b] X.env = (false, eval a X.env) :: starEach [b] X.env := by rfl) (he2 : starEach [b] X.env = (false, eval b X.env) :: starEach [] X.env := by rfl) (hpl : (backTo pos (starEach [b] X.env)).any (·.1) = false := by rfl) :
    Ev X H0 ρ (.Call (.Name "max" p) [a, b] [] pos) (.int (max i j)) := ev_blt (call_max2 hc) hm (by decide +kernel) (eab_cons ha.toB (eab_cons hb.toB eab_nil he2) he) (fun vs σ H N Q r q g => ⟨i, j, ats2 q, by rw [show (if j > i then j else i) = max i j by omega]; exact goes_self g r (.int _)⟩) hg (by decide) (by decide) he hpl
/-! isinstance -/
def tyName : Dat → String
  | .non => "NoneType" | .bl _ => "bool" | .int _ => "int" | .str _ => "str" | .tup _ => "tuple" | .lst _ => "list" | .dic _ => "dict" | .ins _ _ _ => "NoneType" | .tix _ => "tuple" | .dit _ _ => "dict"
theorem kit_non : ∀ {T : String} {k : Bool}, kits.contains T = true → kitB "NoneType" T = some k → k = false := fun {T k} h e => by
  have : T = "int" ∨ T = "bool" ∨ T = "str" ∨ T = "tuple" ∨ T = "list" ∨ T = "dict" := by simpa [kits] using h
  have go : ∀ s : String, kitB "NoneType" s = some false → T = s → k = false := fun s a b => by
    rw [b, a] at e
    cases e
    rfl
  rcases this with h | h | h | h | h | h
  · exact go _ (by decide +kernel) h
  · exact go _ (by decide +kernel) h
  · exact go _ (by decide +kernel) h
  · exact go _ (by decide +kernel) h
  · exact go _ (by decide +kernel) h
  · exact go _ (by decide +kernel) h
/-- .. a dict with tuple keys, too, that a loop walks -/
def TyY (K : PySem.W.Frag) (H : Hp) (v : V) (t : Value) : Prop := TyX K H v t ∨ ∃ a o kvs, v = .ref a ∧ t = .type "dict" ∧ H a = some (.frz o (.dT kvs))
theorem call_isiY {X : Cx} : CallR X (.builtin "isinstance") (fun xs H Q => ∃ (x c : V) (t u : Value) (b : Bool), xs = [x, c] ∧ ClsV c u ∧ TyY X.K H x t ∧ PySem.W.kitOne X.K t u = some b ∧ Q (.bl b) H) := fun pins s σ H xs us Q I r h => by
  obtain ⟨x, c, t, u, b, e1, k, ty, e, q⟩ := h
  rcases ty with ty | ⟨a, o, kvs, ea, et, ha⟩
  · exact call_isi pins s σ H xs us Q I r ⟨x, c, t, u, b, e1, k, ty, e, q⟩
  · subst e1 ea et
    obtain ⟨u1, u2, rfl, r1, r2⟩ := vals2 r
    cases (show u1 = Value.ref a from r1)
    have e2 := k.eq r2
    subst e2
    have ob := (show ObjOk X.prog X.w H s.heap a (.frz o (.dT kvs)) from I.hok a _ ha)
    obtain ⟨_, _, _, vs, _, o', es, ep, h1, h2, _⟩ := ob
    exact PySem.W.kia_one PySem.W.kitx_dict I.kIn ⟨o', h1, h2.1⟩ e (fun z => nomatch z) fun tk => ⟨.bl b, H, I.tok tk, rfl, q⟩
theorem at_ty {K : PySem.W.Frag} {H : Hp} {v : V} {T : String} {k : Bool} (h : At K H v d) (e : kitB (tyName d) T = some k) (hT : kits.contains T = true) : ∃ t, TyY K H v t ∧ PySem.W.kitOne K t (.type T) = some k := by
  have go : ∀ {s : String}, kitB s T = some k → TyX K H v (.type s) → ∃ t, TyY K H v t ∧ PySem.W.kitOne K t (.type T) = some k := fun e t => ⟨_, .inl t, kit_ty e⟩
  cases h with
  | ins h c a l t =>
    rw [kit_non hT e]
    exact ⟨_, .inl (.base (.ins h c.cl c.ha c.hn c.htk c.hm)), c.ki T hT⟩
  | non => exact go e (.base .non)
  | bl b => exact go e (.base (.bl b))
  | int b => exact go e (.base (.int b))
  | str b => exact go e (.base (.str b))
  | tup h _ =>
    rcases h with (h | ⟨o, h⟩) | ⟨o, its, n, h, hc, _⟩
    · exact go e (.base (.tup h))
    · exact go e (.fTuple h)
    · exact go e (.kTuple h hc)
  | lst h _ =>
    rcases h with (h | ⟨o, h⟩) | ⟨o, its, n, h, hc, _⟩
    · exact go e (.base (.lst h))
    · exact go e (.base (.frz h))
    · exact go e (.kList h hc)
  | dic h _ =>
    rcases h with h | ⟨o, h⟩
    · exact go e (.base (.dK h))
    · exact go e (.fDict h)
  | tix h => exact go e (.base (.tup h))
  | dit h _ _ =>
    rcases h with h | ⟨o, h⟩
    · exact go e (.base (.dT h))
    · exact ⟨_, .inr ⟨_, _, _, rfl, rfl, h⟩, kit_ty e⟩
theorem ev_isi {T : String} {y : Str} {p2 : Pos} {k : Bool} (ha : EvB X H0 ρ a d) (e : kitB (tyName d) T = some k) (hm : X.mg "isinstance" = none) (hmT : X.mg y = none) (hv : bootBuiltins y = some (.type T) := by decide +kernel) (hg : Gl X "isinstance" := by rfl) (hgT : Gl X y := by rfl) (hn : y ≠ "__name__" := by decide) (hdb : (y == ("__debug__" : Str)) = false := by decide)
    (he : starEach [a, .Name y p2] X.env = (false, eval a X.env) :: starEach [.Name y p2] X.env := by rfl) (he2 : starEach [.Name y p2] X.env = (false, eval (.Name y p2) X.env) :: starEach [] X.env := by rfl) (hpl : (backTo pos (starEach [.Name y p2] X.env)).any (·.1) = false := by rfl) (hT : kits.contains T = true := by decide +kernel) :
    Ev X H0 ρ (.Call (.Name "isinstance" p) [a, .Name y p2] [] pos) (.bl k) := fun σ H N r =>
  we_of (pe_callB call_isiY hg hm (by decide +kernel) (pa_cons pe_w (pa_cons (pe_bltn (v := .ty T) hgT hmT hv rfl hn hdb) pa_nil he2) he) (by decide) (by decide) he hpl)
    ((ha σ H N r).imp fun v H1 ⟨N1, s1, n1, r1, a1⟩ => let ⟨t, t1, t2⟩ := at_ty a1 e hT; ⟨v, .ty T, t, .type T, k, rfl, .ty T, t1, t2, N1, s1, n1, r1, .bl _⟩)
end
end B

namespace PySem.W
open PySem PySem.Spec PySem.Calls PyProof.Rows
end PySem.W
namespace B
open PySem PySem.Spec PyProof.Rows L2

/-! ### own exceptions: classes over ValueError, no __init__, made with a text -/
structure ExcAt (K : PySem.W.Frag) (mg : Str → Option Value) (n : Str) (C : Addr) : Prop where
  g : mg n = some (.ref C)
  x : PySem.W.excIn K C [.type "ValueError", .type "Exception", .type "BaseException", .type "object"] "ValueError.__new__" = true
  k : PySem.W.keepIn K (.ref C) = true
  b : PySem.W.subIn K (.ref C) (.type "BaseException") = some true
  t : PySem.W.typeIn K (.ref C) = some (.type "type")
def Exc (K : PySem.W.Frag) (mg : Str → Option Value) (n : Str) : Prop := ∃ C, ExcAt K mg n C
section
variable {X : Cx} {H0 : Hp} {ρ ρ1 ρ2 : Env'} {a b c e : Expr} {es : List Expr} {st : Stmt} {sts rest : List Stmt} {d d1 d2 : Dat} {ds : List Dat} {p pos : Pos} {o o1 : Outc} {x n : Str}
theorem sx_raise {m : Str} {j : Nat} {p p2 pos pos2 : Pos} (T : Exc X.K X.mg n) (hc : X.calm = true) (hg : Gl X n := by rfl) (hdb : (n == ("__debug__" : Str)) = false := by decide) : ExS X H0 ρ (.Raise (some (.Call (.Name n p) [.Constant (.str m) j p2] [] pos)) none pos2) (.ex n ρ) := fun D σ H N r ⟨W, tk, q⟩ => by
  obtain ⟨C, T⟩ := T
  exact ws_of (ps_raise hc tk (pmk_own PySem.F.excBase_ValueError T.x T.g T.k (raises_own T.b T.t) hg hdb)) (q C σ H N T.g (Same.refl _) r)
/-- the name of an except clause goes -/
theorem Rep.unset {K : PySem.W.Frag} {H0 H N : Hp} {ρ : Env'} {σ : L2.St} (r : Rep K H0 ρ σ H N) (i : Nat) : Rep K H0 (ρ.set i .no) (σ.set i none) H N := by
  have g : ∀ (j : Nat) (v : V), j ≠ i → σ[j]? = some (some v) → (σ.set i none)[j]? = some (some v) := fun j v n h => by rw [List.getElem?_set_ne (Ne.symm n)]; exact h
  have g' : ∀ (j : Nat) (v : V), (σ.set i none)[j]? = some (some v) → σ[j]? = some (some v) := fun j v h => by
    rcases get_set h with ⟨_, h'⟩ | ⟨_, h'⟩
    · cases h'
    · exact h'
  refine ⟨r.old, r.sub, r.imm, r.fresh, by rw [List.length_set, List.length_set, r.len], fun j d q => ?_, fun j d q => ?_, fun j d q => ?_, fun j d q => ?_, fun j k d d' p ne q1 q2 z1 z2 => ?_⟩
  · rcases get_set q with ⟨_, q'⟩ | ⟨n, q'⟩
    · cases q'
    · obtain ⟨v, h1, h2⟩ := r.im j d q'
      exact ⟨v, g j v n h1, h2⟩
  · rcases get_set q with ⟨_, q'⟩ | ⟨n, q'⟩
    · cases q'
    · obtain ⟨v, h1, h2⟩ := r.ol j d q'
      exact ⟨v, g j v n h1, h2⟩
  · rcases get_set q with ⟨_, q'⟩ | ⟨n, q'⟩
    · cases q'
    · obtain ⟨v, h1, h2⟩ := r.ow j d q'
      exact ⟨v, g j _ n h1, h2⟩
  · rcases get_set q with ⟨_, q'⟩ | ⟨n, q'⟩
    · cases q'
    · exact g j _ n (r.rf j d q')
  · rcases get_set q1 with ⟨_, q1'⟩ | ⟨n1, q1'⟩
    · cases q1'
    · rcases get_set q2 with ⟨_, q2'⟩ | ⟨n2, q2'⟩
      · cases q2'
      · exact r.apart j k d d' p ne q1' q2' (g' j _ z1) (g' k _ z2)
/-- behind the suite of «except .. as n» -/
def Outc.un (i : Nat) : Outc → Outc
  | .nx ρ => .nx (ρ.set i .no)
  | .rt d => .rt d
  | .ex n ρ => .ex n ρ
  | .bk ρ => .bk (ρ.set i .no)
  | .ct ρ => .ct (ρ.set i .no)
  | .ro d => .ro d
def Outc.noex : Outc → Prop
  | .ex _ _ => False
  | _ => True
/-- try: body, that raises m; except x as n: suite -/
theorem sx_try {m : Str} {i : Nat} {c : Value} {body suite : List Stmt} {b₀ : Stmt} {np pos pos' : Pos} (hs : X.stack = X.env :: X.outer) (hf : X.env.frame = some X.env.locals) (nd : X.N.Nodup) (hc : Names X x c) (he : ∀ C, X.mg m = some (.ref C) → PySem.W.exmOne X.K (.ref C) c = some true)
    (hb : ∀ (pn : List (Addr × Obj)) (xe : Value → Shared → Prop), PassesOwn (model X.prog X.w) X.A X.env xe → Exec (X.tr pn xe) H0 ρ body (.ex m ρ1))
    (hsu : ∀ (a C : Addr) (oe : Obj) (pn : List (Addr × Obj)), X.mg m = some (.ref C) → Zc (.ref C) none oe → (∃ vs, oe.data = .fields vs) → Exec (X.suite a ((a, oe) :: pn)) H0 (ρ1.set i (.rf a)) (b₀ :: suite) o)
    (ho : o.noex) (hi : X.N[i]? = some n := by rfl) (hln : X.env.kindOf n = some .local := by rfl) :
    ExS X H0 ρ (.Try body [.ExceptHandler (some (.Name x np)) (some n) (b₀ :: suite) pos'] [] [] pos) (o.un i) := fun D σ H N r k => by
  refine ws_of (ps_try_as (i := i) (c := c) (tb := fun W D σ H => ∀ pn xe, Takes (X.tr pn xe) W → PassesOwn (model X.prog X.w) X.A X.env xe → WB (X.tr pn xe) body D σ H)
    (ts := fun a cls d D σ H => ∀ oe pn, Zc cls d oe → (∃ vs, oe.data = .fields vs) → WB (X.suite a ((a, oe) :: pn)) (b₀ :: suite) D σ H) (Wout := fun _ _ _ _ => False) hs hf nd hi hln hc takes0 (fun W pn xe tk hp => ⟨fun pins s σ H D I h => (h pn xe tk hp).go pins s I⟩) (fun a oe cls d pn hz hd => ⟨fun pins s σ H D I h => (h oe pn hz hd).go pins s I⟩)) ?_
  intro pn xe tk hp
  refine hb pn xe hp _ σ H N r ⟨_, tk, fun C σ1 H1 N1 hC n1 r1 => ⟨true, he C hC, fun _ a ha oe pn' hz hd => ?_, fun z => nomatch z⟩⟩
  refine hsu a C oe pn' hC hz hd _ _ H1 N1 (r1.setE (v := .ref a) (e := .rf a) rfl) ?_
  cases o with
  | nx ρ2 => exact fun σ2 H2 N2 n2 r2 => k _ H2 N2 (n1.trans n2) (r2.unset i)
  | rt d => exact fun v H a b r => k v H a (n1.trans b) r
  | ex n ρ2 => exact ho.elim
  | bk ρ2 => exact fun σ2 H2 N2 n2 r2 => k _ H2 N2 (n1.trans n2) (r2.unset i)
  | ct ρ2 => exact fun σ2 H2 N2 n2 r2 => k _ H2 N2 (n1.trans n2) (r2.unset i)
  | ro d => exact fun p H' N2 a b r => k p H' N2 a (n1.trans b) r
/-- .. that raises nothing -/
theorem sx_tryN {i : Nat} {c : Value} {body suite : List Stmt} {b₀ : Stmt} {np pos pos' : Pos} (hs : X.stack = X.env :: X.outer) (hf : X.env.frame = some X.env.locals) (nd : X.N.Nodup) (hc : Names X x c)
    (hb : ∀ (pn : List (Addr × Obj)) (xe : Value → Shared → Prop), PassesOwn (model X.prog X.w) X.A X.env xe → Exec (X.tr pn xe) H0 ρ body o)
    (hsu : ∀ (a : Addr) (oe : Obj) (cls : Value) (d : Option Addr) (pn : List (Addr × Obj)), PSs (X.suite a ((a, oe) :: pn)) (b₀ :: suite) (WB (X.suite a ((a, oe) :: pn)) (b₀ :: suite)) := fun _ _ _ _ _ => pb_w)
    (ho : o.noex) (hi : X.N[i]? = some n := by rfl) (hln : X.env.kindOf n = some .local := by rfl) :
    ExS X H0 ρ (.Try body [.ExceptHandler (some (.Name x np)) (some n) (b₀ :: suite) pos'] [] [] pos) o := fun D σ H N r k => by
  refine ws_of (ps_try_as (i := i) (c := c) (tb := fun W D σ H => ∀ pn xe, Takes (X.tr pn xe) W → PassesOwn (model X.prog X.w) X.A X.env xe → WB (X.tr pn xe) body D σ H)
    (ts := fun a cls d D σ H => ∀ oe pn, Zc cls d oe → (∃ vs, oe.data = .fields vs) → WB (X.suite a ((a, oe) :: pn)) (b₀ :: suite) D σ H) (Wout := fun _ _ _ _ => False) hs hf nd hi hln hc takes0 (fun W pn xe tk hp => ⟨fun pins s σ H D I h => (h pn xe tk hp).go pins s I⟩) (fun a oe cls d pn hz hd => ⟨fun pins s σ H D I h => (h oe pn hz hd).go pins s I⟩)) ?_
  intro pn xe tk hp
  refine hb pn xe hp D σ H N r ?_
  cases o with
  | ex n ρ2 => exact ho.elim
  | nx ρ2 => exact k
  | rt d => exact k
  | bk ρ2 => exact k
  | ct ρ2 => exact k
  | ro d => exact k

/-! ### isinstance of the caught error -/
theorem call_isET {X : Cx} {a D : Addr} {oe : Obj} {pn : List (Addr × Obj)} (C : ExcC X.K D) (hz : Zc (.ref D) none oe) (hf : ∃ vs, oe.data = .fields vs) : CallR (X.suite a ((a, oe) :: pn)) (.builtin "isinstance")
    (fun xs H Q => ∃ (tp : Addr) (cs : List V) (us : List Value) (b : Bool), xs = [.ref a, .ref tp] ∧ H tp = some (.tup cs) ∧ Paired ClsV cs us ∧ PySem.W.kitAny X.K (.ref D) us = some b ∧ Q (.bl b) H) := by
  intro pins s σ H xs us Q I r h
  obtain ⟨tp, cs, ws, b, rfl, hT, k, e, q⟩ := h
  obtain ⟨u1, u2, rfl, r1, r2⟩ := vals2 r
  cases (show u1 = Value.ref a from r1)
  cases (show u2 = Value.ref tp from r2)
  obtain ⟨hget, _⟩ := I.pin (a, oe) (List.mem_append.mpr (.inl List.mem_cons_self))
  obtain ⟨vs, hv⟩ := hf
  have J : PySem.W.InstAt s.heap a oe D none := by
    obtain ⟨oc, od, oda, osl⟩ := oe
    obtain ⟨h1, h2⟩ := hz
    dsimp only at h1 h2 hv
    subst h1 h2 hv
    exact ⟨hget, rfl, rfl, trivial⟩
  obtain ⟨_, its, rv, o, h1, h2, n, h3⟩ := (show ObjOk X.prog X.w H s.heap tp (.tup cs) from I.hok tp _ hT)
  have e3 := ClsV.all k rv
  subst e3
  obtain ⟨oc, od, dt, sl⟩ := o
  simp only at h2 h3
  subst h2 h3
  exact PySem.W.kia_tup (PySem.W.handS_kitx_exc C.hg C.hk C.hs C.hd C.ha C.hn C.ht C.hm) I.kIn J h1 e (fun z => nomatch z) fun tk => ⟨.bl b, H, I.kept (t' := tk) fun _ _ z => z, rfl, q⟩
/-- a class of the text, or a built-in one, by its name -/
structure ClsN (X : Cx) (y : Str) (c : V) (u : Value) : Prop where
  v : ClsV c u
  g : Gl X y
  d : (y == ("__debug__" : Str)) = false
  m : X.mg y = some u ∨ (X.mg y = none ∧ bootBuiltins y = some u ∧ y ≠ "__name__")
theorem pe_cls {y : Str} {c : V} {u : Value} (h : ClsN X y c u) : PE X (.Name y pos) (tC c) := by
  have r : RelV c u := by
    obtain ⟨v, _, _, _⟩ := h
    cases v <;> rfl
  rcases h.m with m | ⟨m, b, n⟩
  · exact pe_glob h.g m r h.d
  · exact pe_bltn h.g m b r n h.d
theorem ev_isE {a D : Addr} {oe : Obj} {pn : List (Addr × Obj)} {y ee : Str} {p1 p2 : Pos} {k : Bool} {c : V} {u : Value} (i : Nat) (C : ExcC X.K D) (hz : Zc (.ref D) none oe) (hf : ∃ vs, oe.data = .fields vs) (hρ : ρ[i]? = some (.rf a)) (N : ClsN X y c u) (e : PySem.W.kitOne X.K (.ref D) u = some k)
    (hm : X.mg "isinstance" = none) (hN : X.N[i]? = some ee := by rfl) (hv : Vis X.env.scope ee := by first | exact Or.inl rfl | exact Or.inr (Or.inl rfl) | exact Or.inr (Or.inr rfl)) (hg : Gl X "isinstance" := by rfl) (hd : (ee == ("__debug__" : Str)) = false := by decide) (hcd : (ee == ("__classdict__" : Str)) = false := by decide)
    (he : starEach [.Name ee p1, .Name y p2] X.env = (false, eval (.Name ee p1) X.env) :: starEach [.Name y p2] X.env := by rfl) (he2 : starEach [.Name y p2] X.env = (false, eval (.Name y p2) X.env) :: starEach [] X.env := by rfl) (hpl : (backTo pos (starEach [.Name y p2] X.env)).any (·.1) = false := by rfl) :
    Ev (X.suite a ((a, oe) :: pn)) H0 ρ (.Call (.Name "isinstance" p) [.Name ee p1, .Name y p2] [] pos) (.bl k) := fun σ H N' r => by
  have N2 : ClsN (X.suite a ((a, oe) :: pn)) y c u := ⟨N.v, N.g, N.d, N.m⟩
  refine we_of (pe_callB (X := X.suite a ((a, oe) :: pn)) (call_isE C hz hf) hg hm (by decide +kernel) (pa_cons (pv (X := X.suite a ((a, oe) :: pn)) i hN hv hd hcd) (pa_cons (pe_cls N2) pa_nil he2) he) (by decide) (by decide) he hpl) ?_
  exact ⟨_, r.rf i a hρ, c, u, k, rfl, fun w q => N.v.eq q, e, N', Same.refl _, Same.refl _, r, .bl k⟩
/-- a row of classes -/
inductive ClsNs (X : Cx) : List Expr → List V → List Value → Prop where
  | nil : ClsNs X [] [] []
  | cons {y : Str} {c : V} {u : Value} {pp : Pos} {es : List Expr} {cs : List V} {us : List Value} : ClsN X y c u → ClsNs X es cs us → ClsNs X (.Name y pp :: es) (c :: cs) (u :: us)
theorem ClsNs.paired : ∀ {es : List Expr} {cs : List V} {us : List Value}, ClsNs X es cs us → Paired ClsV cs us
  | _, _, _, .nil => .nil
  | _, _, _, .cons h t => .cons h.v (ClsNs.paired t)
theorem ClsNs.len : ∀ {es : List Expr} {cs : List V} {us : List Value}, ClsNs X es cs us → cs.length = es.length
  | _, _, _, .nil => rfl
  | _, _, _, .cons h t => congrArg (· + 1) (ClsNs.len t)
/-- star-free rows of names -/
theorem wa_cls : ∀ {es : List Expr} {cs : List V} {us : List Value}, ClsNs X es cs us → (∀ y pp r, starEach (Expr.Name y pp :: r) X.env = (false, eval (Expr.Name y pp) X.env) :: starEach r X.env) → ∀ σ H Q, Q cs H → WA X es σ H Q
  | _, _, _, .nil, _, σ, H, Q, q => wa_of pa_nil q
  | _, _, _, .cons h t, hs, σ, H, Q, q => wa_of (pa_cons (pe_cls h) pa_w (hs _ _ _)) (wa_cls t hs σ H _ q)
theorem ev_isET {a D : Addr} {oe : Obj} {pn : List (Addr × Obj)} {ee : Str} {p1 p2 : Pos} {kk : Nat} {k : Bool} {cs : List V} {us : List Value} (i : Nat) (C : ExcC X.K D) (hz : Zc (.ref D) none oe) (hf : ∃ vs, oe.data = .fields vs) (hρ : ρ[i]? = some (.rf a)) (T : ClsNs (X.suite a ((a, oe) :: pn)) es cs us) (e : PySem.W.kitAny X.K (.ref D) us = some k)
    (hm : X.mg "isinstance" = none) (hl : es.length ≤ sizeLine) (hst : ∀ y pp r, starEach (Expr.Name y pp :: r) X.env = (false, eval (Expr.Name y pp) X.env) :: starEach r X.env := by intro _ _ _; rfl) (hN : X.N[i]? = some ee := by rfl) (hv : Vis X.env.scope ee := by first | exact Or.inl rfl | exact Or.inr (Or.inl rfl) | exact Or.inr (Or.inr rfl)) (hg : Gl X "isinstance" := by rfl)
    (hd : (ee == ("__debug__" : Str)) = false := by decide) (hcd : (ee == ("__classdict__" : Str)) = false := by decide)
    (he : starEach [.Name ee p1, .Tuple es kk p2] X.env = (false, eval (.Name ee p1) X.env) :: starEach [.Tuple es kk p2] X.env := by rfl) (he2 : starEach [.Tuple es kk p2] X.env = (false, eval (.Tuple es kk p2) X.env) :: starEach [] X.env := by rfl) (hpl : (backTo pos (starEach [.Tuple es kk p2] X.env)).any (·.1) = false := by rfl) :
    Ev (X.suite a ((a, oe) :: pn)) H0 ρ (.Call (.Name "isinstance" p) [.Name ee p1, .Tuple es kk p2] [] pos) (.bl k) := fun σ H N' r => by
  refine we_of (pe_callB (X := X.suite a ((a, oe) :: pn)) (call_isET C hz hf) hg hm (by decide +kernel) (pa_cons (pv (X := X.suite a ((a, oe) :: pn)) i hN hv hd hcd) (pa_cons (pe_tup pa_w) pa_nil he2) he) (by decide) (by decide) he hpl) ?_
  refine ⟨_, r.rf i a hρ, wa_cls T hst σ H _ ⟨by rw [T.len]; exact hl, fun tp hp => ?_⟩⟩
  have r2 := r.grow (Same.of_none (o := .tup cs) hp)
  exact ⟨tp, cs, us, k, rfl, upd_same, T.paired, e, N', Same.of_none hp, Same.refl _, r2, .bl k⟩

/-! ### lists of one's own -/
theorem pa1 {t : TE} (h : PE X e t) (he : starEach [e] X.env = (false, eval e X.env) :: starEach [] X.env := by rfl) : PA X [e] (tCons t tNil) := pa_cons h pa_nil he
theorem sx_append (i : Nat) {y : Str} {p1 p2 p3 : Pos} (hi : ρ[i]? = some (.ow (.lst ds))) (h : Ev X H0 ρ e d) (hz : ds.length < sizeLine) (hρ : ρ.set i (.ow (.lst (ds ++ [d]))) = ρ1 := by rfl) (hN : X.N[i]? = some y := by rfl) (hv : Vis X.env.scope y := by first | exact Or.inl rfl | exact Or.inr (Or.inl rfl) | exact Or.inr (Or.inr rfl))
    (hd : (y == ("__debug__" : Str)) = false := by decide) (hcd : (y == ("__classdict__" : Str)) = false := by decide)
    (hpe : ∀ to t, PE X (.Name y p1) to → PA X [e] t → PE X (.Call (.Attribute (.Name y p1) "append" p2) [e] [] p3) (tBM X.K "list" rAppend to t) := by exact fun _ _ h g => pe_bm PySem.F.plainAttrs_list PySem.F.slot_list_append PySem.F.type_list_append mt_append h g)
    (he : starEach [e] X.env = (false, eval e X.env) :: starEach [] X.env := by rfl) (hs : swapsWith (.Call (.Attribute (.Name y p1) "append" p2) [e] [] p3) none pos.line X.env = pure false := by rfl) :
    ExS X H0 ρ (.Expr (.Call (.Attribute (.Name y p1) "append" p2) [e] [] p3) pos) (.nx ρ1) := fun D σ H N r k => by
  obtain ⟨q, g1, g2, g3, vs, g4, g5⟩ := r.ow i _ hi
  refine ws_of (ps_expr (hpe _ _ (pv i hN hv hd hcd) (pa_cons pe_w pa_nil he)) hs) ⟨_, g1, .inl ⟨rfl, _, .inl (.inl g4)⟩, (h σ H N r).imp fun v H1 ⟨N1, s1, n1, r1, a1⟩ => ?_⟩
  obtain ⟨q', f1, f2, f3, us, f4, f5⟩ := r1.ow i _ hi
  rw [g1] at f1
  cases f1
  refine ⟨q, us, v, rfl, rfl, f4, by rw [f5.length]; exact hz, k σ _ N1 n1 ?_⟩
  exact hρ ▸ r1.write hi g1 ⟨us ++ [v], upd_same, f5.append (.cons a1 .nil)⟩

/-! ### == of data -/
mutual
def pd : Dat → PyData
  | .non => .none
  | .bl b => .bool b
  | .int i => .int i
  | .str s => .str s
  | .tup ds => .tuple (pds ds)
  | .lst ds => .list (pds ds)
  | .dic _ => .dict []
  | .ins _ _ _ => .none
  | .tix _ => .none
  | .dit _ _ => .none
def pds : List Dat → List PyData
  | [] => []
  | d :: r => pd d :: pds r
end
mutual
/-- no dict in it -/
def nodic : Dat → Bool
  | .tup ds => nodics ds
  | .lst ds => nodics ds
  | .dic _ => false
  | .ins _ _ _ => false
  | .tix _ => false
  | .dit _ _ => false
  | .non => true
  | .bl _ => true
  | .int _ => true
  | .str _ => true
def nodics : List Dat → Bool
  | [] => true
  | d :: r => nodic d && nodics r
end
mutual
theorem At.dp {K : PySem.W.Frag} {H : Hp} : ∀ {v : V} {d : Dat}, At K H v d → nodic d = true → Dp K H v (pd d)
  | _, _, .non, _ => .non
  | _, _, .bl b, _ => .bl b
  | _, _, .int i, _ => .int i
  | _, _, .str s, _ => .str s
  | _, _, .tup h t, f => .tup h (Ats.dp t (by simpa only [nodic] using f))
  | _, _, .lst h t, f => .lst h (Ats.dp t (by simpa only [nodic] using f))
  | _, _, .dic _ _, f => by simp [nodic] at f
  | _, _, .ins _ _ _ _ _, f => by simp [nodic] at f
  | _, _, .tix _, f => by simp [nodic] at f
  | _, _, .dit _ _ _, f => by simp [nodic] at f
theorem Ats.dp {K : PySem.W.Frag} {H : Hp} : ∀ {vs : List V} {ds : List Dat}, Ats K H vs ds → nodics ds = true → DpAll K H vs (pds ds)
  | _, _, .nil, _ => .nil
  | _, _, .cons a t, f => by
    simp only [nodics, Bool.and_eq_true] at f
    exact .cons (At.dp a f.1) (Ats.dp t f.2)
end
def okD (d : Dat) : Bool := nodic d && SeqAt.shaped (pd d)
theorem okD_1 {d : Dat} (h : okD d = true) : nodic d = true := (Bool.and_eq_true_iff.mp h).1
theorem okD_2 {d : Dat} (h : okD d = true) : SeqAt.shaped (pd d) = true := (Bool.and_eq_true_iff.mp h).2
theorem ev_eqD (ha : EvB X H0 ρ a d1) (hb : EvB X H0 ρ b d2) (hu : X.A.units + 64 < cLine) (h1 : okD d1 = true) (h2 : okD d2 = true) : Ev X H0 ρ (.Compare a [.Eq] [b] pos) (.bl (PyData.eqv (pd d1) (pd d2))) :=
  ev_bin (fun _ _ h k => pe_cmpR (op_eqD hu) h k (nomark _)) ha hb fun x y σ H N Q r p q g => ⟨_, _, p.dp (okD_1 h1), q.dp (okD_1 h2), okD_2 h1, okD_2 h2, goes_self g r (.bl _)⟩
theorem ev_neD (ha : EvB X H0 ρ a d1) (hb : EvB X H0 ρ b d2) (hu : X.A.units + 64 < cLine) (h1 : okD d1 = true) (h2 : okD d2 = true) : Ev X H0 ρ (.Compare a [.NotEq] [b] pos) (.bl (!PyData.eqv (pd d1) (pd d2))) :=
  ev_bin (fun _ _ h k => pe_cmpR (op_neD hu) h k (nomark _)) ha hb fun x y σ H N Q r p q g => ⟨_, _, p.dp (okD_1 h1), q.dp (okD_1 h2), okD_2 h1, okD_2 h2, goes_self g r (.bl _)⟩
theorem et_eqD (ha : EvB X H0 ρ a d1) (hb : EvB X H0 ρ b d2) (hu : X.A.units + 64 < cLine) (h1 : okD d1 = true) (h2 : okD d2 = true) : EvT X H0 ρ (.Compare a [.Eq] [b] pos) (PyData.eqv (pd d1) (pd d2)) :=
  evt_bin (fun _ _ h k => pt_cmpR (op_eqD hu) h k (nomark _)) ha hb fun x y σ H N Q r p q g => ⟨_, _, p.dp (okD_1 h1), q.dp (okD_1 h2), okD_2 h1, okD_2 h2, goes_self g r (.bl _)⟩
theorem et_neD (ha : EvB X H0 ρ a d1) (hb : EvB X H0 ρ b d2) (hu : X.A.units + 64 < cLine) (h1 : okD d1 = true) (h2 : okD d2 = true) : EvT X H0 ρ (.Compare a [.NotEq] [b] pos) (!PyData.eqv (pd d1) (pd d2)) :=
  evt_bin (fun _ _ h k => pt_cmpR (op_neD hu) h k (nomark _)) ha hb fun x y σ H N Q r p q g => ⟨_, _, p.dp (okD_1 h1), q.dp (okD_1 h2), okD_2 h1, okD_2 h2, goes_self g r (.bl _)⟩

end
/-! ### list comprehensions -/
section
variable {K : PySem.W.Frag} {H0 H0' H H' N N' : Hp} {ρ : Env'} {σ : L2.St} {D : Addr} {acc : List V}
/-- the list at D, that no name holds, is taken for old -/
theorem Rep.toOld (r : Rep K H0 ρ σ H N) (h0 : H0 D = none) (hD : H D = some (.lst acc)) (hN : N D = none) (hp : ∀ (i : Nat) d, ρ[i]? = some (Ent.ow d) → σ[i]? ≠ some (some (V.ref D))) : Rep K (upd H0 D (.lst acc)) ρ σ H N where
  old := fun a o h => by
    by_cases ha : a = D
    · subst ha; rw [upd_same] at h; rw [hD]; exact h
    · rw [upd_ne ha] at h; exact r.old a o h
  sub := r.sub
  imm := fun a o h => by
    by_cases ha : a = D
    · subst ha
      have h1 := imm_sub _ _ _ h
      rw [upd_same] at h1
      cases h1
      exact (imm_not h True.intro).elim
    · have h1 := imm_sub _ _ _ h
      rw [upd_ne ha] at h1
      exact r.imm a o (imm_of h1 (imm_not h))
  fresh := fun a o h m => by
    by_cases ha : a = D
    · subst ha; rw [hN] at h; cases h
    · rw [upd_ne ha]; exact r.fresh a o h m
  len := r.len
  im := r.im
  ol := fun i d h => by
    obtain ⟨v, h1, h2⟩ := r.ol i d h
    exact ⟨v, h1, h2.mono (Same.of_none h0)⟩
  ow := fun i d h => by
    obtain ⟨p, h1, h2, h3⟩ := r.ow i d h
    exact ⟨p, h1, by rw [upd_ne (fun e => hp i d h (by rw [← e]; exact h1))]; exact h2, h3⟩
  rf := r.rf
  apart := r.apart
theorem Rep.back0 (r : Rep K H0 ρ σ H N) (s : Same H0 H0') (r' : Rep K H0' ρ σ H' N') : Rep K H0 ρ σ H' N' where
  old := s.trans r'.old
  sub := r'.sub
  imm := (imm_same s).trans r'.imm
  fresh := fun a o h m => s.free (r'.fresh a o h m)
  len := r.len
  im := r'.im
  ol := r.ol
  ow := fun i d h => by
    obtain ⟨p, h1, h2, h3⟩ := r'.ow i d h
    exact ⟨p, h1, s.free h2, h3⟩
  rf := r.rf
  apart := r.apart
theorem Rep.back {i : Nat} {x : V} {e : Ent} (r : Rep K H0 ρ σ H N) (hx : ρ[i]? = some .no) (s : Same H0 H0') (r' : Rep K H0' (ρ.set i e) (σ.set i (some x)) H' N') : Rep K H0 ρ σ H' N' := by
  have ne : ∀ {j : Nat} {t : Ent}, ρ[j]? = some t → t ≠ .no → i ≠ j := fun {j t} h n z => by
    subst z
    rw [hx] at h
    cases h
    exact n rfl
  refine ⟨s.trans r'.old, r'.sub, (imm_same s).trans r'.imm, fun a o h m => s.free (r'.fresh a o h m), r.len, fun j d h => ?_, r.ol, fun j d h => ?_, r.rf, r.apart⟩
  · have n := ne h (fun z => nomatch z)
    obtain ⟨v, h1, h2⟩ := r'.im j d (by rw [List.getElem?_set_ne n]; exact h)
    rw [List.getElem?_set_ne n] at h1
    exact ⟨v, h1, h2⟩
  · have n := ne h (fun z => nomatch z)
    obtain ⟨p, h1, h2, h3⟩ := r'.ow j d (by rw [List.getElem?_set_ne n]; exact h)
    rw [List.getElem?_set_ne n] at h1
    exact ⟨p, h1, s.free h2, h3⟩
theorem Rep.updD {o : HO} (r : Rep K H0 ρ σ H N) (h0 : H0 D = none) (hN : N D = none) (hp : ∀ (i : Nat) d, ρ[i]? = some (Ent.ow d) → σ[i]? ≠ some (some (V.ref D))) : Rep K H0 ρ σ (upd H D o) N where
  old := fun a u h => by rw [upd_ne (ne_of_none h h0)]; exact r.old a u h
  sub := fun a u h => by rw [upd_ne (ne_of_none h hN)]; exact r.sub a u h
  imm := r.imm
  fresh := r.fresh
  len := r.len
  im := r.im
  ol := r.ol
  ow := fun i d h => by
    obtain ⟨p, h1, h2, h3, h4⟩ := r.ow i d h
    have n : p ≠ D := fun e => hp i d h (e ▸ h1)
    refine ⟨p, h1, h2, h3, ?_⟩
    cases d with
    | lst ds => obtain ⟨vs, q1, q2⟩ := h4; exact ⟨vs, by rw [upd_ne n]; exact q1, q2⟩
    | dic ds => obtain ⟨vs, q1, q2⟩ := h4; exact ⟨vs, by rw [upd_ne n]; exact q1, q2⟩
    | dit ks ds => obtain ⟨vs, q1, ql, q2⟩ := h4; exact ⟨vs, by rw [upd_ne n]; exact q1, ql, q2⟩
    | _ => exact h4
  rf := r.rf
  apart := r.apart
/-- what stands at D is nobody's data -/
theorem Rep.notD {ρ' : Env'} {σ' : L2.St} (r : Rep K (upd H0 D (.lst acc)) ρ' σ' H N) : N D = none := by
  cases e : N D with
  | none => rfl
  | some o =>
    have h1 := r.sub _ _ e
    have h2 := r.old D (.lst acc) upd_same
    rw [h1] at h2
    cases h2
    have := r.fresh _ _ e True.intro
    rw [upd_same] at this
    cases this
end
section
variable {X : Cx} {H0 : Hp} {ρ ρ1 ρ2 : Env'} {a b c e : Expr} {es : List Expr} {st : Stmt} {sts rest : List Stmt} {d d1 d2 : Dat} {ds : List Dat} {p pos : Pos} {o o1 : Outc} {x n : Str}
/-- what a comprehension makes of its items: the test of each, the element -/
theorem eo_comp {elt tg iter : Expr} {ifs : List Expr} {scope : Scope} {xn : Str} (i : Nat) {pos : Pos} (hc : X.calm = true) (nd : X.N.Nodup) (hi : Iter X H0 ρ tg iter ds) (ok : blkC X.N X.env.scope scope [(xn, i)] = true) (hx : ρ[i]? = some .no) (f : Dat → Bool) (g : Dat → Dat)
    (htg : ∀ (s : Shared) (H : Hp) (C : Addr) (cl : List (Str × Addr)) (fp : List Addr), PG (X.blk s H scope (compEnvC scope cl C X.env) fp) tg (gName i))
    (hif : (ifs = [] ∧ ∀ d ∈ ds, f d = true) ∨ ∃ c, ifs = [c] ∧ ∀ (H0' : Hp) (s : Shared) (H : Hp) (C : Addr) (cl : List (Str × Addr)) (fp : List Addr), Same H0 H0' → ∀ d ∈ ds, EvT (X.blk s H scope (compEnvC scope cl C X.env) fp) H0' (ρ.set i (.im d)) c (f d))
    (hel : ∀ (H0' : Hp) (s : Shared) (H : Hp) (C : Addr) (cl : List (Str × Addr)) (fp : List Addr), Same H0 H0' → ∀ d ∈ ds, f d = true → Ev (X.blk s H scope (compEnvC scope cl C X.env) fp) H0' (ρ.set i (.im d)) elt (g d))
    (hz : ds.length < sizeLine) (hs : ∀ x, foldedSetIterable iter X.env x = pure x := by intro _; rfl) : EvO X H0 ρ (.ListComp elt [⟨tg, iter, ifs, 0⟩] scope pos) (.lst ((ds.filter f).map g)) := fun σ H N r => by
  obtain ⟨wi, pi, hw⟩ := hi
  have pts : ∀ (s : Shared) (H : Hp) (C : Addr) (cl : List (Str × Addr)) (fp : List Addr), PTs (X.blk s H scope (compEnvC scope cl C X.env) fp) ifs
      (fun σ H Q => (ifs = [] ∧ Q true H) ∨ ∃ c, ifs = [c] ∧ ∀ s H' C cl fp, WT (X.blk s H' scope (compEnvC scope cl C X.env) fp) c σ H Q) := fun s H C cl fp => ⟨fun pins s' σ H Q I h => by
    rcases h with ⟨rfl, h⟩ | ⟨c, rfl, h⟩
    · exact pts_nil.run pins s' σ H Q I h
    · exact (pts_one pt_w).run pins s' σ H Q I (h _ _ _ _ _)⟩
  have pes : ∀ (s : Shared) (H : Hp) (C : Addr) (cl : List (Str × Addr)) (fp : List Addr), PE (X.blk s H scope (compEnvC scope cl C X.env) fp) elt
      (fun σ H Q => ∀ s H' C cl fp, WE (X.blk s H' scope (compEnvC scope cl C X.env) fp) elt σ H Q) := fun s H C cl fp => ⟨fun pins s' σ H Q I h => (h _ _ _ _ _).go pins s' I⟩
  refine we_of (pe_lc hc nd pi (blkOk_by ok) htg pts pes hs) (hw σ H N r _ fun J H1 N1 n1 s1 r1 w => fun D hD => ?_)
  have hiσ : i < σ.length := by rw [← r.len]; exact lt_of_get hx
  refine ⟨fun j m H' => m = ds.length - j ∧ j ≤ ds.length ∧ ∃ N' acc, Same N1 N' ∧ Same H1 H' ∧ Rep X.K H0 ρ σ H' N' ∧ N' D = none ∧ H' D = some (.lst acc) ∧ Ats X.K N' acc (((ds.take j).filter f).map g), ⟨_, rfl, Nat.zero_le _, N1, [], Same.refl _, Same.of_none hD, r1.grow (Same.of_none hD), r1.sub.free hD, upd_same, by simpa using Ats.nil⟩, ?_⟩
  rintro j m H' ⟨rfl, hj, N', acc, s', e', r', dN, dH, aa⟩
  have h0D : H0 D = none := r1.old.free hD
  have npD : ∀ (q : Nat) d, ρ[q]? = some (Ent.ow d) → σ[q]? ≠ some (some (V.ref D)) := no_own r1 hD
  obtain ⟨wg, wst⟩ := w (upd H0 D (.lst acc)) ρ σ H' N' j (Same.of_none h0D) s' (r'.toOld h0D dH dN npD)
  by_cases hlt : j < ds.length
  · obtain ⟨go, yl⟩ := wg hlt
    have et : ds.take (j + 1) = ds.take j ++ [ds[j]] := by rw [List.take_succ, List.getElem?_eq_getElem hlt]; rfl
    refine .inr ⟨go, fun H' => ∃ N' acc, Same N1 N' ∧ Same H1 H' ∧ Rep X.K H0 ρ σ H' N' ∧ N' D = none ∧ H' D = some (.lst acc) ∧ Ats X.K N' acc (((ds.take (j + 1)).filter f).map g), fun H2 q => ⟨_, by omega, rfl, hlt, q⟩, fun x H2 y => ?_⟩
    obtain ⟨N2, d, n2, e2, r2, e3, a2⟩ := yl x H2 y
    have ed : d = ds[j] := by
      rw [List.getElem?_eq_getElem hlt] at e3
      exact (Option.some.inj e3).symm
    subst ed
    have dH2 : H2 D = some (.lst acc) := e2 _ _ dH
    have np : ∀ (q : Nat) d, ρ[q]? = some (Ent.ow d) → σ[q]? ≠ some (some (V.ref D)) := no_own r1 hD
    have d0 : Same H0 (upd H0 D (.lst acc)) := Same.of_none h0D
    have mem : ds[j] ∈ ds := List.getElem_mem hlt
    have dH2 : H2 D = some (.lst acc) := e2 _ _ dH
    have r2' : Rep X.K (upd H0 D (.lst acc)) ρ σ H2 N2 := r2
    have rs := r2'.setE (i := i) (v := x) (e := .im ds[j]) a2
    have ws : (wipe σ [i]).set i (some x) = σ.set i (some x) := by show (σ.set i none).set i (some x) = _; rw [List.set_set]
    show wipe ((wipe σ [i]).set i (some x)) [i] = wipe σ [i] ∧ _
    refine ⟨by rw [ws]; show (σ.set i (some x)).set i none = σ.set i none; rw [List.set_set], ?_⟩
    rw [show (wipe σ (List.map (fun (x : Str × Nat) => x.snd) [(xn, i)])).set i (some x) = σ.set i (some x) from ws]
    have elem : ∀ H3 N3, f ds[j] = true → Same H2 H3 → Same N2 N3 → Rep X.K (upd H0 D (.lst acc)) (ρ.set i (.im ds[j])) (σ.set i (some x)) H3 N3 → ∀ s H' C cl fp, WE (X.blk s H' scope (compEnvC scope cl C X.env) fp) elt (σ.set i (some x)) H3 fun y H4 => ∃ acc', H4 D = some (.lst acc') ∧ acc'.length < sizeLine ∧
        ∃ N' a', Same N1 N' ∧ Same H1 (upd H4 D (.lst (acc' ++ [y]))) ∧ Rep X.K H0 ρ σ (upd H4 D (.lst (acc' ++ [y]))) N' ∧ N' D = none ∧ (upd H4 D (.lst (acc' ++ [y]))) D = some (.lst a') ∧ Ats X.K N' a' (((ds.take (j + 1)).filter f).map g) := fun H3 N3 hf e3' n3 r3 s H5 C cl fp => by
      refine (hel _ s H5 C cl fp d0 _ mem hf _ _ _ r3).imp fun y H4 ⟨N4, s4, n4, r4, a4⟩ => ?_
      have q4 : H4 D = some (.lst acc) := s4 _ _ (e3' _ _ dH2)
      refine ⟨acc, q4, ?_, N4, acc ++ [y], (((s'.trans n2).trans n3).trans n4), fun a u h => ?_, (r'.back hx d0 r4).updD h0D r4.notD np, r4.notD, upd_same, ?_⟩
      · rw [aa.length, List.length_map]
        have := List.length_filter_le f (ds.take j)
        have := List.length_take_le j ds
        omega
      · rw [upd_ne (ne_of_none h hD)]
        exact s4 _ _ (e3' _ _ (e2 _ _ (e' a u h)))
      · rw [et, List.filter_append, List.map_append]
        refine ((aa.mono n2).mono n3 |>.mono n4).append ?_
        rw [List.filter_cons, if_pos hf]
        exact .cons a4 .nil
    have skip : ∀ H3 N3, f ds[j] = false → Same H2 H3 → Same N2 N3 → Rep X.K (upd H0 D (.lst acc)) (ρ.set i (.im ds[j])) (σ.set i (some x)) H3 N3 → ∃ N' acc, Same N1 N' ∧ Same H1 H3 ∧ Rep X.K H0 ρ σ H3 N' ∧ N' D = none ∧ H3 D = some (.lst acc) ∧ Ats X.K N' acc (((ds.take (j + 1)).filter f).map g) := fun H3 N3 hf e3' n3 r3 => by
      refine ⟨N3, acc, (s'.trans n2).trans n3, (e'.trans e2).trans e3', r'.back hx d0 r3, r3.notD, e3' _ _ dH2, ?_⟩
      rw [et, List.filter_append, List.map_append, List.filter_cons, if_neg (by rw [hf]; exact Bool.false_ne_true)]
      simpa using (aa.mono n2).mono n3
    rcases hif with ⟨hne, hft⟩ | ⟨c, hc', ht⟩
    · exact .inl ⟨hne, iteT (elem H2 N2 (hft _ mem) (Same.refl _) (Same.refl _) rs)⟩
    · refine .inr ⟨c, hc', fun s H5 C cl fp => ?_⟩
      refine (ht _ s H5 C cl fp d0 _ mem _ _ _ rs).imp fun bb H3 ⟨eb, N3, s3, n3, r3⟩ => ?_
      subst eb
      cases hf : f ds[j] with
      | true => exact iteT (elem H3 N3 hf s3 n3 r3)
      | false => exact iteF (skip H3 N3 hf s3 n3 r3)
  · have e1 : j = ds.length := by omega
    subst e1
    rw [List.take_length] at aa
    exact .inl ⟨wst rfl, N', D, rfl, s1.free hD, s1.trans e', n1.trans s', r', dN, acc, dH, aa⟩
end
end B

namespace B
open PySem PySem.Spec PyProof.Rows L2
def Outc.out : Outc → Prop
  | .nx _ => False
  | _ => True
section
variable {X : Cx} {H0 : Hp} {ρ ρ1 ρ2 : Env'} {a b c e : Expr} {es : List Expr} {st : Stmt} {sts rest : List Stmt} {d d1 d2 : Dat} {ds : List Dat} {p pos : Pos} {o o1 : Outc} {x n : Str}
theorem et_to {k l : Bool} (h : EvT X H0 ρ e k) (hk : k = l) : EvT X H0 ρ e l := hk ▸ h
theorem ev_to (h : Ev X H0 ρ e d1) (hk : d1 = d) : Ev X H0 ρ e d := hk ▸ h
theorem ex_out (h : ExS X H0 ρ st o) (ho : o.out) : Exec X H0 ρ (st :: rest) o := by
  refine ex_cons h ?_
  cases o with
  | nx ρ => exact ho.elim
  | _ => rfl
theorem ev_powC {i j r : Int} (ha : Ev X H0 ρ a (.int i)) (hb : Ev X H0 ρ b (.int j)) (h : CPow i j) (e : i ^ j.toNat = r) : Ev X H0 ρ (.BinOp a .Pow b pos) (.int r) := ev_to (ev_pow ha hb h) (by rw [e])
theorem ev_shlC {i j r : Int} (ha : Ev X H0 ρ a (.int i)) (hb : Ev X H0 ρ b (.int j)) (h : CPow i j) (e : i * 2 ^ j.toNat = r) : Ev X H0 ρ (.BinOp a .LShift b pos) (.int r) := ev_to (ev_shl ha hb h) (by rw [e])
theorem mul_ok {i j : Int} (m n : Nat) (h1 : i.natAbs < 2 ^ m) (h2 : j.natAbs < 2 ^ n) (h0 : 0 < m) (h0' : 0 < n) (h : m + n ≤ 1000000) : IntMulOk i j := (wide_mul h1 h2 h0 h0' h).ok
theorem mul_l {i j : Int} (h1 : -(2 ^ 64) < i) (h2 : i < 2 ^ 64) : IntMulOk i j := .of_left (intBits_le_64 h1 h2)
theorem mul_r {i j : Int} (h1 : -(2 ^ 64) < j) (h2 : j < 2 ^ 64) : IntMulOk i j := .of_right (intBits_le_64 h1 h2)
end
section
variable {P : Program} {w : World} {K : PySem.W.Frag} {mg : Str → Option Value} {base : Heap} {x : Str} {st : Stmt} {ps N : List Str} {k : Nat} {R : List Dat → Res → Prop} {f : Addr} {fd : FuncData}
/-- THE RULE for a def, its address told -/
theorem fn_mk (F : Fun K x x st f fd) (S : FnScope N ps (defScope st)) (hl : ∀ ds o, R ds o → ds.length = ps.length)
    (body : ∀ (f : Addr) (cdv : Value) (A : Around) (outer : List PySem.Env) (s : Shared) (H : Hp) (E : XK), Room k (XX P w K mg base N x st f cdv A outer s H E).A → ∀ ds o, R ds o → ∃ es, Ents es ds ∧ ∀ H0, match o with
      | .own d => ExecO (XX P w K mg base N x st f cdv A outer s H E) H0 (es ++ List.replicate (N.length - ps.length) .no) (defBody st) d
      | o => Ends' (XX P w K mg base N x st f cdv A outer s H E) H0 (es ++ List.replicate (N.length - ps.length) .no) (defBody st) o) : FnOk P w K mg base (L2.CX P w) (k + 1) f fd ps (spR K mg R) := by
  refine F.okX S (fun vs H Q E ⟨ds, o, hr, a, _⟩ => by rw [a.length]; exact hl ds o hr) fun cdv A outer s H vs Q E hr hsp => ?_
  obtain ⟨ds, o, hR, a, q⟩ := hsp
  obtain ⟨es, he, hbody⟩ := body f cdv A outer s H E hr ds o hR
  have hlen : vs.length = ps.length := by rw [a.length]; exact hl ds o hR
  have r : Rep K H (es ++ List.replicate (N.length - ps.length) .no) (L2.start N vs) H (Imm H) := hlen ▸ rep_start he a
  have hb := hbody H
  refine ⟨_, pb_w, ?_⟩
  cases o with
  | val d =>
    cases hb with
    | ret h => exact h { nx := fun _ H' => Q .non H', rt := Q } _ _ _ r fun v H' s _ rt => q v H' s rt
    | non h => exact h { nx := fun _ H' => Q .non H', rt := Q } _ _ _ r fun σ H' N' s r' => q .non H' r'.old ⟨N', r'.sub, r'.fresh, .non⟩
  | own d => exact hb { nx := fun _ H' => Q .non H', rt := Q } _ _ _ r fun p H' N' s1 s2 s3 s4 s5 s6 => q p H' N' s1 s2 s3 s4 s5 s6
  | exc n =>
    cases hb with
    | exc h => exact h { nx := fun _ H' => Q .non H', rt := Q } _ _ _ r ⟨_, takes_of rfl rfl rfl rfl, fun C σ H' N' hm s r' => q C H' hm r'.old⟩
/-- the law's: at most 63 ints, of so many bits -/
def R_law : List Dat → Res → Prop := fun ds o => ∃ ns : List Int, ds = [.lst (ns.map .int)] ∧ ns.length ≤ 63 ∧ (∀ z ∈ ns, Builtin.Int.intBits z ≤ 1048576) ∧ o = .val (.bl true)
def spLaw (K : PySem.W.Frag) : Sp := fun vs H Q _ => ∃ (a : Addr) (ns : List Int), vs = [.ref a] ∧ SqL K H a (ns.map V.int) ∧ ns.length ≤ 63 ∧ (∀ z ∈ ns, Builtin.Int.intBits z ≤ 1048576) ∧ ∀ v H', v = .bl true → Q v H'
theorem ats_ints {K : PySem.W.Frag} {H : Hp} (ns : List Int) : Ats K H (ns.map .int) (ns.map .int) := Ats.ofInts ns
theorem law_imp (F : FnOk P w K mg base (L2.CX P w) k f fd ["script"] (spR K mg R_law)) : FnOk P w K mg base (L2.CX P w) k f fd ["script"] (spLaw K) := F.imp fun vs H Q E ⟨a, ns, e, hS, hl, hb, q⟩ => by
  subst e
  exact ⟨[.lst (ns.map .int)], .val (.bl true), ⟨ns, rfl, hl, hb, rfl⟩, .cons (.lst hS (ats_ints ns)) .nil, fun v H' _ ⟨N, _, _, a⟩ => q v H' (at_bl a)⟩
end
theorem walk {l : PySem.W.OpenLaw} {k : Nat} {q : Program} {loose : List Str} {XP : (Str → Option Value) → Heap → Prop} {YP : World → Heap → Prop} {d : DefRec} {K : Params → PySem.W.Frag} (hn : l.most = some 63) (hdf : d.params.defaults = []) (hr : Room k callerA)
    (hY : ∀ (w : World) (h : Heap), YP w h → (K w.params).In h)
    (F : ∀ (w : World) (mg : Str → Option Value) (fa : Addr) (h : Heap), (K w.params).In h → h.Ns mainGlobals mg → mg d.name = some (.ref fa) →
      ∃ fd : FuncData, (∀ (s : Shared) (u : Value), BindsTo s fd ⟨[u], []⟩ [("script", u)]) ∧ ∀ base : Heap, (K w.params).In base → base.Ns mainGlobals mg → FnOk l.prog w (K w.params) mg base (L2.CX l.prog w) k fa fd ["script"] (spLaw (K w.params))) :
    PySem.W.WalkO q loose XP YP l.row.toRowW d [] (fun f vs => PySem.call f vs) :=
  L2.walk_ofB (n := 63) (k := k) (x := "script") (CX := fun w => L2.CX l.prog w) (sp := fun w => spLaw (K w.params)) hn (by decide) hdf hr hY F
    (fun _ _ a ns hl hb _ hS => ⟨a, ns, rfl, hS, hl, hb, fun _ _ e => e⟩) fun _ _ _ _ _ h => by
      obtain ⟨_, _, _, _, _, _, _, _, _, _, _, _, z⟩ := h
      exact z.elim

/-! ### the classes of errors among one another -/
def Kit (K : PySem.W.Frag) (mg : Str → Option Value) (C : Addr) (n : Str) (b : Bool) : Prop := ∃ D, mg n = some (.ref D) ∧ PySem.W.kitOne K (.ref C) (.ref D) = some b
def Exm (K : PySem.W.Frag) (mg : Str → Option Value) (C : Addr) (n : Str) : Prop := ∃ D, mg n = some (.ref D) ∧ PySem.W.exmOne K (.ref C) (.ref D) = some true
theorem kit_own {K : PySem.W.Frag} {C D : Addr} {b : Bool} (hs : PySem.W.subIn K (.ref C) (.ref C) = some true) (hd : PySem.W.hasDictIn K D = true) (ht : PySem.W.typeIn K (.ref D) = some (.type "type")) (h : PySem.W.subIn K (.ref C) (.ref D) = some b) : PySem.W.kitOne K (.ref C) (.ref D) = some b := by
  obtain ⟨cd, hc, _⟩ := PySem.W.any_some hd
  by_cases e : C = D
  · subst e
    rw [hs] at h
    cases h
    show (if (Value.ref C == Value.ref C) = true then some true else _) = _
    rw [if_pos (by simp)]
  · show (if (Value.ref C == Value.ref D) = true then some true else (if ((PySem.W.clsIn K D).isSome && PySem.W.typeIn K (.ref D) == some (.type "type")) = true then PySem.W.subIn K (.ref C) (.ref D) else none)) = _
    rw [if_neg (by intro q; exact e (Value.ref.inj (beq_iff_eq.mp q))), if_pos (by rw [hc, ht] <;> rfl)]
    exact h
theorem kit_ve {K : PySem.W.Frag} {C : Addr} (h : PySem.W.subIn K (.ref C) (.type "ValueError") = some true) : PySem.W.kitOne K (.ref C) (.type "ValueError") = some true := by
  show (if (Value.ref C == Value.type "ValueError") = true then some true else (if PySem.W.kitMeta "ValueError" = true then PySem.W.subIn K (.ref C) (.type "ValueError") else none)) = _
  rw [if_neg (by intro e; cases (beq_iff_eq.mp e)), if_pos (by decide +kernel)]
  exact h

def Kits (K : PySem.W.Frag) (mg : Str → Option Value) (C : Addr) : List (Str × Bool) → Prop
  | [] => True
  | p :: r => Kit K mg C p.1 p.2 ∧ Kits K mg C r
theorem kits_nil {K : PySem.W.Frag} {mg : Str → Option Value} {C : Addr} : Kits K mg C [] := trivial
theorem kits_cons {K : PySem.W.Frag} {mg : Str → Option Value} {C : Addr} {n : Str} {b : Bool} {r : List (Str × Bool)} (h : Kit K mg C n b) (t : Kits K mg C r) : Kits K mg C ((n, b) :: r) := ⟨h, t⟩
theorem Kits.get {K : PySem.W.Frag} {mg : Str → Option Value} {C : Addr} : ∀ {l : List (Str × Bool)} (n : Str) (b : Bool), Kits K mg C l → (n, b) ∈ l → Kit K mg C n b
  | [], _, _, _, h => by cases h
  | p :: r, n, b, k, h => by
    rcases List.mem_cons.mp h with e | h
    · have e1 : p.1 = n := by rw [← e]
      have e2 : p.2 = b := by rw [← e]
      rw [← e1, ← e2]
      exact k.1
    · exact Kits.get n b k.2 h
/-- what is known of the class that a refusal has -/
structure ExcX (K : PySem.W.Frag) (mg : Str → Option Value) (n : Str) (l : List (Str × Bool)) (C : Addr) : Prop where
  at_ : ExcAt K mg n C
  ec : ExcC K C
  self : PySem.W.exmOne K (.ref C) (.ref C) = some true
  press : Exm K mg C "PressError"
  ve : PySem.W.kitOne K (.ref C) (.type "ValueError") = some true
  kits : Kits K mg C l
section
variable {X : Cx} {H0 : Hp} {ρ ρ1 ρ2 : Env'} {a b c e : Expr} {es : List Expr} {st : Stmt} {sts rest : List Stmt} {d d1 d2 : Dat} {ds : List Dat} {p pos : Pos} {o o1 : Outc} {x n : Str}
theorem ev_isEo {a D : Addr} {oe : Obj} {pn : List (Addr × Obj)} {y ee : Str} {p1 p2 : Pos} {k : Bool} (i : Nat) (N : Kit X.K X.mg D y k) (C : ExcC X.K D) (hz : Zc (.ref D) none oe) (hf : ∃ vs, oe.data = .fields vs) (hρ : ρ[i]? = some (.rf a))
    (hm : X.mg "isinstance" = none) (hgy : Gl X y := by rfl) (hdy : (y == ("__debug__" : Str)) = false := by decide) (hN : X.N[i]? = some ee := by rfl) (hv : Vis X.env.scope ee := by first | exact Or.inl rfl | exact Or.inr (Or.inl rfl) | exact Or.inr (Or.inr rfl)) (hg : Gl X "isinstance" := by rfl) (hd : (ee == ("__debug__" : Str)) = false := by decide) (hcd : (ee == ("__classdict__" : Str)) = false := by decide)
    (he : starEach [.Name ee p1, .Name y p2] X.env = (false, eval (.Name ee p1) X.env) :: starEach [.Name y p2] X.env := by rfl) (he2 : starEach [.Name y p2] X.env = (false, eval (.Name y p2) X.env) :: starEach [] X.env := by rfl) (hpl : (backTo pos (starEach [.Name y p2] X.env)).any (·.1) = false := by rfl) :
    Ev (X.suite a ((a, oe) :: pn)) H0 ρ (.Call (.Name "isinstance" p) [.Name ee p1, .Name y p2] [] pos) (.bl k) := by
  obtain ⟨D2, m, q⟩ := N
  exact ev_isE (c := .ref D2) (u := .ref D2) i C hz hf hρ ⟨.own D2, hgy, hdy, .inl m⟩ q hm hN hv hg hd hcd he he2 hpl
theorem ev_isEv {a D : Addr} {oe : Obj} {pn : List (Addr × Obj)} {ee : Str} {p1 p2 : Pos} (i : Nat) (N : PySem.W.kitOne X.K (.ref D) (.type "ValueError") = some true) (hb : X.mg "ValueError" = none) (C : ExcC X.K D) (hz : Zc (.ref D) none oe) (hf : ∃ vs, oe.data = .fields vs) (hρ : ρ[i]? = some (.rf a))
    (hm : X.mg "isinstance" = none) (hgy : Gl X "ValueError" := by rfl) (hN : X.N[i]? = some ee := by rfl) (hv : Vis X.env.scope ee := by first | exact Or.inl rfl | exact Or.inr (Or.inl rfl) | exact Or.inr (Or.inr rfl)) (hg : Gl X "isinstance" := by rfl) (hd : (ee == ("__debug__" : Str)) = false := by decide) (hcd : (ee == ("__classdict__" : Str)) = false := by decide)
    (he : starEach [.Name ee p1, .Name "ValueError" p2] X.env = (false, eval (.Name ee p1) X.env) :: starEach [.Name "ValueError" p2] X.env := by rfl) (he2 : starEach [.Name "ValueError" p2] X.env = (false, eval (.Name "ValueError" p2) X.env) :: starEach [] X.env := by rfl) (hpl : (backTo pos (starEach [.Name "ValueError" p2] X.env)).any (·.1) = false := by rfl) :
    Ev (X.suite a ((a, oe) :: pn)) H0 ρ (.Call (.Name "isinstance" p) [.Name ee p1, .Name "ValueError" p2] [] pos) (.bl true) :=
  ev_isE (c := .ty "ValueError") (u := .type "ValueError") i C hz hf hρ ⟨.ty _, hgy, by decide, .inr ⟨hb, by decide +kernel, by decide⟩⟩ N hm hN hv hg hd hcd he he2 hpl
inductive NoKits (X : Cx) (D : Addr) : List Expr → Prop where
  | nil : NoKits X D []
  | cons {y : Str} {pp : Pos} {es : List Expr} (k : Kit X.K X.mg D y false) (t : NoKits X D es) (g : Gl X y := by rfl) (hd : (y == ("__debug__" : Str)) = false := by decide) : NoKits X D (.Name y pp :: es)
theorem NoKits.get {D : Addr} : ∀ {es : List Expr}, NoKits X D es → ∃ cs us, ClsNs X es cs us ∧ PySem.W.kitAny X.K (.ref D) us = some false
  | _, .nil => ⟨[], [], .nil, rfl⟩
  | _, .cons k t g hd => by
    obtain ⟨cs, us, h1, h2⟩ := NoKits.get t
    obtain ⟨E, m, q⟩ := k
    exact ⟨.ref E :: cs, .ref E :: us, .cons ⟨.own E, g, hd, .inl m⟩ h1, kitAny_cons q (fun _ => h2) (fun z => nomatch z)⟩
theorem NoKits.suite {D a : Addr} {pn : List (Addr × Obj)} : ∀ {es : List Expr}, NoKits X D es → NoKits (X.suite a pn) D es
  | _, .nil => .nil
  | _, .cons k t g hd => .cons k (NoKits.suite t) g hd
theorem ev_isEs {a D : Addr} {oe : Obj} {pn : List (Addr × Obj)} {ee : Str} {p1 p2 : Pos} {kk : Nat} (i : Nat) (N : NoKits X D es) (C : ExcC X.K D) (hz : Zc (.ref D) none oe) (hf : ∃ vs, oe.data = .fields vs) (hρ : ρ[i]? = some (.rf a))
    (hm : X.mg "isinstance" = none) (hl : es.length ≤ sizeLine := by decide) (hst : ∀ y pp r, starEach (Expr.Name y pp :: r) X.env = (false, eval (Expr.Name y pp) X.env) :: starEach r X.env := by intro _ _ _; rfl) (hN : X.N[i]? = some ee := by rfl) (hv : Vis X.env.scope ee := by first | exact Or.inl rfl | exact Or.inr (Or.inl rfl) | exact Or.inr (Or.inr rfl)) (hg : Gl X "isinstance" := by rfl)
    (hd : (ee == ("__debug__" : Str)) = false := by decide) (hcd : (ee == ("__classdict__" : Str)) = false := by decide)
    (he : starEach [.Name ee p1, .Tuple es kk p2] X.env = (false, eval (.Name ee p1) X.env) :: starEach [.Tuple es kk p2] X.env := by rfl) (he2 : starEach [.Tuple es kk p2] X.env = (false, eval (.Tuple es kk p2) X.env) :: starEach [] X.env := by rfl) (hpl : (backTo pos (starEach [.Tuple es kk p2] X.env)).any (·.1) = false := by rfl) :
    Ev (X.suite a ((a, oe) :: pn)) H0 ρ (.Call (.Name "isinstance" p) [.Name ee p1, .Tuple es kk p2] [] pos) (.bl false) := by
  obtain ⟨cs, us, h1, h2⟩ := (N.suite (a := a) (pn := (a, oe) :: pn)).get
  exact ev_isET i C hz hf hρ h1 h2 hm hl hst hN hv hg hd hcd he he2 hpl
/-- except x: the class of that name -/
theorem names_of {C : Addr} (h : X.mg x = some (.ref C)) (g : Gl X x := by rfl) (hd : (x == ("__debug__" : Str)) = false := by decide) : Names X x (.ref C) := ⟨g, hd, .inl h⟩
end
def isInt : Dat → Bool
  | .int _ => true
  | .bl _ => true
  | _ => false
theorem kit_isInt : ∀ (d : Dat), kitB (tyName d) "int" = some (isInt d)
  | .non => (by decide +kernel : kitB "NoneType" "int" = some false)
  | .bl _ => (by decide +kernel : kitB "bool" "int" = some true)
  | .int _ => (by decide +kernel : kitB "int" "int" = some true)
  | .str _ => (by decide +kernel : kitB "str" "int" = some false)
  | .tup _ => (by decide +kernel : kitB "tuple" "int" = some false)
  | .lst _ => (by decide +kernel : kitB "list" "int" = some false)
  | .dic _ => (by decide +kernel : kitB "dict" "int" = some false)
  | .ins _ _ _ => (by decide +kernel : kitB "NoneType" "int" = some false)
  | .tix _ => (by decide +kernel : kitB "tuple" "int" = some false)
  | .dit _ _ => (by decide +kernel : kitB "dict" "int" = some false)
def isBool : Dat → Bool
  | .bl _ => true
  | _ => false
theorem kit_isBool : ∀ (d : Dat), kitB (tyName d) "bool" = some (isBool d)
  | .non => (by decide +kernel : kitB "NoneType" "bool" = some false)
  | .bl _ => (by decide +kernel : kitB "bool" "bool" = some true)
  | .int _ => (by decide +kernel : kitB "int" "bool" = some false)
  | .str _ => (by decide +kernel : kitB "str" "bool" = some false)
  | .tup _ => (by decide +kernel : kitB "tuple" "bool" = some false)
  | .lst _ => (by decide +kernel : kitB "list" "bool" = some false)
  | .dic _ => (by decide +kernel : kitB "dict" "bool" = some false)
  | .ins _ _ _ => (by decide +kernel : kitB "NoneType" "bool" = some false)
  | .tix _ => (by decide +kernel : kitB "tuple" "bool" = some false)
  | .dit _ _ => (by decide +kernel : kitB "dict" "bool" = some false)
def isStr : Dat → Bool
  | .str _ => true
  | _ => false
theorem kit_isStr : ∀ (d : Dat), kitB (tyName d) "str" = some (isStr d)
  | .non => (by decide +kernel : kitB "NoneType" "str" = some false)
  | .bl _ => (by decide +kernel : kitB "bool" "str" = some false)
  | .int _ => (by decide +kernel : kitB "int" "str" = some false)
  | .str _ => (by decide +kernel : kitB "str" "str" = some true)
  | .tup _ => (by decide +kernel : kitB "tuple" "str" = some false)
  | .lst _ => (by decide +kernel : kitB "list" "str" = some false)
  | .dic _ => (by decide +kernel : kitB "dict" "str" = some false)
  | .ins _ _ _ => (by decide +kernel : kitB "NoneType" "str" = some false)
  | .tix _ => (by decide +kernel : kitB "tuple" "str" = some false)
  | .dit _ _ => (by decide +kernel : kitB "dict" "str" = some false)
def isTup : Dat → Bool
  | .tup _ => true
  | .tix _ => true
  | _ => false
theorem kit_isTup : ∀ (d : Dat), kitB (tyName d) "tuple" = some (isTup d)
  | .non => (by decide +kernel : kitB "NoneType" "tuple" = some false)
  | .bl _ => (by decide +kernel : kitB "bool" "tuple" = some false)
  | .int _ => (by decide +kernel : kitB "int" "tuple" = some false)
  | .str _ => (by decide +kernel : kitB "str" "tuple" = some false)
  | .tup _ => (by decide +kernel : kitB "tuple" "tuple" = some true)
  | .lst _ => (by decide +kernel : kitB "list" "tuple" = some false)
  | .dic _ => (by decide +kernel : kitB "dict" "tuple" = some false)
  | .ins _ _ _ => (by decide +kernel : kitB "NoneType" "tuple" = some false)
  | .tix _ => (by decide +kernel : kitB "tuple" "tuple" = some true)
  | .dit _ _ => (by decide +kernel : kitB "dict" "tuple" = some false)
def isLst : Dat → Bool
  | .lst _ => true
  | _ => false
theorem kit_isLst : ∀ (d : Dat), kitB (tyName d) "list" = some (isLst d)
  | .non => (by decide +kernel : kitB "NoneType" "list" = some false)
  | .bl _ => (by decide +kernel : kitB "bool" "list" = some false)
  | .int _ => (by decide +kernel : kitB "int" "list" = some false)
  | .str _ => (by decide +kernel : kitB "str" "list" = some false)
  | .tup _ => (by decide +kernel : kitB "tuple" "list" = some false)
  | .lst _ => (by decide +kernel : kitB "list" "list" = some true)
  | .dic _ => (by decide +kernel : kitB "dict" "list" = some false)
  | .ins _ _ _ => (by decide +kernel : kitB "NoneType" "list" = some false)
  | .tix _ => (by decide +kernel : kitB "tuple" "list" = some false)
  | .dit _ _ => (by decide +kernel : kitB "dict" "list" = some false)
def isDic : Dat → Bool
  | .dic _ => true
  | .dit _ _ => true
  | _ => false
theorem kit_isDic : ∀ (d : Dat), kitB (tyName d) "dict" = some (isDic d)
  | .non => (by decide +kernel : kitB "NoneType" "dict" = some false)
  | .bl _ => (by decide +kernel : kitB "bool" "dict" = some false)
  | .int _ => (by decide +kernel : kitB "int" "dict" = some false)
  | .str _ => (by decide +kernel : kitB "str" "dict" = some false)
  | .tup _ => (by decide +kernel : kitB "tuple" "dict" = some false)
  | .lst _ => (by decide +kernel : kitB "list" "dict" = some false)
  | .dic _ => (by decide +kernel : kitB "dict" "dict" = some true)
  | .ins _ _ _ => (by decide +kernel : kitB "NoneType" "dict" = some false)
  | .tix _ => (by decide +kernel : kitB "tuple" "dict" = some false)
  | .dit _ _ => (by decide +kernel : kitB "dict" "dict" = some true)
section
variable {X : Cx} {H0 : Hp} {ρ ρ1 ρ2 : Env'} {a b c e : Expr} {es : List Expr} {st : Stmt} {sts rest : List Stmt} {d d1 d2 : Dat} {ds : List Dat} {p pos : Pos} {o o1 : Outc} {x n : Str}
theorem ev_isi_int {p2 : Pos} (ha : EvB X H0 ρ a d) (hm : X.mg "isinstance" = none) (hmT : X.mg "int" = none) (hg : Gl X "isinstance" := by rfl) (hgT : Gl X "int" := by rfl)
    (he : starEach [a, .Name "int" p2] X.env = (false, eval a X.env) :: starEach [.Name "int" p2] X.env := by rfl) (he2 : starEach [.Name "int" p2] X.env = (false, eval (.Name "int" p2) X.env) :: starEach [] X.env := by rfl) (hpl : (backTo pos (starEach [.Name "int" p2] X.env)).any (·.1) = false := by rfl) :
    Ev X H0 ρ (.Call (.Name "isinstance" p) [a, .Name "int" p2] [] pos) (.bl (isInt d)) := ev_isi ha (kit_isInt d) hm hmT (by decide +kernel) hg hgT (by decide) (by decide) he he2 hpl
theorem ev_isi_bool {p2 : Pos} (ha : EvB X H0 ρ a d) (hm : X.mg "isinstance" = none) (hmT : X.mg "bool" = none) (hg : Gl X "isinstance" := by rfl) (hgT : Gl X "bool" := by rfl)
    (he : starEach [a, .Name "bool" p2] X.env = (false, eval a X.env) :: starEach [.Name "bool" p2] X.env := by rfl) (he2 : starEach [.Name "bool" p2] X.env = (false, eval (.Name "bool" p2) X.env) :: starEach [] X.env := by rfl) (hpl : (backTo pos (starEach [.Name "bool" p2] X.env)).any (·.1) = false := by rfl) :
    Ev X H0 ρ (.Call (.Name "isinstance" p) [a, .Name "bool" p2] [] pos) (.bl (isBool d)) := ev_isi ha (kit_isBool d) hm hmT (by decide +kernel) hg hgT (by decide) (by decide) he he2 hpl
theorem ev_isi_str {p2 : Pos} (ha : EvB X H0 ρ a d) (hm : X.mg "isinstance" = none) (hmT : X.mg "str" = none) (hg : Gl X "isinstance" := by rfl) (hgT : Gl X "str" := by rfl)
    (he : starEach [a, .Name "str" p2] X.env = (false, eval a X.env) :: starEach [.Name "str" p2] X.env := by rfl) (he2 : starEach [.Name "str" p2] X.env = (false, eval (.Name "str" p2) X.env) :: starEach [] X.env := by rfl) (hpl : (backTo pos (starEach [.Name "str" p2] X.env)).any (·.1) = false := by rfl) :
    Ev X H0 ρ (.Call (.Name "isinstance" p) [a, .Name "str" p2] [] pos) (.bl (isStr d)) := ev_isi ha (kit_isStr d) hm hmT (by decide +kernel) hg hgT (by decide) (by decide) he he2 hpl
theorem ev_isi_tuple {p2 : Pos} (ha : EvB X H0 ρ a d) (hm : X.mg "isinstance" = none) (hmT : X.mg "tuple" = none) (hg : Gl X "isinstance" := by rfl) (hgT : Gl X "tuple" := by rfl)
    (he : starEach [a, .Name "tuple" p2] X.env = (false, eval a X.env) :: starEach [.Name "tuple" p2] X.env := by rfl) (he2 : starEach [.Name "tuple" p2] X.env = (false, eval (.Name "tuple" p2) X.env) :: starEach [] X.env := by rfl) (hpl : (backTo pos (starEach [.Name "tuple" p2] X.env)).any (·.1) = false := by rfl) :
    Ev X H0 ρ (.Call (.Name "isinstance" p) [a, .Name "tuple" p2] [] pos) (.bl (isTup d)) := ev_isi ha (kit_isTup d) hm hmT (by decide +kernel) hg hgT (by decide) (by decide) he he2 hpl
theorem ev_isi_list {p2 : Pos} (ha : EvB X H0 ρ a d) (hm : X.mg "isinstance" = none) (hmT : X.mg "list" = none) (hg : Gl X "isinstance" := by rfl) (hgT : Gl X "list" := by rfl)
    (he : starEach [a, .Name "list" p2] X.env = (false, eval a X.env) :: starEach [.Name "list" p2] X.env := by rfl) (he2 : starEach [.Name "list" p2] X.env = (false, eval (.Name "list" p2) X.env) :: starEach [] X.env := by rfl) (hpl : (backTo pos (starEach [.Name "list" p2] X.env)).any (·.1) = false := by rfl) :
    Ev X H0 ρ (.Call (.Name "isinstance" p) [a, .Name "list" p2] [] pos) (.bl (isLst d)) := ev_isi ha (kit_isLst d) hm hmT (by decide +kernel) hg hgT (by decide) (by decide) he he2 hpl
theorem ev_isi_dict {p2 : Pos} (ha : EvB X H0 ρ a d) (hm : X.mg "isinstance" = none) (hmT : X.mg "dict" = none) (hg : Gl X "isinstance" := by rfl) (hgT : Gl X "dict" := by rfl)
    (he : starEach [a, .Name "dict" p2] X.env = (false, eval a X.env) :: starEach [.Name "dict" p2] X.env := by rfl) (he2 : starEach [.Name "dict" p2] X.env = (false, eval (.Name "dict" p2) X.env) :: starEach [] X.env := by rfl) (hpl : (backTo pos (starEach [.Name "dict" p2] X.env)).any (·.1) = false := by rfl) :
    Ev X H0 ρ (.Call (.Name "isinstance" p) [a, .Name "dict" p2] [] pos) (.bl (isDic d)) := ev_isi ha (kit_isDic d) hm hmT (by decide +kernel) hg hgT (by decide) (by decide) he he2 hpl
end

theorem ExcX.eq {K : PySem.W.Frag} {mg : Str → Option Value} {n : Str} {l : List (Str × Bool)} {C C' : Addr} (x : ExcX K mg n l C) (h : mg n = some (.ref C')) : C' = C := by
  rw [x.at_.g] at h
  cases h
  rfl
theorem ExcX.exm {K : PySem.W.Frag} {mg : Str → Option Value} {n : Str} {l : List (Str × Bool)} {C : Addr} (x : ExcX K mg n l C) : ∀ C', mg n = some (.ref C') → PySem.W.exmOne K (.ref C') (.ref C) = some true := fun C' h => by
  rw [x.eq h]
  exact x.self

theorem fits_small {i : Int} (h1 : -(2 ^ 40) ≤ i) (h2 : i ≤ 2 ^ 40) : Builtin.Range.rangeFitsLong i = true := by
  unfold Builtin.Range.rangeFitsLong
  rw [Bool.and_eq_true]
  exact ⟨decide_eq_true (by omega), decide_eq_true (by omega)⟩
/-- range(i, j, c), c above 0 -/
theorem rgc_pos {i j c : Int} {n : Nat} (hc : 0 < c) (hc2 : c < 1073741824) (hi : -(2 ^ 39) ≤ i) (hi2 : i ≤ 2 ^ 39) (hj : -(2 ^ 39) ≤ j) (hj2 : j ≤ 2 ^ 39) (hn : (n : Int) = if i < j then (j - i - 1) / c + 1 else 0) : RgC i j c n := by
  have e : Builtin.Range.rangeSize i j c = (n : Int) := by
    unfold Builtin.Range.rangeSize
    rw [if_pos hc, hn]
  have hb : (n : Int) ≤ 2 ^ 40 := by
    rw [hn]
    split
    · have : (j - i - 1) / c ≤ j - i - 1 := Int.ediv_le_self _ (by omega)
      omega
    · decide
  refine ⟨by omega, by omega, ?_, e⟩
  unfold Builtin.Range.small
  rw [e, fits_small (by omega) (by omega), fits_small (by omega) (by omega), fits_small (by omega) (by omega), fits_small (i := (n : Int)) (by omega) hb, if_pos hc, fits_small (by omega) (by omega)]
  simp

/-- each turn leads back to the same -/
theorem for_same {X : Cx} {H0 : Hp} {bd : Dat → Env' → Env'} {body : List Stmt} {ρ : Env'} : ∀ {ds : List Dat}, (∀ d ∈ ds, Exec X H0 (bd d ρ) body (.nx ρ)) → ForT X H0 bd body ds ρ (.nx ρ)
  | [], _ => .nil
  | d :: ds, h => .turn (h d List.mem_cons_self) (for_same fun e he => h e (List.mem_cons_of_mem _ he))
theorem mem_steps {lo c : Int} {n : Nat} {d : Dat} (h : d ∈ steps lo c n) : ∃ i : Nat, i < n ∧ d = .int (lo + (i : Int) * c) := by
  unfold steps at h
  obtain ⟨i, hi, rfl⟩ := List.mem_map.mp h
  exact ⟨i, List.mem_range.mp hi, rfl⟩
theorem mem_ints {ns : List Int} {d : Dat} (h : d ∈ ns.map Dat.int) : ∃ z, z ∈ ns ∧ d = .int z := by
  obtain ⟨i, hi, rfl⟩ := List.mem_map.mp h
  exact ⟨i, hi, rfl⟩
end B

namespace B
open PySem PySem.Spec PyProof.Rows L2

/-- a text -/
abbrev tx (l : List Nat) : Dat := .str (SX.S l)
/-- the part of a row from lo to hi -/
def cut {α : Type} (xs : List α) (lo hi : Option Int) : List α := (xs.drop (HT.sIx xs.length 0 lo)).take (HT.sIx xs.length xs.length hi - HT.sIx xs.length 0 lo)
theorem flats_cut {ds : List Dat} (f : flats ds = true) (lo hi : Option Int) : flats (cut ds lo hi) = true := by
  have h1 : ∀ (l : List Dat), flats l = l.all flat := by
    intro l
    induction l with
    | nil => rfl
    | cons d r ih => show (flat d && flats r) = _; rw [ih]; rfl
  rw [h1, List.all_eq_true] at f ⊢
  intro d hd
  exact f d (List.mem_of_mem_drop (List.mem_of_mem_take hd))

section
variable {X : Cx} {H0 : Hp} {ρ ρ1 ρ2 : Env'} {a b c e : Expr} {es : List Expr} {st : Stmt} {sts rest : List Stmt} {d d1 d2 : Dat} {ds : List Dat} {p pos : Pos} {o o1 : Outc} {x n : Str}

/-! ### sum, list, ord, int -/
theorem ev_sum {ns : List Int} (ha : EvB X H0 ρ a (.lst (ns.map .int))) (hc : X.calm = true) (hm : X.mg "sum" = none) (hg : Gl X "sum" := by rfl) (he : starEach [a] X.env = (false, eval a X.env) :: starEach [] X.env := by rfl) (hpl : (backTo pos (starEach [] X.env)).any (·.1) = false := by rfl) :
    Ev X H0 ρ (.Call (.Name "sum" p) [a] [] pos) (.int ns.sum) := ev_blt (cr_sum hc) hm (by decide +kernel) (eab1 ha he) (fun vs σ H N Q r q g => by
    obtain ⟨v, e1, e2⟩ := ats_one q
    obtain ⟨pp, us, e3, h1, h2⟩ := at_lst e2
    rw [h2.ints] at h1
    exact ⟨pp, ns, by rw [e1, e3], h1, goes_self g r (.int _)⟩) hg (by decide) (by decide) he hpl
theorem eo_list (ha : EvB X H0 ρ a (.lst ds)) (f : flats ds = true) (hm : X.mg "list" = none) (hg : Gl X "list" := by rfl) (he : starEach [a] X.env = (false, eval a X.env) :: starEach [] X.env := by rfl) (hpl : (backTo pos (starEach [] X.env)).any (·.1) = false := by rfl) :
    EvO X H0 ρ (.Call (.Name "list" p) [a] [] pos) (.lst ds) := fun σ H N rp =>
  we_of (pe_callTy call_list_of hg hm (by decide +kernel) pa_w (by decide) (by decide) he hpl) ((eab1 ha he σ H N rp).imp fun vs H1 ⟨N1, s1, n1, r1, a1⟩ => by
    obtain ⟨v, e1, e2⟩ := ats_one a1
    obtain ⟨pp, us, e3, h1, h2⟩ := at_lst e2
    obtain ⟨N2, n2, r2, k⟩ := r1.keep
    refine ⟨pp, us, by rw [e1, e3], .inl h1, fun l hl => ?_⟩
    obtain ⟨r3, n3⟩ := eo_new (o := .lst us) r2 hl
    exact ⟨N2, l, rfl, s1.free hl, s1.trans (Same.of_none hl), n1.trans n2, r3, n3, us, upd_same, (h2.imm f).mono k⟩)
theorem eo_listT (ha : EvB X H0 ρ a (.tup ds)) (f : flats ds = true) (hm : X.mg "list" = none) (hg : Gl X "list" := by rfl) (he : starEach [a] X.env = (false, eval a X.env) :: starEach [] X.env := by rfl) (hpl : (backTo pos (starEach [] X.env)).any (·.1) = false := by rfl) :
    EvO X H0 ρ (.Call (.Name "list" p) [a] [] pos) (.lst ds) := fun σ H N rp =>
  we_of (pe_callTy call_list_of hg hm (by decide +kernel) pa_w (by decide) (by decide) he hpl) ((eab1 ha he σ H N rp).imp fun vs H1 ⟨N1, s1, n1, r1, a1⟩ => by
    obtain ⟨v, e1, e2⟩ := ats_one a1
    obtain ⟨pp, us, e3, h1, h2⟩ := at_seq e2
    obtain ⟨N2, n2, r2, k⟩ := r1.keep
    refine ⟨pp, us, by rw [e1, e3], .inr h1, fun l hl => ?_⟩
    obtain ⟨r3, n3⟩ := eo_new (o := .lst us) r2 hl
    exact ⟨N2, l, rfl, s1.free hl, s1.trans (Same.of_none hl), n1.trans n2, r3, n3, us, upd_same, (h2.imm f).mono k⟩)
theorem ev_ord {k : Nat} (ha : Ev X H0 ρ a (tx [k])) (hm : X.mg "ord" = none) (hg : Gl X "ord" := by rfl) (he : starEach [a] X.env = (false, eval a X.env) :: starEach [] X.env := by rfl) (hpl : (backTo pos (starEach [] X.env)).any (·.1) = false := by rfl) :
    Ev X H0 ρ (.Call (.Name "ord" p) [a] [] pos) (.int (k : Int)) := ev_blt call_ord hm (by decide +kernel) (eab1 ha.toB he) (fun vs σ H N Q r q g => by
    obtain ⟨v, e1, e2⟩ := ats_one q
    rw [at_str e2] at e1
    exact ⟨_, e1, rfl, goes_self g r (.int _)⟩) hg (by decide) (by decide) he hpl
theorem ev_intB {k : Bool} (ha : Ev X H0 ρ a (.bl k)) (hm : X.mg "int" = none) (hg : Gl X "int" := by rfl) (he : starEach [a] X.env = (false, eval a X.env) :: starEach [] X.env := by rfl) (hpl : (backTo pos (starEach [] X.env)).any (·.1) = false := by rfl) :
    Ev X H0 ρ (.Call (.Name "int" p) [a] [] pos) (.int (if k then 1 else 0)) := ev_ty call_int1 hm (by decide +kernel) (eab1 ha.toB he) (fun vs σ H N Q r q g => by
    obtain ⟨v, e1, e2⟩ := ats_one q
    rw [at_bl e2] at e1
    exact .inr ⟨k, e1, goes_self g r (.int _)⟩) hg (by decide) (by decide) he hpl

/-! ### slices -/
/-- a part of a slice -/
def EvP (X : Cx) (H0 : Hp) (ρ : Env') (e : Option Expr) (o : Option Int) : Prop := ∃ t : TO, PO X e t ∧ ∀ σ H N, Rep X.K H0 ρ σ H N → ∀ Q : Option Int → Hp → Prop, (∀ H' N', Same H H' → Same N N' → Rep X.K H0 ρ σ H' N' → Q o H') → t σ H Q
theorem eo_none : EvP X H0 ρ none none := ⟨_, po_none, fun σ H N r Q k => k H N (Same.refl _) (Same.refl _) r⟩
theorem eo_some {i : Int} (h : Ev X H0 ρ e (.int i)) : EvP X H0 ρ (some e) (some i) := ⟨_, po_some pe_w, fun σ H N r Q k => (h σ H N r).imp fun v H' ⟨N', s, n, r', a⟩ => ⟨i, at_int a, k H' N' s n r'⟩⟩
section
variable {lo hi : Option Expr} {l h : Option Int} {p2 : Pos}
theorem ev_slS {z : Str} (ha : Ev X H0 ρ a (.str z)) (hl : EvP X H0 ρ lo l) (hh : EvP X H0 ρ hi h) (hz : z.length ≤ sizeLine) : Ev X H0 ρ (.Subscript a (.Slice lo hi none p2) pos) (.str (Txt.slice z l h)) := fun σ H N rp => by
  obtain ⟨tl, pl, kl⟩ := hl
  obtain ⟨th, ph, kh⟩ := hh
  exact we_of (pe_slice C8.sl_txt pe_w pl ph) ((ha σ H N rp).imp fun v H1 ⟨N1, s1, n1, r1, a1⟩ => kl σ H1 N1 r1 _ fun H2 N2 s2 n2 r2 => kh σ H2 N2 r2 _ fun H3 N3 s3 n3 r3 =>
    ⟨z, at_str a1, hz, N3, (s1.trans s2).trans s3, (n1.trans n2).trans n3, r3, .str _⟩)
theorem eo_slL (ha : EvB X H0 ρ a (.lst ds)) (hl : EvP X H0 ρ lo l) (hh : EvP X H0 ρ hi h) (f : flats ds = true) : EvO X H0 ρ (.Subscript a (.Slice lo hi none p2) pos) (.lst (cut ds l h)) := fun σ H N rp => by
  obtain ⟨tl, pl, kl⟩ := hl
  obtain ⟨th, ph, kh⟩ := hh
  refine we_of (pe_slice sl_list pe_w pl ph) ((ha σ H N rp).imp fun v H1 ⟨N1, s1, n1, r1, a1⟩ => kl σ H1 N1 r1 _ fun H2 N2 s2 n2 r2 => kh σ H2 N2 r2 _ fun H3 N3 s3 n3 r3 => ?_)
  obtain ⟨pp, us, e3, h1, h2⟩ := at_lst ((a1.mono s2).mono s3)
  obtain ⟨N4, n4, r4, k⟩ := r3.keep
  refine ⟨pp, us, e3, h1, fun q hq => ?_⟩
  obtain ⟨r5, n5⟩ := eo_new (o := .lst (cutV us l h)) r4 hq
  refine ⟨N4, q, rfl, ((s1.trans s2).trans s3).free hq, ((s1.trans s2).trans s3).trans (Same.of_none hq), ((n1.trans n2).trans n3).trans n4, r5, n5, _, upd_same, ?_⟩
  have := ((h2.imm f).mono k)
  unfold cutV cut
  rw [h2.length]
  exact (this.drop _).take _
theorem ev_slT (ha : Ev X H0 ρ a (.tup ds)) (hl : EvP X H0 ρ lo l) (hh : EvP X H0 ρ hi h) : Ev X H0 ρ (.Subscript a (.Slice lo hi none p2) pos) (.tup (cut ds l h)) := fun σ H N rp => by
  obtain ⟨tl, pl, kl⟩ := hl
  obtain ⟨th, ph, kh⟩ := hh
  refine we_of (pe_slice sl_tupA pe_w pl ph) ((ha σ H N rp).imp fun v H1 ⟨N1, s1, n1, r1, a1⟩ => kl σ H1 N1 r1 _ fun H2 N2 s2 n2 r2 => kh σ H2 N2 r2 _ fun H3 N3 s3 n3 r3 => ?_)
  obtain ⟨pp, us, e3, h1, h2⟩ := at_seq ((a1.mono n2).mono n3)
  refine ⟨pp, us, e3, sqt_same r3.sub h1, fun hw => ?_, fun hw q hq => ?_⟩
  · refine ⟨N3, (s1.trans s2).trans s3, (n1.trans n2).trans n3, r3, ?_⟩
    have e : cut ds l h = ds := by
      unfold cut
      rw [h2.length] at hw
      rw [hw.1, hw.2]
      simp
    rw [e]
    exact .tup h1 h2
  · obtain ⟨r5, n5⟩ := r3.new (o := .tup (cutV us l h)) hq
    have hh : ∀ Z, Ats X.K Z us ds → Ats X.K Z (cutV us l h) (cut ds l h) := fun Z z => by
      unfold cutV cut
      rw [h2.length]
      exact (z.drop _).take _
    exact ⟨_, ((s1.trans s2).trans s3).trans (Same.of_none hq), ((n1.trans n2).trans n3).trans n5, r5, .tup (.inl (.inl upd_same)) (hh _ (h2.mono n5))⟩
end

/-! ### texts -/
theorem ev_ixX {l : List Nat} {i : Int} {k : Nat} (ha : Ev X H0 ρ a (tx l)) (hb : Ev X H0 ρ b (.int i)) (hz : l.length ≤ sizeLine) (q : atI l i = some k) (hs : PlainIx b := by exact fun _ _ => rfl) : Ev X H0 ρ (.Subscript a b pos) (tx [k]) :=
  ev_ixS (z := SX.S l) ha hb (by rw [SX.S_len]; exact hz) q hs
theorem ev_catX {l m : List Nat} (ha : Ev X H0 ρ a (tx l)) (hb : Ev X H0 ρ b (tx m)) (hz : l.length + m.length ≤ sizeLine) : Ev X H0 ρ (.BinOp a .Add b pos) (tx (l ++ m)) := by
  have := ev_cat (pos := pos) ha hb (by rw [SX.S_len, SX.S_len]; exact hz)
  rw [SX.S_cat] at this
  exact this
theorem et_eqX {l m : List Nat} (ha : Ev X H0 ρ a (tx l)) (hb : Ev X H0 ρ b (tx m)) : EvT X H0 ρ (.Compare a [.Eq] [b] pos) (decide (l = m)) := by
  have := et_eqS (pos := pos) ha hb
  rw [show decide (SX.S l = SX.S m) = decide (l = m) from decide_eq_decide.mpr ⟨SX.S_inj, fun e => by rw [e]⟩] at this
  exact this
theorem ev_eqX {l m : List Nat} (ha : Ev X H0 ρ a (tx l)) (hb : Ev X H0 ρ b (tx m)) : Ev X H0 ρ (.Compare a [.Eq] [b] pos) (.bl (decide (l = m))) := by
  have := ev_eqS (pos := pos) ha hb
  rw [show decide (SX.S l = SX.S m) = decide (l = m) from decide_eq_decide.mpr ⟨SX.S_inj, fun e => by rw [e]⟩] at this
  exact this
theorem et_neX {l m : List Nat} (ha : Ev X H0 ρ a (tx l)) (hb : Ev X H0 ρ b (tx m)) : EvT X H0 ρ (.Compare a [.NotEq] [b] pos) (!decide (l = m)) := by
  have := et_neS (pos := pos) ha hb
  rw [show decide (SX.S l = SX.S m) = decide (l = m) from decide_eq_decide.mpr ⟨SX.S_inj, fun e => by rw [e]⟩] at this
  exact this
theorem ev_neX {l m : List Nat} (ha : Ev X H0 ρ a (tx l)) (hb : Ev X H0 ρ b (tx m)) : Ev X H0 ρ (.Compare a [.NotEq] [b] pos) (.bl (!decide (l = m))) := by
  have := ev_neS (pos := pos) ha hb
  rw [show decide (SX.S l = SX.S m) = decide (l = m) from decide_eq_decide.mpr ⟨SX.S_inj, fun e => by rw [e]⟩] at this
  exact this
theorem et_inX {k : Nat} {l : List Nat} (ha : Ev X H0 ρ a (tx [k])) (hb : Ev X H0 ρ b (tx l)) (hm : behindInMarks .In b = false := by rfl) : EvT X H0 ρ (.Compare a [.In] [b] pos) (decide (k ∈ l)) :=
  evt_bin (fun _ _ h k => pt_cmpR op_in_sign h k hm) ha.toB hb.toB fun x y σ H N Q r p q g => ⟨k, SX.S l, at_str p, at_str q, goes_self g r (.bl _)⟩
theorem et_ninX {k : Nat} {l : List Nat} (ha : Ev X H0 ρ a (tx [k])) (hb : Ev X H0 ρ b (tx l)) (hm : behindInMarks .NotIn b = false := by rfl) : EvT X H0 ρ (.Compare a [.NotIn] [b] pos) (!decide (k ∈ l)) :=
  evt_bin (fun _ _ h k => pt_cmpR op_notIn_sign h k hm) ha.toB hb.toB fun x y σ H N Q r p q g => ⟨k, SX.S l, at_str p, at_str q, goes_self g r (.bl _)⟩
theorem ev_inX {k : Nat} {l : List Nat} (ha : Ev X H0 ρ a (tx [k])) (hb : Ev X H0 ρ b (tx l)) (hm : behindInMarks .In b = false := by rfl) : Ev X H0 ρ (.Compare a [.In] [b] pos) (.bl (decide (k ∈ l))) :=
  ev_bin (fun _ _ h k => pe_cmpR op_in_sign h k hm) ha.toB hb.toB fun x y σ H N Q r p q g => ⟨k, SX.S l, at_str p, at_str q, goes_self g r (.bl _)⟩
theorem ev_ninX {k : Nat} {l : List Nat} (ha : Ev X H0 ρ a (tx [k])) (hb : Ev X H0 ρ b (tx l)) (hm : behindInMarks .NotIn b = false := by rfl) : Ev X H0 ρ (.Compare a [.NotIn] [b] pos) (.bl (!decide (k ∈ l))) :=
  ev_bin (fun _ _ h k => pe_cmpR op_notIn_sign h k hm) ha.toB hb.toB fun x y σ H N Q r p q g => ⟨k, SX.S l, at_str p, at_str q, goes_self g r (.bl _)⟩
theorem it_tx {t : Expr} {l : List Nat} (h : Ev X H0 ρ e (tx l)) : Iter X H0 ρ t e (l.map fun k => tx [k]) := it_str (z := SX.S l) h

theorem ev_lit {z : Str} {l : List Nat} {j} (h : z = SX.S l := by decide +kernel) : Ev X H0 ρ (.Constant (.str z) j pos) (tx l) := by
  subst h
  exact ev_str

/-! ### methods of texts -/
theorem ev_m1 {id : String} {name : Str} {apos : Pos} {r : V → List V → Hp → VK → Prop} {z : Str} (slot : Slot "str" name id) (ty : typeOf (.builtin id) = pure (.type "method_descriptor")) (rule : MtR X id r) (ha : Ev X H0 ρ a (.str z)) (hb : EvB X H0 ρ b d1)
    (hr : ∀ y σ H N Q, Rep X.K H0 ρ σ H N → At X.K H y d1 → Goes X.K H0 ρ σ H N d Q → r (.str z) [y] H Q)
    (hs : starEach [b] X.env = [(false, eval b X.env)] := by rfl) (hbase : attributeBase a name X.env (eval a X.env) = eval a X.env := by rfl) (hline : (apos.endLine == pos.line) = true := by rfl) :
    Ev X H0 ρ (.Call (.Attribute a name apos) [b] [] pos) d := fun σ H N rp =>
  we_of (pe_m1 slot ty rule pe_w pe_w hs hbase hline) ((ha σ H N rp).imp fun v H1 ⟨N1, s1, n1, r1, a1⟩ => by
    rw [at_str a1]
    exact ⟨⟨z, rfl⟩, (hb σ H1 N1 r1).imp fun y H2 ⟨N2, s2, n2, r2, a2⟩ => hr y σ H2 N2 _ r2 a2 fun v H' N' s n rr aa => ⟨N', (s1.trans s2).trans s, (n1.trans n2).trans n, rr, aa⟩⟩)
section
variable {z y : Str} {apos : Pos} (ha : Ev X H0 ρ a (.str z)) (hb : Ev X H0 ρ b (.str y)) (hs : starEach [b] X.env = [(false, eval b X.env)]) (hline : (apos.endLine == pos.line) = true)
include ha hb hs hline
theorem ev_find0 (hbase : attributeBase a "find" X.env (eval a X.env) = eval a X.env) : Ev X H0 ρ (.Call (.Attribute a "find" apos) [b] [] pos) (.int (Txt.find z y)) :=
  ev_m1 F.slot_str_find F.type_str_find mt_find ha hb.toB (fun v σ H N Q r q g => ⟨z, y, rfl, by rw [at_str q], goes_self g r (.int _)⟩) hs hbase hline
theorem ev_count0 (hbase : attributeBase a "count" X.env (eval a X.env) = eval a X.env) : Ev X H0 ρ (.Call (.Attribute a "count" apos) [b] [] pos) (.int (Txt.count z y)) :=
  ev_m1 F.slot_str_count F.type_str_count mt_count ha hb.toB (fun v σ H N Q r q g => ⟨z, y, rfl, by rw [at_str q], goes_self g r (.int _)⟩) hs hbase hline
theorem ev_starts0 (hbase : attributeBase a "startswith" X.env (eval a X.env) = eval a X.env) : Ev X H0 ρ (.Call (.Attribute a "startswith" apos) [b] [] pos) (.bl (Txt.startswith z y)) :=
  ev_m1 F.slot_str_startswith F.type_str_startswith mt_startswith ha hb.toB (fun v σ H N Q r q g => ⟨z, y, rfl, by rw [at_str q], goes_self g r (.bl _)⟩) hs hbase hline
end
theorem ats_strs {K : PySem.W.Frag} {H : Hp} : ∀ {vs : List V} {ys : List Str}, Ats K H vs (ys.map .str) → vs = ys.map .str
  | [], [], _ => rfl
  | _ :: _, n :: ns, .cons a t => by
    cases a
    rw [ats_strs t]
    rfl
  | [], _ :: _, h => by cases h
  | _ :: _, [], h => by cases h
theorem ev_join {z : Str} {ys : List Str} {apos : Pos} (ha : Ev X H0 ρ a (.str z)) (hb : EvB X H0 ρ b (.lst (ys.map .str))) (hz : (ys.map (·.length)).sum + ys.length * z.length ≤ 16777216)
    (hs : starEach [b] X.env = [(false, eval b X.env)] := by rfl) (hbase : attributeBase a "join" X.env (eval a X.env) = eval a X.env := by rfl) (hline : (apos.endLine == pos.line) = true := by rfl) :
    Ev X H0 ρ (.Call (.Attribute a "join" apos) [b] [] pos) (.str (Txt.join z ys)) :=
  ev_m1 F.slot_str_join F.type_str_join mt_join ha hb (fun v σ H N Q r q g => by
    obtain ⟨pp, us, e3, h1, h2⟩ := at_lst q
    rw [ats_strs h2] at h1
    exact ⟨z, pp, ys, rfl, by rw [e3], .inl h1, hz, goes_self g r (.str _)⟩) hs hbase hline
end

/-! ### data that may be compared -/
def okn : Nat → Dat → Bool
  | _, .non => true
  | _, .bl _ => true
  | _, .int _ => true
  | _, .str s => PyData.strOk s
  | n + 1, .tup ds => ds.all (okn n)
  | n + 1, .lst ds => ds.all (okn n)
  | 0, .tup _ => false
  | 0, .lst _ => false
  | _, .dic _ => false
  | _, .ins _ _ _ => false
  | _, .tix _ => false
  | _, .dit _ _ => false
theorem okn_ok : ∀ (n : Nat) (d : Dat), okn n d = true → nodic d = true ∧ (pd d).canLay0 = true ∧ (pd d).depth ≤ n
  | n, .non, _ => ⟨rfl, rfl, Nat.zero_le _⟩
  | n, .bl _, _ => ⟨rfl, rfl, Nat.zero_le _⟩
  | n, .int _, _ => ⟨rfl, rfl, Nat.zero_le _⟩
  | n, .str s, h => by
    have h' : PyData.strOk s = true := by cases n <;> exact h
    exact ⟨rfl, h', Nat.zero_le _⟩
  | n + 1, .tup ds, h => by
    have k : ∀ ds : List Dat, ds.all (okn n) = true → nodics ds = true ∧ PyData.canLayAll0 (pds ds) = true ∧ PyData.depthAll (pds ds) ≤ n := by
      intro ds
      induction ds with
      | nil => intro _; exact ⟨rfl, rfl, Nat.zero_le _⟩
      | cons d r ih =>
        intro q
        rw [List.all_cons, Bool.and_eq_true] at q
        obtain ⟨a1, a2, a3⟩ := okn_ok n d q.1
        obtain ⟨b1, b2, b3⟩ := ih q.2
        refine ⟨?_, ?_, ?_⟩
        · show (nodic d && nodics r) = true; rw [a1, b1]; rfl
        · show ((pd d).canLay0 && PyData.canLayAll0 (pds r)) = true; rw [a2, b2]; rfl
        · show max (pd d).depth (PyData.depthAll (pds r)) ≤ n; omega
    obtain ⟨c1, c2, c3⟩ := k ds h
    exact ⟨c1, c2, Nat.succ_le_succ c3⟩
  | n + 1, .lst ds, h => by
    have k : ∀ ds : List Dat, ds.all (okn n) = true → nodics ds = true ∧ PyData.canLayAll0 (pds ds) = true ∧ PyData.depthAll (pds ds) ≤ n := by
      intro ds
      induction ds with
      | nil => intro _; exact ⟨rfl, rfl, Nat.zero_le _⟩
      | cons d r ih =>
        intro q
        rw [List.all_cons, Bool.and_eq_true] at q
        obtain ⟨a1, a2, a3⟩ := okn_ok n d q.1
        obtain ⟨b1, b2, b3⟩ := ih q.2
        refine ⟨?_, ?_, ?_⟩
        · show (nodic d && nodics r) = true; rw [a1, b1]; rfl
        · show ((pd d).canLay0 && PyData.canLayAll0 (pds r)) = true; rw [a2, b2]; rfl
        · show max (pd d).depth (PyData.depthAll (pds r)) ≤ n; omega
    obtain ⟨c1, c2, c3⟩ := k ds h
    exact ⟨c1, c2, Nat.succ_le_succ c3⟩
  | 0, .tup _, h => by cases h
  | 0, .lst _, h => by cases h
  | n, .dic _, h => by cases n <;> cases h
  | n, .ins _ _ _, h => by cases n <;> cases h
  | n, .tix _, h => by cases n <;> cases h
  | n, .dit _ _, h => by cases n <;> cases h
theorem okD_of {n : Nat} {d : Dat} (h : okn n d = true) (hn : n ≤ 64 := by decide) : okD d = true := by
  obtain ⟨a1, a2, a3⟩ := okn_ok n d h
  unfold okD SeqAt.shaped
  rw [a1, a2, decide_eq_true (Nat.le_trans a3 hn)]
  rfl
theorem okD_ints (ns : List Int) : okD (.lst (ns.map .int)) = true := okD_of (n := 1) (by show (ns.map Dat.int).all (okn 0) = true; rw [List.all_map]; exact List.all_eq_true.mpr fun _ _ => rfl)
theorem eqv_ints : ∀ (ns ms : List Int), PyData.eqv (pd (.lst (ns.map .int))) (pd (.lst (ms.map .int))) = decide (ns = ms)
  | [], [] => rfl
  | [], _ :: _ => rfl
  | _ :: _, [] => rfl
  | n :: ns, m :: ms => by
    have ih := eqv_ints ns ms
    show ((n == m) && PyData.eqvAll (pds (ns.map .int)) (pds (ms.map .int))) = _
    have ih' : PyData.eqvAll (pds (ns.map .int)) (pds (ms.map .int)) = decide (ns = ms) := ih
    rw [ih']
    by_cases h1 : n = m
    · subst h1
      simp
    · simp [h1]
/-- a loop over a row, the state by the number of turns -/
theorem for_rows {X : Cx} {H0 : Hp} {bd : Dat → Env' → Env'} {body : List Stmt} : ∀ {ds : List Dat} (ρ : Nat → Env'), (∀ (i : Nat) (d : Dat), ds[i]? = some d → Exec X H0 (bd d (ρ i)) body (.nx (ρ (i + 1)))) → ForT X H0 bd body ds (ρ 0) (.nx (ρ ds.length))
  | [], _, _ => .nil
  | d :: ds, ρ, h => .turn (h 0 d rfl) (for_rows (fun i => ρ (i + 1)) fun i e he => h (i + 1) e he)
theorem for_steps {X : Cx} {H0 : Hp} {bd : Dat → Env' → Env'} {body : List Stmt} {lo c : Int} {n : Nat} (ρ : Nat → Env') (h : ∀ i : Nat, i < n → Exec X H0 (bd (.int (lo + (i : Int) * c)) (ρ i)) body (.nx (ρ (i + 1)))) : ForT X H0 bd body (steps lo c n) (ρ 0) (.nx (ρ n)) := by
  have := for_rows (X := X) (H0 := H0) (bd := bd) (body := body) (ds := steps lo c n) ρ (fun i d hd => by
    have hi : i < n := by have := lt_of_get hd; rwa [steps_len] at this
    rw [steps_get hi] at hd
    cases hd
    exact h i hi)
  rwa [steps_len] at this
theorem flats_ints (ns : List Int) : flats (ns.map .int) = true := by
  induction ns with
  | nil => rfl
  | cons n ns ih => exact ih
end B

namespace B
open PySem PySem.Spec PyProof.Rows L2

/-! ### a text so many times -/
theorem foldl_cat {α : Type} (l : List α) : ∀ (k : Nat) (acc : Array α), ((List.replicate k l.toArray).foldl (· ++ ·) acc) = (acc.toList ++ (List.replicate k l).flatten).toArray
  | 0, acc => by simp
  | k + 1, acc => by
    rw [List.replicate_succ, List.foldl_cons, foldl_cat l k, List.replicate_succ, List.flatten_cons]
    simp [List.append_assoc]
theorem mul_S {l : List Nat} {n : Int} : Txt.mul (SX.S l) n = SX.S (List.replicate n.toNat l).flatten := by
  unfold Txt.mul
  by_cases h1 : n < 1
  · rw [if_pos h1, show n.toNat = 0 by omega]
    rfl
  · rw [if_neg h1]
    split
    · rename_i h
      rw [Bool.or_eq_true] at h
      rcases h with h | h
      · rw [eq_of_beq h]
        show _ = SX.S (List.replicate 1 l).flatten
        simp
      · have e : l = [] := by
          have := eq_of_beq h
          rw [SX.S_len] at this
          exact List.length_eq_zero_iff.mp this
        subst e
        simp
    · have := foldl_cat l n.toNat #[]
      show (⟨(List.replicate n.toNat l.toArray).foldl (· ++ ·) #[]⟩ : Str) = _
      rw [this]
      simp
theorem op_mul_str {X : Cx} : OpR X (binaryOp .Mult) (fun x y H Q => ∃ z n, x = .str z ∧ y = .int n ∧ MulOk z n ∧ Q (.str (Txt.mul z n)) H) := by
  intro pins s σ H x y v u Q I rx ry h
  obtain ⟨i, j, rfl, rfl, hz, q⟩ := h
  obtain ⟨t, rfl⟩ := rx
  obtain ⟨t', rfl⟩ := ry
  exact SB.mul hz fun t' k => ⟨.str _, H, I.tok k, ⟨_, rfl⟩, q⟩
theorem mulOk_small {l : List Nat} {n : Int} (h1 : -100000 ≤ n) (h2 : n ≤ 100000) (h3 : l.length ≤ 100) : MulOk (SX.S l) n := by
  refine ⟨?_, fun a b => ?_, fun a b => ?_⟩
  · rw [decide_eq_false (by omega), decide_eq_false (by omega)]; rfl
  · rw [SX.S_len]
    have : (2 ^ 63 - 1) / 100000 ≤ (2 ^ 63 - 1) / n := by
      rw [Int.le_ediv_iff_mul_le (by omega)]
      have : (2 ^ 63 - 1) / 100000 * n ≤ (2 ^ 63 - 1) / 100000 * 100000 := Int.mul_le_mul_of_nonneg_left h2 (by decide)
      omega
    omega
  · rw [SX.S_len]
    have : l.length * n.toNat ≤ 100 * 100000 := Nat.mul_le_mul h3 (by omega)
    have e : sizeLine = 16777216 := by decide
    unfold Builtin.Str.tooLong
    first | exact decide_eq_false (by omega) | (simp; omega)

section
variable {X : Cx} {H0 : Hp} {ρ ρ1 ρ2 : Env'} {a b c e : Expr} {es : List Expr} {st : Stmt} {sts rest : List Stmt} {d d1 d2 : Dat} {ds : List Dat} {p pos : Pos} {o o1 : Outc} {x n : Str} {k : Nat}
theorem ev_repX {l : List Nat} {k : Int} (ha : Ev X H0 ρ a (tx l)) (hb : Ev X H0 ρ b (.int k)) (h : MulOk (SX.S l) k) : Ev X H0 ρ (.BinOp a .Mult b pos) (tx (List.replicate k.toNat l).flatten) :=
  ev_bin (fun _ _ h k => pe_op op_mul_str h k) ha.toB hb.toB fun x y σ H N Q r p q g => ⟨_, _, at_str p, at_int q, h, by rw [mul_S]; exact goes_self g r (.str _)⟩

/-! ### shifts to the left, wide -/
theorem ev_shlW {i : Int} {k : Nat} (ha : Ev X H0 ρ a (.int i)) (hb : Ev X H0 ρ b (.int (k : Int))) (h : CShl i (k : Int)) : Ev X H0 ρ (.BinOp a .LShift b pos) (.int (i * 2 ^ k)) := by
  have := ev_intop (pos := pos) ha hb (g := fun i j => i * 2 ^ j.toNat) op_shlW h
  rwa [Int.toNat_natCast] at this

/-! ### x += y -/
theorem sx_augI (i : Nat) {y : Str} {pos' : Pos} {k j : Int} (hi : ρ[i]? = some (.im (.int k))) (h : Ev X H0 ρ e (.int j)) (nd : X.N.Nodup) (hρ : ρ.set i (.im (.int (k + j))) = ρ1 := by rfl) (hN : X.N[i]? = some y := by rfl) (hx : Loc X.env.scope y := by first | exact Or.inl rfl | exact Or.inr rfl)
    (hp : ∀ te, PE X e te → PS X (.AugAssign (.Name y pos') .Add e pos) (tAug i te (ipI fun i j => i + j)) := by exact fun te h => ps_aug (by assumption) rfl (by first | exact Or.inl rfl | exact Or.inr rfl) h ip_add) :
    ExS X H0 ρ (.AugAssign (.Name y pos') .Add e pos) (.nx ρ1) := fun D σ H N r k => by
  obtain ⟨v, h1, h2⟩ := r.im i _ hi
  refine ws_of (hp _ pe_w) ⟨v, h1, (h σ H N r).imp fun w H' ⟨N', s, n, r', a⟩ => ⟨_, _, at_int h2, at_int a, k _ H' N' n (hρ ▸ r'.setE (e := .im (.int _)) (.int _))⟩⟩

/-! ### items of an owned list are set -/
theorem sx_setIx (i : Nat) {y : Str} {p1 p2 : Pos} {ix : Expr} {k : Int} {j : Nat} (hi : ρ[i]? = some (.ow (.lst ds))) (hv : Ev X H0 ρ e d) (hx : Ev X H0 ρ ix (.int k)) (hj : ixN ds.length k = some j) (hρ : ρ.set i (.ow (.lst (ds.set j d))) = ρ1 := by rfl) (hN : X.N[i]? = some y := by rfl)
    (hvis : Vis X.env.scope y := by first | exact Or.inl rfl | exact Or.inr (Or.inl rfl) | exact Or.inr (Or.inr rfl)) (hd : (y == ("__debug__" : Str)) = false := by decide) (hcd : (y == ("__classdict__" : Str)) = false := by decide)
    (hp : ∀ te to ti, PE X e te → PE X (.Name y p1) to → PE X ix ti → PS X (.Assign [.Subscript (.Name y p1) ix p2] e pos) (tAsg te (gSub to ti rSetL)) := by exact fun te to ti h g f => ps_asg h (pg_sub g f set_list)) :
    ExS X H0 ρ (.Assign [.Subscript (.Name y p1) ix p2] e pos) (.nx ρ1) := fun D σ H N r kk => by
  refine ws_of (hp _ _ _ pe_w (pv i hN hvis hd hcd) pe_w) ((hv σ H N r).imp fun v H1 ⟨N1, s1, n1, r1, a1⟩ => ?_)
  obtain ⟨q, g1, g2, g3, vs, g4, g5⟩ := r1.ow i _ hi
  refine ⟨_, g1, (hx σ H1 N1 r1).imp fun w H2 ⟨N2, s2, n2, r2, a2⟩ => ?_⟩
  obtain ⟨q', f1, f2, f3, us, f4, f5⟩ := r2.ow i _ hi
  rw [g1] at f1
  cases f1
  refine ⟨q, us, k, j, rfl, at_int a2, f4, by rw [f5.length]; exact hj, kk σ _ N2 (n1.trans n2) ?_⟩
  exact hρ ▸ r2.write hi g1 ⟨us.set j v, upd_same, f5.set (a1.mono n2) j⟩
/-- o[i], an item of a list, by values -/
def rGetL : V → V → Hp → VK → Prop := fun o i H Q => ∃ p xs j v, o = .ref p ∧ i = .int ((j : Nat) : Int) ∧ H p = some (.lst xs) ∧ xs[j]? = some v ∧ Q v H
theorem get_list : PGet X rGetL := by
  intro pins s σ H o i ov iv Q I ro ri h
  obtain ⟨p, xs, j, z, rfl, rfl, hp, he, q⟩ := h
  cases ro
  obtain ⟨t, rfl⟩ := ri
  obtain ⟨its, r, pl, hz⟩ := I.list (.inl (.inl hp))
  obtain ⟨w, ew, rw'⟩ := r.get he
  have hj := lt_of_get he
  have hl := r.length
  have hn := line63
  exact wpAny_getItem_list pl.isList (by omega) (by omega) (by simpa using ew) ⟨z, H, I, rw', q⟩
theorem sx_augIx (i : Nat) {y : Str} {p1 p2 : Pos} {ix : Expr} {k l : Int} {j : Nat} (hi : ρ[i]? = some (.ow (.lst ds))) (hx : Ev X H0 ρ ix (.int (j : Int))) (hj : ds[j]? = some (.int k)) (hv : Ev X H0 ρ e (.int l)) (hρ : ρ.set i (.ow (.lst (ds.set j (.int (k + l))))) = ρ1 := by rfl) (hN : X.N[i]? = some y := by rfl)
    (hvis : Vis X.env.scope y := by first | exact Or.inl rfl | exact Or.inr (Or.inl rfl) | exact Or.inr (Or.inr rfl)) (hd : (y == ("__debug__" : Str)) = false := by decide) (hcd : (y == ("__classdict__" : Str)) = false := by decide)
    (hp : ∀ te to ti, PE X e te → PE X (.Name y p1) to → PE X ix ti → PS X (.AugAssign (.Subscript (.Name y p1) ix p2) .Add e pos) (tAugS to ti te rGetL (ipI fun i j => i + j) rSetL) := by exact fun te to ti h g f => ps_augS g f get_list h ip_add set_list) :
    ExS X H0 ρ (.AugAssign (.Subscript (.Name y p1) ix p2) .Add e pos) (.nx ρ1) := fun D σ H N r kk => by
  obtain ⟨q, g1, g2, g3, vs, g4, g5⟩ := r.ow i _ hi
  refine ws_of (hp _ _ _ pe_w (pv i hN hvis hd hcd) pe_w) ⟨_, g1, (hx σ H N r).imp fun w H1 ⟨N1, s1, n1, r1, a1⟩ => ?_⟩
  obtain ⟨q', f1, f2, f3, us, f4, f5⟩ := r1.ow i _ hi
  rw [g1] at f1
  cases f1
  obtain ⟨z, z1, z2⟩ := f5.get hj
  refine ⟨q, us, j, z, rfl, at_int a1, f4, z1, (hv σ H1 N1 r1).imp fun u H2 ⟨N2, s2, n2, r2, a2⟩ => ⟨k, l, at_int z2, at_int a2, ?_⟩⟩
  obtain ⟨q', f1, f2, f3, us2, f6, f7⟩ := r2.ow i _ hi
  rw [g1] at f1
  cases f1
  have hlt : j < us2.length := by rw [f7.length]; exact lt_of_get hj
  refine ⟨q, us2, j, j, rfl, at_int a1, f6, ?_, kk σ _ N2 (n1.trans n2) ?_⟩
  · unfold ixN
    rw [if_pos (by omega), if_pos (by omega), Int.toNat_natCast]
  · exact hρ ▸ r2.write hi g1 ⟨us2.set j (.int (k + l)), upd_same, f7.set (.int _) j⟩

/-! ### casts, joins, ends by an error -/
theorem eb_to (h : EvB X H0 ρ e d1) (hk : d1 = d) : EvB X H0 ρ e d := hk ▸ h
theorem eo_to (h : EvO X H0 ρ e d1) (hk : d1 = d) : EvO X H0 ρ e d := hk ▸ h
theorem ev_joinX {l : List Nat} {yss : List (List Nat)} {apos : Pos} (ha : Ev X H0 ρ a (tx l)) (hb : EvB X H0 ρ b (.lst (yss.map tx))) (hz : (yss.map (·.length)).sum + yss.length * l.length ≤ 16777216)
    (hs : starEach [b] X.env = [(false, eval b X.env)] := by rfl) (hbase : attributeBase a "join" X.env (eval a X.env) = eval a X.env := by rfl) (hline : (apos.endLine == pos.line) = true := by rfl) :
    Ev X H0 ρ (.Call (.Attribute a "join" apos) [b] [] pos) (tx (TL.joinL l yss)) := by
  have h := ev_join (z := SX.S l) (ys := yss.map SX.S) (apos := apos) (pos := pos) ha (by rw [List.map_map]; exact hb) (by rw [SX.lens, List.length_map, SX.S_len]; exact hz) hs hbase hline
  rw [SX.join_S] at h
  exact h
theorem Rep.nos {K : PySem.W.Frag} {H N : Hp} {σ : L2.St} (r : Rep K H0 ρ σ H N) : Rep K H0 (List.replicate ρ.length .no) σ H N where
  old := r.old
  sub := r.sub
  imm := r.imm
  fresh := r.fresh
  len := by rw [List.length_replicate, r.len]
  im := fun i d h => by rw [List.getElem?_replicate] at h; split at h <;> cases h
  ol := fun i d h => by rw [List.getElem?_replicate] at h; split at h <;> cases h
  ow := fun i d h => by rw [List.getElem?_replicate] at h; split at h <;> cases h
  rf := fun i a h => by rw [List.getElem?_replicate] at h; split at h <;> cases h
  apart := fun i j d d' p _ h => by rw [List.getElem?_replicate] at h; split at h <;> cases h
/-- behind an error nothing is asked of the names -/
theorem ex_nos (h : Exec X H0 ρ sts (.ex n ρ1)) (hk : ρ1.length = k) : Exec X H0 ρ sts (.ex n (List.replicate k .no)) := fun D σ H N r ⟨W, tk, q⟩ =>
  h D σ H N r ⟨W, tk, fun C σ' H' N' m s r' => q C σ' H' N' m s (hk ▸ r'.nos)⟩
end
theorem slice_cut (l : List Nat) (lo hi : Option Int) : Txt.slice (SX.S l) lo hi = SX.S (cut l lo hi) := by
  rw [← C8.cutS_slice]
  unfold cutS cut
  rw [SX.S_len]
theorem ev_slX {X : Cx} {H0 : Hp} {ρ : Env'} {a : Expr} {pos p2 : Pos} {lo hi : Option Expr} {i j : Option Int} {l : List Nat} (ha : Ev X H0 ρ a (tx l)) (hl : EvP X H0 ρ lo i) (hh : EvP X H0 ρ hi j) (hz : l.length ≤ sizeLine) : Ev X H0 ρ (.Subscript a (.Slice lo hi none p2) pos) (tx (cut l i j)) := by
  have := ev_slS (pos := pos) (p2 := p2) (z := SX.S l) ha hl hh (by rw [SX.S_len]; exact hz)
  rw [slice_cut] at this
  exact this
theorem cut_to {α : Type} {l : List α} {i : Int} (h : 0 ≤ i) : cut l none (some i) = l.take i.toNat := by
  obtain ⟨k, rfl⟩ := Int.eq_ofNat_of_zero_le h
  show (l.drop 0).take (HT.sIx l.length l.length (some ((k : Nat) : Int)) - 0) = _
  rw [HT.sIx_nat, List.drop_zero, Nat.sub_zero, Int.toNat_natCast]
  by_cases hk : k ≤ l.length
  · rw [Nat.min_eq_left hk]
  · rw [Nat.min_eq_right (by omega), List.take_of_length_le (Nat.le_refl _), List.take_of_length_le (by omega)]
theorem cut_from {α : Type} {l : List α} {i : Int} (h : 0 ≤ i) : cut l (some i) none = l.drop i.toNat := by
  obtain ⟨k, rfl⟩ := Int.eq_ofNat_of_zero_le h
  show (l.drop (HT.sIx l.length 0 (some ((k : Nat) : Int)))).take (l.length - HT.sIx l.length 0 (some ((k : Nat) : Int))) = _
  rw [HT.sIx_nat, Int.toNat_natCast]
  by_cases hk : k ≤ l.length
  · rw [Nat.min_eq_left hk, List.take_of_length_le (by rw [List.length_drop]; omega)]
  · rw [Nat.min_eq_right (by omega), List.drop_of_length_le (Nat.le_refl _), List.drop_of_length_le (by omega)]
    simp
theorem cut_mid {α : Type} {l : List α} {i j : Int} (h : 0 ≤ i) (h2 : 0 ≤ j) : cut l (some i) (some j) = (l.take j.toNat).drop i.toNat := by
  obtain ⟨k, rfl⟩ := Int.eq_ofNat_of_zero_le h
  obtain ⟨m, rfl⟩ := Int.eq_ofNat_of_zero_le h2
  show (l.drop (HT.sIx l.length 0 (some ((k : Nat) : Int)))).take (HT.sIx l.length l.length (some ((m : Nat) : Int)) - HT.sIx l.length 0 (some ((k : Nat) : Int))) = _
  rw [HT.sIx_nat, HT.sIx_nat, Int.toNat_natCast, Int.toNat_natCast, ← List.drop_take]
  by_cases hk : k ≤ l.length
  · rw [Nat.min_eq_left hk]
    by_cases hm : m ≤ l.length
    · rw [Nat.min_eq_left hm]
    · rw [Nat.min_eq_right (by omega), List.take_of_length_le (Nat.le_refl _), List.take_of_length_le (by omega)]
  · rw [Nat.min_eq_right (by omega)]
    rw [List.drop_of_length_le (by rw [List.length_take]; omega), List.drop_of_length_le (by rw [List.length_take]; omega)]
theorem dlen_tx {l : List Nat} (h : l.length ≤ sizeLine) : dlen (tx l) = some l.length := by
  show (if (SX.S l).length ≤ sizeLine then some (SX.S l).length else none) = _
  rw [SX.S_len, if_pos h]
theorem at_nat {l : List Nat} {i : Int} {k : Nat} (h0 : 0 ≤ i) (h : l[i.toNat]? = some k) : atI l i = some k := by
  have := atI_nat (v := k) h
  rwa [Int.toNat_of_nonneg h0] at this
theorem at_dat {l : List Dat} {i : Int} {k : Dat} (h0 : 0 ≤ i) (h : l[i.toNat]? = some k) : atI l i = some k := by
  have := atI_nat (v := k) h
  rwa [Int.toNat_of_nonneg h0] at this
end B

namespace B
open PySem PySem.Spec PyProof.Rows L2
section
variable {X : Cx} {H0 : Hp} {ρ ρ1 ρ2 : Env'} {a b c e : Expr} {es : List Expr} {st : Stmt} {sts rest : List Stmt} {d d1 d2 : Dat} {ds : List Dat} {p pos : Pos} {o o1 : Outc} {x n : Str}
/-- a name is given what a comprehension makes -/
theorem sx_setLc (j0 : Nat) {elt tg iter : Expr} {ifs : List Expr} {scope : Scope} {xn y : Str} (i : Nat) {pos py spos : Pos} (hc : X.calm = true) (nd : X.N.Nodup) (hi : Iter X H0 ρ tg iter ds) (ok : blkC X.N X.env.scope scope [(xn, i)] = true) (hx : ρ[i]? = some .no) (f : Dat → Bool) (g : Dat → Dat)
    (htg : ∀ (s : Shared) (H : Hp) (C : Addr) (cl : List (Str × Addr)) (fp : List Addr), PG (X.blk s H scope (compEnvC scope cl C X.env) fp) tg (gName i))
    (hif : (ifs = [] ∧ ∀ d ∈ ds, f d = true) ∨ ∃ c, ifs = [c] ∧ ∀ (H0' : Hp) (s : Shared) (H : Hp) (C : Addr) (cl : List (Str × Addr)) (fp : List Addr), Same H0 H0' → ∀ d ∈ ds, EvT (X.blk s H scope (compEnvC scope cl C X.env) fp) H0' (ρ.set i (.im d)) c (f d))
    (hel : ∀ (H0' : Hp) (s : Shared) (H : Hp) (C : Addr) (cl : List (Str × Addr)) (fp : List Addr), Same H0 H0' → ∀ d ∈ ds, f d = true → Ev (X.blk s H scope (compEnvC scope cl C X.env) fp) H0' (ρ.set i (.im d)) elt (g d))
    (hz : ds.length < sizeLine) (hρ : ρ.set j0 (.ow (.lst ((ds.filter f).map g))) = ρ1 := by rfl) (hs : ∀ x, foldedSetIterable iter X.env x = pure x := by intro _; rfl) (hy : X.N[j0]? = some y := by rfl) (hyl : X.env.scope.names.lookup y = some .local := by rfl)
    (hsw : swapsWith (.ListComp elt [⟨tg, iter, ifs, 0⟩] scope pos) (some (.Name y py)) spos.line X.env = pure true := by rfl) :
    ExS X H0 ρ (.Assign [.Name y py] (.ListComp elt [⟨tg, iter, ifs, 0⟩] scope pos) spos) (.nx ρ1) := fun DD σ H N r kk => by
  obtain ⟨wi, pi, hw⟩ := hi
  have pts : ∀ (s : Shared) (H : Hp) (C : Addr) (cl : List (Str × Addr)) (fp : List Addr), PTs (X.blk s H scope (compEnvC scope cl C X.env) fp) ifs
      (fun σ H Q => (ifs = [] ∧ Q true H) ∨ ∃ c, ifs = [c] ∧ ∀ s H' C cl fp, WT (X.blk s H' scope (compEnvC scope cl C X.env) fp) c σ H Q) := fun s H C cl fp => ⟨fun pins s' σ H Q I h => by
    rcases h with ⟨rfl, h⟩ | ⟨c, rfl, h⟩
    · exact pts_nil.run pins s' σ H Q I h
    · exact (pts_one pt_w).run pins s' σ H Q I (h _ _ _ _ _)⟩
  have pes : ∀ (s : Shared) (H : Hp) (C : Addr) (cl : List (Str × Addr)) (fp : List Addr), PE (X.blk s H scope (compEnvC scope cl C X.env) fp) elt
      (fun σ H Q => ∀ s H' C cl fp, WE (X.blk s H' scope (compEnvC scope cl C X.env) fp) elt σ H Q) := fun s H C cl fp => ⟨fun pins s' σ H Q I h => (h _ _ _ _ _).go pins s' I⟩
  refine ws_of (ps_setLc hc nd hy hyl hsw pi (blkOk_by ok) htg pts pes hs) (hw σ H N r _ fun J H1 N1 n1 s1 r1 w => fun D hD => ?_)
  have hiσ : i < σ.length := by rw [← r.len]; exact lt_of_get hx
  refine ⟨fun j m H' => m = ds.length - j ∧ j ≤ ds.length ∧ ∃ N' acc, Same N1 N' ∧ Same H1 H' ∧ Rep X.K H0 ρ σ H' N' ∧ N' D = none ∧ H' D = some (.lst acc) ∧ Ats X.K N' acc (((ds.take j).filter f).map g), ⟨_, rfl, Nat.zero_le _, N1, [], Same.refl _, Same.of_none hD, r1.grow (Same.of_none hD), r1.sub.free hD, upd_same, by simpa using Ats.nil⟩, ?_⟩
  rintro j m H' ⟨rfl, hj, N', acc, s', e', r', dN, dH, aa⟩
  have h0D : H0 D = none := r1.old.free hD
  have npD : ∀ (q : Nat) d, ρ[q]? = some (Ent.ow d) → σ[q]? ≠ some (some (V.ref D)) := no_own r1 hD
  obtain ⟨wg, wst⟩ := w (upd H0 D (.lst acc)) ρ σ H' N' j (Same.of_none h0D) s' (r'.toOld h0D dH dN npD)
  by_cases hlt : j < ds.length
  · obtain ⟨go, yl⟩ := wg hlt
    have et : ds.take (j + 1) = ds.take j ++ [ds[j]] := by rw [List.take_succ, List.getElem?_eq_getElem hlt]; rfl
    refine .inr ⟨go, fun H' => ∃ N' acc, Same N1 N' ∧ Same H1 H' ∧ Rep X.K H0 ρ σ H' N' ∧ N' D = none ∧ H' D = some (.lst acc) ∧ Ats X.K N' acc (((ds.take (j + 1)).filter f).map g), fun H2 q => ⟨_, by omega, rfl, hlt, q⟩, fun x H2 y => ?_⟩
    obtain ⟨N2, d, n2, e2, r2, e3, a2⟩ := yl x H2 y
    have ed : d = ds[j] := by
      rw [List.getElem?_eq_getElem hlt] at e3
      exact (Option.some.inj e3).symm
    subst ed
    have dH2 : H2 D = some (.lst acc) := e2 _ _ dH
    have np : ∀ (q : Nat) d, ρ[q]? = some (Ent.ow d) → σ[q]? ≠ some (some (V.ref D)) := no_own r1 hD
    have d0 : Same H0 (upd H0 D (.lst acc)) := Same.of_none h0D
    have mem : ds[j] ∈ ds := List.getElem_mem hlt
    have dH2 : H2 D = some (.lst acc) := e2 _ _ dH
    have r2' : Rep X.K (upd H0 D (.lst acc)) ρ σ H2 N2 := r2
    have rs := r2'.setE (i := i) (v := x) (e := .im ds[j]) a2
    have ws : (wipe σ [i]).set i (some x) = σ.set i (some x) := by show (σ.set i none).set i (some x) = _; rw [List.set_set]
    show wipe ((wipe σ [i]).set i (some x)) [i] = wipe σ [i] ∧ _
    refine ⟨by rw [ws]; show (σ.set i (some x)).set i none = σ.set i none; rw [List.set_set], ?_⟩
    rw [show (wipe σ (List.map (fun (x : Str × Nat) => x.snd) [(xn, i)])).set i (some x) = σ.set i (some x) from ws]
    have elem : ∀ H3 N3, f ds[j] = true → Same H2 H3 → Same N2 N3 → Rep X.K (upd H0 D (.lst acc)) (ρ.set i (.im ds[j])) (σ.set i (some x)) H3 N3 → ∀ s H' C cl fp, WE (X.blk s H' scope (compEnvC scope cl C X.env) fp) elt (σ.set i (some x)) H3 fun y H4 => ∃ acc', H4 D = some (.lst acc') ∧ acc'.length < sizeLine ∧
        ∃ N' a', Same N1 N' ∧ Same H1 (upd H4 D (.lst (acc' ++ [y]))) ∧ Rep X.K H0 ρ σ (upd H4 D (.lst (acc' ++ [y]))) N' ∧ N' D = none ∧ (upd H4 D (.lst (acc' ++ [y]))) D = some (.lst a') ∧ Ats X.K N' a' (((ds.take (j + 1)).filter f).map g) := fun H3 N3 hf e3' n3 r3 s H5 C cl fp => by
      refine (hel _ s H5 C cl fp d0 _ mem hf _ _ _ r3).imp fun y H4 ⟨N4, s4, n4, r4, a4⟩ => ?_
      have q4 : H4 D = some (.lst acc) := s4 _ _ (e3' _ _ dH2)
      refine ⟨acc, q4, ?_, N4, acc ++ [y], (((s'.trans n2).trans n3).trans n4), fun a u h => ?_, (r'.back hx d0 r4).updD h0D r4.notD np, r4.notD, upd_same, ?_⟩
      · rw [aa.length, List.length_map]
        have := List.length_filter_le f (ds.take j)
        have := List.length_take_le j ds
        omega
      · rw [upd_ne (ne_of_none h hD)]
        exact s4 _ _ (e3' _ _ (e2 _ _ (e' a u h)))
      · rw [et, List.filter_append, List.map_append]
        refine ((aa.mono n2).mono n3 |>.mono n4).append ?_
        rw [List.filter_cons, if_pos hf]
        exact .cons a4 .nil
    have skip : ∀ H3 N3, f ds[j] = false → Same H2 H3 → Same N2 N3 → Rep X.K (upd H0 D (.lst acc)) (ρ.set i (.im ds[j])) (σ.set i (some x)) H3 N3 → ∃ N' acc, Same N1 N' ∧ Same H1 H3 ∧ Rep X.K H0 ρ σ H3 N' ∧ N' D = none ∧ H3 D = some (.lst acc) ∧ Ats X.K N' acc (((ds.take (j + 1)).filter f).map g) := fun H3 N3 hf e3' n3 r3 => by
      refine ⟨N3, acc, (s'.trans n2).trans n3, (e'.trans e2).trans e3', r'.back hx d0 r3, r3.notD, e3' _ _ dH2, ?_⟩
      rw [et, List.filter_append, List.map_append, List.filter_cons, if_neg (by rw [hf]; exact Bool.false_ne_true)]
      simpa using (aa.mono n2).mono n3
    rcases hif with ⟨hne, hft⟩ | ⟨c, hc', ht⟩
    · exact .inl ⟨hne, iteT (elem H2 N2 (hft _ mem) (Same.refl _) (Same.refl _) rs)⟩
    · refine .inr ⟨c, hc', fun s H5 C cl fp => ?_⟩
      refine (ht _ s H5 C cl fp d0 _ mem _ _ _ rs).imp fun bb H3 ⟨eb, N3, s3, n3, r3⟩ => ?_
      subst eb
      cases hf : f ds[j] with
      | true => exact iteT (elem H3 N3 hf s3 n3 r3)
      | false => exact iteF (skip H3 N3 hf s3 n3 r3)
  · have e1 : j = ds.length := by omega
    subst e1
    rw [List.take_length] at aa
    exact .inl ⟨wst rfl, kk _ H' N' (n1.trans s') (hρ ▸ r'.setE (e := .ow (.lst _)) ⟨D, rfl, h0D, dN, ⟨acc, dH, aa⟩, fun q d' _ hq => npD q d' hq⟩)⟩
end
end B

namespace B
open PySem PySem.Spec PyProof.Rows L2
theorem idx_rev (n : Nat) : Builtin.Str.strSliceIndices none none (-1) n = (List.range n).reverse := by
  have e : Builtin.Str.strSliceIndices none none (-1) n = sliceRange ((n : Int) - 1) (-1) (-1) := rfl
  rw [e, PySem.W.krv_sliceRange, PySem.W.krv_range]
theorem pe_revS {X : Cx} {e : Expr} {te : TE} {k : Nat} {p1 p2 p3 pos : Pos} (he : PE X e te) : PE X (.Subscript e (.Slice none none (some (.UnaryOp .USub (.Constant (.int 1) k p1) p2)) p3) pos)
    (fun σ H Q => te σ H fun x H1 => ∃ l : List Nat, x = .str (SX.S l) ∧ l.length ≤ sizeLine ∧ Q (.str (SX.S l.reverse)) H1) := by
  refine ⟨fun pins s σ H Q I h => ?_⟩
  refine Subscript_ (thn (he.run pins s σ H _ I h) fun v s1 ⟨x, H1, I1, r1, q1⟩ => ?_)
  obtain ⟨a, rfl, hz, q⟩ := q1
  obtain ⟨t, rfl⟩ := r1
  have hst : PO X (some (.UnaryOp .USub (.Constant (.int 1) k p1) p2)) (tPart (tUn (rU fun i => .int (-i)) (tC (.int 1)))) := po_some (pe_un un_neg pe_int)
  refine wpAny_Slice (thn (po_none.run pins s1 σ H1 (fun o H2 => o = none ∧ H2 = H1) I1 ⟨rfl, rfl⟩) fun vl s2 ⟨l, H2, I2, pl, el, e2⟩ => ?_)
  subst el e2
  refine thn (po_none.run pins s2 σ H2 (fun o H3 => o = none ∧ H3 = H2) I2 ⟨rfl, rfl⟩) fun vu s3 ⟨u, H3, I3, pu, eu, e3⟩ => ?_
  subst eu e3
  refine thn (hst.run pins s3 σ H3 (fun o H4 => o = some (-1) ∧ H4 = H3) I3 ⟨1, rfl, -1, rfl, rfl, rfl⟩) fun vs s4 ⟨o, H4, I4, ps, eo, e4⟩ => ?_
  subst eo e4
  have I5 : Inv X pins σ H4 { s4 with heap := s4.heap.push { cls := .type "slice", data := .fields #[vl, vu, vs] } } := I4.kept (t' := s4.toks) fun b ob q => Heap.get?_push_of_some _ q
  obtain ⟨l, rfl, el⟩ := IsPart.raw pl
  obtain ⟨u, rfl, eu⟩ := IsPart.raw pu
  obtain ⟨w, rfl, ew⟩ := IsPart.raw ps
  have hs : (s4.heap.push { cls := .type "slice", data := .fields #[partValue l, partValue u, partValue w] }).IsSlice s4.heap.objs.size l u w := ⟨_, Heap.get?_push_size _ rfl, rfl, rfl⟩
  refine tail_any (ops := [.str (SX.S a) t, .ref s4.heap.objs.size]) (typeIs_str _ _ _) F.slot_str_getitem.lookup ?_ (by with_unfolding_all rfl)
  refine wpAny_getItem_str_slice (l := l) (u := u) (st := w) hs (by rw [ew]; rfl) ?_
  unfold sliceMade
  have e1 : ((w.map (·.1)).getD 1 == 1 && (slicePicked (SX.S a) l u w).length == (SX.S a).length) = false := by rw [ew]; rfl
  rw [if_neg (by rw [e1]; exact Bool.false_ne_true)]
  have e2 : (⟨((slicePicked (SX.S a) l u w).filterMap ((SX.S a).cps[·]?)).toArray⟩ : Str) = SX.S a.reverse := by
    unfold slicePicked
    rw [el, eu, ew]
    show (⟨((Builtin.Str.strSliceIndices none none (-1) (SX.S a).length).filterMap ((SX.S a).cps[·]?)).toArray⟩ : Str) = _
    rw [idx_rev, List.filterMap_reverse]
    have := PySem.W.krv_all (SX.S a).cps
    rw [show (SX.S a).length = (SX.S a).cps.size from rfl, this]
  rw [e2]
  refine ⟨by rw [SX.S_len, List.length_reverse]; exact hz, .str _, H4, I5.tok _, ⟨_, rfl⟩, q⟩
section
variable {X : Cx} {H0 : Hp} {ρ ρ1 ρ2 : Env'} {a b c e : Expr} {pos : Pos}
theorem ev_revX {l : List Nat} {k : Nat} {p1 p2 p3 : Pos} (ha : Ev X H0 ρ a (tx l)) (hz : l.length ≤ sizeLine) : Ev X H0 ρ (.Subscript a (.Slice none none (some (.UnaryOp .USub (.Constant (.int 1) k p1) p2)) p3) pos) (tx l.reverse) := fun σ H N r =>
  we_of (pe_revS pe_w) ((ha σ H N r).imp fun v H1 ⟨N1, s1, n1, r1, a1⟩ => ⟨l, at_str a1, hz, N1, s1, n1, r1, .str _⟩)
end
end B

namespace B
open PySem PySem.Spec PyProof.Rows L2

/-! ### find, count of one sign; startswith -/
theorem occ_stop (s sub : Str) (hi limit : Nat) : ∀ (l : List Nat) (st : Array Nat × Nat), ¬ st.1.size < limit → (forIn l st (StrLaws.occBody s sub hi limit)).run = st
  | [], st, _ => rfl
  | a :: l, st, h => by
    rw [List.forIn_cons]
    unfold StrLaws.occBody
    rw [if_neg (fun q => h q.1.1.1)]
    exact occ_stop s sub hi limit l st h
theorem occ_cond (L : List Nat) (c i free n limit : Nat) (acc : Array Nat) (hs : acc.size < limit) (hf : free ≤ i) :
    (((acc.size < limit ∧ free ≤ i) ∧ i + (SX.S [c]).length ≤ (SX.S L).length) ∧ Builtin.Str.subAt (SX.S L) (SX.S [c]) i = true) ↔ L[i]? = some c := by
  have := StrLaws.subAt_one (SX.S L) c i
  constructor
  · intro h; exact this.mp ⟨h.1.2, h.2⟩
  · intro h; have := this.mpr h; exact ⟨⟨⟨hs, hf⟩, this.1⟩, this.2⟩
theorem occ_at (L : List Nat) (c j : Nat) (hj : L[j]? = some c) : ∀ (n a free : Nat), free ≤ a → a ≤ j → j < a + n → (∀ i, a ≤ i → i < j → L[i]? ≠ some c) →
    (forIn (List.range' a n) ((#[] : Array Nat), free) (StrLaws.occBody (SX.S L) (SX.S [c]) (SX.S L).length 1)).run.1.toList = [j]
  | 0, a, _, _, h1, h2, _ => by omega
  | n + 1, a, free, hf, h1, h2, h3 => by
    rw [List.range'_succ, List.forIn_cons]
    unfold StrLaws.occBody
    by_cases e : a = j
    · subst e
      rw [if_pos ((occ_cond L c a free n 1 #[] (by decide) hf).mpr hj)]
      show (forIn (List.range' (a + 1) n) ((#[] : Array Nat).push a, a + 1) (StrLaws.occBody (SX.S L) (SX.S [c]) (SX.S L).length 1)).run.1.toList = [a]
      rw [occ_stop _ _ _ _ _ _ (by simp)]
      rfl
    · rw [if_neg (fun q => h3 a (Nat.le_refl _) (by omega) ((occ_cond L c a free n 1 #[] (by decide) hf).mp q))]
      exact occ_at L c j hj n (a + 1) free (by omega) (by omega) (by omega) (fun i q1 q2 => h3 i (by omega) q2)
theorem find_one {L : List Nat} {c : Nat} (h : c ∈ L) : Txt.find (SX.S L) (SX.S [c]) = ((L.idxOf c : Nat) : Int) := by
  have hlt : L.idxOf c < L.length := List.idxOf_lt_length_iff.mpr h
  have hg : L[L.idxOf c]? = some c := by rw [List.getElem?_eq_getElem hlt, List.getElem_idxOf hlt]
  have ho : Builtin.Str.occurrences (SX.S L) (SX.S [c]) 0 (SX.S L).length 1 = [L.idxOf c] := by
    rw [StrLaws.occ_eq]
    refine occ_at L c _ hg _ 0 0 (Nat.le_refl _) (Nat.zero_le _) (by rw [SX.S_len]; omega) (fun i _ hi e => ?_)
    have hil : i < L.length := by omega
    rw [List.getElem?_eq_getElem hil] at e
    have q := List.not_of_lt_findIdx (p := (· == c)) (xs := L) hi
    have e2 := Option.some.inj e
    simp [e2] at q
  unfold Txt.find
  rw [ho]
theorem starts_S (l m : List Nat) : Txt.startswith (SX.S l) (SX.S m) = decide (l.take m.length = m) := by
  unfold Txt.startswith
  rw [StrLaws.subAt_eq, SX.S_len, SX.S_len]
  show (decide (0 + m.length ≤ l.length) && ((l.drop 0).take (SX.S m).length == m)) = _
  rw [SX.S_len, List.drop_zero]
  by_cases h : l.take m.length = m
  · have : m.length ≤ l.length := by
      have := congrArg List.length h
      rw [List.length_take] at this
      omega
    rw [decide_eq_true h, decide_eq_true (by omega), h]
    simp
  · rw [decide_eq_false h]
    have : (l.take m.length == m) = false := by simpa using h
    rw [this, Bool.and_false]
theorem occ_count (L : List Nat) (c : Nat) : ∀ (n a free : Nat) (acc : Array Nat), free ≤ a → a + n = L.length + 1 → acc.size ≤ a →
    (forIn (List.range' a n) (acc, free) (StrLaws.occBody (SX.S L) (SX.S [c]) (SX.S L).length (L.length + 1))).run.1.size = acc.size + (L.drop a).count c
  | 0, a, free, acc, _, h2, _ => by
    have : L.drop a = [] := List.drop_of_length_le (by omega)
    rw [this]
    rfl
  | n + 1, a, free, acc, hf, h2, h3 => by
    rw [List.range'_succ, List.forIn_cons]
    unfold StrLaws.occBody
    by_cases e : L[a]? = some c
    · rw [if_pos ((occ_cond L c a free n _ acc (by omega) hf).mpr e)]
      have := occ_count L c n (a + 1) (a + 1) (acc.push a) (by omega) (by omega) (by rw [Array.size_push]; omega)
      refine Eq.trans this ?_
      obtain ⟨hlt, hv⟩ := List.getElem?_eq_some_iff.mp e
      rw [Array.size_push, List.drop_eq_getElem_cons hlt, hv, List.count_cons_self]
      omega
    · rw [if_neg (fun q => e ((occ_cond L c a free n _ acc (by omega) hf).mp q))]
      have := occ_count L c n (a + 1) free acc (by omega) (by omega) (by omega)
      refine Eq.trans this ?_
      by_cases hlt : a < L.length
      · rw [List.drop_eq_getElem_cons hlt, List.count_cons_of_ne]
        intro q
        exact e (by rw [List.getElem?_eq_getElem hlt, q])
      · rw [List.drop_of_length_le (by omega), List.drop_of_length_le (by omega)]
theorem count_one (L : List Nat) (c : Nat) : Txt.count (SX.S L) (SX.S [c]) = ((L.count c : Nat) : Int) := by
  unfold Txt.count
  rw [StrLaws.occ_eq, Array.length_toList, SX.S_len]
  have := occ_count L c (L.length + 1 - 0) 0 0 #[] (Nat.le_refl _) (by omega) (by decide)
  rw [SX.S_len] at this
  rw [this]
  simp
section
variable {X : Cx} {H0 : Hp} {ρ ρ1 ρ2 : Env'} {a b c e : Expr} {pos apos : Pos}
theorem ev_findX {l : List Nat} {k : Nat} (ha : Ev X H0 ρ a (tx l)) (hb : Ev X H0 ρ b (tx [k])) (hm : k ∈ l) (hs : starEach [b] X.env = [(false, eval b X.env)] := by rfl) (hline : (apos.endLine == pos.line) = true := by rfl) (hbase : attributeBase a "find" X.env (eval a X.env) = eval a X.env := by rfl) :
    Ev X H0 ρ (.Call (.Attribute a "find" apos) [b] [] pos) (.int ((l.idxOf k : Nat) : Int)) := by
  have := ev_find0 ha hb hs hline hbase
  rw [find_one hm] at this
  exact this
theorem ev_countX {l : List Nat} {k : Nat} (ha : Ev X H0 ρ a (tx l)) (hb : Ev X H0 ρ b (tx [k])) (hs : starEach [b] X.env = [(false, eval b X.env)] := by rfl) (hline : (apos.endLine == pos.line) = true := by rfl) (hbase : attributeBase a "count" X.env (eval a X.env) = eval a X.env := by rfl) :
    Ev X H0 ρ (.Call (.Attribute a "count" apos) [b] [] pos) (.int ((l.count k : Nat) : Int)) := by
  have := ev_count0 ha hb hs hline hbase
  rw [count_one] at this
  exact this
theorem ev_startsX {l m : List Nat} (ha : Ev X H0 ρ a (tx l)) (hb : Ev X H0 ρ b (tx m)) (hs : starEach [b] X.env = [(false, eval b X.env)] := by rfl) (hline : (apos.endLine == pos.line) = true := by rfl) (hbase : attributeBase a "startswith" X.env (eval a X.env) = eval a X.env := by rfl) :
    Ev X H0 ρ (.Call (.Attribute a "startswith" apos) [b] [] pos) (.bl (decide (l.take m.length = m))) := by
  have := ev_starts0 ha hb hs hline hbase
  rw [starts_S] at this
  exact this
end
end B

namespace B
open PySem PySem.Spec PyProof.Rows L2
/-- it goes through ds, while the names stay as they are -/
def WalksC (K : PySem.W.Frag) (H0 : Hp) (ρ : Env') (σ : L2.St) (J : It) (N1 : Hp) (ds : List Dat) : Prop := ∀ (H0' H N : Hp) (i : Nat), Same H0 H0' → Same N1 N → Rep K H0' ρ σ H N →
  (i < ds.length → J.go i H ∧ ∀ x H', J.yld i H x H' → ∃ N' d, Same N N' ∧ Same H H' ∧ Rep K H0' ρ σ H' N' ∧ ds[i]? = some d ∧ At K N' x d) ∧ (i = ds.length → J.stop i H)
def IterC (X : Cx) (H0 : Hp) (ρ : Env') (t e : Expr) (ds : List Dat) : Prop := ∃ wi, PI X t e wi ∧ ∀ σ H N, Rep X.K H0 ρ σ H N → ∀ R, (∀ J H1 N1, Same N N1 → Same H H1 → Rep X.K H0 ρ σ H1 N1 → WalksC X.K H0 ρ σ J N1 ds → R J H1) → wi σ H R
section
variable {X : Cx} {H0 : Hp} {ρ ρ1 ρ2 : Env'} {a b c e : Expr} {es : List Expr} {st : Stmt} {sts rest : List Stmt} {d d1 d2 : Dat} {ds : List Dat} {p pos : Pos} {o o1 : Outc} {x n : Str}
theorem it_ow (i : Nat) {t : Expr} {x : Str} (h : ρ[i]? = some (.ow (.lst ds))) (hN : X.N[i]? = some x := by rfl) (hv : Vis X.env.scope x := by first | exact Or.inl rfl | exact Or.inr (Or.inl rfl) | exact Or.inr (Or.inr rfl)) (hd : (x == ("__debug__" : Str)) = false := by decide)
    (hcd : (x == ("__classdict__" : Str)) = false := by decide) : IterC X H0 ρ t (.Name x pos) ds := ⟨_, pi_list (pv i hN hv hd hcd), fun σ H N r R k => by
  obtain ⟨p, e1, h0, hn, vs, hp, ha⟩ := r.ow i _ h
  refine ⟨_, e1, p, rfl, ⟨vs, .inl (.inl hp)⟩, k _ H N (Same.refl _) (Same.refl _) r fun H02 H2 N2 j s02 s2 r2 => ?_⟩
  obtain ⟨q, f1, f2, f3, us, f4, f5⟩ := r2.ow i _ h
  rw [e1] at f1
  cases f1
  refine ⟨fun hi => ?_, fun hi => ⟨us, .inl (.inl f4), by rw [f5.length]; exact Nat.le_of_eq hi.symm⟩⟩
  have hv : j < us.length := by rw [f5.length]; exact hi
  refine ⟨⟨us, us[j], .inl (.inl f4), by simp [hv]⟩, fun x H3 y => ?_⟩
  obtain ⟨rfl, y⟩ := y
  obtain ⟨d, g1, g2⟩ := f5.getV (y us (.inl (.inl f4)))
  exact ⟨N2, d, Same.refl _, Same.refl _, r2, g1, g2⟩⟩
/-- a comprehension over an owned list -/
theorem eo_compC {elt tg iter : Expr} {ifs : List Expr} {scope : Scope} {xn : Str} (i : Nat) {pos : Pos} (hc : X.calm = true) (nd : X.N.Nodup) (hi : IterC X H0 ρ tg iter ds) (ok : blkC X.N X.env.scope scope [(xn, i)] = true) (hx : ρ[i]? = some .no) (f : Dat → Bool) (g : Dat → Dat)
    (htg : ∀ (s : Shared) (H : Hp) (C : Addr) (cl : List (Str × Addr)) (fp : List Addr), PG (X.blk s H scope (compEnvC scope cl C X.env) fp) tg (gName i))
    (hif : (ifs = [] ∧ ∀ d ∈ ds, f d = true) ∨ ∃ c, ifs = [c] ∧ ∀ (H0' : Hp) (s : Shared) (H : Hp) (C : Addr) (cl : List (Str × Addr)) (fp : List Addr), Same H0 H0' → ∀ d ∈ ds, EvT (X.blk s H scope (compEnvC scope cl C X.env) fp) H0' (ρ.set i (.im d)) c (f d))
    (hel : ∀ (H0' : Hp) (s : Shared) (H : Hp) (C : Addr) (cl : List (Str × Addr)) (fp : List Addr), Same H0 H0' → ∀ d ∈ ds, f d = true → Ev (X.blk s H scope (compEnvC scope cl C X.env) fp) H0' (ρ.set i (.im d)) elt (g d))
    (hz : ds.length < sizeLine) (hs : ∀ x, foldedSetIterable iter X.env x = pure x := by intro _; rfl) : EvO X H0 ρ (.ListComp elt [⟨tg, iter, ifs, 0⟩] scope pos) (.lst ((ds.filter f).map g)) := fun σ H N r => by
  obtain ⟨wi, pi, hw⟩ := hi
  have pts : ∀ (s : Shared) (H : Hp) (C : Addr) (cl : List (Str × Addr)) (fp : List Addr), PTs (X.blk s H scope (compEnvC scope cl C X.env) fp) ifs
      (fun σ H Q => (ifs = [] ∧ Q true H) ∨ ∃ c, ifs = [c] ∧ ∀ s H' C cl fp, WT (X.blk s H' scope (compEnvC scope cl C X.env) fp) c σ H Q) := fun s H C cl fp => ⟨fun pins s' σ H Q I h => by
    rcases h with ⟨rfl, h⟩ | ⟨c, rfl, h⟩
    · exact pts_nil.run pins s' σ H Q I h
    · exact (pts_one pt_w).run pins s' σ H Q I (h _ _ _ _ _)⟩
  have pes : ∀ (s : Shared) (H : Hp) (C : Addr) (cl : List (Str × Addr)) (fp : List Addr), PE (X.blk s H scope (compEnvC scope cl C X.env) fp) elt
      (fun σ H Q => ∀ s H' C cl fp, WE (X.blk s H' scope (compEnvC scope cl C X.env) fp) elt σ H Q) := fun s H C cl fp => ⟨fun pins s' σ H Q I h => (h _ _ _ _ _).go pins s' I⟩
  refine we_of (pe_lc hc nd pi (blkOk_by ok) htg pts pes hs) (hw σ H N r _ fun J H1 N1 n1 s1 r1 w => fun D hD => ?_)
  have hiσ : i < σ.length := by rw [← r.len]; exact lt_of_get hx
  refine ⟨fun j m H' => m = ds.length - j ∧ j ≤ ds.length ∧ ∃ N' acc, Same N1 N' ∧ Same H1 H' ∧ Rep X.K H0 ρ σ H' N' ∧ N' D = none ∧ H' D = some (.lst acc) ∧ Ats X.K N' acc (((ds.take j).filter f).map g), ⟨_, rfl, Nat.zero_le _, N1, [], Same.refl _, Same.of_none hD, r1.grow (Same.of_none hD), r1.sub.free hD, upd_same, by simpa using Ats.nil⟩, ?_⟩
  rintro j m H' ⟨rfl, hj, N', acc, s', e', r', dN, dH, aa⟩
  have h0D : H0 D = none := r1.old.free hD
  have npD : ∀ (q : Nat) d, ρ[q]? = some (Ent.ow d) → σ[q]? ≠ some (some (V.ref D)) := no_own r1 hD
  obtain ⟨wg, wst⟩ := w (upd H0 D (.lst acc)) H' N' j (Same.of_none h0D) s' (r'.toOld h0D dH dN npD)
  by_cases hlt : j < ds.length
  · obtain ⟨go, yl⟩ := wg hlt
    have et : ds.take (j + 1) = ds.take j ++ [ds[j]] := by rw [List.take_succ, List.getElem?_eq_getElem hlt]; rfl
    refine .inr ⟨go, fun H' => ∃ N' acc, Same N1 N' ∧ Same H1 H' ∧ Rep X.K H0 ρ σ H' N' ∧ N' D = none ∧ H' D = some (.lst acc) ∧ Ats X.K N' acc (((ds.take (j + 1)).filter f).map g), fun H2 q => ⟨_, by omega, rfl, hlt, q⟩, fun x H2 y => ?_⟩
    obtain ⟨N2, d, n2, e2, r2, e3, a2⟩ := yl x H2 y
    have ed : d = ds[j] := by
      rw [List.getElem?_eq_getElem hlt] at e3
      exact (Option.some.inj e3).symm
    subst ed
    have dH2 : H2 D = some (.lst acc) := e2 _ _ dH
    have np : ∀ (q : Nat) d, ρ[q]? = some (Ent.ow d) → σ[q]? ≠ some (some (V.ref D)) := no_own r1 hD
    have d0 : Same H0 (upd H0 D (.lst acc)) := Same.of_none h0D
    have mem : ds[j] ∈ ds := List.getElem_mem hlt
    have dH2 : H2 D = some (.lst acc) := e2 _ _ dH
    have r2' : Rep X.K (upd H0 D (.lst acc)) ρ σ H2 N2 := r2
    have rs := r2'.setE (i := i) (v := x) (e := .im ds[j]) a2
    have ws : (wipe σ [i]).set i (some x) = σ.set i (some x) := by show (σ.set i none).set i (some x) = _; rw [List.set_set]
    show wipe ((wipe σ [i]).set i (some x)) [i] = wipe σ [i] ∧ _
    refine ⟨by rw [ws]; show (σ.set i (some x)).set i none = σ.set i none; rw [List.set_set], ?_⟩
    rw [show (wipe σ (List.map (fun (x : Str × Nat) => x.snd) [(xn, i)])).set i (some x) = σ.set i (some x) from ws]
    have elem : ∀ H3 N3, f ds[j] = true → Same H2 H3 → Same N2 N3 → Rep X.K (upd H0 D (.lst acc)) (ρ.set i (.im ds[j])) (σ.set i (some x)) H3 N3 → ∀ s H' C cl fp, WE (X.blk s H' scope (compEnvC scope cl C X.env) fp) elt (σ.set i (some x)) H3 fun y H4 => ∃ acc', H4 D = some (.lst acc') ∧ acc'.length < sizeLine ∧
        ∃ N' a', Same N1 N' ∧ Same H1 (upd H4 D (.lst (acc' ++ [y]))) ∧ Rep X.K H0 ρ σ (upd H4 D (.lst (acc' ++ [y]))) N' ∧ N' D = none ∧ (upd H4 D (.lst (acc' ++ [y]))) D = some (.lst a') ∧ Ats X.K N' a' (((ds.take (j + 1)).filter f).map g) := fun H3 N3 hf e3' n3 r3 s H5 C cl fp => by
      refine (hel _ s H5 C cl fp d0 _ mem hf _ _ _ r3).imp fun y H4 ⟨N4, s4, n4, r4, a4⟩ => ?_
      have q4 : H4 D = some (.lst acc) := s4 _ _ (e3' _ _ dH2)
      refine ⟨acc, q4, ?_, N4, acc ++ [y], (((s'.trans n2).trans n3).trans n4), fun a u h => ?_, (r'.back hx d0 r4).updD h0D r4.notD np, r4.notD, upd_same, ?_⟩
      · rw [aa.length, List.length_map]
        have := List.length_filter_le f (ds.take j)
        have := List.length_take_le j ds
        omega
      · rw [upd_ne (ne_of_none h hD)]
        exact s4 _ _ (e3' _ _ (e2 _ _ (e' a u h)))
      · rw [et, List.filter_append, List.map_append]
        refine ((aa.mono n2).mono n3 |>.mono n4).append ?_
        rw [List.filter_cons, if_pos hf]
        exact .cons a4 .nil
    have skip : ∀ H3 N3, f ds[j] = false → Same H2 H3 → Same N2 N3 → Rep X.K (upd H0 D (.lst acc)) (ρ.set i (.im ds[j])) (σ.set i (some x)) H3 N3 → ∃ N' acc, Same N1 N' ∧ Same H1 H3 ∧ Rep X.K H0 ρ σ H3 N' ∧ N' D = none ∧ H3 D = some (.lst acc) ∧ Ats X.K N' acc (((ds.take (j + 1)).filter f).map g) := fun H3 N3 hf e3' n3 r3 => by
      refine ⟨N3, acc, (s'.trans n2).trans n3, (e'.trans e2).trans e3', r'.back hx d0 r3, r3.notD, e3' _ _ dH2, ?_⟩
      rw [et, List.filter_append, List.map_append, List.filter_cons, if_neg (by rw [hf]; exact Bool.false_ne_true)]
      simpa using (aa.mono n2).mono n3
    rcases hif with ⟨hne, hft⟩ | ⟨c, hc', ht⟩
    · exact .inl ⟨hne, iteT (elem H2 N2 (hft _ mem) (Same.refl _) (Same.refl _) rs)⟩
    · refine .inr ⟨c, hc', fun s H5 C cl fp => ?_⟩
      refine (ht _ s H5 C cl fp d0 _ mem _ _ _ rs).imp fun bb H3 ⟨eb, N3, s3, n3, r3⟩ => ?_
      subst eb
      cases hf : f ds[j] with
      | true => exact iteT (elem H3 N3 hf s3 n3 r3)
      | false => exact iteF (skip H3 N3 hf s3 n3 r3)
  · have e1 : j = ds.length := by omega
    subst e1
    rw [List.take_length] at aa
    exact .inl ⟨wst rfl, N', D, rfl, s1.free hD, s1.trans e', n1.trans s', r', dN, acc, dH, aa⟩
end
end B

namespace B
open PySem PySem.Spec PyProof.Rows L2
theorem Ats.rep {K : PySem.W.Frag} {H : Hp} {vs : List V} {ds : List Dat} (h : Ats K H vs ds) : ∀ n : Nat, Ats K H (List.replicate n vs).flatten (List.replicate n ds).flatten
  | 0 => .nil
  | n + 1 => by
    rw [List.replicate_succ, List.replicate_succ, List.flatten_cons, List.flatten_cons]
    exact h.append (Ats.rep h n)
section
variable {X : Cx} {H0 : Hp} {ρ ρ1 ρ2 : Env'} {a b c e : Expr} {es : List Expr} {st : Stmt} {sts rest : List Stmt} {d d1 d2 d3 : Dat} {ds : List Dat} {p pos : Pos} {o o1 : Outc} {x n : Str}
/-- a new list, so many times -/
theorem eo_repO {k : Int} (ha : EvO X H0 ρ a (.lst ds)) (hb : Ev X H0 ρ b (.int k)) (h1 : -(2 ^ 63) ≤ k) (h2 : k < 2 ^ 63) (hz : ds.length * k.toNat ≤ sizeLine) : EvO X H0 ρ (.BinOp a .Mult b pos) (.lst (List.replicate k.toNat ds).flatten) := fun σ H N rp =>
  we_of (pe_op op_rep pe_w pe_w) ((ha σ H N rp).imp fun v H1 ⟨N1, q, e1, hp, s1, n1, r1, np, ow⟩ => (hb σ H1 N1 r1).imp fun w H2 ⟨N2, s2, n2, r2, a2⟩ => by
    obtain ⟨vs, q1, q2⟩ := ow
    refine ⟨q, k, vs, e1, at_int a2, s2 _ _ q1, h1, h2, by rw [q2.length]; exact hz, fun l hl => ?_⟩
    obtain ⟨r3, n3⟩ := eo_new (o := .lst (List.replicate k.toNat vs).flatten) r2 hl
    exact ⟨N2, l, rfl, (s1.trans s2).free hl, (s1.trans s2).trans (Same.of_none hl), n1.trans n2, r3, n3, _, upd_same, (q2.mono n2).rep _⟩)
/-- an owned list, so many times -/
theorem eo_repN {k : Int} (i : Nat) {y : Str} {p1 : Pos} (hi : ρ[i]? = some (.ow (.lst ds))) (hb : Ev X H0 ρ b (.int k)) (h1 : -(2 ^ 63) ≤ k) (h2 : k < 2 ^ 63) (hz : ds.length * k.toNat ≤ sizeLine) (hN : X.N[i]? = some y := by rfl) (hv : Vis X.env.scope y := by first | exact Or.inl rfl | exact Or.inr (Or.inl rfl) | exact Or.inr (Or.inr rfl))
    (hd : (y == ("__debug__" : Str)) = false := by decide) (hcd : (y == ("__classdict__" : Str)) = false := by decide) : EvO X H0 ρ (.BinOp (.Name y p1) .Mult b pos) (.lst (List.replicate k.toNat ds).flatten) := fun σ H N rp => by
  obtain ⟨q, g1, g2, g3, us, g4, g5⟩ := rp.ow i _ hi
  refine we_of (pe_op op_rep (pv i hN hv hd hcd) pe_w) ⟨_, g1, (hb σ H N rp).imp fun w H2 ⟨N2, s2, n2, r2, a2⟩ => ?_⟩
  refine ⟨q, k, us, rfl, at_int a2, s2 _ _ g4, h1, h2, by rw [g5.length]; exact hz, fun l hl => ?_⟩
  obtain ⟨r3, n3⟩ := eo_new (o := .lst (List.replicate k.toNat us).flatten) r2 hl
  exact ⟨N2, l, rfl, s2.free hl, s2.trans (Same.of_none hl), n2, r3, n3, _, upd_same, (g5.mono n2).rep _⟩
/-- (a, b, c) = a triple -/
theorem tg_three (i j l : Nat) {y z u : Str} {p1 p2 p3 : Pos} {kk : Nat} (nd : X.N.Nodup) (hc : X.calm = true) (hi : X.N[i]? = some y := by rfl) (hj : X.N[j]? = some z := by rfl) (hl : X.N[l]? = some u := by rfl) (hx : Loc X.env.scope y := by first | exact Or.inl rfl | exact Or.inr rfl) (hx2 : Loc X.env.scope z := by first | exact Or.inl rfl | exact Or.inr rfl) (hx3 : Loc X.env.scope u := by first | exact Or.inl rfl | exact Or.inr rfl)
    (hf : X.fn y = true ∨ X.env.scope.names.lookup y = some .local := by first | exact .inl rfl | exact .inr rfl | assumption) (hf2 : X.fn z = true ∨ X.env.scope.names.lookup z = some .local := by first | exact .inl rfl | exact .inr rfl | assumption) (hf3 : X.fn u = true ∨ X.env.scope.names.lookup u = some .local := by first | exact .inl rfl | exact .inr rfl | assumption)
    (hn : (assignEach [Expr.Name y p1, .Name z p2, .Name u p3] X.env).length = 3 := by rfl) (hst : (assignEach [Expr.Name y p1, .Name z p2, .Name u p3] X.env).findIdx? (·.1) = none := by rfl)
    (h1 : (assignEach [Expr.Name y p1, .Name z p2, .Name u p3] X.env).map (·.2) = assign (.Name y p1) X.env :: (assignEach [Expr.Name z p2, .Name u p3] X.env).map (·.2) := by rfl) (h2 : (assignEach [Expr.Name z p2, .Name u p3] X.env).map (·.2) = assign (.Name z p2) X.env :: (assignEach [Expr.Name u p3] X.env).map (·.2) := by rfl)
    (h3 : (assignEach [Expr.Name u p3] X.env).map (·.2) = assign (.Name u p3) X.env :: (assignEach [] X.env).map (·.2) := by rfl) :
    Tgt X H0 (.Tuple [.Name y p1, .Name z p2, .Name u p3] kk pos) (fun d => ∃ a b c, d = .tup [a, b, c]) (fun d ρ => match d with | .tup [a, b, c] => ((ρ.set i (.im a)).set j (.im b)).set l (.im c) | _ => ρ) := by
  refine ⟨_, pg_tup hc (pgs_cons (pg_name nd hi hx hf) (pgs_cons (pg_name nd hj hx2 hf2) (pgs_cons (pg_name nd hl hx3 hf3) pgs_nil h3) h2) h1) hn hst, fun ρ σ H N v d r a ok Q k => ?_⟩
  obtain ⟨d1, d2, d3, rfl⟩ := ok
  obtain ⟨p, vs, rfl, q1, q2⟩ := at_seq a
  cases q2 with
  | cons a1 t =>
    cases t with
    | cons a2 t2 =>
      cases t2 with
      | cons a3 t3 =>
        cases t3
        exact ⟨p, _, rfl, sqt_same r.sub q1, rfl, _, _, rfl, _, _, rfl, _, _, rfl, rfl, k _ H N (Same.refl _) (((r.setE (e := .im d1) a1).setE (e := .im d2) a2).setE (e := .im d3) a3)⟩
end
end B

namespace B
open PySem PySem.Spec PyProof.Rows L2 RT
section
variable {prog : Program} {w : World} {A : Around} {E : Value → Shared → Prop} {s : Shared}
/-- list(reversed(a list)) -/
theorem call_list_rev {it l : Addr} {items : Array Value} {Q : Value → Shared → Prop} (hh : A.handled = none) (hit : s.heap.IsRevIter it l ((items.size : Int) - 1)) (hl : s.heap.IsList l items) (hne : l ≠ it) (hn : items.size ≤ sizeLine)
    (hQ : ∀ (h' : Heap) (tk : Nat) (acc : Array Value) (c' : Nat), (∀ b o, b ≠ it → s.heap.get? b = some o → h'.get? b = some o) → h'.get? s.heap.objs.size = some { cls := .type "list", dict := none, data := .seq acc c', slots := #[] } →
      ItemsOf (fun i v => items[items.size - 1 - i]? = some v) acc items.size → Q (.ref s.heap.objs.size) { s with heap := h', toks := tk }) :
    wpAny (model prog w) A (call (.type "list") [.ref it]) Q E s := by
  have W := (Walks.listRev (prog := prog) (w := w) (A := A.in1.in1) hh it l hne items).toS
  obtain ⟨oi, hoi, _⟩ := id hit
  obtain ⟨ol, hol, _⟩ := id hl
  have hSi : s.heap.objs.size ≠ it := Nat.ne_of_gt (Heap.lt_size hoi)
  have hSl : s.heap.objs.size ≠ l := Nat.ne_of_gt (Heap.lt_size hol)
  have hSf : s.heap.objs.size ∉ [it, l] := by simp only [List.mem_cons, List.not_mem_nil, or_false, not_or]; exact ⟨hSi, hSl⟩
  refine callType_codes (Q₁ := fun obj s₁ => obj = .ref s.heap.objs.size ∧ s₁ = { s with heap := s.heap.push { cls := .type "list", data := .seq #[] } }) F.called_list (F.typeCall_list_1 _) F.entry_list_init
    (code_list_new _ ⟨rfl, rfl⟩) fun obj s₁ h₁ => ?_
  obtain ⟨rfl, rfl⟩ := h₁
  have hS : (s.heap.push { cls := .type "list", data := .seq #[] }).get? s.heap.objs.size = some { cls := .type "list", data := .seq #[] } := Heap.get?_push_size _ rfl
  refine ⟨⟨_, hS, rfl⟩, F.args_list_init_2 _ _, ?_⟩
  show wpAny _ A.in1.in1 (do let old ← Builtin.List.listItems (.ref s.heap.objs.size); Builtin.List.listUpdate (.ref s.heap.objs.size) (fun _ => #[]); letGo old.toList.reverse; Builtin.List.listExtendWith (.ref s.heap.objs.size) (.ref it) .none) _ _ _
  refine wpAny_bind ?_
  unfold Builtin.List.listItems
  refine wpAny_bind (wpAny_seqItems hS rfl (wpAny_pure ?_))
  show wpAny _ A.in1.in1 (updateSeq s.heap.objs.size (fun _ => #[]) >>= fun _ => letGo (#[] : Array Value).toList.reverse >>= fun _ => Builtin.List.listExtendWith (.ref s.heap.objs.size) (.ref it) .none) _ _ _
  refine wpAny_bind (wpAny_updateSeq hS rfl ?_)
  have hS₂ := Heap.get?_update_self (Obj.mapSeq (fun _ => (#[] : Array Value))) hS rfl
  have oth : ∀ b o, b ≠ s.heap.objs.size → s.heap.get? b = some o → ((s.heap.push { cls := .type "list", data := .seq #[] }).update s.heap.objs.size (Obj.mapSeq (fun _ => (#[] : Array Value)))).get? b = some o :=
    fun b o hb e => (Heap.get?_update_other _ _ (Ne.symm hb)).trans (Heap.get?_push_of_some _ e)
  refine wpAny_bind (wpAny_letGo ?_)
  generalize hH : (s.heap.push { cls := .type "list", data := .seq #[] }).update s.heap.objs.size (Obj.mapSeq (fun _ => (#[] : Array Value))) = H2 at *
  have hit1 : H2.IsRevIter it l ((items.size : Int) - 1) := hit.at fun o e => oth _ _ (Ne.symm hSi) e
  have hl1 : H2.IsList l items := hl.at fun o e => oth _ _ (Ne.symm hSl) e
  have hT : ({ s with heap := H2 } : Shared).TypeIs (.ref it) "list_reverseiterator" := Heap.IsRevIter.typeIs (s := { s with heap := H2 }) hit1
  have h1 : Builtin.List.listSameRef (.ref s.heap.objs.size) (.ref it) = false := by simp [Builtin.List.listSameRef, hSi]
  unfold Builtin.List.listExtendWith
  refine wpAny_bind (wpAny_typeOf hT ?_)
  rw [if_neg (by rw [h1]; decide)]
  refine wpAny_bind (wpAny_pyIter_revIter (s := { s with heap := H2 }) hit1 ?_)
  refine wpAny_bind (wpAny_holding ?_)
  unfold Builtin.List.listLengthHint
  refine wpAny_bind (wpAny_specialOf hT nolen_lri ?_)
  show wpAny _ A.in1.in1 (specialOf (Value.ref it) (Str.ofString "__length_hint__") >>= _) _ _ _
  refine wpAny_bind (wpAny_specialOf hT hint_lri ?_)
  generalize hid : ("list_reverseiterator.__length_hint__" : String) = id0
  wp_delta
  rw [show splitId id0 = some ("list_reverseiterator", "__length_hint__") from by subst hid; decide +kernel]
  subst hid
  refine wpAny_bind (wpAny_isInstance (b := true) hT (by rw [isSubtype_type]; kernel_rfl) ?_)
  refine wpAny_pure ?_
  rw [if_neg (by decide)]
  have e0 : ((items.size : Nat) : Int) - 1 - ((0 : Nat) : Int) = (items.size : Int) - 1 := by omega
  refine wpAny_pure ⟨plainId_quiet F.plain_extend_loop _, codeAny_extend_loopS W hn _ hSf _ items.size 0 _ _ _ rfl (Nat.zero_le _) ⟨Nat.zero_le _, by rw [e0]; exact hit1, hl1⟩ hS₂ (ItemsOf.nil _) fun s' acc' c' hm hS' hacc => ?_⟩
  rw [Moved.eq_with hm]
  refine ⟨rfl, hQ s'.heap s'.toks acc' c' (fun b o hb e => hm.heap b o (fun hmem => ?_) (oth b o (Nat.ne_of_lt (Heap.lt_size e)) e)) hS' hacc⟩
  rcases List.mem_cons.mp hmem with e' | hmem
  · exact absurd (Heap.lt_size e) (by rw [e']; exact Nat.lt_irrefl _)
  · exact hb (List.mem_singleton.mp hmem)
end
theorem Ats.reverse {K : PySem.W.Frag} {H : Hp} : ∀ {vs : List V} {ds : List Dat}, Ats K H vs ds → Ats K H vs.reverse ds.reverse
  | _, _, .nil => .nil
  | _, _, .cons a t => by
    rw [List.reverse_cons, List.reverse_cons]
    exact (Ats.reverse t).append (.cons a .nil)
section
variable {X : Cx}
theorem pe_listRev {e : Expr} {te : TE} {p p2 pos pos2 : Pos} (hc : X.calm = true) (hg : Gl X "list") (hm : X.mg "list" = none) (hg2 : Gl X "reversed") (hm2 : X.mg "reversed" = none) (he : PE X e te)
    (hs : starEach [e] X.env = (false, eval e X.env) :: starEach [] X.env := by rfl)
    (hs2 : starEach [.Call (.Name "reversed" p2) [e] [] pos2] X.env = (false, eval (.Call (.Name "reversed" p2) [e] [] pos2) X.env) :: starEach [] X.env := by rfl) :
    PE X (.Call (.Name "list" p) [.Call (.Name "reversed" p2) [e] [] pos2] [] pos) (fun σ H Q => te σ H fun v H1 => ∃ (a : Addr) (xs : List V), v = .ref a ∧ SqL X.K H1 a xs ∧ ∀ q, H1 q = none → Q (.ref q) (upd H1 q (.lst xs.reverse))) := by
  refine ⟨fun pins s σ H Q I h => ?_⟩
  refine Call_ (ld_blt I hg hm boot_list (PyProof.Rows.callWith_type1 (args_cons (Call_ (ld_blt I hg2 hm2 PyProof.Rows.boot_reversed (PyProof.Rows.callWith_type1 (args_cons (thn (he.run pins s σ H _ I h) fun u s1 ⟨v, H1, I1, r1, q1⟩ => args_nil ?_) hs) hs rfl))) hs2) hs2 rfl))
  obtain ⟨a, xs, ev, hq, q⟩ := q1
  subst ev
  obtain rfl : u = Value.ref a := r1
  obtain ⟨its, rv, p', hz⟩ := I1.list hq
  refine call_reversed_list p'.isList (args_nil ?_)
  have k0 : ∀ b o, s1.heap.get? b = some o → (s1.heap.push (revObj a ((its.toArray.size : Int) - 1))).get? b = some o := fun b o e => Heap.get?_push_of_some _ e
  have hl := p'.isList
  obtain ⟨ol, hol, _⟩ := id hl
  have hne : a ≠ s1.heap.objs.size := Nat.ne_of_lt (Heap.lt_size hol)
  have hn : its.toArray.size ≤ sizeLine := by rw [List.size_toArray, ← rv.length]; exact hz
  refine call_list_rev (s := { s1 with heap := s1.heap.push (revObj a ((its.toArray.size : Int) - 1)) }) (I1.ok.hd hc) ⟨_, Heap.get?_push_size _ rfl, rfl, rfl⟩ (hl.push _) hne hn fun h' tk acc c' hk hS hi => ?_
  have hk1 : ∀ b u, s1.heap.get? b = some u → h'.get? b = some u := fun b u e => hk b u (Nat.ne_of_lt (Heap.lt_size e)) (k0 b u e)
  have hle : s1.heap.objs.size ≤ (s1.heap.push (revObj a ((its.toArray.size : Int) - 1))).objs.size := by simp [Heap.push]
  refine ⟨.ref _, upd H1 _ (.lst xs.reverse), I1.laid (t' := tk) hk1 hle (show ObjOk X.prog X.w _ _ _ (.lst xs.reverse) from ⟨by rw [List.length_reverse]; exact hz, acc.toList, c', vals_rev rv hi, ?_⟩), rfl, q _ (I1.hok.fresh hle)⟩
  rw [Array.toArray_toList]
  exact hS
variable {H0 : Hp} {ρ : Env'} {a : Expr} {ds : List Dat} {p p2 pos pos2 : Pos}
theorem eo_listRev (ha : EvB X H0 ρ a (.lst ds)) (f : flats ds = true) (hc : X.calm = true) (hm : X.mg "list" = none) (hm2 : X.mg "reversed" = none) (hg : Gl X "list" := by rfl) (hg2 : Gl X "reversed" := by rfl) (hs : starEach [a] X.env = (false, eval a X.env) :: starEach [] X.env := by rfl)
    (hs2 : starEach [.Call (.Name "reversed" p2) [a] [] pos2] X.env = (false, eval (.Call (.Name "reversed" p2) [a] [] pos2) X.env) :: starEach [] X.env := by rfl) : EvO X H0 ρ (.Call (.Name "list" p) [.Call (.Name "reversed" p2) [a] [] pos2] [] pos) (.lst ds.reverse) := fun σ H N rp =>
  we_of (pe_listRev hc hg hm hg2 hm2 pe_w hs hs2) ((ha σ H N rp).imp fun v H1 ⟨N1, s1, n1, r1, a1⟩ => by
    obtain ⟨q, us, e3, h1, h2⟩ := at_lst a1
    obtain ⟨N2, n2, r2, k⟩ := r1.keep
    refine ⟨q, us, e3, h1, fun l hl => ?_⟩
    obtain ⟨r3, n3⟩ := eo_new (o := .lst us.reverse) r2 hl
    refine ⟨N2, l, rfl, s1.free hl, s1.trans (Same.of_none hl), n1.trans n2, r3, n3, us.reverse, upd_same, ?_⟩
    have h3 : Ats X.K N2 us ds := (h2.imm f).mono k
    exact h3.reverse)
end
end B

namespace B
open PySem PySem.Spec PyProof.Rows L2

/-! ### what a text's part comes to: a value, an error, or out of reach -/
inductive M (α : Type) where
  | ok (a : α)
  | ex (n : Str)
  | far
namespace M
variable {α β : Type}
def bind (m : M α) (k : α → M β) : M β := match m with
  | .ok a => k a
  | .ex n => .ex n
  | .far => .far
def nox (m : M α) : M α := match m with
  | .ok a => .ok a
  | _ => .far
def gd (b : Bool) (m : M α) : M α := match b with
  | true => m
  | false => .far
def ofO (o : Option α) : M α := match o with
  | some a => .ok a
  | none => .far
def lt (v : α) (k : α → M β) : M β := k v
@[simp] theorem bind_ok (a : α) (k : α → M β) : (M.ok a).bind k = k a := id rfl
@[simp] theorem bind_ex (n : Str) (k : α → M β) : (M.ex n : M α).bind k = .ex n := id rfl
@[simp] theorem bind_far (k : α → M β) : (M.far : M α).bind k = .far := id rfl
@[simp] theorem nox_ok (a : α) : (M.ok a).nox = .ok a := id rfl
@[simp] theorem nox_ex (n : Str) : (M.ex n : M α).nox = .far := id rfl
@[simp] theorem nox_far : (M.far : M α).nox = .far := id rfl
@[simp] theorem gd_true (m : M α) : gd true m = m := id rfl
@[simp] theorem ofO_some (a : α) : ofO (some a) = .ok a := id rfl
@[simp] theorem lt_eq (v : α) (k : α → M β) : lt v k = k v := id rfl
theorem gd_of {b : Bool} (m : M α) (h : b = true) : gd b m = m := by rw [h]; rfl
theorem ofO_of {o : Option α} {a : α} (h : o = some a) : ofO o = .ok a := by rw [h]; rfl
theorem nox_of {m : M α} {a : α} (h : m = .ok a) : m.nox = .ok a := by rw [h]; rfl
theorem bind_of {m : M α} {a : α} {k : α → M β} (h : m = .ok a) : m.bind k = k a := by rw [h]; rfl
end M
/-- how a block goes on -/
inductive Fl (S L R : Type) where
  | nx (s : S)
  | ct (s : L)
  | bk (s : L)
  | rt (r : R)
section
variable {α S S' L L' R : Type}
def M.seq (m : M (Fl S L R)) (k : S → M (Fl S' L R)) : M (Fl S' L R) := match m with
  | .ok (.nx s) => k s
  | .ok (.ct s) => .ok (.ct s)
  | .ok (.bk s) => .ok (.bk s)
  | .ok (.rt r) => .ok (.rt r)
  | .ex n => .ex n
  | .far => .far
def M.seqT (m : M (Fl S L R)) (k : S → M R) : M R := match m with
  | .ok (.nx s) => k s
  | .ok (.rt r) => .ok r
  | .ex n => .ex n
  | _ => .far
@[simp] theorem M.seq_nx (s : S) (k : S → M (Fl S' L R)) : (M.ok (Fl.nx s)).seq k = k s := id rfl
@[simp] theorem M.seq_ct (s : L) (k : S → M (Fl S' L R)) : (M.ok (Fl.ct s)).seq k = .ok (.ct s) := id rfl
@[simp] theorem M.seq_bk (s : L) (k : S → M (Fl S' L R)) : (M.ok (Fl.bk s)).seq k = .ok (.bk s) := id rfl
@[simp] theorem M.seq_rt (s : R) (k : S → M (Fl S' L R)) : (M.ok (Fl.rt s)).seq k = .ok (.rt s) := id rfl
@[simp] theorem M.seqT_nx (s : S) (k : S → M R) : (M.ok (Fl.nx s : Fl S L R)).seqT k = k s := id rfl
@[simp] theorem M.seqT_rt (s : R) (k : S → M R) : (M.ok (Fl.rt s : Fl S L R)).seqT k = .ok s := id rfl
@[simp] theorem M.seq_ex (n : Str) (k : S → M (Fl S' L R)) : (M.ex n).seq k = .ex n := id rfl
@[simp] theorem M.seqT_ex (n : Str) (k : S → M R) : (M.ex n : M (Fl S L R)).seqT k = .ex n := id rfl
/-- a for whose body only falls through -/
def forM (f : α → S → M S) : List α → S → M S
  | [], s => .ok s
  | x :: xs, s => (f x s).bind fun s' => forM f xs s'
def forF (f : α → S → M (Fl S S R)) : List α → S → M (Fl S L R)
  | [], s => .ok (.nx s)
  | x :: xs, s => match f x s with
    | .ok (.nx s') => forF f xs s'
    | .ok (.ct s') => forF f xs s'
    | .ok (.bk s') => .ok (.nx s')
    | .ok (.rt r) => .ok (.rt r)
    | .ex n => .ex n
    | .far => .far
def whileM (c : S → M Bool) (f : S → M S) : Nat → S → M S
  | 0, _ => .far
  | n + 1, s => (c s).bind fun t => if t = true then (f s).bind fun s' => whileM c f n s' else .ok s
def whileF (c : S → M Bool) (f : S → M (Fl S S R)) : Nat → S → M (Fl S L R)
  | 0, _ => .far
  | n + 1, s => (c s).bind fun t => if t = true then (match f s with
    | .ok (.nx s') => whileF c f n s'
    | .ok (.ct s') => whileF c f n s'
    | .ok (.bk s') => .ok (.nx s')
    | .ok (.rt r) => .ok (.rt r)
    | .ex n => .ex n
    | .far => .far) else .ok (.nx s)
def compM {β : Type} (f : α → M Bool) (g : α → M β) : List α → M (List β)
  | [] => .ok []
  | x :: xs => (f x).bind fun b => if b = true then (g x).bind fun y => (compM f g xs).bind fun ys => .ok (y :: ys) else compM f g xs
end

section
variable (X : Cx) (H0 : Hp) (ρ : Env') {α β : Type}
def EvM (e : Expr) (en : α → Dat) (m : M α) : Prop := match m with
  | .ok v => Ev X H0 ρ e (en v)
  | .ex n => EvX X H0 ρ e n
  | .far => True
def EtM (e : Expr) (m : M Bool) : Prop := match m with
  | .ok v => EvT X H0 ρ e v
  | .ex _ => False
  | .far => True
def EwM (e : Expr) (m : M Bool) : Prop := match m with
  | .ok v => EvW X H0 ρ e v
  | .ex _ => False
  | .far => True
def EoM (e : Expr) (en : α → Dat) (m : M α) : Prop := match m with
  | .ok v => EvO X H0 ρ e (en v)
  | .ex n => EvX X H0 ρ e n
  | .far => True
/-- a block -/
def ExM (k : Nat) (sts : List Stmt) (D : α → Outc) (m : M α) : Prop := match m with
  | .ok v => Exec X H0 ρ sts (D v)
  | .ex n => Exec X H0 ρ sts (.ex n (List.replicate k .no))
  | .far => True
end
/-- a statement -/
def ExSM (X : Cx) (H0 : Hp) (ρ : Env') {α : Type} (k : Nat) (st : Stmt) (D : α → Outc) (m : M α) : Prop := match m with
  | .ok v => ExS X H0 ρ st (D v)
  | .ex n => ExS X H0 ρ st (.ex n (List.replicate k .no))
  | .far => True
/-- a def's promise -/
def Rm {α : Type} (en : α → Dat) (m : M α) (o : Res) : Prop := match m with
  | .ok v => o = .val (en v)
  | .ex n => o = .exc n
  | .far => False
def RmO {α : Type} (en : α → Dat) (m : M α) (o : Res) : Prop := match m with
  | .ok v => o = .own (en v)
  | .ex n => o = .exc n
  | .far => False
theorem rm_ok {α : Type} {en : α → Dat} {m : M α} {v : α} (h : m = .ok v) : Rm en m (.val (en v)) := by subst h; rfl
theorem rm_ex {α : Type} {en : α → Dat} {m : M α} {n : Str} (h : m = .ex n) : Rm en m (.exc n) := by subst h; rfl
theorem rmO_ok {α : Type} {en : α → Dat} {m : M α} {v : α} (h : m = .ok v) : RmO en m (.own (en v)) := by subst h; rfl
theorem rmO_ex {α : Type} {en : α → Dat} {m : M α} {n : Str} (h : m = .ex n) : RmO en m (.exc n) := by subst h; rfl
def Fl.D {S L R : Type} (eS : S → Env') (eL : L → Env') (oR : R → Outc) : Fl S L R → Outc
  | .nx s => .nx (eS s)
  | .ct s => .ct (eL s)
  | .bk s => .bk (eL s)
  | .rt r => oR r
/-- the names that are let go -/
def drops (ρ : Env') : List Nat → Env'
  | [] => ρ
  | i :: is => drops (ρ.set i .no) is

section
variable {X : Cx} {H0 : Hp} {ρ ρ0 ρ1 ρ2 : Env'} {α β S S' L L' R : Type} {a b c e : Expr} {es : List Expr} {st : Stmt} {sts as bs body rest : List Stmt} {d d1 d2 : Dat} {ds : List Dat} {p pos : Pos} {o o1 : Outc} {x n : Str} {k : Nat} {D : α → Outc} {m : M α} {en : α → Dat} {g : Bool}
/-! ### expressions -/
theorem evm_gd (h : g = true → EvM X H0 ρ e en m) : EvM X H0 ρ e en (M.gd g m) := by
  cases g with
  | true => exact h rfl
  | false => trivial
theorem evm_bind {mb : M β} {f : β → M α} (h : ∀ r, mb = .ok r → EvM X H0 ρ e en (f r)) : EvM X H0 ρ e en (M.bind (M.nox mb) f) := by
  cases mb with
  | ok r => exact h r rfl
  | ex _ => trivial
  | far => trivial
theorem evm_ofO {ob : Option β} {f : β → M α} (h : ∀ r, ob = some r → EvM X H0 ρ e en (f r)) : EvM X H0 ρ e en (M.bind (M.ofO ob) f) := by
  cases ob with
  | some r => exact h r rfl
  | none => trivial
theorem evm_ok {v : α} (h : Ev X H0 ρ e (en v)) : EvM X H0 ρ e en (.ok v) := h
theorem evm_get {v : α} (h : EvM X H0 ρ e en m) (q : m = .ok v) : Ev X H0 ρ e (en v) := by subst q; exact h
theorem etm_gd {m : M Bool} (h : g = true → EtM X H0 ρ e m) : EtM X H0 ρ e (M.gd g m) := by
  cases g with
  | true => exact h rfl
  | false => trivial
theorem etm_bind {mb : M β} {f : β → M Bool} (h : ∀ r, mb = .ok r → EtM X H0 ρ e (f r)) : EtM X H0 ρ e (M.bind (M.nox mb) f) := by
  cases mb with
  | ok r => exact h r rfl
  | ex _ => trivial
  | far => trivial
theorem etm_ofO {ob : Option β} {f : β → M Bool} (h : ∀ r, ob = some r → EtM X H0 ρ e (f r)) : EtM X H0 ρ e (M.bind (M.ofO ob) f) := by
  cases ob with
  | some r => exact h r rfl
  | none => trivial
theorem etm_ok {v : Bool} (h : EvT X H0 ρ e v) : EtM X H0 ρ e (.ok v) := h
theorem etm_get {m : M Bool} {v : Bool} (h : EtM X H0 ρ e m) (q : m = .ok v) : EvT X H0 ρ e v := by subst q; exact h
theorem ewm_get {m : M Bool} {v : Bool} (h : EwM X H0 ρ e m) (q : m = .ok v) : EvW X H0 ρ e v := by subst q; exact h
theorem ewm_gd {m : M Bool} (h : g = true → EwM X H0 ρ e m) : EwM X H0 ρ e (M.gd g m) := by
  cases g with
  | true => exact h rfl
  | false => trivial
theorem ewm_bind {mb : M β} {f : β → M Bool} (h : ∀ r, mb = .ok r → EwM X H0 ρ e (f r)) : EwM X H0 ρ e (M.bind (M.nox mb) f) := by
  cases mb with
  | ok r => exact h r rfl
  | ex _ => trivial
  | far => trivial
theorem ewm_ofO {ob : Option β} {f : β → M Bool} (h : ∀ r, ob = some r → EwM X H0 ρ e (f r)) : EwM X H0 ρ e (M.bind (M.ofO ob) f) := by
  cases ob with
  | some r => exact h r rfl
  | none => trivial
theorem ewm_ok {v : Bool} (h : EvW X H0 ρ e v) : EwM X H0 ρ e (.ok v) := h
/-- x and y, where y may be out of reach -/
theorem ewm_and {u : Bool} {m : M Bool} {rs : List Expr} (h : EvT X H0 ρ a u) (q : u = true → EwM X H0 ρ (.BoolOp .And (b :: rs) pos) m) : EwM X H0 ρ (.BoolOp .And (a :: b :: rs) pos) (if u = true then m else .ok false) := by
  cases u with
  | true =>
    rw [if_pos rfl]
    have q := q rfl
    cases m with
    | ok v => exact ew_and (k := true) h (fun _ => q)
    | ex n => exact q.elim
    | far => trivial
  | false =>
    rw [if_neg (by decide)]
    exact ew_and (k := false) (l := false) h (fun z => nomatch z)
theorem ewm_or {u : Bool} {m : M Bool} {rs : List Expr} (h : EvT X H0 ρ a u) (q : u = false → EwM X H0 ρ (.BoolOp .Or (b :: rs) pos) m) : EwM X H0 ρ (.BoolOp .Or (a :: b :: rs) pos) (if u = true then .ok true else m) := by
  cases u with
  | true =>
    rw [if_pos rfl]
    exact ew_or (k := true) (l := true) h (fun z => nomatch z)
  | false =>
    rw [if_neg (by decide)]
    have q := q rfl
    cases m with
    | ok v => exact ew_or (k := false) h (fun _ => q)
    | ex n => exact q.elim
    | far => trivial
theorem evm_and {u : Bool} {m : M Bool} {rs : List Expr} (h : Ev X H0 ρ a (.bl u)) (q : u = true → EvM X H0 ρ (.BoolOp .And (b :: rs) pos) Dat.bl m) (hx : ∀ n, m ≠ .ex n) : EvM X H0 ρ (.BoolOp .And (a :: b :: rs) pos) Dat.bl (if u = true then m else .ok false) := by
  cases u with
  | true =>
    rw [if_pos rfl]
    have q := q rfl
    cases m with
    | ok v => exact ev_andB (k := true) h (fun _ => q)
    | ex n => exact (hx n rfl).elim
    | far => trivial
  | false =>
    rw [if_neg (by decide)]
    exact ev_andB (k := false) (l := false) h (fun z => nomatch z)
theorem evm_or {u : Bool} {m : M Bool} {rs : List Expr} (h : Ev X H0 ρ a (.bl u)) (q : u = false → EvM X H0 ρ (.BoolOp .Or (b :: rs) pos) Dat.bl m) (hx : ∀ n, m ≠ .ex n) : EvM X H0 ρ (.BoolOp .Or (a :: b :: rs) pos) Dat.bl (if u = true then .ok true else m) := by
  cases u with
  | true =>
    rw [if_pos rfl]
    exact ev_orB (k := true) (l := true) h (fun z => nomatch z)
  | false =>
    rw [if_neg (by decide)]
    have q := q rfl
    cases m with
    | ok v => exact ev_orB (k := false) h (fun _ => q)
    | ex n => exact (hx n rfl).elim
    | far => trivial
theorem evm_ife {u : Bool} {m1 m2 : M α} (h : EvT X H0 ρ c u) (q1 : u = true → EvM X H0 ρ a en m1) (q2 : u = false → EvM X H0 ρ b en m2) (hx1 : ∀ n, m1 ≠ .ex n) (hx2 : ∀ n, m2 ≠ .ex n) : EvM X H0 ρ (.IfExp c a b pos) en (if u = true then m1 else m2) := by
  cases u with
  | true =>
    rw [if_pos rfl]
    have q := q1 rfl
    cases m1 with
    | ok v => exact ev_ifT h q
    | ex n => exact (hx1 n rfl).elim
    | far => trivial
  | false =>
    rw [if_neg (by decide)]
    have q := q2 rfl
    cases m2 with
    | ok v => exact ev_ifF h q
    | ex n => exact (hx2 n rfl).elim
    | far => trivial
theorem ev_ife {u : Bool} {v1 v2 : α} (h : EvT X H0 ρ c u) (q1 : Ev X H0 ρ a (en v1)) (q2 : Ev X H0 ρ b (en v2)) : Ev X H0 ρ (.IfExp c a b pos) (en (if u = true then v1 else v2)) := by
  cases u with
  | true => exact ev_ifT h q1
  | false => exact ev_ifF h q2
theorem evm_nox (h : EvM X H0 ρ e en m) : EvM X H0 ρ e en m.nox := by
  cases m with
  | ok v => exact h
  | ex n => trivial
  | far => trivial
theorem nox_ne {m : M α} : ∀ n, m.nox ≠ .ex n := fun n => by cases m <;> exact fun z => nomatch z

/-! ### blocks: what stands ahead of a statement -/
theorem xm_gd (h : g = true → ExM X H0 ρ k sts D m) : ExM X H0 ρ k sts D (M.gd g m) := by
  cases g with
  | true => exact h rfl
  | false => trivial
theorem xm_bind {mb : M β} {f : β → M α} (h : ∀ r, mb = .ok r → ExM X H0 ρ k sts D (f r)) : ExM X H0 ρ k sts D (M.bind (M.nox mb) f) := by
  cases mb with
  | ok r => exact h r rfl
  | ex _ => trivial
  | far => trivial
theorem xm_ofO {ob : Option β} {f : β → M α} (h : ∀ r, ob = some r → ExM X H0 ρ k sts D (f r)) : ExM X H0 ρ k sts D (M.bind (M.ofO ob) f) := by
  cases ob with
  | some r => exact h r rfl
  | none => trivial
theorem ex_drops : ∀ (is : List Nat) {ρ : Env'}, Exec X H0 (drops ρ is) sts o → Exec X H0 ρ sts o
  | [], _, h => h
  | i :: is, _, h => ex_drop i (ex_drops is h)
theorem xm_drops (is : List Nat) (h : ExM X H0 (drops ρ is) k sts D m) : ExM X H0 ρ k sts D m := by
  cases m with
  | ok v => exact ex_drops is h
  | ex n => exact ex_drops is h
  | far => trivial
theorem xm_freeze (i : Nat) (hi : ρ[i]? = some (.ow d)) (h : ExM X H0 (ρ.set i (.im d)) k sts D m) : ExM X H0 ρ k sts D m := by
  cases m with
  | ok v => exact ex_freeze i hi h
  | ex n => exact ex_freeze i hi h
  | far => trivial
theorem xm_env (h : ExM X H0 ρ1 k sts D m) (e : ρ = ρ1 := by rfl) : ExM X H0 ρ k sts D m := e ▸ h
theorem xm_then (h : ExS X H0 ρ st (.nx ρ1)) (t : ExM X H0 ρ1 k rest D m) : ExM X H0 ρ k (st :: rest) D m := by
  cases m with
  | ok v => exact ex_then h t
  | ex n => exact ex_then h t
  | far => trivial
theorem xm_then' {f : β → M α} {v : β} (h : ExS X H0 ρ st (.nx ρ1)) (t : ExM X H0 ρ1 k rest D (f v)) : ExM X H0 ρ k (st :: rest) D (M.lt v f) := xm_then h t
/-- a statement that raises -/
theorem ex_raises (h : ExS X H0 ρ st (.ex n ρ)) (hk : ρ.length = k) : Exec X H0 ρ (st :: rest) (.ex n (List.replicate k .no)) := ex_nos (ex_cons h rfl) hk
/-- x = f(..), which may raise -/
theorem xm_setM {eb : β → Dat} {mb : M β} {f : β → M α} (i : Nat) {x : Str} {pos' : Pos} (h : EvM X H0 ρ e eb mb) (nd : X.N.Nodup) (t : ∀ r, ExM X H0 (ρ.set i (.im (eb r))) k rest D (f r)) (hk : ρ.length = k := by rfl) (hi : X.N[i]? = some x := by rfl) (hx : Loc X.env.scope x := by first | exact Or.inl rfl | exact Or.inr rfl)
    (hs : swapsWith e (some (.Name x pos')) pos.line X.env = pure false := by rfl) (hf : X.fn x = true ∨ X.env.scope.names.lookup x = some .local := by first | exact .inl rfl | exact .inr rfl | assumption) : ExM X H0 ρ k (.Assign [.Name x pos'] e pos :: rest) D (M.bind mb f) := by
  cases mb with
  | ok r => exact xm_then (sx_set i h nd rfl hi hx hs hf) (t r)
  | ex n => exact ex_raises (sx_setX h nd hi hx hs hf) hk
  | far => trivial
theorem xm_setMO {eb : β → Dat} {mb : M β} {f : β → M α} (i : Nat) {x : Str} {pos' : Pos} (h : EoM X H0 ρ e eb mb) (nd : X.N.Nodup) (t : ∀ r, ExM X H0 (ρ.set i (.ow (eb r))) k rest D (f r)) (hk : ρ.length = k := by rfl) (hi : X.N[i]? = some x := by rfl) (hx : Loc X.env.scope x := by first | exact Or.inl rfl | exact Or.inr rfl)
    (hs : swapsWith e (some (.Name x pos')) pos.line X.env = pure false := by rfl) (hf : X.fn x = true ∨ X.env.scope.names.lookup x = some .local := by first | exact .inl rfl | exact .inr rfl | assumption) : ExM X H0 ρ k (.Assign [.Name x pos'] e pos :: rest) D (M.bind mb f) := by
  cases mb with
  | ok r => exact xm_then (sx_setO i h nd rfl hi hx hs hf) (t r)
  | ex n => exact ex_raises (sx_setX h nd hi hx hs hf) hk
  | far => trivial
theorem xm_asgM {eb : β → Dat} {mb : M β} {f : β → M α} {t : Expr} {ok : Dat → Prop} {bd : Dat → Env' → Env'} (h : EvM X H0 ρ e eb mb) (hg : Tgt X H0 t ok bd) (hok : ∀ r, ok (eb r)) (tt : ∀ r, ExM X H0 (bd (eb r) ρ) k rest D (f r)) (hk : ρ.length = k := by rfl) (hs : swapsWithSole [t] e pos.line X.env = pure false := by rfl) (hw : swappedStores [t] e X.env = pure none := by rfl)
    (h1 : (assignEach [t] X.env).map (·.2) = [assign t X.env] := by rfl) : ExM X H0 ρ k (.Assign [t] e pos :: rest) D (M.bind mb f) := by
  cases mb with
  | ok r => exact xm_then (sx_asg h hg (hok r) rfl hs hw h1) (tt r)
  | ex n => exact ex_raises (sx_asgX h hg hs hw h1) hk
  | far => trivial
theorem xm_exprM {eb : β → Dat} {mb : M β} {f : β → M α} (h : EvM X H0 ρ e eb mb) (t : ∀ r, ExM X H0 ρ k rest D (f r)) (hk : ρ.length = k := by rfl) (hs : swapsWith e none pos.line X.env = pure false := by rfl) : ExM X H0 ρ k (.Expr e pos :: rest) D (M.bind mb f) := by
  cases mb with
  | ok r => exact xm_then (sx_expr h hs) (t r)
  | ex n => exact ex_raises (sx_exprX h hs) hk
  | far => trivial
/-! ### returns -/
theorem xm_ret {v : α} (h : Ev X H0 ρ e d) (hD : D v = .rt d := by rfl) : ExM X H0 ρ k (.Return (some e) pos :: rest) D (.ok v) := by
  show Exec X H0 ρ _ (D v)
  rw [hD]
  exact ex_cons (sx_ret h) rfl
theorem sx_retO (h : EvO X H0 ρ e d) : ExS X H0 ρ (.Return (some e) pos) (.ro d) := fun Dd σ H N r q => ws_of (ps_ret pe_w) ((h σ H N r).imp fun v H' ⟨N', p, e1, hp, s, n, r', np, ow⟩ => by
  subst e1
  exact q p H' N' r'.old (n.trans r'.sub) r'.sub r'.fresh (r.old.free hp) np ow)
theorem sx_retOw (i : Nat) (h : ρ[i]? = some (.ow d)) (hN : X.N[i]? = some x := by rfl) (hv : Vis X.env.scope x := by first | exact Or.inl rfl | exact Or.inr (Or.inl rfl) | exact Or.inr (Or.inr rfl)) (hd : (x == ("__debug__" : Str)) = false := by decide)
    (hcd : (x == ("__classdict__" : Str)) = false := by decide) {pos'} : ExS X H0 ρ (.Return (some (.Name x pos')) pos) (.ro d) := fun Dd σ H N r q => ws_of (ps_ret (pv i hN hv hd hcd))
  (let ⟨p, h1, h2, h3, h4⟩ := r.ow i d h; ⟨.ref p, h1, q p H N r.old r.sub r.sub r.fresh h2 h3 h4⟩)
theorem xm_retO {v : α} (h : EvO X H0 ρ e d) (hD : D v = .ro d := by rfl) : ExM X H0 ρ k (.Return (some e) pos :: rest) D (.ok v) := by
  show Exec X H0 ρ _ (D v)
  rw [hD]
  exact ex_cons (sx_retO h) rfl
theorem xm_retOw {v : α} (i : Nat) (h : ρ[i]? = some (.ow d)) (hD : D v = .ro d := by rfl) (hN : X.N[i]? = some x := by rfl) (hv : Vis X.env.scope x := by first | exact Or.inl rfl | exact Or.inr (Or.inl rfl) | exact Or.inr (Or.inr rfl)) (hd : (x == ("__debug__" : Str)) = false := by decide)
    (hcd : (x == ("__classdict__" : Str)) = false := by decide) {pos'} : ExM X H0 ρ k (.Return (some (.Name x pos')) pos :: rest) D (.ok v) := by
  show Exec X H0 ρ _ (D v)
  rw [hD]
  exact ex_cons (sx_retOw i h hN hv hd hcd) rfl
theorem xm_retM {eb : β → Dat} {mb : M β} {f : β → α} (h : EvM X H0 ρ e eb mb) (hD : ∀ r, D (f r) = .rt (eb r) := by intro _; rfl) (hk : ρ.length = k := by rfl) : ExM X H0 ρ k (.Return (some e) pos :: rest) D (M.bind mb fun r => .ok (f r)) := by
  cases mb with
  | ok r => exact xm_ret h (hD r)
  | ex n => exact ex_raises (sx_retX h) hk
  | far => trivial
theorem xm_retMO {eb : β → Dat} {mb : M β} {f : β → α} (h : EoM X H0 ρ e eb mb) (hD : ∀ r, D (f r) = .ro (eb r) := by intro _; rfl) (hk : ρ.length = k := by rfl) : ExM X H0 ρ k (.Return (some e) pos :: rest) D (M.bind mb fun r => .ok (f r)) := by
  cases mb with
  | ok r => exact xm_retO h (hD r)
  | ex n => exact ex_raises (sx_retX h) hk
  | far => trivial
theorem xm_raise {mm : Str} {j : Nat} {p p2 pos pos2 : Pos} (T : Exc X.K X.mg n) (hc : X.calm = true) (hk : ρ.length = k := by rfl) (hg : Gl X n := by rfl) (hdb : (n == ("__debug__" : Str)) = false := by decide) : ExM X H0 ρ k (.Raise (some (.Call (.Name n p) [.Constant (.str mm) j p2] [] pos)) none pos2 :: rest) D (.ex n) :=
  ex_raises (sx_raise T hc hg hdb) hk
/-! ### ends of a block -/
theorem xm_end {v : α} (is : List Nat) (hD : D v = .nx (drops ρ is) := by rfl) : ExM X H0 ρ k [] D (.ok v) := by
  show Exec X H0 ρ [] (D v)
  rw [hD]
  exact ex_drops is ex_nil
theorem xm_brk {v : α} (is : List Nat) (hD : D v = .bk (drops ρ is) := by rfl) : ExM X H0 ρ k (.Break pos :: rest) D (.ok v) := by
  show Exec X H0 ρ _ (D v)
  rw [hD]
  exact ex_drops is (ex_cons sx_break rfl)
theorem xm_cnt {v : α} (is : List Nat) (hD : D v = .ct (drops ρ is) := by rfl) : ExM X H0 ρ k (.Continue pos :: rest) D (.ok v) := by
  show Exec X H0 ρ _ (D v)
  rw [hD]
  exact ex_drops is (ex_cons sx_continue rfl)
/-! ### if -/
theorem out_cons {o : Outc} (h : ExS X H0 ρ st o) (ho : o.out) : Exec X H0 ρ (st :: rest) o := ex_out h ho
/-- the first way leaves the def -/
theorem xm_ifX {m2 : M α} (hD : ∀ v, (D v).out) (hc : EvT X H0 ρ c g) (h1 : g = true → ExM X H0 ρ k as D m) (h2 : g = false → ExM X H0 ρ k rest D m2) : ExM X H0 ρ k (.If c as [] pos :: rest) D (if g = true then m else m2) := by
  cases g with
  | true =>
    rw [if_pos rfl]
    have h1 := h1 rfl
    cases m with
    | ok v => exact ex_out (sx_ifT hc h1) (hD v)
    | ex n => exact ex_out (sx_ifT hc h1) trivial
    | far => trivial
  | false =>
    rw [if_neg (by decide)]
    exact xm_then (sx_skip hc) (h2 rfl)
/-- both leave it -/
theorem xm_ifXX {m2 : M α} (hD : ∀ v, (D v).out) (hc : EvT X H0 ρ c g) (h1 : g = true → ExM X H0 ρ k as D m) (h2 : g = false → ExM X H0 ρ k bs D m2) : ExM X H0 ρ k (.If c as bs pos :: rest) D (if g = true then m else m2) := by
  cases g with
  | true =>
    rw [if_pos rfl]
    have h1 := h1 rfl
    cases m with
    | ok v => exact ex_out (sx_ifT hc h1) (hD v)
    | ex n => exact ex_out (sx_ifT hc h1) trivial
    | far => trivial
  | false =>
    rw [if_neg (by decide)]
    have h2 := h2 rfl
    cases m2 with
    | ok v => exact ex_out (sx_ifF hc h2) (hD v)
    | ex n => exact ex_out (sx_ifF hc h2) trivial
    | far => trivial
/-- both fall through -/
theorem xm_ifN {eS : S → Env'} {m1 m2 : M S} {f : S → M α} (hc : EvT X H0 ρ c g) (h1 : g = true → ExM X H0 ρ k as (fun s => .nx (eS s)) m1) (h2 : g = false → ExM X H0 ρ k bs (fun s => .nx (eS s)) m2) (t : ∀ s, ExM X H0 (eS s) k rest D (f s)) : ExM X H0 ρ k (.If c as bs pos :: rest) D (M.bind (if g = true then m1 else m2) f) := by
  cases g with
  | true =>
    rw [if_pos rfl]
    have h1 := h1 rfl
    cases m1 with
    | ok v => exact xm_then (sx_ifT hc h1) (t v)
    | ex n => exact ex_out (sx_ifT hc h1) trivial
    | far => trivial
  | false =>
    rw [if_neg (by decide)]
    have h2 := h2 rfl
    cases m2 with
    | ok v => exact xm_then (sx_ifF hc h2) (t v)
    | ex n => exact ex_out (sx_ifF hc h2) trivial
    | far => trivial
theorem ex_flow {eS : S → Env'} {eL : L → Env'} {oR : R → Outc} {eS' : S' → Env'} {mf : M (Fl S L R)} {f : S → M (Fl S' L R)} (hR : ∀ r, (oR r).out) (h : ExSM X H0 ρ k st (Fl.D eS eL oR) mf) (t : ∀ s, ExM X H0 (eS s) k rest (Fl.D eS' eL oR) (f s)) : ExM X H0 ρ k (st :: rest) (Fl.D eS' eL oR) (M.seq mf f) := by
  cases mf with
  | ok v =>
    cases v with
    | nx s => exact xm_then h (t s)
    | ct s => exact ex_cons h rfl
    | bk s => exact ex_cons h rfl
    | rt r => exact ex_out h (hR r)
  | ex n => exact ex_cons h rfl
  | far => trivial
theorem ex_flowT {eS : S → Env'} {eL : L → Env'} {oR : R → Outc} {mf : M (Fl S L R)} {f : S → M R} (hR : ∀ r, (oR r).out) (h : ExSM X H0 ρ k st (Fl.D eS eL oR) mf) (t : ∀ s, ExM X H0 (eS s) k rest oR (f s)) : ExM X H0 ρ k (st :: rest) oR (M.seqT mf f) := by
  cases mf with
  | ok v =>
    cases v with
    | nx s => exact xm_then h (t s)
    | ct s => trivial
    | bk s => trivial
    | rt r => exact ex_out h (hR r)
  | ex n => exact ex_cons h rfl
  | far => trivial
theorem sx_ifM {D : β → Outc} {m1 m2 : M β} (hc : EvT X H0 ρ c g) (h1 : g = true → ExM X H0 ρ k as D m1) (h2 : g = false → ExM X H0 ρ k bs D m2) : ExSM X H0 ρ k (.If c as bs pos) D (if g = true then m1 else m2) := by
  cases g with
  | true =>
    rw [if_pos rfl]
    have h1 := h1 rfl
    cases m1 with
    | ok v => exact sx_ifT hc h1
    | ex n => exact sx_ifT hc h1
    | far => trivial
  | false =>
    rw [if_neg (by decide)]
    have h2 := h2 rfl
    cases m2 with
    | ok v => exact sx_ifF hc h2
    | ex n => exact sx_ifF hc h2
    | far => trivial
theorem xm_ifJ {eS : S → Env'} {eL : L → Env'} {oR : R → Outc} {eS' : S' → Env'} {m1 m2 : M (Fl S L R)} {f : S → M (Fl S' L R)} (hR : ∀ r, (oR r).out) (hc : EvT X H0 ρ c g) (h1 : g = true → ExM X H0 ρ k as (Fl.D eS eL oR) m1) (h2 : g = false → ExM X H0 ρ k bs (Fl.D eS eL oR) m2) (t : ∀ s, ExM X H0 (eS s) k rest (Fl.D eS' eL oR) (f s)) :
    ExM X H0 ρ k (.If c as bs pos :: rest) (Fl.D eS' eL oR) (M.seq (if g = true then m1 else m2) f) := ex_flow hR (sx_ifM hc h1 h2) t
theorem xm_ifJT {eS : S → Env'} {eL : L → Env'} {oR : R → Outc} {m1 m2 : M (Fl S L R)} {f : S → M R} (hR : ∀ r, (oR r).out) (hc : EvT X H0 ρ c g) (h1 : g = true → ExM X H0 ρ k as (Fl.D eS eL oR) m1) (h2 : g = false → ExM X H0 ρ k bs (Fl.D eS eL oR) m2) (t : ∀ s, ExM X H0 (eS s) k rest oR (f s)) :
    ExM X H0 ρ k (.If c as bs pos :: rest) oR (M.seqT (if g = true then m1 else m2) f) := ex_flowT hR (sx_ifM hc h1 h2) t
/-! ### for -/
section
variable {ea : β → Dat} {t iter : Expr} {bd : Dat → Env' → Env'} {ok : Dat → Prop}
theorem forM_T {eS : S → Env'} {f : β → S → M S} (hb : ∀ x s, ExM X H0 (bd (ea x) (eS s)) k body (fun s => .nx (eS s)) (f x s)) : ∀ (xs : List β) (s : S), match forM f xs s with | .ok s' => ForT X H0 bd body (xs.map ea) (eS s) (.nx (eS s')) | .ex n => ForT X H0 bd body (xs.map ea) (eS s) (.ex n (List.replicate k .no)) | .far => True
  | [], s => .nil
  | x :: xs, s => by
    have h := hb x s
    show match (f x s).bind fun s' => forM f xs s' with | .ok s' => _ | .ex n => _ | .far => True
    cases e : f x s with
    | ok s1 =>
      rw [e] at h
      have ih := forM_T hb xs s1
      show match forM f xs s1 with | .ok s' => _ | .ex n => _ | .far => True
      cases e2 : forM f xs s1 with
      | ok s2 => rw [e2] at ih; exact .turn h ih
      | ex n => rw [e2] at ih; exact .turn h ih
      | far => trivial
    | ex n => rw [e] at h; exact .exc h
    | far => trivial
theorem forF_T {eS : S → Env'} {eL : L → Env'} {oR : R → Outc} {f : β → S → M (Fl S S R)} (hR : ∀ r, ∃ d, oR r = .rt d ∨ oR r = .ro d) (hb : ∀ x s, ExM X H0 (bd (ea x) (eS s)) k body (Fl.D eS eS oR) (f x s)) : ∀ (xs : List β) (s : S), match (forF f xs s : M (Fl S L R)) with | .ok v => ForT X H0 bd body (xs.map ea) (eS s) (Fl.D eS eL oR v) | .ex n => ForT X H0 bd body (xs.map ea) (eS s) (.ex n (List.replicate k .no)) | .far => True
  | [], s => .nil
  | x :: xs, s => by
    have h := hb x s
    unfold forF
    cases e : f x s with
    | ok v =>
      rw [e] at h
      cases v with
      | nx s1 =>
        have ih := forF_T (eL := eL) hR hb xs s1
        show match (forF f xs s1 : M (Fl S L R)) with | .ok v => _ | .ex n => _ | .far => True
        cases e2 : (forF f xs s1 : M (Fl S L R)) with
        | ok s2 => rw [e2] at ih; exact .turn h ih
        | ex n => rw [e2] at ih; exact .turn h ih
        | far => trivial
      | ct s1 =>
        have ih := forF_T (eL := eL) hR hb xs s1
        show match (forF f xs s1 : M (Fl S L R)) with | .ok v => _ | .ex n => _ | .far => True
        cases e2 : (forF f xs s1 : M (Fl S L R)) with
        | ok s2 => rw [e2] at ih; exact .turnC h ih
        | ex n => rw [e2] at ih; exact .turnC h ih
        | far => trivial
      | bk s1 => exact .brk h
      | rt r =>
        have h : Exec X H0 (bd (ea x) (eS s)) body (oR r) := h
        show ForT X H0 bd body ((x :: xs).map ea) (eS s) (oR r)
        obtain ⟨d, q | q⟩ := hR r
        · rw [q] at h ⊢; exact .ret h
        · rw [q] at h ⊢; exact .retO h
    | ex n => rw [e] at h; exact .exc h
    | far => trivial
theorem xm_for {eS : S → Env'} {xs : List β} {s0 : S} {f : β → S → M S} {fk : S → M α} (hp : PassesOwn (model X.prog X.w) X.A X.env X.xe) (hc : X.calm = true) (hi : Iter X H0 ρ t iter (xs.map ea)) (hg : Tgt X H0 t ok bd) (hok : ∀ d ∈ xs.map ea, ok d) (h0 : ρ = eS s0) (hb : ∀ x s, ExM X H0 (bd (ea x) (eS s)) k body (fun s => .nx (eS s)) (f x s)) (tt : ∀ s, ExM X H0 (eS s) k rest D (fk s))
    (hs : ∀ x, foldedSetIterable iter X.env x = pure x := by intro _; rfl) : ExM X H0 ρ k (.For t iter body [] pos :: rest) D (M.bind (forM f xs s0) fk) := by
  have h := forM_T hb xs s0
  cases e : forM f xs s0 with
  | ok s =>
    rw [e] at h
    exact xm_then (sx_for hp hc hi hg hok (h0 ▸ h) hs) (tt s)
  | ex n =>
    rw [e] at h
    exact ex_out (o := .ex n (List.replicate k .no)) (sx_for hp hc hi hg hok (h0 ▸ h) hs) trivial
  | far => trivial
theorem sx_forM {eS : S → Env'} {eL : L → Env'} {oR : R → Outc} {xs : List β} {s0 : S} {f : β → S → M (Fl S S R)} (hR : ∀ r, ∃ d, oR r = .rt d ∨ oR r = .ro d) (hp : PassesOwn (model X.prog X.w) X.A X.env X.xe) (hc : X.calm = true) (hi : Iter X H0 ρ t iter (xs.map ea)) (hg : Tgt X H0 t ok bd) (hok : ∀ d ∈ xs.map ea, ok d) (h0 : ρ = eS s0) (hb : ∀ x s, ExM X H0 (bd (ea x) (eS s)) k body (Fl.D eS eS oR) (f x s))
    (hs : ∀ x, foldedSetIterable iter X.env x = pure x := by intro _; rfl) : ExSM X H0 ρ k (.For t iter body [] pos) (Fl.D eS eL oR) (forF f xs s0 : M (Fl S L R)) := by
  have h := forF_T (eL := eL) hR hb xs s0
  cases e : (forF f xs s0 : M (Fl S L R)) with
  | ok s => rw [e] at h; exact sx_for hp hc hi hg hok (h0 ▸ h) hs
  | ex n => rw [e] at h; exact sx_for hp hc hi hg hok (h0 ▸ h) hs
  | far => trivial
theorem out_of {o : Outc} (h : ∃ d, o = .rt d ∨ o = .ro d) : o.out := by
  obtain ⟨d, q | q⟩ := h <;> (rw [q]; trivial)
theorem xm_forJ {eS : S → Env'} {eL : L → Env'} {eS' : S' → Env'} {oR : R → Outc} {xs : List β} {s0 : S} {f : β → S → M (Fl S S R)} {fk : S → M (Fl S' L R)} (hR : ∀ r, ∃ d, oR r = .rt d ∨ oR r = .ro d) (hp : PassesOwn (model X.prog X.w) X.A X.env X.xe) (hc : X.calm = true) (hi : Iter X H0 ρ t iter (xs.map ea)) (hg : Tgt X H0 t ok bd) (hok : ∀ d ∈ xs.map ea, ok d) (h0 : ρ = eS s0) (hb : ∀ x s, ExM X H0 (bd (ea x) (eS s)) k body (Fl.D eS eS oR) (f x s)) (tt : ∀ s, ExM X H0 (eS s) k rest (Fl.D eS' eL oR) (fk s))
    (hs : ∀ x, foldedSetIterable iter X.env x = pure x := by intro _; rfl) : ExM X H0 ρ k (.For t iter body [] pos :: rest) (Fl.D eS' eL oR) (M.seq (forF f xs s0) fk) := ex_flow (fun r => out_of (hR r)) (sx_forM hR hp hc hi hg hok h0 hb hs) tt
theorem xm_forJT {eS : S → Env'} {oR : R → Outc} {xs : List β} {s0 : S} {f : β → S → M (Fl S S R)} {fk : S → M R} (hR : ∀ r, ∃ d, oR r = .rt d ∨ oR r = .ro d) (hp : PassesOwn (model X.prog X.w) X.A X.env X.xe) (hc : X.calm = true) (hi : Iter X H0 ρ t iter (xs.map ea)) (hg : Tgt X H0 t ok bd) (hok : ∀ d ∈ xs.map ea, ok d) (h0 : ρ = eS s0) (hb : ∀ x s, ExM X H0 (bd (ea x) (eS s)) k body (Fl.D eS eS oR) (f x s)) (tt : ∀ s, ExM X H0 (eS s) k rest oR (fk s))
    (hs : ∀ x, foldedSetIterable iter X.env x = pure x := by intro _; rfl) : ExM X H0 ρ k (.For t iter body [] pos :: rest) oR (M.seqT (forF f xs s0 : M (Fl S S R)) fk) := ex_flowT (eL := eS) (fun r => out_of (hR r)) (sx_forM hR hp hc hi hg hok h0 hb hs) tt
end
/-! ### while -/
theorem whileM_T {eS : S → Env'} {cm : S → M Bool} {f : S → M S} (hc : ∀ s, EtM X H0 (eS s) c (cm s)) (hb : ∀ s, ExM X H0 (eS s) k body (fun s => .nx (eS s)) (f s)) : ∀ (q : Nat) (s : S), match whileM cm f q s with | .ok s' => WhileT X H0 c body (eS s) (.nx (eS s')) | .ex n => WhileT X H0 c body (eS s) (.ex n (List.replicate k .no)) | .far => True
  | 0, s => trivial
  | q + 1, s => by
    have h := hb s
    have hc1 := hc s
    unfold whileM
    cases ec : cm s with
    | ok u =>
      rw [ec] at hc1
      cases u with
      | false => exact .done hc1
      | true =>
        show match (f s).bind fun s' => whileM cm f q s' with | .ok s' => _ | .ex n => _ | .far => True
        cases e : f s with
        | ok s1 =>
          rw [e] at h
          have ih := whileM_T hc hb q s1
          show match whileM cm f q s1 with | .ok s' => _ | .ex n => _ | .far => True
          cases e2 : whileM cm f q s1 with
          | ok s2 => rw [e2] at ih; exact .turn hc1 h ih
          | ex n => rw [e2] at ih; exact .turn hc1 h ih
          | far => trivial
        | ex n => rw [e] at h; exact .exc hc1 h
        | far => trivial
    | ex n => rw [ec] at hc1; exact hc1.elim
    | far => trivial
theorem whileF_T {eS : S → Env'} {eL : L → Env'} {oR : R → Outc} {cm : S → M Bool} {f : S → M (Fl S S R)} (hR : ∀ r, ∃ d, oR r = .rt d ∨ oR r = .ro d) (hc : ∀ s, EtM X H0 (eS s) c (cm s)) (hb : ∀ s, ExM X H0 (eS s) k body (Fl.D eS eS oR) (f s)) : ∀ (q : Nat) (s : S), match (whileF cm f q s : M (Fl S L R)) with | .ok v => WhileT X H0 c body (eS s) (Fl.D eS eL oR v) | .ex n => WhileT X H0 c body (eS s) (.ex n (List.replicate k .no)) | .far => True
  | 0, s => trivial
  | q + 1, s => by
    have h := hb s
    have hc1 := hc s
    unfold whileF
    cases ec : cm s with
    | ok u =>
      rw [ec] at hc1
      cases u with
      | false => exact .done hc1
      | true =>
        show match (match f s with | .ok (.nx s') => whileF cm f q s' | .ok (.ct s') => whileF cm f q s' | .ok (.bk s') => .ok (.nx s') | .ok (.rt r) => .ok (.rt r) | .ex n => .ex n | .far => .far : M (Fl S L R)) with | .ok v => _ | .ex n => _ | .far => True
        cases e : f s with
        | ok v =>
          rw [e] at h
          cases v with
          | nx s1 =>
            have ih := whileF_T (eL := eL) hR hc hb q s1
            show match (whileF cm f q s1 : M (Fl S L R)) with | .ok v => _ | .ex n => _ | .far => True
            cases e2 : (whileF cm f q s1 : M (Fl S L R)) with
            | ok s2 => rw [e2] at ih; exact .turn hc1 h ih
            | ex n => rw [e2] at ih; exact .turn hc1 h ih
            | far => trivial
          | ct s1 =>
            have ih := whileF_T (eL := eL) hR hc hb q s1
            show match (whileF cm f q s1 : M (Fl S L R)) with | .ok v => _ | .ex n => _ | .far => True
            cases e2 : (whileF cm f q s1 : M (Fl S L R)) with
            | ok s2 => rw [e2] at ih; exact .turnC hc1 h ih
            | ex n => rw [e2] at ih; exact .turnC hc1 h ih
            | far => trivial
          | bk s1 => exact .brk hc1 h
          | rt r =>
            have h : Exec X H0 (eS s) body (oR r) := h
            show WhileT X H0 c body (eS s) (oR r)
            obtain ⟨d, q | q⟩ := hR r
            · rw [q] at h ⊢; exact .ret hc1 h
            · rw [q] at h ⊢; exact .retO hc1 h
        | ex n => rw [e] at h; exact .exc hc1 h
        | far => trivial
    | ex n => rw [ec] at hc1; exact hc1.elim
    | far => trivial
theorem xm_while {eS : S → Env'} {s0 : S} {cm : S → M Bool} {f : S → M S} {fk : S → M α} {fuel : Nat} (hp : PassesOwn (model X.prog X.w) X.A X.env X.xe) (h0 : ρ = eS s0) (hc : ∀ s, EtM X H0 (eS s) c (cm s)) (hb : ∀ s, ExM X H0 (eS s) k body (fun s => .nx (eS s)) (f s)) (tt : ∀ s, ExM X H0 (eS s) k rest D (fk s)) : ExM X H0 ρ k (.While c body [] pos :: rest) D (M.bind (whileM cm f fuel s0) fk) := by
  have h := whileM_T hc hb fuel s0
  cases e : whileM cm f fuel s0 with
  | ok s => rw [e] at h; exact xm_then (sx_while hp (h0 ▸ h)) (tt s)
  | ex n => rw [e] at h; exact ex_out (o := .ex n (List.replicate k .no)) (sx_while hp (h0 ▸ h)) trivial
  | far => trivial
theorem sx_whileM {eS : S → Env'} {eL : L → Env'} {oR : R → Outc} {s0 : S} {cm : S → M Bool} {f : S → M (Fl S S R)} {fuel : Nat} (hR : ∀ r, ∃ d, oR r = .rt d ∨ oR r = .ro d) (hp : PassesOwn (model X.prog X.w) X.A X.env X.xe) (h0 : ρ = eS s0) (hc : ∀ s, EtM X H0 (eS s) c (cm s)) (hb : ∀ s, ExM X H0 (eS s) k body (Fl.D eS eS oR) (f s)) :
    ExSM X H0 ρ k (.While c body [] pos) (Fl.D eS eL oR) (whileF cm f fuel s0 : M (Fl S L R)) := by
  have h := whileF_T (eL := eL) hR hc hb fuel s0
  cases e : (whileF cm f fuel s0 : M (Fl S L R)) with
  | ok s => rw [e] at h; exact sx_while hp (h0 ▸ h)
  | ex n => rw [e] at h; exact sx_while hp (h0 ▸ h)
  | far => trivial
theorem xm_whileJ {eS : S → Env'} {eL : L → Env'} {eS' : S' → Env'} {oR : R → Outc} {s0 : S} {cm : S → M Bool} {f : S → M (Fl S S R)} {fk : S → M (Fl S' L R)} {fuel : Nat} (hR : ∀ r, ∃ d, oR r = .rt d ∨ oR r = .ro d) (hp : PassesOwn (model X.prog X.w) X.A X.env X.xe) (h0 : ρ = eS s0) (hc : ∀ s, EtM X H0 (eS s) c (cm s)) (hb : ∀ s, ExM X H0 (eS s) k body (Fl.D eS eS oR) (f s)) (tt : ∀ s, ExM X H0 (eS s) k rest (Fl.D eS' eL oR) (fk s)) :
    ExM X H0 ρ k (.While c body [] pos :: rest) (Fl.D eS' eL oR) (M.seq (whileF cm f fuel s0) fk) := ex_flow (fun r => out_of (hR r)) (sx_whileM hR hp h0 hc hb) tt
theorem xm_whileJT {eS : S → Env'} {oR : R → Outc} {s0 : S} {cm : S → M Bool} {f : S → M (Fl S S R)} {fk : S → M R} {fuel : Nat} (hR : ∀ r, ∃ d, oR r = .rt d ∨ oR r = .ro d) (hp : PassesOwn (model X.prog X.w) X.A X.env X.xe) (h0 : ρ = eS s0) (hc : ∀ s, EtM X H0 (eS s) c (cm s)) (hb : ∀ s, ExM X H0 (eS s) k body (Fl.D eS eS oR) (f s)) (tt : ∀ s, ExM X H0 (eS s) k rest oR (fk s)) :
    ExM X H0 ρ k (.While c body [] pos :: rest) oR (M.seqT (whileF cm f fuel s0 : M (Fl S S R)) fk) := ex_flowT (eL := eS) (fun r => out_of (hR r)) (sx_whileM hR hp h0 hc hb) tt
/-! ### calls -/
theorem evm_call {R : List Dat → Res → Prop} {kk : Nat} (G : GFn X.prog X.w X.K X.mg X.base x kk R) (hr : Room kk X.A) (ha : EvAB X H0 ρ (e :: es) ds) (q : ∀ o, Rm en m o → R ds o) (hg : Gl X x := by rfl) (hdb : (x == ("__debug__" : Str)) = false := by decide)
    (he : starEach (e :: es) X.env = (false, eval e X.env) :: starEach es X.env := by rfl) (hpl : (backTo pos (starEach es X.env)).any (·.1) = false := by rfl) : EvM X H0 ρ (.Call (.Name x p) (e :: es) [] pos) en m := by
  cases m with
  | ok v => exact ev_call G hr ha (q _ rfl) hg hdb he hpl
  | ex n => exact exc_call G hr ha (q _ rfl) hg hdb he hpl
  | far => trivial
theorem eom_call {R : List Dat → Res → Prop} {kk : Nat} (G : GFn X.prog X.w X.K X.mg X.base x kk R) (hr : Room kk X.A) (ha : EvAB X H0 ρ (e :: es) ds) (q : ∀ o, RmO en m o → R ds o) (hg : Gl X x := by rfl) (hdb : (x == ("__debug__" : Str)) = false := by decide)
    (he : starEach (e :: es) X.env = (false, eval e X.env) :: starEach es X.env := by rfl) (hpl : (backTo pos (starEach es X.env)).any (·.1) = false := by rfl) : EoM X H0 ρ (.Call (.Name x p) (e :: es) [] pos) en m := by
  cases m with
  | ok v => exact eo_call G hr ha (q _ rfl) hg hdb he hpl
  | ex n => exact exc_call G hr ha (q _ rfl) hg hdb he hpl
  | far => trivial
/-! ### defs -/
theorem ends_m (h : ExM X H0 ρ k sts (fun r => .rt (en r)) m) : ∀ o, Rm en m o → Ends' X H0 ρ sts o := fun o q => by
  cases m with
  | ok v => cases (show o = _ from q); exact .ret h
  | ex n => cases (show o = _ from q); exact .exc h
  | far => exact (show False from q).elim
theorem ends_mO (h : ExM X H0 ρ k sts (fun r => .ro (en r)) m) : ∀ o, RmO en m o → Ends' X H0 ρ sts o := fun o q => by
  cases m with
  | ok v => cases (show o = _ from q); exact .own h
  | ex n => cases (show o = _ from q); exact .exc h
  | far => exact (show False from q).elim
/-- a def without a return -/
theorem ends_mN {m : M Unit} {ρ1 : Env'} (h : ExM X H0 ρ k sts (fun _ => .nx ρ1) m) : ∀ o, Rm (fun _ : Unit => Dat.non) m o → Ends' X H0 ρ sts o := fun o q => by
  cases m with
  | ok v => cases (show o = _ from q); exact .non h
  | ex n => cases (show o = _ from q); exact .exc h
  | far => exact (show False from q).elim
end
section
variable {P : Program} {w : World} {K : PySem.W.Frag} {mg : Str → Option Value} {base : Heap} {x : Str} {st : Stmt} {ps N : List Str} {k : Nat} {R : List Dat → Res → Prop} {f : Addr} {fd : FuncData}
/-- THE RULE for a def -/
theorem fn_mk2 (F : Fun K x x st f fd) (S : FnScope N ps (defScope st)) (hl : ∀ ds o, R ds o → ds.length = ps.length)
    (body : ∀ (f : Addr) (cdv : Value) (A : Around) (outer : List PySem.Env) (s : Shared) (H : Hp) (E : XK), Room k (XX P w K mg base N x st f cdv A outer s H E).A → ∀ ds o, R ds o → ∃ es, Ents es ds ∧ ∀ H0, Ends' (XX P w K mg base N x st f cdv A outer s H E) H0 (es ++ List.replicate (N.length - ps.length) .no) (defBody st) o) : FnOk P w K mg base (L2.CX P w) (k + 1) f fd ps (spR K mg R) := by
  refine F.okX S (fun vs H Q E ⟨ds, o, hr, a, _⟩ => by rw [a.length]; exact hl ds o hr) fun cdv A outer s H vs Q E hr hsp => ?_
  obtain ⟨ds, o, hR, a, q⟩ := hsp
  obtain ⟨es, he, hbody⟩ := body f cdv A outer s H E hr ds o hR
  have hlen : vs.length = ps.length := by rw [a.length]; exact hl ds o hR
  have r : Rep K H (es ++ List.replicate (N.length - ps.length) .no) (L2.start N vs) H (Imm H) := hlen ▸ rep_start he a
  have hb := hbody H
  refine ⟨_, pb_w, ?_⟩
  cases hb with
  | ret h => exact h { nx := fun _ H' => Q .non H', rt := Q } _ _ _ r fun v H' s _ rt => q v H' s rt
  | non h => exact h { nx := fun _ H' => Q .non H', rt := Q } _ _ _ r fun σ H' N' s r' => q .non H' r'.old ⟨N', r'.sub, r'.fresh, .non⟩
  | own h => exact h { nx := fun _ H' => Q .non H', rt := Q } _ _ _ r fun p H' N' s1 _ s2 s3 s4 s5 s6 => q p H' N' s1 s2 s3 s4 s5 s6
  | exc h => exact h { nx := fun _ H' => Q .non H', rt := Q } _ _ _ r ⟨_, takes_of rfl rfl rfl rfl, fun C σ H' N' hm s r' => q C H' hm r'.old⟩
theorem GFn.mk2 (D : Df K mg x st ps) (S : FnScope N ps (defScope st)) (hl : ∀ ds o, R ds o → ds.length = ps.length)
    (body : ∀ (f : Addr) (cdv : Value) (A : Around) (outer : List PySem.Env) (s : Shared) (H : Hp) (E : XK), Room k (XX P w K mg base N x st f cdv A outer s H E).A → ∀ ds o, R ds o → ∃ es, Ents es ds ∧ ∀ H0, Ends' (XX P w K mg base N x st f cdv A outer s H E) H0 (es ++ List.replicate (N.length - ps.length) .no) (defBody st) o) : GFn P w K mg base x (k + 1) R := by
  obtain ⟨f, fd, F, hm, hb⟩ := D
  exact ⟨f, fd, ps, fn_mk2 F S hl body, hm, F.kp, hb⟩
end
end B

namespace B
open PySem PySem.Spec PyProof.Rows L2
/-! ### kinds of values -/
abbrev chd (c : Nat) : Dat := tx [c]
abbrev nond (_ : Unit) : Dat := .non
abbrev idd (d : Dat) : Dat := d
section
variable {α β γ δ : Type}
abbrev lstd (e : α → Dat) (l : List α) : Dat := .lst (l.map e)
abbrev tpnd (e : α → Dat) (l : List α) : Dat := .tup (l.map e)
abbrev tup1 (ea : α → Dat) (p : α) : Dat := .tup [ea p]
abbrev tup2 (ea : α → Dat) (eb : β → Dat) (p : α × β) : Dat := .tup [ea p.1, eb p.2]
abbrev tup3 (ea : α → Dat) (eb : β → Dat) (ec : γ → Dat) (p : α × β × γ) : Dat := .tup [ea p.1, eb p.2.1, ec p.2.2]
abbrev tup4 (ea : α → Dat) (eb : β → Dat) (ec : γ → Dat) (ed : δ → Dat) (p : α × β × γ × δ) : Dat := .tup [ea p.1, eb p.2.1, ec p.2.2.1, ed p.2.2.2]
abbrev optd (e : α → Dat) : Option α → Dat
  | none => .non
  | some a => e a
abbrev dicd (e : α → Dat) (l : List (List Nat × α)) : Dat := .dic (l.map fun p => (Sum.inr (SX.S p.1), e p.2))
theorem flats_map {e : α → Dat} (h : ∀ a, flat (e a) = true) (l : List α) : flats (l.map e) = true := by
  induction l with
  | nil => rfl
  | cons a l ih => show (flat (e a) && flats (l.map e)) = true; rw [h a, ih]; rfl
theorem flat_tup1 {ea : α → Dat} (h1 : ∀ a, flat (ea a) = true) : ∀ p, flat (tup1 ea p) = true := fun p => by
  show (flat (ea p) && true) = true; rw [h1]; rfl
theorem flat_tup2 {ea : α → Dat} {eb : β → Dat} (h1 : ∀ a, flat (ea a) = true) (h2 : ∀ a, flat (eb a) = true) : ∀ p, flat (tup2 ea eb p) = true := fun p => by
  show (flat (ea p.1) && (flat (eb p.2) && true)) = true; rw [h1, h2]; rfl
theorem flat_tup3 {ea : α → Dat} {eb : β → Dat} {ec : γ → Dat} (h1 : ∀ a, flat (ea a) = true) (h2 : ∀ a, flat (eb a) = true) (h3 : ∀ a, flat (ec a) = true) : ∀ p, flat (tup3 ea eb ec p) = true := fun p => by
  show (flat (ea p.1) && (flat (eb p.2.1) && (flat (ec p.2.2) && true))) = true; rw [h1, h2, h3]; rfl
theorem flat_tpn {e : α → Dat} (h : ∀ a, flat (e a) = true) : ∀ l, flat (tpnd e l) = true := fun l => by
  show flats (l.map e) = true; exact flats_map h l
theorem cutm (f : α → β) (l : List α) (lo hi : Option Int) : cut (l.map f) lo hi = (cut l lo hi).map f := by
  unfold cut
  rw [List.length_map, List.map_take, List.map_drop]
theorem atIm (f : α → β) (l : List α) (i : Int) {r : α} (h : atI l i = some r) : atI (l.map f) i = some (f r) := by
  unfold atI at h ⊢
  rw [List.length_map]
  cases e : ixN l.length i with
  | none => rw [e] at h; cases h
  | some j =>
    rw [e] at h
    show (l.map f)[j]? = _
    rw [List.getElem?_map, show l[j]? = some r from h]
    rfl
/-- lo, lo + c, .. -/
def rng (lo c : Int) (n : Nat) : List Int := (List.range n).map fun i : Nat => lo + (i : Int) * c
theorem rng_steps (lo c : Int) (n : Nat) : steps lo c n = (rng lo c n).map Dat.int := by
  unfold steps rng
  rw [List.map_map]
  rfl
theorem tx_map (l : List Nat) : (l.map fun k => tx [k]) = l.map chd := rfl
/-! ### == of values -/
def Eqs [DecidableEq α] (e : α → Dat) : Prop := ∀ a b, PyData.eqv (pd (e a)) (pd (e b)) = decide (a = b)
def Okn (n : Nat) (e : α → Dat) : Prop := ∀ a, okn n (e a) = true
theorem eqs_int : Eqs Dat.int := fun a b => by
  show (a == b) = decide (a = b)
  by_cases h : a = b <;> simp [h]
theorem eqs_bool : Eqs Dat.bl := fun a b => by
  show (PyData.eqv (.bool a) (.bool b)) = decide (a = b)
  cases a <;> cases b <;> rfl
theorem eqs_str : Eqs tx := fun a b => by
  show (SX.S a == SX.S b) = decide (a = b)
  by_cases h : a = b
  · subst h; simp
  · rw [decide_eq_false h]
    exact beq_eq_false_iff_ne.mpr fun q => h (SX.S_inj q)
theorem eqvAll_map [DecidableEq α] {e : α → Dat} (h : Eqs e) : ∀ a b : List α, PyData.eqvAll (pds (a.map e)) (pds (b.map e)) = decide (a = b)
  | [], [] => rfl
  | [], _ :: _ => rfl
  | _ :: _, [] => rfl
  | x :: a, y :: b => by
    show (PyData.eqv (pd (e x)) (pd (e y)) && PyData.eqvAll (pds (a.map e)) (pds (b.map e))) = _
    rw [h x y, eqvAll_map h a b]
    by_cases h1 : x = y <;> simp [h1]
theorem eqs_lst [DecidableEq α] {e : α → Dat} (h : Eqs e) : Eqs (lstd e) := fun a b => eqvAll_map h a b
theorem eqs_tpn [DecidableEq α] {e : α → Dat} (h : Eqs e) : Eqs (tpnd e) := fun a b => eqvAll_map h a b
theorem eqs_tup2 [DecidableEq α] [DecidableEq β] {ea : α → Dat} {eb : β → Dat} (h : Eqs ea) (g : Eqs eb) : Eqs (tup2 ea eb) := fun a b => by
  show (PyData.eqv (pd (ea a.1)) (pd (ea b.1)) && (PyData.eqv (pd (eb a.2)) (pd (eb b.2)) && true)) = _
  rw [h, g, Bool.and_true]
  obtain ⟨a1, a2⟩ := a
  obtain ⟨b1, b2⟩ := b
  by_cases h1 : a1 = b1 <;> simp [h1]
theorem eqs_tup3 [DecidableEq α] [DecidableEq β] [DecidableEq γ] {ea : α → Dat} {eb : β → Dat} {ec : γ → Dat} (h : Eqs ea) (g : Eqs eb) (k : Eqs ec) : Eqs (tup3 ea eb ec) := fun a b => by
  show (PyData.eqv (pd (ea a.1)) (pd (ea b.1)) && (PyData.eqv (pd (eb a.2.1)) (pd (eb b.2.1)) && (PyData.eqv (pd (ec a.2.2)) (pd (ec b.2.2)) && true))) = _
  rw [h, g, k, Bool.and_true]
  obtain ⟨a1, a2, a3⟩ := a
  obtain ⟨b1, b2, b3⟩ := b
  by_cases h1 : a1 = b1 <;> by_cases h2 : a2 = b2 <;> simp [h1, h2]
theorem okn_i {n : Nat} : Okn n Dat.int := fun a => by cases n <;> rfl
theorem okn_b {n : Nat} : Okn n Dat.bl := fun a => by cases n <;> rfl
theorem okn_lst {n : Nat} {e : α → Dat} (h : Okn n e) : Okn (n + 1) (lstd e) := fun a => by
  show (a.map e).all (okn n) = true
  rw [List.all_map]
  exact List.all_eq_true.mpr fun x _ => h x
theorem okn_tpn {n : Nat} {e : α → Dat} (h : Okn n e) : Okn (n + 1) (tpnd e) := fun a => by
  show (a.map e).all (okn n) = true
  rw [List.all_map]
  exact List.all_eq_true.mpr fun x _ => h x
theorem okn_tup2 {n : Nat} {ea : α → Dat} {eb : β → Dat} (h : Okn n ea) (g : Okn n eb) : Okn (n + 1) (tup2 ea eb) := fun a => by
  show (okn n (ea a.1) && (okn n (eb a.2) && true)) = true
  rw [h, g]; rfl
theorem okn_tup3 {n : Nat} {ea : α → Dat} {eb : β → Dat} {ec : γ → Dat} (h : Okn n ea) (g : Okn n eb) (k : Okn n ec) : Okn (n + 1) (tup3 ea eb ec) := fun a => by
  show (okn n (ea a.1) && (okn n (eb a.2.1) && (okn n (ec a.2.2) && true))) = true
  rw [h, g, k]; rfl
/-- texts that may be compared -/
@[irreducible] def txOk (l : List Nat) : Bool := okn 0 (tx l)
theorem inj_int : ∀ a b : Int, Dat.int a = Dat.int b → a = b := fun _ _ h => Dat.int.inj h
theorem inj_bool : ∀ a b : Bool, Dat.bl a = Dat.bl b → a = b := fun _ _ h => Dat.bl.inj h
theorem inj_str : ∀ a b : List Nat, tx a = tx b → a = b := fun _ _ h => SX.S_inj (Dat.str.inj h)
theorem inj_chr : ∀ a b : Nat, chd a = chd b → a = b := fun _ _ h => by
  have := inj_str _ _ h
  exact List.cons.inj this |>.1
theorem inj_dat : ∀ a b : Dat, idd a = idd b → a = b := fun _ _ h => h
theorem inj_map {e : α → Dat} (h : ∀ a b, e a = e b → a = b) : ∀ a b : List α, a.map e = b.map e → a = b
  | [], [], _ => rfl
  | [], _ :: _, q => by cases q
  | _ :: _, [], q => by cases q
  | x :: a, y :: b, q => by
    rw [List.map_cons, List.map_cons] at q
    injection q with q1 q2
    rw [h _ _ q1, inj_map h _ _ q2]
theorem inj_lst {e : α → Dat} (h : ∀ a b, e a = e b → a = b) : ∀ a b : List α, lstd e a = lstd e b → a = b := fun a b q => inj_map h a b (Dat.lst.inj q)
theorem inj_tpn {e : α → Dat} (h : ∀ a b, e a = e b → a = b) : ∀ a b : List α, tpnd e a = tpnd e b → a = b := fun a b q => inj_map h a b (Dat.tup.inj q)
theorem inj_tup2 {ea : α → Dat} {eb : β → Dat} (h : ∀ a b, ea a = ea b → a = b) (g : ∀ a b, eb a = eb b → a = b) : ∀ a b : α × β, tup2 ea eb a = tup2 ea eb b → a = b := fun a b q => by
  have q := Dat.tup.inj q
  injection q with q1 q2
  injection q2 with q2 _
  exact Prod.ext (h _ _ q1) (g _ _ q2)
end
/-! ### what is within reach -/
noncomputable def cl (p : Prop) : Bool := @decide p (Classical.propDecidable p)
theorem cl_of {p : Prop} (h : cl p = true) : p := @of_decide_eq_true p (Classical.propDecidable p) h
theorem cl_i {p : Prop} (h : p) : cl p = true := @decide_eq_true p (Classical.propDecidable p) h
instance (i j : Int) : Decidable (IntMulOk i j) := by unfold IntMulOk; infer_instance
instance (i j : Int) : Decidable (CShl i j) := by unfold CShl; infer_instance
instance (i j : Int) : Decidable (CPow i j) := by unfold CPow; infer_instance
@[irreducible] noncomputable def mulOk (i j : Int) : Bool := cl (IntMulOk i j)
theorem mulOk_ok {i j : Int} (h : mulOk i j = true) : IntMulOk i j := by unfold mulOk at h; exact cl_of h
@[irreducible] noncomputable def divOk (j : Int) : Bool := cl (0 < j ∧ j.natAbs.log2 < 9000)
theorem divOk_1 {j : Int} (h : divOk j = true) : 0 < j := by unfold divOk at h; exact (cl_of h).1
theorem divOk_2 {j : Int} (h : divOk j = true) : j.natAbs.log2 < 9000 := by unfold divOk at h; exact (cl_of h).2
@[irreducible] noncomputable def fdivOk (j : Int) : Bool := cl (j ≠ 0 ∧ j.natAbs.log2 < 9000)
theorem fdivOk_1 {j : Int} (h : fdivOk j = true) : j ≠ 0 := by unfold fdivOk at h; exact (cl_of h).1
theorem fdivOk_2 {j : Int} (h : fdivOk j = true) : j.natAbs.log2 < 9000 := by unfold fdivOk at h; exact (cl_of h).2
@[irreducible] noncomputable def shlOk (i j : Int) : Bool := cl (CShl i j)
theorem shlOk_ok {i j : Int} (h : shlOk i j = true) : CShl i j := by unfold shlOk at h; exact cl_of h
@[irreducible] noncomputable def powOk (i j : Int) : Bool := cl (CPow i j)
theorem powOk_ok {i j : Int} (h : powOk i j = true) : CPow i j := by unfold powOk at h; exact cl_of h
@[irreducible] noncomputable def lenOk {α : Type} (l : List α) : Bool := cl (l.length ≤ 16777216)
theorem sizeLine_is : sizeLine = 16777216 := by decide
theorem lenOk_ok {α : Type} {l : List α} (h : lenOk l = true) : l.length ≤ sizeLine := by unfold lenOk at h; rw [sizeLine_is]; exact cl_of h
@[irreducible] noncomputable def lenLt {α : Type} (l : List α) : Bool := cl (l.length < 16777216)
theorem lenLt_ok {α : Type} {l : List α} (h : lenLt l = true) : l.length < sizeLine := by unfold lenLt at h; rw [sizeLine_is]; exact cl_of h
theorem lenLt_m {α : Type} {l : List α} {e : α → Dat} (h : lenLt l = true) : (l.map e).length < sizeLine := by rw [List.length_map]; exact lenLt_ok h
@[irreducible] noncomputable def catOk {α : Type} (l m : List α) : Bool := cl (l.length + m.length ≤ 16777216)
theorem catOk_ok {α : Type} {l m : List α} (h : catOk l m = true) : l.length + m.length ≤ sizeLine := by unfold catOk at h; rw [sizeLine_is]; exact cl_of h
@[irreducible] noncomputable def rngOk (i j : Int) : Bool := cl (-(2 ^ 62) ≤ i ∧ i < 2 ^ 62 ∧ -(2 ^ 62) ≤ j ∧ j < 2 ^ 62)
theorem rngOk_ok {i j : Int} (h : rngOk i j = true) : -(2 ^ 62) ≤ i ∧ i < 2 ^ 62 ∧ -(2 ^ 62) ≤ j ∧ j < 2 ^ 62 := by unfold rngOk at h; exact cl_of h
@[irreducible] noncomputable def repOk {α : Type} (l : List α) (n : Int) : Bool := cl (-100000 ≤ n ∧ n ≤ 100000 ∧ l.length ≤ 100)
def repS {α : Type} (l : List α) (n : Int) : List α := (List.replicate n.toNat l).flatten
theorem repOk_S {l : List Nat} {n : Int} (h : repOk l n = true) : MulOk (SX.S l) n := by unfold repOk at h; obtain ⟨a, b, c⟩ := cl_of h; exact mulOk_small a b c
section
variable {X : Cx} {H0 : Hp} {ρ ρ0 ρ1 ρ2 : Env'} {α β γ : Type} {a b c e t : Expr} {es : List Expr} {st : Stmt} {sts rest : List Stmt} {d d1 d2 : Dat} {ds : List Dat} {p pos : Pos} {o o1 : Outc} {x n : Str} {k : Nat} {D : γ → Outc} {m : M α} {en : α → Dat}
/-! ### numbers -/
theorem ev_shlT {i j : Int} (ha : Ev X H0 ρ a (.int i)) (hb : Ev X H0 ρ b (.int j)) (h : CShl i j) : Ev X H0 ρ (.BinOp a .LShift b pos) (.int (i * 2 ^ j.toNat)) := ev_intop ha hb (g := fun i j => i * 2 ^ j.toNat) op_shlW h
theorem ev_repXm {l : List Nat} {i : Int} (ha : Ev X H0 ρ a (tx l)) (hb : Ev X H0 ρ b (.int i)) (h : repOk l i = true) : Ev X H0 ρ (.BinOp a .Mult b pos) (tx (repS l i)) := ev_repX ha hb (repOk_S h)
/-! ### lists -/
theorem ev_ixLm {l : List α} {i : Int} {r : α} (ha : Ev X H0 ρ a (lstd en l)) (hb : Ev X H0 ρ b (.int i)) (q : atI l i = some r) (hs : PlainIx b := by exact fun _ _ => rfl) : Ev X H0 ρ (.Subscript a b pos) (en r) := ev_ixL ha hb (atIm en l i q) hs
theorem eb_ixLm {l : List α} {i : Int} {r : α} (ha : EvB X H0 ρ a (lstd en l)) (hb : Ev X H0 ρ b (.int i)) (q : atI l i = some r) (hs : PlainIx b := by exact fun _ _ => rfl) : EvB X H0 ρ (.Subscript a b pos) (en r) := eb_ixL ha hb (atIm en l i q) hs
theorem ev_ixTm {l : List α} {i : Int} {r : α} (ha : Ev X H0 ρ a (tpnd en l)) (hb : Ev X H0 ρ b (.int i)) (q : atI l i = some r) (hs : PlainIx b := by exact fun _ _ => rfl) : Ev X H0 ρ (.Subscript a b pos) (en r) := ev_ixT ha hb (atIm en l i q) hs
theorem ev_lenm {l : List α} (ha : EvB X H0 ρ a (lstd en l)) (hm : X.mg "len" = none) (hg : Gl X "len" := by rfl) (he : starEach [a] X.env = (false, eval a X.env) :: starEach [] X.env := by rfl) (hpl : (backTo pos (starEach [] X.env)).any (·.1) = false := by rfl) : Ev X H0 ρ (.Call (.Name "len" p) [a] [] pos) (.int (l.length : Int)) :=
  ev_len ha (by show some (l.map en).length = _; rw [List.length_map]) hm hg he hpl
theorem ev_lenTm {l : List α} (ha : EvB X H0 ρ a (tpnd en l)) (hm : X.mg "len" = none) (hg : Gl X "len" := by rfl) (he : starEach [a] X.env = (false, eval a X.env) :: starEach [] X.env := by rfl) (hpl : (backTo pos (starEach [] X.env)).any (·.1) = false := by rfl) : Ev X H0 ρ (.Call (.Name "len" p) [a] [] pos) (.int (l.length : Int)) :=
  ev_len ha (by show some (l.map en).length = _; rw [List.length_map]) hm hg he hpl
theorem eo_slLm {l : List α} {lo hi : Option Expr} {i j : Option Int} {p2 : Pos} (f : ∀ a, flat (en a) = true) (ha : EvB X H0 ρ a (lstd en l)) (hl : EvP X H0 ρ lo i) (hh : EvP X H0 ρ hi j) : EvO X H0 ρ (.Subscript a (.Slice lo hi none p2) pos) (lstd en (cut l i j)) := by
  have := eo_slL (pos := pos) (p2 := p2) ha hl hh (flats_map f l)
  rw [cutm] at this
  exact this
theorem ev_slTm {l : List α} {lo hi : Option Expr} {i j : Option Int} {p2 : Pos} (ha : Ev X H0 ρ a (tpnd en l)) (hl : EvP X H0 ρ lo i) (hh : EvP X H0 ρ hi j) : Ev X H0 ρ (.Subscript a (.Slice lo hi none p2) pos) (tpnd en (cut l i j)) := by
  have := ev_slT (pos := pos) (p2 := p2) ha hl hh
  rw [cutm] at this
  exact this
theorem eo_listm {l : List α} (f : ∀ a, flat (en a) = true) (ha : EvB X H0 ρ a (lstd en l)) (hm : X.mg "list" = none) (hg : Gl X "list" := by rfl) (he : starEach [a] X.env = (false, eval a X.env) :: starEach [] X.env := by rfl) (hpl : (backTo pos (starEach [] X.env)).any (·.1) = false := by rfl) :
    EvO X H0 ρ (.Call (.Name "list" p) [a] [] pos) (lstd en l) := eo_list ha (flats_map f l) hm hg he hpl
theorem eo_listTm {l : List α} (f : ∀ a, flat (en a) = true) (ha : EvB X H0 ρ a (tpnd en l)) (hm : X.mg "list" = none) (hg : Gl X "list" := by rfl) (he : starEach [a] X.env = (false, eval a X.env) :: starEach [] X.env := by rfl) (hpl : (backTo pos (starEach [] X.env)).any (·.1) = false := by rfl) :
    EvO X H0 ρ (.Call (.Name "list" p) [a] [] pos) (lstd en l) := eo_listT ha (flats_map f l) hm hg he hpl
theorem eo_listRevm {l : List α} {p2 pos2 : Pos} (f : ∀ a, flat (en a) = true) (ha : EvB X H0 ρ a (lstd en l)) (hc : X.calm = true) (hm : X.mg "list" = none) (hm2 : X.mg "reversed" = none) (hg : Gl X "list" := by rfl) (hg2 : Gl X "reversed" := by rfl) (hs : starEach [a] X.env = (false, eval a X.env) :: starEach [] X.env := by rfl)
    (hs2 : starEach [.Call (.Name "reversed" p2) [a] [] pos2] X.env = (false, eval (.Call (.Name "reversed" p2) [a] [] pos2) X.env) :: starEach [] X.env := by rfl) : EvO X H0 ρ (.Call (.Name "list" p) [.Call (.Name "reversed" p2) [a] [] pos2] [] pos) (lstd en l.reverse) := by
  have := eo_listRev (p := p) (pos := pos) ha (flats_map f l) hc hm hm2 hg hg2 hs hs2
  rw [← List.map_reverse] at this
  exact this
theorem repm (f : α → β) (l : List α) (n : Nat) : (List.replicate n (l.map f)).flatten = (List.replicate n l).flatten.map f := by
  induction n with
  | zero => rfl
  | succ n ih => rw [List.replicate_succ, List.replicate_succ, List.flatten_cons, List.flatten_cons, List.map_append, ih]
theorem repOk_L {l : List α} {n : Int} (h : repOk l n = true) : -(2 ^ 63) ≤ n ∧ n < 2 ^ 63 ∧ (l.map en).length * n.toNat ≤ sizeLine := by
  unfold repOk at h
  obtain ⟨a, b, c⟩ := cl_of h
  refine ⟨by omega, by omega, ?_⟩
  rw [List.length_map, sizeLine_is]
  have : l.length * n.toNat ≤ 100 * 100000 := Nat.mul_le_mul c (by omega)
  omega
theorem eo_repOm {l : List α} {i : Int} (ha : EvO X H0 ρ a (lstd en l)) (hb : Ev X H0 ρ b (.int i)) (h : repOk l i = true) : EvO X H0 ρ (.BinOp a .Mult b pos) (lstd en (repS l i)) := by
  obtain ⟨h1, h2, h3⟩ := repOk_L (en := en) h
  have := eo_repO (pos := pos) ha hb h1 h2 h3
  rw [repm] at this
  exact this
theorem eo_repNm {l : List α} {i : Int} (j : Nat) {y : Str} {p1 : Pos} (hi : ρ[j]? = some (.ow (lstd en l))) (hb : Ev X H0 ρ b (.int i)) (h : repOk l i = true) (hN : X.N[j]? = some y := by rfl) (hv : Vis X.env.scope y := by first | exact Or.inl rfl | exact Or.inr (Or.inl rfl) | exact Or.inr (Or.inr rfl))
    (hd : (y == ("__debug__" : Str)) = false := by decide) (hcd : (y == ("__classdict__" : Str)) = false := by decide) : EvO X H0 ρ (.BinOp (.Name y p1) .Mult b pos) (lstd en (repS l i)) := by
  obtain ⟨h1, h2, h3⟩ := repOk_L (en := en) h
  have := eo_repN (pos := pos) (p1 := p1) j hi hb h1 h2 h3 hN hv hd hcd
  rw [repm] at this
  exact this
/-- the rows [e for ..] -/
theorem compM_len {f : α → M Bool} {g : α → M β} : ∀ {xs : List α} {ys : List β}, compM f g xs = .ok ys → ys.length ≤ xs.length
  | [], _, h => by cases h; exact Nat.le_refl _
  | x :: xs, ys, h => by
    unfold compM at h
    cases ef : f x with
    | ok b =>
      rw [ef] at h
      cases b with
      | false => exact Nat.le_succ_of_le (compM_len (by simpa using h))
      | true =>
        cases eg : g x with
        | ok y =>
          rw [eg] at h
          cases ec : compM f g xs with
          | ok zs =>
            rw [ec] at h
            simp at h
            subst h
            exact Nat.succ_le_succ (compM_len ec)
          | ex n => rw [ec] at h; simp at h
          | far => rw [ec] at h; simp at h
        | ex n => rw [eg] at h; simp at h
        | far => rw [eg] at h; simp at h
    | ex n => rw [ef] at h; simp at h
    | far => rw [ef] at h; simp at h
open Classical in
theorem compM_fn {ea : α → Dat} {eb : β → Dat} (inj : ∀ x y, ea x = ea y → x = y) {f : α → M Bool} {g : α → M β} : ∀ {xs : List α} {ys : List β}, compM f g xs = .ok ys →
    (∀ x ∈ xs, ∃ u, f x = .ok u) ∧ (∀ x ∈ xs, f x = .ok true → ∃ y, g x = .ok y) ∧
    ∀ (F : Dat → Bool) (G : Dat → Dat), (∀ x ∈ xs, f x = .ok (F (ea x))) → (∀ x ∈ xs, f x = .ok true → ∀ y, g x = .ok y → G (ea x) = eb y) → ((xs.map ea).filter F).map G = ys.map eb
  | [], _, h => by cases h; exact ⟨by simp, by simp, fun _ _ _ _ => rfl⟩
  | x :: xs, ys, h => by
    unfold compM at h
    cases ef : f x with
    | ok b =>
      rw [ef] at h
      cases b with
      | false =>
        obtain ⟨i1, i2, i3⟩ := compM_fn (ea := ea) (eb := eb) inj (xs := xs) (ys := ys) (by simpa using h)
        refine ⟨fun z hz => ?_, fun z hz hf => ?_, fun F G hF hG => ?_⟩
        · rcases List.mem_cons.mp hz with rfl | hz
          · exact ⟨false, ef⟩
          · exact i1 z hz
        · rcases List.mem_cons.mp hz with rfl | hz
          · rw [ef] at hf; cases hf
          · exact i2 z hz hf
        · have e1 : F (ea x) = false := by have := hF x List.mem_cons_self; rw [ef] at this; exact (M.ok.inj this).symm
          rw [List.map_cons, List.filter_cons, if_neg (by rw [e1]; decide)]
          exact i3 F G (fun z hz => hF z (List.mem_cons_of_mem _ hz)) (fun z hz => hG z (List.mem_cons_of_mem _ hz))
      | true =>
        cases eg : g x with
        | ok y =>
          rw [eg] at h
          cases ec : compM f g xs with
          | ok zs =>
            rw [ec] at h
            simp at h
            subst h
            obtain ⟨i1, i2, i3⟩ := compM_fn (ea := ea) (eb := eb) inj ec
            refine ⟨fun z hz => ?_, fun z hz hf => ?_, fun F G hF hG => ?_⟩
            · rcases List.mem_cons.mp hz with rfl | hz
              · exact ⟨true, ef⟩
              · exact i1 z hz
            · rcases List.mem_cons.mp hz with rfl | hz
              · exact ⟨y, eg⟩
              · exact i2 z hz hf
            · have e1 : F (ea x) = true := by have := hF x List.mem_cons_self; rw [ef] at this; exact (M.ok.inj this).symm
              rw [List.map_cons, List.filter_cons, if_pos e1, List.map_cons, List.map_cons, hG x List.mem_cons_self ef y eg, i3 F G (fun z hz => hF z (List.mem_cons_of_mem _ hz)) (fun z hz => hG z (List.mem_cons_of_mem _ hz))]
          | ex n => rw [ec] at h; simp at h
          | far => rw [ec] at h; simp at h
        | ex n => rw [eg] at h; simp at h
        | far => rw [eg] at h; simp at h
    | ex n => rw [ef] at h; simp at h
    | far => rw [ef] at h; simp at h
open Classical in
/-- .. as functions of the data -/
theorem compM_get {ea : α → Dat} {eb : β → Dat} (inj : ∀ x y, ea x = ea y → x = y) {f : α → M Bool} {g : α → M β} {xs : List α} {ys : List β} (h : compM f g xs = .ok ys) :
    ∃ (F : Dat → Bool) (G : Dat → Dat), ((xs.map ea).filter F).map G = ys.map eb ∧ (∀ d ∈ xs.map ea, ∃ x, d = ea x ∧ f x = .ok (F d) ∧ (F d = true → ∃ y, g x = .ok y ∧ G d = eb y)) := by
  obtain ⟨i1, i2, i3⟩ := compM_fn (ea := ea) (eb := eb) inj h
  let F : Dat → Bool := fun d => if q : ∃ x, d = ea x ∧ ∃ u, f x = .ok u then Classical.choose (Classical.choose_spec q).2 else false
  let G : Dat → Dat := fun d => if q : ∃ x, d = ea x ∧ ∃ y, g x = .ok y then eb (Classical.choose (Classical.choose_spec q).2) else .non
  have hF : ∀ x u, f x = .ok u → F (ea x) = u := fun x u hu => by
    have q : ∃ z, ea x = ea z ∧ ∃ u, f z = .ok u := ⟨x, rfl, u, hu⟩
    show (if q : ∃ z, ea x = ea z ∧ ∃ u, f z = .ok u then Classical.choose (Classical.choose_spec q).2 else false) = u
    rw [dif_pos q]
    have e := inj _ _ (Classical.choose_spec q).1
    have h2 := Classical.choose_spec (Classical.choose_spec q).2
    exact M.ok.inj (((hu.symm.trans (congrArg f e)).trans h2).symm)
  have hG : ∀ x y, g x = .ok y → G (ea x) = eb y := fun x y hy => by
    have q : ∃ z, ea x = ea z ∧ ∃ u, g z = .ok u := ⟨x, rfl, y, hy⟩
    show (if q : ∃ z, ea x = ea z ∧ ∃ u, g z = .ok u then eb (Classical.choose (Classical.choose_spec q).2) else .non) = eb y
    rw [dif_pos q]
    have e := inj _ _ (Classical.choose_spec q).1
    have h2 := Classical.choose_spec (Classical.choose_spec q).2
    exact congrArg eb (M.ok.inj (((hy.symm.trans (congrArg g e)).trans h2).symm))
  refine ⟨F, G, i3 F G (fun x hx => ?_) (fun x hx _ y hy => hG x y hy), fun d hd => ?_⟩
  · obtain ⟨u, hu⟩ := i1 x hx
    rw [hF x u hu, hu]
  · obtain ⟨x, hx, rfl⟩ := List.mem_map.mp hd
    obtain ⟨u, hu⟩ := i1 x hx
    refine ⟨x, rfl, by rw [hF x u hu, hu], fun hT => ?_⟩
    rw [hF x u hu] at hT
    subst hT
    obtain ⟨y, hy⟩ := i2 x hx hu
    exact ⟨y, hy, hG x y hy⟩
theorem eo_compM {elt tg iter : Expr} {ifs : List Expr} {scope : Scope} {xn : Str} {ea : α → Dat} {eb : β → Dat} {xs : List α} {ys : List β} {f : α → M Bool} {g : α → M β} (i : Nat) {pos : Pos} (inj : ∀ x y, ea x = ea y → x = y) (hc : X.calm = true) (nd : X.N.Nodup) (hi : Iter X H0 ρ tg iter (xs.map ea)) (ok : blkC X.N X.env.scope scope [(xn, i)] = true) (hx : ρ[i]? = some .no)
    (htg : ∀ (s : Shared) (H : Hp) (C : Addr) (cl : List (Str × Addr)) (fp : List Addr), PG (X.blk s H scope (compEnvC scope cl C X.env) fp) tg (gName i)) (h : compM f g xs = .ok ys)
    (hif : (ifs = [] ∧ ∀ x, f x = .ok true) ∨ ∃ c, ifs = [c] ∧ ∀ (H0' : Hp) (s : Shared) (H : Hp) (C : Addr) (cl : List (Str × Addr)) (fp : List Addr), ∀ x, EtM (X.blk s H scope (compEnvC scope cl C X.env) fp) H0' (ρ.set i (.im (ea x))) c (f x))
    (hel : ∀ (H0' : Hp) (s : Shared) (H : Hp) (C : Addr) (cl : List (Str × Addr)) (fp : List Addr), Same H0 H0' → ∀ x, EvM (X.blk s H scope (compEnvC scope cl C X.env) fp) H0' (ρ.set i (.im (ea x))) elt eb (g x))
    (hz : lenLt xs = true) (hs : ∀ x, foldedSetIterable iter X.env x = pure x := by intro _; rfl) : EvO X H0 ρ (.ListComp elt [⟨tg, iter, ifs, 0⟩] scope pos) (lstd eb ys) := by
  obtain ⟨F, G, e, q⟩ := compM_get (eb := eb) inj h
  have := eo_comp (X := X) (H0 := H0) (ρ := ρ) (elt := elt) (tg := tg) (iter := iter) (ifs := ifs) (scope := scope) (xn := xn) (pos := pos) i hc nd hi ok hx F G htg (by
    rcases hif with ⟨h1, h2⟩ | ⟨c, h1, h2⟩
    · refine .inl ⟨h1, fun d hd => ?_⟩
      obtain ⟨x, rfl, q1, _⟩ := q d hd
      rw [h2 x] at q1
      exact (M.ok.inj q1).symm
    · refine .inr ⟨c, h1, fun H0' s H C cl fp hs d hd => ?_⟩
      obtain ⟨x, rfl, q1, _⟩ := q d hd
      exact etm_get (h2 H0' s H C cl fp x) q1) (fun H0' s H C cl fp hs d hd hF => by
      obtain ⟨x, rfl, q1, q2⟩ := q d hd
      obtain ⟨y, q3, q4⟩ := q2 hF
      rw [q4]
      exact evm_get (hel H0' s H C cl fp hs x) q3) (lenLt_m hz) hs
  rw [e] at this
  exact this
theorem xm_setLcM {f2 : List β → M γ} {elt tg iter : Expr} {ifs : List Expr} {scope : Scope} {xn y : Str} {ea : α → Dat} {eb : β → Dat} {xs : List α} {f : α → M Bool} {g : α → M β} (j0 : Nat) (i : Nat) {pos py spos : Pos} (inj : ∀ x y, ea x = ea y → x = y) (hc : X.calm = true) (nd : X.N.Nodup) (hi : Iter X H0 ρ tg iter (xs.map ea)) (ok : blkC X.N X.env.scope scope [(xn, i)] = true) (hx : ρ[i]? = some .no)
    (htg : ∀ (s : Shared) (H : Hp) (C : Addr) (cl : List (Str × Addr)) (fp : List Addr), PG (X.blk s H scope (compEnvC scope cl C X.env) fp) tg (gName i))
    (hif : (ifs = [] ∧ ∀ x, f x = .ok true) ∨ ∃ c, ifs = [c] ∧ ∀ (H0' : Hp) (s : Shared) (H : Hp) (C : Addr) (cl : List (Str × Addr)) (fp : List Addr), ∀ x, EtM (X.blk s H scope (compEnvC scope cl C X.env) fp) H0' (ρ.set i (.im (ea x))) c (f x))
    (hel : ∀ (H0' : Hp) (s : Shared) (H : Hp) (C : Addr) (cl : List (Str × Addr)) (fp : List Addr), Same H0 H0' → ∀ x, EvM (X.blk s H scope (compEnvC scope cl C X.env) fp) H0' (ρ.set i (.im (ea x))) elt eb (g x))
    (hz : lenLt xs = true) (tt : ∀ ys, ExM X H0 (ρ.set j0 (.ow (lstd eb ys))) k rest D (f2 ys)) (hs : ∀ x, foldedSetIterable iter X.env x = pure x := by intro _; rfl) (hy : X.N[j0]? = some y := by rfl) (hyl : X.env.scope.names.lookup y = some .local := by rfl)
    (hsw : swapsWith (.ListComp elt [⟨tg, iter, ifs, 0⟩] scope pos) (some (.Name y py)) spos.line X.env = pure true := by rfl) :
    ExM X H0 ρ k (.Assign [.Name y py] (.ListComp elt [⟨tg, iter, ifs, 0⟩] scope pos) spos :: rest) D (M.bind (M.nox (compM f g xs)) f2) := by
  cases h : compM f g xs with
  | ok ys =>
    obtain ⟨F, G, e, q⟩ := compM_get (eb := eb) inj h
    have := sx_setLc (X := X) (H0 := H0) (ρ := ρ) (ρ1 := ρ.set j0 (.ow (lstd eb ys))) (elt := elt) (tg := tg) (iter := iter) (ifs := ifs) (scope := scope) (xn := xn) (pos := pos) (spos := spos) (py := py) (y := y) j0 i hc nd hi ok hx F G htg (by
      rcases hif with ⟨h1, h2⟩ | ⟨c, h1, h2⟩
      · refine .inl ⟨h1, fun d hd => ?_⟩
        obtain ⟨x, rfl, q1, _⟩ := q d hd
        rw [h2 x] at q1
        exact (M.ok.inj q1).symm
      · refine .inr ⟨c, h1, fun H0' s H C cl fp hs d hd => ?_⟩
        obtain ⟨x, rfl, q1, _⟩ := q d hd
        exact etm_get (h2 H0' s H C cl fp x) q1) (fun H0' s H C cl fp hs d hd hF => by
        obtain ⟨x, rfl, q1, q2⟩ := q d hd
        obtain ⟨y, q3, q4⟩ := q2 hF
        rw [q4]
        exact evm_get (hel H0' s H C cl fp hs x) q3) (lenLt_m hz) (by rw [e]) hs hy hyl hsw
    exact xm_then this (tt ys)
  | ex n => trivial
  | far => trivial
/-! ### assignments -/
theorem xm_set {en : β → Dat} {v : β} {f : β → M γ} (i : Nat) {x : Str} {pos' : Pos} (h : Ev X H0 ρ e (en v)) (nd : X.N.Nodup) (t : ∀ x, ExM X H0 (ρ.set i (.im (en x))) k rest D (f x)) (hi : X.N[i]? = some x := by rfl) (hx : Loc X.env.scope x := by first | exact Or.inl rfl | exact Or.inr rfl)
    (hs : swapsWith e (some (.Name x pos')) pos.line X.env = pure false := by rfl) (hf : X.fn x = true ∨ X.env.scope.names.lookup x = some .local := by first | exact .inl rfl | exact .inr rfl | assumption) : ExM X H0 ρ k (.Assign [.Name x pos'] e pos :: rest) D (M.lt v f) := xm_then (sx_set i h nd rfl hi hx hs hf) (t v)
theorem xm_setO {en : β → Dat} {v : β} {f : β → M γ} (i : Nat) {x : Str} {pos' : Pos} (h : EvO X H0 ρ e (en v)) (nd : X.N.Nodup) (t : ∀ x, ExM X H0 (ρ.set i (.ow (en x))) k rest D (f x)) (hi : X.N[i]? = some x := by rfl) (hx : Loc X.env.scope x := by first | exact Or.inl rfl | exact Or.inr rfl)
    (hs : swapsWith e (some (.Name x pos')) pos.line X.env = pure false := by rfl) (hf : X.fn x = true ∨ X.env.scope.names.lookup x = some .local := by first | exact .inl rfl | exact .inr rfl | assumption) : ExM X H0 ρ k (.Assign [.Name x pos'] e pos :: rest) D (M.lt v f) := xm_then (sx_setO i h nd rfl hi hx hs hf) (t v)
theorem xm_asg {en : β → Dat} {v : β} {f : β → M γ} {t : Expr} {ok : Dat → Prop} {bd : Dat → Env' → Env'} (h : Ev X H0 ρ e (en v)) (hg : Tgt X H0 t ok bd) (hok : ∀ r, ok (en r)) (tt : ∀ r, ExM X H0 (bd (en r) ρ) k rest D (f r)) (hs : swapsWithSole [t] e pos.line X.env = pure false := by rfl) (hw : swappedStores [t] e X.env = pure none := by rfl)
    (h1 : (assignEach [t] X.env).map (·.2) = [assign t X.env] := by rfl) : ExM X H0 ρ k (.Assign [t] e pos :: rest) D (M.lt v f) := xm_then (sx_asg h hg (hok v) rfl hs hw h1) (tt v)
theorem xm_par {ea : α → Dat} {eb : β → Dat} {v : α} {u : β} {f : α → β → M γ} (i j : Nat) {y z : Str} {px py pt : Pos} {kt k2 pt2} (ha : Ev X H0 ρ a (ea v)) (hb : Ev X H0 ρ b (eb u)) (nd : X.N.Nodup) (hc : X.calm = true) (hij : i ≠ j) (tt : ∀ v u, ExM X H0 ((ρ.set i (.im (ea v))).set j (.im (eb u))) k rest D (f v u)) (hi : X.N[i]? = some y := by rfl) (hj : X.N[j]? = some z := by rfl)
    (hx : X.env.scope.names.lookup y = some .local := by rfl) (hy : X.env.scope.names.lookup z = some .local := by rfl) (hw : swappedStores [.Tuple [.Name y px, .Name z py] kt pt] (.Tuple [a, b] k2 pt2) X.env = pure (some [y, z]) := by rfl)
    (hs : swapsWithSole [.Tuple [.Name y px, .Name z py] kt pt] (.Tuple [a, b] k2 pt2) pos.line X.env = pure false := by rfl) (h1 : starEach [a, b] X.env = (false, eval a X.env) :: starEach [b] X.env := by rfl) (h2 : starEach [b] X.env = (false, eval b X.env) :: starEach [] X.env := by rfl) :
    ExM X H0 ρ k (.Assign [.Tuple [.Name y px, .Name z py] kt pt] (.Tuple [a, b] k2 pt2) pos :: rest) D (M.lt (v, u) fun q => f q.1 q.2) := xm_then (sx_par i j ha hb nd hc hij rfl hi hj hx hy hw hs h1 h2) (tt v u)
theorem xm_append {en : β → Dat} {l : List β} {v : β} {f : List β → M γ} (i : Nat) {y : Str} {p1 p2 p3 : Pos} (hi : ρ[i]? = some (.ow (lstd en l))) (h : Ev X H0 ρ e (en v)) (hz : lenLt l = true) (tt : ∀ l, ExM X H0 (ρ.set i (.ow (lstd en l))) k rest D (f l)) (hN : X.N[i]? = some y := by rfl) (hv : Vis X.env.scope y := by first | exact Or.inl rfl | exact Or.inr (Or.inl rfl) | exact Or.inr (Or.inr rfl))
    (hd : (y == ("__debug__" : Str)) = false := by decide) (hcd : (y == ("__classdict__" : Str)) = false := by decide)
    (hpe : ∀ to t, PE X (.Name y p1) to → PA X [e] t → PE X (.Call (.Attribute (.Name y p1) "append" p2) [e] [] p3) (tBM X.K "list" rAppend to t) := by exact fun _ _ h g => pe_bm PySem.F.plainAttrs_list PySem.F.slot_list_append PySem.F.type_list_append mt_append h g)
    (he : starEach [e] X.env = (false, eval e X.env) :: starEach [] X.env := by rfl) (hs : swapsWith (.Call (.Attribute (.Name y p1) "append" p2) [e] [] p3) none pos.line X.env = pure false := by rfl) :
    ExM X H0 ρ k (.Expr (.Call (.Attribute (.Name y p1) "append" p2) [e] [] p3) pos :: rest) D (M.lt (l ++ [v]) f) := by
  have h0 := sx_append (pos := pos) (p1 := p1) (p2 := p2) (p3 := p3) i hi h (lenLt_m hz) rfl hN hv hd hcd hpe he hs
  have t1 := tt (l ++ [v])
  unfold lstd at t1
  rw [List.map_append] at t1
  exact xm_then h0 t1
theorem xm_augI {v u : Int} {f : Int → M γ} (i : Nat) {y : Str} {pos' : Pos} (hi : ρ[i]? = some (.im (.int v))) (h : Ev X H0 ρ e (.int u)) (nd : X.N.Nodup) (tt : ∀ x, ExM X H0 (ρ.set i (.im (.int x))) k rest D (f x)) (hN : X.N[i]? = some y := by rfl) (hx : Loc X.env.scope y := by first | exact Or.inl rfl | exact Or.inr rfl)
    (hp : ∀ te, PE X e te → PS X (.AugAssign (.Name y pos') .Add e pos) (tAug i te (ipI fun i j => i + j)) := by exact fun te h => ps_aug (by assumption) rfl (by first | exact Or.inl rfl | exact Or.inr rfl) h ip_add) :
    ExM X H0 ρ k (.AugAssign (.Name y pos') .Add e pos :: rest) D (M.lt (v + u) f) := xm_then (sx_augI i hi h nd rfl hN hx hp) (tt (v + u))
/-- l[i] = v -/
def setI {α : Type} (l : List α) (i : Int) (v : α) : Option (List α) := (ixN l.length i).map fun j => l.set j v
theorem xm_setIx {en : β → Dat} {l l2 : List β} {v : β} {f : List β → M γ} {u : Int} (i : Nat) {y : Str} {p1 p2 : Pos} {ix : Expr} (hi : ρ[i]? = some (.ow (lstd en l))) (hv : Ev X H0 ρ e (en v)) (hx : Ev X H0 ρ ix (.int u)) (hj : setI l u v = some l2) (tt : ∀ l, ExM X H0 (ρ.set i (.ow (lstd en l))) k rest D (f l)) (hN : X.N[i]? = some y := by rfl)
    (hvis : Vis X.env.scope y := by first | exact Or.inl rfl | exact Or.inr (Or.inl rfl) | exact Or.inr (Or.inr rfl)) (hd : (y == ("__debug__" : Str)) = false := by decide) (hcd : (y == ("__classdict__" : Str)) = false := by decide)
    (hp : ∀ te to ti, PE X e te → PE X (.Name y p1) to → PE X ix ti → PS X (.Assign [.Subscript (.Name y p1) ix p2] e pos) (tAsg te (gSub to ti rSetL)) := by exact fun te to ti h g f => ps_asg h (pg_sub g f set_list)) :
    ExM X H0 ρ k (.Assign [.Subscript (.Name y p1) ix p2] e pos :: rest) D (M.lt l2 f) := by
  unfold setI at hj
  obtain ⟨j, hj1, hj2⟩ := Option.map_eq_some_iff.mp hj
  have h0 := sx_setIx (pos := pos) (p1 := p1) (p2 := p2) i hi hv hx (by rw [List.length_map]; exact hj1) rfl hN hvis hd hcd hp
  have t1 := tt l2
  unfold lstd at t1
  rw [← hj2, List.map_set] at t1
  rw [M.lt, ← hj2]
  exact xm_then h0 t1
/-- l[i] += v -/
theorem xm_augIx {l l2 : List Int} {f : List Int → M γ} {j w u : Int} (i : Nat) {y : Str} {p1 p2 : Pos} {ix : Expr} (hi : ρ[i]? = some (.ow (lstd Dat.int l))) (hx : Ev X H0 ρ ix (.int j)) (h0 : decide (0 ≤ j) = true) (hj : atI l j = some w) (hv : Ev X H0 ρ e (.int u)) (hl : setI l j (w + u) = some l2) (tt : ∀ l, ExM X H0 (ρ.set i (.ow (lstd Dat.int l))) k rest D (f l)) (hN : X.N[i]? = some y := by rfl)
    (hvis : Vis X.env.scope y := by first | exact Or.inl rfl | exact Or.inr (Or.inl rfl) | exact Or.inr (Or.inr rfl)) (hd : (y == ("__debug__" : Str)) = false := by decide) (hcd : (y == ("__classdict__" : Str)) = false := by decide)
    (hp : ∀ te to ti, PE X e te → PE X (.Name y p1) to → PE X ix ti → PS X (.AugAssign (.Subscript (.Name y p1) ix p2) .Add e pos) (tAugS to ti te rGetL (ipI fun i j => i + j) rSetL) := by exact fun te to ti h g f => ps_augS g f get_list h ip_add set_list) :
    ExM X H0 ρ k (.AugAssign (.Subscript (.Name y p1) ix p2) .Add e pos :: rest) D (M.lt l2 f) := by
  have h0 := of_decide_eq_true h0
  obtain ⟨q, rfl⟩ := Int.eq_ofNat_of_zero_le h0
  unfold setI at hl
  obtain ⟨q2, hj1, hj2⟩ := Option.map_eq_some_iff.mp hl
  have e1 : q2 = q ∧ q < l.length := by
    unfold ixN at hj1
    rw [if_pos (by omega)] at hj1
    split at hj1
    · have := Option.some.inj hj1
      rw [Int.toNat_natCast] at this
      omega
    · cases hj1
  obtain ⟨rfl, e2⟩ := e1
  have hg : (l.map Dat.int)[q2]? = some (.int w) := by
    unfold atI at hj
    rw [hj1] at hj
    rw [List.getElem?_map, show l[q2]? = some w from hj]
    rfl
  have h1 := sx_augIx (pos := pos) (p1 := p1) (p2 := p2) i hi hx hg hv rfl hN hvis hd hcd hp
  have t1 := tt l2
  unfold lstd at t1
  rw [← hj2, List.map_set] at t1
  rw [M.lt, ← hj2]
  exact xm_then h1 t1
/-! ### walks -/
theorem itm_r1 {j : Int} {t : Expr} {p : Pos} (h : Ev X H0 ρ a (.int j)) (bb : rngOk 0 j = true) (hm : X.mg "range" = none) (hg : Gl X "range" := by rfl) (hs : starEach [a] X.env = [(false, eval a X.env)] := by rfl) : Iter X H0 ρ t (.Call (.Name "range" p) [a] [] pos) ((rng 0 1 j.toNat).map Dat.int) := by
  obtain ⟨_, _, b1, b2⟩ := rngOk_ok bb
  have := it_range1 (pos := pos) (p := p) (t := t) h b1 b2 hm hg hs
  rw [rng_steps] at this
  exact this
theorem itm_r2 {i j : Int} {t : Expr} {p : Pos} (h : Ev X H0 ρ a (.int i)) (h2 : Ev X H0 ρ b (.int j)) (bb : rngOk i j = true) (hm : X.mg "range" = none) (hg : Gl X "range" := by rfl)
    (hs : starEach [a, b] X.env = [(false, eval a X.env), (false, eval b X.env)] := by rfl) (hs2 : starEach [b] X.env = [(false, eval b X.env)] := by rfl) : Iter X H0 ρ t (.Call (.Name "range" p) [a, b] [] pos) ((rng i 1 (j - i).toNat).map Dat.int) := by
  have := it_range2 (pos := pos) (p := p) (t := t) h h2 (rngOk_ok bb) hm hg hs hs2
  rw [rng_steps] at this
  exact this
/-- range(i, j, -1) -/
theorem itm_rdn {i j : Int} {t : Expr} {p : Pos} (h : Ev X H0 ρ a (.int i)) (h2 : Ev X H0 ρ b (.int j)) (h3 : Ev X H0 ρ c (.int (-1))) (bb : rngOk i j = true) (hm : X.mg "range" = none) (hg : Gl X "range" := by rfl)
    (hs : ∀ l, PA X [a, b, c] l → PI X t (.Call (.Name "range" p) [a, b, c] [] pos) (iRng3 l)) (s1 : starEach [a, b, c] X.env = (false, eval a X.env) :: starEach [b, c] X.env := by rfl) (s2 : starEach [b, c] X.env = (false, eval b X.env) :: starEach [c] X.env := by rfl) (s3 : starEach [c] X.env = (false, eval c X.env) :: starEach [] X.env := by rfl) : Iter X H0 ρ t (.Call (.Name "range" p) [a, b, c] [] pos) ((rng i (-1) (i - j).toNat).map Dat.int) := by
  obtain ⟨b1, b2, b3, b4⟩ := rngOk_ok bb
  have := it_range3 (pos := pos) (p := p) (t := t) h h2 h3 (RgC.neg b1 b2 b3 b4) hm hg hs s1 s2 s3
  rw [rng_steps] at this
  exact this
@[irreducible] noncomputable def stepOk (i j c : Int) : Bool := cl (0 < c ∧ c < 1073741824 ∧ -(2 ^ 39) ≤ i ∧ i ≤ 2 ^ 39 ∧ -(2 ^ 39) ≤ j ∧ j ≤ 2 ^ 39)
def stepN (i j c : Int) : Nat := if i < j then ((j - i - 1) / c + 1).toNat else 0
/-- range(i, j, c), c above 0 -/
theorem itm_rup {i j c' : Int} {t : Expr} {p : Pos} (h : Ev X H0 ρ a (.int i)) (h2 : Ev X H0 ρ b (.int j)) (h3 : Ev X H0 ρ c (.int c')) (bb : stepOk i j c' = true) (hm : X.mg "range" = none) (hg : Gl X "range" := by rfl)
    (hs : ∀ l, PA X [a, b, c] l → PI X t (.Call (.Name "range" p) [a, b, c] [] pos) (iRng3 l)) (s1 : starEach [a, b, c] X.env = (false, eval a X.env) :: starEach [b, c] X.env := by rfl) (s2 : starEach [b, c] X.env = (false, eval b X.env) :: starEach [c] X.env := by rfl) (s3 : starEach [c] X.env = (false, eval c X.env) :: starEach [] X.env := by rfl) : Iter X H0 ρ t (.Call (.Name "range" p) [a, b, c] [] pos) ((rng i c' (stepN i j c')).map Dat.int) := by
  unfold stepOk at bb
  obtain ⟨b1, b2, b3, b4, b5, b6⟩ := cl_of bb
  have hn : ((stepN i j c' : Nat) : Int) = if i < j then (j - i - 1) / c' + 1 else 0 := by
    unfold stepN
    split
    · have : 0 ≤ (j - i - 1) / c' := Int.ediv_nonneg (by omega) (by omega)
      omega
    · rfl
  have := it_range3 (pos := pos) (p := p) (t := t) h h2 h3 (rgc_pos b1 b2 b3 b4 b5 b6 hn) hm hg hs s1 s2 s3
  rw [rng_steps] at this
  exact this
theorem itm_ol {l : List α} (f : ∀ a, flat (en a) = true) (i : Nat) {t : Expr} {x : Str} (h : ρ[i]? = some (.ol (lstd en l))) (hN : X.N[i]? = some x := by rfl) (hv : Vis X.env.scope x := by first | exact Or.inl rfl | exact Or.inr (Or.inl rfl) | exact Or.inr (Or.inr rfl)) (hd : (x == ("__debug__" : Str)) = false := by decide)
    (hcd : (x == ("__classdict__" : Str)) = false := by decide) : Iter X H0 ρ t (.Name x pos) (l.map en) := it_ol i h (flats_map f l) hN hv hd hcd
end
end B

namespace B
open PySem PySem.Spec PyProof.Rows L2
section
variable {S S' L R α : Type}
def M.seqN (m : M (Fl S L Empty)) (k : S → M α) : M α := match m with
  | .ok (.nx s) => k s
  | .ex n => .ex n
  | _ => .far
@[simp] theorem M.seqN_nx (s : S) (k : S → M α) : (M.ok (Fl.nx s : Fl S L Empty)).seqN k = k s := id rfl
end
/-- what data are -/
def strOf : Dat → Option (List Nat)
  | .str s => some s.cps.toList
  | _ => none
theorem strOf_ok {d : Dat} {l : List Nat} (h : strOf d = some l) : d = tx l := by
  cases d <;> simp [strOf] at h
  subst h
  rfl
@[simp] theorem strOf_tx (l : List Nat) : strOf (tx l) = some l := id rfl
def intOf : Dat → Option Int
  | .int i => some i
  | _ => none
theorem intOf_ok {d : Dat} {i : Int} (h : intOf d = some i) : d = .int i := by
  cases d <;> simp [intOf] at h
  subst h
  rfl
@[simp] theorem intOf_int (i : Int) : intOf (.int i) = some i := id rfl
def tupOf : Dat → Option (List Dat)
  | .tup ds => some ds
  | _ => none
theorem tupOf_ok {d : Dat} {l : List Dat} (h : tupOf d = some l) : d = tpnd idd l := by
  cases d <;> simp [tupOf] at h
  subst h
  simp [tpnd]
def datIx (d : Dat) (i : Int) : Option Dat := match d with
  | .tup ds => atI ds i
  | .lst ds => atI ds i
  | _ => none
abbrev fndX (l m : List Nat) : Int := Txt.find (SX.S l) (SX.S m)
abbrev cntX (l m : List Nat) : Int := Txt.count (SX.S l) (SX.S m)
theorem fndX_one {l : List Nat} {c : Nat} (h : c ∈ l) : fndX l [c] = ((l.idxOf c : Nat) : Int) := find_one h
theorem cntX_one (l : List Nat) (c : Nat) : cntX l [c] = ((l.count c : Nat) : Int) := count_one l c
@[irreducible] noncomputable def joinOk (l : List Nat) (yss : List (List Nat)) : Bool := cl ((yss.map (·.length)).sum + yss.length * l.length ≤ 16777216)
theorem joinOk_ok {l : List Nat} {yss : List (List Nat)} (h : joinOk l yss = true) : (yss.map (·.length)).sum + yss.length * l.length ≤ 16777216 := by unfold joinOk at h; exact cl_of h
/-- sep.join of signs -/
def joinC (l : List Nat) (cs : List Nat) : List Nat := TL.joinL l (cs.map fun c => [c])
noncomputable def joinOkC (l : List Nat) (cs : List Nat) : Bool := joinOk l (cs.map fun c => [c])
section
variable {X : Cx} {H0 : Hp} {ρ ρ0 ρ1 ρ2 : Env'} {α β γ S S' L L' R : Type} {a b c e t iter : Expr} {es : List Expr} {st : Stmt} {sts rest body : List Stmt} {d d1 d2 : Dat} {ds : List Dat} {p pos : Pos} {o o1 : Outc} {x n : Str} {k : Nat} {D : γ → Outc} {m : M α} {en : α → Dat}
theorem eom_get {v : α} (h : EoM X H0 ρ e en m) (q : m = .ok v) : EvO X H0 ρ e (en v) := by subst q; exact h
theorem evm_call0 {R : List Dat → Res → Prop} {kk : Nat} (G : GFn X.prog X.w X.K X.mg X.base x kk R) (hr : Room kk X.A) (q : ∀ o, Rm en m o → R [] o) (hg : Gl X x := by rfl) (hdb : (x == ("__debug__" : Str)) = false := by decide) : EvM X H0 ρ (.Call (.Name x p) [] [] pos) en m.nox := by
  cases m with
  | ok v => exact ev_call0 G hr (q _ rfl) hg hdb
  | ex n => trivial
  | far => trivial
theorem ev_datIx {v : Dat} {i : Int} (ha : Ev X H0 ρ a d) (hb : Ev X H0 ρ b (.int i)) (h : datIx d i = some v) (hs : PlainIx b := by exact fun _ _ => rfl) : Ev X H0 ρ (.Subscript a b pos) v := by
  cases d with
  | tup ds => exact ev_ixT ha hb h hs
  | lst ds => exact ev_ixL ha hb h hs
  | _ => cases h
theorem eb_datIx {v : Dat} {i : Int} (ha : EvB X H0 ρ a d) (hb : Ev X H0 ρ b (.int i)) (h : datIx d i = some v) (hs : PlainIx b := by exact fun _ _ => rfl) : EvB X H0 ρ (.Subscript a b pos) v := by
  cases d with
  | tup ds => exact eb_ixT ha hb h hs
  | lst ds => exact eb_ixL ha hb h hs
  | _ => cases h
theorem it_tupD {l : List Dat} (h : Ev X H0 ρ e d) (q : tupOf d = some l) : Iter X H0 ρ t e (l.map idd) := by
  rw [tupOf_ok q] at h
  exact it_tup h
theorem optd_isN (o : Option α) : isNon (optd en o) = isNon (optd en o) := rfl
/-! ### constants of the module -/
theorem ev_cstI {i : Int} (h : ∃ t, X.mg x = some (.int i t)) (hg : Gl X x := by rfl) (hd : (x == ("__debug__" : Str)) = false := by decide) : Ev X H0 ρ (.Name x pos) (.int i) := fun σ H N r => by
  obtain ⟨t, h⟩ := h
  exact we_of (pe_glob (v := .int i) hg h ⟨_, rfl⟩ hd) ⟨N, Same.refl _, Same.refl _, r, .int _⟩
theorem ev_cstS {l : List Nat} (h : ∃ t, X.mg x = some (.str (SX.S l) t)) (hg : Gl X x := by rfl) (hd : (x == ("__debug__" : Str)) = false := by decide) : Ev X H0 ρ (.Name x pos) (tx l) := fun σ H N r => by
  obtain ⟨t, h⟩ := h
  exact we_of (pe_glob (v := .str (SX.S l)) hg h ⟨_, rfl⟩ hd) ⟨N, Same.refl _, Same.refl _, r, .str _⟩
/-! ### flows without return -/
theorem ex_flowN {eS : S → Env'} {eL : L → Env'} {oR : Empty → Outc} {mf : M (Fl S L Empty)} {f : S → M γ} (h : ExSM X H0 ρ k st (Fl.D eS eL oR) mf) (tt : ∀ s, ExM X H0 (eS s) k rest D (f s)) : ExM X H0 ρ k (st :: rest) D (M.seqN mf f) := by
  cases mf with
  | ok v =>
    cases v with
    | nx s => exact xm_then h (tt s)
    | ct s => trivial
    | bk s => trivial
    | rt r => exact nomatch r
  | ex n => exact ex_out (o := .ex n (List.replicate k .no)) h trivial
  | far => trivial
section
variable {ea : β → Dat} {bd : Dat → Env' → Env'} {ok : Dat → Prop}
theorem xm_forN {eS : S → Env'} {xs : List β} {s0 : S} {f : β → S → M (Fl S S Empty)} {fk : S → M γ} (hp : PassesOwn (model X.prog X.w) X.A X.env X.xe) (hc : X.calm = true) (hi : Iter X H0 ρ t iter (xs.map ea)) (hg : Tgt X H0 t ok bd) (hok : ∀ d ∈ xs.map ea, ok d) (h0 : ρ = eS s0) (hb : ∀ x s, ExM X H0 (bd (ea x) (eS s)) k body (Fl.D eS eS (fun (r : Empty) => nomatch r)) (f x s)) (tt : ∀ s, ExM X H0 (eS s) k rest D (fk s))
    (hs : ∀ x, foldedSetIterable iter X.env x = pure x := by intro _; rfl) : ExM X H0 ρ k (.For t iter body [] pos :: rest) D (M.seqN (forF f xs s0 : M (Fl S S Empty)) fk) := ex_flowN (eL := eS) (sx_forM (fun r => nomatch r) hp hc hi hg hok h0 hb hs) tt
end
theorem xm_whileN {eS : S → Env'} {s0 : S} {cm : S → M Bool} {f : S → M (Fl S S Empty)} {fk : S → M γ} {fuel : Nat} (hp : PassesOwn (model X.prog X.w) X.A X.env X.xe) (h0 : ρ = eS s0) (hc : ∀ s, EtM X H0 (eS s) c (cm s)) (hb : ∀ s, ExM X H0 (eS s) k body (Fl.D eS eS (fun (r : Empty) => nomatch r)) (f s)) (tt : ∀ s, ExM X H0 (eS s) k rest D (fk s)) :
    ExM X H0 ρ k (.While c body [] pos :: rest) D (M.seqN (whileF cm f fuel s0 : M (Fl S S Empty)) fk) := ex_flowN (eL := eS) (sx_whileM (fun r => nomatch r) hp h0 hc hb) tt
theorem xm_par2 {ea : α → Dat} {eb : β → Dat} {v : α} {u : β} {f : α × β → M γ} (i j : Nat) {y z : Str} {px py pt : Pos} {kt k2 pt2} (ha : Ev X H0 ρ a (ea v)) (hb : Ev X H0 ρ b (eb u)) (nd : X.N.Nodup) (hc : X.calm = true) (hij : i ≠ j) (tt : ∀ q : α × β, ExM X H0 ((ρ.set i (.im (ea q.1))).set j (.im (eb q.2))) k rest D (f q)) (hi : X.N[i]? = some y := by rfl) (hj : X.N[j]? = some z := by rfl)
    (hx : X.env.scope.names.lookup y = some .local := by rfl) (hy : X.env.scope.names.lookup z = some .local := by rfl) (hw : swappedStores [.Tuple [.Name y px, .Name z py] kt pt] (.Tuple [a, b] k2 pt2) X.env = pure (some [y, z]) := by rfl)
    (hs : swapsWithSole [.Tuple [.Name y px, .Name z py] kt pt] (.Tuple [a, b] k2 pt2) pos.line X.env = pure false := by rfl) (h1 : starEach [a, b] X.env = (false, eval a X.env) :: starEach [b] X.env := by rfl) (h2 : starEach [b] X.env = (false, eval b X.env) :: starEach [] X.env := by rfl) :
    ExM X H0 ρ k (.Assign [.Tuple [.Name y px, .Name z py] kt pt] (.Tuple [a, b] k2 pt2) pos :: rest) D (M.lt (v, u) f) := xm_then (sx_par i j ha hb nd hc hij rfl hi hj hx hy hw hs h1 h2) (tt (v, u))
/-! ### further expressions -/
theorem ev_joinCm {l cs : List Nat} {apos : Pos} (ha : Ev X H0 ρ a (tx l)) (hb : EvB X H0 ρ b (lstd chd cs)) (hz : joinOkC l cs = true)
    (hs : starEach [b] X.env = [(false, eval b X.env)] := by rfl) (hbase : attributeBase a "join" X.env (eval a X.env) = eval a X.env := by rfl) (hline : (apos.endLine == pos.line) = true := by rfl) :
    Ev X H0 ρ (.Call (.Attribute a "join" apos) [b] [] pos) (tx (joinC l cs)) := ev_joinX ha (eb_to hb (by show Dat.lst (cs.map chd) = .lst ((cs.map fun c => [c]).map tx); rw [List.map_map]; rfl)) (joinOk_ok hz) hs hbase hline
/-- list + list, both new -/
theorem eo_catLm {l m : List α} (ha : EvO X H0 ρ a (lstd en l)) (hb : EvO X H0 ρ b (lstd en m)) (h : catOk l m = true) : EvO X H0 ρ (.BinOp a .Add b pos) (lstd en (l ++ m)) := fun σ H N rp =>
  we_of (pe_op op_cat pe_w pe_w) ((ha σ H N rp).imp fun v H1 ⟨N1, p1, e1, hp1, s1, n1, r1, np1, vs, g1, h2⟩ => (hb σ H1 N1 r1).imp fun w H2 ⟨N2, p2, e2, hp2, s2, n2, r2, np2, ws, g2, h4⟩ => by
    have hz := catOk_ok h
    refine ⟨p1, p2, vs, ws, e1, e2, s2 _ _ g1, g2, by rw [h2.length, h4.length, List.length_map, List.length_map]; exact hz, fun q hq => ?_⟩
    obtain ⟨r5, n5⟩ := eo_new (o := .lst (vs ++ ws)) r2 hq
    refine ⟨N2, q, rfl, (s1.trans s2).free hq, (s1.trans s2).trans (Same.of_none hq), n1.trans n2, r5, n5, vs ++ ws, upd_same, ?_⟩
    rw [List.map_append]
    exact (h2.mono n2).append h4)
/-- x += y of texts -/
theorem xm_augS {v u : List Nat} {f : List Nat → M γ} (i : Nat) {y : Str} {pos' : Pos} (hi : ρ[i]? = some (.im (tx v))) (h : Ev X H0 ρ e (tx u)) (hz : v.length + u.length ≤ sizeLine) (nd : X.N.Nodup) (tt : ∀ x, ExM X H0 (ρ.set i (.im (tx x))) k rest D (f x)) (hN : X.N[i]? = some y := by rfl) (hx : Loc X.env.scope y := by first | exact Or.inl rfl | exact Or.inr rfl)
    (hp : ∀ te, PE X e te → PS X (.AugAssign (.Name y pos') .Add e pos) (tAug i te (fun x y H Q => ∃ i j, x = .str i ∧ y = .str j ∧ i.length + j.length ≤ sizeLine ∧ Q (.str (i ++ j)) H)) := by exact fun te h => ps_aug (by assumption) rfl (by first | exact Or.inl rfl | exact Or.inr rfl) h iop_add_str) :
    ExM X H0 ρ k (.AugAssign (.Name y pos') .Add e pos :: rest) D (M.lt (v ++ u) f) := by
  refine xm_then (ρ1 := ρ.set i (.im (tx (v ++ u)))) (fun Dd σ H N r kk => ?_) (tt (v ++ u))
  obtain ⟨w, h1, h2⟩ := r.im i _ hi
  refine ws_of (hp _ pe_w) ⟨w, h1, (h σ H N r).imp fun w2 H' ⟨N', s, n, r', a⟩ => ⟨_, _, at_str h2, at_str a, by rw [SX.S_len, SX.S_len]; exact hz, kk _ H' N' n ?_⟩⟩
  rw [SX.S_cat]
  exact r'.setE (e := .im (tx _)) (.str _)
end
theorem FnOk_sub {P : Program} {w : World} {K : PySem.W.Frag} {mg : Str → Option Value} {base : Heap} {k : Nat} {f : Addr} {fd : FuncData} {ps : List Str} {R R' : List Dat → Res → Prop} (h : ∀ ds o, R' ds o → R ds o) (F : FnOk P w K mg base (L2.CX P w) k f fd ps (spR K mg R)) : FnOk P w K mg base (L2.CX P w) k f fd ps (spR K mg R') := F.imp fun vs H Q E ⟨ds, o, q, r⟩ => ⟨ds, o, h ds o q, r⟩
end B

namespace B
open PySem PySem.Spec PyProof.Rows L2
/-! ### plain words on mirrors -/
theorem mulOk_i {i j : Int} (m n : Nat) (h1 : i.natAbs < 2 ^ m) (h2 : j.natAbs < 2 ^ n) (h0 : 0 < m) (h0' : 0 < n) (h : m + n ≤ 1000000) : mulOk i j = true := by unfold mulOk; exact cl_i (mul_ok m n h1 h2 h0 h0' h)
theorem mulOk_l {i j : Int} (h1 : -(2 ^ 64) < i) (h2 : i < 2 ^ 64) : mulOk i j = true := by unfold mulOk; exact cl_i (mul_l h1 h2)
theorem mulOk_r {i j : Int} (h1 : -(2 ^ 64) < j) (h2 : j < 2 ^ 64) : mulOk i j = true := by unfold mulOk; exact cl_i (mul_r h1 h2)
theorem mulOk_x {i j : Int} (h : (Builtin.Int.intBits i : Int) + (Builtin.Int.intBits j : Int) ≤ 134217728) : mulOk i j = true := by unfold mulOk; exact cl_i (CMulX.ok h)
theorem divOk_i {j : Int} (h1 : 0 < j) (h2 : j.natAbs.log2 < 9000) : divOk j = true := by unfold divOk; exact cl_i ⟨h1, h2⟩
theorem fdivOk_i {j : Int} (h1 : j ≠ 0) (h2 : j.natAbs.log2 < 9000) : fdivOk j = true := by unfold fdivOk; exact cl_i ⟨h1, h2⟩
theorem shlOk_i {i j : Int} (h0 : 0 ≤ j) (h : (Builtin.Int.intBits i : Int) + j ≤ 2 ^ 27) : shlOk i j = true := by unfold shlOk; exact cl_i ⟨h0, h⟩
theorem powOk_i {i j : Int} (h : CPow i j) : powOk i j = true := by unfold powOk; exact cl_i h
theorem lenOk_i {α : Type} {l : List α} (h : l.length ≤ 16777216) : lenOk l = true := by unfold lenOk; exact cl_i h
theorem lenLt_i {α : Type} {l : List α} (h : l.length < 16777216) : lenLt l = true := by unfold lenLt; exact cl_i h
theorem catOk_i {α : Type} {l m : List α} (h : l.length + m.length ≤ 16777216) : catOk l m = true := by unfold catOk; exact cl_i h
theorem rngOk_i {i j : Int} (h1 : -(2 ^ 62) ≤ i) (h2 : i < 2 ^ 62) (h3 : -(2 ^ 62) ≤ j) (h4 : j < 2 ^ 62) : rngOk i j = true := by unfold rngOk; exact cl_i ⟨h1, h2, h3, h4⟩
theorem repOk_i {α : Type} {l : List α} {n : Int} (h1 : -100000 ≤ n) (h2 : n ≤ 100000) (h3 : l.length ≤ 100) : repOk l n = true := by unfold repOk; exact cl_i ⟨h1, h2, h3⟩
theorem log2_9000 {j : Nat} {m : Nat} (h : j < 2 ^ m) (hm : m ≤ 9000) : j.log2 < 9000 := by
  by_cases h0 : j = 0
  · rw [h0]; decide
  · have h1 : 2 ^ j.log2 ≤ j := Nat.log2_self_le h0
    have h2 : 2 ^ j.log2 < 2 ^ m := by omega
    have h4 := (Nat.pow_lt_pow_iff_right (by decide)).mp h2
    omega
section
variable {α β S S' L R : Type}
theorem forM_ix {f : α → S → M S} : ∀ {xs : List α} (st : Nat → S), (∀ i (h : i < xs.length), f xs[i] (st i) = .ok (st (i + 1))) → forM f xs (st 0) = .ok (st xs.length)
  | [], st, _ => rfl
  | x :: xs, st, h => by
    show (f x (st 0)).bind _ = _
    rw [show f x (st 0) = .ok (st 1) from h 0 (Nat.succ_pos _)]
    exact forM_ix (fun i => st (i + 1)) fun i hi => h (i + 1) (Nat.succ_lt_succ hi)
theorem forM_fold {f : α → S → M S} {g : S → α → S} {I : S → Prop} : ∀ {xs : List α} {s : S}, I s → (∀ x ∈ xs, ∀ s, I s → f x s = .ok (g s x) ∧ I (g s x)) → forM f xs s = .ok (xs.foldl g s) ∧ I (xs.foldl g s)
  | [], s, h, _ => ⟨rfl, h⟩
  | x :: xs, s, h, k => by
    obtain ⟨h1, h2⟩ := k x List.mem_cons_self s h
    show (f x s).bind _ = _ ∧ _
    rw [h1]
    exact forM_fold h2 fun y hy => k y (List.mem_cons_of_mem _ hy)
theorem rng_len (lo c : Int) (n : Nat) : (rng lo c n).length = n := by unfold rng; simp
theorem rng_get (lo c : Int) (n i : Nat) (h : i < (rng lo c n).length) : (rng lo c n)[i] = lo + (i : Int) * c := by simp only [rng, List.getElem_map, List.getElem_range]
theorem rng_mem {lo c : Int} {n : Nat} {x : Int} (h : x ∈ rng lo c n) : ∃ i : Nat, i < n ∧ x = lo + (i : Int) * c := by
  unfold rng at h
  obtain ⟨i, h1, rfl⟩ := List.mem_map.mp h
  exact ⟨i, List.mem_range.mp h1, rfl⟩
theorem forM_rng {f : Int → S → M S} {n : Nat} (st : Nat → S) (h : ∀ i : Nat, i < n → f (i : Int) (st i) = .ok (st (i + 1))) : forM f (rng 0 1 n) (st 0) = .ok (st n) := by
  have := forM_ix (f := f) (xs := rng 0 1 n) st fun i hi => by
    rw [rng_get, show (0 + (i : Int) * 1) = (i : Int) by omega]
    exact h i (by rwa [rng_len] at hi)
  rwa [rng_len] at this
theorem forM_rngS {f : Int → S → M S} {n : Nat} {s0 : S} (st : Nat → S) (h0 : st 0 = s0) (h : ∀ i : Nat, i < n → f (i : Int) (st i) = .ok (st (i + 1))) : forM f (rng 0 1 n) s0 = .ok (st n) := h0 ▸ forM_rng st h
theorem bind_rng {β : Type} {f : Int → S → M S} {n : Nat} {s0 : S} {k : S → M β} {r : M β} (st : Nat → S) (h0 : st 0 = s0) (h : ∀ i : Nat, i < n → f (i : Int) (st i) = .ok (st (i + 1))) (hk : k (st n) = r) : M.bind (forM f (rng 0 1 n) s0) k = r := by rw [forM_rngS st h0 h]; exact hk
theorem forF_ix {f : α → S → M (Fl S S R)} : ∀ {xs : List α} (st : Nat → S), (∀ i (h : i < xs.length), f xs[i] (st i) = .ok (.nx (st (i + 1))) ∨ f xs[i] (st i) = .ok (.ct (st (i + 1)))) → (forF f xs (st 0) : M (Fl S L R)) = .ok (.nx (st xs.length))
  | [], st, _ => rfl
  | x :: xs, st, h => by
    unfold forF
    rcases h 0 (Nat.succ_pos _) with h0 | h0
    · rw [show f x (st 0) = .ok (.nx (st 1)) from h0]
      exact forF_ix (fun i => st (i + 1)) fun i hi => h (i + 1) (Nat.succ_lt_succ hi)
    · rw [show f x (st 0) = .ok (.ct (st 1)) from h0]
      exact forF_ix (fun i => st (i + 1)) fun i hi => h (i + 1) (Nat.succ_lt_succ hi)
theorem forF_rng {f : Int → S → M (Fl S S R)} {n : Nat} (st : Nat → S) (h : ∀ i : Nat, i < n → f (i : Int) (st i) = .ok (.nx (st (i + 1))) ∨ f (i : Int) (st i) = .ok (.ct (st (i + 1)))) : (forF f (rng 0 1 n) (st 0) : M (Fl S L R)) = .ok (.nx (st n)) := by
  have := forF_ix (L := L) (f := f) (xs := rng 0 1 n) st fun i hi => by
    rw [rng_get, show (0 + (i : Int) * 1) = (i : Int) by omega]
    exact h i (by rwa [rng_len] at hi)
  rwa [rng_len] at this
theorem forF_rngS {f : Int → S → M (Fl S S R)} {n : Nat} {s0 : S} (st : Nat → S) (h0 : st 0 = s0) (h : ∀ i : Nat, i < n → f (i : Int) (st i) = .ok (.nx (st (i + 1))) ∨ f (i : Int) (st i) = .ok (.ct (st (i + 1)))) : (forF f (rng 0 1 n) s0 : M (Fl S L R)) = .ok (.nx (st n)) := h0 ▸ forF_rng st h
/-- each turn goes on, some state that keeps I -/
theorem forF_inv {f : α → S → M (Fl S S R)} {I : S → Prop} : ∀ {xs : List α} {s : S}, I s → (∀ x ∈ xs, ∀ s, I s → ∃ s', (f x s = .ok (.nx s') ∨ f x s = .ok (.ct s')) ∧ I s') → ∃ s', (forF f xs s : M (Fl S L R)) = .ok (.nx s') ∧ I s'
  | [], s, h, _ => ⟨s, rfl, h⟩
  | x :: xs, s, h, k => by
    obtain ⟨s1, h1, h2⟩ := k x List.mem_cons_self s h
    obtain ⟨s2, h3, h4⟩ := forF_inv (xs := xs) h2 fun y hy => k y (List.mem_cons_of_mem _ hy)
    refine ⟨s2, ?_, h4⟩
    unfold forF
    rcases h1 with h1 | h1 <;> rw [h1] <;> exact h3
theorem forM_inv {f : α → S → M S} {I : S → Prop} : ∀ {xs : List α} {s : S}, I s → (∀ x ∈ xs, ∀ s, I s → ∃ s', f x s = .ok s' ∧ I s') → ∃ s', forM f xs s = .ok s' ∧ I s'
  | [], s, h, _ => ⟨s, rfl, h⟩
  | x :: xs, s, h, k => by
    obtain ⟨s1, h1, h2⟩ := k x List.mem_cons_self s h
    obtain ⟨s2, h3, h4⟩ := forM_inv (xs := xs) h2 fun y hy => k y (List.mem_cons_of_mem _ hy)
    refine ⟨s2, ?_, h4⟩
    show (f x s).bind _ = _
    rw [h1]
    exact h3
theorem forM_invN {f : α → S → M S} : ∀ {xs : List α} {s : S} (I : Nat → S → Prop), I 0 s → (∀ (i : Nat) (x : α), xs[i]? = some x → ∀ s, I i s → ∃ s', f x s = .ok s' ∧ I (i + 1) s') → ∃ s', forM f xs s = .ok s' ∧ I xs.length s'
  | [], s, I, h, _ => ⟨s, rfl, h⟩
  | x :: xs, s, I, h, k => by
    obtain ⟨s1, h1, h2⟩ := k 0 x rfl s h
    obtain ⟨s2, h3, h4⟩ := forM_invN (xs := xs) (fun i => I (i + 1)) h2 fun i y hy => k (i + 1) y hy
    refine ⟨s2, ?_, h4⟩
    show (f x s).bind _ = _
    rw [h1]
    exact h3
theorem forF_invN {f : α → S → M (Fl S S R)} : ∀ {xs : List α} {s : S} (I : Nat → S → Prop), I 0 s → (∀ (i : Nat) (x : α), xs[i]? = some x → ∀ s, I i s → ∃ s', (f x s = .ok (.nx s') ∨ f x s = .ok (.ct s')) ∧ I (i + 1) s') → ∃ s', (forF f xs s : M (Fl S L R)) = .ok (.nx s') ∧ I xs.length s'
  | [], s, I, h, _ => ⟨s, rfl, h⟩
  | x :: xs, s, I, h, k => by
    obtain ⟨s1, h1, h2⟩ := k 0 x rfl s h
    obtain ⟨s2, h3, h4⟩ := forF_invN (xs := xs) (fun i => I (i + 1)) h2 fun i y hy => k (i + 1) y hy
    refine ⟨s2, ?_, h4⟩
    unfold forF
    rcases h1 with h1 | h1 <;> rw [h1] <;> exact h3
section
variable {Q : M β → Prop} {xs : List α} {s0 : S}
/-- loops in a goal: an invariant by the number of turns -/
theorem bind_forN {f : α → S → M S} {k : S → M β} (I : Nat → S → Prop) (h0 : I 0 s0) (h : ∀ (i : Nat) (x : α), xs[i]? = some x → ∀ s, I i s → ∃ s', f x s = .ok s' ∧ I (i + 1) s') (hk : ∀ s, I xs.length s → Q (k s)) : Q (M.bind (forM f xs s0) k) := by
  obtain ⟨s', h1, h2⟩ := forM_invN I h0 h
  rw [h1]
  exact hk s' h2
/-- .. by the state alone -/
theorem bind_forI {f : α → S → M S} {k : S → M β} (I : S → Prop) (h0 : I s0) (h : ∀ x ∈ xs, ∀ s, I s → ∃ s', f x s = .ok s' ∧ I s') (hk : ∀ s, I s → Q (k s)) : Q (M.bind (forM f xs s0) k) := by
  obtain ⟨s', h1, h2⟩ := forM_inv (I := I) h0 h
  rw [h1]
  exact hk s' h2
/-- .. as a fold -/
theorem bind_forG {f : α → S → M S} {k : S → M β} (g : S → α → S) (I : S → Prop) (h0 : I s0) (h : ∀ x ∈ xs, ∀ s, I s → f x s = .ok (g s x) ∧ I (g s x)) (hk : I (xs.foldl g s0) → Q (k (xs.foldl g s0))) : Q (M.bind (forM f xs s0) k) := by
  obtain ⟨h1, h2⟩ := forM_fold (I := I) h0 h
  rw [h1]
  exact hk h2
theorem seqT_forN {Q : M R → Prop} {f : α → S → M (Fl S S R)} {k : S → M R} (I : Nat → S → Prop) (h0 : I 0 s0) (h : ∀ (i : Nat) (x : α), xs[i]? = some x → ∀ s, I i s → ∃ s', (f x s = .ok (.nx s') ∨ f x s = .ok (.ct s')) ∧ I (i + 1) s') (hk : ∀ s, I xs.length s → Q (k s)) : Q (M.seqT (forF f xs s0 : M (Fl S L R)) k) := by
  obtain ⟨s', h1, h2⟩ := forF_invN (L := L) I h0 h
  rw [h1]
  exact hk s' h2
theorem seqT_forI {Q : M R → Prop} {f : α → S → M (Fl S S R)} {k : S → M R} (I : S → Prop) (h0 : I s0) (h : ∀ x ∈ xs, ∀ s, I s → ∃ s', (f x s = .ok (.nx s') ∨ f x s = .ok (.ct s')) ∧ I s') (hk : ∀ s, I s → Q (k s)) : Q (M.seqT (forF f xs s0 : M (Fl S L R)) k) := by
  obtain ⟨s', h1, h2⟩ := forF_inv (L := L) (I := I) h0 h
  rw [h1]
  exact hk s' h2
theorem seq_forI {L' S' : Type} {Q : M (Fl S' L R) → Prop} {f : α → S → M (Fl S S R)} {k : S → M (Fl S' L R)} (I : S → Prop) (h0 : I s0) (h : ∀ x ∈ xs, ∀ s, I s → ∃ s', (f x s = .ok (.nx s') ∨ f x s = .ok (.ct s')) ∧ I s') (hk : ∀ s, I s → Q (k s)) : Q (M.seq (forF f xs s0 : M (Fl S L R)) k) := by
  obtain ⟨s', h1, h2⟩ := forF_inv (L := L) (I := I) h0 h
  rw [h1]
  exact hk s' h2
end
/-- the first turn that leaves the def -/
theorem forF_rt {f : α → S → M (Fl S S R)} {r : R} : ∀ (pre : List α) {x : α} {suf : List α} (st : Nat → S), (∀ i (h : i < pre.length), f pre[i] (st i) = .ok (.nx (st (i + 1)))) → f x (st pre.length) = .ok (.rt r) → (forF f (pre ++ x :: suf) (st 0) : M (Fl S L R)) = .ok (.rt r)
  | [], x, suf, st, _, h => by
    show (forF f (x :: suf) (st 0) : M (Fl S L R)) = _
    unfold forF
    rw [show f x (st 0) = _ from h]
  | y :: pre, x, suf, st, k, h => by
    show (forF f (y :: (pre ++ x :: suf)) (st 0) : M (Fl S L R)) = _
    unfold forF
    rw [show f y (st 0) = .ok (.nx (st 1)) from k 0 (Nat.succ_pos _)]
    exact forF_rt pre (fun i => st (i + 1)) (fun i hi => k (i + 1) (Nat.succ_lt_succ hi)) h
theorem whileM_le {c : S → M Bool} {f : S → M S} : ∀ {n m : Nat} {s s' : S}, whileM c f n s = .ok s' → n ≤ m → whileM c f m s = .ok s'
  | 0, _, _, _, h, _ => by unfold whileM at h; cases h
  | n + 1, 0, _, _, _, hm => by omega
  | n + 1, m + 1, s, s', h, hm => by
    unfold whileM at h ⊢
    cases ec : c s with
    | ok b =>
      rw [ec] at h
      cases b with
      | false => exact h
      | true =>
        cases ef : f s with
        | ok s1 =>
          simp only [M.bind_ok, ↓reduceIte, ef] at h ⊢
          exact whileM_le h (Nat.le_of_succ_le_succ hm)
        | ex n => simp [ef] at h
        | far => simp [ef] at h
    | ex n => rw [ec] at h; cases h
    | far => rw [ec] at h; cases h
theorem whileM_done {c : S → M Bool} {f : S → M S} {n : Nat} {s : S} (h : c s = .ok false) : whileM c f (n + 1) s = .ok s := by unfold whileM; rw [h]; rfl
theorem whileM_turn {c : S → M Bool} {f : S → M S} {n : Nat} {s s' : S} (h : c s = .ok true) (h2 : f s = .ok s') : whileM c f (n + 1) s = whileM c f n s' := by
  conv => lhs; unfold whileM
  rw [h, M.bind_ok, if_pos rfl, h2, M.bind_ok]
/-- a while by a measure -/
theorem whileM_by {c : S → M Bool} {f : S → M S} {I : S → Prop} (μ : S → Nat) (h : ∀ s, I s → (c s = .ok false) ∨ (c s = .ok true ∧ ∃ s', f s = .ok s' ∧ I s' ∧ μ s' < μ s)) : ∀ (n : Nat) {s : S}, I s → μ s < n → ∃ s', whileM c f n s = .ok s' ∧ I s' ∧ c s' = .ok false
  | 0, _, _, hn => by omega
  | n + 1, s, hI, hn => by
    rcases h s hI with h0 | ⟨h1, s1, h2, h3, h4⟩
    · exact ⟨s, whileM_done h0, hI, h0⟩
    · rw [whileM_turn h1 h2]
      exact whileM_by μ h n h3 (by omega)
variable {Q : M β → Prop} {s0 : S}
theorem bind_while {c : S → M Bool} {f : S → M S} {n : Nat} {k : S → M β} (I : S → Prop) (μ : S → Nat) (h0 : I s0) (hn : μ s0 < n) (h : ∀ s, I s → (c s = .ok false) ∨ (c s = .ok true ∧ ∃ s', f s = .ok s' ∧ I s' ∧ μ s' < μ s)) (hk : ∀ s, I s → c s = .ok false → Q (k s)) : Q (M.bind (whileM c f n s0) k) := by
  obtain ⟨s', h1, h2, h3⟩ := whileM_by (I := I) μ h n h0 hn
  rw [h1]
  exact hk s' h2 h3
theorem compM_map {f : α → M Bool} {g : α → M β} {k : α → β} : ∀ {xs : List α}, (∀ x ∈ xs, f x = .ok true) → (∀ x ∈ xs, g x = .ok (k x)) → compM f g xs = .ok (xs.map k)
  | [], _, _ => rfl
  | x :: xs, h1, h2 => by
    unfold compM
    rw [h1 x List.mem_cons_self, M.bind_ok, if_pos rfl, h2 x List.mem_cons_self, M.bind_ok, compM_map (fun y hy => h1 y (List.mem_cons_of_mem _ hy)) (fun y hy => h2 y (List.mem_cons_of_mem _ hy))]
    rfl
theorem compM_filter {f : α → M Bool} {g : α → M β} {p : α → Bool} {k : α → β} : ∀ {xs : List α}, (∀ x ∈ xs, f x = .ok (p x)) → (∀ x ∈ xs, p x = true → g x = .ok (k x)) → compM f g xs = .ok ((xs.filter p).map k)
  | [], _, _ => rfl
  | x :: xs, h1, h2 => by
    unfold compM
    have ih := compM_filter (f := f) (g := g) (p := p) (k := k) (xs := xs) (fun y hy => h1 y (List.mem_cons_of_mem _ hy)) (fun y hy => h2 y (List.mem_cons_of_mem _ hy))
    rw [h1 x List.mem_cons_self, M.bind_ok]
    cases e : p x with
    | true => rw [if_pos rfl, h2 x List.mem_cons_self e, M.bind_ok, ih, List.filter_cons, if_pos e]; rfl
    | false => rw [if_neg (by decide), ih, List.filter_cons, if_neg (by rw [e]; decide)]
end
/-! ### items -/
theorem atI_n {α : Type} {l : List α} {i : Nat} (h : i < l.length) : atI l (i : Int) = some l[i] := by
  have := atI_nat (xs := l) (j := i) (v := l[i]) (by rw [List.getElem?_eq_getElem h])
  exact this
theorem atI_i {α : Type} {l : List α} {i : Int} (h0 : 0 ≤ i) (h : i.toNat < l.length) : atI l i = some l[i.toNat] := by
  have := atI_n h
  rwa [Int.toNat_of_nonneg h0] at this
theorem atI_neg {α : Type} {l : List α} {k : Nat} (h0 : 0 < k) (h : k ≤ l.length) : atI l (-(k : Int)) = some (l[l.length - k]'(by omega)) := by
  unfold atI ixN
  rw [if_neg (by omega), if_pos (by omega)]
  show l[(-(k : Int) + (l.length : Int)).toNat]? = _
  rw [show (-(k : Int) + (l.length : Int)).toNat = l.length - k by omega, List.getElem?_eq_getElem]
theorem setI_n {α : Type} {l : List α} {i : Nat} {v : α} (h : i < l.length) : setI l (i : Int) v = some (l.set i v) := by
  unfold setI ixN
  rw [if_pos (by omega), if_pos (by omega), Int.toNat_natCast]
  rfl
theorem cut_map2 {α β : Type} (f : α → β) (l : List α) (lo hi : Option Int) : cut (l.map f) lo hi = (cut l lo hi).map f := cutm f l lo hi
theorem cut_len2 {α : Type} (l : List α) (lo hi : Option Int) : (cut l lo hi).length ≤ l.length := by
  unfold cut
  rw [List.length_take, List.length_drop]; omega
theorem cut_len3 {α : Type} (l : List α) {i j : Nat} : (cut l (some (i : Int)) (some (j : Int))).length ≤ j - i := by
  have := cut_mid (l := l) (i := (i : Int)) (j := (j : Int)) (by omega) (by omega)
  rw [this]
  simp
  omega
theorem cut_mem {α : Type} {l : List α} {lo hi : Option Int} {x : α} (h : x ∈ cut l lo hi) : x ∈ l := List.mem_of_mem_drop (List.mem_of_mem_take h)
end B

namespace B
open PySem PySem.Spec PyProof.Rows L2
/-! ### try: f(..) except C as e: suite -/
def lookM {S : Type} (n : Str) : List (Str × M S) → M S
  | [] => .far
  | p :: r => if n = p.1 then p.2.nox else lookM n r
def tryM {β S : Type} (mb : M β) (s0 : S) (hs : List (Str × M S)) : M S := match mb with
  | .ok _ => .ok s0
  | .ex n => lookM n hs
  | .far => .far
@[simp] theorem tryM_ok {β S : Type} (b : β) (s0 : S) (hs : List (Str × M S)) : tryM (M.ok b) s0 hs = .ok s0 := id rfl
@[simp] theorem tryM_ex {β S : Type} (n : Str) (s0 : S) (hs : List (Str × M S)) : tryM (M.ex n : M β) s0 hs = lookM n hs := id rfl
theorem lookM_here {S : Type} {n : Str} {h : M S} {r : List (Str × M S)} : lookM n ((n, h) :: r) = h.nox := if_pos rfl
theorem lookM_next {S : Type} {n n' : Str} {h : M S} {r : List (Str × M S)} (q : n ≠ n') : lookM n ((n', h) :: r) = lookM n r := if_neg q
def AllH {S : Type} (P : Str → M S → Prop) : List (Str × M S) → Prop
  | [] => True
  | p :: r => P p.1 p.2 ∧ AllH P r
section
variable {X : Cx} {H0 : Hp} {ρ ρ0 ρ1 ρ2 : Env'} {α β γ S S' L R : Type} {a b c e call : Expr} {es : List Expr} {st : Stmt} {sts rest body : List Stmt} {d d1 d2 : Dat} {ds : List Dat} {p pos : Pos} {o o1 : Outc} {x n : Str} {k : Nat} {D : γ → Outc} {m : M α} {en : α → Dat}
theorem xm_try1 {mb : M β} {eb : β → Dat} {s0 : S} {hs : List (Str × M S)} {eS : S → Env'} {f : S → M γ} {c : Value} {suite : List Stmt} {b₀ : Stmt} {np pos pos' pos'' : Pos} (i : Nat) (is : List Nat)
    (hst : X.stack = X.env :: X.outer) (hfr : X.env.frame = some X.env.locals) (nd : X.N.Nodup) (hc : Names X x c)
    (hb : ∀ (pn : List (Addr × Obj)) (xe : Value → Shared → Prop), PassesOwn (model X.prog X.w) X.A X.env xe → EvM (X.tr pn xe) H0 ρ call eb mb)
    (hok : eS s0 = drops ρ is)
    (hh : AllH (fun n h => (∀ C, X.mg n = some (.ref C) → PySem.W.exmOne X.K (.ref C) c = some true) ∧ ∀ (a C : Addr) (oe : Obj) (pn : List (Addr × Obj)), X.mg n = some (.ref C) → Zc (.ref C) none oe → (∃ vs, oe.data = .fields vs) → ExM (X.suite a ((a, oe) :: pn)) H0 (ρ.set i (.rf a)) k (b₀ :: suite) (fun s => .nx (eS s)) h) hs)
    (hno : ∀ s, (eS s).set i .no = eS s) (tt : ∀ s, ExM X H0 (eS s) k rest D (f s)) (hi : X.N[i]? = some n := by rfl) (hln : X.env.kindOf n = some .local := by rfl)
    (hsw : ∀ pn xe, swapsWith call none pos.line (X.tr pn xe).env = pure false := by intro _ _; rfl) :
    ExM X H0 ρ k (.Try [.Expr call pos] [.ExceptHandler (some (.Name x np)) (some n) (b₀ :: suite) pos'] [] [] pos'' :: rest) D (M.bind (tryM mb s0 hs) f) := by
  cases mb with
  | ok r =>
    have h1 : ExS X H0 ρ (.Try [.Expr call pos] [.ExceptHandler (some (.Name x np)) (some n) (b₀ :: suite) pos'] [] [] pos'') (.nx (eS s0)) :=
      sx_tryN (i := i) hst hfr nd hc (fun pn xe hp => ex_then (sx_expr (hb pn xe hp) (hsw pn xe)) (hok ▸ ex_drops is ex_nil)) (ho := trivial) (hi := hi) (hln := hln)
    exact xm_then h1 (tt s0)
  | ex n' =>
    show ExM X H0 ρ k _ D (M.bind (lookM n' hs) f)
    induction hs with
    | nil => trivial
    | cons q r ih =>
      obtain ⟨⟨he, h1⟩, h2⟩ := hh
      unfold lookM
      by_cases e : n' = q.1
      · rw [if_pos e]
        subst e
        cases eh : q.2 with
        | ok s =>
          have h3 : ExS X H0 ρ (.Try [.Expr call pos] [.ExceptHandler (some (.Name x np)) (some n) (b₀ :: suite) pos'] [] [] pos'') (Outc.un i (.nx (eS s))) :=
            sx_try (i := i) (m := q.1) (ρ1 := ρ) hst hfr nd hc he (fun pn xe hp => ex_one (sx_exprX (hb pn xe hp) (hsw pn xe))) (fun a C oe pn hC hz hf => by
              have := h1 a C oe pn hC hz hf
              rw [eh] at this
              exact this) trivial hi hln
          have h4 : Outc.un i (.nx (eS s)) = .nx (eS s) := by
            show Outc.nx ((eS s).set i .no) = _
            rw [hno s]
          rw [h4] at h3
          exact xm_then h3 (tt s)
        | ex _ => trivial
        | far => trivial
      · rw [if_neg e]
        exact ih h2
  | far => trivial
/-! ### an item of an owned list -/
theorem ev_ixLw {l : List α} {i : Int} {r : α} (j : Nat) {y : Str} {p1 : Pos} (hi : ρ[j]? = some (.ow (lstd en l))) (hb : Ev X H0 ρ b (.int i)) (q : atI l i = some r) (hs : PlainIx b := by exact fun _ _ => rfl) (hN : X.N[j]? = some y := by rfl) (hv : Vis X.env.scope y := by first | exact Or.inl rfl | exact Or.inr (Or.inl rfl) | exact Or.inr (Or.inr rfl))
    (hd : (y == ("__debug__" : Str)) = false := by decide) (hcd : (y == ("__classdict__" : Str)) = false := by decide) : Ev X H0 ρ (.Subscript (.Name y p1) b pos) (en r) := fun σ H N rp => by
  obtain ⟨q0, g1, g2, g3, us, g4, g5⟩ := rp.ow j _ hi
  refine we_of (pe_ix ix_list (pv j hN hv hd hcd) pe_w hs) ⟨_, g1, (hb σ H N rp).imp fun w H2 ⟨N2, s2, n2, r2, a2⟩ => ?_⟩
  obtain ⟨v, e1, e2⟩ := atI_ats (g5.mono n2) (atIm en l i q)
  exact ⟨q0, us, i, v, rfl, at_int a2, .inl (.inl (s2 _ _ g4)), e1, N2, s2, n2, r2, e2⟩
/-! ### is of truths -/
theorem ev_isB {u v : Bool} (ha : Ev X H0 ρ a (.bl u)) (hb : Ev X H0 ρ b (.bl v)) : Ev X H0 ρ (.Compare a [.Is] [b] pos) (.bl (decide (u = v))) :=
  ev_bin (fun _ _ h k => pe_cmpR op_isBl h k (nomark _)) ha.toB hb.toB fun x y σ H N Q r p q g => ⟨u, v, at_bl p, at_bl q, goes_self g r (.bl _)⟩
theorem ev_isnotB {u v : Bool} (ha : Ev X H0 ρ a (.bl u)) (hb : Ev X H0 ρ b (.bl v)) : Ev X H0 ρ (.Compare a [.IsNot] [b] pos) (.bl (!decide (u = v))) :=
  ev_bin (fun _ _ h k => pe_cmpR op_notBl h k (nomark _)) ha.toB hb.toB fun x y σ H N Q r p q g => ⟨u, v, at_bl p, at_bl q, goes_self g r (.bl _)⟩
theorem et_isB {u v : Bool} (ha : Ev X H0 ρ a (.bl u)) (hb : Ev X H0 ρ b (.bl v)) : EvT X H0 ρ (.Compare a [.Is] [b] pos) (decide (u = v)) :=
  evt_bin (fun _ _ h k => pt_cmpR op_isBl h k (nomark _)) ha.toB hb.toB fun x y σ H N Q r p q g => ⟨u, v, at_bl p, at_bl q, goes_self g r (.bl _)⟩
theorem et_isnotB {u v : Bool} (ha : Ev X H0 ρ a (.bl u)) (hb : Ev X H0 ρ b (.bl v)) : EvT X H0 ρ (.Compare a [.IsNot] [b] pos) (!decide (u = v)) :=
  evt_bin (fun _ _ h k => pt_cmpR op_notBl h k (nomark _)) ha.toB hb.toB fun x y σ H N Q r p q g => ⟨u, v, at_bl p, at_bl q, goes_self g r (.bl _)⟩
/-! ### list of a text; tuples of lists -/
end
end B

namespace B
open PySem PySem.Spec PyProof.Rows L2
section
variable {α : Type}
/-! ### dicts whose keys are texts -/
def dget (l : List (List Nat × α)) (k : List Nat) : Option α := (l.find? fun p => decide (p.1 = k)).map (·.2)
def dhas (l : List (List Nat × α)) (k : List Nat) : Bool := (dget l k).isSome
def dput (l : List (List Nat × α)) (k : List Nat) (v : α) : List (List Nat × α) := if (l.any fun p => decide (p.1 = k)) = true then l.map (fun p => if p.1 = k then (p.1, v) else p) else l ++ [(k, v)]
abbrev dm (e : α → Dat) (l : List (List Nat × α)) : List (Key × Dat) := l.map fun p => (Sum.inr (SX.S p.1), e p.2)
theorem keq {a b : List Nat} : ((Sum.inr (SX.S a) : Key) = Sum.inr (SX.S b)) ↔ a = b := ⟨fun h => SX.S_inj (Sum.inr.inj h), fun h => by rw [h]⟩
theorem dget_cons {p : List Nat × α} {l : List (List Nat × α)} {k : List Nat} : dget (p :: l) k = if p.1 = k then some p.2 else dget l k := by
  unfold dget
  rw [List.find?_cons]
  by_cases h : p.1 = k <;> simp [h]
theorem atk_get {K : PySem.W.Frag} {H : Hp} {e : α → Dat} : ∀ {l : List (List Nat × α)} {vs : List (Key × V)}, Atk K H vs (dm e l) → ∀ k : List Nat, (∀ v, dget l k = some v → ∃ w, valV vs (Sum.inr (SX.S k) : Key) = some w ∧ At K H w (e v)) ∧ (dget l k = none → valV vs (Sum.inr (SX.S k) : Key) = none)
  | [], vs, h, k => by
    cases h
    exact ⟨fun v q => (by cases q), fun _ => rfl⟩
  | p :: l, vs, h, k => by
    cases h with
    | @cons _ v _ vs _ ha ht =>
      obtain ⟨i1, i2⟩ := atk_get ht k
      rw [dget_cons]
      by_cases e1 : p.1 = k
      · rw [if_pos e1]
        refine ⟨fun v q => ?_, fun q => (by cases q)⟩
        cases q
        exact ⟨_, valV_pos (by exact keq.mpr e1), ha⟩
      · rw [if_neg e1]
        have n1 : ¬ (Sum.inr (SX.S p.1) : Key) = Sum.inr (SX.S k) := fun z => e1 (keq.mp z)
        refine ⟨fun v q => ?_, fun q => ?_⟩
        · rw [valV_neg (by exact n1)]; exact i1 v q
        · rw [valV_neg (by exact n1)]; exact i2 q
theorem atk_any {K : PySem.W.Frag} {H : Hp} {e : α → Dat} : ∀ {l : List (List Nat × α)} {vs : List (Key × V)}, Atk K H vs (dm e l) → ∀ k : List Nat, (vs.any fun kv => decide (kv.1 = (Sum.inr (SX.S k) : Key))) = l.any fun p => decide (p.1 = k)
  | [], vs, h, k => by cases h; rfl
  | p :: l, vs, h, k => by
    cases h with
    | cons ha ht =>
      rw [List.any_cons, List.any_cons, atk_any ht k]
      congr 1
      exact decide_eq_decide.mpr keq
theorem atk_len {K : PySem.W.Frag} {H : Hp} : ∀ {ds : List (Key × Dat)} {vs : List (Key × V)}, Atk K H vs ds → vs.length = ds.length
  | _, _, .nil => rfl
  | _, _, .cons _ t => congrArg (· + 1) (atk_len t)
theorem atk_append {K : PySem.W.Frag} {H : Hp} : ∀ {ds es : List (Key × Dat)} {vs us : List (Key × V)}, Atk K H vs ds → Atk K H us es → Atk K H (vs ++ us) (ds ++ es)
  | _, _, _, _, .nil, h => h
  | _, _, _, _, .cons a t, h => .cons a (atk_append t h)
theorem atk_repl {K : PySem.W.Frag} {H : Hp} {e : α → Dat} {k : List Nat} {w : V} {v : α} (hw : At K H w (e v)) : ∀ {l : List (List Nat × α)} {vs : List (Key × V)}, Atk K H vs (dm e l) → Atk K H (vs.map fun kv => if kv.1 = (Sum.inr (SX.S k) : Key) then (kv.1, w) else kv) (dm e (l.map fun p => if p.1 = k then (p.1, v) else p))
  | [], vs, h => by cases h; exact .nil
  | p :: l, vs, h => by
    cases h with
    | @cons _ u _ vs _ ha ht =>
      have ih := atk_repl (k := k) hw ht
      show Atk K H ((if (Sum.inr (SX.S p.1) : Key) = Sum.inr (SX.S k) then ((Sum.inr (SX.S p.1) : Key), w) else (Sum.inr (SX.S p.1), u)) :: _) ((Sum.inr (SX.S (if p.1 = k then (p.1, v) else p).1), e (if p.1 = k then (p.1, v) else p).2) :: dm e (l.map fun p => if p.1 = k then (p.1, v) else p))
      by_cases e1 : p.1 = k
      · rw [if_pos (keq.mpr e1), if_pos e1]
        exact .cons hw ih
      · rw [if_neg (fun z => e1 (keq.mp z)), if_neg e1]
        exact .cons ha ih
theorem atk_put {K : PySem.W.Frag} {H : Hp} {e : α → Dat} {l : List (List Nat × α)} {vs : List (Key × V)} (h : Atk K H vs (dm e l)) (k : List Nat) {w : V} {v : α} (hw : At K H w (e v)) : Atk K H (putK vs (Sum.inr (SX.S k) : Key) w) (dm e (dput l k v)) := by
  unfold putK dput
  rw [atk_any h k]
  split
  · exact atk_repl hw h
  · rw [dm, List.map_append]
    exact atk_append h (.cons hw .nil)
end
section
variable {X : Cx} {H0 : Hp} {ρ ρ0 ρ1 ρ2 : Env'} {α β γ S S' L R : Type} {a b c e call : Expr} {es : List Expr} {st : Stmt} {sts rest body : List Stmt} {d d1 d2 : Dat} {ds : List Dat} {p pos : Pos} {o o1 : Outc} {x n : Str} {k : Nat} {D : γ → Outc} {m : M α} {en : α → Dat} {l : List (List Nat × α)} {key : List Nat}
theorem at_dic {K : PySem.W.Frag} {H : Hp} {v : V} {ds : List (Key × Dat)} (h : At K H v (.dic ds)) : ∃ p vs, v = .ref p ∧ Rd H p (.dK vs) ∧ Atk K H vs ds := by cases h with | dic a b => exact ⟨_, _, rfl, a, b⟩
theorem rd_mono {H H' : Hp} {p : Addr} {u : HO} (s : Same H H') (h : Rd H p u) : Rd H' p u := rd_same s h
theorem dget_of {K : PySem.W.Frag} {H : Hp} {q : Addr} {vs : List (Key × V)} {y : V} (hr : Rd H q (.dK vs)) (ha : Atk K H vs (dm en l)) (hy : y = .str (SX.S key)) : ∃ o, DGet H q y o ∧ (∀ v, dget l key = some v → ∃ w, o = some w ∧ At K H w (en v)) ∧ (dget l key = none → o = none) := by
  subst hy
  obtain ⟨i1, i2⟩ := atk_get ha key
  exact ⟨_, .inl ⟨vs, Sum.inr (SX.S key), hr, rfl, rfl⟩, i1, i2⟩
theorem eb_dgetm {v : α} (ha : EvB X H0 ρ a (dicd en l)) (hb : Ev X H0 ρ b (tx key)) (h : dget l key = some v) (hu : X.A.units + 1 < cLine) (hs : NoSl b := by exact fun _ _ => rfl) : EvB X H0 ρ (.Subscript a b pos) (en v) := fun σ H N rp =>
  we_of (pe_dget hu pe_w pe_w hs) ((ha σ H N rp).imp fun u H1 ⟨N1, s1, n1, r1, a1⟩ => (hb σ H1 N1 r1).imp fun y H2 ⟨N2, s2, n2, r2, a2⟩ => by
    obtain ⟨q, vs, e1, h1, h2⟩ := at_dic (a1.mono s2)
    obtain ⟨o, g1, g2, _⟩ := dget_of h1 h2 (at_str a2)
    obtain ⟨w, rfl, g3⟩ := g2 v h
    exact ⟨q, w, e1, g1, N2, s1.trans s2, n1.trans n2, r2, g3⟩)
theorem ev_dgetm {v : α} (ha : Ev X H0 ρ a (dicd en l)) (hb : Ev X H0 ρ b (tx key)) (h : dget l key = some v) (hu : X.A.units + 1 < cLine) (hs : NoSl b := by exact fun _ _ => rfl) : Ev X H0 ρ (.Subscript a b pos) (en v) := fun σ H N rp =>
  we_of (pe_dget hu pe_w pe_w hs) ((ha σ H N rp).imp fun u H1 ⟨N1, s1, n1, r1, a1⟩ => (hb σ H1 N1 r1).imp fun y H2 ⟨N2, s2, n2, r2, a2⟩ => by
    obtain ⟨q, vs, e1, h1, h2⟩ := at_dic (a1.mono n2)
    obtain ⟨o, g1, g2, _⟩ := dget_of h1 h2 (at_str a2)
    obtain ⟨w, rfl, g3⟩ := g2 v h
    refine ⟨q, w, e1, ?_, N2, s1.trans s2, n1.trans n2, r2, g3⟩
    rcases g1 with ⟨kvs, k', q1, q2⟩ | ⟨kvs, k', b', q1, q2, q3, q4⟩
    · exact .inl ⟨kvs, k', rd_mono r2.sub q1, q2⟩
    · exact .inr ⟨kvs, k', b', rd_mono r2.sub q1, q2, r2.sub _ _ q3, q4⟩)
section
variable (i : Nat) {y : Str} {p1 : Pos} (hi : ρ[i]? = some (.ow (dicd en l)))
theorem ev_dgetw {v : α} (hb : Ev X H0 ρ b (tx key)) (h : dget l key = some v) (hu : X.A.units + 1 < cLine) (hs : NoSl b := by exact fun _ _ => rfl) (hN : X.N[i]? = some y := by rfl) (hv : Vis X.env.scope y := by first | exact Or.inl rfl | exact Or.inr (Or.inl rfl) | exact Or.inr (Or.inr rfl))
    (hd : (y == ("__debug__" : Str)) = false := by decide) (hcd : (y == ("__classdict__" : Str)) = false := by decide) (hi : ρ[i]? = some (.ow (dicd en l)) := by rfl) : Ev X H0 ρ (.Subscript (.Name y p1) b pos) (en v) := fun σ H N rp => by
  obtain ⟨q, g1, g2, g3, vs, g4, g5⟩ := rp.ow i _ hi
  refine we_of (pe_dget hu (pv i hN hv hd hcd) pe_w hs) ⟨_, g1, (hb σ H N rp).imp fun w H2 ⟨N2, s2, n2, r2, a2⟩ => ?_⟩
  obtain ⟨q', f1, f2, f3, us, f4, f5⟩ := r2.ow i _ hi
  rw [g1] at f1
  cases f1
  have h5 := at_str a2
  subst h5
  obtain ⟨i1, _⟩ := atk_get f5 key
  obtain ⟨z, z1, z2⟩ := i1 v h
  exact ⟨q, z, rfl, .inl ⟨us, Sum.inr (SX.S key), .inl f4, rfl, z1.symm⟩, N2, s2, n2, r2, z2⟩
theorem ev_dget2w {u : α} (hb : Ev X H0 ρ b (tx key)) (hc : Ev X H0 ρ c (en u)) (hu : X.A.units + 1 < cLine) {apos : Pos} (hm : M2 X (.Name y p1) "get" apos b c pos := by exact ⟨rfl, rfl, rfl, rfl⟩) (hN : X.N[i]? = some y := by rfl) (hv : Vis X.env.scope y := by first | exact Or.inl rfl | exact Or.inr (Or.inl rfl) | exact Or.inr (Or.inr rfl))
    (hd : (y == ("__debug__" : Str)) = false := by decide) (hcd : (y == ("__classdict__" : Str)) = false := by decide) (hi : ρ[i]? = some (.ow (dicd en l)) := by rfl) : Ev X H0 ρ (.Call (.Attribute (.Name y p1) "get" apos) [b, c] [] pos) (en ((dget l key).getD u)) := fun σ H N rp => by
  obtain ⟨q, g1, g2, g3, vs, g4, g5⟩ := rp.ow i _ hi
  refine we_of (pe_dget2 hu (pv i hN hv hd hcd) pe_w pe_w hm) ⟨_, g1, q, rfl, .inl ⟨vs, .inl g4⟩, (hb σ H N rp).imp fun w H2 ⟨N2, s2, n2, r2, a2⟩ => (hc σ H2 N2 r2).imp fun z H3 ⟨N3, s3, n3, r3, a3⟩ => ?_⟩
  obtain ⟨q', f1, f2, f3, us, f4, f5⟩ := r3.ow i _ hi
  rw [g1] at f1
  cases f1
  have h5 := at_str a2
  subst h5
  obtain ⟨i1, i2⟩ := atk_get f5 key
  refine ⟨_, .inl ⟨us, Sum.inr (SX.S key), .inl f4, rfl, rfl⟩, N3, s2.trans s3, n2.trans n3, r3, ?_⟩
  cases e : dget l key with
  | none => rw [i2 e]; exact a3
  | some v =>
    obtain ⟨z, z1, z2⟩ := i1 v e
    rw [z1]; exact z2
theorem xm_dput {v : α} {f : List (List Nat × α) → M γ} {p2 : Pos} (he : Ev X H0 ρ e (en v)) (hb : Ev X H0 ρ b (tx key)) (hz : lenLt l = true) (hu : X.A.units + 1 < cLine) (tt : ∀ l, ExM X H0 (ρ.set i (.ow (dicd en l))) k rest D (f l)) (hN : X.N[i]? = some y := by rfl) (hv : Vis X.env.scope y := by first | exact Or.inl rfl | exact Or.inr (Or.inl rfl) | exact Or.inr (Or.inr rfl))
    (hd : (y == ("__debug__" : Str)) = false := by decide) (hcd : (y == ("__classdict__" : Str)) = false := by decide) (hi : ρ[i]? = some (.ow (dicd en l)) := by rfl)
    (hs : swapsWith e (some (.Subscript (.Name y p1) b p2)) pos.line X.env = pure false := by rfl) : ExM X H0 ρ k (.Assign [.Subscript (.Name y p1) b p2] e pos :: rest) D (M.lt (dput l key v) f) := by
  refine xm_then (ρ1 := ρ.set i (.ow (dicd en (dput l key v)))) (fun Dd σ H N r kk => ?_) (tt (dput l key v))
  refine ws_of (ps_dput hu (pv i hN hv hd hcd) pe_w pe_w hs) ((he σ H N r).imp fun w H1 ⟨N1, s1, n1, r1, a1⟩ => ?_)
  obtain ⟨q, g1, g2, g3, vs, g4, g5⟩ := r1.ow i _ hi
  refine ⟨_, g1, (hb σ H1 N1 r1).imp fun z H2 ⟨N2, s2, n2, r2, a2⟩ => ?_⟩
  obtain ⟨q', f1, f2, f3, us, f4, f5⟩ := r2.ow i _ hi
  rw [g1] at f1
  cases f1
  have h5 := at_str a2
  subst h5
  refine ⟨q, _, rfl, .inl ⟨us, Sum.inr (SX.S key), f4, rfl, ?_, rfl⟩, kk σ _ N2 (n1.trans n2) ?_⟩
  · rw [atk_len f5, List.length_map]; exact lenLt_ok hz
  · exact r2.write hi g1 ⟨_, upd_same, atk_put f5 key (a1.mono n2)⟩
end
theorem ev_inKm (hb : Ev X H0 ρ b (tx key)) (ha : EvB X H0 ρ a (dicd en l)) (hu : X.A.units + 1 < cLine) (hm : behindInMarks .In a = false := by rfl) : Ev X H0 ρ (.Compare b [.In] [a] pos) (.bl (dhas l key)) := fun σ H N rp =>
  we_of (pe_cmp (pc_din hu pe_w pe_w) hm) ((hb σ H N rp).imp fun y H1 ⟨N1, s1, n1, r1, a1⟩ => (ha σ H1 N1 r1).imp fun u H2 ⟨N2, s2, n2, r2, a2⟩ => by
    obtain ⟨q, vs, e1, h1, h2⟩ := at_dic a2
    obtain ⟨o, g1, g2, g3⟩ := dget_of h1 h2 (at_str a1)
    refine ⟨q, o, e1, g1, N2, s1.trans s2, n1.trans n2, r2, ?_⟩
    have : o.isSome = dhas l key := by
      unfold dhas
      cases e : dget l key with
      | none => rw [g3 e]; rfl
      | some v => obtain ⟨w, rfl, _⟩ := g2 v e; rfl
    rw [this]
    exact .bl _)
theorem ev_ninKm (hb : Ev X H0 ρ b (tx key)) (ha : EvB X H0 ρ a (dicd en l)) (hu : X.A.units + 1 < cLine) (hm : behindInMarks .NotIn a = false := by rfl) : Ev X H0 ρ (.Compare b [.NotIn] [a] pos) (.bl (!dhas l key)) := fun σ H N rp =>
  we_of (pe_cmp (pc_dnotin hu pe_w pe_w) hm) ((hb σ H N rp).imp fun y H1 ⟨N1, s1, n1, r1, a1⟩ => (ha σ H1 N1 r1).imp fun u H2 ⟨N2, s2, n2, r2, a2⟩ => by
    obtain ⟨q, vs, e1, h1, h2⟩ := at_dic a2
    obtain ⟨o, g1, g2, g3⟩ := dget_of h1 h2 (at_str a1)
    refine ⟨q, o, e1, g1, N2, s1.trans s2, n1.trans n2, r2, ?_⟩
    have : o.isSome = dhas l key := by
      unfold dhas
      cases e : dget l key with
      | none => rw [g3 e]; rfl
      | some v => obtain ⟨w, rfl, _⟩ := g2 v e; rfl
    rw [this]
    exact .bl _)
theorem et_inKm (hb : Ev X H0 ρ b (tx key)) (ha : EvB X H0 ρ a (dicd en l)) (hu : X.A.units + 1 < cLine) (hm : behindInMarks .In a = false := by rfl) : EvT X H0 ρ (.Compare b [.In] [a] pos) (dhas l key) := fun σ H N rp =>
  wt_of (pt_cmp (pc_din hu pe_w pe_w) hm) ((hb σ H N rp).imp fun y H1 ⟨N1, s1, n1, r1, a1⟩ => (ha σ H1 N1 r1).imp fun u H2 ⟨N2, s2, n2, r2, a2⟩ => by
    obtain ⟨q, vs, e1, h1, h2⟩ := at_dic a2
    obtain ⟨o, g1, g2, g3⟩ := dget_of h1 h2 (at_str a1)
    have : o.isSome = dhas l key := by
      unfold dhas
      cases e : dget l key with
      | none => rw [g3 e]; rfl
      | some v => obtain ⟨w, rfl, _⟩ := g2 v e; rfl
    exact ⟨q, o, e1, g1, _, rfl, by rw [this], N2, s1.trans s2, n1.trans n2, r2⟩)
theorem et_ninKm (hb : Ev X H0 ρ b (tx key)) (ha : EvB X H0 ρ a (dicd en l)) (hu : X.A.units + 1 < cLine) (hm : behindInMarks .NotIn a = false := by rfl) : EvT X H0 ρ (.Compare b [.NotIn] [a] pos) (!dhas l key) := fun σ H N rp =>
  wt_of (pt_cmp (pc_dnotin hu pe_w pe_w) hm) ((hb σ H N rp).imp fun y H1 ⟨N1, s1, n1, r1, a1⟩ => (ha σ H1 N1 r1).imp fun u H2 ⟨N2, s2, n2, r2, a2⟩ => by
    obtain ⟨q, vs, e1, h1, h2⟩ := at_dic a2
    obtain ⟨o, g1, g2, g3⟩ := dget_of h1 h2 (at_str a1)
    have : o.isSome = dhas l key := by
      unfold dhas
      cases e : dget l key with
      | none => rw [g3 e]; rfl
      | some v => obtain ⟨w, rfl, _⟩ := g2 v e; rfl
    exact ⟨q, o, e1, g1, _, rfl, by rw [this], N2, s1.trans s2, n1.trans n2, r2⟩)
/-- list(d): the keys -/
theorem atk_keys {K : PySem.W.Frag} {H N : Hp} : ∀ {l : List (List Nat × α)} {vs : List (Key × V)}, Atk K H vs (dm en l) → Ats K N (vs.map fun kv => kV kv.1) ((l.map (·.1)).map tx)
  | [], _, h => by cases h; exact .nil
  | p :: l, _, h => by
    cases h with
    | cons a t => exact .cons (.str _) (atk_keys t)
theorem eo_listDm (ha : EvB X H0 ρ a (dicd en l)) (hc : X.calm = true) (hm : X.mg "list" = none) (hg : Gl X "list" := by rfl) (he : starEach [a] X.env = (false, eval a X.env) :: starEach [] X.env := by rfl) (hpl : (backTo pos (starEach [] X.env)).any (·.1) = false := by rfl) :
    EvO X H0 ρ (.Call (.Name "list" p) [a] [] pos) (lstd tx (l.map (·.1))) := fun σ H N rp =>
  we_of (pe_callTy (call_listD hc) hg hm (by decide +kernel) pa_w (by decide) (by decide) he hpl) ((eab1 ha he σ H N rp).imp fun vs H1 ⟨N1, s1, n1, r1, a1⟩ => by
    obtain ⟨v, e1, e2⟩ := ats_one a1
    obtain ⟨q, us, e3, h1, h2⟩ := at_dic e2
    refine ⟨q, us, by rw [e1, e3], h1, fun q2 hq => ?_⟩
    obtain ⟨r3, n3⟩ := eo_new (o := .lst (us.map fun kv => kV kv.1)) r1 hq
    exact ⟨N1, q2, rfl, s1.free hq, s1.trans (Same.of_none hq), n1, r3, n3, _, upd_same, atk_keys h2⟩)
/-- list(text) -/
theorem call_listS (hc : X.calm = true) : CallR X (.type "list") (fun xs H Q => ∃ l : List Nat, xs = [.str (SX.S l)] ∧ l.length ≤ sizeLine ∧ ∀ q, H q = none → Q (.ref q) (upd H q (.lst (l.map fun c => .str (SX.S [c]))))) := by
  intro pins s σ H xs us Q I r h
  obtain ⟨l, e, hz, q⟩ := h
  subst e
  obtain ⟨u, eu, rx⟩ := vals1 r
  subst eu
  obtain ⟨t, rfl⟩ := (show ∃ t, u = Value.str (SX.S l) t from rx)
  refine call_list_str (I.ok.hd hc) (SX.S l) t (fun h' tk acc' c' hkeep hS hacc => ?_) (by simpa using hz)
  have hsz : acc'.toList.length = l.length := by
    have := hacc.1
    simpa using this
  refine ⟨.ref s.heap.objs.size, upd H s.heap.objs.size (.lst (l.map fun c => .str (SX.S [c]))), I.laid hkeep (Nat.le_refl _) (show ObjOk X.prog X.w _ _ _ (.lst (l.map fun c => V.str (SX.S [c]))) from ⟨by rw [List.length_map]; exact hz, acc'.toList, c', ?_, ?_⟩), rfl, q _ (I.hok.fresh (Nat.le_refl _))⟩
  · refine vals_of_at (by rw [List.length_map, hsz]) fun j x w h1 h2 => ?_
    obtain ⟨c, t', g1, g2⟩ := hacc.2 j w (by rw [← Array.getElem?_toList]; exact h2)
    rw [List.getElem?_map] at h1
    have g3 : l[j]? = some c := by simpa using g1
    rw [g3] at h1
    cases h1
    exact ⟨t', g2⟩
  · rw [Array.toArray_toList]; exact hS
theorem ats_chd {K : PySem.W.Frag} {N : Hp} : ∀ l : List Nat, Ats K N (l.map fun c => V.str (SX.S [c])) (l.map chd)
  | [] => .nil
  | c :: l => .cons (.str _) (ats_chd l)
theorem eo_listSm {l : List Nat} (ha : Ev X H0 ρ a (tx l)) (hz : lenOk l = true) (hc : X.calm = true) (hm : X.mg "list" = none) (hg : Gl X "list" := by rfl) (he : starEach [a] X.env = (false, eval a X.env) :: starEach [] X.env := by rfl) (hpl : (backTo pos (starEach [] X.env)).any (·.1) = false := by rfl) :
    EvO X H0 ρ (.Call (.Name "list" p) [a] [] pos) (lstd chd l) := fun σ H N rp =>
  we_of (pe_callTy (call_listS hc) hg hm (by decide +kernel) pa_w (by decide) (by decide) he hpl) ((eab1 ha.toB he σ H N rp).imp fun vs H1 ⟨N1, s1, n1, r1, a1⟩ => by
    obtain ⟨v, e1, e2⟩ := ats_one a1
    refine ⟨l, by rw [e1, at_str e2], lenOk_ok hz, fun q2 hq => ?_⟩
    obtain ⟨r3, n3⟩ := eo_new (o := .lst (l.map fun c => .str (SX.S [c]))) r1 hq
    refine ⟨N1, q2, rfl, s1.free hq, s1.trans (Same.of_none hq), n1, r3, n3, _, upd_same, ?_⟩
    exact ats_chd l)
/-- tuple(list) -/
theorem ev_tupleLm {l : List α} (f : ∀ a, flat (en a) = true) (ha : EvB X H0 ρ a (lstd en l)) (hm : X.mg "tuple" = none) (hg : Gl X "tuple" := by rfl) (na : starEach [a] X.env = (false, eval a X.env) :: starEach [] X.env := by rfl) : Ev X H0 ρ (.Call (.Name "tuple" p) [a] [] pos) (tpnd en l) := fun σ H N rp =>
  we_of (pe_tupleOf hg hm pe_w na) ((ha σ H N rp).imp fun v H1 ⟨N1, s1, n1, r1, a1⟩ => by
    obtain ⟨q, us, e3, h1, h2⟩ := at_lst a1
    obtain ⟨N2, n2, r2, kp⟩ := r1.keep
    refine .inl ⟨q, us, e3, h1, fun q2 hq => ?_⟩
    obtain ⟨r3, n3⟩ := r2.new (o := .tup us) hq
    exact ⟨_, s1.trans (Same.of_none hq), (n1.trans n2).trans n3, r3, .tup (.inl (.inl upd_same)) ((h2.imm (flats_map f l)).mono (kp.trans n3))⟩)
end
end B

namespace B
open PySem PySem.Spec PyProof.Rows L2
/-! ### sum of a tuple of ints -/
section
variable {prog : Program} {w : World} {A : Around} {E : Value → Shared → Prop} {s : Shared} {l : Addr} {xs : Array (Int × Tok)} {its : List Value} {ns : List Int}
theorem sum_intTupG {Q : Value → Shared → Prop} (hh : A.handled = none) (hl : s.heap.IsTuple l (intItems xs))
    (h : ∀ h' tk t', (∀ b o, s.heap.get? b = some o → h'.get? b = some o) → Q (.int (preSum (numAt xs) xs.size) t') { s with heap := h', toks := tk }) :
    wpAny (model prog w) A (call (.builtin "sum") [.ref l]) Q E s := by
  have hlt : l < s.heap.objs.size := by obtain ⟨_, e, _⟩ := id hl; exact Heap.lt_size e
  refine call_sum_walkG (wpAny_pyIter_tuple hl ?_)
  refine ⟨_, [_, l], [_], _, _, _, numAt xs, rfl, Walks.tuple (A := A.in1) hh _ l (Nat.ne_of_lt hlt) (intItems xs), ⟨⟨_, Heap.get?_push_size _ rfl, rfl, rfl⟩, hl.push _⟩, fun b hb => ?_, (fun _ _ => intItems_at), fun h' tk t' hk => ?_⟩
  · show b < (s.heap.push _).objs.size
    rw [Heap.size_push]
    rcases List.mem_cons.mp hb with rfl | hb
    · exact Nat.lt_succ_self _
    · rcases List.mem_cons.mp hb with rfl | hb
      · exact Nat.lt_succ_of_lt hlt
      · cases hb
  · have := h h' tk t' (fun b o e => hk b o (by simp; exact Nat.ne_of_lt (Heap.lt_size e)) (Heap.get?_push_of_some _ e))
    simpa [intItems] using this
theorem sum_rawT {Q : Value → Shared → Prop} (hh : A.handled = none) (hl : s.heap.IsTuple l its.toArray) (hi : IntsAre its ns)
    (h : ∀ h' tk t', (∀ b o, s.heap.get? b = some o → h'.get? b = some o) → Q (.int ns.sum t') { s with heap := h', toks := tk }) : wpAny (model prog w) A (call (.builtin "sum") [.ref l]) Q E s := by
  obtain ⟨xs, e⟩ := hi.allInts.items
  have hn : numsOf (intItems xs).toList = ns := by rw [← e]; exact hi.numsOf
  rw [nums_intItems] at hn
  rw [e] at hl
  refine sum_intTupG hh hl fun h' tk t' hk => ?_
  have := h h' tk t' hk
  rw [preSum_eq, List.take_of_length_le (by simp), hn]; exact this
end
theorem cr_sumT {X : Cx} (hc : X.calm = true) : CallR X (.builtin "sum") (fun vs H Q => ∃ (a : Addr) (ns : List Int), vs = [V.ref a] ∧ SqT X.K H a (ns.map V.int) ∧ Q (.int ns.sum) H) := by
  intro pins s σ H vs us Q I r h
  obtain ⟨a, ns, rfl, hs, q⟩ := h
  obtain ⟨its, rv, hl, _⟩ := I.tuple hs
  rw [Vals.ref1 r]
  exact sum_rawT (I.ok.hd hc) (show s.heap.IsTuple a its.toArray from hl) rv.ints fun h' tk t' hk => ⟨.int _, H, I.kept hk, ⟨_, rfl⟩, q⟩
/-! ### d.update(d2) -/
theorem KV.merge {kvs : List (Key × V)} {vs : List (Key × Value)} (r : KV kvs vs) : ∀ {more : List (Key × V)} {ms : List (Key × Value)}, KV more ms → KV (more.foldl (fun acc p => putK acc p.1 p.2) kvs) (merged vs ms) := fun {more ms} h => by
  unfold KV at h
  induction h generalizing kvs vs with
  | nil => exact r
  | @cons p q ps qs h t ih =>
    obtain ⟨h1, h2⟩ := h
    have := ih (KV.put r p.1 h2)
    rw [List.foldl_cons]
    show KV _ (List.foldl _ (stored vs q.1 q.2) qs)
    rw [← h1]
    exact this
theorem len_mergeK : ∀ (more kvs : List (Key × V)), (more.foldl (fun acc p => putK acc p.1 p.2) kvs).length ≤ kvs.length + more.length
  | [], kvs => Nat.le_refl _
  | p :: more, kvs => by
    have h1 := len_mergeK more (putK kvs p.1 p.2)
    have h2 := length_putK kvs p.1 p.2
    rw [List.foldl_cons, List.length_cons]
    omega
def rUpd : V → List V → Hp → VK → Prop := fun x xs H Q => ∃ (a b : Addr) (kvs more : List (Key × V)), x = .ref a ∧ xs = [.ref b] ∧ H a = some (.dK kvs) ∧ Rd H b (.dK more) ∧ a ≠ b ∧ kvs.length + more.length ≤ sizeLine ∧ Q .non (upd H a (.dK (more.foldl (fun acc p => putK acc p.1 p.2) kvs)))
theorem mt_update {X : Cx} : MtM X "dict.update" rUpd := by
  intro pins s σ H x vs v us Q I rx rv h
  obtain ⟨a, b, kvs, more, rfl, rfl, ha, hb, hne, hz, q⟩ := h
  cases rx
  obtain ⟨u, rfl, ru⟩ := rv.one
  cases (show u = Value.ref b from ru)
  obtain ⟨z1, hd1, ks, rel1, dd1⟩ := dk_of I.hok ha
  obtain ⟨z2, hd2, ms, rel2, dd2⟩ := dk_rd I.hok hb
  refine call_meetsIn PySem.F.slot_dict_update dd1.typeIs PySem.F.entry_dict_update (PySem.F.args_dict_update_2 _ _) (meets_dict_update (mixKind X.prog X.w) a b hne hd2) ⟨ks, ms, dd1, dd2, by rw [← rel1.length, ← rel2.length]; exact hz, fun h' dd' _ hs => ?_⟩
  have he : ∃ q, h'.get? a = some q := let ⟨q, _, _, hq, _⟩ := dd'; ⟨q, hq⟩
  exact ⟨.non, _, d_write I (by rw [ha]; exact True.intro) hs he (dk_new (Nat.le_trans (len_mergeK more kvs) hz) hd1 (KV.merge rel1 rel2) dd'), rfl, q⟩
/-- one dict put into another -/
def dmerge {α : Type} (l m : List (List Nat × α)) : List (List Nat × α) := m.foldl (fun acc p => dput acc p.1 p.2) l
theorem atk_merge {α : Type} {K : PySem.W.Frag} {H : Hp} {e : α → Dat} : ∀ {m l : List (List Nat × α)} {vs ws : List (Key × V)}, Atk K H vs (dm e l) → Atk K H ws (dm e m) → Atk K H (ws.foldl (fun acc p => putK acc p.1 p.2) vs) (dm e (dmerge l m))
  | [], l, vs, ws, h, g => by cases g; exact h
  | p :: m, l, vs, ws, h, g => by
    cases g with
    | @cons _ v _ ws _ ha ht => exact atk_merge (m := m) (l := dput l p.1 p.2) (vs := putK vs (Sum.inr (SX.S p.1)) v) (ws := ws) (atk_put h p.1 ha) ht
section
variable {X : Cx} {H0 : Hp} {ρ ρ0 ρ1 ρ2 : Env'} {α β γ S S' L R : Type} {a b c e call : Expr} {es : List Expr} {st : Stmt} {sts rest body : List Stmt} {d d1 d2 : Dat} {ds : List Dat} {p pos : Pos} {o o1 : Outc} {x n : Str} {k : Nat} {D : γ → Outc} {m : M α} {en : α → Dat}
theorem ev_sumT {ns : List Int} (ha : EvB X H0 ρ a (tpnd Dat.int ns)) (hc : X.calm = true) (hm : X.mg "sum" = none) (hg : Gl X "sum" := by rfl) (he : starEach [a] X.env = (false, eval a X.env) :: starEach [] X.env := by rfl) (hpl : (backTo pos (starEach [] X.env)).any (·.1) = false := by rfl) :
    Ev X H0 ρ (.Call (.Name "sum" p) [a] [] pos) (.int ns.sum) := ev_blt (cr_sumT hc) hm (by decide +kernel) (eab1 ha he) (fun vs σ H N Q r q g => by
    obtain ⟨v, e1, e2⟩ := ats_one q
    obtain ⟨pp, us, e3, h1, h2⟩ := at_seq e2
    rw [h2.ints] at h1
    exact ⟨pp, ns, by rw [e1, e3], h1, goes_self g r (.int _)⟩) hg (by decide) (by decide) he hpl
/-- tuple + tuple -/
theorem ev_catTm {l m : List α} (ha : Ev X H0 ρ a (tpnd en l)) (hb : Ev X H0 ρ b (tpnd en m)) (h : catOk l m = true) : Ev X H0 ρ (.BinOp a .Add b pos) (tpnd en (l ++ m)) := fun σ H N rp =>
  we_of (pe_op op_catA pe_w pe_w) ((ha σ H N rp).imp fun v H1 ⟨N1, s1, n1, r1, a1⟩ => (hb σ H1 N1 r1).imp fun w H2 ⟨N2, s2, n2, r2, a2⟩ => by
    have a1' := a1.mono n2
    obtain ⟨p1, vs, e1, h1, h2⟩ := at_seq a1'
    obtain ⟨p2, ws, e2, h3, h4⟩ := at_seq a2
    have hz := catOk_ok h
    refine ⟨p1, p2, vs, ws, e1, e2, sqt_same r2.sub h1, sqt_same r2.sub h3, by rw [h2.length, h4.length, List.length_map, List.length_map]; exact hz, fun q => ?_, fun q1 q2 => ?_, fun q1 q2 q hq => ?_⟩
    · have : l = [] := by
        have := h2.length
        rw [q, List.length_map] at this
        exact List.length_eq_zero_iff.mp this.symm
      subst this
      rw [← e2]
      exact ⟨N2, s1.trans s2, n1.trans n2, r2, a2⟩
    · have : m = [] := by
        have := h4.length
        rw [q2, List.length_map] at this
        exact List.length_eq_zero_iff.mp this.symm
      subst this
      rw [← e1, List.append_nil]
      exact ⟨N2, s1.trans s2, n1.trans n2, r2, a1'⟩
    · obtain ⟨r5, n5⟩ := r2.new (o := .tup (vs ++ ws)) hq
      refine ⟨_, (s1.trans s2).trans (Same.of_none hq), (n1.trans n2).trans n5, r5, .tup (.inl (.inl upd_same)) ?_⟩
      rw [List.map_append]
      exact (h2.mono n5).append (h4.mono n5))
theorem xm_dupd {l m : List (List Nat × α)} {f : List (List Nat × α) → M γ} (i : Nat) {y : Str} {p1 p2 p3 : Pos} (hi : ρ[i]? = some (.ow (dicd en l))) (h : Ev X H0 ρ e (dicd en m)) (hz : catOk l m = true) (tt : ∀ l, ExM X H0 (ρ.set i (.ow (dicd en l))) k rest D (f l)) (hN : X.N[i]? = some y := by rfl) (hv : Vis X.env.scope y := by first | exact Or.inl rfl | exact Or.inr (Or.inl rfl) | exact Or.inr (Or.inr rfl))
    (hd : (y == ("__debug__" : Str)) = false := by decide) (hcd : (y == ("__classdict__" : Str)) = false := by decide)
    (hpe : ∀ to t, PE X (.Name y p1) to → PA X [e] t → PE X (.Call (.Attribute (.Name y p1) "update" p2) [e] [] p3) (tBM X.K "dict" rUpd to t) := by exact fun _ _ h g => pe_bm PySem.F.plainAttrs_dict PySem.F.slot_dict_update PySem.F.type_dict_update mt_update h g)
    (he : starEach [e] X.env = (false, eval e X.env) :: starEach [] X.env := by rfl) (hs : swapsWith (.Call (.Attribute (.Name y p1) "update" p2) [e] [] p3) none pos.line X.env = pure false := by rfl) :
    ExM X H0 ρ k (.Expr (.Call (.Attribute (.Name y p1) "update" p2) [e] [] p3) pos :: rest) D (M.lt (dmerge l m) f) := by
  refine xm_then (ρ1 := ρ.set i (.ow (dicd en (dmerge l m)))) (fun Dd σ H N r kk => ?_) (tt (dmerge l m))
  obtain ⟨q, g1, g2, g3, vs, g4, g5⟩ := r.ow i _ hi
  refine ws_of (ps_expr (hpe _ _ (pv i hN hv hd hcd) (pa_cons pe_w pa_nil he)) hs) ⟨_, g1, ?_, (h σ H N r).imp fun v H1 ⟨N1, s1, n1, r1, a1⟩ => ?_⟩
  · exact .inr (.inr (.inl ⟨rfl, .inl ⟨_, g4⟩⟩))
  obtain ⟨q', f1, f2, f3, us, f4, f5⟩ := r1.ow i _ hi
  rw [g1] at f1
  cases f1
  obtain ⟨b, ws, e1, h1, h2⟩ := at_dic a1
  have hne : q ≠ b := fun z => by
    subst z
    rcases h1 with h1 | ⟨_, h1⟩ <;> (rw [f3] at h1; cases h1)
  refine ⟨q, b, us, ws, rfl, by rw [e1], f4, rd_mono r1.sub h1, hne, by rw [atk_len f5, atk_len h2, List.length_map, List.length_map]; exact catOk_ok hz, kk σ _ N1 n1 ?_⟩
  exact r1.write hi g1 ⟨_, upd_same, atk_merge f5 h2⟩
/-- s.index(a sign that is there) -/
theorem index_one {L : List Nat} {c : Nat} (h : c ∈ L) : Txt.index0 (SX.S L) (SX.S [c]) = some (L.idxOf c) := by
  have hlt : L.idxOf c < L.length := List.idxOf_lt_length_iff.mpr h
  have hg : L[L.idxOf c]? = some c := by rw [List.getElem?_eq_getElem hlt, List.getElem_idxOf hlt]
  have ho : Builtin.Str.occurrences (SX.S L) (SX.S [c]) 0 (SX.S L).length 1 = [L.idxOf c] := by
    rw [StrLaws.occ_eq]
    refine occ_at L c _ hg _ 0 0 (Nat.le_refl _) (Nat.zero_le _) (by rw [SX.S_len]; omega) (fun i _ hi e => ?_)
    have hil : i < L.length := by omega
    rw [List.getElem?_eq_getElem hil] at e
    have q := List.not_of_lt_findIdx (p := (· == c)) (xs := L) hi
    have e2 := Option.some.inj e
    simp [e2] at q
  unfold Txt.index0
  rw [ho]
  rfl
theorem ev_indexX {l : List Nat} {c : Nat} {apos : Pos} (ha : Ev X H0 ρ a (tx l)) (hb : Ev X H0 ρ b (tx [c])) (h : c ∈ l) (hc : X.calm = true := by rfl)
    (hpe : ∀ to t, PE X a to → PA X [b] t → PE X (.Call (.Attribute a "index" apos) [b] [] pos) (tBMS X.K "str" (rIndexX (fun _ _ _ _ => False)) to t) := by exact fun _ _ h g => pe_bmS PySem.F.plainAttrs_str PySem.F.slot_str_index PySem.F.type_str_index (mt_indexX rfl takes0) h g)
    (he : starEach [b] X.env = (false, eval b X.env) :: starEach [] X.env := by rfl) : Ev X H0 ρ (.Call (.Attribute a "index" apos) [b] [] pos) (.int ((l.idxOf c : Nat) : Int)) := fun σ H N rp =>
  we_of (hpe _ _ pe_w (pa_cons pe_w pa_nil he)) ((ha σ H N rp).imp fun v H1 ⟨N1, s1, n1, r1, a1⟩ => by
    rw [at_str a1]
    refine ⟨rfl, (hb σ H1 N1 r1).imp fun w H2 ⟨N2, s2, n2, r2, a2⟩ => ?_⟩
    rw [at_str a2]
    refine ⟨_, _, rfl, rfl, fun k hk => ?_, fun hk => ?_⟩
    · rw [index_one h] at hk
      cases hk
      exact ⟨N2, s1.trans s2, n1.trans n2, r2, .int _⟩
    · rw [index_one h] at hk
      cases hk)
end
/-! ### defs whose last parameter has a default -/
/-- such a def of the text as it stands behind the top -/
def DfD (K : PySem.W.Frag) (mg : Str → Option Value) (x : Str) (st : Stmt) (ps : List Str) (v : V) : Prop := ∃ f fd, FunD K x x (defArgs st) (defBody st) (defScope st) [v] [] f fd ∧ mg x = some (.ref f) ∧ Binds K fd ps [] ∧ ∃ d, Vals [v] [d] ∧ Binds K fd ps [d]
def GFnD (P : Program) (w : World) (K : PySem.W.Frag) (mg : Str → Option Value) (base : Heap) (x : Str) (k : Nat) (v : V) (R : List Dat → Res → Prop) : Prop :=
  ∃ f fd ps, FnOk P w K mg base (L2.CX P w) k f fd ps (spR K mg R) ∧ mg x = some (.ref f) ∧ PySem.W.keepIn K (.ref f) = true ∧ Binds K fd ps [] ∧ ∃ d, Vals [v] [d] ∧ Binds K fd ps [d]
theorem GFnD.all {P : Program} {w : World} {K : PySem.W.Frag} {mg : Str → Option Value} {base : Heap} {x : Str} {k : Nat} {v : V} {R : List Dat → Res → Prop} (G : GFnD P w K mg base x k v R) : GFn P w K mg base x k R := by
  obtain ⟨f, fd, ps, h1, h2, h3, h4, _⟩ := G
  exact ⟨f, fd, ps, h1, h2, h3, h4⟩
section
variable {P : Program} {w : World} {K : PySem.W.Frag} {mg : Str → Option Value} {base : Heap} {x : Str} {st : Stmt} {ps N : List Str} {k : Nat} {R : List Dat → Res → Prop} {v : V}
theorem GFnD.mk2 (D : DfD K mg x st ps v) (S : FnScope N ps (defScope st)) (hl : ∀ ds o, R ds o → ds.length = ps.length)
    (body : ∀ (f : Addr) (cdv : Value) (A : Around) (outer : List PySem.Env) (s : Shared) (H : Hp) (E : XK), Room k (XX P w K mg base N x st f cdv A outer s H E).A → ∀ ds o, R ds o → ∃ es, Ents es ds ∧ ∀ H0, Ends' (XX P w K mg base N x st f cdv A outer s H E) H0 (es ++ List.replicate (N.length - ps.length) .no) (defBody st) o) : GFnD P w K mg base x (k + 1) v R := by
  obtain ⟨f, fd, F, hm, hb, hd⟩ := D
  refine ⟨f, fd, ps, ?_, hm, F.kp, hb, hd⟩
  refine F.ok S (fun vs H Q E ⟨ds, o, hr, a, _⟩ => by rw [a.length]; exact hl ds o hr) fun cdv A outer s H vs Q E hr hsp => ?_
  obtain ⟨ds, o, hR, a, q⟩ := hsp
  obtain ⟨es, he, hbody⟩ := body f cdv A outer s H E hr ds o hR
  have hlen : vs.length = ps.length := by rw [a.length]; exact hl ds o hR
  have r : Rep K H (es ++ List.replicate (N.length - ps.length) .no) (L2.start N vs) H (Imm H) := hlen ▸ rep_start he a
  have hb := hbody H
  refine ⟨_, pb_w, ?_⟩
  cases hb with
  | ret h => exact h { nx := fun _ H' => Q .non H', rt := Q } _ _ _ r fun v H' s _ rt => q v H' s rt
  | non h => exact h { nx := fun _ H' => Q .non H', rt := Q } _ _ _ r fun σ H' N' s r' => q .non H' r'.old ⟨N', r'.sub, r'.fresh, .non⟩
  | own h => exact h { nx := fun _ H' => Q .non H', rt := Q } _ _ _ r fun p H' N' s1 _ s2 s3 s4 s5 s6 => q p H' N' s1 s2 s3 s4 s5 s6
  | exc h => exact h { nx := fun _ H' => Q .non H', rt := Q } _ _ _ r ⟨_, takes_of rfl rfl rfl rfl, fun C σ H' N' hm s r' => q C H' hm r'.old⟩
end
section
variable {X : Cx} {H0 : Hp} {ρ : Env'} {α : Type} {e : Expr} {es : List Expr} {ds : List Dat} {p pos : Pos} {x : Str} {m : M α} {en : α → Dat}
/-- a call that leaves the last one to its default, a text -/
theorem evm_callD {R : List Dat → Res → Prop} {kk : Nat} {z : Str} (G : GFnD X.prog X.w X.K X.mg X.base x kk (.str z) R) (hr : Room kk X.A) (ha : EvAB X H0 ρ (e :: es) ds) (q : ∀ o, Rm en m o → R (ds ++ [.str z]) o) (hg : Gl X x := by rfl) (hdb : (x == ("__debug__" : Str)) = false := by decide)
    (he : starEach (e :: es) X.env = (false, eval e X.env) :: starEach es X.env := by rfl) (hpl : (backTo pos (starEach es X.env)).any (·.1) = false := by rfl) : EvM X H0 ρ (.Call (.Name x p) (e :: es) [] pos) en m.nox := by
  cases m with
  | ok v =>
    intro σ H N r
    obtain ⟨f, fd, ps, F, hm, hk, _, d, hv, hb⟩ := G
    refine we_of (pe_call F hr hg hm hk hb hv passL pa_w hdb he hpl) ((ha σ H N r).imp fun vs H1 ⟨N1, s1, n1, r1, a1⟩ => ⟨ds ++ [.str z], .val (en v), q _ rfl, a1.append (.cons (.str z) .nil), fun v H' s' rt => ?_⟩)
    obtain ⟨N2, n2, r2, a2⟩ := r1.ret s' rt
    exact ⟨N2, s1.trans s', n1.trans n2, r2, a2⟩
  | ex n => trivial
  | far => trivial
end
end B

namespace B
open PySem PySem.Spec PyProof.Rows L2
section
variable {α : Type} {X : Cx} {H0 : Hp} {ρ : Env'} {e : Expr}
/-- what may be None and is not -/
theorem ev_optS {en : α → Dat} {o : Option α} {r : α} (h : o = some r) (p : Ev X H0 ρ e (optd en o)) : Ev X H0 ρ e (en r) := by subst h; exact p
end
/-! ### l.extend(a new list) -/
section
variable {X : Cx} {H0 : Hp} {ρ ρ1 : Env'} {α β γ S S' L R : Type} {e : Expr} {st : Stmt} {rest body : List Stmt} {d : Dat} {ds : List Dat} {pos : Pos} {k : Nat} {D : γ → Outc}
theorem xm_extend {en : β → Dat} {l m : List β} {f : List β → M γ} (i : Nat) {y : Str} {p1 p2 p3 : Pos} (hi : ρ[i]? = some (.ow (lstd en l))) (h : EvO X H0 ρ e (lstd en m)) (hz : catOk l m = true) (tt : ∀ l, ExM X H0 (ρ.set i (.ow (lstd en l))) k rest D (f l)) (hN : X.N[i]? = some y := by rfl) (hv : Vis X.env.scope y := by first | exact Or.inl rfl | exact Or.inr (Or.inl rfl) | exact Or.inr (Or.inr rfl))
    (hd : (y == ("__debug__" : Str)) = false := by decide) (hcd : (y == ("__classdict__" : Str)) = false := by decide)
    (hpe : ∀ to t, PE X (.Name y p1) to → PA X [e] t → PE X (.Call (.Attribute (.Name y p1) "extend" p2) [e] [] p3) (tBM X.K "list" rExtend to t) := by exact fun _ _ h g => pe_bm PySem.F.plainAttrs_list PySem.F.slot_list_extend PySem.F.type_list_extend mt_extend h g)
    (he : starEach [e] X.env = (false, eval e X.env) :: starEach [] X.env := by rfl) (hs : swapsWith (.Call (.Attribute (.Name y p1) "extend" p2) [e] [] p3) none pos.line X.env = pure false := by rfl) :
    ExM X H0 ρ k (.Expr (.Call (.Attribute (.Name y p1) "extend" p2) [e] [] p3) pos :: rest) D (M.lt (l ++ m) f) := by
  refine xm_then (ρ1 := ρ.set i (.ow (lstd en (l ++ m)))) (fun Dd σ H N r kk => ?_) (tt (l ++ m))
  obtain ⟨q, g1, g2, g3, vs, g4, g5⟩ := r.ow i _ hi
  refine ws_of (ps_expr (hpe _ _ (pv i hN hv hd hcd) (pa_cons pe_w pa_nil he)) hs) ⟨_, g1, .inl ⟨rfl, _, .inl (.inl g4)⟩, (h σ H N r).imp fun v H1 ⟨N1, p, e1, hp0, s1, n1, r1, np, ws, w1, w2⟩ => ?_⟩
  obtain ⟨q', f1, f2, f3, us, f4, f5⟩ := r1.ow i _ hi
  rw [g1] at f1
  cases f1
  refine ⟨q, p, us, ws, rfl, by rw [e1], f4, w1, by rw [f5.length, w2.length, List.length_map, List.length_map]; exact catOk_ok hz, kk σ _ N1 n1 ?_⟩
  refine r1.write hi g1 ⟨us ++ ws, upd_same, ?_⟩
  rw [List.map_append]
  exact f5.append w2
/-! ### an owned list that is only read for a while -/
/-- nothing that was handed in is held -/
def noOl (ρ : Env') : Prop := ∀ (j : Nat) (d : Dat), ρ[j]? ≠ some (Ent.ol d)
open Classical in
/-- what was there ahead, with an owned list and all that no one can change -/
noncomputable def Hb (H0 N : Hp) (p : Addr) (o : HO) : Hp := fun a => if a = p then some o else match H0 a with | some u => some u | none => Imm N a
theorem hb_p {H0 N : Hp} {p : Addr} {o : HO} : Hb H0 N p o p = some o := by unfold Hb; rw [if_pos rfl]
theorem hb_old {H0 N : Hp} {p : Addr} {o : HO} (h : H0 p = none) : Same H0 (Hb H0 N p o) := fun a u e => by
  unfold Hb
  have : a ≠ p := fun q => by rw [q, h] at e; cases e
  rw [if_neg this, e]
theorem hb_cs {H0 N : Hp} {p a : Addr} {o u : HO} (h : Hb H0 N p o a = some u) : (a = p ∧ u = o) ∨ (a ≠ p ∧ (H0 a = some u ∨ Imm N a = some u)) := by
  unfold Hb at h
  by_cases q : a = p
  · rw [if_pos q] at h
    exact .inl ⟨q, (Option.some.inj h).symm⟩
  · rw [if_neg q] at h
    refine .inr ⟨q, ?_⟩
    cases e : H0 a with
    | some w => rw [e] at h; exact .inl h
    | none => rw [e] at h; exact .inr h
theorem hb_none {H0 N : Hp} {p a : Addr} {o : HO} (h1 : a ≠ p) (h2 : H0 a = none) (h3 : Imm N a = none) : Hb H0 N p o a = none := by
  unfold Hb
  rw [if_neg h1, h2]
  exact h3
theorem Rep.borrow {K : PySem.W.Frag} {H0 H N : Hp} {ρ : Env'} {σ : L2.St} (r : Rep K H0 ρ σ H N) {i : Nat} {p : Addr} {vs : List V} {ds : List Dat} (hi : ρ[i]? = some (.ow (.lst ds))) (hn : noOl ρ) (hp : σ[i]? = some (some (V.ref p))) (h0 : H0 p = none) (np : N p = none) (hh : H p = some (.lst vs)) (ha : Ats K N vs ds) (f : flats ds = true) :
    Rep K (Hb H0 N p (.lst vs)) (ρ.set i (.rf p)) σ H N ∧ Ats K (Imm (Hb H0 N p (.lst vs))) vs ds := by
  have m : Mut (some (HO.lst vs)) := trivial
  refine ⟨⟨fun a u e => ?_, r.sub, fun a u e => ?_, fun a u e mu => ?_, by rw [List.length_set]; exact r.len, fun j d e => ?_, fun j d e => ?_, fun j d e => ?_, fun j a e => ?_, fun j k d d' q ne a b c => ?_⟩, (ha.imm f).mono fun a u e => ?_⟩
  · rcases hb_cs e with ⟨rfl, rfl⟩ | ⟨_, e | e⟩
    · exact hh
    · exact r.old a u e
    · exact r.sub a u (imm_sub _ _ _ e)
  · have mu := imm_not e
    rcases hb_cs (imm_sub _ _ _ e) with ⟨rfl, rfl⟩ | ⟨_, e | e⟩
    · exact absurd m mu
    · exact r.imm a u (imm_of e mu)
    · exact imm_sub _ _ _ e
  · refine hb_none (fun q => by rw [q, np] at e; cases e) (r.fresh a u e mu) ?_
    cases q : Imm N a with
    | none => rfl
    | some w =>
      have := imm_sub _ _ _ q
      rw [e] at this
      cases this
      exact absurd mu (imm_not q)
  · rcases get_set e with ⟨_, z⟩ | ⟨_, e⟩
    · cases z
    · exact r.im j d e
  · rcases get_set e with ⟨_, z⟩ | ⟨_, e⟩
    · cases z
    · exact absurd e (hn j d)
  · rcases get_set e with ⟨_, z⟩ | ⟨ne, e2⟩
    · cases z
    · obtain ⟨p', a1, a2, a3, a4⟩ := r.ow j d e2
      refine ⟨p', a1, hb_none (fun q => ?_) a2 ?_, a3, a4⟩
      · subst q
        exact r.apart j i _ _ _ ne e2 hi a1 hp
      · cases q : Imm N p' with
        | none => rfl
        | some w => have := imm_sub _ _ _ q; rw [a3] at this; cases this
  · rcases get_set e with ⟨rfl, z⟩ | ⟨_, e⟩
    · cases z; exact hp
    · exact r.rf j a e
  · rcases get_set a with ⟨_, z⟩ | ⟨_, a⟩
    · cases z
    rcases get_set b with ⟨_, z⟩ | ⟨_, b⟩
    · cases z
    exact r.apart j k d d' q ne a b c
  · have mu := imm_not e
    have e1 := imm_sub _ _ _ e
    refine imm_of ?_ mu
    unfold Hb
    rw [if_neg (fun q => by rw [q, np] at e1; cases e1)]
    cases q : H0 a with
    | none => exact e
    | some w =>
      have z1 := r.old a w q
      rw [r.sub a u e1] at z1
      cases z1
      rfl
/-- what was lent comes back: nothing of what was there ahead is asked -/
theorem Rep.lower {K : PySem.W.Frag} {H0 H N N0 : Hp} {ρ : Env'} {σ : L2.St} {p : Addr} {vs : List V} (r : Rep K (Hb H0 N0 p (.lst vs)) ρ σ H N) (h0 : H0 p = none) (hn : noOl ρ) : Rep K H0 ρ σ H N := by
  have so := hb_old (N := N0) (o := HO.lst vs) h0
  have none0 : ∀ {a : Addr}, Hb H0 N0 p (.lst vs) a = none → H0 a = none := fun {a} e => by
    cases q : H0 a with
    | none => rfl
    | some u => rw [so a u q] at e; cases e
  refine ⟨so.trans r.old, r.sub, (imm_same so).trans r.imm, fun a o e m => none0 (r.fresh a o e m), r.len, r.im, fun j d e => absurd e (hn j d), fun j d e => ?_, r.rf, r.apart⟩
  obtain ⟨q, a1, a2, a3, a4⟩ := r.ow j d e
  exact ⟨q, a1, none0 a2, a3, a4⟩
theorem Rep.regain {K : PySem.W.Frag} {H0 H N N0 : Hp} {ρ : Env'} {σ : L2.St} {i : Nat} {p : Addr} {vs : List V} {ds : List Dat} (r : Rep K (Hb H0 N0 p (.lst vs)) ρ σ H N) (h0 : H0 p = none) (hn : noOl ρ) (hi : ρ[i]? = some (.rf p)) (ha : Ats K N vs ds) : Rep K H0 (ρ.set i (.ow (.lst ds))) σ H N := by
  have m : Mut (some (HO.lst vs)) := trivial
  have hh := r.old p _ hb_p
  have np : N p = none := by
    cases q : N p with
    | none => rfl
    | some u =>
      have e1 := r.sub p u q
      rw [hh] at e1
      cases e1
      have := r.fresh p _ q m
      rw [hb_p] at this
      cases this
  have hs := r.rf i p hi
  have b := r.lower h0 hn
  have ne : ∀ {j : Nat} {d : Dat} {q : Addr}, ρ[j]? = some (.ow d) → σ[j]? = some (some (V.ref q)) → q ≠ p := fun {j d q} e z y => by
    subst y
    obtain ⟨q', a1, a2, a3, a4⟩ := r.ow j d e
    rw [z] at a1
    cases a1
    rw [hb_p] at a2
    cases a2
  refine ⟨b.old, b.sub, b.imm, b.fresh, by rw [List.length_set]; exact b.len, fun j d e => ?_, fun j d e => ?_, fun j d e => ?_, fun j a e => ?_, fun j k d d' q jk a c z y => ?_⟩
  · rcases get_set e with ⟨_, z⟩ | ⟨_, e⟩
    · cases z
    · exact b.im j d e
  · rcases get_set e with ⟨_, z⟩ | ⟨_, e⟩
    · cases z
    · exact b.ol j d e
  · rcases get_set e with ⟨rfl, z⟩ | ⟨_, e⟩
    · cases z
      exact ⟨p, hs, h0, np, vs, hh, ha⟩
    · exact b.ow j d e
  · rcases get_set e with ⟨_, z⟩ | ⟨_, e⟩
    · cases z
    · exact b.rf j a e
  · rcases get_set a with ⟨rfl, _⟩ | ⟨nj, a⟩
    · rw [hs] at z
      cases z
      rcases get_set c with ⟨rfl, _⟩ | ⟨_, c⟩
      · exact jk rfl
      · exact ne c y rfl
    · rcases get_set c with ⟨ek, _⟩ | ⟨_, c⟩
      · rw [ek, hs] at y
        cases y
        exact ne a z rfl
      · exact b.apart j k d d' q jk a c z y
/-- how the statement's end looks behind the loan -/
def Bk (i : Nat) (ds : List Dat) (p : Addr) : Outc → Outc → Prop
  | .nx ρ', .nx ρ => ρ'[i]? = some (.rf p) ∧ noOl ρ' ∧ ρ = ρ'.set i (.ow (.lst ds))
  | .rt d, .rt d' => d = d'
  | .ro d, .ro d' => d = d'
  | .ex n ρ', .ex n' ρ => n = n' ∧ ρ = ρ' ∧ noOl ρ'
  | _, _ => False
theorem sx_borrow {i : Nat} {o : Outc} (o' : Addr → Outc) (hi : ρ[i]? = some (.ow (.lst ds))) (hn : noOl ρ) (f : flats ds = true) (h : ∀ (H0' : Hp) (p : Addr) (vs : List V), H0' p = some (.lst vs) → Ats X.K (Imm H0') vs ds → ExS X H0' (ρ.set i (.rf p)) st (o' p)) (hb : ∀ p, Bk i ds p (o' p) o) : ExS X H0 ρ st o := fun D σ H N r c => by
  obtain ⟨p, e1, h0, np, vs, hh, ha⟩ := r.ow i _ hi
  obtain ⟨r1, a1⟩ := r.borrow hi hn e1 h0 np hh ha f
  refine h _ p vs hb_p a1 D σ H N r1 ?_
  have so := hb_old (N := N) (o := HO.lst vs) h0
  have none0 : ∀ {a : Addr}, Hb H0 N p (.lst vs) a = none → H0 a = none := fun {a} e => by
    cases q : H0 a with
    | none => rfl
    | some u => rw [so a u q] at e; cases e
  have hb := hb p
  cases e : o' p with
  | nx ρ' =>
    rw [e] at hb
    cases o with
    | nx ρ2 =>
      obtain ⟨b1, b2, rfl⟩ := hb
      exact fun σ' H' N' s r' => c σ' H' N' s (r'.regain h0 b2 b1 (ha.mono s))
    | _ => exact hb.elim
  | rt d =>
    rw [e] at hb
    cases o with
    | rt d' =>
      cases (show d = d' from hb)
      exact fun v H' s sn ⟨N', q1, q2, q3⟩ => c v H' (so.trans s) sn ⟨N', q1, fun a u z m => none0 (q2 a u z m), q3⟩
    | _ => exact hb.elim
  | ro d =>
    rw [e] at hb
    cases o with
    | ro d' =>
      cases (show d = d' from hb)
      exact fun q H' N' s1 sn s2 s3 s4 s5 s6 => c q H' N' (so.trans s1) sn s2 (fun a u z m => none0 (s3 a u z m)) (none0 s4) s5 s6
    | _ => exact hb.elim
  | ex n ρ' =>
    rw [e] at hb
    cases o with
    | ex n' ρ2 =>
      obtain ⟨rfl, rfl, b2⟩ := hb
      obtain ⟨W, t, k⟩ := c
      exact ⟨W, t, fun C σ' H' N' m s r' => k C σ' H' N' m s (r'.lower h0 b2)⟩
    | _ => exact hb.elim
  | bk ρ' => rw [e] at hb; cases o <;> exact hb.elim
  | ct ρ' => rw [e] at hb; cases o <;> exact hb.elim
/-- a walk of what lies at an address that no one changes -/
theorem itm_rf {en : β → Dat} {l : List β} {p : Addr} {vs : List V} (i : Nat) {t : Expr} {x : Str} (h : ρ[i]? = some (.rf p)) (h1 : H0 p = some (.lst vs)) (h2 : Ats X.K (Imm H0) vs (l.map en)) (hN : X.N[i]? = some x := by rfl) (hv : Vis X.env.scope x := by first | exact Or.inl rfl | exact Or.inr (Or.inl rfl) | exact Or.inr (Or.inr rfl)) (hd : (x == ("__debug__" : Str)) = false := by decide)
    (hcd : (x == ("__classdict__" : Str)) = false := by decide) : Iter X H0 ρ t (.Name x pos) (l.map en) := ⟨_, pi_list (pv i hN hv hd hcd), fun σ H N r R k => by
  have h1' : SqL X.K H0 p vs := .inl (.inl h1)
  refine ⟨_, r.rf i _ h, p, rfl, ⟨vs, sql_same r.old h1'⟩, k _ H N (Same.refl _) (Same.refl _) r fun H02 ρ2 σ2 H2 N2 j s02 s2 r2 => ⟨fun hi => ?_, fun hi => ⟨vs, sql_same (s02.trans r2.old) h1', by rw [h2.length]; exact Nat.le_of_eq hi.symm⟩⟩⟩
  have hv : j < vs.length := by rw [h2.length]; exact hi
  refine ⟨⟨vs, vs[j], sql_same (s02.trans r2.old) h1', by simp [hv]⟩, fun x H3 y => ?_⟩
  obtain ⟨rfl, y⟩ := y
  obtain ⟨d, e2, e3⟩ := h2.getV (y vs (sql_same (s02.trans r2.old) h1'))
  exact ⟨N2, d, Same.refl _, Same.refl _, r2, e2, (e3.mono (imm_same s02)).mono r2.imm⟩⟩
theorem forF_no {α S L R : Type} {f : α → S → M (Fl S S R)} : ∀ (xs : List α) (s : S) (z : L), (forF f xs s : M (Fl S L R)) ≠ .ok (.ct z) ∧ (forF f xs s : M (Fl S L R)) ≠ .ok (.bk z)
  | [], s, z => ⟨(fun h => by cases h), (fun h => by cases h)⟩
  | x :: xs, s, z => by
    unfold forF
    cases f x s with
    | ok v =>
      cases v with
      | nx s' => exact forF_no xs s' z
      | ct s' => exact forF_no xs s' z
      | bk s' => exact ⟨(fun h => by cases h), (fun h => by cases h)⟩
      | rt r => exact ⟨(fun h => by cases h), (fun h => by cases h)⟩
    | ex n => exact ⟨(fun h => by cases h), (fun h => by cases h)⟩
    | far => exact ⟨(fun h => by cases h), (fun h => by cases h)⟩
theorem noOl_no (k : Nat) : noOl (List.replicate k .no) := fun j d e => by
  have := List.eq_of_mem_replicate (List.mem_of_getElem? e)
  cases this
theorem noOl_set {ρ : Env'} {i : Nat} {p : Addr} (h : noOl ρ) : noOl (ρ.set i (.rf p)) := fun j d e => by
  rcases get_set e with ⟨_, z⟩ | ⟨_, e⟩
  · cases z
  · exact h j d e
/-- .. as reckoned -/
def noOlB (ρ : Env') : Bool := ρ.all fun e => match e with
  | .ol _ => false
  | _ => true
theorem noOl_of {ρ : Env'} (h : noOlB ρ = true) : noOl ρ := fun j d e => by
  have := List.all_eq_true.mp h _ (List.mem_of_getElem? e)
  cases this
/-- for x in an owned list that stays one's own -/
theorem xm_forJB {en : β → Dat} {t : Expr} {bd : Dat → Env' → Env'} {ok : Dat → Prop} {eS : S → Env'} {eL : L → Env'} {eS' : S' → Env'} {oR : R → Outc} {xs : List β} {s0 : S} {f : β → S → M (Fl S S R)} {fk : S → M (Fl S' L R)} (i : Nat) {y : Str} {p1 : Pos} (hR : ∀ r, ∃ d, oR r = .rt d ∨ oR r = .ro d) (hp : PassesOwn (model X.prog X.w) X.A X.env X.xe) (hc : X.calm = true) (fl : ∀ a, flat (en a) = true) (hg : ∀ H0, Tgt X H0 t ok bd) (hok : ∀ d ∈ xs.map en, ok d) (h0 : ρ = eS s0)
    (hs : ∀ s, (eS s)[i]? = some (.ow (lstd en xs))) (hn : ∀ s, noOl (eS s)) (hb : ∀ H0 p x s, ExM X H0 (bd (en x) ((eS s).set i (.rf p))) k body (Fl.D (fun s => (eS s).set i (.rf p)) (fun s => (eS s).set i (.rf p)) oR) (f x s)) (tt : ∀ s, ExM X H0 (eS s) k rest (Fl.D eS' eL oR) (fk s))
    (hN : X.N[i]? = some y := by rfl) (hv : Vis X.env.scope y := by first | exact Or.inl rfl | exact Or.inr (Or.inl rfl) | exact Or.inr (Or.inr rfl)) (hd : (y == ("__debug__" : Str)) = false := by decide) (hcd : (y == ("__classdict__" : Str)) = false := by decide)
    (hsf : ∀ x, foldedSetIterable (.Name y p1) X.env x = pure x := by intro _; rfl) : ExM X H0 ρ k (.For t (.Name y p1) body [] pos :: rest) (Fl.D eS' eL oR) (M.seq (forF f xs s0) fk) := by
  refine ex_flow (fun r => out_of (hR r)) ?_ tt
  subst h0
  have back : ∀ (s : S) (p : Addr), (((eS s).set i (.rf p))[i]? = some (.rf p)) ∧ eS s = ((eS s).set i (.rf p)).set i (.ow (lstd en xs)) := fun s p => by
    have hl := lt_of_get (hs s)
    refine ⟨List.getElem?_set_self hl, ?_⟩
    rw [List.set_set]
    have e := hs s
    rw [List.getElem?_eq_getElem hl] at e
    rw [← Option.some.inj e, List.set_getElem_self]
  have go : ∀ (H0' : Hp) (p : Addr) (vs : List V), H0' p = some (.lst vs) → Ats X.K (Imm H0') vs (xs.map en) → ExSM X H0' ((eS s0).set i (.rf p)) k (.For t (.Name y p1) body [] pos) (Fl.D (fun s => (eS s).set i (.rf p)) eL oR) (forF f xs s0 : M (Fl S L R)) := fun H0' p vs e1 e2 =>
    sx_forM hR hp hc (itm_rf i (back s0 p).1 e1 e2 hN hv hd hcd) (hg H0') hok rfl (fun x s => hb H0' p x s) hsf
  have fls := flats_map fl xs
  cases e : (forF f xs s0 : M (Fl S L R)) with
  | ok v =>
    rw [e] at go
    refine sx_borrow (fun p => Fl.D (fun s => (eS s).set i (.rf p)) eL oR v) (hs s0) (hn s0) fls go fun p => ?_
    cases v with
    | nx s => exact ⟨(back s p).1, noOl_set (hn s), (back s p).2⟩
    | ct s => exact absurd e (forF_no xs s0 s).1
    | bk s => exact absurd e (forF_no xs s0 s).2
    | rt r =>
      obtain ⟨d, q | q⟩ := hR r
      · show Bk i _ p (oR r) (oR r)
        rw [q]
        exact rfl
      · show Bk i _ p (oR r) (oR r)
        rw [q]
        exact rfl
  | ex n =>
    rw [e] at go
    exact sx_borrow (fun p => .ex n (List.replicate k .no)) (hs s0) (hn s0) fls go fun p => ⟨rfl, rfl, noOl_no k⟩
  | far => trivial
end
/-! ### try: y = f(..) except C as e: suite -/
def tryA {β S : Type} (mb : M β) (g : β → S) (hs : List (Str × M S)) : M S := match mb with
  | .ok r => .ok (g r)
  | .ex n => lookM n hs
  | .far => .far
@[simp] theorem tryA_ok {β S : Type} (b : β) (g : β → S) (hs : List (Str × M S)) : tryA (M.ok b) g hs = .ok (g b) := id rfl
@[simp] theorem tryA_ex {β S : Type} (n : Str) (g : β → S) (hs : List (Str × M S)) : tryA (M.ex n : M β) g hs = lookM n hs := id rfl
section
variable {X : Cx} {H0 : Hp} {ρ : Env'} {β γ S : Type} {call : Expr} {rest : List Stmt} {x n : Str} {k : Nat} {D : γ → Outc}
theorem xm_tryA {mb : M β} {eb : β → Dat} {g : β → S} {hs : List (Str × M S)} {eS : S → Env'} {f : S → M γ} {c : Value} {suite : List Stmt} {b₀ : Stmt} {np py pos pos' pos'' : Pos} {y : Str} (j i : Nat) (is : List Nat)
    (hst : X.stack = X.env :: X.outer) (hfr : X.env.frame = some X.env.locals) (nd : X.N.Nodup) (hc : Names X x c)
    (hb : ∀ (pn : List (Addr × Obj)) (xe : Value → Shared → Prop), PassesOwn (model X.prog X.w) X.A X.env xe → EvM (X.tr pn xe) H0 ρ call eb mb)
    (hok : ∀ r, eS (g r) = drops (ρ.set j (.im (eb r))) is)
    (hh : AllH (fun n h => (∀ C, X.mg n = some (.ref C) → PySem.W.exmOne X.K (.ref C) c = some true) ∧ ∀ (a C : Addr) (oe : Obj) (pn : List (Addr × Obj)), X.mg n = some (.ref C) → Zc (.ref C) none oe → (∃ vs, oe.data = .fields vs) → ExM (X.suite a ((a, oe) :: pn)) H0 (ρ.set i (.rf a)) k (b₀ :: suite) (fun s => .nx (eS s)) h) hs)
    (hno : ∀ s, (eS s).set i .no = eS s) (tt : ∀ s, ExM X H0 (eS s) k rest D (f s)) (hi : X.N[i]? = some n := by rfl) (hln : X.env.kindOf n = some .local := by rfl)
    (hj : X.N[j]? = some y := by rfl) (hy : Loc X.env.scope y := by first | exact Or.inl rfl | exact Or.inr rfl)
    (hsw : ∀ pn xe, swapsWith call (some (.Name y py)) pos.line (X.tr pn xe).env = pure false := by intro _ _; rfl) (hf : X.fn y = true ∨ X.env.scope.names.lookup y = some .local := by first | exact .inl rfl | exact .inr rfl | assumption) :
    ExM X H0 ρ k (.Try [.Assign [.Name y py] call pos] [.ExceptHandler (some (.Name x np)) (some n) (b₀ :: suite) pos'] [] [] pos'' :: rest) D (M.bind (tryA mb g hs) f) := by
  cases mb with
  | ok r =>
    have h1 : ExS X H0 ρ (.Try [.Assign [.Name y py] call pos] [.ExceptHandler (some (.Name x np)) (some n) (b₀ :: suite) pos'] [] [] pos'') (.nx (eS (g r))) :=
      sx_tryN (i := i) hst hfr nd hc (fun pn xe hp => ex_then (sx_set (X := X.tr pn xe) j (hb pn xe hp) nd rfl hj hy (hsw pn xe) hf) (hok r ▸ ex_drops is ex_nil)) (ho := trivial) (hi := hi) (hln := hln)
    exact xm_then h1 (tt (g r))
  | ex n' =>
    show ExM X H0 ρ k _ D (M.bind (lookM n' hs) f)
    induction hs with
    | nil => trivial
    | cons q r ih =>
      obtain ⟨⟨he, h1⟩, h2⟩ := hh
      unfold lookM
      by_cases e : n' = q.1
      · rw [if_pos e]
        subst e
        cases eh : q.2 with
        | ok s =>
          have h3 : ExS X H0 ρ (.Try [.Assign [.Name y py] call pos] [.ExceptHandler (some (.Name x np)) (some n) (b₀ :: suite) pos'] [] [] pos'') (Outc.un i (.nx (eS s))) :=
            sx_try (i := i) (m := q.1) (ρ1 := ρ) hst hfr nd hc he (fun pn xe hp => ex_one (sx_setX (X := X.tr pn xe) (hb pn xe hp) nd hj hy (hsw pn xe) hf)) (fun a C oe pn hC hz hf => by
              have := h1 a C oe pn hC hz hf
              rw [eh] at this
              exact this) trivial hi hln
          have h4 : Outc.un i (.nx (eS s)) = .nx (eS s) := by
            show Outc.nx ((eS s).set i .no) = _
            rw [hno s]
          rw [h4] at h3
          exact xm_then h3 (tt s)
        | ex _ => trivial
        | far => trivial
      · rw [if_neg e]
        exact ih h2
  | far => trivial
end
/-! ### == of texts that may be None -/
theorem eqs_optS : ∀ x y : Option (List Nat), PyData.eqv (pd (optd tx x)) (pd (optd tx y)) = decide (x = y)
  | none, none => by rfl
  | none, some l => by rfl
  | some l, none => by rfl
  | some l, some m => by
    have := eqs_str l m
    show PyData.eqv (pd (tx l)) (pd (tx m)) = _
    rw [this]
    by_cases h : l = m
    · subst h; simp
    · rw [decide_eq_false h, decide_eq_false (fun q => h (Option.some.inj q))]
end B

namespace L2
open PySem PySem.Spec PyProof.Rows
/-! ### enumerate(text) -/
def ItS (x : Str) : It := ⟨fun i _ => i < x.cps.size, fun i H v H' => ∃ T c, v = .ref T ∧ H T = none ∧ H' = upd H T (.tup [.int (i : Nat), .str ⟨#[c]⟩]) ∧ x.cps[i]? = some c, fun i _ => i = x.cps.size⟩
theorem turn_enumS {P : Program} {w : World} {K : PySem.W.Frag} {elts : List Expr} {kk : Nat} {tpos : Pos} (e it : Addr) (x : Str) (t : Tok) (ty : String) (hty : ty = "str_ascii_iterator" ∨ ty = "str_iterator") :
    Turn P w K (.Tuple elts kk tpos) (ItS x) [e, it] e (fun i h => (∃ old, IsEnum h e it ((i : Nat) : Int) old) ∧ h.IsStrIter it ty x t i ∧ e ≠ it) where
  mem := by simp
  obj := fun i h st b hb => by
    obtain ⟨⟨old, he⟩, ⟨o, ho, hc, hd⟩, _⟩ := st
    have e' : b = e ∨ b = it := by simpa using hb
    rcases e' with z | z
    · rw [z]; exact ⟨_, he, fun v q => nomatch q⟩
    · rw [z]; exact ⟨o, ho, fun v q => by rw [hd] at q; cases q⟩
  keep := fun i h h' st k => let ⟨⟨old, he⟩, ⟨o, ho, r⟩, hne⟩ := st; ⟨⟨old, k e (by simp) _ he⟩, ⟨o, k it (by simp) o ho, r⟩, hne⟩
  item := by
    intro X hP hw hK hc i pins s σ H E I hf st hg
    subst hP hw hK
    obtain ⟨⟨old, he⟩, hit, hne⟩ := st
    have hel : e < s.heap.objs.size := Heap.lt_size he
    have hil : it < s.heap.objs.size := by obtain ⟨_, q, _⟩ := hit; exact Heap.lt_size q
    have D : Draws X.prog X.w X.A.in1 it [it] x.cps.size (fun i v => ∃ c u, x.cps[i]? = some c ∧ v = .str ⟨#[c]⟩ u) (fun i h => h.IsStrIter it ty x t i) := by
      rcases hty with z | z
      · rw [z]; exact Draws.strAscii (A := X.A.in1) (I.ok.hd hc) it x t
      · rw [z]; exact Draws.strWide (A := X.A.in1) (I.ok.hd hc) it x t
    refine wpAny_pyNext_enum_itemD D he hit hg hne (by simp [hne]) fun v h' tk hv ho hit' hT hsz hk => ?_
    obtain ⟨c, u, hcx, rfl⟩ := hv
    refine ⟨_, rfl, wpAny_letOwnedTupleGo_enum (s := { s with heap := h', toks := tk + 1 }) ho fun h'' he' sb => ?_⟩
    have hT2 : h''.get? s.heap.objs.size = some { cls := .type "tuple", data := .seq #[.int i tk, .str ⟨#[c]⟩ u] } := (sb.2 _ (Nat.ne_of_gt hel)).trans hT
    have new : ObjOk X.prog X.w (upd H s.heap.objs.size (.tup [.int (i : Nat), .str ⟨#[c]⟩])) h'' s.heap.objs.size (.tup [.int (i : Nat), .str ⟨#[c]⟩]) :=
      ⟨by show 2 ≤ sizeLine; decide, [.int i tk, .str ⟨#[c]⟩ u], .cons ⟨_, rfl⟩ (.cons ⟨_, rfl⟩ .nil), ⟨_, hT2, rfl, _, rfl⟩⟩
    have I1 : Inv X pins σ (upd H s.heap.objs.size (.tup [.int (i : Nat), .str ⟨#[c]⟩])) { s with heap := h'', toks := tk + 1 } :=
      I.turnedNew (ch := [e, it]) (fun b ob hb q => (sb.2 b (fun z => hb (by simp [z]))).trans (hk b ob (fun z => hb (by simp [z])) (fun z => hb (by simp [z])) q)) hf (Nat.le_refl _) new
    refine ⟨.ref s.heap.objs.size, _, I1, rfl, ⟨_, c, rfl, I.hok.fresh (Nat.le_refl _), rfl, hcx⟩, ⟨⟨.str ⟨#[c]⟩ u, ?_⟩, ?_, hne⟩, fun b hb => ?_⟩
    · have e1 : ((i + 1 : Nat) : Int) = (i : Int) + 1 := by omega
      rw [e1]; exact he'
    · obtain ⟨o, ho', r⟩ := hit'
      exact ⟨o, (sb.2 it (Ne.symm hne)).trans ho', r⟩
    · have hb' : b < s.heap.objs.size := by
        have e' : b = e ∨ b = it := by simpa using hb
        rcases e' with z | z
        · rw [z]; exact hel
        · rw [z]; exact hil
      rw [upd_ne (Nat.ne_of_lt hb')]
      exact (hf b hb).1
  done := by
    intro X hP hw hK hc i pins s σ H E I hf st hg
    subst hP hw hK
    obtain ⟨⟨old, he⟩, hit, hne⟩ := st
    have hg' : i = x.cps.size := hg
    subst hg'
    obtain ⟨f0, f1, f2, f3, f4, f5⟩ := hf it (by simp)
    have D : Draws X.prog X.w X.A.in1 it [it] x.cps.size (fun i v => ∃ c u, x.cps[i]? = some c ∧ v = .str ⟨#[c]⟩ u) (fun i h => h.IsStrIter it ty x t i) := by
      rcases hty with z | z
      · rw [z]; exact Draws.strAscii (A := X.A.in1) (I.ok.hd hc) it x t
      · rw [z]; exact Draws.strWide (A := X.A.in1) (I.ok.hd hc) it x t
    exact wpAny_pyNext_enum_endD D he hit fun h' eb => ⟨rfl, I.turned (t' := s.toks) (fun b o hb q => eb b o hb q) f0 f1 f3 f4 f5⟩
  self := fun A i s Q E st h => let ⟨⟨_, he⟩, _⟩ := st; wpAny_pyIter_enum he h
def iEnumS (ta : TA) : TI := fun σ H R => ta σ H fun vs H1 => ∃ x, vs = [.str x] ∧ R (ItS x) H1
theorem pi_enumS {X : Cx} {e : Expr} {ta : TA} {p pos tpos : Pos} {elts : List Expr} {kk : Nat} (hg : Gl X "enumerate") (hm : X.mg "enumerate" = none) (ha : PA X [e] ta) (hs : starEach [e] X.env = [(false, eval e X.env)] := by rfl) :
    PI X (.Tuple elts kk tpos) (.Call (.Name "enumerate" p) [e] [] pos) (iEnumS ta) := by
  refine ⟨fun pins s σ H R I h => ?_⟩
  refine Call_ (ld_blt I hg hm boot_enumerate (PyProof.Rows.callWith_type1 (thn (ha.run pos pins s σ H _ I h) fun us s1 ⟨vs, H1, I1, r1, q1⟩ => ?_) hs rfl))
  obtain ⟨x, ex, q⟩ := q1
  subst ex
  cases r1 with
  | cons r rr =>
    cases rr
    obtain ⟨t, rfl⟩ := r
    refine call_enumerate_str fun h' he hit hsz hk => wpAny_pyIter_enum he ?_
    have I2 : Inv X pins σ H1 { s1 with heap := h' } := I1.kept (t' := s1.toks) hk
    have hty : strIterType x = "str_ascii_iterator" ∨ strIterType x = "str_iterator" := by
      unfold strIterType
      split
      · exact .inl rfl
      · exact .inr rfl
    refine ⟨s1.heap.objs.size + 1, [s1.heap.objs.size + 1, s1.heap.objs.size], _, _, H1, rfl, I2, turn_enumS (s1.heap.objs.size + 1) s1.heap.objs.size x t _ hty, ⟨⟨.none, he⟩, hit, Nat.succ_ne_self _⟩, fun b hb => ?_, q⟩
    have e' : b = s1.heap.objs.size + 1 ∨ b = s1.heap.objs.size := by simpa using hb
    have hle : s1.heap.objs.size ≤ b := by
      rcases e' with z | z
      · rw [z]; exact Nat.le_add_right _ _
      · rw [z]; exact Nat.le_refl _
    exact I1.fpOk hle (I1.hok.fresh hle)
end L2
namespace B
open PySem PySem.Spec PyProof.Rows L2 PySem.Builtin.Str PySem.Builtin
/-- the signs of a text, each with its place -/
def enumL (l : List Nat) : List (Int × Nat) := (rng 0 1 l.length).zip l
section
variable {X : Cx} {H0 : Hp} {ρ ρ1 : Env'} {α β γ S S' L R : Type} {a b c e call : Expr} {st : Stmt} {rest body : List Stmt} {d : Dat} {ds : List Dat} {p pos apos : Pos} {k : Nat} {D : γ → Outc}
theorem it_enumS {l : List Nat} {elts : List Expr} {kk : Nat} {tpos : Pos} (h : Ev X H0 ρ e (tx l)) (hm : X.mg "enumerate" = none) (hg : Gl X "enumerate" := by rfl) (hs : starEach [e] X.env = [(false, eval e X.env)] := by rfl) :
    Iter X H0 ρ (.Tuple elts kk tpos) (.Call (.Name "enumerate" p) [e] [] pos) ((enumL l).map (tup2 Dat.int chd)) := ⟨_, pi_enumS hg hm pa_w hs, fun σ H N r R k => (ea_cons h ea_nil (hs := hs) σ H N r).imp fun vs H' ⟨N', s, n, r', q⟩ => by
  have hv : vs = [.str (SX.S l)] := by
    cases q with
    | cons a t => cases t; rw [at_str a]
  refine ⟨SX.S l, hv, k _ H' N' n s r' fun H02 ρ2 σ2 H2 N2 i s02 s2 r2 => ?_⟩
  have hsz : (SX.S l).cps.size = l.length := by simp [SX.S]
  have hll : (enumL l).length = l.length := by unfold enumL; rw [List.length_zip]; unfold rng; simp
  refine ⟨fun hi => ?_, fun hi => ?_⟩
  · rw [List.length_map, hll] at hi
    refine ⟨by show i < (SX.S l).cps.size; rw [hsz]; exact hi, fun x H3 y => ?_⟩
    obtain ⟨T, c, rfl, hT, rfl, hc⟩ := y
    obtain ⟨r3, n3⟩ := r2.new (o := .tup [.int (i : Nat), .str ⟨#[c]⟩]) hT
    have hc2 : l[i]? = some c := by
      have : (SX.S l).cps[i]? = l[i]? := by simp [SX.S]
      rw [← this]; exact hc
    have hr : (rng 0 1 l.length)[i]? = some ((i : Nat) : Int) := by
      unfold rng
      rw [List.getElem?_map, List.getElem?_range hi]
      simp
    refine ⟨_, .tup [.int (i : Nat), .str ⟨#[c]⟩], n3, Same.of_none hT, r3, ?_, .tup (.inl (.inl upd_same)) (.cons (.int _) (.cons (.str _) .nil))⟩
    rw [List.getElem?_map]
    have hz : (enumL l)[i]? = some (((i : Nat) : Int), c) := by
      unfold enumL
      rw [List.getElem?_zip_eq_some]
      exact ⟨hr, hc2⟩
    rw [hz]
    rfl
  · rw [List.length_map, hll] at hi
    show i = (SX.S l).cps.size
    rw [hsz]; exact hi⟩
/-- divmod -/
theorem ev_divmod {i j : Int} (ha : Ev X H0 ρ a (.int i)) (hb : Ev X H0 ρ b (.int j)) (hj : 0 < j ∧ j < 1073741824) (hm : X.mg "divmod" = none) (hg : Gl X "divmod" := by rfl) (he : starEach [a, b] X.env = (false, eval a X.env) :: starEach [b] X.env := by rfl) (he2 : starEach [b] X.env = (false, eval b X.env) :: starEach [] X.env := by rfl) (hpl : (backTo pos (starEach [b] X.env)).any (·.1) = false := by rfl) :
    Ev X H0 ρ (.Call (.Name "divmod" p) [a, b] [] pos) (tup2 Dat.int Dat.int (i / j, i % j)) := ev_blt call_divmod hm (by decide +kernel) (eab_cons ha.toB (eab_cons hb.toB eab_nil he2) he) (fun vs σ H N Q r q g => by
    obtain ⟨v, w, rfl, a1, a2⟩ := ats_two q
    rw [at_int a1, at_int a2]
    refine ⟨i, j, rfl, hj, fun T hT => ?_⟩
    obtain ⟨r3, n3⟩ := r.new (o := .tup [.int (i / j), .int (i % j)]) hT
    exact g _ _ _ (Same.of_none hT) n3 r3 (.tup (.inl (.inl upd_same)) (.cons (.int _) (.cons (.int _) .nil)))) hg (by decide) (by decide) he hpl
/-- s.zfill(n) -/
def zfl (l : List Nat) (n : Int) : List Nat := List.replicate (n.toNat - l.length) 48 ++ l
@[irreducible] noncomputable def padOk (n : Int) : Bool := cl (PadOk n = true)
@[irreducible] noncomputable def zflOk (l : List Nat) (n : Int) : Bool := cl (PadOk n = true ∧ l[0]? ≠ some 43 ∧ l[0]? ≠ some 45)
theorem tl_zfill {l : List Nat} {n : Int} (h1 : l[0]? ≠ some 43) (h2 : l[0]? ≠ some 45) : Txt.zfill (SX.S l) n = SX.S (zfl l n) := by
  unfold Txt.zfill
  have hlen : (SX.S l).length = l.length := SX.S_len l
  by_cases c : n ≤ (SX.S l).length
  · rw [if_pos c]
    rw [hlen] at c
    unfold zfl
    rw [show n.toNat - l.length = 0 by omega]
    rfl
  · rw [if_neg c]
    rw [hlen] at c ⊢
    have e0 : (SX.S l).cps[0]? = l[0]? := by simp [SX.S]
    unfold zfilled
    rw [e0]
    split
    · rename_i h; exact absurd h h1
    · rename_i h; exact absurd h h2
    · apply TL.ext_tl
      unfold zfl padded
      simp [TL.tl, SX.S]
theorem ev_zfill {l : List Nat} {n : Int} (ha : Ev X H0 ρ a (tx l)) (hb : Ev X H0 ρ b (.int n)) (hz : zflOk l n = true) (hs : starEach [b] X.env = [(false, eval b X.env)] := by rfl) (hbase : attributeBase a "zfill" X.env (eval a X.env) = eval a X.env := by rfl) (hline : (apos.endLine == pos.line) = true := by rfl) :
    Ev X H0 ρ (.Call (.Attribute a "zfill" apos) [b] [] pos) (tx (zfl l n)) := by
  unfold zflOk at hz
  obtain ⟨h0, h1, h2⟩ := cl_of hz
  exact ev_m1 F.slot_str_zfill F.type_str_zfill mt_zfill ha hb.toB (fun v σ H N Q r q g => by
    rw [at_int q]
    exact ⟨SX.S l, n, rfl, rfl, h0, by rw [tl_zfill h1 h2]; exact goes_self g r (.str _)⟩) hs hbase hline
/-- s.ljust(n, c) -/
def ljs (l : List Nat) (n : Int) (c : Nat) : List Nat := l ++ List.replicate (n.toNat - l.length) c
theorem mt_ljust2 {X : Cx} : MtR X "str.ljust" (fun x xs H Q => ∃ (a : Str) (i : Int) (c : Nat), x = .str a ∧ xs = [.int i, .str ⟨#[c]⟩] ∧ PadOk i = true ∧ Q (.str (Txt.ljustF a i c)) H) := by
  intro pins s σ H x xs v us Q I rx rs h
  obtain ⟨a, i, c, rfl, rfl, hc, q⟩ := h
  obtain ⟨t, rfl⟩ := rx
  cases rs with
  | cons r1 rs =>
    cases rs with
    | cons r2 rs =>
      cases rs
      obtain ⟨u, rfl⟩ := r1
      obtain ⟨z, rfl⟩ := r2
      exact ljust_fill hc rfl fun t' k => ⟨.str (Txt.ljustF a i c), H, I.tok k, ⟨t', rfl⟩, q⟩
theorem tl_ljust {l : List Nat} {n : Int} {c : Nat} : Txt.ljustF (SX.S l) n c = SX.S (ljs l n c) := by
  have h := ljustF_list (SX.S l) n c
  have e : (SX.S l).length = l.length := SX.S_len l
  apply TL.ext_tl
  show (Txt.ljustF (SX.S l) n c).cps.toList = (SX.S (ljs l n c)).cps.toList
  rw [h, e]
  simp [SX.S, ljs]
theorem ev_ljust2 {l : List Nat} {n : Int} {q : Nat} (ha : Ev X H0 ρ a (tx l)) (hb : Ev X H0 ρ b (.int n)) (hq : Ev X H0 ρ c (tx [q])) (hz : padOk n = true)
    (hpe : ∀ to t, PE X a to → PA X [b, c] t → PE X (.Call (.Attribute a "ljust" apos) [b, c] [] pos) (tBMS X.K "str" (fun _ x xs H Q => ∃ (a : Str) (i : Int) (c : Nat), x = .str a ∧ xs = [.int i, .str ⟨#[c]⟩] ∧ PadOk i = true ∧ Q (.str (Txt.ljustF a i c)) H) to t) := by exact fun _ _ h g => pe_bmS PySem.F.plainAttrs_str PySem.F.slot_str_ljust PySem.F.type_str_ljust mt_ljust2.toS h g)
    (he : starEach [b, c] X.env = (false, eval b X.env) :: starEach [c] X.env := by rfl) (he2 : starEach [c] X.env = (false, eval c X.env) :: starEach [] X.env := by rfl) : Ev X H0 ρ (.Call (.Attribute a "ljust" apos) [b, c] [] pos) (tx (ljs l n q)) := fun σ H N rp =>
  we_of (hpe _ _ pe_w (pa_cons pe_w (pa_cons pe_w pa_nil he2) he)) ((ha σ H N rp).imp fun v H1 ⟨N1, s1, n1, r1, a1⟩ => by
    unfold padOk at hz
    rw [at_str a1]
    refine ⟨rfl, (hb σ H1 N1 r1).imp fun w H2 ⟨N2, s2, n2, r2, a2⟩ => ?_⟩
    rw [at_int a2]
    refine (hq σ H2 N2 r2).imp fun w3 H3 ⟨N3, s3, n3, r3, a3⟩ => ?_
    rw [at_str a3]
    exact ⟨SX.S l, n, q, rfl, rfl, cl_of hz, N3, (s1.trans s2).trans s3, (n1.trans n2).trans n3, r3, by rw [tl_ljust]; exact .str _⟩)
/-- str(a whole number) -/
def strN (i : Int) : List Nat := (PySem.Str.ofString (toString i)).cps.toList
@[irreducible] noncomputable def strNOk (i : Int) : Bool := cl (i.natAbs.log2 < 1920)
theorem strN_S (i : Int) : SX.S (strN i) = PySem.Str.ofString (toString i) := by
  apply TL.ext_tl
  simp [TL.tl, SX.S, strN]
theorem ev_strN {i : Int} (ha : Ev X H0 ρ a (.int i)) (h : strNOk i = true) (hm : X.mg "str" = none) (hg : Gl X "str" := by rfl) (he : starEach [a] X.env = (false, eval a X.env) :: starEach [] X.env := by rfl) (hpl : (backTo pos (starEach [] X.env)).any (·.1) = false := by rfl) : Ev X H0 ρ (.Call (.Name "str" p) [a] [] pos) (tx (strN i)) := ev_ty call_str_int hm (by decide +kernel) (eab1 ha.toB he) (fun vs σ H N Q r q g => by
    unfold strNOk at h
    obtain ⟨v, e1, e2⟩ := ats_one q
    rw [at_int e2] at e1
    exact ⟨i, e1, cl_of h, by
      have := goes_self g r (.str (SX.S (strN i)))
      rw [strN_S] at this
      exact this⟩) hg (by decide) (by decide) he hpl
/-! ### try: y = f(..) / except ..: .. / else: .., where f raises nothing -/
theorem xm_tryE {mb : M β} {eb : β → Dat} {f : β → M γ} {h₀ : ExceptHandler} {hs : List ExceptHandler} {orelse : List Stmt} {py pos pos'' : Pos} {y : Str} (j : Nat) (hD : ∀ g, (D g).out) (nd : X.N.Nodup)
    (hb : EvM X.nox H0 ρ call eb mb) (te : ∀ r, ExM X H0 (ρ.set j (.im (eb r))) k orelse D (f r))
    (hj : X.N[j]? = some y := by rfl) (hy : Loc X.env.scope y := by first | exact Or.inl rfl | exact Or.inr rfl)
    (hsw : swapsWith call (some (.Name y py)) pos.line X.env = pure false := by rfl) (hf : X.fn y = true ∨ X.env.scope.names.lookup y = some .local := by first | exact .inl rfl | exact .inr rfl | assumption) :
    ExM X H0 ρ k (.Try [.Assign [.Name y py] call pos] (h₀ :: hs) orelse [] pos'' :: rest) D (M.bind (M.nox mb) f) := by
  cases mb with
  | ok r =>
    have go : ∀ {o : Outc}, Exec X H0 (ρ.set j (.im (eb r))) orelse o → ExS X H0 ρ (.Try [.Assign [.Name y py] call pos] (h₀ :: hs) orelse [] pos'') o := fun {o} h DD σ H N rp c => by
      refine ws_of (ps_try_thru (t := WB X.nox [.Assign [.Name y py] call pos]) (u := WB X orelse) pb_w pb_w) ?_
      have h1 : Exec X.nox H0 ρ [.Assign [.Name y py] call pos] (.nx (ρ.set j (.im (eb r)))) := ex_one (sx_set (X := X.nox) j hb nd rfl hj hy hsw hf)
      exact h1 { DD with nx := WB X orelse DD } σ H N rp fun σ' H' N' s r' => h DD σ' H' N' r' (c.mono s)
    have h2 := te r
    show ExM X H0 ρ k _ D (f r)
    cases e : f r with
    | ok v => rw [e] at h2; exact ex_out (go h2) (hD v)
    | ex n => rw [e] at h2; exact ex_out (go h2) trivial
    | far => trivial
  | ex n => trivial
  | far => trivial
end
section
variable {X : Cx} {H0 : Hp} {ρ : Env'} {α : Type} {e : Expr} {es : List Expr} {ds : List Dat} {p pos : Pos} {x : Str} {m : M α} {en : α → Dat}
/-- a call that leaves the last one to its default, a text; it may raise -/
theorem evm_callDX {R : List Dat → Res → Prop} {kk : Nat} {z : Str} (G : GFnD X.prog X.w X.K X.mg X.base x kk (.str z) R) (hr : Room kk X.A) (ha : EvAB X H0 ρ (e :: es) ds) (q : ∀ o, Rm en m o → R (ds ++ [.str z]) o) (hg : Gl X x := by rfl) (hdb : (x == ("__debug__" : Str)) = false := by decide)
    (he : starEach (e :: es) X.env = (false, eval e X.env) :: starEach es X.env := by rfl) (hpl : (backTo pos (starEach es X.env)).any (·.1) = false := by rfl) : EvM X H0 ρ (.Call (.Name x p) (e :: es) [] pos) en m := by
  cases m with
  | ok v => exact evm_callD (m := .ok v) G hr ha q hg hdb he hpl
  | ex n =>
    intro σ H N r W tk kw Q
    obtain ⟨f, fd, ps, F, hm, hk, _, d, hv, hb⟩ := G
    refine we_of (pe_callSD F hr hg hm hk hb hv (fun σ => passAt tk σ) pa_w hdb he hpl) ((ha σ H N r).imp fun vs H1 ⟨N1, s1, n1, r1, a1⟩ => ⟨ds ++ [.str z], .exc n, q _ rfl, a1.append (.cons (.str z) .nil), fun C H' hC s' => ?_⟩)
    exact kw C H' N1 hC n1 (r1.grow s')
  | far => trivial
end
theorem eqs_chr : ∀ x y : Nat, PyData.eqv (pd (chd x)) (pd (chd y)) = decide (x = y) := fun x y => by
  have := eqs_str [x] [y]
  show PyData.eqv (pd (tx [x])) (pd (tx [y])) = _
  rw [this]
  by_cases h : x = y
  · subst h; simp
  · rw [decide_eq_false h, decide_eq_false (fun q => h (by cases q; rfl))]
end B

namespace B
open PySem PySem.Spec PyProof.Rows L2
theorem execs_one (st : Stmt) (env : PySem.Env) : execs [st] env = exec st env := by
  have h : execs [st] env = (exec st env >>= fun f => pure f) := by
    show (exec st env >>= fun f => match f with | .next => execs [] env | f => pure f) = _
    congr 1
    funext f
    cases f <;> rfl
  rw [h]
  exact bind_pure _
/-! ### a dict of one's own whose values are lists of one's own -/
theorem own_ne {K : PySem.W.Frag} {H0 H N : Hp} {ρ : Env'} {σ : L2.St} (r : Rep K H0 ρ σ H N) {a : Addr} {u : HO} (h : H0 a = some u) (j : Nat) (d' : Dat) (e : ρ[j]? = some (Ent.ow d')) : σ[j]? ≠ some (some (V.ref a)) := fun z => by
  obtain ⟨p, a1, a2, _⟩ := r.ow j d' e
  rw [a1] at z
  cases z
  rw [a2] at h
  cases h
theorem n_of {K : PySem.W.Frag} {H0 H N : Hp} {ρ : Env'} {σ : L2.St} (r : Rep K H0 ρ σ H N) {a : Addr} {u : HO} (h : H0 a = some u) (m : Mut (some u)) : N a = none := by
  cases q : N a with
  | none => rfl
  | some w =>
    have e1 := r.sub a w q
    rw [r.old a u h] at e1
    cases e1
    have := r.fresh a u q m
    rw [h] at this
    cases this
/-- what was there ahead is changed at an address, or grows by one: nobody here holds on to it -/
theorem Rep.upd0 {K : PySem.W.Frag} {H0 H N : Hp} {ρ : Env'} {σ : L2.St} (r : Rep K H0 ρ σ H N) (hn : noOl ρ) {a : Addr} {o : HO} (m : Mut (some o)) (na : N a = none) (ho : ∀ (j : Nat) (d' : Dat), ρ[j]? = some (Ent.ow d') → σ[j]? ≠ some (some (V.ref a))) : Rep K (upd H0 a o) ρ σ (upd H a o) N := by
  refine ⟨fun b u e => ?_, fun b u e => ?_, fun b u e => ?_, fun b u e mu => ?_, r.len, r.im, fun j d e => absurd e (hn j d), fun j d e => ?_, r.rf, r.apart⟩
  · by_cases q : b = a
    · subst q; rw [upd_same] at e ⊢; exact e
    · rw [upd_ne q] at e ⊢; exact r.old b u e
  · have q : b ≠ a := fun q => by rw [q, na] at e; cases e
    rw [upd_ne q]; exact r.sub b u e
  · have mu := imm_not e
    have e1 := imm_sub _ _ _ e
    by_cases q : b = a
    · subst q; rw [upd_same] at e1; cases e1; exact absurd m mu
    · rw [upd_ne q] at e1; exact r.imm b u (imm_of e1 mu)
  · have q : b ≠ a := fun q => by rw [q, na] at e; cases e
    rw [upd_ne q]; exact r.fresh b u e mu
  · obtain ⟨p, a1, a2, a3, a4⟩ := r.ow j d e
    have q : p ≠ a := fun q => ho j d e (q ▸ a1)
    refine ⟨p, a1, by rw [upd_ne q]; exact a2, a3, ?_⟩
    cases d with
    | lst ds => obtain ⟨vs, b1, b2⟩ := a4; exact ⟨vs, by rw [upd_ne q]; exact b1, b2⟩
    | dic ds => obtain ⟨vs, b1, b2⟩ := a4; exact ⟨vs, by rw [upd_ne q]; exact b1, b2⟩
    | dit ks ds => obtain ⟨vs, b1, ql, b2⟩ := a4; exact ⟨vs, by rw [upd_ne q]; exact b1, ql, b2⟩
    | non => exact a4.elim
    | bl _ => exact a4.elim
    | int _ => exact a4.elim
    | str _ => exact a4.elim
    | tup _ => exact a4.elim
    | ins _ _ _ => exact a4.elim
    | tix _ => exact a4.elim
noncomputable def Un (H0 Hs : Hp) : Hp := fun a => match Hs a with
  | some u => some u
  | none => H0 a
theorem un_some {H0 Hs : Hp} {a : Addr} {u : HO} (h : Hs a = some u) : Un H0 Hs a = some u := by unfold Un; rw [h]
theorem un_none {H0 Hs : Hp} {a : Addr} (h : Un H0 Hs a = none) : Hs a = none ∧ H0 a = none := by
  unfold Un at h
  cases e : Hs a with
  | some u => rw [e] at h; cases h
  | none => rw [e] at h; exact ⟨rfl, h⟩
theorem un_upd {H0 Hs : Hp} {a : Addr} {o : HO} : Un H0 (upd Hs a o) = upd (Un H0 Hs) a o := by
  funext b
  by_cases q : b = a
  · subst q
    rw [upd_same]
    exact un_some upd_same
  · rw [upd_ne q]
    unfold Un
    rw [upd_ne q]
theorem upd_id {H : Hp} {a : Addr} {o : HO} (h : H a = some o) : upd H a o = H := by
  funext b
  by_cases q : b = a
  · subst q; rw [upd_same, h]
  · rw [upd_ne q]
section
variable {α : Type} {K : PySem.W.Frag} {en : α → Dat}
inductive Rws (K : PySem.W.Frag) (N Hs : Hp) (en : α → Dat) : List (List Nat × List α) → List Addr → List (Key × V) → Prop where
  | nil : Rws K N Hs en [] [] []
  | cons {k : List Nat} {l : List α} {T : List (List Nat × List α)} {q : Addr} {qs : List Addr} {ws : List V} {kvs : List (Key × V)} : Hs q = some (.lst ws) → Ats K N ws (l.map en) → Rws K N Hs en T qs kvs → Rws K N Hs en ((k, l) :: T) (q :: qs) (((Sum.inr (SX.S k) : Key), .ref q) :: kvs)
theorem Rws.mono {N N' Hs : Hp} (s : Same N N') {T : List (List Nat × List α)} {qs : List Addr} {kvs : List (Key × V)} (h : Rws K N Hs en T qs kvs) : Rws K N' Hs en T qs kvs := by
  induction h with
  | nil => exact .nil
  | cons a b _ ih => exact .cons a (b.mono s) ih
theorem Rws.updH {N Hs : Hp} {a : Addr} {o : HO} {T : List (List Nat × List α)} {qs : List Addr} {kvs : List (Key × V)} (h : Rws K N Hs en T qs kvs) (ha : a ∉ qs) : Rws K N (upd Hs a o) en T qs kvs := by
  induction h with
  | nil => exact .nil
  | cons e b _ ih =>
    rw [List.mem_cons, not_or] at ha
    exact .cons (by rw [upd_ne (Ne.symm ha.1)]; exact e) b (ih ha.2)
theorem Rws.snoc {N Hs : Hp} {k : List Nat} {l : List α} {q : Addr} {ws : List V} (e : Hs q = some (.lst ws)) (b : Ats K N ws (l.map en)) {T : List (List Nat × List α)} {qs : List Addr} {kvs : List (Key × V)} (h : Rws K N Hs en T qs kvs) : Rws K N Hs en (T ++ [(k, l)]) (qs ++ [q]) (kvs ++ [((Sum.inr (SX.S k) : Key), .ref q)]) := by
  induction h with
  | nil => exact .cons e b .nil
  | cons e' b' _ ih => exact .cons e' b' ih
theorem Rws.len {N Hs : Hp} {T : List (List Nat × List α)} {qs : List Addr} {kvs : List (Key × V)} (h : Rws K N Hs en T qs kvs) : kvs.length = T.length := by
  induction h with
  | nil => rfl
  | cons _ _ _ ih => rw [List.length_cons, List.length_cons, ih]
theorem Rws.mem {N Hs : Hp} {T : List (List Nat × List α)} {qs : List Addr} {kvs : List (Key × V)} (h : Rws K N Hs en T qs kvs) : ∀ q ∈ qs, ∃ ws, Hs q = some (.lst ws) := by
  induction h with
  | nil => intro q hq; cases hq
  | cons e b _ ih =>
    intro q hq
    rcases List.mem_cons.mp hq with rfl | hq
    · exact ⟨_, e⟩
    · exact ih q hq
theorem Rws.any {N Hs : Hp} {T : List (List Nat × List α)} {qs : List Addr} {kvs : List (Key × V)} (h : Rws K N Hs en T qs kvs) (k : List Nat) : (kvs.any fun kv => decide (kv.1 = (Sum.inr (SX.S k) : Key))) = T.any fun p => decide (p.1 = k) := by
  induction h with
  | nil => rfl
  | @cons k' l T q qs ws kvs _ _ _ ih =>
    rw [List.any_cons, List.any_cons, ih]
    congr 1
    by_cases e : k' = k
    · subst e; simp
    · have : ¬ ((Sum.inr (SX.S k') : Key) = Sum.inr (SX.S k)) := fun z => e (SX.S_inj (Sum.inr.inj z))
      rw [decide_eq_false this, decide_eq_false e]
/-- the dict as data -/
theorem Rws.atk {N Hs : Hp} (hs : Same N Hs) {T : List (List Nat × List α)} {qs : List Addr} {kvs : List (Key × V)} (h : Rws K N Hs en T qs kvs) : Atk K Hs kvs (dm (lstd en) T) := by
  induction h with
  | nil => exact .nil
  | cons e b _ ih => exact .cons (.lst (.inl (.inl e)) (b.mono hs)) ih
theorem Rws.atk2 {N Hs G : Hp} (hs : Same N G) (hg : Same Hs G) {T : List (List Nat × List α)} {qs : List Addr} {kvs : List (Key × V)} (h : Rws K N Hs en T qs kvs) : Atk K G kvs (dm (lstd en) T) := by
  induction h with
  | nil => exact .nil
  | cons e b _ ih => exact .cons (.lst (.inl (.inl (hg _ _ e))) (b.mono hs)) ih
theorem Rws.flat {N Hs G : Hp} (f : ∀ a, flat (en a) = true) (hs : Same (Imm N) G) (hg : Same Hs G) {T : List (List Nat × List α)} {qs : List Addr} {kvs : List (Key × V)} (h : Rws K N Hs en T qs kvs) : Atk K G kvs (dm (lstd en) T) := by
  induction h with
  | nil => exact .nil
  | @cons k l T q qs ws kvs e b _ ih => exact .cons (.lst (.inl (.inl (hg _ _ e))) ((b.imm (flats_map f l)).mono hs)) ih
/-- the value of a key put otherwise -/
def dset (T : List (List Nat × List α)) (k : List Nat) (l' : List α) : List (List Nat × List α) := match T with
  | [] => []
  | p :: T => if p.1 = k then (p.1, l') :: T else p :: dset T k l'
theorem Rws.at_ {N Hs : Hp} {k : List Nat} {l : List α} {T : List (List Nat × List α)} {qs : List Addr} {kvs : List (Key × V)} (h : Rws K N Hs en T qs kvs) (hq : qs.Nodup) (hl : dget T k = some l) :
    ∃ q ws, q ∈ qs ∧ Hs q = some (.lst ws) ∧ Ats K N ws (l.map en) ∧ valV kvs (Sum.inr (SX.S k) : Key) = some (.ref q) ∧ ∀ N' ws' l', Same N N' → Ats K N' ws' (l'.map en) → Rws K N' (upd Hs q (.lst ws')) en (dset T k l') qs kvs := by
  induction h with
  | nil => cases hl
  | @cons k' l0 T q qs ws kvs e b h ih =>
    rw [List.nodup_cons] at hq
    rw [dget_cons] at hl
    by_cases c : k' = k
    · rw [if_pos c] at hl
      cases hl
      subst c
      refine ⟨q, ws, List.mem_cons_self, e, b, valV_pos rfl, fun N' ws' l' s a => ?_⟩
      unfold dset
      rw [if_pos rfl]
      exact .cons upd_same a ((h.mono s).updH hq.1)
    · rw [if_neg c] at hl
      obtain ⟨q', ws', a1, a2, a3, a4, a5⟩ := ih hq.2 hl
      have ne : ¬ ((Sum.inr (SX.S k') : Key) = Sum.inr (SX.S k)) := fun z => c (SX.S_inj (Sum.inr.inj z))
      refine ⟨q', ws', List.mem_cons_of_mem _ a1, a2, a3, by rw [valV_neg ne]; exact a4, fun N' ws2 l' s a => ?_⟩
      unfold dset
      rw [if_neg c]
      have nq : q ≠ q' := fun z => hq.1 (z ▸ a1)
      exact .cons (by rw [upd_ne nq]; exact e) (b.mono s) (a5 N' ws2 l' s a)
structure Nst (K : PySem.W.Frag) (N Hs : Hp) (p : Addr) (en : α → Dat) (T : List (List Nat × List α)) (qs : List Addr) (kvs : List (Key × V)) : Prop where
  r : Rws K N Hs en T qs kvs
  top : Hs p = some (.dK kvs)
  nd : (p :: qs).Nodup
  dom : ∀ a u, Hs a = some u → a ∈ p :: qs
theorem Nst.mut {N Hs : Hp} {p : Addr} {T : List (List Nat × List α)} {qs : List Addr} {kvs : List (Key × V)} (h : Nst K N Hs p en T qs kvs) {a : Addr} {u : HO} (e : Hs a = some u) : Mut (some u) := by
  rcases List.mem_cons.mp (h.dom a u e) with rfl | m
  · rw [h.top] at e; cases e; exact True.intro
  · obtain ⟨ws, e2⟩ := h.r.mem a m
    rw [e2] at e; cases e; exact True.intro
theorem Nst.mono {N N' Hs : Hp} (s : Same N N') {p : Addr} {T : List (List Nat × List α)} {qs : List Addr} {kvs : List (Key × V)} (h : Nst K N Hs p en T qs kvs) : Nst K N' Hs p en T qs kvs := ⟨h.r.mono s, h.top, h.nd, h.dom⟩
def St2 (K : PySem.W.Frag) (H0 : Hp) (i : Nat) (en : α → Dat) (ρ : Env') (T : List (List Nat × List α)) (σ : L2.St) (H N : Hp) : Prop := ∃ p Hs qs kvs, Nst K N Hs p en T qs kvs ∧ (∀ a u, Hs a = some u → H0 a = none) ∧ Rep K (Un H0 Hs) (ρ.set i (.rf p)) σ H N
end
/-- .. ends: on to what follows, or by an error or a value, when the dict is one's own no more -/
inductive Oc2 (α : Type) where
  | nx (ρ : Env') (T : List (List Nat × List α))
  | ex (n : Str) (ρ : Env')
  | rt (d : Dat)
def Cont2 {α : Type} (X : Cx) (H0 N : Hp) (i : Nat) (en : α → Dat) (D : Ends) : Oc2 α → Prop
  | .nx ρ T => ∀ σ H N', Same N N' → St2 X.K H0 i en ρ T σ H N' → D.nx σ H
  | .ex n ρ => ∃ W, Takes X W ∧ ∀ C σ H N', X.mg n = some (.ref C) → Same N N' → Rep X.K H0 ρ σ H N' → W (.ref C) none σ H
  | .rt d => ∀ v H, Same H0 H → Same N H → Ret X.K H0 v d H → D.rt v H
section
variable {α β γ S R : Type} {X : Cx} {H0 : Hp} {i k : Nat} {en : α → Dat} {ρ ρ1 : Env'} {T T1 : List (List Nat × List α)} {st : Stmt} {sts rest body as bs : List Stmt} {b c e : Expr} {p1 pos : Pos} {o : Oc2 α} {D : γ → Oc2 α}
theorem Cont2.mono {N N' : Hp} {DD : Ends} (c : Cont2 X H0 N i en DD o) (s : Same N N') : Cont2 X H0 N' i en DD o := by
  cases o with
  | nx ρ T => exact fun σ H N2 s2 r => c σ H N2 (s.trans s2) r
  | ex n ρ =>
    obtain ⟨W, t, k⟩ := c
    exact ⟨W, t, fun C σ H N2 m s2 r => k C σ H N2 m (s.trans s2) r⟩
  | rt d => exact fun v H a b r => c v H a (s.trans b) r
def Exec2 (X : Cx) (H0 : Hp) (i : Nat) (en : α → Dat) (ρ : Env') (T : List (List Nat × List α)) (sts : List Stmt) (o : Oc2 α) : Prop := ∀ D σ H N, St2 X.K H0 i en ρ T σ H N → Cont2 X H0 N i en D o → WB X sts D σ H
def ExS2 (X : Cx) (H0 : Hp) (i : Nat) (en : α → Dat) (ρ : Env') (T : List (List Nat × List α)) (st : Stmt) (o : Oc2 α) : Prop := ∀ D σ H N, St2 X.K H0 i en ρ T σ H N → Cont2 X H0 N i en D o → WS X st D σ H
def ExM2 (X : Cx) (H0 : Hp) (i : Nat) (en : α → Dat) (ρ : Env') (T : List (List Nat × List α)) (k : Nat) (sts : List Stmt) (D : γ → Oc2 α) (m : M γ) : Prop := match m with
  | .ok v => Exec2 X H0 i en ρ T sts (D v)
  | .ex n => Exec2 X H0 i en ρ T sts (.ex n (List.replicate k .no))
  | .far => True
theorem ex2_nil : Exec2 X H0 i en ρ T [] (.nx ρ T) := fun D σ H N r k => wb_of pss_nil (k σ H N (Same.refl _) r)
theorem ex2_then (h : ExS2 X H0 i en ρ T st (.nx ρ1 T1)) (t : Exec2 X H0 i en ρ1 T1 rest o) : Exec2 X H0 i en ρ T (st :: rest) o := fun D σ H N r c => by
  refine wb_of (pss_cons ps_w pb_w) ?_
  show WS X st { D with nx := WB X rest D } σ H
  exact h _ σ H N r fun σ' H' N' s r' => t D σ' H' N' r' (c.mono s)
theorem ex2_ex {n : Str} {ρ' : Env'} (h : ExS2 X H0 i en ρ T st (.ex n ρ')) : Exec2 X H0 i en ρ T (st :: rest) (.ex n ρ') := fun D σ H N r c => by
  refine wb_of (pss_cons ps_w pb_w) ?_
  show WS X st { D with nx := WB X rest D } σ H
  exact h _ σ H N r c
theorem xm2_then {m : M γ} (h : ExS2 X H0 i en ρ T st (.nx ρ1 T1)) (t : ExM2 X H0 i en ρ1 T1 k rest D m) : ExM2 X H0 i en ρ T k (st :: rest) D m := by
  cases m with
  | ok v => exact ex2_then h t
  | ex n => exact ex2_then h t
  | far => trivial
theorem xm2_gd {m : M γ} {g : Bool} (h : g = true → ExM2 X H0 i en ρ T k sts D m) : ExM2 X H0 i en ρ T k sts D (M.gd g m) := by
  cases g with
  | true => exact h rfl
  | false => trivial
theorem xm2_ofO {ob : Option β} {f : β → M γ} (h : ∀ r, ob = some r → ExM2 X H0 i en ρ T k sts D (f r)) : ExM2 X H0 i en ρ T k sts D (M.bind (M.ofO ob) f) := by
  cases ob with
  | some r => exact h r rfl
  | none => trivial
theorem xm2_bind {mb : M β} {f : β → M γ} (h : ∀ r, mb = .ok r → ExM2 X H0 i en ρ T k sts D (f r)) : ExM2 X H0 i en ρ T k sts D (M.bind (M.nox mb) f) := by
  cases mb with
  | ok r => exact h r rfl
  | ex _ => trivial
  | far => trivial
/-- the end of a block; names that are let go -/
theorem St2.drop {σ : L2.St} {H N : Hp} {K : PySem.W.Frag} (j : Nat) (hj : j ≠ i) (h : St2 K H0 i en ρ T σ H N) : St2 K H0 i en (ρ.set j .no) T σ H N := by
  obtain ⟨p, Hs, qs, kvs, n, d, r⟩ := h
  refine ⟨p, Hs, qs, kvs, n, d, ?_⟩
  rw [List.set_comm _ _ hj]
  exact r.drop j
theorem xm2_end {v : γ} (hD : D v = .nx ρ T := by rfl) : ExM2 X H0 i en ρ T k [] D (.ok v) := by
  show Exec2 X H0 i en ρ T [] (D v)
  rw [hD]
  exact ex2_nil
theorem xm2_drop {m : M γ} (j : Nat) (hj : j ≠ i) (h : ExM2 X H0 i en (ρ.set j .no) T k sts D m) : ExM2 X H0 i en ρ T k sts D m := by
  cases m with
  | ok v => exact fun DD σ H N r c => h DD σ H N (r.drop j hj) c
  | ex n => exact fun DD σ H N r c => h DD σ H N (r.drop j hj) c
  | far => trivial
/-- a statement that doesn't touch the dict -/
theorem sx2_plain (h : ∀ H0' p, ExS X H0' (ρ.set i (.rf p)) st (.nx (ρ1.set i (.rf p)))) : ExS2 X H0 i en ρ T st (.nx ρ1 T) := fun D σ H N ⟨p, Hs, qs, kvs, n, d, r⟩ c =>
  h (Un H0 Hs) p D σ H N r fun σ' H' N' s r' => c σ' H' N' s ⟨p, Hs, qs, kvs, n.mono s, d, r'⟩
theorem Rep.low2 {K : PySem.W.Frag} {Hs H N : Hp} {σ : L2.St} (d : ∀ a u, Hs a = some u → H0 a = none) (hn : noOl ρ) (r : Rep K (Un H0 Hs) ρ σ H N) : Rep K H0 ρ σ H N := by
  have so : Same H0 (Un H0 Hs) := fun a u e => by
    unfold Un
    cases q : Hs a with
    | none => exact e
    | some w => rw [d a w q] at e; cases e
  refine ⟨so.trans r.old, r.sub, (imm_same so).trans r.imm, fun a o e m => (un_none (r.fresh a o e m)).2, r.len, r.im, fun j x e => absurd e (hn j x), fun j x e => ?_, r.rf, r.apart⟩
  obtain ⟨q, a1, a2, a3, a4⟩ := r.ow j x e
  exact ⟨q, a1, (un_none a2).2, a3, a4⟩
theorem sx2_plainX {n : Str} {k : Nat} (h : ∀ H0' p, ExS X H0' (ρ.set i (.rf p)) st (.ex n (List.replicate k .no))) : ExS2 X H0 i en ρ T st (.ex n (List.replicate k .no)) := fun D σ H N ⟨p, Hs, qs, kvs, nn, d, r⟩ ⟨W, t, c⟩ =>
  h (Un H0 Hs) p D σ H N r ⟨W, t, fun C σ' H' N' m s r' => c C σ' H' N' m s (r'.low2 d (noOl_no k))⟩
theorem ws_one {DD : Ends} {σ : L2.St} {H : Hp} (h : WB X [st] DD σ H) : WS X st DD σ H := by
  unfold WS
  intro pins s I
  have := h.go pins s I
  rw [execs_one] at this
  exact this
theorem xm2_one {m : M β} {f : β → M γ} (eS : β → Env') (h : ∀ H0' p, ExM X H0' (ρ.set i (.rf p)) k [st] (fun r => .nx ((eS r).set i (.rf p))) m) (tt : ∀ r, ExM2 X H0 i en (eS r) T k rest D (f r)) : ExM2 X H0 i en ρ T k (st :: rest) D (M.bind m f) := by
  cases m with
  | ok r => exact xm2_then (sx2_plain fun H0' p => fun DD σ H N rp c => ws_one (h H0' p DD σ H N rp c)) (tt r)
  | ex n => exact ex2_ex (sx2_plainX fun H0' p => fun DD σ H N rp c => ws_one (h H0' p DD σ H N rp c))
  | far => trivial
/-! what is read of the dict while it grows -/
noncomputable def Un3 (H0 Hs N : Hp) : Hp := fun a => match Un H0 Hs a with
  | some u => some u
  | none => Imm N a
theorem un3_some {Hs N : Hp} {a : Addr} {u : HO} (h : Un H0 Hs a = some u) : Un3 H0 Hs N a = some u := by unfold Un3; rw [h]
theorem un3_cs {Hs N : Hp} {a : Addr} {u : HO} (h : Un3 H0 Hs N a = some u) : Un H0 Hs a = some u ∨ (Un H0 Hs a = none ∧ Imm N a = some u) := by
  unfold Un3 at h
  cases e : Un H0 Hs a with
  | some w => rw [e] at h; exact .inl h
  | none => rw [e] at h; exact .inr ⟨rfl, h⟩
theorem un3_none {Hs N : Hp} {a : Addr} (h : Un3 H0 Hs N a = none) : Un H0 Hs a = none := by
  cases e : Un H0 Hs a with
  | none => rfl
  | some u => rw [un3_some e] at h; cases h
/-- the dict seen as a thing that was handed in -/
theorem Rep.see {K : PySem.W.Frag} {Hs H N : Hp} {σ : L2.St} {p : Addr} {qs : List Addr} {kvs : List (Key × V)} (f : ∀ a, flat (en a) = true) (hn : noOl ρ) (hi : i < ρ.length) (n : Nst K N Hs p en T qs kvs) (r : Rep K (Un H0 Hs) (ρ.set i (.rf p)) σ H N) : Rep K (Un3 H0 Hs N) (ρ.set i (.ol (dicd (lstd en) T))) σ H N := by
  have hp : σ[i]? = some (some (V.ref p)) := r.rf i p (List.getElem?_set_self hi)
  have i3 : Same (Imm N) (Un3 H0 Hs N) := fun a u e => by
    unfold Un3
    cases q : Un H0 Hs a with
    | none => exact e
    | some w =>
      have e1 := r.old a w q
      rw [r.sub a u (imm_sub _ _ _ e)] at e1
      exact e1.symm
  have s3 : Same Hs (Un3 H0 Hs N) := fun a u e => un3_some (un_some e)
  refine ⟨fun a u e => ?_, r.sub, fun a u e => ?_, fun a u e mu => ?_, by rw [List.length_set]; have := r.len; rw [List.length_set] at this; exact this, fun j d e => ?_, fun j d e => ?_, fun j d e => ?_, fun j a e => ?_, fun j k d d' q ne a b c => ?_⟩
  · rcases un3_cs e with e | ⟨_, e⟩
    · exact r.old a u e
    · exact r.sub a u (imm_sub _ _ _ e)
  · have mu := imm_not e
    rcases un3_cs (imm_sub _ _ _ e) with e | ⟨_, e⟩
    · exact r.imm a u (imm_of e mu)
    · exact imm_sub _ _ _ e
  · unfold Un3
    rw [r.fresh a u e mu]
    cases q : Imm N a with
    | none => rfl
    | some w =>
      have := imm_sub _ _ _ q
      rw [e] at this
      cases this
      exact absurd mu (imm_not q)
  · rcases get_set e with ⟨_, z⟩ | ⟨ne, e⟩
    · cases z
    · exact r.im j d (by rw [List.getElem?_set_ne (Ne.symm ne)]; exact e)
  · rcases get_set e with ⟨rfl, z⟩ | ⟨_, e⟩
    · cases z
      exact ⟨_, hp, .dic (.inl (un3_some (un_some n.top))) (n.r.flat f i3 s3)⟩
    · exact absurd e (hn j d)
  · rcases get_set e with ⟨_, z⟩ | ⟨ne, e⟩
    · cases z
    · obtain ⟨q, a1, a2, a3, a4⟩ := r.ow j d (by rw [List.getElem?_set_ne (Ne.symm ne)]; exact e)
      refine ⟨q, a1, ?_, a3, a4⟩
      unfold Un3
      rw [a2]
      cases z : Imm N q with
      | none => rfl
      | some w => have := imm_sub _ _ _ z; rw [a3] at this; cases this
  · rcases get_set e with ⟨_, z⟩ | ⟨ne, e⟩
    · cases z
    · exact r.rf j a (by rw [List.getElem?_set_ne (Ne.symm ne)]; exact e)
  · rcases get_set a with ⟨_, z⟩ | ⟨n1, a⟩
    · cases z
    rcases get_set b with ⟨_, z⟩ | ⟨n2, b⟩
    · cases z
    exact r.apart j k d d' q ne (by rw [List.getElem?_set_ne (Ne.symm n1)]; exact a) (by rw [List.getElem?_set_ne (Ne.symm n2)]; exact b) c
theorem Rep.unsee {K : PySem.W.Frag} {Hs H N N' : Hp} {σ : L2.St} {p : Addr} {d : Dat} (hn : noOl ρ) (hp : σ[i]? = some (some (V.ref p))) (r : Rep K (Un3 H0 Hs N) (ρ.set i (.ol d)) σ H N') : Rep K (Un H0 Hs) (ρ.set i (.rf p)) σ H N' := by
  have so : Same (Un H0 Hs) (Un3 H0 Hs N) := fun a u e => un3_some e
  refine ⟨so.trans r.old, r.sub, (imm_same so).trans r.imm, fun a o e m => un3_none (r.fresh a o e m), by rw [List.length_set]; have := r.len; rw [List.length_set] at this; exact this, fun j x e => ?_, fun j x e => ?_, fun j x e => ?_, fun j a e => ?_, fun j k x x' q ne a b c => ?_⟩
  · rcases get_set e with ⟨_, z⟩ | ⟨n1, e⟩
    · cases z
    · exact r.im j x (by rw [List.getElem?_set_ne (Ne.symm n1)]; exact e)
  · rcases get_set e with ⟨_, z⟩ | ⟨n1, e⟩
    · cases z
    · exact absurd e (hn j x)
  · rcases get_set e with ⟨_, z⟩ | ⟨n1, e⟩
    · cases z
    · obtain ⟨q, a1, a2, a3, a4⟩ := r.ow j x (by rw [List.getElem?_set_ne (Ne.symm n1)]; exact e)
      exact ⟨q, a1, un3_none a2, a3, a4⟩
  · rcases get_set e with ⟨rfl, z⟩ | ⟨n1, e⟩
    · cases z; exact hp
    · exact r.rf j a (by rw [List.getElem?_set_ne (Ne.symm n1)]; exact e)
  · rcases get_set a with ⟨_, z⟩ | ⟨n1, a⟩
    · cases z
    rcases get_set b with ⟨_, z⟩ | ⟨n2, b⟩
    · cases z
    exact r.apart j k x x' q ne (by rw [List.getElem?_set_ne (Ne.symm n1)]; exact a) (by rw [List.getElem?_set_ne (Ne.symm n2)]; exact b) c
/-- if; the test may read the dict -/
theorem xm2_if {S : Type} {eS : S → Env'} {tS : S → List (List Nat × List α)} {g : Bool} {m1 m2 : M S} {f : S → M γ} (fl : ∀ a, flat (en a) = true) (hn : noOl ρ) (hi : i < ρ.length) (hc : ∀ H0', EvT X H0' (ρ.set i (.ol (dicd (lstd en) T))) c g) (h1 : g = true → ExM2 X H0 i en ρ T k as (fun s => .nx (eS s) (tS s)) m1) (h2 : g = false → ExM2 X H0 i en ρ T k bs (fun s => .nx (eS s) (tS s)) m2) (tt : ∀ s, ExM2 X H0 i en (eS s) (tS s) k rest D (f s)) :
    ExM2 X H0 i en ρ T k (.If c as bs pos :: rest) D (M.bind (if g = true then m1 else m2) f) := by
  have go : ∀ {o : Oc2 α}, (g = true → Exec2 X H0 i en ρ T as o) → (g = false → Exec2 X H0 i en ρ T bs o) → ExS2 X H0 i en ρ T (.If c as bs pos) o := fun {o} k1 k2 DD σ H N ⟨p, Hs, qs, kvs, n, d, r⟩ cc => by
    have hp : σ[i]? = some (some (V.ref p)) := r.rf i p (List.getElem?_set_self hi)
    refine ws_of (ps_if pt_w pb_w pb_w) ((hc _ σ H N (r.see fl hn hi n)).imp fun v H' ⟨e1, N', s, s2, r'⟩ => ?_)
    subst e1
    have st : St2 X.K H0 i en ρ T σ H' N' := ⟨p, Hs, qs, kvs, n.mono s2, d, r'.unsee hn hp⟩
    cases v with
    | true => exact iteT (k1 rfl DD σ H' N' st (cc.mono s2))
    | false => exact iteF (k2 rfl DD σ H' N' st (cc.mono s2))
  cases g with
  | true =>
    rw [if_pos rfl]
    have h1 := h1 rfl
    cases m1 with
    | ok v => exact xm2_then (go (fun _ => h1) (fun z => nomatch z)) (tt v)
    | ex n => exact ex2_ex (go (fun _ => h1) (fun z => nomatch z))
    | far => trivial
  | false =>
    rw [if_neg (by decide)]
    have h2 := h2 rfl
    cases m2 with
    | ok v => exact xm2_then (go (fun z => nomatch z) (fun _ => h2)) (tt v)
    | ex n => exact ex2_ex (go (fun z => nomatch z) (fun _ => h2))
    | far => trivial
/-! for -/
inductive ForT2 (X : Cx) (H0 : Hp) (i : Nat) (en : α → Dat) (j : Nat) (body : List Stmt) : List Dat → Env' → List (List Nat × List α) → Oc2 α → Prop where
  | nil {ρ : Env'} {T : List (List Nat × List α)} : ForT2 X H0 i en j body [] ρ T (.nx ρ T)
  | turn {ρ ρ1 : Env'} {T T1 : List (List Nat × List α)} {d : Dat} {ds : List Dat} {o : Oc2 α} : Exec2 X H0 i en (ρ.set j (.im d)) T body (.nx ρ1 T1) → ForT2 X H0 i en j body ds ρ1 T1 o → ForT2 X H0 i en j body (d :: ds) ρ T o
  | exc {ρ ρ1 : Env'} {T : List (List Nat × List α)} {d : Dat} {ds : List Dat} {n : Str} : Exec2 X H0 i en (ρ.set j (.im d)) T body (.ex n ρ1) → ForT2 X H0 i en j body (d :: ds) ρ T (.ex n ρ1)
/-- what is walked, whatever was there ahead -/
def IterA (X : Cx) (i : Nat) (ρ : Env') (t e : Expr) (ds : List Dat) : Prop := ∃ wi, PI X t e wi ∧ ∀ H0' p σ H N, Rep X.K H0' (ρ.set i (.rf p)) σ H N → ∀ R, (∀ J H1 N1, Same N N1 → Same H H1 → Rep X.K H0' (ρ.set i (.rf p)) σ H1 N1 → (∀ G, Walks X.K G J N1 ds) → R J H1) → wi σ H R
theorem itA_r1 {t a : Expr} {p : Pos} {z : Int} (h : ∀ H0' p, Ev X H0' (ρ.set i (.rf p)) a (.int z)) (hb : rngOk 0 z = true) (hm : X.mg "range" = none) (hg : Gl X "range" := by rfl) (hs : starEach [a] X.env = [(false, eval a X.env)] := by rfl) :
    IterA X i ρ t (.Call (.Name "range" p) [a] [] pos) ((rng 0 1 z.toNat).map Dat.int) := ⟨_, pi_range1 hg hm pa_w hs, fun H0' q σ H N r R k => (ea_cons (h H0' q) ea_nil (hs := hs) σ H N r).imp fun vs H' ⟨N', s, n, r', g⟩ => by
  have hb' := rngOk_ok hb
  exact ⟨z, ats1 g, hb'.2.2.1, hb'.2.2.2, k _ H' N' n s r' fun G => by rw [← rng_steps]; exact wlk_r⟩⟩
theorem sx2_for {t iter : Expr} {ds : List Dat} {j : Nat} {x : Str} {p0 : Pos} (hp : PassesOwn (model X.prog X.w) X.A X.env X.xe) (hc : X.calm = true) (hi : IterA X i ρ (.Name x p0) iter ds) (nd : X.N.Nodup) (hij : j ≠ i) (h : ForT2 X H0 i en j body ds ρ T o)
    (hs : ∀ x, foldedSetIterable iter X.env x = pure x := by intro _; rfl) (hj : X.N[j]? = some x := by rfl) (hx : Loc X.env.scope x := by first | exact Or.inl rfl | exact Or.inr rfl) (hf : X.fn x = true ∨ X.env.scope.names.lookup x = some .local := by first | exact .inl rfl | exact .inr rfl | assumption) : ExS2 X H0 i en ρ T (.For (.Name x p0) iter body [] pos) o := fun D σ H N ⟨p, Hs, qs, kvs, n, d, r⟩ k => by
  obtain ⟨wi, pi, hw⟩ := hi
  refine ws_of (ps_for hp hc pi (pg_name nd hj hx hf) pb_w hs) (hw (Un H0 Hs) p σ H N r _ fun J H1 N1 n1 s1 r1 w => ?_)
  refine ⟨fun a m σ' H' => m = ds.length - a ∧ a ≤ ds.length ∧ ∃ ρ' T' N', Same N1 N' ∧ St2 X.K H0 i en ρ' T' σ' H' N' ∧ ForT2 X H0 i en j body (ds.drop a) ρ' T' o, ⟨_, rfl, Nat.zero_le _, ρ, T, N1, Same.refl _, ⟨p, Hs, qs, kvs, n.mono n1, d, r1⟩, h⟩, ?_⟩
  rintro a m σ' H' ⟨rfl, ha, ρ', T', N', s', st', f⟩
  obtain ⟨p', Hs', qs', kvs', n', d', r'⟩ := id st'
  obtain ⟨wg, wst⟩ := w (Un H0 Hs') (Un H0 Hs') _ σ' H' N' a (Same.refl _) s' r'
  by_cases hlt : a < ds.length
  · obtain ⟨go, yl⟩ := wg hlt
    have e1 : ds.drop a = ds[a] :: ds.drop (a + 1) := List.drop_eq_getElem_cons hlt
    rw [e1] at f
    have base : ∀ (O : Oc2 α) (Dx : Ends), Exec2 X H0 i en (ρ'.set j (.im ds[a])) T' body O → (∀ N3, Same N1 N3 → Cont2 X H0 N3 i en Dx O) → ∀ x H2, J.yld a H' x H2 → gName j x σ' H2 fun σ3 H3 => WB X body Dx σ3 H3 := fun O Dx ex kk x H2 y => by
      obtain ⟨N3, dd, n3, s3, r3, e3, a3⟩ := yl x H2 y
      have ed : dd = ds[a] := by
        rw [List.getElem?_eq_getElem hlt] at e3
        exact (Option.some.inj e3).symm
      subst ed
      have r4 := r3.setE (i := j) (e := .im ds[a]) a3
      rw [List.set_comm _ _ (Ne.symm hij)] at r4
      exact ex Dx _ H2 N3 ⟨p', Hs', qs', kvs', n'.mono n3, d', r4⟩ (kk N3 (s'.trans n3))
    have again : ∀ ρ1 T1, ForT2 X H0 i en j body (ds.drop (a + 1)) ρ1 T1 o → ∀ σ3 H3, (∃ N3, Same N1 N3 ∧ St2 X.K H0 i en ρ1 T1 σ3 H3 N3) → ∃ m', m' < ds.length - a ∧ m' = ds.length - (a + 1) ∧ a + 1 ≤ ds.length ∧ ∃ ρ' T' N', Same N1 N' ∧ St2 X.K H0 i en ρ' T' σ3 H3 N' ∧ ForT2 X H0 i en j body (ds.drop (a + 1)) ρ' T' o :=
      fun ρ1 T1 ff σ3 H3 ⟨N3, q1, q2⟩ => ⟨ds.length - (a + 1), by omega, rfl, hlt, ρ1, T1, N3, q1, q2, ff⟩
    cases f with
    | @turn _ ρ1 _ T1 _ _ _ ex ff => exact .inr ⟨go, fun σ3 H3 => ∃ N3, Same N1 N3 ∧ St2 X.K H0 i en ρ1 T1 σ3 H3 N3, again ρ1 T1 ff, base (.nx ρ1 T1) _ ex fun N3 q3 σ3 H3 N4 q4 r4 => ⟨N4, q3.trans q4, r4⟩⟩
    | @exc _ ρ1 _ _ _ nn ex => exact .inr ⟨go, fun _ _ => False, fun _ _ z => z.elim, base (.ex nn ρ1) _ ex fun N3 q3 => Cont2.mono (o := .ex nn ρ1) k (n1.trans q3)⟩
  · have e1 : a = ds.length := by omega
    subst e1
    rw [List.drop_length] at f
    cases f
    exact .inl ⟨wst rfl, k σ' H' N' (n1.trans s') st'⟩
theorem forM2_T {S : Type} {ea : β → Dat} {j : Nat} {eS : S → Env'} {tS : S → List (List Nat × List α)} {f : β → S → M S} (hb : ∀ x s, ExM2 X H0 i en ((eS s).set j (.im (ea x))) (tS s) k body (fun s => .nx (eS s) (tS s)) (f x s)) : ∀ (xs : List β) (s : S), match forM f xs s with | .ok s' => ForT2 X H0 i en j body (xs.map ea) (eS s) (tS s) (.nx (eS s') (tS s')) | .ex n => ForT2 X H0 i en j body (xs.map ea) (eS s) (tS s) (.ex n (List.replicate k .no)) | .far => True
  | [], s => .nil
  | x :: xs, s => by
    have h := hb x s
    unfold forM
    cases e : f x s with
    | ok s1 =>
      rw [e] at h
      have ih := forM2_T hb xs s1
      show match forM f xs s1 with | .ok s' => _ | .ex n => _ | .far => True
      cases e2 : forM f xs s1 with
      | ok s2 => rw [e2] at ih; exact .turn h ih
      | ex n => rw [e2] at ih; exact .turn h ih
      | far => trivial
    | ex n => rw [e] at h; exact .exc h
    | far => trivial
theorem xm2_for {S : Type} {ea : β → Dat} {iter : Expr} {x : Str} {p0 : Pos} {eS : S → Env'} {tS : S → List (List Nat × List α)} {xs : List β} {s0 : S} {f : β → S → M S} {fk : S → M γ} (j : Nat) (hp : PassesOwn (model X.prog X.w) X.A X.env X.xe) (hc : X.calm = true) (hi : IterA X i ρ (.Name x p0) iter (xs.map ea)) (nd : X.N.Nodup) (hij : j ≠ i) (h0 : ρ = eS s0) (ht : T = tS s0) (hb : ∀ x s, ExM2 X H0 i en ((eS s).set j (.im (ea x))) (tS s) k body (fun s => .nx (eS s) (tS s)) (f x s)) (tt : ∀ s, ExM2 X H0 i en (eS s) (tS s) k rest D (fk s))
    (hs : ∀ x, foldedSetIterable iter X.env x = pure x := by intro _; rfl) (hj : X.N[j]? = some x := by rfl) (hx : Loc X.env.scope x := by first | exact Or.inl rfl | exact Or.inr rfl) (hf : X.fn x = true ∨ X.env.scope.names.lookup x = some .local := by first | exact .inl rfl | exact .inr rfl | assumption) : ExM2 X H0 i en ρ T k (.For (.Name x p0) iter body [] pos :: rest) D (M.bind (forM f xs s0) fk) := by
  have h := forM2_T hb xs s0
  subst h0
  subst ht
  cases e : forM f xs s0 with
  | ok s => rw [e] at h; exact xm2_then (sx2_for (t := iter) hp hc hi nd hij h hs hj hx hf) (tt s)
  | ex n => rw [e] at h; exact ex2_ex (sx2_for (t := iter) hp hc hi nd hij h hs hj hx hf)
  | far => trivial
/-! the begin and the end -/
theorem Rep.toRf {K : PySem.W.Frag} {H N : Hp} {σ : L2.St} {p : Addr} (hp : σ[i]? = some (some (V.ref p))) (r : Rep K H0 (ρ.set i .no) σ H N) : Rep K H0 (ρ.set i (.rf p)) σ H N := by
  refine ⟨r.old, r.sub, r.imm, r.fresh, by rw [List.length_set]; have := r.len; rw [List.length_set] at this; exact this, fun j d e => ?_, fun j d e => ?_, fun j d e => ?_, fun j a e => ?_, fun j k d d' q ne a b c => ?_⟩
  · rcases get_set e with ⟨_, z⟩ | ⟨n1, e⟩
    · cases z
    · exact r.im j d (by rw [List.getElem?_set_ne (Ne.symm n1)]; exact e)
  · rcases get_set e with ⟨_, z⟩ | ⟨n1, e⟩
    · cases z
    · exact r.ol j d (by rw [List.getElem?_set_ne (Ne.symm n1)]; exact e)
  · rcases get_set e with ⟨_, z⟩ | ⟨n1, e⟩
    · cases z
    · exact r.ow j d (by rw [List.getElem?_set_ne (Ne.symm n1)]; exact e)
  · rcases get_set e with ⟨rfl, z⟩ | ⟨n1, e⟩
    · cases z; exact hp
    · exact r.rf j a (by rw [List.getElem?_set_ne (Ne.symm n1)]; exact e)
  · rcases get_set a with ⟨_, z⟩ | ⟨n1, a⟩
    · cases z
    rcases get_set b with ⟨_, z⟩ | ⟨n2, b⟩
    · cases z
    exact r.apart j k d d' q ne (by rw [List.getElem?_set_ne (Ne.symm n1)]; exact a) (by rw [List.getElem?_set_ne (Ne.symm n2)]; exact b) c
theorem noOl_set' {e : Ent} (h : noOl ρ) (he : ∀ d, e ≠ .ol d) : noOl (ρ.set i e) := fun j d q => by
  rcases get_set q with ⟨_, z⟩ | ⟨_, q⟩
  · exact he d z.symm
  · exact h j d q
theorem xm2_start {en0 : List α → Dat} {eR : γ → Dat} {m : M γ} (hi : ρ[i]? = some (.ow (dicd en0 []))) (hn : noOl ρ) (h : ExM2 X H0 i en (ρ.set i .no) [] k sts (fun r => .rt (eR r)) m) : ExM X H0 ρ k sts (fun r => .rt (eR r)) m := by
  have go : ∀ {o : Oc2 α} {o' : Outc}, Exec2 X H0 i en (ρ.set i .no) [] sts o → (∀ N DD, Cont X H0 N DD o' → Cont2 X H0 N i en DD o) → Exec X H0 ρ sts o' := fun {o o'} h hc DD σ H N r c => by
    obtain ⟨p, e1, h0, np, vs, e2, e3⟩ := r.ow i _ hi
    cases e3
    refine h DD σ H N ⟨p, upd (fun _ => none) p (.dK []), [], [], ⟨.nil, upd_same, by simp, fun a u e => ?_⟩, fun a u e => ?_, ?_⟩ (hc N DD c)
    · by_cases q : a = p
      · exact List.mem_singleton.mpr q
      · rw [upd_ne q] at e; cases e
    · by_cases q : a = p
      · rw [q]; exact h0
      · rw [upd_ne q] at e; cases e
    · have r1 := (r.drop i).upd0 (noOl_set' hn fun d z => by cases z) (a := p) (o := .dK []) True.intro np (fun j d' e z => by
        rcases get_set e with ⟨_, w⟩ | ⟨n1, e⟩
        · cases w
        · exact r.apart j i _ _ _ n1 e hi z e1)
      rw [upd_id e2] at r1
      have e0 : Un H0 (fun _ => none) = H0 := rfl
      rw [un_upd, e0, List.set_set] at *
      exact r1.toRf e1
  cases m with
  | ok r => exact go h fun N DD c => c
  | ex n => exact go h fun N DD c => c
  | far => trivial
theorem xm_setOV {en0 : β → Dat} {v : β} {f : β → M γ} {Dx : γ → Outc} {x : Str} {pos' : Pos} (i : Nat) (h : EvO X H0 ρ e (en0 v)) (nd : X.N.Nodup) (t : ExM X H0 (ρ.set i (.ow (en0 v))) k rest Dx (f v)) (hi : X.N[i]? = some x := by rfl) (hx : Loc X.env.scope x := by first | exact Or.inl rfl | exact Or.inr rfl)
    (hs : swapsWith e (some (.Name x pos')) pos.line X.env = pure false := by rfl) (hf : X.fn x = true ∨ X.env.scope.names.lookup x = some .local := by first | exact .inl rfl | exact .inr rfl | assumption) : ExM X H0 ρ k (.Assign [.Name x pos'] e pos :: rest) Dx (M.lt v f) := xm_then (sx_setO i h nd rfl hi hx hs hf) t
theorem xm2_freeze {eR : γ → Dat} {m : M γ} (hn : noOl ρ) (hi : i < ρ.length) (h : ExM X H0 (ρ.set i (.im (dicd (lstd en) T))) k sts (fun r => .rt (eR r)) m) : ExM2 X H0 i en ρ T k sts (fun r => .rt (eR r)) m := by
  have go : ∀ {o : Oc2 α} {o' : Outc}, Exec X H0 (ρ.set i (.im (dicd (lstd en) T))) sts o' → (∀ N N' DD, Same N N' → Cont2 X H0 N i en DD o → Cont X H0 N' DD o') → Exec2 X H0 i en ρ T sts o := fun {o o'} h hc DD σ H N ⟨p, Hs, qs, kvs, n, d, r⟩ c => by
    have hp : σ[i]? = some (some (V.ref p)) := r.rf i p (List.getElem?_set_self hi)
    have nn : ∀ a u, Hs a = some u → N a = none := fun a u e => n_of r (un_some e) (n.mut e)
    have sN : Same N (Un N Hs) := fun a u e => by
      unfold Un
      cases q : Hs a with
      | none => exact e
      | some w => rw [nn a w q] at e; cases e
    have sH : Same Hs (Un N Hs) := fun a u e => un_some e
    refine h DD σ H (Un N Hs) ?_ (hc N _ DD sN c)
    have so : Same H0 (Un H0 Hs) := fun a u e => by
      unfold Un
      cases q : Hs a with
      | none => exact e
      | some w => rw [d a w q] at e; cases e
    refine ⟨so.trans r.old, fun a u e => ?_, ((imm_same so).trans r.imm).trans sN, fun a u e m => ?_, by rw [List.length_set]; have := r.len; rw [List.length_set] at this; exact this, fun j x e => ?_, fun j x e => ?_, fun j x e => ?_, fun j a e => ?_, fun j k x x' q ne a b c => ?_⟩
    · unfold Un at e
      cases q : Hs a with
      | none => rw [q] at e; exact r.sub a u e
      | some w => rw [q] at e; cases e; exact r.old a _ (un_some q)
    · unfold Un at e
      cases q : Hs a with
      | none => rw [q] at e; exact (un_none (r.fresh a u e m)).2
      | some w => exact d a w q
    · rcases get_set e with ⟨rfl, z⟩ | ⟨n1, e⟩
      · cases z
        exact ⟨_, hp, .dic (.inl (sH _ _ n.top)) (n.r.atk2 sN sH)⟩
      · obtain ⟨v, a1, a2⟩ := r.im j x (by rw [List.getElem?_set_ne (Ne.symm n1)]; exact e)
        exact ⟨v, a1, a2.mono sN⟩
    · rcases get_set e with ⟨_, z⟩ | ⟨n1, e⟩
      · cases z
      · exact absurd e (hn j x)
    · rcases get_set e with ⟨_, z⟩ | ⟨n1, e⟩
      · cases z
      · obtain ⟨q, a1, a2, a3, a4⟩ := r.ow j x (by rw [List.getElem?_set_ne (Ne.symm n1)]; exact e)
        obtain ⟨z1, z2⟩ := un_none a2
        refine ⟨q, a1, z2, by unfold Un; rw [z1]; exact a3, ?_⟩
        cases x with
        | lst ds => obtain ⟨vs, b1, b2⟩ := a4; exact ⟨vs, b1, b2.mono sN⟩
        | dic ds => obtain ⟨vs, b1, b2⟩ := a4; exact ⟨vs, b1, b2.mono sN⟩
        | dit ks ds => obtain ⟨vs, b1, ql, b2⟩ := a4; exact ⟨vs, b1, ql, b2.mono sN⟩
        | non => exact a4.elim
        | bl _ => exact a4.elim
        | int _ => exact a4.elim
        | str _ => exact a4.elim
        | tup _ => exact a4.elim
        | ins _ _ _ => exact a4.elim
        | tix _ => exact a4.elim
    · rcases get_set e with ⟨_, z⟩ | ⟨n1, e⟩
      · cases z
      · exact r.rf j a (by rw [List.getElem?_set_ne (Ne.symm n1)]; exact e)
    · rcases get_set a with ⟨_, z⟩ | ⟨n1, a⟩
      · cases z
      rcases get_set b with ⟨_, z⟩ | ⟨n2, b⟩
      · cases z
      exact r.apart j k x x' q ne (by rw [List.getElem?_set_ne (Ne.symm n1)]; exact a) (by rw [List.getElem?_set_ne (Ne.symm n2)]; exact b) c
  cases m with
  | ok r => exact go h fun N N' DD s c => fun v H a b r => c v H a (s.trans b) r
  | ex n => exact go h fun N N' DD s ⟨W, t, c⟩ => ⟨W, t, fun C σ H N2 m s2 r => c C σ H N2 m (s.trans s2) r⟩
  | far => trivial
/-! what is put and changed -/
theorem nst_noq {K : PySem.W.Frag} {N Hs : Hp} {p q : Addr} {qs : List Addr} {kvs : List (Key × V)} (n : Nst K N Hs p en T qs kvs) (h : Hs q = none) : q ∉ p :: qs := fun m => by
  rcases List.mem_cons.mp m with rfl | m
  · rw [n.top] at h; cases h
  · obtain ⟨ws, e⟩ := n.r.mem q m
    rw [e] at h; cases h
/-- d[key] = a new list, where the key is none of d's -/
theorem xm2_put {l : List α} {key : List Nat} {y : Str} {p2 : Pos} {f : List (List Nat × List α) → M γ} (hn : noOl ρ) (hi : i < ρ.length) (he : ∀ H0' p, EvO X H0' (ρ.set i (.rf p)) e (lstd en l)) (hb : ∀ H0' p, Ev X H0' (ρ.set i (.rf p)) b (tx key)) (hz : lenLt T = true) (hk : (!dhas T key) = true) (hu : X.A.units + 1 < cLine) (tt : ∀ T, ExM2 X H0 i en ρ T k rest D (f T)) (hN : X.N[i]? = some y := by rfl) (hv : Vis X.env.scope y := by first | exact Or.inl rfl | exact Or.inr (Or.inl rfl) | exact Or.inr (Or.inr rfl))
    (hd : (y == ("__debug__" : Str)) = false := by decide) (hcd : (y == ("__classdict__" : Str)) = false := by decide) (hs : swapsWith e (some (.Subscript (.Name y p1) b p2)) pos.line X.env = pure false := by rfl) :
    ExM2 X H0 i en ρ T k (.Assign [.Subscript (.Name y p1) b p2] e pos :: rest) D (M.lt (T ++ [(key, l)]) f) := by
  refine xm2_then (ρ1 := ρ) (T1 := T ++ [(key, l)]) (fun DD σ H N ⟨p, Hs, qs, kvs, n, d, r⟩ kk => ?_) (tt _)
  have hp : σ[i]? = some (some (V.ref p)) := r.rf i p (List.getElem?_set_self hi)
  have hn' : noOl (ρ.set i (.rf p)) := noOl_set hn
  refine ws_of (ps_dput hu (pv i hN hv hd hcd) pe_w pe_w hs) ((he _ p σ H N r).imp fun v H1 ⟨N1, q, e1, hq, s1, n1, r1, nq, ws, w1, w2⟩ => ?_)
  have uq : Un H0 Hs q = none := by
    cases z : Un H0 Hs q with
    | none => rfl
    | some u => rw [r.old q u z] at hq; cases hq
  obtain ⟨hsq, h0q⟩ := un_none uq
  have notin := nst_noq n hsq
  have npq : p ≠ q := fun z => notin (by rw [← z]; exact List.mem_cons_self)
  have r1' := r1.upd0 hn' (a := q) (o := .lst ws) True.intro nq (fun j d' e => no_own r hq j d' e)
  rw [upd_id w1, ← un_upd] at r1'
  refine ⟨_, hp, (hb _ p σ H1 N1 r1').imp fun z H2 ⟨N2, s2, n2, r2, a2⟩ => ?_⟩
  have h5 := at_str a2
  subst h5
  subst e1
  have top2 : H2 p = some (.dK kvs) := r2.old p _ (un_some (by rw [upd_ne npq]; exact n.top))
  have any0 : (kvs.any fun kv => decide (kv.1 = (Sum.inr (SX.S key) : Key))) = false := by
    rw [n.r.any key]
    have hk' : dhas T key = false := by simpa using hk
    cases z : (T.any fun p => decide (p.1 = key)) with
    | false => rfl
    | true =>
      exfalso
      have : ∀ T : List (List Nat × List α), (T.any fun p => decide (p.1 = key)) = true → (dget T key).isSome = true := by
        intro T
        induction T with
        | nil => intro h; cases h
        | cons a T ih =>
          intro h
          rw [dget_cons]
          by_cases c : a.1 = key
          · rw [if_pos c]; rfl
          · rw [if_neg c]
            rw [List.any_cons, decide_eq_false c, Bool.false_or] at h
            exact ih h
      have h3 := this T z
      have h4 : dhas T key = (dget T key).isSome := rfl
      rw [← h4, hk'] at h3
      cases h3
  have hput : putK kvs (Sum.inr (SX.S key) : Key) (V.ref q) = kvs ++ [((Sum.inr (SX.S key) : Key), V.ref q)] := by
    unfold putK
    rw [any0, if_neg (by decide)]
  refine ⟨p, _, rfl, .inl ⟨kvs, Sum.inr (SX.S key), top2, rfl, ?_, rfl⟩, kk σ _ N2 (n1.trans n2) ?_⟩
  · rw [n.r.len]; exact lenLt_ok hz
  rw [hput]
  have up : Un H0 (upd Hs q (.lst ws)) p = some (.dK kvs) := un_some (by rw [upd_ne npq]; exact n.top)
  have np2 := n_of r2 up True.intro
  have r3 := r2.upd0 hn' (a := p) (o := .dK (kvs ++ [((Sum.inr (SX.S key) : Key), V.ref q)])) True.intro np2 (own_ne r2 up)
  rw [← un_upd] at r3
  rw [List.mem_cons, not_or] at notin
  have pq : p ∉ qs := (List.nodup_cons.mp n.nd).1
  refine ⟨p, _, qs ++ [q], _, ⟨?_, upd_same, ?_, fun a u z => ?_⟩, fun a u z => ?_, r3⟩
  · refine Rws.updH (Rws.snoc (q := q) (ws := ws) upd_same (w2.mono n2) ((n.r.mono (n1.trans n2)).updH notin.2)) ?_
    rw [List.mem_append, not_or]
    exact ⟨pq, fun m => notin.1 (List.mem_singleton.mp m).symm⟩
  · rw [show p :: (qs ++ [q]) = (p :: qs) ++ [q] from rfl, List.nodup_append]
    refine ⟨n.nd, by simp, fun a ha b hb z => ?_⟩
    rw [List.mem_singleton.mp hb] at z
    subst z
    rcases List.mem_cons.mp ha with m | m
    · exact notin.1 m
    · exact notin.2 m
  · by_cases c : a = p
    · subst c; exact List.mem_cons_self
    · rw [upd_ne c] at z
      by_cases c2 : a = q
      · subst c2; simp
      · rw [upd_ne c2] at z
        rcases List.mem_cons.mp (n.dom a u z) with m | m
        · exact absurd m c
        · exact List.mem_cons_of_mem _ (List.mem_append_left _ m)
  · by_cases c : a = p
    · subst c; exact d _ _ n.top
    · rw [upd_ne c] at z
      by_cases c2 : a = q
      · subst c2; exact h0q
      · rw [upd_ne c2] at z
        exact d a u z
/-- d[key][j] += u -/
theorem xm2_aug {T : List (List Nat × List Int)} {D : γ → Oc2 Int} {l l2 : List Int} {j w u : Int} {key : List Nat} {y : Str} {p2 p3 : Pos} {ix : Expr} {f : List (List Nat × List Int) → M γ} (hn : noOl ρ) (hi : i < ρ.length) (hb : ∀ H0' p, Ev X H0' (ρ.set i (.rf p)) b (tx key)) (hl : dget T key = some l) (hx : ∀ H0' p, Ev X H0' (ρ.set i (.rf p)) ix (.int j)) (h0 : decide (0 ≤ j) = true) (hj : atI l j = some w) (hv : ∀ H0' p, Ev X H0' (ρ.set i (.rf p)) e (.int u)) (hl2 : setI l j (w + u) = some l2) (hu : X.A.units + 1 < cLine) (tt : ∀ T, ExM2 X H0 i Dat.int ρ T k rest D (f T)) (hN : X.N[i]? = some y := by rfl) (hvis : Vis X.env.scope y := by first | exact Or.inl rfl | exact Or.inr (Or.inl rfl) | exact Or.inr (Or.inr rfl))
    (hd : (y == ("__debug__" : Str)) = false := by decide) (hcd : (y == ("__classdict__" : Str)) = false := by decide) (hsl : NoSl b := by exact fun _ _ => rfl)
    (hp : ∀ te to ti, PE X e te → PE X (.Subscript (.Name y p1) b p2) to → PE X ix ti → PS X (.AugAssign (.Subscript (.Subscript (.Name y p1) b p2) ix p3) .Add e pos) (tAugS to ti te rGetL (ipI fun i j => i + j) rSetL) := by exact fun te to ti h g f => ps_augS g f get_list h ip_add set_list) :
    ExM2 X H0 i Dat.int ρ T k (.AugAssign (.Subscript (.Subscript (.Name y p1) b p2) ix p3) .Add e pos :: rest) D (M.lt (dset T key l2) f) := by
  have h0 := of_decide_eq_true h0
  obtain ⟨q0, rfl⟩ := Int.eq_ofNat_of_zero_le h0
  unfold setI at hl2
  obtain ⟨q2, hj1, hj2⟩ := Option.map_eq_some_iff.mp hl2
  have e1 : q2 = q0 ∧ q0 < l.length := by
    unfold ixN at hj1
    rw [if_pos (by omega)] at hj1
    split at hj1
    · have := Option.some.inj hj1
      rw [Int.toNat_natCast] at this
      omega
    · cases hj1
  obtain ⟨rfl, hlt⟩ := e1
  have hg : (l.map Dat.int)[q2]? = some (.int w) := by
    unfold atI at hj
    rw [hj1] at hj
    rw [List.getElem?_map, show l[q2]? = some w from hj]
    rfl
  refine xm2_then (ρ1 := ρ) (T1 := dset T key l2) (fun DD σ H N ⟨p, Hs, qs, kvs, n, d, r⟩ kk => ?_) (tt _)
  have hpp : σ[i]? = some (some (V.ref p)) := r.rf i p (List.getElem?_set_self hi)
  have hn' : noOl (ρ.set i (.rf p)) := noOl_set hn
  obtain ⟨q, ws, m1, m2, m3, m4, m5⟩ := n.r.at_ (List.nodup_cons.mp n.nd).2 hl
  have wl : ws.length = l.length := by rw [m3.length, List.length_map]
  refine ws_of (hp _ _ _ pe_w (pe_dget hu (pv i hN hvis hd hcd) pe_w hsl) pe_w) ⟨_, hpp, (hb _ p σ H N r).imp fun v H1 ⟨N1, s1, n1, r1, a1⟩ => ?_⟩
  have h5 := at_str a1
  subst h5
  refine ⟨p, V.ref q, rfl, .inl ⟨kvs, Sum.inr (SX.S key), .inl (r1.old p _ (un_some n.top)), rfl, m4.symm⟩, (hx _ p σ H1 N1 r1).imp fun v2 H2 ⟨N2, s2, n2, r2, a2⟩ => ?_⟩
  obtain ⟨z, z1, z2⟩ := m3.get hg
  refine ⟨q, ws, q2, z, rfl, at_int a2, r2.old q _ (un_some m2), z1, (hv _ p σ H2 N2 r2).imp fun v3 H3 ⟨N3, s3, n3, r3, a3⟩ => ⟨w, u, at_int z2, at_int a3, ?_⟩⟩
  have uq : Un H0 Hs q = some (.lst ws) := un_some m2
  refine ⟨q, ws, q2, q2, rfl, at_int a2, r3.old q _ uq, ?_, kk σ _ N3 ((n1.trans n2).trans n3) ?_⟩
  · unfold ixN
    rw [if_pos (by omega), if_pos (by omega), Int.toNat_natCast]
  have nq := n_of r3 uq True.intro
  have r4 := r3.upd0 hn' (a := q) (o := .lst (ws.set q2 (.int (w + u)))) True.intro nq (own_ne r3 uq)
  rw [← un_upd] at r4
  have pq : p ≠ q := fun z => (List.nodup_cons.mp n.nd).1 (z ▸ m1)
  refine ⟨p, _, qs, kvs, ⟨?_, by rw [upd_ne pq]; exact n.top, n.nd, fun a u z => ?_⟩, fun a u z => ?_, r4⟩
  · refine m5 N3 _ l2 ((n1.trans n2).trans n3) ?_
    have := (m3.mono ((n1.trans n2).trans n3)).set (.int (w + u)) q2
    rw [← hj2, List.map_set]
    exact this
  · by_cases c : a = q
    · subst c; exact List.mem_cons_of_mem _ m1
    · rw [upd_ne c] at z; exact n.dom a u z
  · by_cases c : a = q
    · subst c; exact d _ _ m2
    · rw [upd_ne c] at z; exact d a u z
end
end B

namespace B
open PySem PySem.Spec PyProof.Rows L2
/-! ### for key in dict -/
/-- what reads the same there -/
def RdS (N G : Hp) : Prop := ∀ a, (∀ xs, Rd N a (.tup xs) → Rd G a (.tup xs)) ∧ (∀ xs, Rd N a (.lst xs) → Rd G a (.lst xs)) ∧ (∀ kvs, Rd N a (.dK kvs) → Rd G a (.dK kvs)) ∧ (∀ C dx fs, N a = some (.ins C dx fs) → G a = some (.ins C dx fs)) ∧ (∀ kvs, Rd N a (.dT kvs) → Rd G a (.dT kvs)) ∧ ∀ xs, N a = some (.tup xs) → G a = some (.tup xs)
mutual
theorem At.rds {K : PySem.W.Frag} {N G : Hp} (e : RdS N G) : ∀ {v : V} {d : Dat}, At K N v d → At K G v d
  | _, _, .non => .non
  | _, _, .bl b => .bl b
  | _, _, .int i => .int i
  | _, _, .str s => .str s
  | _, _, .tup h t => .tup (h.imp ((e _).1 _) id) (Ats.rds e t)
  | _, _, .lst h t => .lst (h.imp ((e _).2.1 _) id) (Ats.rds e t)
  | _, _, .dic h t => .dic ((e _).2.2.1 _ h) (Atk.rds e t)
  | _, _, .ins h c b l t => .ins ((e _).2.2.2.1 _ _ _ h) c b l (Ats.rds e t)
  | _, _, .tix h => .tix ((e _).2.2.2.2.2 _ h)
  | _, _, .dit h l t => .dit ((e _).2.2.2.2.1 _ h) l (Ats.rds e t)
theorem Ats.rds {K : PySem.W.Frag} {N G : Hp} (e : RdS N G) : ∀ {vs : List V} {ds : List Dat}, Ats K N vs ds → Ats K G vs ds
  | _, _, .nil => .nil
  | _, _, .cons a t => .cons (At.rds e a) (Ats.rds e t)
theorem Atk.rds {K : PySem.W.Frag} {N G : Hp} (e : RdS N G) : ∀ {vs : List (Key × V)} {ds : List (Key × Dat)}, Atk K N vs ds → Atk K G vs ds
  | _, _, .nil => .nil
  | _, _, .cons a t => .cons (At.rds e a) (Atk.rds e t)
end
theorem rds_lock {N : Hp} {d : Addr} {kvs : List (Key × V)} {od : Obj} (h : N d = some (.dK kvs)) : RdS N (upd N d (.frz od (.dK kvs))) := fun a => by
  have go : ∀ u, Rd N a u → (∀ o u', u ≠ .frz o u') → Rd (upd N d (.frz od (.dK kvs))) a u := fun u r hu => by
    by_cases q : a = d
    · subst q
      rcases r with r | ⟨o, r⟩
      · rw [h] at r; cases r; exact .inr ⟨od, upd_same⟩
      · rw [h] at r; cases r
    · rcases r with r | ⟨o, r⟩
      · exact .inl (by rw [upd_ne q]; exact r)
      · exact .inr ⟨o, by rw [upd_ne q]; exact r⟩
  exact ⟨fun xs r => go _ r (fun o u' z => by cases z), fun xs r => go _ r (fun o u' z => by cases z), fun ks r => go _ r (fun o u' z => by cases z), fun C dx fs r => by rw [upd_ne (fun q => by rw [q, h] at r; cases r)]; exact r, fun ks r => go _ r (fun o u' z => by cases z), fun xs r => by rw [upd_ne (fun q => by rw [q, h] at r; cases r)]; exact r⟩
theorem rds_unlock {N : Hp} {d : Addr} {kvs : List (Key × V)} {od : Obj} (h : N d = some (.frz od (.dK kvs))) : RdS N (upd N d (.dK kvs)) := fun a => by
  have go : ∀ u, Rd N a u → (∀ o u', u ≠ .frz o u') → Rd (upd N d (.dK kvs)) a u := fun u r hu => by
    by_cases q : a = d
    · subst q
      rcases r with r | ⟨o, r⟩
      · rw [h] at r; cases r; exact absurd rfl (hu _ _)
      · rw [h] at r; cases r; exact .inl upd_same
    · rcases r with r | ⟨o, r⟩
      · exact .inl (by rw [upd_ne q]; exact r)
      · exact .inr ⟨o, by rw [upd_ne q]; exact r⟩
  exact ⟨fun xs r => go _ r (fun o u' z => by cases z), fun xs r => go _ r (fun o u' z => by cases z), fun ks r => go _ r (fun o u' z => by cases z), fun C dx fs r => by rw [upd_ne (fun q => by rw [q, h] at r; cases r)]; exact r, fun ks r => go _ r (fun o u' z => by cases z), fun xs r => by rw [upd_ne (fun q => by rw [q, h] at r; cases r)]; exact r⟩
theorem Own.rds {K : PySem.W.Frag} {H H' N G : Hp} {p : Addr} {d : Dat} (e : RdS N G) (hp : H' p = H p) (h : Own K H N p d) : Own K H' G p d := by
  cases d with
  | lst ds => obtain ⟨vs, b1, b2⟩ := h; exact ⟨vs, by rw [hp]; exact b1, b2.rds e⟩
  | dic ds => obtain ⟨vs, b1, b2⟩ := h; exact ⟨vs, by rw [hp]; exact b1, b2.rds e⟩
  | dit ks ds => obtain ⟨vs, b1, ql, b2⟩ := h; exact ⟨vs, by rw [hp]; exact b1, ql, b2.rds e⟩
  | non => exact h.elim
  | bl _ => exact h.elim
  | int _ => exact h.elim
  | str _ => exact h.elim
  | tup _ => exact h.elim
  | ins _ _ _ => exact h.elim
  | tix _ => exact h.elim
theorem Rep.lockN {K : PySem.W.Frag} {H0 H N : Hp} {ρ : Env'} {σ : L2.St} {d : Addr} {kvs : List (Key × V)} (r : Rep K H0 ρ σ H N) (h : N d = some (.dK kvs)) (od : Obj) : Rep K H0 ρ σ (upd H d (.frz od (.dK kvs))) (upd N d (.frz od (.dK kvs))) := by
  have h0 : H0 d = none := r.fresh d _ h True.intro
  have ne : ∀ {a : Addr} {u : HO}, H0 a = some u → a ≠ d := fun {a u} e q => by rw [q, h0] at e; cases e
  have rd := rds_lock (od := od) h
  refine ⟨fun a u e => by rw [upd_ne (ne e)]; exact r.old a u e, fun a u e => ?_, fun a u e => by rw [upd_ne (ne (imm_sub _ _ _ e))]; exact r.imm a u e, fun a u e m => ?_, r.len, fun j x e => ?_, r.ol, fun j x e => ?_, r.rf, r.apart⟩
  · by_cases q : a = d
    · subst q; rw [upd_same] at e ⊢; exact e
    · rw [upd_ne q] at e ⊢; exact r.sub a u e
  · by_cases q : a = d
    · subst q; rw [upd_same] at e; cases e; exact m.elim
    · rw [upd_ne q] at e; exact r.fresh a u e m
  · obtain ⟨v, a1, a2⟩ := r.im j x e
    exact ⟨v, a1, a2.rds rd⟩
  · obtain ⟨p, a1, a2, a3, a4⟩ := r.ow j x e
    have q : p ≠ d := fun q => by rw [q, h] at a3; cases a3
    exact ⟨p, a1, a2, by rw [upd_ne q]; exact a3, a4.rds rd (upd_ne q)⟩
theorem Rep.unlockN {K : PySem.W.Frag} {H0 H N : Hp} {ρ : Env'} {σ : L2.St} {d : Addr} {kvs : List (Key × V)} {od : Obj} (r : Rep K H0 ρ σ H N) (h : N d = some (.frz od (.dK kvs))) (h0 : H0 d = none) : Rep K H0 ρ σ (upd H d (.dK kvs)) (upd N d (.dK kvs)) := by
  have ne : ∀ {a : Addr} {u : HO}, H0 a = some u → a ≠ d := fun {a u} e q => by rw [q, h0] at e; cases e
  have rd := rds_unlock h
  refine ⟨fun a u e => by rw [upd_ne (ne e)]; exact r.old a u e, fun a u e => ?_, fun a u e => by rw [upd_ne (ne (imm_sub _ _ _ e))]; exact r.imm a u e, fun a u e m => ?_, r.len, fun j x e => ?_, r.ol, fun j x e => ?_, r.rf, r.apart⟩
  · by_cases q : a = d
    · subst q; rw [upd_same] at e ⊢; exact e
    · rw [upd_ne q] at e ⊢; exact r.sub a u e
  · by_cases q : a = d
    · subst q; exact h0
    · rw [upd_ne q] at e; exact r.fresh a u e m
  · obtain ⟨v, a1, a2⟩ := r.im j x e
    exact ⟨v, a1, a2.rds rd⟩
  · obtain ⟨p, a1, a2, a3, a4⟩ := r.ow j x e
    have q : p ≠ d := fun q => by rw [q, h] at a3; cases a3
    exact ⟨p, a1, a2, by rw [upd_ne q]; exact a3, a4.rds rd (upd_ne q)⟩
section
variable {α β γ S : Type} {X : Cx} {H0 : Hp} {k : Nat} {en : α → Dat} {ρ ρ1 : Env'} {st : Stmt} {sts rest body : List Stmt} {b c e : Expr} {p1 pos : Pos} {o : Outc} {D : γ → Outc}
/-- a for in one state -/
theorem ws_for {t iter : Expr} {wi : TI} {bd : Dat → Env' → Env'} {ok : Dat → Prop} {ds : List Dat} {DD : Ends} {σ : L2.St} {H N : Hp} (hp : PassesOwn (model X.prog X.w) X.A X.env X.xe) (hc : X.calm = true) (pi : PI X t iter wi) (hw : ∀ R, (∀ J H1 N1, Same N N1 → Same H H1 → Rep X.K H0 ρ σ H1 N1 → Walks X.K H0 J N1 ds → R J H1) → wi σ H R) (hg : Tgt X H0 t ok bd) (hk : ∀ d ∈ ds, ok d) (h : ForT X H0 bd body ds ρ o) (k : Cont X H0 N DD o)
    (hs : ∀ x, foldedSetIterable iter X.env x = pure x) : WS X (.For t iter body [] pos) DD σ H := by
  obtain ⟨g, pg, hgg⟩ := hg.pg
  refine ws_of (ps_for hp hc pi pg pb_w hs) (hw _ fun J H1 N1 n1 s1 r1 w => ?_)
  refine ⟨fun i m σ' H' => m = ds.length - i ∧ i ≤ ds.length ∧ ∃ ρ' N', Same N1 N' ∧ Rep X.K H0 ρ' σ' H' N' ∧ ForT X H0 bd body (ds.drop i) ρ' o, ⟨_, rfl, Nat.zero_le _, ρ, N1, Same.refl _, r1, h⟩, ?_⟩
  rintro i m σ' H' ⟨rfl, hi, ρ', N', s', r', f⟩
  obtain ⟨wg, wst⟩ := w H0 ρ' σ' H' N' i (Same.refl _) s' r'
  by_cases hlt : i < ds.length
  · obtain ⟨go, yl⟩ := wg hlt
    have e1 : ds.drop i = ds[i] :: ds.drop (i + 1) := List.drop_eq_getElem_cons hlt
    rw [e1] at f
    have base : ∀ (O : Outc) (Dx : Ends), Exec X H0 (bd ds[i] ρ') body O → (∀ N3, Same N1 N3 → Cont X H0 N3 Dx O) → ∀ x H2, J.yld i H' x H2 → g x σ' H2 fun σ3 H3 => WB X body Dx σ3 H3 := fun O Dx ex kk x H2 y => by
      obtain ⟨N3, d, n3, s3, r3, e3, a3⟩ := yl x H2 y
      have ed : d = ds[i] := by
        rw [List.getElem?_eq_getElem hlt] at e3
        exact (Option.some.inj e3).symm
      subst ed
      exact hgg ρ' σ' H2 N3 x _ r3 a3 (hk _ (List.getElem_mem hlt)) _ fun σ4 H4 N4 n4 r4 => ex Dx σ4 H4 N4 r4 (kk N4 ((s'.trans n3).trans n4))
    have again : ∀ ρ1, ForT X H0 bd body (ds.drop (i + 1)) ρ1 o → ∀ σ3 H3, (∃ N3, Same N1 N3 ∧ Rep X.K H0 ρ1 σ3 H3 N3) → ∃ m', m' < ds.length - i ∧ m' = ds.length - (i + 1) ∧ i + 1 ≤ ds.length ∧ ∃ ρ' N', Same N1 N' ∧ Rep X.K H0 ρ' σ3 H3 N' ∧ ForT X H0 bd body (ds.drop (i + 1)) ρ' o :=
      fun ρ1 ff σ3 H3 ⟨N3, q1, q2⟩ => ⟨ds.length - (i + 1), by omega, rfl, hlt, ρ1, N3, q1, q2, ff⟩
    cases f with
    | @turn _ ρ1 _ _ _ ex ff => exact .inr ⟨go, fun σ3 H3 => ∃ N3, Same N1 N3 ∧ Rep X.K H0 ρ1 σ3 H3 N3, again ρ1 ff, base (.nx ρ1) _ ex fun N3 q3 σ3 H3 N4 q4 r4 => ⟨N4, q3.trans q4, r4⟩⟩
    | @turnC _ ρ1 _ _ _ ex ff => exact .inr ⟨go, fun σ3 H3 => ∃ N3, Same N1 N3 ∧ Rep X.K H0 ρ1 σ3 H3 N3, again ρ1 ff, base (.ct ρ1) _ ex fun N3 q3 σ3 H3 N4 q4 r4 => ⟨N4, q3.trans q4, r4⟩⟩
    | @brk _ ρ1 _ _ ex => exact .inr ⟨go, fun _ _ => False, fun _ _ z => z.elim, base (.bk ρ1) _ ex fun N3 q3 σ3 H3 N4 q4 r4 => k σ3 H3 N4 ((n1.trans q3).trans q4) r4⟩
    | ret ex => exact .inr ⟨go, fun _ _ => False, fun _ _ z => z.elim, base _ _ ex fun N3 q3 => Cont.mono (o := .rt _) k (n1.trans q3)⟩
    | retO ex => exact .inr ⟨go, fun _ _ => False, fun _ _ z => z.elim, base _ _ ex fun N3 q3 => Cont.mono (o := .ro _) k (n1.trans q3)⟩
    | @exc _ ρ1 _ _ n ex => exact .inr ⟨go, fun _ _ => False, fun _ _ z => z.elim, base (.ex n ρ1) _ ex fun N3 q3 => Cont.mono (o := .ex n ρ1) k (n1.trans q3)⟩
  · have e1 : i = ds.length := by omega
    subst e1
    rw [List.drop_length] at f
    cases f
    exact .inl ⟨wst rfl, k σ' H' N' (n1.trans s') r'⟩
theorem atk_ks {K : PySem.W.Frag} {H : Hp} : ∀ {l : List (List Nat × α)} {vs : List (Key × V)}, Atk K H vs (dm en l) → vs.length = l.length ∧ ∀ (i : Nat) (k : Key) (v : V), vs[i]? = some (k, v) → ∃ x, l[i]? = some x ∧ kV k = .str (SX.S x.1)
  | [], vs, h => by cases h; exact ⟨rfl, fun i k v e => by cases e⟩
  | p :: l, vs, h => by
    cases h with
    | cons ha ht =>
      obtain ⟨h1, h2⟩ := atk_ks ht
      refine ⟨by rw [List.length_cons, List.length_cons, h1], fun i k v e => ?_⟩
      cases i with
      | zero => cases e; exact ⟨p, rfl, rfl⟩
      | succ i => exact h2 i k v e
theorem wlk_k {K : PySem.W.Frag} {G N1 : Hp} {d : Addr} {od : Obj} {kvs : List (Key × V)} {l : List (List Nat × α)} (hd : N1 d = some (.frz od (.dK kvs)) ∨ G d = some (.frz od (.dK kvs))) (hl : kvs.length = l.length ∧ ∀ (i : Nat) (k : Key) (v : V), kvs[i]? = some (k, v) → ∃ x, l[i]? = some x ∧ kV k = .str (SX.S x.1)) : Walks K G (Itk d od kvs) N1 (l.map fun p => tx p.1) := fun H02 ρ2 σ2 H2 N2 i s02 s2 r2 => by
  have h2 : H2 d = some (.frz od (.dK kvs)) := by
    rcases hd with hd | hd
    · exact r2.sub _ _ (s2 _ _ hd)
    · exact r2.old _ _ (s02 _ _ hd)
  refine ⟨fun hi => ⟨⟨h2, by rw [hl.1]; rwa [List.length_map] at hi⟩, fun x H3 y => ?_⟩, fun hi => ⟨h2, by rw [hl.1]; rw [List.length_map] at hi; omega⟩⟩
  obtain ⟨rfl, k, v, e1, rfl⟩ := y
  obtain ⟨z, z1, z2⟩ := hl.2 i k v e1
  refine ⟨N2, tx z.1, Same.refl _, Same.refl _, r2, by rw [List.getElem?_map, z1]; rfl, ?_⟩
  rw [z2]
  exact .str _
/-- for key in d, d a thing of ours that no one changes any more -/
theorem sx_forK {t : Expr} {bd : Dat → Env' → Env'} {ok : Dat → Prop} {l : List (List Nat × α)} (i : Nat) {y : Str} (hp : PassesOwn (model X.prog X.w) X.A X.env X.xe) (hc : X.calm = true) (hi : ρ[i]? = some (.im (dicd en l))) (hg : Tgt X H0 t ok bd) (hok : ∀ d ∈ (l.map fun p => tx p.1), ok d) (h : ForT X H0 bd body (l.map fun p => tx p.1) ρ (.nx ρ1))
    (hN : X.N[i]? = some y := by rfl) (hv : Vis X.env.scope y := by first | exact Or.inl rfl | exact Or.inr (Or.inl rfl) | exact Or.inr (Or.inr rfl)) (hd : (y == ("__debug__" : Str)) = false := by decide) (hcd : (y == ("__classdict__" : Str)) = false := by decide)
    (hs : ∀ x, foldedSetIterable (.Name y p1) X.env x = pure x := by intro _; rfl) : ExS X H0 ρ (.For t (.Name y p1) body [] pos) (.nx ρ1) := fun DD σ H N r c => by
  obtain ⟨v, e1, a⟩ := r.im i _ hi
  obtain ⟨d, kvs, rfl, rd, ak⟩ := at_dic a
  have hk := atk_ks ak
  rcases rd with e2 | ⟨od, e2⟩
  · refine ws_of (ps_lock ps_w) ⟨d, .dK kvs, r.sub _ _ e2, True.intro, fun od => ?_⟩
    have h0 : H0 d = none := r.fresh d _ e2 True.intro
    have rl := r.lockN e2 od
    refine ws_for (H0 := H0) (ρ := ρ) hp hc (pi_keys (pv i hN hv hd hcd)) (fun R kk => ⟨_, e1, d, od, rfl, .inl ⟨kvs, upd_same, kk _ _ _ (Same.refl _) (Same.refl _) rl (wlk_k (.inl upd_same) hk)⟩⟩) hg hok h (fun σ' H' N' s r' => ⟨r'.sub _ _ (s _ _ upd_same), ?_⟩) hs
    have nd := s _ _ upd_same
    refine c σ' _ _ (fun a u e => ?_) (r'.unlockN nd h0)
    by_cases q : a = d
    · subst q; rw [e2] at e; rw [upd_same]; exact e
    · rw [upd_ne q]; exact s a u (by rw [upd_ne q]; exact e)
  · exact ws_for (H0 := H0) (ρ := ρ) hp hc (pi_keys (pv i hN hv hd hcd)) (fun R kk => ⟨_, e1, d, od, rfl, .inl ⟨kvs, r.sub _ _ e2, kk _ _ _ (Same.refl _) (Same.refl _) r (wlk_k (.inl e2) hk)⟩⟩) hg hok h c hs
theorem xm_forK {eS : S → Env'} {l : List (List Nat × α)} {s0 : S} {t : Expr} {bd : Dat → Env' → Env'} {ok : Dat → Prop} {f : List Nat → S → M S} {fk : S → M γ} (i : Nat) {y : Str} (hp : PassesOwn (model X.prog X.w) X.A X.env X.xe) (hc : X.calm = true) (hi : ρ[i]? = some (.im (dicd en l))) (hg : Tgt X H0 t ok bd) (hok : ∀ d ∈ (l.map fun p => tx p.1), ok d) (h0 : ρ = eS s0) (hb : ∀ x s, ExM X H0 (bd (tx x) (eS s)) k body (fun s => .nx (eS s)) (f x s)) (tt : ∀ s, ExM X H0 (eS s) k rest D (fk s))
    (hN : X.N[i]? = some y := by rfl) (hv : Vis X.env.scope y := by first | exact Or.inl rfl | exact Or.inr (Or.inl rfl) | exact Or.inr (Or.inr rfl)) (hd : (y == ("__debug__" : Str)) = false := by decide) (hcd : (y == ("__classdict__" : Str)) = false := by decide)
    (hs : ∀ x, foldedSetIterable (.Name y p1) X.env x = pure x := by intro _; rfl) : ExM X H0 ρ k (.For t (.Name y p1) body [] pos :: rest) D (M.bind (M.nox (forM f (l.map (·.1)) s0)) fk) := by
  have h := forM_T hb (l.map (·.1)) s0
  subst h0
  rw [List.map_map] at h
  cases e : forM f (l.map (·.1)) s0 with
  | ok s =>
    rw [e] at h
    exact xm_then (sx_forK i hp hc hi hg hok h hN hv hd hcd hs) (tt s)
  | ex n => trivial
  | far => trivial
/-! .. d handed in -/
/-- all that is held is flat, lists and dicts of one's own hold flat things -/
def FlatE (ρ : Env') : Prop := (∀ (j : Nat) (d : Dat), ρ[j]? = some (Ent.im d) → flat d = true) ∧ (∀ (j : Nat) (ds : List Dat), ρ[j]? = some (Ent.ow (.lst ds)) → ∀ d ∈ ds, flat d = true) ∧ (∀ (j : Nat) (ds : List (Key × Dat)), ρ[j]? = some (Ent.ow (.dic ds)) → ∀ d ∈ ds, flat d.2 = true) ∧ ∀ (j : Nat) (ks : List (List Key)) (ds : List Dat), ρ[j]? ≠ some (Ent.ow (.dit ks ds))
mutual
theorem At.flat2 {K : PySem.W.Frag} {N G : Hp} (e : ∀ a xs, SqT K N a xs → SqT K G a xs) : ∀ {v : V} {d : Dat}, At K N v d → flat d = true → At K G v d
  | _, _, .non, _ => .non
  | _, _, .bl b, _ => .bl b
  | _, _, .int i, _ => .int i
  | _, _, .str s, _ => .str s
  | _, _, .tup h t, f => .tup (e _ _ h) (Ats.flat2 e t f)
  | _, _, .lst _ _, f => by cases f
  | _, _, .dic _ _, f => by cases f
  | _, _, .ins _ _ _ _ _, f => by cases f
  | _, _, .tix _, f => by cases f
  | _, _, .dit _ _ _, f => by cases f
theorem Ats.flat2 {K : PySem.W.Frag} {N G : Hp} (e : ∀ a xs, SqT K N a xs → SqT K G a xs) : ∀ {vs : List V} {ds : List Dat}, Ats K N vs ds → flats ds = true → Ats K G vs ds
  | _, _, .nil, _ => .nil
  | _, _, .cons a t, f => by
    simp only [flats, Bool.and_eq_true] at f
    exact .cons (At.flat2 e a f.1) (Ats.flat2 e t f.2)
end
theorem Ats.flat3 {K : PySem.W.Frag} {N G : Hp} (e : ∀ a xs, SqT K N a xs → SqT K G a xs) : ∀ {vs : List V} {ds : List Dat}, Ats K N vs ds → (∀ d ∈ ds, flat d = true) → Ats K G vs ds
  | _, _, .nil, _ => .nil
  | _, _, .cons a t, f => .cons (a.flat2 e (f _ List.mem_cons_self)) (Ats.flat3 e t fun d hd => f d (List.mem_cons_of_mem _ hd))
theorem Atk.flat3 {K : PySem.W.Frag} {N G : Hp} (e : ∀ a xs, SqT K N a xs → SqT K G a xs) : ∀ {vs : List (Key × V)} {ds : List (Key × Dat)}, Atk K N vs ds → (∀ d ∈ ds, flat d.2 = true) → Atk K G vs ds
  | _, _, .nil, _ => .nil
  | _, _, .cons a t, f => .cons (a.flat2 e (f _ List.mem_cons_self)) (Atk.flat3 e t fun d hd => f d (List.mem_cons_of_mem _ hd))
open Classical in
noncomputable def wo (N : Hp) (d : Addr) : Hp := fun a => if a = d then none else N a
theorem wo_ne {N : Hp} {a d : Addr} (h : a ≠ d) : wo N d a = N a := by unfold wo; rw [if_neg h]
theorem wo_some {N : Hp} {a d : Addr} {u : HO} (h : wo N d a = some u) : a ≠ d ∧ N a = some u := by
  unfold wo at h
  by_cases q : a = d
  · rw [if_pos q] at h; cases h
  · rw [if_neg q] at h; exact ⟨q, h⟩
theorem Rep.lock0 {K : PySem.W.Frag} {H N : Hp} {σ : L2.St} {d : Addr} {kvs : List (Key × V)} (r : Rep K H0 ρ σ H N) (h : H0 d = some (.dK kvs)) (od : Obj) : Rep K (upd H0 d (.frz od (.dK kvs))) ρ σ (upd H d (.frz od (.dK kvs))) (upd N d (.frz od (.dK kvs))) := by
  have nd := n_of r h True.intro
  have sN : Same N (upd N d (.frz od (.dK kvs))) := Same.of_none nd
  have rd := rds_lock (od := od) h
  refine ⟨fun a u e => ?_, fun a u e => ?_, fun a u e => ?_, fun a u e m => ?_, r.len, fun j x e => ?_, fun j x e => ?_, fun j x e => ?_, r.rf, r.apart⟩
  · by_cases q : a = d
    · subst q; rw [upd_same] at e ⊢; exact e
    · rw [upd_ne q] at e ⊢; exact r.old a u e
  · by_cases q : a = d
    · subst q; rw [upd_same] at e ⊢; exact e
    · rw [upd_ne q] at e ⊢; exact r.sub a u e
  · have mu := imm_not e
    have e1 := imm_sub _ _ _ e
    by_cases q : a = d
    · subst q; rw [upd_same] at e1 ⊢; exact e1
    · rw [upd_ne q] at e1 ⊢; exact r.imm a u (imm_of e1 mu)
  · by_cases q : a = d
    · subst q; rw [upd_same] at e; cases e; exact m.elim
    · rw [upd_ne q] at e ⊢; exact r.fresh a u e m
  · obtain ⟨v, a1, a2⟩ := r.im j x e
    exact ⟨v, a1, a2.mono sN⟩
  · obtain ⟨v, a1, a2⟩ := r.ol j x e
    exact ⟨v, a1, a2.rds rd⟩
  · obtain ⟨p, a1, a2, a3, a4⟩ := r.ow j x e
    have q : p ≠ d := fun q => by rw [q, h] at a2; cases a2
    refine ⟨p, a1, by rw [upd_ne q]; exact a2, by rw [upd_ne q]; exact a3, ?_⟩
    cases x with
    | lst ds => obtain ⟨vs, b1, b2⟩ := a4; exact ⟨vs, by rw [upd_ne q]; exact b1, b2.mono sN⟩
    | dic ds => obtain ⟨vs, b1, b2⟩ := a4; exact ⟨vs, by rw [upd_ne q]; exact b1, b2.mono sN⟩
    | dit ks ds => obtain ⟨vs, b1, ql, b2⟩ := a4; exact ⟨vs, by rw [upd_ne q]; exact b1, ql, b2.mono sN⟩
    | non => exact a4.elim
    | bl _ => exact a4.elim
    | int _ => exact a4.elim
    | str _ => exact a4.elim
    | tup _ => exact a4.elim
    | ins _ _ _ => exact a4.elim
    | tix _ => exact a4.elim
theorem Rep.unlock0 {K : PySem.W.Frag} {H N : Hp} {σ : L2.St} {d : Addr} {kvs : List (Key × V)} {od : Obj} (r : Rep K (upd H0 d (.frz od (.dK kvs))) ρ σ H N) (h : H0 d = some (.dK kvs)) (f : FlatE ρ) : Rep K H0 ρ σ (upd H d (.dK kvs)) (wo N d) := by
  have hd : H d = some (.frz od (.dK kvs)) := r.old _ _ upd_same
  have sq : ∀ a xs, SqT K N a xs → SqT K (wo N d) a xs := fun a xs e => by
    have ne : ∀ {u : HO}, N a = some u → (u = .tup xs ∨ ∃ o, u = .frz o (.tup xs)) → a ≠ d := fun {u} e1 e2 q => by
      have := r.sub a u e1
      rw [q, hd] at this
      cases this
      rcases e2 with e2 | ⟨o, e2⟩ <;> cases e2
    rcases e with (e | ⟨o, e⟩) | e
    · exact .inl (.inl (by rw [wo_ne (ne e (.inl rfl))]; exact e))
    · exact .inl (.inr ⟨o, by rw [wo_ne (ne e (.inr ⟨o, rfl⟩))]; exact e⟩)
    · exact .inr e
  have rd : RdS (upd H0 d (.frz od (.dK kvs))) H0 := by
    have := rds_unlock (N := upd H0 d (.frz od (.dK kvs))) (d := d) (kvs := kvs) (od := od) upd_same
    have e : upd (upd H0 d (.frz od (.dK kvs))) d (.dK kvs) = H0 := by
      funext a
      by_cases q : a = d
      · subst q; rw [upd_same, h]
      · rw [upd_ne q, upd_ne q]
    rwa [e] at this
  refine ⟨fun a u e => ?_, fun a u e => ?_, fun a u e => ?_, fun a u e m => ?_, r.len, fun j x e => ?_, fun j x e => ?_, fun j x e => ?_, r.rf, r.apart⟩
  · by_cases q : a = d
    · subst q; rw [h] at e; rw [upd_same]; exact e
    · rw [upd_ne q]; exact r.old a u (by rw [upd_ne q]; exact e)
  · obtain ⟨q, e⟩ := wo_some e
    rw [upd_ne q]; exact r.sub a u e
  · have mu := imm_not e
    have e1 := imm_sub _ _ _ e
    have q : a ≠ d := fun q => by rw [q, h] at e1; cases e1; exact mu True.intro
    rw [wo_ne q]
    exact r.imm a u (imm_of (by rw [upd_ne q]; exact e1) mu)
  · obtain ⟨q, e⟩ := wo_some e
    have := r.fresh a u e m
    rwa [upd_ne q] at this
  · obtain ⟨v, a1, a2⟩ := r.im j x e
    exact ⟨v, a1, a2.flat2 sq (f.1 j x e)⟩
  · obtain ⟨v, a1, a2⟩ := r.ol j x e
    exact ⟨v, a1, a2.rds rd⟩
  · obtain ⟨p, a1, a2, a3, a4⟩ := r.ow j x e
    have q : p ≠ d := fun q => by rw [q, upd_same] at a2; cases a2
    rw [upd_ne q] at a2
    refine ⟨p, a1, a2, by rw [wo_ne q]; exact a3, ?_⟩
    cases x with
    | lst ds => obtain ⟨vs, b1, b2⟩ := a4; exact ⟨vs, by rw [upd_ne q]; exact b1, b2.flat3 sq (f.2.1 j ds e)⟩
    | dic ds => obtain ⟨vs, b1, b2⟩ := a4; exact ⟨vs, by rw [upd_ne q]; exact b1, b2.flat3 sq (f.2.2.1 j ds e)⟩
    | dit ks ds => exact absurd e (f.2.2.2 j ks ds)
    | non => exact a4.elim
    | bl _ => exact a4.elim
    | int _ => exact a4.elim
    | str _ => exact a4.elim
    | tup _ => exact a4.elim
    | ins _ _ _ => exact a4.elim
    | tix _ => exact a4.elim
theorem sx_forK0 {t : Expr} {bd : Dat → Env' → Env'} {ok : Dat → Prop} {l : List (List Nat × α)} (i : Nat) {y : Str} (hp : PassesOwn (model X.prog X.w) X.A X.env X.xe) (hc : X.calm = true) (hi : ρ[i]? = some (.ol (dicd en l))) (hf : FlatE ρ1) (hg : ∀ H0, Tgt X H0 t ok bd) (hok : ∀ d ∈ (l.map fun p => tx p.1), ok d) (h : ∀ H0, ForT X H0 bd body (l.map fun p => tx p.1) ρ (.nx ρ1))
    (hN : X.N[i]? = some y := by rfl) (hv : Vis X.env.scope y := by first | exact Or.inl rfl | exact Or.inr (Or.inl rfl) | exact Or.inr (Or.inr rfl)) (hd : (y == ("__debug__" : Str)) = false := by decide) (hcd : (y == ("__classdict__" : Str)) = false := by decide)
    (hs : ∀ x, foldedSetIterable (.Name y p1) X.env x = pure x := by intro _; rfl) : ExS X H0 ρ (.For t (.Name y p1) body [] pos) (.nx ρ1) := fun DD σ H N r c => by
  obtain ⟨v, e1, a⟩ := r.ol i _ hi
  obtain ⟨d, kvs, rfl, rd, ak⟩ := at_dic a
  have hk := atk_ks ak
  rcases rd with e2 | ⟨od, e2⟩
  · refine ws_of (ps_lock ps_w) ⟨d, .dK kvs, r.old _ _ e2, True.intro, fun od => ?_⟩
    have nd := n_of r e2 True.intro
    have rl := r.lock0 e2 od
    refine ws_for (H0 := upd H0 d (.frz od (.dK kvs))) (ρ := ρ) hp hc (pi_keys (pv i hN hv hd hcd)) (fun R kk => ⟨_, e1, d, od, rfl, .inl ⟨kvs, upd_same, kk _ _ _ (Same.refl _) (Same.refl _) rl (wlk_k (.inl upd_same) hk)⟩⟩) (hg _) hok (h _) (fun σ' H' N' s r' => ⟨r'.old _ _ upd_same, ?_⟩) hs
    refine c σ' _ _ (fun a u e => ?_) (r'.unlock0 e2 hf)
    have q : a ≠ d := fun q => by rw [q, nd] at e; cases e
    rw [wo_ne q]; exact s a u (by rw [upd_ne q]; exact e)
  · exact ws_for (H0 := H0) (ρ := ρ) hp hc (pi_keys (pv i hN hv hd hcd)) (fun R kk => ⟨_, e1, d, od, rfl, .inl ⟨kvs, r.old _ _ e2, kk _ _ _ (Same.refl _) (Same.refl _) r (wlk_k (.inr e2) hk)⟩⟩) (hg _) hok (h _) c hs
theorem xm_forK0 {eS : S → Env'} {l : List (List Nat × α)} {s0 : S} {t : Expr} {bd : Dat → Env' → Env'} {ok : Dat → Prop} {f : List Nat → S → M S} {fk : S → M γ} (i : Nat) {y : Str} (hp : PassesOwn (model X.prog X.w) X.A X.env X.xe) (hc : X.calm = true) (hi : ρ[i]? = some (.ol (dicd en l))) (hf : ∀ s, FlatE (eS s)) (hg : ∀ H0, Tgt X H0 t ok bd) (hok : ∀ d ∈ (l.map fun p => tx p.1), ok d) (h0 : ρ = eS s0) (hb : ∀ H0 x s, ExM X H0 (bd (tx x) (eS s)) k body (fun s => .nx (eS s)) (f x s)) (tt : ∀ s, ExM X H0 (eS s) k rest D (fk s))
    (hN : X.N[i]? = some y := by rfl) (hv : Vis X.env.scope y := by first | exact Or.inl rfl | exact Or.inr (Or.inl rfl) | exact Or.inr (Or.inr rfl)) (hd : (y == ("__debug__" : Str)) = false := by decide) (hcd : (y == ("__classdict__" : Str)) = false := by decide)
    (hs : ∀ x, foldedSetIterable (.Name y p1) X.env x = pure x := by intro _; rfl) : ExM X H0 ρ k (.For t (.Name y p1) body [] pos :: rest) D (M.bind (M.nox (forM f (l.map (·.1)) s0)) fk) := by
  have h := fun H0 => forM_T (H0 := H0) (hb H0) (l.map (·.1)) s0
  subst h0
  simp only [List.map_map] at h
  cases e : forM f (l.map (·.1)) s0 with
  | ok s =>
    rw [e] at h
    exact xm_then (sx_forK0 i hp hc hi (hf s) hg hok h hN hv hd hcd hs) (tt s)
  | ex n => trivial
  | far => trivial
end
/-! flatness, entry by entry -/
inductive FlE : Env' → Prop where
  | nil : FlE []
  | im {d : Dat} {r : Env'} : flat d = true → FlE r → FlE (.im d :: r)
  | owd {β : Type} {en : β → Dat} {l : List (List Nat × β)} {r : Env'} : (∀ a, flat (en a) = true) → FlE r → FlE (.ow (dicd en l) :: r)
  | owl {β : Type} {en : β → Dat} {l : List β} {r : Env'} : (∀ a, flat (en a) = true) → FlE r → FlE (.ow (lstd en l) :: r)
  | no {r : Env'} : FlE r → FlE (.no :: r)
  | ol {d : Dat} {r : Env'} : FlE r → FlE (.ol d :: r)
  | rf {a : Addr} {r : Env'} : FlE r → FlE (.rf a :: r)
theorem FlE.to {ρ : Env'} (h : FlE ρ) : FlatE ρ := by
  have cons : ∀ {e : Ent} {r : Env'}, FlatE r → (∀ d, e = .im d → flat d = true) → (∀ ds, e = .ow (.lst ds) → ∀ d ∈ ds, flat d = true) → (∀ ds, e = .ow (.dic ds) → ∀ d ∈ ds, flat d.2 = true) → (∀ ks ds, e ≠ .ow (.dit ks ds)) → FlatE (e :: r) := fun {e r} ih h1 h2 h3 h4 => by
    obtain ⟨i1, i2, i3, i4⟩ := ih
    refine ⟨fun j d q => ?_, fun j d q => ?_, fun j d q => ?_, fun j ks ds q => ?_⟩
    · cases j with
      | zero => exact h1 d (Option.some.inj q)
      | succ j => exact i1 j d q
    · cases j with
      | zero => exact h2 d (Option.some.inj q)
      | succ j => exact i2 j d q
    · cases j with
      | zero => exact h3 d (Option.some.inj q)
      | succ j => exact i3 j d q
    · cases j with
      | zero => exact h4 ks ds (Option.some.inj q)
      | succ j => exact i4 j ks ds q
  induction h with
  | nil => exact ⟨fun j d e => by (cases j <;> cases e), fun j d e => by (cases j <;> cases e), fun j d e => by (cases j <;> cases e), fun j ks ds e => by (cases j <;> cases e)⟩
  | im f _ ih => exact cons ih (fun d e => by cases e; exact f) (fun d e => by cases e) (fun d e => by cases e) (fun ks ds e => by cases e)
  | @owd β en l r f _ ih =>
    refine cons ih (fun d e => by cases e) (fun d e => by cases e) (fun ds e d hd => ?_) (fun ks ds e => by cases e)
    have e2 : dm en l = ds := by cases e; rfl
    rw [← e2] at hd
    obtain ⟨p, _, rfl⟩ := List.mem_map.mp hd
    exact f p.2
  | @owl β en l r f _ ih =>
    refine cons ih (fun d e => by cases e) (fun ds e d hd => ?_) (fun d e => by cases e) (fun ks ds e => by cases e)
    have e2 : l.map en = ds := by cases e; rfl
    rw [← e2] at hd
    obtain ⟨p, _, rfl⟩ := List.mem_map.mp hd
    exact f p
  | no _ ih => exact cons ih (fun d e => by cases e) (fun d e => by cases e) (fun d e => by cases e) (fun ks ds e => by cases e)
  | ol _ ih => exact cons ih (fun d e => by cases e) (fun d e => by cases e) (fun d e => by cases e) (fun ks ds e => by cases e)
  | rf _ ih => exact cons ih (fun d e => by cases e) (fun d e => by cases e) (fun d e => by cases e) (fun ks ds e => by cases e)
end B

namespace B
open PySem PySem.Spec PyProof.Rows L2
section
variable {X : Cx} {H0 : Hp} {ρ : Env'} {α : Type} {a b c : Expr} {pos : Pos} {en : α → Dat} {l : List (List Nat × α)} {key : List Nat}
/-- d.get(key, u), d a thing that nobody changes -/
theorem ev_dget2v {u : α} (ha : Ev X H0 ρ a (dicd en l)) (hb : Ev X H0 ρ b (tx key)) (hc : Ev X H0 ρ c (en u)) (hu : X.A.units + 1 < cLine) {apos : Pos} (hm : M2 X a "get" apos b c pos := by exact ⟨rfl, rfl, rfl, rfl⟩) :
    Ev X H0 ρ (.Call (.Attribute a "get" apos) [b, c] [] pos) (en ((dget l key).getD u)) := fun σ H N rp => by
  refine we_of (pe_dget2 hu pe_w pe_w pe_w hm) ((ha σ H N rp).imp fun v0 H1 ⟨N1, s1, n1, r1, a1⟩ => ?_)
  obtain ⟨q, vs, e1, g1, g2⟩ := at_dic a1
  subst e1
  have rd1 : Rd H1 q (.dK vs) := rd_same r1.sub g1
  refine ⟨q, rfl, .inl ⟨vs, rd1⟩, (hb σ H1 N1 r1).imp fun w H2 ⟨N2, s2, n2, r2, a2⟩ => (hc σ H2 N2 r2).imp fun z H3 ⟨N3, s3, n3, r3, a3⟩ => ?_⟩
  have h5 := at_str a2
  subst h5
  have g3 : Atk X.K N3 vs (dm en l) := Atk.mono (n2.trans n3) g2
  obtain ⟨i1, i2⟩ := atk_get g3 key
  refine ⟨_, .inl ⟨vs, Sum.inr (SX.S key), rd_same (s2.trans s3) rd1, rfl, rfl⟩, N3, (s1.trans s2).trans s3, (n1.trans n2).trans n3, r3, ?_⟩
  cases e : dget l key with
  | none => rw [i2 e]; exact a3
  | some v =>
    obtain ⟨z, z1, z2⟩ := i1 v e
    rw [z1]
    exact z2
/-- .. d handed in; what it holds is flat -/
theorem ev_dget2b {u : α} (hf : ∀ x, flat (en x) = true) (ha : EvB X H0 ρ a (dicd en l)) (hb : Ev X H0 ρ b (tx key)) (hc : Ev X H0 ρ c (en u)) (hu : X.A.units + 1 < cLine) {apos : Pos} (hm : M2 X a "get" apos b c pos := by exact ⟨rfl, rfl, rfl, rfl⟩) :
    Ev X H0 ρ (.Call (.Attribute a "get" apos) [b, c] [] pos) (en ((dget l key).getD u)) := EvB.flat (fun σ H N rp => by
  refine we_of (pe_dget2 hu pe_w pe_w pe_w hm) ((ha σ H N rp).imp fun v0 H1 ⟨N1, s1, n1, r1, a1⟩ => ?_)
  obtain ⟨q, vs, e1, g1, g2⟩ := at_dic a1
  subst e1
  refine ⟨q, rfl, .inl ⟨vs, g1⟩, (hb σ H1 N1 r1).imp fun w H2 ⟨N2, s2, n2, r2, a2⟩ => (hc σ H2 N2 r2).imp fun z H3 ⟨N3, s3, n3, r3, a3⟩ => ?_⟩
  have h5 := at_str a2
  subst h5
  have g3 : Atk X.K H3 vs (dm en l) := Atk.mono (s2.trans s3) g2
  obtain ⟨i1, i2⟩ := atk_get g3 key
  refine ⟨_, .inl ⟨vs, Sum.inr (SX.S key), rd_same (s2.trans s3) g1, rfl, rfl⟩, N3, (s1.trans s2).trans s3, (n1.trans n2).trans n3, r3, ?_⟩
  cases e : dget l key with
  | none => rw [i2 e]; exact a3.mono r3.sub
  | some v =>
    obtain ⟨z, z1, z2⟩ := i1 v e
    rw [z1]
    exact z2) (hf _)
end
theorem cut_nn {α : Type} {l : List α} {a b : Nat} (h : a ≤ b) : cut l (some (a : Int)) (some (b : Int)) = (l.drop a).take (b - a) := by
  show (l.drop (HT.sIx l.length 0 (some ((a : Nat) : Int)))).take (HT.sIx l.length l.length (some ((b : Nat) : Int)) - HT.sIx l.length 0 (some ((a : Nat) : Int))) = _
  rw [HT.sIx_nat, HT.sIx_nat]
  by_cases h1 : a ≤ l.length
  · rw [Nat.min_eq_left h1]
    by_cases h2 : b ≤ l.length
    · rw [Nat.min_eq_left h2]
    · rw [Nat.min_eq_right (by omega), List.take_of_length_le (by rw [List.length_drop]; exact Nat.le_refl _), List.take_of_length_le (by rw [List.length_drop]; omega)]
  · rw [List.drop_of_length_le (by omega), List.drop_of_length_le (by omega)]
    simp
/-! ### sorted: ints -/
def srtI (l : List Int) : List Int := l.mergeSort fun a b => decide (a ≤ b)
theorem srtI_perm (l : List Int) : (srtI l).Perm l := List.mergeSort_perm _ _
theorem srtI_pw (l : List Int) : (srtI l).Pairwise (· ≤ ·) := by
  have h := List.pairwise_mergeSort (le := fun a b : Int => decide (a ≤ b)) (fun a b c h1 h2 => by simp at *; omega) (fun a b => by simp; omega) l
  exact h.imp fun q => of_decide_eq_true q
theorem srtI_of {l m : List Int} (h1 : m.Perm l) (h2 : m.Pairwise (· ≤ ·)) : m = srtI l :=
  List.Perm.eq_of_pairwise (le := (· ≤ ·)) (fun a b _ _ p q => Int.le_antisymm p q) h2 (srtI_pw l) (h1.trans (srtI_perm l).symm)
section
variable {X : Cx} {H0 : Hp} {ρ : Env'} {α : Type} {a b c : Expr} {p pos : Pos} {en : α → Dat}
theorem eo_sortedI {l : List Int} (ha : EvB X H0 ρ a (lstd Dat.int l)) (hm : X.mg "sorted" = none) (hg : Gl X "sorted" := by rfl) (he : starEach [a] X.env = (false, eval a X.env) :: starEach [] X.env := by rfl) (hpl : (backTo pos (starEach [] X.env)).any (·.1) = false := by rfl) :
    EvO X H0 ρ (.Call (.Name "sorted" p) [a] [] pos) (lstd Dat.int (srtI l)) := fun σ H N rp =>
  we_of (pe_callB cr_sortedI hg hm (by decide +kernel) pa_w (by decide) (by decide) he hpl) ((eab1 ha he σ H N rp).imp fun vs H1 ⟨N1, s1, n1, r1, a1⟩ => by
    obtain ⟨v, e1, e2⟩ := ats_one a1
    obtain ⟨pp, us, e3, h1, h2⟩ := at_lst e2
    rw [h2.ints] at h1
    refine ⟨pp, l, by rw [e1, e3], h1, fun ms q hp hw hq => ?_⟩
    rw [srtI_of hp hw]
    obtain ⟨r3, n3⟩ := eo_new (o := .lst ((srtI l).map V.int)) r1 hq
    exact ⟨N1, q, rfl, s1.free hq, s1.trans (Same.of_none hq), n1, r3, n3, _, upd_same, Ats.ofInts _⟩)
/-- list + list, the first one a list of one's own -/
theorem eo_catWm {l m : List α} (i : Nat) {y : Str} {p1 : Pos} (hi : ρ[i]? = some (.ow (lstd en l))) (hb : EvO X H0 ρ b (lstd en m)) (h : catOk l m = true) (hN : X.N[i]? = some y := by rfl) (hv : Vis X.env.scope y := by first | exact Or.inl rfl | exact Or.inr (Or.inl rfl) | exact Or.inr (Or.inr rfl))
    (hd : (y == ("__debug__" : Str)) = false := by decide) (hcd : (y == ("__classdict__" : Str)) = false := by decide) : EvO X H0 ρ (.BinOp (.Name y p1) .Add b pos) (lstd en (l ++ m)) := fun σ H N rp => by
  obtain ⟨q0, g1, g2, g3, us, g4, g5⟩ := rp.ow i _ hi
  refine we_of (pe_op op_cat (pv i hN hv hd hcd) pe_w) ⟨_, g1, (hb σ H N rp).imp fun w H2 ⟨N2, p2, e2, hp2, s2, n2, r2, np2, ws, k2, h4⟩ => ?_⟩
  have hz := catOk_ok h
  have hl : us.length = l.length := by rw [g5.length, List.length_map]
  refine ⟨q0, p2, us, ws, rfl, e2, s2 _ _ g4, k2, by rw [hl, h4.length, List.length_map]; exact hz, fun q hq => ?_⟩
  obtain ⟨r5, n5⟩ := eo_new (o := .lst (us ++ ws)) r2 hq
  refine ⟨N2, q, rfl, s2.free hq, s2.trans (Same.of_none hq), n2, r5, n5, us ++ ws, upd_same, ?_⟩
  show Ats X.K N2 (us ++ ws) ((l ++ m).map en)
  rw [List.map_append]
  exact (g5.mono n2).append h4
/-- .. the second one -/
theorem eo_catVm {l m : List α} (i : Nat) {y : Str} {p1 : Pos} (ha : EvO X H0 ρ a (lstd en l)) (hi : ρ[i]? = some (.ow (lstd en m))) (h : catOk l m = true) (hN : X.N[i]? = some y := by rfl) (hv : Vis X.env.scope y := by first | exact Or.inl rfl | exact Or.inr (Or.inl rfl) | exact Or.inr (Or.inr rfl))
    (hd : (y == ("__debug__" : Str)) = false := by decide) (hcd : (y == ("__classdict__" : Str)) = false := by decide) : EvO X H0 ρ (.BinOp a .Add (.Name y p1) pos) (lstd en (l ++ m)) := fun σ H N rp => by
  refine we_of (pe_op op_cat pe_w (pv i hN hv hd hcd)) ((ha σ H N rp).imp fun w H2 ⟨N2, p2, e2, hp2, s2, n2, r2, np2, ws, k2, h4⟩ => ?_)
  obtain ⟨q0, g1, g2, g3, us, g4, g5⟩ := r2.ow i _ hi
  have hz := catOk_ok h
  have hl : us.length = m.length := by rw [g5.length, List.length_map]
  refine ⟨_, g1, p2, q0, ws, us, e2, rfl, k2, g4, by rw [hl, h4.length, List.length_map]; exact hz, fun q hq => ?_⟩
  obtain ⟨r5, n5⟩ := eo_new (o := .lst (ws ++ us)) r2 hq
  refine ⟨N2, q, rfl, s2.free hq, s2.trans (Same.of_none hq), n2, r5, n5, ws ++ us, upd_same, ?_⟩
  show Ats X.K N2 (ws ++ us) ((l ++ m).map en)
  rw [List.map_append]
  exact h4.append g5
end
/-! ### is None, as a value -/
section
variable {X : Cx} {H0 : Hp} {ρ : Env'} {a : Expr} {pos : Pos} {d : Dat}
theorem ev_isN {j pos'} (ha : EvB X H0 ρ a d) : Ev X H0 ρ (.Compare a [.Is] [.Constant .none j pos'] pos) (.bl (isNon d)) :=
  ev_bin (d2 := .non) (fun _ _ h k => pe_cmpR op_isN h k (nomark _)) ha ev_non.toB fun x y σ H N Q r p q g => ⟨at_non q, by rw [at_isNon p]; exact goes_self (Q := Q) g r (.bl _)⟩
theorem ev_notN {j pos'} (ha : EvB X H0 ρ a d) : Ev X H0 ρ (.Compare a [.IsNot] [.Constant .none j pos'] pos) (.bl (!isNon d)) :=
  ev_bin (d2 := .non) (fun _ _ h k => pe_cmpR op_notN h k (nomark _)) ha ev_non.toB fun x y σ H N Q r p q g => ⟨at_non q, by rw [at_isNon p]; exact goes_self (Q := Q) g r (.bl _)⟩
end
end B

namespace B
open PySem PySem.Spec PyProof.Rows L2
/-! ### errors whose context is None: a def that raises one where nothing is handled -/
section
variable (X : Cx) (H0 : Hp) (ρ : Env') {α : Type}
/-- a block that raises the class of that name, out of the def -/
def ExcN (sts : List Stmt) (n : Str) : Prop := ∀ D σ H N, Rep X.K H0 ρ σ H N → (∃ W, L2N.Takes X W ∧ ∀ C σ' H', X.mg n = some (.ref C) → Same H0 H' → W (.ref C) none σ' H') → WB X sts D σ H
def EvXN (e : Expr) (n : Str) : Prop := ∀ σ H N, Rep X.K H0 ρ σ H N → ∀ W : WX, L2N.Takes X W → (∀ C H' N', X.mg n = some (.ref C) → Same N N' → Rep X.K H0 ρ σ H' N' → W (.ref C) none σ H') → ∀ Q, WE X e σ H Q
/-- .. only what a block raises is told -/
def XnM (k : Nat) (sts : List Stmt) (D : α → Outc) (m : M α) : Prop := match m with
  | .ex n => ExcN X H0 ρ sts n
  | _ => True
def EvNM (e : Expr) (en : α → Dat) (m : M α) : Prop := match m with
  | .ex n => EvXN X H0 ρ e n
  | _ => True
end
section
variable {X : Cx} {H0 : Hp} {ρ ρ1 : Env'} {α β : Type} {g : Bool} {k : Nat} {sts rest as bs : List Stmt} {D : α → Outc} {m m2 : M α} {c e : Expr} {n : Str} {p pos pos2 : Pos}
theorem xn_gd (h : g = true → XnM X H0 ρ k sts D m) : XnM X H0 ρ k sts D (M.gd g m) := by
  cases g with
  | true => exact h rfl
  | false => trivial
theorem xn_bind {mb : M β} {f : β → M α} (h : ∀ r, mb = .ok r → XnM X H0 ρ k sts D (f r)) : XnM X H0 ρ k sts D (M.bind (M.nox mb) f) := by
  cases mb with
  | ok r => exact h r rfl
  | ex _ => trivial
  | far => trivial
theorem xn_ofO {ob : Option β} {f : β → M α} (h : ∀ r, ob = some r → XnM X H0 ρ k sts D (f r)) : XnM X H0 ρ k sts D (M.bind (M.ofO ob) f) := by
  cases ob with
  | some r => exact h r rfl
  | none => trivial
theorem xn_ret {v : α} {d : Dat} (h : Ev X H0 ρ e d) (hD : D v = .rt d := by rfl) : XnM X H0 ρ k (.Return (some e) pos :: rest) D (.ok v) := trivial
theorem xn_ifX (hD : ∀ v, (D v).out) (hc : EvT X H0 ρ c g) (h1 : g = true → XnM X H0 ρ k as D m) (h2 : g = false → XnM X H0 ρ k rest D m2) : XnM X H0 ρ k (.If c as [] pos :: rest) D (if g = true then m else m2) := by
  cases g with
  | true =>
    rw [if_pos rfl]
    have h1 := h1 rfl
    cases m with
    | ok v => trivial
    | far => trivial
    | ex n =>
      intro DD σ H N r w
      refine wb_of (pss_cons ps_w pb_w) ?_
      show WS X (.If c as [] pos) { DD with nx := WB X rest DD } σ H
      exact ws_of (ps_if pt_w pb_w pb_w) ((hc σ H N r).imp fun v H' ⟨e1, N', s, n', r'⟩ => by
        subst e1
        exact iteT (h1 _ σ H' N' r' w))
  | false =>
    rw [if_neg (by decide)]
    have h2 := h2 rfl
    cases m2 with
    | ok v => trivial
    | far => trivial
    | ex n =>
      intro DD σ H N r w
      refine wb_of (pss_cons ps_w pb_w) ?_
      show WS X (.If c as [] pos) { DD with nx := WB X rest DD } σ H
      exact sx_skip hc _ σ H N r fun σ' H' N' s r' => h2 DD σ' H' N' r' w
theorem xn_raise {mm : Str} {j : Nat} {p2 : Pos} (T : Exc X.K X.mg n) (hc : X.calm = true) (hk : ρ.length = k := by rfl) (hg : Gl X n := by rfl) (hdb : (n == ("__debug__" : Str)) = false := by decide) : XnM X H0 ρ k (.Raise (some (.Call (.Name n p) [.Constant (.str mm) j p2] [] pos)) none pos2 :: rest) D (.ex n) := fun DD σ H N r ⟨W, tk, q⟩ => by
  obtain ⟨C, T⟩ := T
  refine wb_of (pss_cons ps_w pb_w) ?_
  show WS X _ { DD with nx := WB X rest DD } σ H
  exact ws_of (L2N.ps_raise hc tk (L2N.pmk_own PySem.F.excBase_ValueError T.x T.g T.k (raises_own T.b T.t) hg hdb)) (q C σ H T.g r.old)
theorem ends_n {m : M α} (h : XnM X H0 ρ k sts D m) : ∀ n, m = .ex n → ExcN X H0 ρ sts n := fun n e => by
  subst e
  exact h
end
/-- a def's promise about what it raises -/
def GFnN (P : Program) (w : World) (K : PySem.W.Frag) (mg : Str → Option Value) (base : Heap) (x : Str) (k : Nat) (R : List Dat → Str → Prop) : Prop :=
  ∃ f fd ps, FnOk P w K mg base (L2N.CX P w) k f fd ps (spR K mg fun ds o => ∃ n, o = .exc n ∧ R ds n) ∧ mg x = some (.ref f) ∧ PySem.W.keepIn K (.ref f) = true ∧ Binds K fd ps []
abbrev XXN (P : Program) (w : World) (K : PySem.W.Frag) (mg : Str → Option Value) (base : Heap) (N : List Str) (x : Str) (st : Stmt) (f : Addr) (cdv : Value) (A : Around) (outer : List PySem.Env) (s : Shared) (H : Hp) (E : XK) : Cx :=
  cxOf (L2N.CX P w) P w K mg base N x (defScope st) f cdv A outer s H E
section
variable {P : Program} {w : World} {K : PySem.W.Frag} {mg : Str → Option Value} {base : Heap} {x : Str} {st : Stmt} {ps N : List Str} {k : Nat} {R : List Dat → Str → Prop}
theorem GFnN.mk (D : Df K mg x st ps) (S : FnScope N ps (defScope st)) (hl : ∀ ds n, R ds n → ds.length = ps.length)
    (body : ∀ (f : Addr) (cdv : Value) (A : Around) (outer : List PySem.Env) (s : Shared) (H : Hp) (E : XK), Room k (XXN P w K mg base N x st f cdv A outer s H E).A → ∀ ds n, R ds n → ∃ es, Ents es ds ∧ ∀ H0, ExcN (XXN P w K mg base N x st f cdv A outer s H E) H0 (es ++ List.replicate (N.length - ps.length) .no) (defBody st) n) : GFnN P w K mg base x (k + 1) R := by
  obtain ⟨f, fd, F, hm, hb⟩ := D
  obtain ⟨oc, od, kV, doc, pm, an, cdv, ct, osl, rfl, lk, hcd⟩ := F.ex
  refine ⟨f, _, ps, fn_of lk hcd S (fun vs H Q E ⟨ds, o, ⟨n, _, hr⟩, a, _⟩ => by rw [a.length]; exact hl ds n hr) fun A outer s H vs Q E hr hsp => ?_, hm, F.kp, hb⟩
  obtain ⟨ds, o, ⟨n, ho, hR⟩, a, q⟩ := hsp
  subst ho
  obtain ⟨es, he, hbody⟩ := body f cdv A outer s H E hr ds n hR
  have hlen : vs.length = ps.length := by rw [a.length]; exact hl ds n hR
  have r : Rep K H (es ++ List.replicate (N.length - ps.length) .no) (L2.start N vs) H (Imm H) := hlen ▸ rep_start he a
  exact ⟨_, pb_w, hbody H { nx := fun _ H' => Q .non H', rt := Q } _ _ _ r ⟨_, L2N.takes_of rfl rfl rfl rfl, fun C σ H' hm s => q C H' hm s⟩⟩
end
section
variable {X : Cx} {H0 : Hp} {ρ : Env'} {α β γ S : Type} {a b e call : Expr} {es : List Expr} {ds : List Dat} {p pos : Pos} {x n n1 n2 : Str} {k kk : Nat} {m : M α} {en : α → Dat} {st : Stmt} {sts rest : List Stmt} {D : γ → Outc}
theorem evn_call {R : List Dat → Str → Prop} (G : GFnN X.prog X.w X.K X.mg X.base x kk R) (hr : Room kk X.A) (ha : EvAB X H0 ρ (e :: es) ds) (q : ∀ n, m = .ex n → R ds n) (hg : Gl X x := by rfl) (hdb : (x == ("__debug__" : Str)) = false := by decide)
    (he : starEach (e :: es) X.env = (false, eval e X.env) :: starEach es X.env := by rfl) (hpl : (backTo pos (starEach es X.env)).any (·.1) = false := by rfl) : EvNM X H0 ρ (.Call (.Name x p) (e :: es) [] pos) en m := by
  cases m with
  | ok v => trivial
  | far => trivial
  | ex n =>
    intro σ H N r W tk kw Q
    obtain ⟨f, fd, ps, F, hm, hk, hb⟩ := G
    refine we_of (pe_callS F hr hg hm hk hb (fun σ => L2N.passAt tk σ) pa_w hdb he hpl) ((ha σ H N r).imp fun vs H1 ⟨N1, s1, n1, r1, a1⟩ => ⟨ds, .exc n, ⟨n, rfl, q n rfl⟩, a1, fun C H' hC s' => ?_⟩)
    exact kw C H' N1 hC n1 (r1.grow s')
/-- a try whose body can't fall through, else or not -/
theorem try_else {P : Program} {w : World} {A : Around} {E : Value → Shared → Prop} {s : Shared} {env : PySem.Env} {body orelse : List Stmt} {h₀ : ExceptHandler} {hs : List ExceptHandler} {Q Q' : Flow → Shared → Prop}
    (h : wpAny (model P w) A (exec (.Try body (h₀ :: hs) [] [] pos) env) Q E s) (hq : ∀ f s, ¬ Q f s) : wpAny (model P w) A (exec (.Try body (h₀ :: hs) orelse [] pos) env) Q' E s := by
  intro Γ p hΓ
  have h := h Γ p hΓ
  rw [arm_exec_Try] at h ⊢
  unfold tryStmt at h ⊢
  simp only [List.isEmpty_nil, if_true, List.isEmpty_cons, Bool.false_and, Bool.false_eq_true, if_false, Sem.wp_bind'] at h ⊢
  refine Sem.wp_mono _ Γ _ (fun u p1 s1 h1 => ?_) (fun _ _ _ q => q) _ _ h
  refine Sem.wp_mono _ Γ _ (fun r p2 s2 h2 => ?_) (fun _ _ _ q => q) _ _ h1
  match r, h2 with
  | .ok .next, h2 => exact absurd h2 (hq _ _)
  | .ok .brk, h2 => exact absurd h2 (hq _ _)
  | .ok .cont, h2 => exact absurd h2 (hq _ _)
  | .ok (.ret v), h2 => exact absurd h2 (hq _ _)
  | .error er, h2 =>
    simp only [Sem.wp_bind'] at h2 ⊢
    refine Sem.wp_mono _ Γ _ (fun u p3 s3 h3 => ?_) (fun _ _ _ q => q) _ _ h2
    refine Sem.wp_mono _ Γ _ (fun u p4 s4 h4 => ?_) (fun _ _ _ q => q) _ _ h3
    exact Sem.wp_mono _ Γ _ (fun f p5 s5 h5 => absurd h5 (hq _ _)) (fun _ _ _ q => q) _ _ h4
/-- try: y = f(..), that raises n1; except n1: raise n2; else: .. -/
theorem sx_tryR {c : Value} {orelse : List Stmt} {np py pos' pos'' p' p2 pos1 pos2 : Pos} {y mm : Str} {j : Nat}
    (hs : X.stack = X.env :: X.outer) (hf : X.env.frame = some X.env.locals) (hpa : ∀ hd : Option Value, PassesOwnAt (model X.prog X.w) (X.A.mark hd) X.A X.env X.xe) (hc : Names X x c) (he : ∀ C, X.mg n1 = some (.ref C) → PySem.W.exmOne X.K (.ref C) c = some true)
    (hb : ∀ (pn : List (Addr × Obj)) (xe : Value → Shared → Prop), PassesOwn (model X.prog X.w) X.A X.env xe → EvXN (X.tr pn xe) H0 ρ call n1) (T : Exc X.K X.mg n2) (nd : X.N.Nodup)
    {i : Nat} (hi : X.N[i]? = some y := by rfl) (hx : Loc X.env.scope y := by first | exact Or.inl rfl | exact Or.inr rfl) (hsw : ∀ pn xe, swapsWith call (some (.Name y py)) pos.line (X.tr pn xe).env = pure false := by intro _ _; rfl) (hfn : X.fn y = true ∨ X.env.scope.names.lookup y = some .local := by first | exact .inl rfl | exact .inr rfl | assumption)
    (hg : Gl X n2 := by rfl) (hdb : (n2 == ("__debug__" : Str)) = false := by decide) :
    ExS X H0 ρ (.Try [.Assign [.Name y py] call pos] [.ExceptHandler (some (.Name x np)) none [.Raise (some (.Call (.Name n2 p') [.Constant (.str mm) j p2] [] pos1)) none pos2] pos'] orelse [] pos'') (.ex n2 ρ) := fun DD σ H N r ⟨W, tk, q⟩ => by
  have key : WS X (.Try [.Assign [.Name y py] call pos] [.ExceptHandler (some (.Name x np)) none [.Raise (some (.Call (.Name n2 p') [.Constant (.str mm) j p2] [] pos1)) none pos2] pos'] [] [] pos'') { nx := fun _ _ => False, rt := fun _ _ => False, bk := fun _ _ => False, ct := fun _ _ => False } σ H := by
    refine ws_of (L2H.ps_try_onlyX (c := c) (tb := fun W' D σ H => ∀ pn xe, L2N.Takes (X.tr pn xe) W' → PassesOwn (model X.prog X.w) X.A X.env xe → WB (X.tr pn xe) [.Assign [.Name y py] call pos] D σ H)
      (ts := fun a cls d D σ H => ∀ oe pn, L2.Takes (L2H.suiteX X a ((a, oe) :: pn)) W → L2H.HotC (L2H.suiteX X a ((a, oe) :: pn)) → WB (L2H.suiteX X a ((a, oe) :: pn)) [.Raise (some (.Call (.Name n2 p') [.Constant (.str mm) j p2] [] pos1)) none pos2] D σ H) (Wout := W) hs hf hc hpa tk (fun W' pn xe tk1 tk2 hp => ⟨fun pins s σ H D I h => (h pn xe tk1 hp).go pins s I⟩) (fun a oe cls d pn hz hd tk2 hot => ⟨fun pins s σ H D I h => (h oe pn tk2 hot).go pins s I⟩)) ?_
    intro pn xe tk1 hp
    refine wb_of (pss_one (ps_set (X := X.tr pn xe) nd hi hx pe_w (hsw pn xe) hfn)) ?_
    refine hb pn xe hp σ H N r _ tk1 (fun C H' N' hC n' r' => ?_) _
    refine ⟨true, he C hC, fun _ a ha oe pn' tk2 hot => ?_, fun z => nomatch z⟩
    obtain ⟨C2, T2⟩ := T
    refine wb_of (pss_one (L2H.ps_raiseH hot tk2 (L2N.pmk_own PySem.F.excBase_ValueError T2.x T2.g T2.k (raises_own T2.b T2.t) hg hdb))) ?_
    exact q C2 σ H' N' T2.g n' r'
  unfold WS
  intro pins s I
  refine try_else (key.go pins s I) fun f s' h => ?_
  cases f with
  | next => obtain ⟨_, _, _, z⟩ := h; exact z
  | brk => obtain ⟨_, _, _, z⟩ := h; exact z
  | cont => obtain ⟨_, _, _, z⟩ := h; exact z
  | ret u => obtain ⟨_, _, _, _, _, z⟩ := h; exact z
def trR {β : Type} (mb : M β) (n1 n2 : Str) : M β := match mb with
  | .ok r => .ok r
  | .ex n => if n = n1 then .ex n2 else .far
  | .far => .far
@[simp] theorem trR_ok {β : Type} (r : β) (n1 n2 : Str) : trR (M.ok r) n1 n2 = .ok r := id rfl
theorem trR_ex {β : Type} (n1 n2 : Str) : trR (M.ex n1 : M β) n1 n2 = .ex n2 := if_pos rfl
theorem xm_tryR {mb : M β} {eb : β → Dat} {f : β → M γ} {c : Value} {orelse : List Stmt} {np py pos' pos'' p' p2 pos1 pos2 : Pos} {y mm : Str} {jj : Nat} (j : Nat) (hD : ∀ g, (D g).out) (nd : X.N.Nodup)
    (hb : EvM X.nox H0 ρ call eb mb) (te : ∀ r, ExM X H0 (ρ.set j (.im (eb r))) k orelse D (f r))
    (hs : X.stack = X.env :: X.outer) (hff : X.env.frame = some X.env.locals) (hpa : ∀ hd : Option Value, PassesOwnAt (model X.prog X.w) (X.A.mark hd) X.A X.env X.xe) (hc : Names X x c) (he : ∀ C, X.mg n1 = some (.ref C) → PySem.W.exmOne X.K (.ref C) c = some true)
    (hbn : ∀ (pn : List (Addr × Obj)) (xe : Value → Shared → Prop), PassesOwn (model X.prog X.w) X.A X.env xe → EvNM (X.tr pn xe) H0 ρ call eb mb) (T : Exc X.K X.mg n2) (hk : ρ.length = k := by rfl)
    (hj : X.N[j]? = some y := by rfl) (hy : Loc X.env.scope y := by first | exact Or.inl rfl | exact Or.inr rfl)
    (hsw : swapsWith call (some (.Name y py)) pos.line X.env = pure false := by rfl) (hsw2 : ∀ pn xe, swapsWith call (some (.Name y py)) pos.line (X.tr pn xe).env = pure false := by intro _ _; rfl) (hf : X.fn y = true ∨ X.env.scope.names.lookup y = some .local := by first | exact .inl rfl | exact .inr rfl | assumption)
    (hg : Gl X n2 := by rfl) (hdb : (n2 == ("__debug__" : Str)) = false := by decide) :
    ExM X H0 ρ k (.Try [.Assign [.Name y py] call pos] [.ExceptHandler (some (.Name x np)) none [.Raise (some (.Call (.Name n2 p') [.Constant (.str mm) jj p2] [] pos1)) none pos2] pos'] orelse [] pos'' :: rest) D (M.bind (trR mb n1 n2) f) := by
  cases mb with
  | ok r => exact xm_tryE (mb := .ok r) (f := f) j hD nd hb te hj hy hsw hf
  | far => trivial
  | ex n =>
    unfold trR
    simp only
    by_cases e : n = n1
    · subst e
      rw [if_pos rfl]
      exact ex_raises (sx_tryR (i := j) hs hff hpa hc he hbn T nd hj hy hsw2 hf hg hdb) hk
    · rw [if_neg e]
      trivial
/-! ### i + f(..), where f may raise -/
theorem evm_addR {i : Int} {mb : M Int} (ha : Ev X H0 ρ a (.int i)) (hb : EvM X H0 ρ b Dat.int mb) : EvM X H0 ρ (.BinOp a .Add b pos) Dat.int (M.bind mb fun r => .ok (i + r)) := by
  cases mb with
  | ok r => exact ev_add ha hb
  | far => trivial
  | ex n =>
    intro σ H N r W tk kw Q
    exact we_of (pe_op (r := fun x y H Q => ∃ i j, x = .int i ∧ y = .int j ∧ Q (.int (i + j)) H) op_add pe_w pe_w) ((ha σ H N r).imp fun v H1 ⟨N1, s1, n1, r1, a1⟩ => hb σ H1 N1 r1 W tk (fun C H' N' hC n2 r2 => kw C H' N' hC (n1.trans n2) r2) _)
/-! ### try: y = f(..) except x: suite -/
theorem sx_tryO {o : Outc} {m : Str} {c : Value} {body suite : List Stmt} {b₀ : Stmt} {np pos pos' : Pos} {ρ1 : Env'} (hs : X.stack = X.env :: X.outer) (hf : X.env.frame = some X.env.locals) (hc : Names X x c) (he : ∀ C, X.mg m = some (.ref C) → PySem.W.exmOne X.K (.ref C) c = some true)
    (hb : ∀ (pn : List (Addr × Obj)) (xe : Value → Shared → Prop), PassesOwn (model X.prog X.w) X.A X.env xe → Exec (X.tr pn xe) H0 ρ body (.ex m ρ1))
    (hsu : ∀ (a : Addr) (oe : Obj) (pn : List (Addr × Obj)), Exec (X.suite a ((a, oe) :: pn)) H0 ρ1 (b₀ :: suite) o)
    (ho : o.noex) : ExS X H0 ρ (.Try body [.ExceptHandler (some (.Name x np)) none (b₀ :: suite) pos'] [] [] pos) o := fun D σ H N r k => by
  refine ws_of (ps_try_only (c := c) (tb := fun W D σ H => ∀ pn xe, Takes (X.tr pn xe) W → PassesOwn (model X.prog X.w) X.A X.env xe → WB (X.tr pn xe) body D σ H)
    (ts := fun a cls d D σ H => ∀ oe pn, WB (X.suite a ((a, oe) :: pn)) (b₀ :: suite) D σ H) (Wout := fun _ _ _ _ => False) hs hf hc takes0 (fun W pn xe tk hp => ⟨fun pins s σ H D I h => (h pn xe tk hp).go pins s I⟩) (fun a oe cls d pn hz hd => ⟨fun pins s σ H D I h => (h oe pn).go pins s I⟩)) ?_
  intro pn xe tk hp
  refine hb pn xe hp _ σ H N r ⟨_, tk, fun C σ1 H1 N1 hC n1 r1 => ⟨true, he C hC, fun _ a ha oe pn' => ?_, fun z => nomatch z⟩⟩
  refine hsu a oe pn' _ σ1 H1 N1 r1 ?_
  cases o with
  | nx ρ2 => exact fun σ2 H2 N2 n2 r2 => k σ2 H2 N2 (n1.trans n2) r2
  | rt d => exact fun v H a b r => k v H a (n1.trans b) r
  | ex n ρ2 => exact ho.elim
  | bk ρ2 => exact fun σ2 H2 N2 n2 r2 => k σ2 H2 N2 (n1.trans n2) r2
  | ct ρ2 => exact fun σ2 H2 N2 n2 r2 => k σ2 H2 N2 (n1.trans n2) r2
  | ro d => exact fun p H' N2 a b r => k p H' N2 a (n1.trans b) r
theorem sx_tryON {o : Outc} {c : Value} {body suite : List Stmt} {b₀ : Stmt} {np pos pos' : Pos} (hs : X.stack = X.env :: X.outer) (hf : X.env.frame = some X.env.locals) (hc : Names X x c)
    (hb : ∀ (pn : List (Addr × Obj)) (xe : Value → Shared → Prop), PassesOwn (model X.prog X.w) X.A X.env xe → Exec (X.tr pn xe) H0 ρ body o) (ho : o.noex) :
    ExS X H0 ρ (.Try body [.ExceptHandler (some (.Name x np)) none (b₀ :: suite) pos'] [] [] pos) o := fun D σ H N r k => by
  refine ws_of (ps_try_only (c := c) (tb := fun W D σ H => ∀ pn xe, Takes (X.tr pn xe) W → PassesOwn (model X.prog X.w) X.A X.env xe → WB (X.tr pn xe) body D σ H)
    (ts := fun a cls d D σ H => ∀ oe pn, WB (X.suite a ((a, oe) :: pn)) (b₀ :: suite) D σ H) (Wout := fun _ _ _ _ => False) hs hf hc takes0 (fun W pn xe tk hp => ⟨fun pins s σ H D I h => (h pn xe tk hp).go pins s I⟩) (fun a oe cls d pn hz hd => ⟨fun pins s σ H D I h => (h oe pn).go pins s I⟩)) ?_
  intro pn xe tk hp
  refine hb pn xe hp D σ H N r ?_
  cases o with
  | ex n ρ2 => exact ho.elim
  | nx ρ2 => exact k
  | rt d => exact k
  | bk ρ2 => exact k
  | ct ρ2 => exact k
  | ro d => exact k
theorem xm_tryB {mb : M β} {eb : β → Dat} {g : β → S} {hs : List (Str × M S)} {eS : S → Env'} {f : S → M γ} {c : Value} {suite : List Stmt} {b₀ : Stmt} {np py pos pos' pos'' : Pos} {y : Str} (j : Nat) (is : List Nat)
    (hst : X.stack = X.env :: X.outer) (hfr : X.env.frame = some X.env.locals) (nd : X.N.Nodup) (hc : Names X x c)
    (hb : ∀ (pn : List (Addr × Obj)) (xe : Value → Shared → Prop), PassesOwn (model X.prog X.w) X.A X.env xe → EvM (X.tr pn xe) H0 ρ call eb mb)
    (hok : ∀ r, eS (g r) = drops (ρ.set j (.im (eb r))) is)
    (hh : AllH (fun n h => (∀ C, X.mg n = some (.ref C) → PySem.W.exmOne X.K (.ref C) c = some true) ∧ ∀ (a : Addr) (oe : Obj) (pn : List (Addr × Obj)), ExM (X.suite a ((a, oe) :: pn)) H0 ρ k (b₀ :: suite) (fun s => .nx (eS s)) h) hs)
    (tt : ∀ s, ExM X H0 (eS s) k rest D (f s))
    (hj : X.N[j]? = some y := by rfl) (hy : Loc X.env.scope y := by first | exact Or.inl rfl | exact Or.inr rfl)
    (hsw : ∀ pn xe, swapsWith call (some (.Name y py)) pos.line (X.tr pn xe).env = pure false := by intro _ _; rfl) (hf : X.fn y = true ∨ X.env.scope.names.lookup y = some .local := by first | exact .inl rfl | exact .inr rfl | assumption) :
    ExM X H0 ρ k (.Try [.Assign [.Name y py] call pos] [.ExceptHandler (some (.Name x np)) none (b₀ :: suite) pos'] [] [] pos'' :: rest) D (M.bind (tryA mb g hs) f) := by
  cases mb with
  | ok r =>
    have h1 : ExS X H0 ρ (.Try [.Assign [.Name y py] call pos] [.ExceptHandler (some (.Name x np)) none (b₀ :: suite) pos'] [] [] pos'') (.nx (eS (g r))) :=
      sx_tryON hst hfr hc (fun pn xe hp => ex_then (sx_set (X := X.tr pn xe) j (hb pn xe hp) nd rfl hj hy (hsw pn xe) hf) (hok r ▸ ex_drops is ex_nil)) trivial
    exact xm_then h1 (tt (g r))
  | ex n' =>
    show ExM X H0 ρ k _ D (M.bind (lookM n' hs) f)
    induction hs with
    | nil => trivial
    | cons q r ih =>
      obtain ⟨⟨he, h1⟩, h2⟩ := hh
      unfold lookM
      by_cases e : n' = q.1
      · rw [if_pos e]
        subst e
        cases eh : q.2 with
        | ok s =>
          have h3 : ExS X H0 ρ (.Try [.Assign [.Name y py] call pos] [.ExceptHandler (some (.Name x np)) none (b₀ :: suite) pos'] [] [] pos'') (.nx (eS s)) :=
            sx_tryO (m := q.1) (ρ1 := ρ) hst hfr hc he (fun pn xe hp => ex_one (sx_setX (X := X.tr pn xe) (hb pn xe hp) nd hj hy (hsw pn xe) hf)) (fun a oe pn => by
              have := h1 a oe pn
              rw [eh] at this
              exact this) trivial
          exact xm_then h3 (tt s)
        | ex _ => trivial
        | far => trivial
      · rw [if_neg e]
        exact ih h2
  | far => trivial
end
end B

namespace B
open PySem PySem.Spec PyProof.Rows L2
/-! ### trees: None, or a tuple of trees -/
inductive Tr where
  | leaf
  | node (l : List Tr)
mutual
def trd : Tr → Dat
  | .leaf => .non
  | .node l => .tup (trds l)
def trds : List Tr → List Dat
  | [] => []
  | t :: r => trd t :: trds r
end
theorem trds_map : ∀ l : List Tr, trds l = l.map trd
  | [] => rfl
  | t :: r => by rw [trds, trds_map r]; rfl
theorem trd_node (l : List Tr) : trd (.node l) = tpnd trd l := by rw [trd, trds_map]
mutual
theorem flat_trd : ∀ t : Tr, flat (trd t) = true
  | .leaf => rfl
  | .node l => by rw [trd, flat]; exact flat_trds l
theorem flat_trds : ∀ l : List Tr, flats (trds l) = true
  | [] => rfl
  | t :: r => by rw [trds, flats, flat_trd t, flat_trds r]; rfl
end
def kid : Tr → Option (List Tr)
  | .leaf => none
  | .node l => some l
theorem kid_ok : ∀ {t : Tr} {l : List Tr}, kid t = some l → t = .node l
  | .node _, _, h => by cases h; rfl
def isLf : Tr → Bool
  | .leaf => true
  | .node _ => false
theorem isNon_trd : ∀ t : Tr, isNon (trd t) = isLf t
  | .leaf => rfl
  | .node l => by rw [trd]; rfl
theorem isTup_trd : ∀ t : Tr, isTup (trd t) = !isLf t
  | .leaf => rfl
  | .node l => by rw [trd]; rfl
theorem eqv_emp {α : Type} (e : α → Dat) (l : List α) : PyData.eqv (pd (lstd e l)) (pd (.lst [])) = l.isEmpty := by cases l <;> rfl
/-- how deep a tree is -/
inductive Dp : Nat → Tr → Prop where
  | leaf {n : Nat} : Dp n .leaf
  | node {n : Nat} {l : List Tr} : (∀ t ∈ l, Dp n t) → Dp (n + 1) (.node l)
theorem okn_dp : ∀ {n : Nat} {t : Tr}, Dp n t → ∀ {m : Nat}, n ≤ m → okn m (trd t) = true
  | _, _, .leaf, m, _ => by cases m <;> rfl
  | n + 1, .node l, .node h, m, hm => by
    obtain ⟨q, rfl⟩ : ∃ q, m = q + 1 := ⟨m - 1, by omega⟩
    rw [trd_node]
    show (l.map trd).all (okn q) = true
    rw [List.all_map]
    exact List.all_eq_true.mpr fun x hx => okn_dp (h x hx) (by omega)
section
variable {X : Cx} {H0 : Hp} {ρ ρ1 : Env'} {α β γ : Type} {a b c e : Expr} {rest : List Stmt} {d : Dat} {ds : List Dat} {p pos apos : Pos} {k : Nat} {D : γ → Outc}
theorem ev_trl (h : Ev X H0 ρ e .non) : Ev X H0 ρ e (trd .leaf) := h
theorem ev_trn {l : List Tr} (h : Ev X H0 ρ e (tpnd trd l)) : Ev X H0 ρ e (trd (.node l)) := by rw [trd_node]; exact h
theorem ev_trk {t : Tr} {l : List Tr} (h : Ev X H0 ρ e (trd t)) (q : kid t = some l) : Ev X H0 ρ e (tpnd trd l) := by rw [← trd_node, ← kid_ok q]; exact h
/-! ### zip of two tuples -/
theorem it_zipT {ea : α → Dat} {eb : β → Dat} {l1 : List α} {l2 : List β} {elts : List Expr} {kk : Nat} {tpos : Pos} (ha : Ev X H0 ρ a (tpnd ea l1)) (hb : Ev X H0 ρ b (tpnd eb l2)) (hm : X.mg "zip" = none) (hg : Gl X "zip" := by rfl) (hs : starEach [a, b] X.env = (false, eval a X.env) :: starEach [b] X.env := by rfl) (hs2 : starEach [b] X.env = [(false, eval b X.env)] := by rfl) (hpl : (backTo pos (starEach [b] X.env)).any (·.1) = false := by rfl) :
    Iter X H0 ρ (.Tuple elts kk tpos) (.Call (.Name "zip" p) [a, b] [] pos) ((l1.zip l2).map (tup2 ea eb)) := ⟨_, RZ.pi_zipA hg hm pa_w hs hpl, fun σ H N r R k => (ea_cons ha (ea_cons hb ea_nil (hs := hs2)) (hs := hs) σ H N r).imp fun vs H' ⟨N', s, n, r', q⟩ => by
  cases q with
  | cons a1 t =>
    cases t with
    | cons a2 t2 =>
      cases t2
      obtain ⟨p1, v1, rfl, q1, q2⟩ := at_seq a1
      obtain ⟨p2, v2, rfl, q3, q4⟩ := at_seq a2
      refine ⟨p1, p2, v1, v2, rfl, .inr ⟨sqt_same r'.sub q1, sqt_same r'.sub q3, k _ H' N' n s r' fun H02 ρ2 σ2 H2 N2 i s02 s2 r2 => ?_⟩⟩
      have g1 := sqt_same r2.sub (sqt_same s2 q1)
      have g3 := sqt_same r2.sub (sqt_same s2 q3)
      have l1l : v1.length = l1.length := by rw [q2.length, List.length_map]
      have l2l : v2.length = l2.length := by rw [q4.length, List.length_map]
      refine ⟨fun hi => ?_, fun hi => ?_⟩
      · rw [List.length_map, List.length_zip] at hi
        have i1 : i < l1.length := by omega
        have i2 : i < l2.length := by omega
        obtain ⟨x1, x2, x3⟩ := (q2.mono s2).get (i := i) (d := ea l1[i]) (by rw [List.getElem?_map, List.getElem?_eq_getElem i1]; rfl)
        obtain ⟨y1, y2, y3⟩ := (q4.mono s2).get (i := i) (d := eb l2[i]) (by rw [List.getElem?_map, List.getElem?_eq_getElem i2]; rfl)
        refine ⟨⟨v1, v2, x1, y1, g1, g3, x2, y2⟩, fun x H3 y => ?_⟩
        obtain ⟨T, x, z, rfl, hT, rfl, f1, f2⟩ := y
        have e1 := f1 _ g1
        rw [x2] at e1
        cases e1
        have e2 := f2 _ g3
        rw [y2] at e2
        cases e2
        obtain ⟨r3, n3⟩ := r2.new (o := .tup [x1, y1]) hT
        refine ⟨_, tup2 ea eb (l1[i], l2[i]), n3, Same.of_none hT, r3, ?_, .tup (.inl (.inl upd_same)) (.cons (x3.mono n3) (.cons (y3.mono n3) .nil))⟩
        rw [List.getElem?_map]
        have hz : (l1.zip l2)[i]? = some (l1[i], l2[i]) := by
          rw [List.getElem?_zip_eq_some]
          exact ⟨List.getElem?_eq_getElem i1, List.getElem?_eq_getElem i2⟩
        rw [hz]
        rfl
      · rw [List.length_map, List.length_zip] at hi
        exact ⟨v1, v2, g1, g3, by omega⟩⟩
/-! ### x, y = l.pop() -/
theorem Ats.dropLast {K : PySem.W.Frag} {H : Hp} {vs : List V} (h : Ats K H vs ds) : Ats K H vs.dropLast ds.dropLast := by
  rw [List.dropLast_eq_take, List.dropLast_eq_take, h.length]
  exact h.take _
theorem sx_popT {t : Expr} {ok : Dat → Prop} {bd : Dat → Env' → Env'} (i : Nat) {y : Str} {p1 p2 p3 : Pos} (hi : ρ[i]? = some (.ow (.lst ds))) (hl : ds[ds.length - 1]? = some d) (hg : Tgt X H0 t ok bd) (hk : ok d) (hρ : bd d (ρ.set i (.ow (.lst ds.dropLast))) = ρ1) (hN : X.N[i]? = some y := by rfl) (hv : Vis X.env.scope y := by first | exact Or.inl rfl | exact Or.inr (Or.inl rfl) | exact Or.inr (Or.inr rfl))
    (hd : (y == ("__debug__" : Str)) = false := by decide) (hcd : (y == ("__classdict__" : Str)) = false := by decide)
    (hpe : ∀ to, PE X (.Name y p1) to → PE X (.Call (.Attribute (.Name y p1) "pop" p2) [] [] p3) (tBM0 X.K "list" rPop to) := by exact fun _ h => pe_bm0 PySem.F.plainAttrs_list PySem.F.slot_list_pop PySem.F.type_list_pop mt_pop h)
    (hs : swapsWithSole [t] (.Call (.Attribute (.Name y p1) "pop" p2) [] [] p3) pos.line X.env = pure false := by rfl) (hw : swappedStores [t] (.Call (.Attribute (.Name y p1) "pop" p2) [] [] p3) X.env = pure none := by rfl)
    (h1 : (assignEach [t] X.env).map (·.2) = [assign t X.env] := by rfl) : ExS X H0 ρ (.Assign [t] (.Call (.Attribute (.Name y p1) "pop" p2) [] [] p3) pos) (.nx ρ1) := fun D σ H N r q => by
  obtain ⟨g, pg, gg⟩ := hg.pg
  obtain ⟨q0, g1, g2, g3, vs, g4, g5⟩ := r.ow i _ hi
  obtain ⟨v, w1, w2⟩ := g5.get hl
  refine ws_of (ps_asg (hpe _ (pv i hN hv hd hcd)) pg hs hw h1) ⟨_, g1, .inl ⟨rfl, _, .inl (.inl g4)⟩, q0, vs, v, rfl, rfl, g4, by rw [g5.length]; exact w1, ?_⟩
  have r2 := r.write hi g1 (o := .lst vs.dropLast) (d' := .lst ds.dropLast) ⟨_, upd_same, g5.dropLast⟩
  exact gg _ σ _ N v d r2 w2 hk _ fun σ2 H2 N2 n2 r3 => q σ2 H2 N2 n2 (hρ ▸ r3)
theorem xm_popT {en : β → Dat} {l : List β} {v : β} {f : List β × β → M γ} {t : Expr} {ok : Dat → Prop} {bd : Dat → Env' → Env'} (i : Nat) {y : Str} {p1 p2 p3 : Pos} (hi : ρ[i]? = some (.ow (lstd en l))) (hl : l.getLast? = some v) (hg : Tgt X H0 t ok bd) (hok : ∀ r, ok (en r)) (tt : ∀ q : List β × β, ExM X H0 (bd (en q.2) (ρ.set i (.ow (lstd en q.1)))) k rest D (f q)) (hN : X.N[i]? = some y := by rfl) (hv : Vis X.env.scope y := by first | exact Or.inl rfl | exact Or.inr (Or.inl rfl) | exact Or.inr (Or.inr rfl))
    (hd : (y == ("__debug__" : Str)) = false := by decide) (hcd : (y == ("__classdict__" : Str)) = false := by decide)
    (hpe : ∀ to, PE X (.Name y p1) to → PE X (.Call (.Attribute (.Name y p1) "pop" p2) [] [] p3) (tBM0 X.K "list" rPop to) := by exact fun _ h => pe_bm0 PySem.F.plainAttrs_list PySem.F.slot_list_pop PySem.F.type_list_pop mt_pop h)
    (hs : swapsWithSole [t] (.Call (.Attribute (.Name y p1) "pop" p2) [] [] p3) pos.line X.env = pure false := by rfl) (hw : swappedStores [t] (.Call (.Attribute (.Name y p1) "pop" p2) [] [] p3) X.env = pure none := by rfl)
    (h1 : (assignEach [t] X.env).map (·.2) = [assign t X.env] := by rfl) : ExM X H0 ρ k (.Assign [t] (.Call (.Attribute (.Name y p1) "pop" p2) [] [] p3) pos :: rest) D (M.lt (l.dropLast, v) f) := by
  have h := tt (l.dropLast, v)
  refine xm_then (sx_popT i hi (d := en v) ?_ hg (hok v) ?_ hN hv hd hcd hpe hs hw h1) h
  · rw [List.length_map, List.getElem?_map]
    rw [List.getLast?_eq_getElem?] at hl
    rw [hl]
    rfl
  · show bd (en v) (ρ.set i (.ow (.lst (l.map en).dropLast))) = _
    rw [← List.map_dropLast]
/-! ### {k: v} -/
theorem eo_dic1 {en : α → Dat} {key : List Nat} {v : α} {ke ve : Expr} (hn : noOl ρ) (hk : ∀ H0', Ev X H0' ρ ke (tx key)) (hv : ∀ H0', Ev X H0' ρ ve (en v)) : EvO X H0 ρ (.Dict [some ke] [ve] pos) (dicd en [(key, v)]) := fun σ H N r => we_of (pe_disp (pps_cons pe_w pe_w pps_nil) rfl rfl (fun z => nomatch z) (by show 1 ≤ 15; decide)) (fun p hp => by
  have np : N p = none := r.sub.free hp
  have hp0 : H0 p = none := r.old.free hp
  have r1 := r.upd0 hn (a := p) (o := .dK []) True.intro np (fun j d' e => no_own r hp j d' e)
  show WE X ke σ (upd H p (.dK [])) fun k H1 => WE X ve σ H1 fun v H2 => _
  refine (hk _ σ _ N r1).imp fun x H1 ⟨N1, s1, n1, r2, a1⟩ => (hv _ σ H1 N1 r2).imp fun y H2 ⟨N2, s2, n2, r3, a2⟩ => ?_
  have hx := at_str a1
  subst hx
  have h2 : H2 p = some (.dK []) := r3.old p _ upd_same
  refine ⟨h2, [((Sum.inr (SX.S key) : Key), y)], rfl, by show 1 ≤ 15; decide, ?_⟩
  have np2 := n_of r3 (a := p) upd_same True.intro
  have r4 := r3.upd0 hn (a := p) (o := .dK (mergeK [] [((Sum.inr (SX.S key) : Key), y)])) True.intro np2 (own_ne r3 upd_same)
  have e1 : upd (upd H0 p (.dK [])) p (.dK (mergeK [] [((Sum.inr (SX.S key) : Key), y)])) = Un H0 (upd (fun _ => none) p (.dK (mergeK [] [((Sum.inr (SX.S key) : Key), y)]))) := by
    rw [un_upd]
    funext b
    by_cases q : b = p
    · subst q; rw [upd_same, upd_same]
    · rw [upd_ne q, upd_ne q, upd_ne q]; rfl
  rw [e1] at r4
  have r5 := r4.low2 (fun a u z => by
    by_cases q : a = p
    · rw [q]; exact hp0
    · rw [upd_ne q] at z; cases z) hn
  refine ⟨N2, p, rfl, hp, fun b u z => ?_, n1.trans n2, r5, np2, [((Sum.inr (SX.S key) : Key), y)], upd_same, .cons a2 .nil⟩
  have q : b ≠ p := ne_of_none z hp
  rw [upd_ne q]
  exact s2 b u (s1 b u (by rw [upd_ne q]; exact z)))
end
end B

namespace B
open PySem PySem.Spec PyProof.Rows L2
/-! ### a def that hands out flat data may keep what it is handed: all its parameters are data that nobody changes -/
inductive EntsI : List Ent → List Dat → Prop where
  | nil : EntsI [] []
  | im {d : Dat} {es : List Ent} {ds : List Dat} : EntsI es ds → EntsI (.im d :: es) (d :: ds)
theorem EntsI.get {K : PySem.W.Frag} {H : Hp} : ∀ {es : List Ent} {ds : List Dat} {vs : List V}, EntsI es ds → Ats K H vs ds → ∀ i : Nat, (es[i]? = none ∧ vs[i]? = none) ∨ ∃ v d, vs[i]? = some v ∧ es[i]? = some (Ent.im d) ∧ At K H v d
  | _, _, _, .nil, .nil, i => .inl ⟨by simp, by simp⟩
  | _, _, _, .im _, .cons a _, 0 => .inr ⟨_, _, rfl, rfl, a⟩
  | _, _, _, .im t, .cons _ b, i + 1 => by simpa using EntsI.get t b i
theorem EntsI.length : ∀ {es : List Ent} {ds : List Dat}, EntsI es ds → es.length = ds.length
  | _, _, .nil => rfl
  | _, _, .im t => congrArg (· + 1) (EntsI.length t)
theorem rep_startI {K : PySem.W.Frag} {H : Hp} {es : List Ent} {ds : List Dat} {vs : List V} {N : List Str} (e : EntsI es ds) (a : Ats K H vs ds) : Rep K (fun _ => none) (es ++ List.replicate (N.length - vs.length) .no) (L2.start N vs) H H := by
  have hl : es.length = vs.length := by rw [e.length, a.length]
  have geE : ∀ (i : Nat) x, (es ++ List.replicate (N.length - vs.length) Ent.no)[i]? = some x → x ≠ .no → es[i]? = some x := fun i x h n => by
    by_cases hi : i < es.length
    · rw [List.getElem?_append_left hi] at h; exact h
    · rw [List.getElem?_append_right (by omega), List.getElem?_replicate] at h
      split at h
      · cases h; exact (n rfl).elim
      · cases h
  have geV : ∀ (i : Nat) v, vs[i]? = some v → (L2.start N vs)[i]? = some (some v) := fun i v h => by
    unfold L2.start
    rw [List.getElem?_append_left (by rw [List.length_map]; exact (List.getElem?_eq_some_iff.mp h).1), List.getElem?_map, h]
    rfl
  refine ⟨fun b u h => (nomatch h), Same.refl _, fun b u h => ?_, fun b u h m => rfl, ?_, fun i d h => ?_, fun i d h => ?_, fun i d h => ?_, fun i d h => ?_, fun i j d d' p ne h => ?_⟩
  · have := imm_sub _ _ _ h
    cases this
  · unfold L2.start
    simp [hl]
  · have h1 := geE i _ h (fun z => nomatch z)
    rcases e.get a i with ⟨h2, _⟩ | ⟨v, d', hv, h2, q⟩
    · rw [h1] at h2; cases h2
    · rw [h1] at h2; cases h2; exact ⟨v, geV i v hv, q⟩
  · have h1 := geE i _ h (fun z => nomatch z)
    rcases e.get a i with ⟨h2, _⟩ | ⟨v, d', hv, h2, q⟩ <;> (rw [h1] at h2; cases h2)
  · have h1 := geE i _ h (fun z => nomatch z)
    rcases e.get a i with ⟨h2, _⟩ | ⟨v, d', hv, h2, q⟩ <;> (rw [h1] at h2; cases h2)
  · have h1 := geE i _ h (fun z => nomatch z)
    rcases e.get a i with ⟨h2, _⟩ | ⟨v, d', hv, h2, q⟩ <;> (rw [h1] at h2; cases h2)
  · have h1 := geE i _ h (fun z => nomatch z)
    rcases e.get a i with ⟨h2, _⟩ | ⟨v, d', hv, h2, q⟩ <;> (rw [h1] at h2; cases h2)
def Res.fl : Res → Prop
  | .val d => flat d = true
  | .exc _ => True
  | .own _ => False
theorem ret_flat {K : PySem.W.Frag} {H0 H : Hp} {v : V} {d : Dat} (f : flat d = true) (h : Ret K H0 v d H) (H1 : Hp) : Ret K H1 v d H := by
  obtain ⟨N, n1, _, n3⟩ := h
  exact ⟨Imm N, (imm_sub N).trans n1, fun a o e m => (imm_not e m).elim, n3.imm f⟩
section
variable {P : Program} {w : World} {K : PySem.W.Frag} {mg : Str → Option Value} {base : Heap} {x : Str} {st : Stmt} {ps N : List Str} {k : Nat} {R : List Dat → Res → Prop} {f : Addr} {fd : FuncData}
theorem fn_mk2I (F : Fun K x x st f fd) (S : FnScope N ps (defScope st)) (hl : ∀ ds o, R ds o → ds.length = ps.length) (hv : ∀ ds o, R ds o → o.fl)
    (body : ∀ (f : Addr) (cdv : Value) (A : Around) (outer : List PySem.Env) (s : Shared) (H : Hp) (E : XK), Room k (XX P w K mg base N x st f cdv A outer s H E).A → ∀ ds o, R ds o → ∃ es, EntsI es ds ∧ ∀ H0, Ends' (XX P w K mg base N x st f cdv A outer s H E) H0 (es ++ List.replicate (N.length - ps.length) .no) (defBody st) o) : FnOk P w K mg base (L2.CX P w) (k + 1) f fd ps (spR K mg R) := by
  refine F.okX S (fun vs H Q E ⟨ds, o, hr, a, _⟩ => by rw [a.length]; exact hl ds o hr) fun cdv A outer s H vs Q E hr hsp => ?_
  obtain ⟨ds, o, hR, a, q⟩ := hsp
  obtain ⟨es, he, hbody⟩ := body f cdv A outer s H E hr ds o hR
  have hlen : vs.length = ps.length := by rw [a.length]; exact hl ds o hR
  have r : Rep K (fun _ => none) (es ++ List.replicate (N.length - ps.length) .no) (L2.start N vs) H H := hlen ▸ rep_startI he a
  have hb := hbody (fun _ => none)
  have hf := hv ds o hR
  refine ⟨_, pb_w, ?_⟩
  cases hb with
  | ret h => exact h { nx := fun _ H' => Q .non H', rt := Q } _ _ _ r fun v H' _ sn rt => q v H' sn (ret_flat hf rt H)
  | non h => exact h { nx := fun _ H' => Q .non H', rt := Q } _ _ _ r fun σ H' N' s r' => q .non H' (s.trans r'.sub) (ret_flat rfl ⟨N', r'.sub, fun a o e m => r'.fresh a o e m, .non⟩ H)
  | own h => exact hf.elim
  | exc h => exact h { nx := fun _ H' => Q .non H', rt := Q } _ _ _ r ⟨_, takes_of rfl rfl rfl rfl, fun C σ H' N' hm s r' => q C H' hm (s.trans r'.sub)⟩
theorem GFn.mk2I (D : Df K mg x st ps) (S : FnScope N ps (defScope st)) (hl : ∀ ds o, R ds o → ds.length = ps.length) (hv : ∀ ds o, R ds o → o.fl)
    (body : ∀ (f : Addr) (cdv : Value) (A : Around) (outer : List PySem.Env) (s : Shared) (H : Hp) (E : XK), Room k (XX P w K mg base N x st f cdv A outer s H E).A → ∀ ds o, R ds o → ∃ es, EntsI es ds ∧ ∀ H0, Ends' (XX P w K mg base N x st f cdv A outer s H E) H0 (es ++ List.replicate (N.length - ps.length) .no) (defBody st) o) : GFn P w K mg base x (k + 1) R := by
  obtain ⟨f, fd, F, hm, hb⟩ := D
  exact ⟨f, fd, ps, fn_mk2I F S hl hv body, hm, F.kp, hb⟩
theorem rm_flat {α : Type} {en : α → Dat} (h : ∀ a, flat (en a) = true) {m : M α} {o : Res} (q : Rm en m o) : o.fl := by
  cases m with
  | ok v => cases (show o = _ from q); exact h v
  | ex n => cases (show o = _ from q); trivial
  | far => exact (show False from q).elim
end
mutual
theorem inj_tre : ∀ a b : Tr, trd a = trd b → a = b
  | .leaf, .leaf, _ => rfl
  | .leaf, .node l, h => by rw [trd, trd] at h; cases h
  | .node l, .leaf, h => by rw [trd, trd] at h; cases h
  | .node l, .node m, h => by
    rw [trd, trd] at h
    rw [inj_tres l m (Dat.tup.inj h)]
theorem inj_tres : ∀ a b : List Tr, trds a = trds b → a = b
  | [], [], _ => rfl
  | [], _ :: _, h => by rw [trds, trds] at h; cases h
  | _ :: _, [], h => by rw [trds, trds] at h; cases h
  | x :: a, y :: b, h => by
    rw [trds, trds] at h
    obtain ⟨h1, h2⟩ := List.cons.inj h
    rw [inj_tre x y h1, inj_tres a b h2]
end
end B

namespace B
open PySem PySem.Spec PyProof.Rows L2
/-! ### a nested thing of one's own, at the slot i: its cells are Hs, its worth is t -/
structure Zp (K : PySem.W.Frag) (τ : Type) where
  Z : τ → Hp → Hp → Addr → Prop
  en : τ → Dat
  mono : ∀ {t : τ} {N N' Hs : Hp} {p : Addr}, Same N N' → Z t N Hs p → Z t N' Hs p
  mu : ∀ {t : τ} {N Hs : Hp} {p a : Addr} {u : HO}, Z t N Hs p → Hs a = some u → Mut (some u)
  at_ : ∀ {t : τ} {N Hs G : Hp} {p : Addr}, Z t N Hs p → Same N G → Same Hs G → At K G (.ref p) (en t)
inductive OcZ (τ : Type) where
  | nx (ρ : Env') (t : τ)
  | ex (n : Str) (ρ : Env')
  | rt (d : Dat)
  | bk (ρ : Env') (t : τ)
  | ct (ρ : Env') (t : τ)
  | ro (d : Dat)
  /-- the thing is handed back -/
  | rz (d : Dat) (t : τ)
section
variable {τ : Type} {X : Cx} (z : Zp X.K τ) (H0 : Hp) (i : Nat)
def StZ (ρ : Env') (t : τ) (σ : L2.St) (H N : Hp) : Prop := ∃ p Hs, z.Z t N Hs p ∧ (∀ a u, Hs a = some u → H0 a = none) ∧ Rep X.K (Un H0 Hs) (ρ.set i (.rf p)) σ H N
/-- the thing stands, whatever the names hold -/
def BkZ (t : τ) (H N : Hp) : Prop := ∃ p Hs, z.Z t N Hs p ∧ (∀ a u, Hs a = some u → H0 a = none) ∧ Same (Un H0 Hs) H ∧ Same N H
def ContZ (N : Hp) (D : Ends) : OcZ τ → Prop
  | .nx ρ t => ∀ σ H N', Same N N' → StZ z H0 i ρ t σ H N' → D.nx σ H
  | .ex n ρ => ∃ W, Takes X W ∧ ∀ C σ H N', X.mg n = some (.ref C) → Same N N' → Rep X.K H0 ρ σ H N' → W (.ref C) none σ H
  | .rt d => ∀ v H, Same H0 H → Same N H → Ret X.K H0 v d H → D.rt v H
  | .bk ρ t => ∀ σ H N', Same N N' → StZ z H0 i ρ t σ H N' → D.bk σ H
  | .ct ρ t => ∀ σ H N', Same N N' → StZ z H0 i ρ t σ H N' → D.ct σ H
  | .ro d => ∀ p H' N', Same H0 H' → Same N H' → Same N' H' → (∀ a u, N' a = some u → Mut (some u) → H0 a = none) → H0 p = none → N' p = none → Own X.K H' N' p d → D.rt (.ref p) H'
  | .rz d t => ∀ v H N', Same N N' → BkZ z H0 t H N' → At X.K N' v d → D.rt v H
def ExecZ (ρ : Env') (t : τ) (sts : List Stmt) (o : OcZ τ) : Prop := ∀ D σ H N, StZ z H0 i ρ t σ H N → ContZ z H0 i N D o → WB X sts D σ H
def ExSZ (ρ : Env') (t : τ) (st : Stmt) (o : OcZ τ) : Prop := ∀ D σ H N, StZ z H0 i ρ t σ H N → ContZ z H0 i N D o → WS X st D σ H
def ExMZ {γ : Type} (ρ : Env') (t : τ) (k : Nat) (sts : List Stmt) (D : γ → OcZ τ) (m : M γ) : Prop := match m with
  | .ok v => ExecZ z H0 i ρ t sts (D v)
  | .ex n => ExecZ z H0 i ρ t sts (.ex n (List.replicate k .no))
  | .far => True
def EtZ (ρ : Env') (t : τ) (c : Expr) (b : Bool) : Prop := ∀ σ H N, StZ z H0 i ρ t σ H N → WT X c σ H fun v H' => v = b ∧ Same H H' ∧ StZ z H0 i ρ t σ H' N
end
section
variable {τ α β γ S R : Type} {X : Cx} {z : Zp X.K τ} {H0 : Hp} {i k : Nat} {Φ : Hp → Prop} {ρ ρ1 : Env'} {t t1 : τ} {st : Stmt} {sts rest body as bs : List Stmt} {b c e : Expr} {p1 pos : Pos} {o : OcZ τ} {D : γ → OcZ τ}
theorem ContZ.mono {N N' : Hp} {DD : Ends} (c : ContZ z H0 i N DD o) (s : Same N N') : ContZ z H0 i N' DD o := by
  cases o with
  | nx ρ T => exact fun σ H N2 s2 r => c σ H N2 (s.trans s2) r
  | ex n ρ =>
    obtain ⟨W, t, k⟩ := c
    exact ⟨W, t, fun C σ H N2 m s2 r => k C σ H N2 m (s.trans s2) r⟩
  | rt d => exact fun v H a b r => c v H a (s.trans b) r
  | bk ρ T => exact fun σ H N2 s2 r => c σ H N2 (s.trans s2) r
  | ct ρ T => exact fun σ H N2 s2 r => c σ H N2 (s.trans s2) r
  | ro d => exact fun p H' N2 a b => c p H' N2 a (s.trans b)
  | rz d T => exact fun v H N2 s2 r => c v H N2 (s.trans s2) r
theorem ez_nil : ExecZ z H0 i ρ t [] (.nx ρ t) := fun D σ H N r k => wb_of pss_nil (k σ H N (Same.refl _) r)
theorem ez_then (h : ExSZ z H0 i ρ t st (.nx ρ1 t1)) (tt : ExecZ z H0 i ρ1 t1 rest o) : ExecZ z H0 i ρ t (st :: rest) o := fun D σ H N r c => by
  refine wb_of (pss_cons ps_w pb_w) ?_
  show WS X st { D with nx := WB X rest D } σ H
  exact h _ σ H N r fun σ' H' N' s r' => tt D σ' H' N' r' (c.mono s)
theorem ez_ex {n : Str} {ρ' : Env'} (h : ExSZ z H0 i ρ t st (.ex n ρ')) : ExecZ z H0 i ρ t (st :: rest) (.ex n ρ') := fun D σ H N r c => by
  refine wb_of (pss_cons ps_w pb_w) ?_
  show WS X st { D with nx := WB X rest D } σ H
  exact h _ σ H N r c
theorem xz_then {m : M γ} (h : ExSZ z H0 i ρ t st (.nx ρ1 t1)) (tt : ExMZ z H0 i ρ1 t1 k rest D m) : ExMZ z H0 i ρ t k (st :: rest) D m := by
  cases m with
  | ok v => exact ez_then h tt
  | ex n => exact ez_then h tt
  | far => trivial
theorem xz_gd {m : M γ} {g : Bool} (h : g = true → ExMZ z H0 i ρ t k sts D m) : ExMZ z H0 i ρ t k sts D (M.gd g m) := by
  cases g with
  | true => exact h rfl
  | false => trivial
theorem xz_ofO {ob : Option β} {f : β → M γ} (h : ∀ r, ob = some r → ExMZ z H0 i ρ t k sts D (f r)) : ExMZ z H0 i ρ t k sts D (M.bind (M.ofO ob) f) := by
  cases ob with
  | some r => exact h r rfl
  | none => trivial
theorem xz_bind {mb : M β} {f : β → M γ} (h : ∀ r, mb = .ok r → ExMZ z H0 i ρ t k sts D (f r)) : ExMZ z H0 i ρ t k sts D (M.bind (M.nox mb) f) := by
  cases mb with
  | ok r => exact h r rfl
  | ex _ => trivial
  | far => trivial
theorem StZ.drop {σ : L2.St} {H N : Hp} (j : Nat) (hj : j ≠ i) (h : StZ z H0 i ρ t σ H N) : StZ z H0 i (ρ.set j .no) t σ H N := by
  obtain ⟨p, Hs, n, d, r⟩ := h
  refine ⟨p, Hs, n, d, ?_⟩
  rw [List.set_comm _ _ hj]
  exact r.drop j
theorem xz_end {v : γ} (hD : D v = .nx ρ t := by rfl) : ExMZ z H0 i ρ t k [] D (.ok v) := by
  show ExecZ z H0 i ρ t [] (D v)
  rw [hD]
  exact ez_nil
theorem xz_drop {m : M γ} (j : Nat) (hj : j ≠ i) (h : ExMZ z H0 i (ρ.set j .no) t k sts D m) : ExMZ z H0 i ρ t k sts D m := by
  cases m with
  | ok v => exact fun DD σ H N r c => h DD σ H N (r.drop j hj) c
  | ex n => exact fun DD σ H N r c => h DD σ H N (r.drop j hj) c
  | far => trivial
theorem un_same {Hs : Hp} (d : ∀ a u, Hs a = some u → H0 a = none) : Same H0 (Un H0 Hs) := fun a u e => by
  unfold Un
  cases q : Hs a with
  | none => exact e
  | some w => rw [d a w q] at e; cases e
/-- a statement that doesn't touch the thing -/
theorem sz_plain (hΦ : Φ H0) (mΦ : ∀ {A B : Hp}, Same A B → Φ A → Φ B) (h : ∀ H0' p, Φ H0' → ExS X H0' (ρ.set i (.rf p)) st (.nx (ρ1.set i (.rf p)))) : ExSZ z H0 i ρ t st (.nx ρ1 t) := fun D σ H N ⟨p, Hs, n, d, r⟩ c =>
  h (Un H0 Hs) p (mΦ (un_same d) hΦ) D σ H N r fun σ' H' N' s r' => c σ' H' N' s ⟨p, Hs, z.mono s n, d, r'⟩
theorem sz_plainX {n : Str} {k : Nat} (hΦ : Φ H0) (mΦ : ∀ {A B : Hp}, Same A B → Φ A → Φ B) (h : ∀ H0' p, Φ H0' → ExS X H0' (ρ.set i (.rf p)) st (.ex n (List.replicate k .no))) : ExSZ z H0 i ρ t st (.ex n (List.replicate k .no)) := fun D σ H N ⟨p, Hs, nn, d, r⟩ ⟨W, tk, c⟩ =>
  h (Un H0 Hs) p (mΦ (un_same d) hΦ) D σ H N r ⟨W, tk, fun C σ' H' N' m s r' => c C σ' H' N' m s (r'.low2 d (noOl_no k))⟩
theorem xz_one {m : M β} {f : β → M γ} (eS : β → Env') (hΦ : Φ H0) (mΦ : ∀ {A B : Hp}, Same A B → Φ A → Φ B) (h : ∀ H0' p, Φ H0' → ExM X H0' (ρ.set i (.rf p)) k [st] (fun r => .nx ((eS r).set i (.rf p))) m) (tt : ∀ r, ExMZ z H0 i (eS r) t k rest D (f r)) : ExMZ z H0 i ρ t k (st :: rest) D (M.bind m f) := by
  cases m with
  | ok r => exact xz_then (sz_plain (Φ := Φ) hΦ mΦ fun H0' p hp => fun DD σ H N rp c => ws_one (h H0' p hp DD σ H N rp c)) (tt r)
  | ex n => exact ez_ex (sz_plainX (Φ := Φ) hΦ mΦ fun H0' p hp => fun DD σ H N rp c => ws_one (h H0' p hp DD σ H N rp c))
  | far => trivial
/-- the thing as data that nobody changes -/
theorem Rep.frz {Hs H N : Hp} {σ : L2.St} {p : Addr} (hn : noOl ρ) (hi : i < ρ.length) (n : z.Z t N Hs p) (d : ∀ a u, Hs a = some u → H0 a = none) (r : Rep X.K (Un H0 Hs) (ρ.set i (.rf p)) σ H N) : Same N (Un N Hs) ∧ Rep X.K H0 (ρ.set i (.im (z.en t))) σ H (Un N Hs) := by
  have hp : σ[i]? = some (some (V.ref p)) := r.rf i p (List.getElem?_set_self hi)
  have nn : ∀ a u, Hs a = some u → N a = none := fun a u e => n_of r (un_some e) (z.mu n e)
  have sN : Same N (Un N Hs) := fun a u e => by
    unfold Un
    cases q : Hs a with
    | none => exact e
    | some w => rw [nn a w q] at e; cases e
  have sH : Same Hs (Un N Hs) := fun a u e => un_some e
  have so := un_same d
  refine ⟨sN, so.trans r.old, fun a u e => ?_, ((imm_same so).trans r.imm).trans sN, fun a u e m => ?_, by rw [List.length_set]; have := r.len; rw [List.length_set] at this; exact this, fun j x e => ?_, fun j x e => ?_, fun j x e => ?_, fun j a e => ?_, fun j k x x' q ne a b c => ?_⟩
  · unfold Un at e
    cases q : Hs a with
    | none => rw [q] at e; exact r.sub a u e
    | some w => rw [q] at e; cases e; exact r.old a _ (un_some q)
  · unfold Un at e
    cases q : Hs a with
    | none => rw [q] at e; exact (un_none (r.fresh a u e m)).2
    | some w => exact d a w q
  · rcases get_set e with ⟨rfl, y⟩ | ⟨n1, e⟩
    · cases y
      exact ⟨_, hp, z.at_ n sN sH⟩
    · obtain ⟨v, a1, a2⟩ := r.im j x (by rw [List.getElem?_set_ne (Ne.symm n1)]; exact e)
      exact ⟨v, a1, a2.mono sN⟩
  · rcases get_set e with ⟨_, y⟩ | ⟨n1, e⟩
    · cases y
    · exact absurd e (hn j x)
  · rcases get_set e with ⟨_, y⟩ | ⟨n1, e⟩
    · cases y
    · obtain ⟨q, a1, a2, a3, a4⟩ := r.ow j x (by rw [List.getElem?_set_ne (Ne.symm n1)]; exact e)
      obtain ⟨z1, z2⟩ := un_none a2
      refine ⟨q, a1, z2, by unfold Un; rw [z1]; exact a3, ?_⟩
      cases x with
      | lst ds => obtain ⟨vs, b1, b2⟩ := a4; exact ⟨vs, b1, b2.mono sN⟩
      | dic ds => obtain ⟨vs, b1, b2⟩ := a4; exact ⟨vs, b1, b2.mono sN⟩
      | dit ks ds => obtain ⟨vs, b1, ql, b2⟩ := a4; exact ⟨vs, b1, ql, b2.mono sN⟩
      | non => exact a4.elim
      | bl _ => exact a4.elim
      | int _ => exact a4.elim
      | str _ => exact a4.elim
      | tup _ => exact a4.elim
      | ins _ _ _ => exact a4.elim
      | tix _ => exact a4.elim
  · rcases get_set e with ⟨_, y⟩ | ⟨n1, e⟩
    · cases y
    · exact r.rf j a (by rw [List.getElem?_set_ne (Ne.symm n1)]; exact e)
  · rcases get_set a with ⟨_, y⟩ | ⟨n1, a⟩
    · cases y
    rcases get_set b with ⟨_, y⟩ | ⟨n2, b⟩
    · cases y
    exact r.apart j k x x' q ne (by rw [List.getElem?_set_ne (Ne.symm n1)]; exact a) (by rw [List.getElem?_set_ne (Ne.symm n2)]; exact b) c
/-- a test may read the thing -/
theorem etz_see {v : Bool} (hn : noOl ρ) (hi : i < ρ.length) (hΦ : Φ H0) (h : ∀ H0', Φ H0' → EvT X H0' (ρ.set i (.im (z.en t))) c v) : EtZ z H0 i ρ t c v := fun σ H N ⟨p, Hs, n, d, r⟩ => by
  obtain ⟨s1, r1⟩ := Rep.frz hn hi n d r
  exact (h H0 hΦ σ H _ r1).imp fun w H' ⟨e1, N', s, s2, r'⟩ => ⟨e1, s, p, Hs, n, d, r.grow s⟩
theorem xz_if {eS : S → Env'} {tS : S → τ} {g : Bool} {m1 m2 : M S} {f : S → M γ} (hc : EtZ z H0 i ρ t c g) (h1 : g = true → ExMZ z H0 i ρ t k as (fun s => .nx (eS s) (tS s)) m1) (h2 : g = false → ExMZ z H0 i ρ t k bs (fun s => .nx (eS s) (tS s)) m2) (tt : ∀ s, ExMZ z H0 i (eS s) (tS s) k rest D (f s)) :
    ExMZ z H0 i ρ t k (.If c as bs pos :: rest) D (M.bind (if g = true then m1 else m2) f) := by
  have go : ∀ {o : OcZ τ}, (g = true → ExecZ z H0 i ρ t as o) → (g = false → ExecZ z H0 i ρ t bs o) → ExSZ z H0 i ρ t (.If c as bs pos) o := fun {o} k1 k2 DD σ H N s cc => by
    refine ws_of (ps_if pt_w pb_w pb_w) ((hc σ H N s).imp fun v H' ⟨e1, _, s'⟩ => ?_)
    subst e1
    cases v with
    | true => exact iteT (k1 rfl DD σ H' N s' cc)
    | false => exact iteF (k2 rfl DD σ H' N s' cc)
  cases g with
  | true =>
    rw [if_pos rfl]
    have h1 := h1 rfl
    cases m1 with
    | ok v => exact xz_then (go (fun _ => h1) (fun z => nomatch z)) (tt v)
    | ex n => exact ez_ex (go (fun _ => h1) (fun z => nomatch z))
    | far => trivial
  | false =>
    rw [if_neg (by decide)]
    have h2 := h2 rfl
    cases m2 with
    | ok v => exact xz_then (go (fun z => nomatch z) (fun _ => h2)) (tt v)
    | ex n => exact ez_ex (go (fun z => nomatch z) (fun _ => h2))
    | far => trivial
/-! while -/
def WhZ (z : Zp X.K τ) (H0 : Hp) (i : Nat) (c : Expr) (body : List Stmt) (o : OcZ τ) : Nat → Env' → τ → Prop
  | 0, ρ, t => (EtZ z H0 i ρ t c false ∧ o = .nx ρ t) ∨ (EtZ z H0 i ρ t c true ∧ ∃ n ρ1, ExecZ z H0 i ρ t body (.ex n ρ1) ∧ o = .ex n ρ1)
  | m + 1, ρ, t => ∃ ρ1 t1, EtZ z H0 i ρ t c true ∧ ExecZ z H0 i ρ t body (.nx ρ1 t1) ∧ WhZ z H0 i c body o m ρ1 t1
theorem sz_while {m0 : Nat} (hp : PassesOwn (model X.prog X.w) X.A X.env X.xe) (h0 : WhZ z H0 i c body o m0 ρ t) : ExSZ z H0 i ρ t (.While c body [] pos) o := fun D σ H N r k => by
  refine ws_of (ps_while hp pt_w pb_w) ⟨fun m σ' H' => ∃ ρ' t' N', Same N N' ∧ StZ z H0 i ρ' t' σ' H' N' ∧ WhZ z H0 i c body o m ρ' t', ⟨m0, ρ, t, N, Same.refl _, r, h0⟩, ?_⟩
  rintro m σ' H' ⟨ρ', t', N', s, r', w⟩
  cases m with
  | zero =>
    rcases w with ⟨hc, eo⟩ | ⟨hc, n, ρ1, hb, eo⟩
    · refine (hc σ' H' N' r').imp fun b H1 ⟨eb, s1, r1⟩ => ?_
      subst eb
      subst eo
      exact iteF (k σ' H1 N' s r1)
    · refine (hc σ' H' N' r').imp fun b H1 ⟨eb, s1, r1⟩ => ?_
      subst eb
      subst eo
      exact iteT ⟨fun _ _ => False, fun _ _ y => y.elim, hb _ σ' H1 N' r1 (ContZ.mono (o := .ex n ρ1) k s)⟩
  | succ m =>
    obtain ⟨ρ1, t1, hc, hb, w⟩ := w
    refine (hc σ' H' N' r').imp fun b H1 ⟨eb, s1, r1⟩ => ?_
    subst eb
    refine iteT ⟨fun σ2 H2 => ∃ N2, Same N N2 ∧ StZ z H0 i ρ1 t1 σ2 H2 N2, fun σ2 H2 ⟨N2, s2, r2⟩ => ⟨m, Nat.lt_succ_self m, ρ1, t1, N2, s2, r2, w⟩, ?_⟩
    exact hb _ σ' H1 N' r1 fun σ2 H2 N2 s2 r2 => ⟨N2, s.trans s2, r2⟩
theorem whM_Z {eS : S → Env'} {tS : S → τ} {cm : S → M Bool} {f : S → M S} (hc : ∀ s b, cm s = .ok b → EtZ z H0 i (eS s) (tS s) c b) (hb : ∀ s, ExMZ z H0 i (eS s) (tS s) k body (fun s => .nx (eS s) (tS s)) (f s)) (hx : ∀ s n, cm s ≠ .ex n) : ∀ (n : Nat) (s : S), match whileM cm f n s with | .ok s' => ∃ m, WhZ z H0 i c body (.nx (eS s') (tS s')) m (eS s) (tS s) | .ex e => ∃ m, WhZ z H0 i c body (.ex e (List.replicate k .no)) m (eS s) (tS s) | .far => True
  | 0, s => trivial
  | n + 1, s => by
    unfold whileM
    cases e : cm s with
    | far => trivial
    | ex q => exact absurd e (hx s q)
    | ok b =>
      rw [M.bind_ok]
      cases b with
      | false => exact ⟨0, .inl ⟨hc s false e, rfl⟩⟩
      | true =>
        rw [if_pos rfl]
        have hs := hb s
        cases e2 : f s with
        | far => trivial
        | ex q =>
          rw [e2] at hs
          exact ⟨0, .inr ⟨hc s true e, q, _, hs, rfl⟩⟩
        | ok s1 =>
          rw [e2] at hs
          rw [M.bind_ok]
          have ih := whM_Z hc hb hx n s1
          cases e3 : whileM cm f n s1 with
          | ok s2 => rw [e3] at ih; obtain ⟨m, w⟩ := ih; exact ⟨m + 1, _, _, hc s true e, hs, w⟩
          | ex q => rw [e3] at ih; obtain ⟨m, w⟩ := ih; exact ⟨m + 1, _, _, hc s true e, hs, w⟩
          | far => trivial
theorem xz_while {eS : S → Env'} {tS : S → τ} {cm : S → M Bool} {f : S → M S} {fk : S → M γ} {n : Nat} {s0 : S} (hp : PassesOwn (model X.prog X.w) X.A X.env X.xe) (h0 : ρ = eS s0) (ht : t = tS s0) (hc : ∀ s b, cm s = .ok b → EtZ z H0 i (eS s) (tS s) c b) (hx : ∀ s n, cm s ≠ .ex n) (hb : ∀ s, ExMZ z H0 i (eS s) (tS s) k body (fun s => .nx (eS s) (tS s)) (f s)) (tt : ∀ s, ExMZ z H0 i (eS s) (tS s) k rest D (fk s)) :
    ExMZ z H0 i ρ t k (.While c body [] pos :: rest) D (M.bind (whileM cm f n s0) fk) := by
  have h := whM_Z hc hb hx n s0
  subst h0
  subst ht
  cases e : whileM cm f n s0 with
  | ok s => rw [e] at h; obtain ⟨m, w⟩ := h; exact xz_then (sz_while hp w) (tt s)
  | ex q => rw [e] at h; obtain ⟨m, w⟩ := h; exact ez_ex (sz_while hp w)
  | far => trivial
/-- the thing is one's own no more: it may be read, no one changes it -/
theorem xz_freeze {eR : γ → Dat} {m : M γ} (hn : noOl ρ) (hi : i < ρ.length) (h : ExM X H0 (ρ.set i (.im (z.en t))) k sts (fun r => .rt (eR r)) m) : ExMZ z H0 i ρ t k sts (fun r => .rt (eR r)) m := by
  cases m with
  | ok r => exact fun DD σ H N ⟨p, Hs, n, d, rr⟩ c => let ⟨s1, r1⟩ := Rep.frz hn hi n d rr; h DD σ H _ r1 fun v H' a b q => c v H' a (s1.trans b) q
  | ex n => exact fun DD σ H N ⟨p, Hs, nn, d, rr⟩ ⟨W, tk, c⟩ => let ⟨s1, r1⟩ := Rep.frz hn hi nn d rr; h DD σ H _ r1 ⟨W, tk, fun C σ' H' N' m s r' => c C σ' H' N' m (s1.trans s) r'⟩
  | far => trivial
/-- what is handed in, by its address -/
theorem xm_lend {Dx : γ → Outc} {d' : List Dat} {m : M γ} (j : Nat) (hj : ρ[j]? = some (.ol (.lst d'))) (h : ∀ a, At X.K H0 (.ref a) (.lst d') → ExM X H0 (ρ.set j (.rf a)) k sts Dx m) : ExM X H0 ρ k sts Dx m := by
  have go : ∀ {o : Outc}, (∀ a, At X.K H0 (.ref a) (.lst d') → Exec X H0 (ρ.set j (.rf a)) sts o) → Exec X H0 ρ sts o := fun {o} hh DD σ H N r c => by
    obtain ⟨v, h1, h2⟩ := r.ol j _ hj
    cases h2 with
    | lst q1 q2 =>
      refine hh _ (.lst q1 q2) DD σ H N ?_ c
      exact Rep.toRf h1 (r.drop j)
  cases m with
  | ok v => exact go h
  | ex n => exact go h
  | far => trivial
end
end B

namespace B
open PySem PySem.Spec PyProof.Rows L2
/-! ### a list == [], whatever it holds -/
def rEmp (K : PySem.W.Frag) (f : Bool → Bool) : R2 := fun x y H Q => ∃ a b xs, x = .ref a ∧ y = .ref b ∧ SqL K H a xs ∧ SqL K H b [] ∧ Q (.bl (f xs.isEmpty)) H
theorem op_eqE {X : Cx} (hu : X.A.units + 64 < cLine) : OpR X (compareOp .Eq) (rEmp X.K fun b => b) := by
  intro pins s σ H x y v u Q I rx ry ⟨a, b, xs, e1, e2, h1, h2, q⟩
  subst e1; subst e2
  cases rx; cases ry
  obtain ⟨its, r1, p1, _⟩ := Inv.list I h1
  obtain ⟨its2, r2, p2, _⟩ := Inv.list I h2
  have l1 := Vals.length r1
  have l2 := Vals.length r2
  have hu' : X.A.units < cLine := by omega
  cases xs with
  | nil =>
    refine (SeqAt.RcAt.lists (e := fun _ => true) (PlainL.isList p1) (PlainL.isList p2) (by simp at l1 l2; simp [← l1, ← l2]) hu' (fun j h1 h2 => ?_)) X.prog X.w X.xe _ ⟨.bl true, H, I, ?_, q⟩
    · simp at l1
      simp [← l1] at h1
    · simp [L2.RelV]
  | cons x xs =>
    refine (SeqAt.RcAt.lists_lengths (PlainL.isList p1) (PlainL.isList p2) (by simp at l1 l2; simp [← l1, ← l2]) hu') X.prog X.w X.xe _ ⟨.bl false, H, I, ?_, q⟩
    simp [L2.RelV]
theorem op_neE {X : Cx} (hu : X.A.units + 64 < cLine) : OpR X (compareOp .NotEq) (rEmp X.K fun b => !b) := by
  intro pins s σ H x y v u Q I rx ry ⟨a, b, xs, e1, e2, h1, h2, q⟩
  subst e1; subst e2
  cases rx; cases ry
  obtain ⟨its, r1, p1, _⟩ := Inv.list I h1
  obtain ⟨its2, r2, p2, _⟩ := Inv.list I h2
  have l1 := Vals.length r1
  have l2 := Vals.length r2
  have hu' : X.A.units < cLine := by omega
  cases xs with
  | nil =>
    refine (SeqAt.RcNeAt.lists (e := fun _ => true) (PlainL.isList p1) (PlainL.isList p2) (by simp at l1 l2; simp [← l1, ← l2]) hu' (fun j h1 h2 => ?_)) X.prog X.w X.xe _ ⟨.bl false, H, I, ?_, q⟩
    · simp at l1
      simp [← l1] at h1
    · simp [L2.RelV]
  | cons x xs =>
    refine (SeqAt.RcNeAt.lists_lengths (PlainL.isList p1) (PlainL.isList p2) (by simp at l1 l2; simp [← l1, ← l2]) hu') X.prog X.w X.xe _ ⟨.bl true, H, I, ?_, q⟩
    simp [L2.RelV]
section
variable {X : Cx} {H0 : Hp} {ρ ρ1 : Env'} {α β γ : Type} {a b c e : Expr} {rest : List Stmt} {d : Dat} {ds : List Dat} {p pos apos : Pos} {k : Nat} {D : γ → Outc}
theorem emp_go {f : Bool → Bool} {en : α → Dat} {l : List α} {x y : V} {σ : L2.St} {H N : Hp} {Q : VK} (p : At X.K H x (lstd en l)) (q : At X.K H y (.lst [])) (r : Rep X.K H0 ρ σ H N) (g : Goes X.K H0 ρ σ H N (.bl (f l.isEmpty)) Q) : rEmp X.K f x y H Q := by
  obtain ⟨p1, vs, e1, q1, q2⟩ := at_lst p
  obtain ⟨p2, ws, e2, q3, q4⟩ := at_lst q
  cases q4
  have hl : vs.isEmpty = l.isEmpty := by
    have := q2.length
    rw [List.length_map] at this
    cases vs <;> cases l <;> simp at this ⊢
  exact ⟨p1, p2, vs, e1, e2, q1, q3, by rw [hl]; exact goes_self (Q := Q) g r (.bl _)⟩
theorem et_eqE {en : α → Dat} {l : List α} (hu : X.A.units + 64 < cLine) (ha : EvB X H0 ρ a (lstd en l)) (hb : EvB X H0 ρ b (.lst [])) : EvT X H0 ρ (.Compare a [.Eq] [b] pos) l.isEmpty := evt_bin (fun _ _ h k => pt_cmpR (op_eqE hu) h k (nomark _)) ha hb fun x y σ H N Q r p q g => emp_go p q r g
theorem et_neE {en : α → Dat} {l : List α} (hu : X.A.units + 64 < cLine) (ha : EvB X H0 ρ a (lstd en l)) (hb : EvB X H0 ρ b (.lst [])) : EvT X H0 ρ (.Compare a [.NotEq] [b] pos) (!l.isEmpty) := evt_bin (fun _ _ h k => pt_cmpR (op_neE hu) h k (nomark _)) ha hb fun x y σ H N Q r p q g => emp_go p q r g
theorem ev_eqE {en : α → Dat} {l : List α} (hu : X.A.units + 64 < cLine) (ha : EvB X H0 ρ a (lstd en l)) (hb : EvB X H0 ρ b (.lst [])) : Ev X H0 ρ (.Compare a [.Eq] [b] pos) (.bl l.isEmpty) := ev_bin (fun _ _ h k => pe_cmpR (op_eqE hu) h k (nomark _)) ha hb fun x y σ H N Q r p q g => emp_go p q r g
theorem ev_neE {en : α → Dat} {l : List α} (hu : X.A.units + 64 < cLine) (ha : EvB X H0 ρ a (lstd en l)) (hb : EvB X H0 ρ b (.lst [])) : Ev X H0 ρ (.Compare a [.NotEq] [b] pos) (.bl (!l.isEmpty)) := ev_bin (fun _ _ h k => pe_cmpR (op_neE hu) h k (nomark _)) ha hb fun x y σ H N Q r p q g => emp_go p q r g
end
end B

namespace B
open PySem PySem.Spec PyProof.Rows L2
/-! ### a pile: a list of one's own of lists of one's own -/
inductive RwP (K : PySem.W.Frag) (N Hs : Hp) : List (List Dat) → List Addr → Prop where
  | nil : RwP K N Hs [] []
  | cons {row : List Dat} {T : List (List Dat)} {q : Addr} {qs : List Addr} {ws : List V} : Hs q = some (.lst ws) → Ats K N ws row → RwP K N Hs T qs → RwP K N Hs (row :: T) (q :: qs)
section
variable {K : PySem.W.Frag} {N N' Hs : Hp} {T : List (List Dat)} {qs : List Addr}
theorem RwP.mono (s : Same N N') (h : RwP K N Hs T qs) : RwP K N' Hs T qs := by
  induction h with
  | nil => exact .nil
  | cons a b _ ih => exact .cons a (b.mono s) ih
theorem RwP.updH {a : Addr} {o : HO} (h : RwP K N Hs T qs) (ha : a ∉ qs) : RwP K N (upd Hs a o) T qs := by
  induction h with
  | nil => exact .nil
  | cons e b _ ih =>
    rw [List.mem_cons, not_or] at ha
    exact .cons (by rw [upd_ne (Ne.symm ha.1)]; exact e) b (ih ha.2)
theorem RwP.snoc {row : List Dat} {q : Addr} {ws : List V} (e : Hs q = some (.lst ws)) (b : Ats K N ws row) (h : RwP K N Hs T qs) : RwP K N Hs (T ++ [row]) (qs ++ [q]) := by
  induction h with
  | nil => exact .cons e b .nil
  | cons e' b' _ ih => exact .cons e' b' ih
theorem RwP.len (h : RwP K N Hs T qs) : qs.length = T.length := by
  induction h with
  | nil => rfl
  | cons _ _ _ ih => rw [List.length_cons, List.length_cons, ih]
theorem RwP.mem (h : RwP K N Hs T qs) : ∀ q ∈ qs, ∃ ws, Hs q = some (.lst ws) := by
  induction h with
  | nil => intro q hq; cases hq
  | cons e b _ ih =>
    intro q hq
    rcases List.mem_cons.mp hq with rfl | hq
    · exact ⟨_, e⟩
    · exact ih q hq
theorem RwP.last {row : List Dat} : ∀ {T0 : List (List Dat)} {qs : List Addr}, RwP K N Hs (T0 ++ [row]) qs → ∃ qs0 q ws, qs = qs0 ++ [q] ∧ RwP K N Hs T0 qs0 ∧ Hs q = some (.lst ws) ∧ Ats K N ws row
  | [], _, h => by
    cases h with
    | cons e b t => cases t; exact ⟨[], _, _, rfl, .nil, e, b⟩
  | _ :: T0, _, h => by
    cases h with
    | cons e b t =>
      obtain ⟨qs0, q, ws, rfl, h1, h2, h3⟩ := RwP.last t
      exact ⟨_ :: qs0, q, ws, rfl, .cons e b h1, h2, h3⟩
theorem RwP.ats {G : Hp} (s : Same N G) (g : Same Hs G) (h : RwP K N Hs T qs) : Ats K G (qs.map V.ref) (T.map Dat.lst) := by
  induction h with
  | nil => exact .nil
  | cons e b _ ih => exact .cons (.lst (.inl (.inl (g _ _ e))) (b.mono s)) ih
structure PlZ (K : PySem.W.Frag) (pc : Addr → Prop) (T : List (List Dat)) (N Hs : Hp) (p : Addr) : Prop where
  r : ∃ qs, RwP K N Hs T qs ∧ Hs p = some (.lst (qs.map V.ref)) ∧ (p :: qs).Nodup
  mu : ∀ a u, Hs a = some u → Mut (some u)
  pc : pc p
end
def plZ (K : PySem.W.Frag) (pc : Addr → Prop) : Zp K (List (List Dat)) where
  Z := PlZ K pc
  en := fun T => .lst (T.map Dat.lst)
  mono := fun s h => ⟨let ⟨qs, a, b, c⟩ := h.r; ⟨qs, a.mono s, b, c⟩, h.mu, h.pc⟩
  mu := fun h e => h.mu _ _ e
  at_ := fun h s g => let ⟨_, a, b, _⟩ := h.r; .lst (.inl (.inl (g _ _ b))) (a.ats s g)
section
variable {γ : Type} {X : Cx} {pc : Addr → Prop} {H0 : Hp} {i k : Nat} {Φ : Hp → Prop} {ρ ρ1 : Env'} {T T0 : List (List Dat)} {row : List Dat} {st : Stmt} {sts rest : List Stmt} {a b c e ix ix2 : Expr} {p1 p2 p3 p4 pos : Pos} {D : γ → OcZ (List (List Dat))}
/-- a cell of the thing is written, or comes to it -/
theorem Rep.updS {K : PySem.W.Frag} {Hs H N : Hp} {σ : L2.St} {q : Addr} {o : HO} (hn : noOl ρ) (m : Mut (some o)) (r : Rep K (Un H0 Hs) ρ σ H N) (hq : (∃ u, Hs q = some u ∧ Mut (some u)) ∨ (N q = none ∧ ∀ (j : Nat) (d' : Dat), ρ[j]? = some (Ent.ow d') → σ[j]? ≠ some (some (V.ref q)))) : Rep K (Un H0 (upd Hs q o)) ρ σ (upd H q o) N := by
  rw [un_upd]
  rcases hq with ⟨u, h, mu⟩ | ⟨h1, h2⟩
  · exact r.upd0 hn m (n_of r (un_some h) mu) (own_ne r (un_some h))
  · exact r.upd0 hn m h1 h2
theorem mu_upd {Hs : Hp} {q : Addr} {o : HO} (m : Mut (some o)) (h : ∀ a u, Hs a = some u → Mut (some u)) : ∀ a u, upd Hs q o a = some u → Mut (some u) := fun a u e => by
  by_cases c : a = q
  · subst c; rw [upd_same] at e; cases e; exact m
  · rw [upd_ne c] at e; exact h a u e
theorem mu_l {Hs : Hp} {q : Addr} {l : List V} (h : ∀ a u, Hs a = some u → Mut (some u)) : ∀ a u, upd Hs q (.lst l) a = some u → Mut (some u) := mu_upd (o := .lst l) True.intro h
theorem none_all {P : Addr → HO → Prop} : ∀ (a : Addr) (u : HO), (fun _ => none : Hp) a = some u → P a u := fun a u e => by cases e
theorem dj_upd {Hs : Hp} {q : Addr} {o : HO} (m : H0 q = none) (h : ∀ a u, Hs a = some u → H0 a = none) : ∀ a u, upd Hs q o a = some u → H0 a = none := fun a u e => by
  by_cases c : a = q
  · rw [c]; exact m
  · rw [upd_ne c] at e; exact h a u e
/-- pile = [[]] -/
theorem xz_start {y : Str} {eR : γ → Dat} {m : M γ} (hn : noOl ρ) (h0 : ρ[i]? = some .no) (h : ExMZ (plZ X.K fun _ => True) H0 i ρ [[]] k rest (fun r => .rt (eR r)) m) (nd : X.N.Nodup) (hi : X.N[i]? = some y := by rfl) (hx : Loc X.env.scope y := by first | exact Or.inl rfl | exact Or.inr rfl)
    (hs : swapsWith (.List [.List [] p1] p2) (some (.Name y p3)) pos.line X.env = pure false := by rfl) (hf : X.fn y = true ∨ X.env.scope.names.lookup y = some .local := by first | exact .inl rfl | exact .inr rfl | assumption)
    (he : starEach [Expr.List [] p1] X.env = (false, eval (.List [] p1) X.env) :: starEach [] X.env := by rfl) :
    ExM X H0 ρ k (.Assign [.Name y p3] (.List [.List [] p1] p2) pos :: rest) (fun r => .rt (eR r)) m := by
  have go : ∀ {o : OcZ (List (List Dat))} {o' : Outc}, ExecZ (plZ X.K fun _ => True) H0 i ρ [[]] rest o → (∀ N DD, Cont X H0 N DD o' → ContZ (plZ X.K fun _ => True) H0 i N DD o) → Exec X H0 ρ (.Assign [.Name y p3] (.List [.List [] p1] p2) pos :: rest) o' := fun {o o'} hh hc DD σ H N r cc => by
    refine wb_of (pss_cons (ps_set nd hi hx (pe_lst (pa_cons (pe_lst pa_nil) pa_nil he)) hs hf) pb_w) ⟨Nat.zero_le _, fun q hq => ⟨by show 1 ≤ sizeLine; decide, fun p hp => ?_⟩⟩
    have hpq : p ≠ q := fun z => by rw [z, upd_same] at hp; cases hp
    have hp0 : H p = none := by rw [upd_ne hpq] at hp; exact hp
    have r0 : Rep X.K (Un H0 (fun _ => none)) ρ σ H N := r
    have r1 := r0.updS hn (q := q) (o := .lst []) True.intro (.inr ⟨r.sub.free hq, fun j d' e => no_own r hq j d' e⟩)
    have r2 := r1.updS hn (q := p) (o := .lst [V.ref q]) True.intro (.inr ⟨r1.sub.free hp, fun j d' e => no_own r1 hp j d' e⟩)
    have r3 := r2.setE (i := i) (v := .ref p) (e := .rf p) rfl
    have hb := hh DD _ _ N ⟨p, _, ⟨⟨[q], .cons (ws := []) (by rw [upd_ne (Ne.symm hpq)]; exact upd_same) .nil .nil, upd_same, by simp [hpq]⟩, mu_l (mu_l none_all), trivial⟩, dj_upd (r.old.free hp0) (dj_upd (r.old.free hq) none_all), r3⟩ (hc N DD cc)
    exact hb
  cases m with
  | ok r => exact go h fun N DD c => c
  | ex n => exact go h fun N DD c => c
  | far => trivial
/-- pile.append([]) -/
theorem xz_push {y : Str} {f : List (List Dat) → M γ} (hn : noOl ρ) (hi : i < ρ.length) (hΦ : Φ H0) (mΦ : ∀ {A B : Hp}, Same A B → Φ A → Φ B) (he : ∀ H0' p, Φ H0' → EvO X H0' (ρ.set i (.rf p)) e (.lst [])) (hz : lenLt T = true) (tt : ∀ T, ExMZ (plZ X.K pc) H0 i ρ T k rest D (f T)) (hN : X.N[i]? = some y := by rfl) (hv : Vis X.env.scope y := by first | exact Or.inl rfl | exact Or.inr (Or.inl rfl) | exact Or.inr (Or.inr rfl))
    (hd : (y == ("__debug__" : Str)) = false := by decide) (hcd : (y == ("__classdict__" : Str)) = false := by decide)
    (hpe : ∀ to t, PE X (.Name y p1) to → PA X [e] t → PE X (.Call (.Attribute (.Name y p1) "append" p2) [e] [] p3) (tBM X.K "list" rAppend to t) := by exact fun _ _ h g => pe_bm PySem.F.plainAttrs_list PySem.F.slot_list_append PySem.F.type_list_append mt_append h g)
    (hs1 : starEach [e] X.env = (false, eval e X.env) :: starEach [] X.env := by rfl) (hs : swapsWith (.Call (.Attribute (.Name y p1) "append" p2) [e] [] p3) none pos.line X.env = pure false := by rfl) :
    ExMZ (plZ X.K pc) H0 i ρ T k (.Expr (.Call (.Attribute (.Name y p1) "append" p2) [e] [] p3) pos :: rest) D (M.lt (T ++ [[]]) f) := by
  refine xz_then (ρ1 := ρ) (t1 := T ++ [[]]) (fun DD σ H N ⟨p, Hs, n, d, r⟩ kk => ?_) (tt _)
  obtain ⟨qs, n1, n2, n3⟩ := n.r
  have hp : σ[i]? = some (some (V.ref p)) := r.rf i p (List.getElem?_set_self hi)
  have hn' : noOl (ρ.set i (.rf p)) := noOl_set hn
  refine ws_of (ps_expr (hpe _ _ (pv i hN hv hd hcd) (pa_cons pe_w pa_nil hs1)) hs) ⟨_, hp, .inl ⟨rfl, _, .inl (.inl (r.old p _ (un_some n2)))⟩, (he _ p (mΦ (un_same d) hΦ) σ H N r).imp fun v H1 ⟨N1, q, e1, hq, s1, m1, r1, nq, ws, w1, w2⟩ => ?_⟩
  subst e1
  have uq : Un H0 Hs q = none := by
    cases z : Un H0 Hs q with
    | none => rfl
    | some u => rw [r.old q u z] at hq; cases hq
  obtain ⟨hsq, h0q⟩ := un_none uq
  have pq : p ≠ q := fun z => by rw [← z, n2] at hsq; cases hsq
  have qqs : q ∉ qs := fun m => by obtain ⟨w, z⟩ := n1.mem q m; rw [z] at hsq; cases hsq
  have pqs := (List.nodup_cons.mp n3).1
  refine ⟨p, _, _, rfl, rfl, s1 _ _ (r.old p _ (un_some n2)), by rw [List.length_map, n1.len]; exact lenLt_ok hz, kk σ _ N1 m1 ?_⟩
  have r2 := r1.updS hn' (q := q) (o := .lst ws) True.intro (.inr ⟨nq, fun j d' e => no_own r hq j d' e⟩)
  rw [upd_id w1] at r2
  have r3 := r2.updS hn' (q := p) (o := .lst (qs.map V.ref ++ [V.ref q])) True.intro (.inl ⟨.lst (qs.map V.ref), by rw [upd_ne pq]; exact n2, True.intro⟩)
  refine ⟨p, _, ⟨⟨qs ++ [q], ?_, by rw [upd_same, List.map_append]; rfl, ?_⟩, mu_l (mu_l n.mu), n.pc⟩, dj_upd (d p _ n2) (dj_upd h0q d), r3⟩
  · refine RwP.updH (RwP.snoc (ws := ws) upd_same w2 ((n1.mono m1).updH qqs)) ?_
    rw [List.mem_append, not_or]
    exact ⟨pqs, fun m => pq (List.mem_singleton.mp m)⟩
  · rw [show p :: (qs ++ [q]) = (p :: qs) ++ [q] from rfl, List.nodup_append]
    refine ⟨n3, by simp, fun a ha b hb z => ?_⟩
    rw [List.mem_singleton.mp hb] at z
    subst z
    rcases List.mem_cons.mp ha with m | m
    · exact pq m.symm
    · exact qqs m
theorem last_at {qs : List Addr} {q : Addr} : atI ((qs ++ [q]).map V.ref) (-1) = some (V.ref q) := by
  unfold atI
  have : ixN ((qs ++ [q]).map V.ref).length (-1) = some qs.length := by
    unfold ixN
    rw [if_neg (by omega)]
    simp
    omega
  rw [this]
  simp
theorem nd_ne {p q : Addr} {qs : List Addr} (h : (p :: (qs ++ [q])).Nodup) : p ≠ q ∧ q ∉ qs ∧ (p :: qs).Nodup ∧ p ∉ qs := by
  rw [show p :: (qs ++ [q]) = (p :: qs) ++ [q] from rfl, List.nodup_append] at h
  obtain ⟨h1, _, h2⟩ := h
  exact ⟨fun z => h2 p List.mem_cons_self q (by simp) z, fun m => h2 q (List.mem_cons_of_mem _ m) q (by simp) rfl, h1, (List.nodup_cons.mp h1).1⟩
/-- the last row is another one -/
theorem plz_last {Hs N N' : Hp} {p q : Addr} {qs0 : List Addr} {us : List V} {row' : List Dat} (h1 : RwP X.K N Hs T0 qs0) (n2 : Hs p = some (.lst ((qs0 ++ [q]).map V.ref))) (n3 : (p :: (qs0 ++ [q])).Nodup) (mu : ∀ a u, Hs a = some u → Mut (some u)) (hpc : pc p) (s : Same N N') (u : Ats X.K N' us row') : PlZ X.K pc (T0 ++ [row']) N' (upd Hs q (.lst us)) p := by
  obtain ⟨a1, a2, a3, a4⟩ := nd_ne n3
  exact ⟨⟨qs0 ++ [q], RwP.snoc upd_same u ((h1.mono s).updH a2), by rw [upd_ne a1]; exact n2, n3⟩, mu_l mu, hpc⟩
/-- pile[-1].append(e) -/
theorem xz_add {dd : Dat} {y : Str} {f : List (List Dat) → M γ} (hn : noOl ρ) (hi : i < ρ.length) (hΦ : Φ H0) (mΦ : ∀ {A B : Hp}, Same A B → Φ A → Φ B) (hT : T = T0 ++ [row]) (hix : ∀ H0' p, Φ H0' → Ev X H0' (ρ.set i (.rf p)) ix (.int (-1))) (he : ∀ H0' p, Φ H0' → Ev X H0' (ρ.set i (.rf p)) e dd) (hz : lenLt row = true) (tt : ∀ T, ExMZ (plZ X.K pc) H0 i ρ T k rest D (f T)) (hN : X.N[i]? = some y := by rfl) (hv : Vis X.env.scope y := by first | exact Or.inl rfl | exact Or.inr (Or.inl rfl) | exact Or.inr (Or.inr rfl))
    (hd : (y == ("__debug__" : Str)) = false := by decide) (hcd : (y == ("__classdict__" : Str)) = false := by decide) (hsx : PlainIx ix := by exact fun _ _ => rfl)
    (hpe : ∀ to t, PE X (.Subscript (.Name y p1) ix p4) to → PA X [e] t → PE X (.Call (.Attribute (.Subscript (.Name y p1) ix p4) "append" p2) [e] [] p3) (tBM X.K "list" rAppend to t) := by exact fun _ _ h g => pe_bm PySem.F.plainAttrs_list PySem.F.slot_list_append PySem.F.type_list_append mt_append h g)
    (hs1 : starEach [e] X.env = (false, eval e X.env) :: starEach [] X.env := by rfl) (hs : swapsWith (.Call (.Attribute (.Subscript (.Name y p1) ix p4) "append" p2) [e] [] p3) none pos.line X.env = pure false := by rfl) :
    ExMZ (plZ X.K pc) H0 i ρ T k (.Expr (.Call (.Attribute (.Subscript (.Name y p1) ix p4) "append" p2) [e] [] p3) pos :: rest) D (M.lt (T0 ++ [row ++ [dd]]) f) := by
  subst hT
  refine xz_then (ρ1 := ρ) (t1 := T0 ++ [row ++ [dd]]) (fun DD σ H N ⟨p, Hs, n, d, r⟩ kk => ?_) (tt _)
  obtain ⟨qs, n1, n2, n3⟩ := n.r
  obtain ⟨qs0, q, ws, rfl, h1, h2, h3⟩ := RwP.last n1
  have hp : σ[i]? = some (some (V.ref p)) := r.rf i p (List.getElem?_set_self hi)
  have hn' : noOl (ρ.set i (.rf p)) := noOl_set hn
  have hΦ' := mΦ (un_same d) hΦ
  refine ws_of (ps_expr (hpe _ _ (pe_ix ix_list (pv i hN hv hd hcd) pe_w hsx) (pa_cons pe_w pa_nil hs1)) hs) ⟨_, hp, (hix _ p hΦ' σ H N r).imp fun v H1 ⟨N1, s1, m1, r1, a1⟩ => ?_⟩
  have h5 := at_int a1
  subst h5
  refine ⟨p, _, _, V.ref q, rfl, rfl, .inl (.inl (r1.old p _ (un_some n2))), last_at, .inl ⟨rfl, _, .inl (.inl (r1.old q _ (un_some h2)))⟩, (he _ p hΦ' σ H1 N1 r1).imp fun w H2 ⟨N2, s2, m2, r2, a2⟩ => ?_⟩
  refine ⟨q, ws, w, rfl, rfl, r2.old q _ (un_some h2), by rw [h3.length]; exact lenLt_ok hz, kk σ _ N2 (m1.trans m2) ?_⟩
  have r3 := r2.updS hn' (q := q) (o := .lst (ws ++ [w])) True.intro (.inl ⟨_, h2, True.intro⟩)
  exact ⟨p, _, plz_last h1 n2 n3 n.mu n.pc (m1.trans m2) ((h3.mono (m1.trans m2)).append (.cons a2 .nil)), dj_upd (d q _ h2) d, r3⟩
/-- pile[-1][-1] = e -/
theorem xz_put {dd : Dat} {row2 : List Dat} {y : Str} {f : List (List Dat) → M γ} (hn : noOl ρ) (hi : i < ρ.length) (hΦ : Φ H0) (mΦ : ∀ {A B : Hp}, Same A B → Φ A → Φ B) (hT : T = T0 ++ [row]) (hix : ∀ H0' p, Φ H0' → Ev X H0' (ρ.set i (.rf p)) ix (.int (-1))) (hix2 : ∀ H0' p, Φ H0' → Ev X H0' (ρ.set i (.rf p)) ix2 (.int (-1))) (he : ∀ H0' p, Φ H0' → Ev X H0' (ρ.set i (.rf p)) e dd) (hj : setI row (-1) dd = some row2) (tt : ∀ T, ExMZ (plZ X.K pc) H0 i ρ T k rest D (f T)) (hN : X.N[i]? = some y := by rfl) (hv : Vis X.env.scope y := by first | exact Or.inl rfl | exact Or.inr (Or.inl rfl) | exact Or.inr (Or.inr rfl))
    (hd : (y == ("__debug__" : Str)) = false := by decide) (hcd : (y == ("__classdict__" : Str)) = false := by decide) (hsx : PlainIx ix := by exact fun _ _ => rfl)
    (hp : ∀ te to ti, PE X e te → PE X (.Subscript (.Name y p1) ix p4) to → PE X ix2 ti → PS X (.Assign [.Subscript (.Subscript (.Name y p1) ix p4) ix2 p2] e pos) (tAsg te (gSub to ti rSetL)) := by exact fun te to ti h g f => ps_asg h (pg_sub g f set_list)) :
    ExMZ (plZ X.K pc) H0 i ρ T k (.Assign [.Subscript (.Subscript (.Name y p1) ix p4) ix2 p2] e pos :: rest) D (M.lt (T0 ++ [row2]) f) := by
  subst hT
  unfold setI at hj
  obtain ⟨j, hj1, hj2⟩ := Option.map_eq_some_iff.mp hj
  refine xz_then (ρ1 := ρ) (t1 := T0 ++ [row2]) (fun DD σ H N ⟨p, Hs, n, d, r⟩ kk => ?_) (tt _)
  obtain ⟨qs, n1, n2, n3⟩ := n.r
  obtain ⟨qs0, q, ws, rfl, h1, h2, h3⟩ := RwP.last n1
  have hpp : σ[i]? = some (some (V.ref p)) := r.rf i p (List.getElem?_set_self hi)
  have hn' : noOl (ρ.set i (.rf p)) := noOl_set hn
  have hΦ' := mΦ (un_same d) hΦ
  refine ws_of (hp _ _ _ pe_w (pe_ix ix_list (pv i hN hv hd hcd) pe_w hsx) pe_w) ((he _ p hΦ' σ H N r).imp fun v H1 ⟨N1, s1, m1, r1, a1⟩ => ⟨_, hpp, (hix _ p hΦ' σ H1 N1 r1).imp fun u H2 ⟨N2, s2, m2, r2, a2⟩ => ?_⟩)
  have h5 := at_int a2
  subst h5
  refine ⟨p, _, _, V.ref q, rfl, rfl, .inl (.inl (r2.old p _ (un_some n2))), last_at, (hix2 _ p hΦ' σ H2 N2 r2).imp fun w H3 ⟨N3, s3, m3, r3, a3⟩ => ?_⟩
  refine ⟨q, ws, -1, j, rfl, at_int a3, r3.old q _ (un_some h2), by rw [h3.length]; exact hj1, kk σ _ N3 ((m1.trans m2).trans m3) ?_⟩
  have r4 := r3.updS hn' (q := q) (o := .lst (ws.set j v)) True.intro (.inl ⟨_, h2, True.intro⟩)
  have a5 := (h3.mono ((m1.trans m2).trans m3)).set (a1.mono (m2.trans m3)) j
  rw [hj2] at a5
  exact ⟨p, _, plz_last h1 n2 n3 n.mu n.pc ((m1.trans m2).trans m3) a5, dj_upd (d q _ h2) d, r4⟩
/-- x = tuple(pile.pop()) -/
theorem xz_pop {y z : Str} {p5 p6 : Pos} {f : List Dat × List (List Dat) → M γ} (j : Nat) (hn : noOl ρ) (hi : i < ρ.length) (hij : j ≠ i) (hT : T = T0 ++ [row]) (nd : X.N.Nodup) (hm : X.mg "tuple" = none) (tt : ∀ q : List Dat × List (List Dat), ExMZ (plZ X.K pc) H0 i (ρ.set j (.im (.tup q.1))) q.2 k rest D (f q)) (hg : Gl X "tuple" := by rfl) (hN : X.N[i]? = some y := by rfl) (hv : Vis X.env.scope y := by first | exact Or.inl rfl | exact Or.inr (Or.inl rfl) | exact Or.inr (Or.inr rfl))
    (hd : (y == ("__debug__" : Str)) = false := by decide) (hcd : (y == ("__classdict__" : Str)) = false := by decide)
    (hpe : ∀ to, PE X (.Name y p1) to → PE X (.Call (.Attribute (.Name y p1) "pop" p2) [] [] p4) (tBM0 X.K "list" rPop to) := by exact fun _ h => pe_bm0 PySem.F.plainAttrs_list PySem.F.slot_list_pop PySem.F.type_list_pop mt_pop h)
    (na : starEach [Expr.Call (.Attribute (.Name y p1) "pop" p2) [] [] p4] X.env = (false, eval (.Call (.Attribute (.Name y p1) "pop" p2) [] [] p4) X.env) :: starEach [] X.env := by rfl)
    (hj : X.N[j]? = some z := by rfl) (hx : Loc X.env.scope z := by first | exact Or.inl rfl | exact Or.inr rfl)
    (hs : swapsWith (.Call (.Name "tuple" p5) [.Call (.Attribute (.Name y p1) "pop" p2) [] [] p4] [] p6) (some (.Name z p3)) pos.line X.env = pure false := by rfl) (hf : X.fn z = true ∨ X.env.scope.names.lookup z = some .local := by first | exact .inl rfl | exact .inr rfl | assumption) :
    ExMZ (plZ X.K pc) H0 i ρ T k (.Assign [.Name z p3] (.Call (.Name "tuple" p5) [.Call (.Attribute (.Name y p1) "pop" p2) [] [] p4] [] p6) pos :: rest) D (M.lt (row, T0) f) := by
  subst hT
  refine xz_then (ρ1 := ρ.set j (.im (.tup row))) (t1 := T0) (fun DD σ H N ⟨p, Hs, n, d, r⟩ kk => ?_) (tt (row, T0))
  obtain ⟨qs, n1, n2, n3⟩ := n.r
  obtain ⟨qs0, q, ws, rfl, h1, h2, h3⟩ := RwP.last n1
  obtain ⟨b1, b2, b3, b4⟩ := nd_ne n3
  have hpp : σ[i]? = some (some (V.ref p)) := r.rf i p (List.getElem?_set_self hi)
  have hn' : noOl (ρ.set i (.rf p)) := noOl_set hn
  have oP := r.old p _ (un_some n2)
  refine ws_of (ps_set nd hj hx (pe_tupleOf hg hm (hpe _ (pv i hN hv hd hcd)) na) hs hf) ⟨_, hpp, .inl ⟨rfl, _, .inl (.inl oP)⟩, p, _, V.ref q, rfl, rfl, oP, by simp, .inl ⟨q, ws, rfl, .inl (.inl (by rw [upd_ne (Ne.symm b1)]; exact r.old q _ (un_some h2))), fun t ht => ?_⟩⟩
  have r2 := r.updS hn' (q := p) (o := .lst ((qs0 ++ [q]).map V.ref).dropLast) True.intro (.inl ⟨_, n2, True.intro⟩)
  obtain ⟨r3, m3⟩ := r2.new (o := .tup ws) ht
  have r4 := r3.setE (i := j) (v := .ref t) (e := .im (.tup row)) (.tup (.inl (.inl upd_same)) (h3.mono m3))
  rw [List.set_comm _ _ (Ne.symm hij)] at r4
  refine kk _ _ _ m3 ⟨p, _, ⟨⟨qs0, (h1.mono m3).updH b4, ?_, b3⟩, mu_l n.mu, n.pc⟩, dj_upd (d p _ n2) d, r4⟩
  rw [upd_same, List.map_append, List.map_singleton, List.dropLast_concat]
end
/-! ### what the generator asks -/
section
variable {τ γ S : Type} {X : Cx} {pc : Addr → Prop} {z : Zp X.K τ} {H0 : Hp} {i k : Nat} {Φ : Hp → Prop} {ρ : Env'} {t : τ} {T : List (List Dat)} {sts rest body : List Stmt} {c : Expr} {pos p1 : Pos} {D : γ → OcZ τ} {m : M Bool} {α β : Type}
theorem gl_ok {l : List α} {r : α} (h : l.getLast? = some r) : l = l.dropLast ++ [r] := by
  rcases List.eq_nil_or_concat l with rfl | ⟨us, x, rfl⟩
  · cases h
  · rw [List.concat_eq_append] at *
    simp at h
    rw [h]
    simp
theorem en_pl {K : PySem.W.Frag} {pc : Addr → Prop} (T : List (List Dat)) : (plZ K pc).en T = lstd (lstd idd) T := by
  show Dat.lst (T.map Dat.lst) = Dat.lst (T.map fun l => Dat.lst (l.map fun d => d))
  congr 1
  exact List.map_congr_left fun l _ => by rw [List.map_id']
theorem etp_see {v : Bool} (hn : noOl ρ) (hi : i < ρ.length) (hΦ : Φ H0) (h : ∀ H0', Φ H0' → EvT X H0' (ρ.set i (.im (lstd (lstd idd) T))) c v) : EtZ (plZ X.K pc) H0 i ρ T c v := etz_see (Φ := Φ) hn hi hΦ fun H0' f => by rw [en_pl]; exact h H0' f
theorem xp_freeze {eR : γ → Dat} {m : M γ} (hn : noOl ρ) (hi : i < ρ.length) (h : ExM X H0 (ρ.set i (.im (lstd (lstd idd) T))) k sts (fun r => .rt (eR r)) m) : ExMZ (plZ X.K pc) H0 i ρ T k sts (fun r => .rt (eR r)) m := xz_freeze hn hi (by rw [en_pl]; exact h)
def EtMZ (z : Zp X.K τ) (H0 : Hp) (i : Nat) (ρ : Env') (t : τ) (c : Expr) (m : M Bool) : Prop := match m with
  | .ok b => EtZ z H0 i ρ t c b
  | .ex _ => False
  | .far => True
theorem etzm_gd {g : Bool} (h : g = true → EtMZ z H0 i ρ t c m) : EtMZ z H0 i ρ t c (M.gd g m) := by
  cases g with
  | true => exact h rfl
  | false => trivial
theorem etzm_ofO {ob : Option β} {f : β → M Bool} (h : ∀ r, ob = some r → EtMZ z H0 i ρ t c (f r)) : EtMZ z H0 i ρ t c (M.bind (M.ofO ob) f) := by
  cases ob with
  | some r => exact h r rfl
  | none => trivial
theorem etzm_bind {mb : M β} {f : β → M Bool} (h : ∀ r, mb = .ok r → EtMZ z H0 i ρ t c (f r)) : EtMZ z H0 i ρ t c (M.bind (M.nox mb) f) := by
  cases mb with
  | ok r => exact h r rfl
  | ex _ => trivial
  | far => trivial
theorem etzm_ok {v : Bool} (h : EtZ z H0 i ρ t c v) : EtMZ z H0 i ρ t c (.ok v) := h
theorem xz_whileM {eS : S → Env'} {tS : S → τ} {cm : S → M Bool} {f : S → M S} {fk : S → M γ} {n : Nat} {s0 : S} (hp : PassesOwn (model X.prog X.w) X.A X.env X.xe) (h0 : ρ = eS s0) (ht : t = tS s0) (hc : ∀ s, EtMZ z H0 i (eS s) (tS s) c (cm s)) (hb : ∀ s, ExMZ z H0 i (eS s) (tS s) k body (fun s => .nx (eS s) (tS s)) (f s)) (tt : ∀ s, ExMZ z H0 i (eS s) (tS s) k rest D (fk s)) :
    ExMZ z H0 i ρ t k (.While c body [] pos :: rest) D (M.bind (whileM cm f n s0) fk) :=
  xz_while hp h0 ht (fun s b e => by have := hc s; rw [e] at this; exact this) (fun s n e => by have := hc s; rw [e] at this; exact this) hb tt
theorem eb_name_rf {a : Addr} {d : Dat} (j : Nat) {x : Str} (h : ρ[j]? = some (.rf a)) (f : At X.K H0 (.ref a) d) (hN : X.N[j]? = some x := by rfl) (hv : Vis X.env.scope x := by first | exact Or.inl rfl | exact Or.inr (Or.inl rfl) | exact Or.inr (Or.inr rfl)) (hd : (x == ("__debug__" : Str)) = false := by decide)
    (hcd : (x == ("__classdict__" : Str)) = false := by decide) : EvB X H0 ρ (.Name x pos) d := fun σ H N r => we_of (pv j hN hv hd hcd) ⟨.ref a, r.rf j a h, N, Same.refl _, Same.refl _, r, f.mono r.old⟩
end
mutual
def trOf : Dat → Option Tr
  | .non => some .leaf
  | .tup ds => (trsOf ds).map Tr.node
  | _ => none
def trsOf : List Dat → Option (List Tr)
  | [] => some []
  | d :: r => match trOf d, trsOf r with
    | some t, some l => some (t :: l)
    | _, _ => none
end
mutual
theorem trOf_ok : ∀ {d : Dat} {t : Tr}, trOf d = some t → d = trd t
  | .non, t, h => by rw [trOf] at h; cases h; rfl
  | .tup ds, t, h => by
    rw [trOf] at h
    obtain ⟨l, h1, rfl⟩ := Option.map_eq_some_iff.mp h
    rw [trd, trsOf_ok h1]
  | .bl _, _, h => by simp [trOf] at h
  | .int _, _, h => by simp [trOf] at h
  | .str _, _, h => by simp [trOf] at h
  | .lst _, _, h => by simp [trOf] at h
  | .dic _, _, h => by simp [trOf] at h
  | .ins _ _ _, _, h => by simp [trOf] at h
  | .tix _, _, h => by simp [trOf] at h
  | .dit _ _, _, h => by simp [trOf] at h
theorem trsOf_ok : ∀ {ds : List Dat} {l : List Tr}, trsOf ds = some l → ds = trds l
  | [], l, h => by rw [trsOf] at h; cases h; rfl
  | d :: r, l, h => by
    rw [trsOf] at h
    cases h1 : trOf d with
    | none => rw [h1] at h; cases h
    | some t =>
      cases h2 : trsOf r with
      | none => rw [h1, h2] at h; cases h
      | some m =>
        rw [h1, h2] at h
        cases h
        rw [trds, trOf_ok h1, trsOf_ok h2]
end
mutual
theorem trOf_trd : ∀ t : Tr, trOf (trd t) = some t
  | .leaf => rfl
  | .node l => by rw [trd, trOf, trsOf_trds l]; rfl
theorem trsOf_trds : ∀ l : List Tr, trsOf (trds l) = some l
  | [] => rfl
  | t :: r => by rw [trds, trsOf, trOf_trd t, trsOf_trds r]
end
theorem ev_trOf {X : Cx} {H0 : Hp} {ρ : Env'} {e : Expr} {d : Dat} {t : Tr} (h : Ev X H0 ρ e d) (q : trOf d = some t) : Ev X H0 ρ e (trd t) := by rw [← trOf_ok q]; exact h
theorem eo_lstD {X : Cx} {H0 : Hp} {ρ : Env'} {es : List Expr} {ds : List Dat} {pos : Pos} (h : EvA X H0 ρ es ds) (hz : ds.length ≤ sizeLine) : EvO X H0 ρ (.List es pos) (lstd idd ds) := by
  have e : lstd idd ds = .lst ds := by show Dat.lst (ds.map fun d => d) = _; rw [List.map_id']
  rw [e]
  exact eo_lst h hz
end B

namespace B
open PySem PySem.Spec PyProof.Rows L2
/-! ### more plain tools on mirrors -/
section
variable {α β S S' L L' R : Type}
theorem whileF_done {c : S → M Bool} {f : S → M (Fl S S R)} {n : Nat} {s : S} (h : c s = .ok false) : (whileF c f (n + 1) s : M (Fl S L R)) = .ok (.nx s) := by unfold whileF; rw [h]; rfl
theorem whileF_nx {c : S → M Bool} {f : S → M (Fl S S R)} {n : Nat} {s s' : S} (h : c s = .ok true) (h2 : f s = .ok (.nx s') ∨ f s = .ok (.ct s')) : (whileF c f (n + 1) s : M (Fl S L R)) = whileF c f n s' := by
  conv => lhs; unfold whileF
  rw [h, M.bind_ok, if_pos rfl]
  rcases h2 with h2 | h2 <;> rw [h2]
theorem whileF_rt {c : S → M Bool} {f : S → M (Fl S S R)} {n : Nat} {s : S} {r : R} (h : c s = .ok true) (h2 : f s = .ok (.rt r)) : (whileF c f (n + 1) s : M (Fl S L R)) = .ok (.rt r) := by
  conv => lhs; unfold whileF
  rw [h, M.bind_ok, if_pos rfl, h2]
/-- a while that may leave the def: what comes of a state stays -/
theorem seqT_whileV {c : S → M Bool} {f : S → M (Fl S S R)} {k : S → M R} (V : S → M R) (I : S → Prop) (μ : S → Nat)
    (h : ∀ s, I s → (c s = .ok false ∧ k s = V s) ∨ (c s = .ok true ∧ ((∃ r, f s = .ok (.rt r) ∧ V s = .ok r) ∨ ∃ s', (f s = .ok (.nx s') ∨ f s = .ok (.ct s')) ∧ I s' ∧ μ s' < μ s ∧ V s = V s'))) : ∀ (n : Nat) {s0 : S}, I s0 → μ s0 < n → M.seqT (whileF c f n s0 : M (Fl S L R)) k = V s0
  | 0, _, _, hn => by omega
  | n + 1, s, hI, hn => by
    rcases h s hI with ⟨h0, h1⟩ | ⟨h0, ⟨r, h1, h2⟩ | ⟨s', h1, h2, h3, h4⟩⟩
    · rw [whileF_done h0, h2k h1]
    · rw [whileF_rt h0 h1, h2]; rfl
    · rw [whileF_nx h0 h1, h4]
      exact seqT_whileV V I μ h n h2 (by omega)
where
  h2k {s : S} {k V : S → M R} (h1 : k s = V s) : M.seqT (.ok (.nx s) : M (Fl S L R)) k = V s := h1
/-- a walk that is left at the first that is not so -/
theorem seqT_all {f : α → Unit → M (Fl Unit Unit R)} {p : α → Bool} {r : R} {k : Unit → M R} : ∀ {xs : List α}, (∀ x ∈ xs, f x () = .ok (if p x = true then .nx () else .rt r)) → M.seqT (forF f xs () : M (Fl Unit L R)) k = if xs.all p = true then k () else .ok r
  | [], _ => rfl
  | x :: xs, h => by
    unfold forF
    rw [h x List.mem_cons_self]
    have ih := seqT_all (f := f) (p := p) (r := r) (k := k) (xs := xs) fun y hy => h y (List.mem_cons_of_mem _ hy)
    cases e : p x with
    | true => simp only [if_pos, List.all_cons, e, Bool.true_and]; exact ih
    | false => simp [e]
theorem if_t {α : Type} {b : Bool} {x y : α} (h : b = true) : (if b = true then x else y) = x := if_pos h
theorem if_f {α : Type} {b : Bool} {x y : α} (h : b = false) : (if b = true then x else y) = y := if_neg (by rw [h]; decide)
theorem snoc_of {α : Type} {l : List α} (h : l ≠ []) : ∃ u x, l = u ++ [x] := by
  rcases List.eq_nil_or_concat l with rfl | ⟨u, x, rfl⟩
  · exact (h rfl).elim
  · exact ⟨u, x, by rw [List.concat_eq_append]⟩
theorem gl_snoc {α : Type} (l : List α) (x : α) : (l ++ [x]).getLast? = some x := by simp
theorem dl_snoc {α : Type} (l : List α) (x : α) : (l ++ [x]).dropLast = l := by simp
theorem atI_last {α : Type} (l : List α) (x : α) : atI (l ++ [x]) (-1) = some x := by
  have := atI_neg (l := l ++ [x]) (k := 1) (by decide) (by simp)
  rw [show (-1 : Int) = -((1 : Nat) : Int) by decide, this]
  simp
theorem setI_last {α : Type} (l : List α) (x y : α) : setI (l ++ [x]) (-1) y = some (l ++ [y]) := by
  unfold setI ixN
  simp only [List.length_append, List.length_singleton]
  rw [if_neg (by omega), if_pos (by omega)]
  rw [show ((-1 : Int) + ((l.length + 1 : Nat) : Int)).toNat = l.length by omega]
  simp
theorem atI_0 {α : Type} (l : List α) : atI l 0 = l[0]? := by
  cases l with
  | nil => rfl
  | cons x l => exact atI_n (l := x :: l) (i := 0) (by simp)
end
/-! ### trees of a frame, as data -/
def isT (m : Nat) : Nat → Dat → Bool
  | 0, d => isNon d
  | k + 1, d => match d with
    | .non => true
    | .tup ds => decide (ds.length = m) && ds.all (isT m k)
    | _ => false
theorem isT_non (m k : Nat) : isT m k .non = true := by cases k <;> rfl
theorem isT_tup (m k : Nat) (ds : List Dat) : isT m (k + 1) (.tup ds) = (decide (ds.length = m) && ds.all (isT m k)) := rfl
/-- how many knots are looked at -/
def visT (m : Nat) : Nat → Dat → Nat
  | 0, _ => 1
  | k + 1, d => match d with
    | .tup ds => if ds.length = m then 1 + (ds.map (visT m k)).sum else 1
    | _ => 1
def wd6 : Nat → Nat
  | 0 => 1
  | k + 1 => 1 + 6 * wd6 k
theorem wd6_pos : ∀ k, 1 ≤ wd6 k
  | 0 => Nat.le_refl _
  | k + 1 => Nat.le_add_right _ _
theorem sum_le_n {α : Type} {f : α → Nat} {c : Nat} : ∀ {l : List α}, (∀ a ∈ l, f a ≤ c) → (l.map f).sum ≤ l.length * c
  | [], _ => Nat.zero_le _
  | a :: l, h => by
    have h1 := h a List.mem_cons_self
    have h2 := sum_le_n (l := l) fun b hb => h b (List.mem_cons_of_mem _ hb)
    rw [List.map_cons, List.sum_cons, List.length_cons, Nat.succ_mul]
    omega
theorem visT_le {m : Nat} (hm : m ≤ 6) : ∀ (k : Nat) (d : Dat), visT m k d ≤ wd6 k
  | 0, _ => Nat.le_refl _
  | k + 1, d => by
    have hp := wd6_pos (k + 1)
    unfold visT
    split
    · split
      · rename_i ds h
        have h1 := sum_le_n (f := visT m k) (l := ds) fun a _ => visT_le hm k a
        have h2 : ds.length * wd6 k ≤ 6 * wd6 k := Nat.mul_le_mul_right _ (by omega)
        show _ ≤ 1 + 6 * wd6 k
        omega
      · exact hp
    · exact hp
theorem visT_pos (m k : Nat) (d : Dat) : 1 ≤ visT m k d := by
  unfold visT
  split
  · exact Nat.le_refl _
  · split
    · split
      · exact Nat.le_add_right _ _
      · exact Nat.le_refl _
    · exact Nat.le_refl _
theorem wd6_le : ∀ {k : Nat}, k ≤ 6 → wd6 k ≤ 60000
  | 0, _ => by decide
  | 1, _ => by decide
  | 2, _ => by decide
  | 3, _ => by decide
  | 4, _ => by decide
  | 5, _ => by decide
  | 6, _ => by decide
  | k + 7, h => by omega
/-- what is a tree is one of Tr -/
theorem isT_tr {m : Nat} : ∀ {k : Nat} {d : Dat}, isT m k d = true → ∃ t, d = trd t
  | 0, d, h => by
    cases d <;> first | exact ⟨.leaf, rfl⟩ | exact absurd h (by decide) | skip
    all_goals cases h
  | k + 1, d, h => by
    cases d with
    | non => exact ⟨.leaf, rfl⟩
    | tup ds =>
      rw [isT_tup, Bool.and_eq_true, List.all_eq_true] at h
      obtain ⟨l, hl⟩ : ∃ l, ds = trds l := by
        have h2 := h.2
        clear h
        induction ds with
        | nil => exact ⟨[], rfl⟩
        | cons d ds ih =>
          obtain ⟨l, hl⟩ := ih fun x hx => h2 x (List.mem_cons_of_mem _ hx)
          obtain ⟨t, ht⟩ := isT_tr (h2 d List.mem_cons_self)
          exact ⟨t :: l, by rw [trds, ht, hl]⟩
      exact ⟨.node l, by rw [trd, hl]⟩
    | bl _ => cases h
    | int _ => cases h
    | str _ => cases h
    | lst _ => cases h
    | dic _ => cases h
    | ins _ _ _ => cases h
    | tix _ => cases h
    | dit _ _ => cases h
/-- .. as trees -/
def isTr (m : Nat) : Nat → Tr → Bool
  | 0, t => isLf t
  | k + 1, t => match t with
    | .leaf => true
    | .node l => decide (l.length = m) && l.all (isTr m k)
theorem isT_trd (m : Nat) : ∀ (k : Nat) (t : Tr), isT m k (trd t) = isTr m k t
  | 0, t => by
    show isNon (trd t) = isLf t
    exact isNon_trd t
  | k + 1, .leaf => rfl
  | k + 1, .node l => by
    rw [trd_node]
    show (decide ((l.map trd).length = m) && (l.map trd).all (isT m k)) = (decide (l.length = m) && l.all (isTr m k))
    rw [List.length_map, List.all_map]
    congr 1
    congr 1
    funext t
    exact isT_trd m k t
theorem isTr_dp {m : Nat} : ∀ {k : Nat} {t : Tr}, isTr m k t = true → Dp k t
  | 0, .leaf, _ => .leaf
  | 0, .node _, h => by cases h
  | k + 1, .leaf, _ => .leaf
  | k + 1, .node l, h => by
    have h' : (decide (l.length = m) && l.all (isTr m k)) = true := h
    rw [Bool.and_eq_true, List.all_eq_true] at h'
    exact .node fun t ht => isTr_dp (h'.2 t ht)
/-! ### an error from within a row of arguments -/
section
variable {X : Cx} {H0 : Hp} {ρ : Env'} {α β : Type} {e : Expr} {es : List Expr} {d : Dat} {p pos : Pos} {x n : Str} {R : List Dat → Res → Prop} {en : α → Dat} {k : Nat}
def EvAX (X : Cx) (H0 : Hp) (ρ : Env') (es : List Expr) (n : Str) : Prop := ∀ σ H N, Rep X.K H0 ρ σ H N → ∀ W : WX, Takes X W → (∀ C H' N', X.mg n = some (.ref C) → Same N N' → Rep X.K H0 ρ σ H' N' → W (.ref C) none σ H') → ∀ Q, WA X es σ H Q
theorem eax_here (h : EvX X H0 ρ e n) (hs : starEach (e :: es) X.env = (false, eval e X.env) :: starEach es X.env := by rfl) : EvAX X H0 ρ (e :: es) n := fun σ H N r W tk kw Q => wa_of (pa_cons pe_w pa_w hs) (h σ H N r W tk kw _)
theorem eax_next (h : EvB X H0 ρ e d) (t : EvAX X H0 ρ es n) (hs : starEach (e :: es) X.env = (false, eval e X.env) :: starEach es X.env := by rfl) : EvAX X H0 ρ (e :: es) n := fun σ H N r W tk kw Q => wa_of (pa_cons pe_w pa_w hs) ((h σ H N r).imp fun v H1 ⟨N1, s1, n1, r1, a1⟩ => t σ H1 N1 r1 W tk (fun C H' N' hC n2 r2 => kw C H' N' hC (n1.trans n2) r2) _)
theorem exc_args (G : GFn X.prog X.w X.K X.mg X.base x k R) (hr : Room k X.A) (ha : EvAX X H0 ρ (e :: es) n) (hg : Gl X x := by rfl) (hdb : (x == ("__debug__" : Str)) = false := by decide)
    (he : starEach (e :: es) X.env = (false, eval e X.env) :: starEach es X.env := by rfl) (hpl : (backTo pos (starEach es X.env)).any (·.1) = false := by rfl) : EvX X H0 ρ (.Call (.Name x p) (e :: es) [] pos) n := fun σ H N r W tk kw Q => by
  obtain ⟨f, fd, ps, F, hm, hk, hb⟩ := G
  exact we_of (pe_callS F hr hg hm hk hb (fun σ => passAt tk σ) pa_w hdb he hpl) (ha σ H N r W tk kw _)
theorem evx_get {m : M α} (h : EvM X H0 ρ e en m) (q : m = .ex n) : EvX X H0 ρ e n := by subst q; exact h
theorem evm_callA {mb : M β} {f : β → M α} (G : GFn X.prog X.w X.K X.mg X.base x k R) (hr : Room k X.A) (hx : ∀ n, mb = .ex n → EvAX X H0 ρ (e :: es) n) (t : ∀ r, mb = .ok r → EvM X H0 ρ (.Call (.Name x p) (e :: es) [] pos) en (f r)) (hg : Gl X x := by rfl) (hdb : (x == ("__debug__" : Str)) = false := by decide)
    (he : starEach (e :: es) X.env = (false, eval e X.env) :: starEach es X.env := by rfl) (hpl : (backTo pos (starEach es X.env)).any (·.1) = false := by rfl) : EvM X H0 ρ (.Call (.Name x p) (e :: es) [] pos) en (M.bind mb f) := by
  cases mb with
  | ok r => exact t r rfl
  | ex n => exact exc_args G hr (hx n rfl) hg hdb he hpl
  | far => trivial
theorem eom_callA {mb : M β} {f : β → M α} (G : GFn X.prog X.w X.K X.mg X.base x k R) (hr : Room k X.A) (hx : ∀ n, mb = .ex n → EvAX X H0 ρ (e :: es) n) (t : ∀ r, mb = .ok r → EoM X H0 ρ (.Call (.Name x p) (e :: es) [] pos) en (f r)) (hg : Gl X x := by rfl) (hdb : (x == ("__debug__" : Str)) = false := by decide)
    (he : starEach (e :: es) X.env = (false, eval e X.env) :: starEach es X.env := by rfl) (hpl : (backTo pos (starEach es X.env)).any (·.1) = false := by rfl) : EoM X H0 ρ (.Call (.Name x p) (e :: es) [] pos) en (M.bind mb f) := by
  cases mb with
  | ok r => exact t r rfl
  | ex n => exact exc_args G hr (hx n rfl) hg hdb he hpl
  | far => trivial
end
end B

namespace B
open PySem PySem.Spec PyProof.Rows L2 RZ
/-! ### zip of a text and a tuple -/
def ItzS (K : PySem.W.Frag) (z : Str) (b : Addr) : It :=
  ⟨fun i H => ∃ (ys : List V) (y : V), SqT K H b ys ∧ i < z.cps.size ∧ ys[i]? = some y,
    fun i H v H' => ∃ T y c, v = .ref T ∧ H T = none ∧ H' = upd H T (.tup [.str ⟨#[c]⟩, y]) ∧ z.cps[i]? = some c ∧ ∀ ys, SqT K H b ys → ys[i]? = some y,
    fun i H => ∃ ys : List V, SqT K H b ys ∧ i ≤ z.cps.size ∧ i ≤ ys.length ∧ (i = z.cps.size ∨ i = ys.length)⟩
theorem strIter_at {h h' : Heap} {I : Addr} {n : String} {x : Str} {t : Tok} {i : Nat} (st : h.IsStrIter I n x t i) (k : ∀ o, h.get? I = some o → h'.get? I = some o) : h'.IsStrIter I n x t i := by
  obtain ⟨o, ho, hc, hd⟩ := st
  exact ⟨o, k o ho, hc, hd⟩
theorem turn_zipS {P : Program} {w : World} {K : PySem.W.Frag} {elts : List Expr} {kk : Nat} {tpos : Pos} {z : Str} {t : Tok} {b Z TI TO i1 i2 : Addr} (D : ZipSep2 Z TI TO i1 i2 [i1] [i2, b]) (hbi : b ≠ i2) :
    Turn P w K (.Tuple elts kk tpos) (ItzS K z b) [Z, TI, TO, i1, i2] Z (fun i h => IsZip h Z TI TO .none ∧ IsPair h TI (.ref i1) (.ref i2) ∧ (∃ x y, IsPair h TO x y) ∧ h.IsStrIter i1 (strIterType z) z t i ∧ h.IsTupleIter i2 b i) where
  mem := by simp
  obj := fun i h st c hc => by
    obtain ⟨hz, hTI, ⟨x, y, hTO⟩, ⟨o1, e1, _, d1⟩, ⟨o2, e2, _, d2⟩⟩ := st
    have e' : c = Z ∨ c = TI ∨ c = TO ∨ c = i1 ∨ c = i2 := by simpa using hc
    rcases e' with q | q | q | q | q
    · rw [q]; exact ⟨_, hz, fun v q => nomatch q⟩
    · rw [q]; exact ⟨_, hTI, fun v q => nomatch q⟩
    · rw [q]; exact ⟨_, hTO, fun v q => nomatch q⟩
    · rw [q]; exact ⟨o1, e1, fun v q => by rw [d1] at q; cases q⟩
    · rw [q]; exact ⟨o2, e2, fun v q => by rw [d2] at q; cases q⟩
  keep := fun i h h' st k => by
    obtain ⟨hz, hTI, ⟨x, y, hTO⟩, h1, h2⟩ := st
    exact ⟨k Z (by simp) _ hz, k TI (by simp) _ hTI, ⟨x, y, k TO (by simp) _ hTO⟩, strIter_at h1 (fun o q => k i1 (by simp) o q), h2.at fun o q => k i2 (by simp) o q⟩
  item := by
    intro X hP hw hK hc i pins s σ H E I hf st hg
    subst hP hw hK
    obtain ⟨hz, hTI, ⟨x0, y0, hTO⟩, h1, h2⟩ := st
    obtain ⟨ys, y, hqy, hlt, hy⟩ := hg
    obtain ⟨its2, rv2, p2, _⟩ := I.tuple hqy
    obtain ⟨u2, hu2, ru2⟩ := rv2.get hy
    have hzl : Z < s.heap.objs.size := Heap.lt_size hz
    have hin : X.A.in1.handled = none := I.ok.hd hc
    refine wpAny_pyNext_zipD2_item D (Draws.text hin i1 z t) (Draws.tuple hin i2 b hbi its2.toArray) hz hTI hTO h1 ⟨h2, p2⟩ hlt (by have := (List.getElem?_eq_some_iff.mp hu2).1; simpa using this) fun x1 x2 h' tk y1 y2 z' TO' h1' h2' hT hsz hk => ?_
    obtain ⟨c, uu, hc1, rfl⟩ := y1
    have hx2 : x2 = u2 := by
      have : its2.toArray[i]? = some u2 := by simpa using hu2
      rw [this] at y2
      exact (Option.some.inj y2).symm
    subst hx2
    refine ⟨_, rfl, wpAny_letOwnedTupleGo_zip (s := { s with heap := h', toks := tk }) z' fun h'' z'' sb => ?_⟩
    have hT2 : h''.get? s.heap.objs.size = some { cls := .type "tuple", data := .seq #[.str ⟨#[c]⟩ uu, x2] } := (sb.2 _ (Nat.ne_of_gt hzl)).trans hT
    have new : ObjOk X.prog X.w (upd H s.heap.objs.size (.tup [.str ⟨#[c]⟩, y])) h'' s.heap.objs.size (.tup [.str ⟨#[c]⟩, y]) :=
      ⟨by show 2 ≤ sizeLine; decide, [.str ⟨#[c]⟩ uu, x2], .cons ⟨_, rfl⟩ (.cons ru2 .nil), ⟨_, hT2, rfl, _, rfl⟩⟩
    have I1 : Inv X pins σ (upd H s.heap.objs.size (.tup [.str ⟨#[c]⟩, y])) { s with heap := h'', toks := tk } :=
      I.turnedNew (t' := tk) (ch := [Z, TI, TO, i1, i2]) (fun c o hb q => (sb.2 c (fun q' => hb (by simp [q']))).trans (hk c o (fun q' => hb (by simp [q'])) (fun q' => hb (by simp [q'])) (fun q' => hb (by simp [q'])) (fun q' => hb (by simp [q'])) q)) hf (Nat.le_refl _) new
    refine ⟨.ref s.heap.objs.size, _, I1, rfl, ⟨_, y, c, rfl, I.hok.fresh (Nat.le_refl _), rfl, hc1, fun l hl => by rw [I.tuple_inj hl hqy]; exact hy⟩, ⟨z'', ?_, ⟨.str ⟨#[c]⟩ uu, x2, ?_⟩, ?_, ?_⟩, fun c hcm => ?_⟩
    · exact (sb.2 _ D.TIz).trans (hk _ _ D.TIz D.TITO D.TIi1 D.TIi2 hTI)
    · exact (sb.2 _ D.TOz).trans TO'
    · exact strIter_at h1' fun o q => (sb.2 _ (Ne.symm D.zi1)).trans q
    · exact h2'.1.at fun o q => (sb.2 _ (Ne.symm D.zi2)).trans q
    · have hlt : c < s.heap.objs.size := by
        have e' : c = Z ∨ c = TI ∨ c = TO ∨ c = i1 ∨ c = i2 := by simpa using hcm
        rcases e' with q | q | q | q | q
        · rw [q]; exact hzl
        · rw [q]; exact Heap.lt_size hTI
        · rw [q]; exact Heap.lt_size hTO
        · rw [q]; obtain ⟨_, e1, _⟩ := h1; exact Heap.lt_size e1
        · rw [q]; obtain ⟨_, e2, _⟩ := h2; exact Heap.lt_size e2
      rw [upd_ne (Nat.ne_of_lt hlt)]
      exact (hf c hcm).1
  done := by
    intro X hP hw hK hc i pins s σ H E I hf st hg
    subst hP hw hK
    obtain ⟨hz, hTI, ⟨x0, y0, hTO⟩, h1, h2⟩ := st
    obtain ⟨ys, hqy, le1, le2, hend⟩ := hg
    obtain ⟨its2, rv2, p2, _⟩ := I.tuple hqy
    have l2 := rv2.length
    have hin : X.A.in1.handled = none := I.ok.hd hc
    exact wpAny_pyNext_zipD2_end D (Draws.text hin i1 z t) (Draws.tuple hin i2 b hbi its2.toArray) hz hTI hTO h1 ⟨h2, p2⟩ le1 (by simp; omega) (by simp; omega) fun h' tk hk => ⟨rfl, I.turnedL (t' := tk) (ch := [Z, TI, TO, i1, i2]) (fun c o hb q =>
      hk c o (fun q' => hb (by simp [q'])) (fun q' => hb (by simp [q'])) (fun q' => hb (by simp [q'])) (fun q' => hb (by simp [q'])) q) hf⟩
  self := fun A i s Q E st h => wpAny_pyIter_zip st.1 h
def iZipS (K : PySem.W.Frag) (ta : TA) : TI := fun σ H R => ta σ H fun vs H1 => ∃ z b ys, vs = [.str z, .ref b] ∧ SqT K H1 b ys ∧ R (ItzS K z b) H1
theorem pi_zipS {X : Cx} {e e2 : Expr} {ta : TA} {p pos tpos : Pos} {elts : List Expr} {kk : Nat} (hg : Gl X "zip") (hm : X.mg "zip" = none) (ha : PA X [e, e2] ta)
    (hs : starEach [e, e2] X.env = (false, eval e X.env) :: starEach [e2] X.env := by rfl) (hpl : (backTo pos (starEach [e2] X.env)).any (·.1) = false := by rfl) :
    PI X (.Tuple elts kk tpos) (.Call (.Name "zip" p) [e, e2] [] pos) (iZipS X.K ta) := by
  refine ⟨fun pins s σ H R I h => ?_⟩
  refine Call_ (ld_blt I hg hm PyProof.Rows.boot_zip (PyProof.Rows.callWith_type1 (thn (ha.run pos pins s σ H _ I h) fun us s1 ⟨vs, H1, I1, r1, q1⟩ => ?_) hs hpl))
  obtain ⟨z, b, ys, ex, hqy, q⟩ := q1
  subst ex
  cases r1 with
  | cons r rr =>
    cases rr with
    | cons r' rr =>
      cases rr
      obtain ⟨t, rfl⟩ := r
      cases r'
      have fresh5 : ∀ c, c ∈ [s1.heap.objs.size + 4, s1.heap.objs.size + 2, s1.heap.objs.size + 3, s1.heap.objs.size, s1.heap.objs.size + 1] → FpOk X pins H1 c := fun c hcm => by
        have e' : c = s1.heap.objs.size + 4 ∨ c = s1.heap.objs.size + 2 ∨ c = s1.heap.objs.size + 3 ∨ c = s1.heap.objs.size ∨ c = s1.heap.objs.size + 1 := by simpa using hcm
        have hle : s1.heap.objs.size ≤ c := by
          rcases e' with z | z | z | z | z
          · rw [z]; exact Nat.le_add_right _ _
          · rw [z]; exact Nat.le_add_right _ _
          · rw [z]; exact Nat.le_add_right _ _
          · rw [z]; exact Nat.le_refl _
          · rw [z]; exact Nat.le_add_right _ _
        exact I1.fpOk hle (I1.hok.fresh hle)
      obtain ⟨its2, rv2, p2, _⟩ := I1.tuple hqy
      obtain ⟨o2, ho2, _⟩ := id p2
      have hb : b < s1.heap.objs.size := Heap.lt_size ho2
      refine zip_begins2 (begins_text z t) (begins_tuple b its2.toArray) trivial (show s1.heap.IsTuple b its2.toArray from p2) fun h' hz hTI hTO g1 g2 hsz hk => wpAny_pyIter_zip hz ?_
      have I2 : Inv X pins σ H1 { s1 with heap := h' } := I1.kept (t' := s1.toks) hk
      exact ⟨s1.heap.objs.size + 4, [s1.heap.objs.size + 4, s1.heap.objs.size + 2, s1.heap.objs.size + 3, s1.heap.objs.size, s1.heap.objs.size + 1], _, _, H1, rfl, I2,
        turn_zipS (zip_sep2 (fp1 := []) (fp2 := [b]) (fun _ m => nomatch m) (fun c m => by rw [List.mem_singleton.mp m]; exact hb)) (Nat.ne_of_lt (Nat.lt_succ_of_lt hb)), ⟨hz, hTI, ⟨_, _, hTO⟩, ⟨_, g1, rfl, rfl⟩, ⟨_, g2, rfl, rfl⟩⟩, fresh5, q⟩
section
variable {X : Cx} {H0 : Hp} {ρ ρ1 : Env'} {α β γ : Type} {a b c e : Expr} {p pos apos : Pos}
theorem it_zipS {eb : β → Dat} {l1 : List Nat} {l2 : List β} {elts : List Expr} {kk : Nat} {tpos : Pos} (ha : Ev X H0 ρ a (tx l1)) (hb : Ev X H0 ρ b (tpnd eb l2)) (hm : X.mg "zip" = none) (hg : Gl X "zip" := by rfl) (hs : starEach [a, b] X.env = (false, eval a X.env) :: starEach [b] X.env := by rfl) (hs2 : starEach [b] X.env = (false, eval b X.env) :: starEach [] X.env := by rfl) (hpl : (backTo pos (starEach [b] X.env)).any (·.1) = false := by rfl) :
    Iter X H0 ρ (.Tuple elts kk tpos) (.Call (.Name "zip" p) [a, b] [] pos) ((l1.zip l2).map (tup2 chd eb)) := ⟨_, pi_zipS hg hm pa_w hs hpl, fun σ H N r R k => (ea_cons ha (ea_cons hb ea_nil (hs := hs2)) (hs := hs) σ H N r).imp fun vs H' ⟨N', s, n, r', q⟩ => by
  cases q with
  | cons a1 t =>
    cases t with
    | cons a2 t2 =>
      cases t2
      have h1 := at_str a1
      subst h1
      obtain ⟨p2, v2, rfl, q3, q4⟩ := at_seq a2
      refine ⟨SX.S l1, p2, v2, rfl, sqt_same r'.sub q3, k _ H' N' n s r' fun H02 ρ2 σ2 H2 N2 i s02 s2 r2 => ?_⟩
      have g3 := sqt_same r2.sub (sqt_same s2 q3)
      have l2l : v2.length = l2.length := by rw [q4.length, List.length_map]
      have l1l : (SX.S l1).cps.size = l1.length := by show l1.toArray.size = _; simp
      refine ⟨fun hi => ?_, fun hi => ?_⟩
      · rw [List.length_map, List.length_zip] at hi
        have i1 : i < l1.length := by omega
        have i2 : i < l2.length := by omega
        obtain ⟨y1, y2, y3⟩ := (q4.mono s2).get (i := i) (d := eb l2[i]) (by rw [List.getElem?_map, List.getElem?_eq_getElem i2]; rfl)
        refine ⟨⟨v2, y1, g3, by omega, y2⟩, fun x H3 y => ?_⟩
        obtain ⟨T, yy, c, rfl, hT, rfl, f1, f2⟩ := y
        have e1 : c = l1[i] := by
          have : (SX.S l1).cps[i]? = l1[i]? := by show l1.toArray[i]? = _; simp
          rw [this, List.getElem?_eq_getElem i1] at f1
          exact (Option.some.inj f1).symm
        subst e1
        have e2 := f2 _ g3
        rw [y2] at e2
        cases e2
        obtain ⟨r3, n3⟩ := r2.new (o := .tup [.str ⟨#[l1[i]]⟩, y1]) hT
        refine ⟨_, tup2 chd eb (l1[i], l2[i]), n3, Same.of_none hT, r3, ?_, .tup (.inl (.inl upd_same)) (.cons (.str _) (.cons (y3.mono n3) .nil))⟩
        rw [List.getElem?_map]
        have hz : (l1.zip l2)[i]? = some (l1[i], l2[i]) := by
          rw [List.getElem?_zip_eq_some]
          exact ⟨List.getElem?_eq_getElem i1, List.getElem?_eq_getElem i2⟩
        rw [hz]
        rfl
      · rw [List.length_map, List.length_zip] at hi
        exact ⟨v2, g3, by omega, by omega, by omega⟩⟩
end
/-! ### all, any of a list of truths -/
theorem Ats.bls {K : PySem.W.Frag} {H : Hp} : ∀ {vs : List V} {bs : List Bool}, Ats K H vs (bs.map .bl) → vs = bs.map .bl
  | [], [], _ => rfl
  | _ :: _, n :: ns, .cons a t => by
    cases a
    rw [Ats.bls t]
    rfl
  | [], _ :: _, h => by cases h
  | _ :: _, [], h => by cases h
section
variable {X : Cx} {H0 : Hp} {ρ ρ1 : Env'} {a : Expr} {p pos : Pos}
theorem ev_allL {bs : List Bool} (ha : EvB X H0 ρ a (lstd Dat.bl bs)) (hc : X.calm = true) (hm : X.mg "all" = none) (hg : Gl X "all" := by rfl) (he : starEach [a] X.env = (false, eval a X.env) :: starEach [] X.env := by rfl) (hpl : (backTo pos (starEach [] X.env)).any (·.1) = false := by rfl) :
    Ev X H0 ρ (.Call (.Name "all" p) [a] [] pos) (.bl (bs.all id)) := ev_blt (cr_all hc) hm (by decide +kernel) (eab1 ha he) (fun vs σ H N Q r q g => by
    obtain ⟨v, e1, e2⟩ := ats_one q
    obtain ⟨pp, us, e3, h1, h2⟩ := at_lst e2
    rw [h2.bls] at h1
    exact ⟨pp, bs, by rw [e1, e3], h1, goes_self g r (.bl _)⟩) hg (by decide) (by decide) he hpl
theorem ev_anyL {bs : List Bool} (ha : EvB X H0 ρ a (lstd Dat.bl bs)) (hc : X.calm = true) (hm : X.mg "any" = none) (hg : Gl X "any" := by rfl) (he : starEach [a] X.env = (false, eval a X.env) :: starEach [] X.env := by rfl) (hpl : (backTo pos (starEach [] X.env)).any (·.1) = false := by rfl) :
    Ev X H0 ρ (.Call (.Name "any" p) [a] [] pos) (.bl (bs.any id)) := ev_blt (cr_any hc) hm (by decide +kernel) (eab1 ha he) (fun vs σ H N Q r q g => by
    obtain ⟨v, e1, e2⟩ := ats_one q
    obtain ⟨pp, us, e3, h1, h2⟩ := at_lst e2
    rw [h2.bls] at h1
    exact ⟨pp, bs, by rw [e1, e3], h1, goes_self g r (.bl _)⟩) hg (by decide) (by decide) he hpl
end
theorem eom_ev {X : Cx} {H0 : Hp} {ρ : Env'} {α : Type} {e : Expr} {en : α → Dat} {m : M α} (h : EoM X H0 ρ e en m) : EvM X H0 ρ e en m := by
  cases m with
  | ok v => exact EvO.ev h
  | ex n => exact h
  | far => trivial
end B

namespace B
open PySem PySem.Spec PyProof.Rows L2
/-! ### x in a list, a tuple of whole numbers, of texts -/
theorem inV_ints (i : Int) (l : List Int) : inV (.int i) (l.map V.int) = decide (i ∈ l) := by
  unfold inV
  induction l with
  | nil => rfl
  | cons a l ih =>
    rw [List.map_cons, List.any_cons, ih]
    show ((a == i) || decide (i ∈ l)) = _
    by_cases h : a = i
    · subst h; simp
    · have : (a == i) = false := by simpa using h
      rw [this, Bool.false_or]
      have e : i ∈ a :: l ↔ i ∈ l := by simp [Ne.symm h]
      exact decide_eq_decide.mpr e.symm
theorem inV_strs (s : List Nat) (l : List (List Nat)) : inV (.str (SX.S s)) ((l.map SX.S).map V.str) = decide (s ∈ l) := by
  unfold inV
  induction l with
  | nil => rfl
  | cons a l ih =>
    rw [List.map_cons, List.map_cons, List.any_cons, ih]
    show ((SX.S a == SX.S s) || decide (s ∈ l)) = _
    by_cases h : a = s
    · subst h; simp
    · have : (SX.S a == SX.S s) = false := by
        have h2 : ¬ SX.S a = SX.S s := fun z => h (SX.S_inj z)
        simpa using h2
      rw [this, Bool.false_or]
      have e : s ∈ a :: l ↔ s ∈ l := by simp [Ne.symm h]
      exact decide_eq_decide.mpr e.symm
theorem flat_ints (l : List Int) : (l.map V.int).all flatV = true := by
  rw [List.all_map]; exact List.all_eq_true.mpr fun _ _ => rfl
theorem flat_strs (l : List Str) : (l.map V.str).all flatV = true := by
  rw [List.all_map]; exact List.all_eq_true.mpr fun _ _ => rfl
section
variable {X : Cx} {H0 : Hp} {ρ ρ1 : Env'} {a b : Expr} {pos : Pos}
theorem et_inL_int {i : Int} {l : List Int} (ha : Ev X H0 ρ a (.int i)) (hb : EvB X H0 ρ b (lstd Dat.int l)) (hm : behindInMarks .In b = false := by rfl) : EvT X H0 ρ (.Compare a [.In] [b] pos) (decide (i ∈ l)) :=
  evt_bin (fun _ _ h k => pt_cmpR op_in_seq h k hm) ha.toB hb fun x y σ H N Q r p q g => by
    obtain ⟨pp, vs, e, h1, h2⟩ := at_lst q
    have e2 := Ats.ints h2
    have e3 := at_int p
    subst e e2 e3
    exact ⟨pp, _, rfl, .inl h1, rfl, flat_ints l, by rw [inV_ints]; exact goes_self g r (.bl _)⟩
theorem ev_inL_int {i : Int} {l : List Int} (ha : Ev X H0 ρ a (.int i)) (hb : EvB X H0 ρ b (lstd Dat.int l)) (hm : behindInMarks .In b = false := by rfl) : Ev X H0 ρ (.Compare a [.In] [b] pos) (.bl (decide (i ∈ l))) :=
  ev_bin (fun _ _ h k => pe_cmpR op_in_seq h k hm) ha.toB hb fun x y σ H N Q r p q g => by
    obtain ⟨pp, vs, e, h1, h2⟩ := at_lst q
    have e2 := Ats.ints h2
    have e3 := at_int p
    subst e e2 e3
    exact ⟨pp, _, rfl, .inl h1, rfl, flat_ints l, by rw [inV_ints]; exact goes_self g r (.bl _)⟩
theorem et_ninL_int {i : Int} {l : List Int} (ha : Ev X H0 ρ a (.int i)) (hb : EvB X H0 ρ b (lstd Dat.int l)) (hm : behindInMarks .NotIn b = false := by rfl) : EvT X H0 ρ (.Compare a [.NotIn] [b] pos) (!decide (i ∈ l)) :=
  evt_bin (fun _ _ h k => pt_cmpR op_notIn_seq h k hm) ha.toB hb fun x y σ H N Q r p q g => by
    obtain ⟨pp, vs, e, h1, h2⟩ := at_lst q
    have e2 := Ats.ints h2
    have e3 := at_int p
    subst e e2 e3
    exact ⟨pp, _, rfl, .inl h1, rfl, flat_ints l, by rw [inV_ints]; exact goes_self g r (.bl _)⟩
theorem ev_ninL_int {i : Int} {l : List Int} (ha : Ev X H0 ρ a (.int i)) (hb : EvB X H0 ρ b (lstd Dat.int l)) (hm : behindInMarks .NotIn b = false := by rfl) : Ev X H0 ρ (.Compare a [.NotIn] [b] pos) (.bl (!decide (i ∈ l))) :=
  ev_bin (fun _ _ h k => pe_cmpR op_notIn_seq h k hm) ha.toB hb fun x y σ H N Q r p q g => by
    obtain ⟨pp, vs, e, h1, h2⟩ := at_lst q
    have e2 := Ats.ints h2
    have e3 := at_int p
    subst e e2 e3
    exact ⟨pp, _, rfl, .inl h1, rfl, flat_ints l, by rw [inV_ints]; exact goes_self g r (.bl _)⟩
theorem et_inL_str {i : List Nat} {l : List (List Nat)} (ha : Ev X H0 ρ a (tx i)) (hb : EvB X H0 ρ b (lstd tx l)) (hm : behindInMarks .In b = false := by rfl) : EvT X H0 ρ (.Compare a [.In] [b] pos) (decide (i ∈ l)) :=
  evt_bin (fun _ _ h k => pt_cmpR op_in_seq h k hm) ha.toB hb fun x y σ H N Q r p q g => by
    obtain ⟨pp, vs, e, h1, h2⟩ := at_lst q
    rw [show l.map tx = (l.map SX.S).map Dat.str by rw [List.map_map]; rfl] at h2
    have e2 := ats_strs h2
    have e3 := at_str p
    subst e e2 e3
    exact ⟨pp, _, rfl, .inl h1, rfl, flat_strs (l.map SX.S), by rw [inV_strs]; exact goes_self g r (.bl _)⟩
theorem ev_inL_str {i : List Nat} {l : List (List Nat)} (ha : Ev X H0 ρ a (tx i)) (hb : EvB X H0 ρ b (lstd tx l)) (hm : behindInMarks .In b = false := by rfl) : Ev X H0 ρ (.Compare a [.In] [b] pos) (.bl (decide (i ∈ l))) :=
  ev_bin (fun _ _ h k => pe_cmpR op_in_seq h k hm) ha.toB hb fun x y σ H N Q r p q g => by
    obtain ⟨pp, vs, e, h1, h2⟩ := at_lst q
    rw [show l.map tx = (l.map SX.S).map Dat.str by rw [List.map_map]; rfl] at h2
    have e2 := ats_strs h2
    have e3 := at_str p
    subst e e2 e3
    exact ⟨pp, _, rfl, .inl h1, rfl, flat_strs (l.map SX.S), by rw [inV_strs]; exact goes_self g r (.bl _)⟩
theorem et_ninL_str {i : List Nat} {l : List (List Nat)} (ha : Ev X H0 ρ a (tx i)) (hb : EvB X H0 ρ b (lstd tx l)) (hm : behindInMarks .NotIn b = false := by rfl) : EvT X H0 ρ (.Compare a [.NotIn] [b] pos) (!decide (i ∈ l)) :=
  evt_bin (fun _ _ h k => pt_cmpR op_notIn_seq h k hm) ha.toB hb fun x y σ H N Q r p q g => by
    obtain ⟨pp, vs, e, h1, h2⟩ := at_lst q
    rw [show l.map tx = (l.map SX.S).map Dat.str by rw [List.map_map]; rfl] at h2
    have e2 := ats_strs h2
    have e3 := at_str p
    subst e e2 e3
    exact ⟨pp, _, rfl, .inl h1, rfl, flat_strs (l.map SX.S), by rw [inV_strs]; exact goes_self g r (.bl _)⟩
theorem ev_ninL_str {i : List Nat} {l : List (List Nat)} (ha : Ev X H0 ρ a (tx i)) (hb : EvB X H0 ρ b (lstd tx l)) (hm : behindInMarks .NotIn b = false := by rfl) : Ev X H0 ρ (.Compare a [.NotIn] [b] pos) (.bl (!decide (i ∈ l))) :=
  ev_bin (fun _ _ h k => pe_cmpR op_notIn_seq h k hm) ha.toB hb fun x y σ H N Q r p q g => by
    obtain ⟨pp, vs, e, h1, h2⟩ := at_lst q
    rw [show l.map tx = (l.map SX.S).map Dat.str by rw [List.map_map]; rfl] at h2
    have e2 := ats_strs h2
    have e3 := at_str p
    subst e e2 e3
    exact ⟨pp, _, rfl, .inl h1, rfl, flat_strs (l.map SX.S), by rw [inV_strs]; exact goes_self g r (.bl _)⟩
theorem et_inT_int {i : Int} {l : List Int} (ha : Ev X H0 ρ a (.int i)) (hb : EvB X H0 ρ b (tpnd Dat.int l)) (hm : behindInMarks .In b = false := by rfl) : EvT X H0 ρ (.Compare a [.In] [b] pos) (decide (i ∈ l)) :=
  evt_bin (fun _ _ h k => pt_cmpR op_in_seq h k hm) ha.toB hb fun x y σ H N Q r p q g => by
    obtain ⟨pp, vs, e, h1, h2⟩ := at_seq q
    have e2 := Ats.ints h2
    have e3 := at_int p
    subst e e2 e3
    exact ⟨pp, _, rfl, .inr h1, rfl, flat_ints l, by rw [inV_ints]; exact goes_self g r (.bl _)⟩
theorem ev_inT_int {i : Int} {l : List Int} (ha : Ev X H0 ρ a (.int i)) (hb : EvB X H0 ρ b (tpnd Dat.int l)) (hm : behindInMarks .In b = false := by rfl) : Ev X H0 ρ (.Compare a [.In] [b] pos) (.bl (decide (i ∈ l))) :=
  ev_bin (fun _ _ h k => pe_cmpR op_in_seq h k hm) ha.toB hb fun x y σ H N Q r p q g => by
    obtain ⟨pp, vs, e, h1, h2⟩ := at_seq q
    have e2 := Ats.ints h2
    have e3 := at_int p
    subst e e2 e3
    exact ⟨pp, _, rfl, .inr h1, rfl, flat_ints l, by rw [inV_ints]; exact goes_self g r (.bl _)⟩
theorem et_ninT_int {i : Int} {l : List Int} (ha : Ev X H0 ρ a (.int i)) (hb : EvB X H0 ρ b (tpnd Dat.int l)) (hm : behindInMarks .NotIn b = false := by rfl) : EvT X H0 ρ (.Compare a [.NotIn] [b] pos) (!decide (i ∈ l)) :=
  evt_bin (fun _ _ h k => pt_cmpR op_notIn_seq h k hm) ha.toB hb fun x y σ H N Q r p q g => by
    obtain ⟨pp, vs, e, h1, h2⟩ := at_seq q
    have e2 := Ats.ints h2
    have e3 := at_int p
    subst e e2 e3
    exact ⟨pp, _, rfl, .inr h1, rfl, flat_ints l, by rw [inV_ints]; exact goes_self g r (.bl _)⟩
theorem ev_ninT_int {i : Int} {l : List Int} (ha : Ev X H0 ρ a (.int i)) (hb : EvB X H0 ρ b (tpnd Dat.int l)) (hm : behindInMarks .NotIn b = false := by rfl) : Ev X H0 ρ (.Compare a [.NotIn] [b] pos) (.bl (!decide (i ∈ l))) :=
  ev_bin (fun _ _ h k => pe_cmpR op_notIn_seq h k hm) ha.toB hb fun x y σ H N Q r p q g => by
    obtain ⟨pp, vs, e, h1, h2⟩ := at_seq q
    have e2 := Ats.ints h2
    have e3 := at_int p
    subst e e2 e3
    exact ⟨pp, _, rfl, .inr h1, rfl, flat_ints l, by rw [inV_ints]; exact goes_self g r (.bl _)⟩
theorem et_inT_str {i : List Nat} {l : List (List Nat)} (ha : Ev X H0 ρ a (tx i)) (hb : EvB X H0 ρ b (tpnd tx l)) (hm : behindInMarks .In b = false := by rfl) : EvT X H0 ρ (.Compare a [.In] [b] pos) (decide (i ∈ l)) :=
  evt_bin (fun _ _ h k => pt_cmpR op_in_seq h k hm) ha.toB hb fun x y σ H N Q r p q g => by
    obtain ⟨pp, vs, e, h1, h2⟩ := at_seq q
    rw [show l.map tx = (l.map SX.S).map Dat.str by rw [List.map_map]; rfl] at h2
    have e2 := ats_strs h2
    have e3 := at_str p
    subst e e2 e3
    exact ⟨pp, _, rfl, .inr h1, rfl, flat_strs (l.map SX.S), by rw [inV_strs]; exact goes_self g r (.bl _)⟩
theorem ev_inT_str {i : List Nat} {l : List (List Nat)} (ha : Ev X H0 ρ a (tx i)) (hb : EvB X H0 ρ b (tpnd tx l)) (hm : behindInMarks .In b = false := by rfl) : Ev X H0 ρ (.Compare a [.In] [b] pos) (.bl (decide (i ∈ l))) :=
  ev_bin (fun _ _ h k => pe_cmpR op_in_seq h k hm) ha.toB hb fun x y σ H N Q r p q g => by
    obtain ⟨pp, vs, e, h1, h2⟩ := at_seq q
    rw [show l.map tx = (l.map SX.S).map Dat.str by rw [List.map_map]; rfl] at h2
    have e2 := ats_strs h2
    have e3 := at_str p
    subst e e2 e3
    exact ⟨pp, _, rfl, .inr h1, rfl, flat_strs (l.map SX.S), by rw [inV_strs]; exact goes_self g r (.bl _)⟩
theorem et_ninT_str {i : List Nat} {l : List (List Nat)} (ha : Ev X H0 ρ a (tx i)) (hb : EvB X H0 ρ b (tpnd tx l)) (hm : behindInMarks .NotIn b = false := by rfl) : EvT X H0 ρ (.Compare a [.NotIn] [b] pos) (!decide (i ∈ l)) :=
  evt_bin (fun _ _ h k => pt_cmpR op_notIn_seq h k hm) ha.toB hb fun x y σ H N Q r p q g => by
    obtain ⟨pp, vs, e, h1, h2⟩ := at_seq q
    rw [show l.map tx = (l.map SX.S).map Dat.str by rw [List.map_map]; rfl] at h2
    have e2 := ats_strs h2
    have e3 := at_str p
    subst e e2 e3
    exact ⟨pp, _, rfl, .inr h1, rfl, flat_strs (l.map SX.S), by rw [inV_strs]; exact goes_self g r (.bl _)⟩
theorem ev_ninT_str {i : List Nat} {l : List (List Nat)} (ha : Ev X H0 ρ a (tx i)) (hb : EvB X H0 ρ b (tpnd tx l)) (hm : behindInMarks .NotIn b = false := by rfl) : Ev X H0 ρ (.Compare a [.NotIn] [b] pos) (.bl (!decide (i ∈ l))) :=
  ev_bin (fun _ _ h k => pe_cmpR op_notIn_seq h k hm) ha.toB hb fun x y σ H N Q r p q g => by
    obtain ⟨pp, vs, e, h1, h2⟩ := at_seq q
    rw [show l.map tx = (l.map SX.S).map Dat.str by rw [List.map_map]; rfl] at h2
    have e2 := ats_strs h2
    have e3 := at_str p
    subst e e2 e3
    exact ⟨pp, _, rfl, .inr h1, rfl, flat_strs (l.map SX.S), by rw [inV_strs]; exact goes_self g r (.bl _)⟩
end
end B

namespace B
open PySem PySem.Spec PyProof.Rows L2
/-! ### a nested thing of one's own: flows -/
def OcZ.out {τ : Type} : OcZ τ → Prop
  | .nx _ _ => False
  | _ => True
/-- it leaves the def -/
def OcZ.fin {τ : Type} : OcZ τ → Prop
  | .rt _ => True
  | .ro _ => True
  | .rz _ _ => True
  | .ex _ _ => True
  | _ => False
theorem OcZ.fin_out {τ : Type} {o : OcZ τ} (h : o.fin) : o.out := by cases o <;> first | trivial | exact h.elim
def Fl.Dz {τ S L R : Type} (eS : S → Env') (tS : S → τ) (eL : L → Env') (tL : L → τ) (oR : R → OcZ τ) : Fl S L R → OcZ τ
  | .nx s => .nx (eS s) (tS s)
  | .ct s => .ct (eL s) (tL s)
  | .bk s => .bk (eL s) (tL s)
  | .rt r => oR r
def ExSMZ {τ : Type} {X : Cx} (z : Zp X.K τ) (H0 : Hp) (i : Nat) {γ : Type} (ρ : Env') (t : τ) (k : Nat) (st : Stmt) (D : γ → OcZ τ) (m : M γ) : Prop := match m with
  | .ok v => ExSZ z H0 i ρ t st (D v)
  | .ex n => ExSZ z H0 i ρ t st (.ex n (List.replicate k .no))
  | .far => True
section
variable {τ α β γ S S' L R : Type} {X : Cx} {z : Zp X.K τ} {H0 : Hp} {i k : Nat} {Φ : Hp → Prop} {ρ ρ1 : Env'} {t t1 : τ} {st : Stmt} {sts rest body as bs : List Stmt} {b c e : Expr} {p1 pos : Pos} {o : OcZ τ} {D : γ → OcZ τ} {d : Dat} {ds : List Dat}
theorem ez_out (h : ExSZ z H0 i ρ t st o) (ho : o.out) : ExecZ z H0 i ρ t (st :: rest) o := fun D σ H N r c => by
  refine wb_of (pss_cons ps_w pb_w) ?_
  show WS X st { D with nx := WB X rest D } σ H
  refine h _ σ H N r ?_
  cases o <;> first | exact ho.elim | exact c
theorem sz_if {g : Bool} (hc : EtZ z H0 i ρ t c g) (k1 : g = true → ExecZ z H0 i ρ t as o) (k2 : g = false → ExecZ z H0 i ρ t bs o) : ExSZ z H0 i ρ t (.If c as bs pos) o := fun DD σ H N s cc => by
  refine ws_of (ps_if pt_w pb_w pb_w) ((hc σ H N s).imp fun v H' ⟨e1, _, s'⟩ => ?_)
  subst e1
  cases v with
  | true => exact iteT (k1 rfl DD σ H' N s' cc)
  | false => exact iteF (k2 rfl DD σ H' N s' cc)
theorem sz_ifM {D : β → OcZ τ} {g : Bool} {m1 m2 : M β} (hc : EtZ z H0 i ρ t c g) (h1 : g = true → ExMZ z H0 i ρ t k as D m1) (h2 : g = false → ExMZ z H0 i ρ t k bs D m2) : ExSMZ z H0 i ρ t k (.If c as bs pos) D (if g = true then m1 else m2) := by
  cases g with
  | true =>
    rw [if_pos rfl]
    have h1 := h1 rfl
    cases m1 with
    | ok v => exact sz_if hc (fun _ => h1) (fun q => nomatch q)
    | ex n => exact sz_if hc (fun _ => h1) (fun q => nomatch q)
    | far => trivial
  | false =>
    rw [if_neg (by decide)]
    have h2 := h2 rfl
    cases m2 with
    | ok v => exact sz_if hc (fun q => nomatch q) (fun _ => h2)
    | ex n => exact sz_if hc (fun q => nomatch q) (fun _ => h2)
    | far => trivial
/-- the first way leaves the def, or the loop -/
theorem xz_ifX {g : Bool} {m m2 : M γ} (hD : ∀ v, (D v).out) (hc : EtZ z H0 i ρ t c g) (h1 : g = true → ExMZ z H0 i ρ t k as D m) (h2 : g = false → ExMZ z H0 i ρ t k rest D m2) : ExMZ z H0 i ρ t k (.If c as [] pos :: rest) D (if g = true then m else m2) := by
  cases g with
  | true =>
    rw [if_pos rfl]
    have h1 := h1 rfl
    cases m with
    | ok v => exact ez_out (sz_if hc (fun _ => h1) (fun q => nomatch q)) (hD v)
    | ex n => exact ez_out (o := .ex n _) (sz_if hc (fun _ => h1) (fun q => nomatch q)) trivial
    | far => trivial
  | false =>
    rw [if_neg (by decide)]
    exact xz_then (sz_if (o := .nx ρ t) hc (fun q => nomatch q) (fun _ => ez_nil)) (h2 rfl)
theorem xz_ifXX {g : Bool} {m m2 : M γ} (hD : ∀ v, (D v).out) (hc : EtZ z H0 i ρ t c g) (h1 : g = true → ExMZ z H0 i ρ t k as D m) (h2 : g = false → ExMZ z H0 i ρ t k bs D m2) : ExMZ z H0 i ρ t k (.If c as bs pos :: rest) D (if g = true then m else m2) := by
  have h := sz_ifM (pos := pos) hc h1 h2
  generalize (if g = true then m else m2) = mm at *
  cases mm with
  | ok v => exact ez_out h (hD v)
  | ex n => exact ez_out (o := .ex n _) h trivial
  | far => trivial
theorem ez_flow {eS : S → Env'} {tS : S → τ} {eL : L → Env'} {tL : L → τ} {oR : R → OcZ τ} {eS' : S' → Env'} {tS' : S' → τ} {mf : M (Fl S L R)} {f : S → M (Fl S' L R)} (hR : ∀ r, (oR r).out) (h : ExSMZ z H0 i ρ t k st (Fl.Dz eS tS eL tL oR) mf) (tt : ∀ s, ExMZ z H0 i (eS s) (tS s) k rest (Fl.Dz eS' tS' eL tL oR) (f s)) : ExMZ z H0 i ρ t k (st :: rest) (Fl.Dz eS' tS' eL tL oR) (M.seq mf f) := by
  cases mf with
  | ok v =>
    cases v with
    | nx s => exact xz_then h (tt s)
    | ct s => exact ez_out (o := .ct _ _) h trivial
    | bk s => exact ez_out (o := .bk _ _) h trivial
    | rt r => exact ez_out h (hR r)
  | ex n => exact ez_out (o := .ex n _) h trivial
  | far => trivial
theorem ez_flowT {eS : S → Env'} {tS : S → τ} {eL : L → Env'} {tL : L → τ} {oR : R → OcZ τ} {mf : M (Fl S L R)} {f : S → M R} (hR : ∀ r, (oR r).out) (h : ExSMZ z H0 i ρ t k st (Fl.Dz eS tS eL tL oR) mf) (tt : ∀ s, ExMZ z H0 i (eS s) (tS s) k rest oR (f s)) : ExMZ z H0 i ρ t k (st :: rest) oR (M.seqT mf f) := by
  cases mf with
  | ok v =>
    cases v with
    | nx s => exact xz_then h (tt s)
    | ct s => trivial
    | bk s => trivial
    | rt r => exact ez_out h (hR r)
  | ex n => exact ez_out (o := .ex n _) h trivial
  | far => trivial
theorem xz_ifJ {g : Bool} {eS : S → Env'} {tS : S → τ} {eL : L → Env'} {tL : L → τ} {oR : R → OcZ τ} {eS' : S' → Env'} {tS' : S' → τ} {m1 m2 : M (Fl S L R)} {f : S → M (Fl S' L R)} (hR : ∀ r, (oR r).out) (hc : EtZ z H0 i ρ t c g) (h1 : g = true → ExMZ z H0 i ρ t k as (Fl.Dz eS tS eL tL oR) m1) (h2 : g = false → ExMZ z H0 i ρ t k bs (Fl.Dz eS tS eL tL oR) m2) (tt : ∀ s, ExMZ z H0 i (eS s) (tS s) k rest (Fl.Dz eS' tS' eL tL oR) (f s)) :
    ExMZ z H0 i ρ t k (.If c as bs pos :: rest) (Fl.Dz eS' tS' eL tL oR) (M.seq (if g = true then m1 else m2) f) := ez_flow hR (sz_ifM hc h1 h2) tt
theorem xz_ifJT {g : Bool} {eS : S → Env'} {tS : S → τ} {eL : L → Env'} {tL : L → τ} {oR : R → OcZ τ} {m1 m2 : M (Fl S L R)} {f : S → M R} (hR : ∀ r, (oR r).out) (hc : EtZ z H0 i ρ t c g) (h1 : g = true → ExMZ z H0 i ρ t k as (Fl.Dz eS tS eL tL oR) m1) (h2 : g = false → ExMZ z H0 i ρ t k bs (Fl.Dz eS tS eL tL oR) m2) (tt : ∀ s, ExMZ z H0 i (eS s) (tS s) k rest oR (f s)) :
    ExMZ z H0 i ρ t k (.If c as bs pos :: rest) oR (M.seqT (if g = true then m1 else m2) f) := ez_flowT hR (sz_ifM hc h1 h2) tt
/-! ends -/
theorem sz_break : ExSZ z H0 i ρ t (.Break pos) (.bk ρ t) := fun D σ H N r k => ws_of ps_break (k σ H N (Same.refl _) r)
theorem sz_continue : ExSZ z H0 i ρ t (.Continue pos) (.ct ρ t) := fun D σ H N r k => ws_of ps_continue (k σ H N (Same.refl _) r)
theorem xz_brk {v : γ} (hD : D v = .bk ρ t := by rfl) : ExMZ z H0 i ρ t k (.Break pos :: rest) D (.ok v) := by
  show ExecZ z H0 i ρ t _ (D v)
  rw [hD]
  exact ez_out sz_break trivial
theorem xz_cnt {v : γ} (hD : D v = .ct ρ t := by rfl) : ExMZ z H0 i ρ t k (.Continue pos :: rest) D (.ok v) := by
  show ExecZ z H0 i ρ t _ (D v)
  rw [hD]
  exact ez_out sz_continue trivial
/-- the thing is given up where a block ends that leaves the def -/
theorem xz_leave {eR : R → Dat} {m : M γ} {oo : γ → Outc} (hn : noOl ρ) (hi : i < ρ.length) (h : ExM X H0 (ρ.set i (.im (z.en t))) k sts oo m) (hD : ∀ v, (∃ d, oo v = .rt d ∧ D v = .rt d) ∨ (∃ d, oo v = .ro d ∧ D v = .ro d)) : ExMZ z H0 i ρ t k sts D m := by
  cases m with
  | ok r =>
    show ExecZ z H0 i ρ t sts (D r)
    have h : Exec X H0 (ρ.set i (.im (z.en t))) sts (oo r) := h
    rcases hD r with ⟨d, e1, e2⟩ | ⟨d, e1, e2⟩
    · rw [e2]
      rw [e1] at h
      exact fun DD σ H N ⟨p, Hs, n, dd, rr⟩ c => let ⟨s1, r1⟩ := Rep.frz hn hi n dd rr; h DD σ H _ r1 fun v H' a b q => c v H' a (s1.trans b) q
    · rw [e2]
      rw [e1] at h
      exact fun DD σ H N ⟨p, Hs, n, dd, rr⟩ c => let ⟨s1, r1⟩ := Rep.frz hn hi n dd rr; h DD σ H _ r1 fun p' H' N2 a b => c p' H' N2 a (s1.trans b)
  | ex n => exact fun DD σ H N ⟨p, Hs, nn, d, rr⟩ ⟨W, tk, c⟩ => let ⟨s1, r1⟩ := Rep.frz hn hi nn d rr; h DD σ H _ r1 ⟨W, tk, fun C σ' H' N' m s r' => c C σ' H' N' m (s1.trans s) r'⟩
  | far => trivial
theorem xz_leaveT {m : M γ} {eR : γ → Dat} (hn : noOl ρ) (hi : i < ρ.length) (h : ExM X H0 (ρ.set i (.im (z.en t))) k sts (fun r => .rt (eR r)) m) : ExMZ z H0 i ρ t k sts (fun r => .rt (eR r)) m := xz_leave (eR := eR) hn hi h fun v => .inl ⟨_, rfl, rfl⟩
/-- .. from within a loop or an if -/
theorem xz_leaveF {eS : S → Env'} {tS : S → τ} {eL : L → Env'} {tL : L → τ} {eR : R → Dat} {m : M R} (hn : noOl ρ) (hi : i < ρ.length) (h : ExM X H0 (ρ.set i (.im (z.en t))) k sts (fun r => .rt (eR r)) m) : ExMZ z H0 i ρ t k sts (Fl.Dz eS tS eL tL (fun r => .rt (eR r))) (M.bind m fun r => .ok (.rt r)) := by
  have h2 := xz_leaveT hn hi h
  cases m with
  | ok r => exact h2
  | ex n => exact h2
  | far => trivial
/-! a statement that may read the thing: a name is given flat data -/
theorem xz_setSee {en : β → Dat} {v : β} {f : β → M γ} (j : Nat) {x : Str} {pos' : Pos} (hn : noOl ρ) (hi : i < ρ.length) (hij : j ≠ i) (hΦ : Φ H0) (h : ∀ H0', Φ H0' → Ev X H0' (ρ.set i (.im (z.en t))) e (en v)) (hf : flat (en v) = true) (nd : X.N.Nodup) (tt : ∀ v, ExMZ z H0 i (ρ.set j (.im (en v))) t k rest D (f v)) (hj : X.N[j]? = some x := by rfl) (hx : Loc X.env.scope x := by first | exact Or.inl rfl | exact Or.inr rfl)
    (hs : swapsWith e (some (.Name x pos')) pos.line X.env = pure false := by rfl) (hff : X.fn x = true ∨ X.env.scope.names.lookup x = some .local := by first | exact .inl rfl | exact .inr rfl | assumption) : ExMZ z H0 i ρ t k (.Assign [.Name x pos'] e pos :: rest) D (M.lt v f) := by
  refine xz_then (ρ1 := ρ.set j (.im (en v))) (t1 := t) (fun DD σ H N ⟨p, Hs, n, d, r⟩ kk => ?_) (tt v)
  obtain ⟨s1, r1⟩ := Rep.frz hn hi n d r
  refine ws_of (ps_set nd hj hx pe_w hs hff) ((h H0 hΦ σ H _ r1).imp fun w H' ⟨N', s, s2, r', a⟩ => ?_)
  have rg := r.grow s
  obtain ⟨N2, n2, r2, kp⟩ := rg.keep
  have a2 : At X.K N2 w (en v) := ((a.mono r'.sub).imm hf).mono kp
  have r3 := r2.setE (i := j) (v := w) (e := .im (en v)) a2
  rw [List.set_comm _ _ (Ne.symm hij)] at r3
  exact kk _ _ _ n2 ⟨p, Hs, z.mono n2 n, d, r3⟩
end
/-! ### for -/
section
variable {τ α β γ S S' L R : Type} {X : Cx} {z : Zp X.K τ} {H0 : Hp} {i k : Nat} {Φ : Hp → Prop} {ρ ρ1 : Env'} {t t1 : τ} {st : Stmt} {sts rest body as bs : List Stmt} {a b c e tg iter : Expr} {p p1 pos : Pos} {o : OcZ τ} {D : γ → OcZ τ} {d : Dat} {ds : List Dat}
def IterZ (X : Cx) (Φ : Hp → Prop) (i : Nat) (ρ : Env') (tg e : Expr) (ds : List Dat) : Prop := ∃ wi, PI X tg e wi ∧ ∀ H0' p σ H N, Φ H0' → Rep X.K H0' (ρ.set i (.rf p)) σ H N → ∀ R, (∀ J H1 N1, Same N N1 → Same H H1 → Rep X.K H0' (ρ.set i (.rf p)) σ H1 N1 → (∀ G, Walks X.K G J N1 ds) → R J H1) → wi σ H R
theorem iz_str {w : Str} (h : ∀ H0' p, Φ H0' → Ev X H0' (ρ.set i (.rf p)) e (.str w)) : IterZ X Φ i ρ tg e (signs w) := ⟨_, pi_str pe_w, fun H0' p σ H N f r R k => (h H0' p f σ H N r).imp fun v H' ⟨N', s, n, r', a⟩ => by
  refine ⟨w, at_str a, k _ H' N' n s r' fun G H02 ρ2 σ2 H2 N2 j s02 s2 r2 => ⟨fun hi => ?_, fun hi => ?_⟩⟩
  · have hz : j < w.cps.size := by simpa [signs] using hi
    refine ⟨hz, fun x H3 y => ?_⟩
    obtain ⟨rfl, c, y1, rfl⟩ := y
    refine ⟨N2, .str ⟨#[c]⟩, Same.refl _, Same.refl _, r2, ?_, .str _⟩
    unfold signs
    rw [List.getElem?_map, Array.getElem?_toList, y1]
    rfl
  · show w.cps.size ≤ j
    rw [hi]
    simp [signs]⟩
theorem iz_tx {l : List Nat} (h : ∀ H0' p, Φ H0' → Ev X H0' (ρ.set i (.rf p)) e (tx l)) : IterZ X Φ i ρ tg e (l.map chd) := iz_str (w := SX.S l) h
theorem iz_list {en : α → Dat} {l : List α} (h : ∀ H0' p, Φ H0' → Ev X H0' (ρ.set i (.rf p)) e (lstd en l)) : IterZ X Φ i ρ tg e (l.map en) := ⟨_, pi_list pe_w, fun H0' q σ H N f r R k => (h H0' q f σ H N r).imp fun v H' ⟨N', s, n, r', a⟩ => by
  obtain ⟨p, vs, rfl, h1, h2⟩ := at_lst a
  refine ⟨p, rfl, ⟨vs, sql_same r'.sub h1⟩, k _ H' N' n s r' fun G H02 ρ2 σ2 H2 N2 i s02 s2 r2 => ⟨fun hi => ?_, fun hi => ⟨vs, sql_same (s2.trans r2.sub) h1, by rw [h2.length]; exact Nat.le_of_eq hi.symm⟩⟩⟩
  have hv : i < vs.length := by rw [h2.length]; exact hi
  refine ⟨⟨vs, vs[i], sql_same (s2.trans r2.sub) h1, by simp [hv]⟩, fun x H3 y => ?_⟩
  obtain ⟨rfl, y⟩ := y
  obtain ⟨d, e1, e2⟩ := h2.getV (y vs (sql_same (s2.trans r2.sub) h1))
  exact ⟨N2, d, Same.refl _, Same.refl _, r2, e1, e2.mono s2⟩⟩
theorem iz_tup {en : α → Dat} {l : List α} (h : ∀ H0' p, Φ H0' → Ev X H0' (ρ.set i (.rf p)) e (tpnd en l)) : IterZ X Φ i ρ tg e (l.map en) := ⟨_, pi_tup pe_w, fun H0' q σ H N f r R k => (h H0' q f σ H N r).imp fun v H' ⟨N', s, n, r', a⟩ => by
  obtain ⟨p, vs, rfl, h1, h2⟩ := at_seq a
  refine ⟨p, rfl, ⟨vs, sqt_same r'.sub h1⟩, k _ H' N' n s r' fun G H02 ρ2 σ2 H2 N2 i s02 s2 r2 => ⟨fun hi => ?_, fun hi => ⟨vs, sqt_same (s2.trans r2.sub) h1, by rw [h2.length]; exact Nat.le_of_eq hi.symm⟩⟩⟩
  have hv : i < vs.length := by rw [h2.length]; exact hi
  refine ⟨⟨vs, vs[i], sqt_same (s2.trans r2.sub) h1, by simp [hv]⟩, fun x H3 y => ?_⟩
  obtain ⟨rfl, y⟩ := y
  obtain ⟨d, e1, e2⟩ := h2.getV (y vs (sqt_same (s2.trans r2.sub) h1))
  exact ⟨N2, d, Same.refl _, Same.refl _, r2, e1, e2.mono s2⟩⟩
theorem iz_r1 {j : Int} (h : ∀ H0' p, Φ H0' → Ev X H0' (ρ.set i (.rf p)) a (.int j)) (hb : rngOk 0 j = true) (hm : X.mg "range" = none) (hg : Gl X "range" := by rfl) (hs : starEach [a] X.env = [(false, eval a X.env)] := by rfl) :
    IterZ X Φ i ρ tg (.Call (.Name "range" p) [a] [] pos) ((rng 0 1 j.toNat).map Dat.int) := ⟨_, pi_range1 hg hm pa_w hs, fun H0' q σ H N f r R k => (ea_cons (h H0' q f) ea_nil (hs := hs) σ H N r).imp fun vs H' ⟨N', s, n, r', g⟩ => by
  have hb' := rngOk_ok hb
  exact ⟨j, ats1 g, hb'.2.2.1, hb'.2.2.2, k _ H' N' n s r' fun G => by rw [← rng_steps]; exact wlk_r⟩⟩
theorem iz_r2 {j l : Int} (h : ∀ H0' p, Φ H0' → Ev X H0' (ρ.set i (.rf p)) a (.int j)) (h2 : ∀ H0' p, Φ H0' → Ev X H0' (ρ.set i (.rf p)) b (.int l)) (hb : rngOk j l = true) (hm : X.mg "range" = none) (hg : Gl X "range" := by rfl) (hs : starEach [a, b] X.env = [(false, eval a X.env), (false, eval b X.env)] := by rfl) (hs2 : starEach [b] X.env = [(false, eval b X.env)] := by rfl) :
    IterZ X Φ i ρ tg (.Call (.Name "range" p) [a, b] [] pos) ((rng j 1 (l - j).toNat).map Dat.int) := ⟨_, pi_range2 hg hm pa_w hs hs2, fun H0' q σ H N f r R k => (ea_cons (h H0' q f) (ea_cons (h2 H0' q f) ea_nil (hs := hs2)) (hs := by rw [hs, hs2]) σ H N r).imp fun vs H' ⟨N', s, n, r', g⟩ => ⟨j, l, ats2 g, rngOk_ok hb, k _ H' N' n s r' fun G => by rw [← rng_steps]; exact wlk_r⟩⟩
theorem iz_rdn {j l : Int} (h : ∀ H0' p, Φ H0' → Ev X H0' (ρ.set i (.rf p)) a (.int j)) (h2 : ∀ H0' p, Φ H0' → Ev X H0' (ρ.set i (.rf p)) b (.int l)) (h3 : ∀ H0' p, Φ H0' → Ev X H0' (ρ.set i (.rf p)) c (.int (-1))) (hb : rngOk j l = true) (hm : X.mg "range" = none) (hg : Gl X "range" := by rfl)
    (hs : ∀ l, PA X [a, b, c] l → PI X tg (.Call (.Name "range" p) [a, b, c] [] pos) (iRng3 l)) (s1 : starEach [a, b, c] X.env = (false, eval a X.env) :: starEach [b, c] X.env := by rfl) (s2 : starEach [b, c] X.env = (false, eval b X.env) :: starEach [c] X.env := by rfl) (s3 : starEach [c] X.env = (false, eval c X.env) :: starEach [] X.env := by rfl) :
    IterZ X Φ i ρ tg (.Call (.Name "range" p) [a, b, c] [] pos) ((rng j (-1) (j - l).toNat).map Dat.int) := ⟨_, hs _ pa_w, fun H0' q σ H N f r R k => (ea_cons (h H0' q f) (ea_cons (h2 H0' q f) (ea_cons (h3 H0' q f) ea_nil (hs := s3)) (hs := s2)) (hs := s1) σ H N r).imp fun vs H' ⟨N', s, n', r', g⟩ => by
  obtain ⟨b1, b2, b3, b4⟩ := rngOk_ok hb
  exact ⟨j, l, -1, _, ats3 g, RgC.neg b1 b2 b3 b4, k _ H' N' n' s r' fun G => by rw [← rng_steps]; exact wlk_c⟩⟩
/-- a target, whatever was there ahead -/
structure TgZ (X : Cx) (i : Nat) (t : Expr) (ok : Dat → Prop) (B : Dat → Env' → Env') : Prop where
  pg : ∃ g, PG X t g ∧ ∀ (H0 : Hp) (ρ : Env') (σ : L2.St) (H N : Hp) (v : V) (d : Dat) (q : Addr), Rep X.K H0 (ρ.set i (.rf q)) σ H N → At X.K N v d → ok d → ∀ Q, (∀ σ' H' N', Same N N' → Rep X.K H0 ((B d ρ).set i (.rf q)) σ' H' N' → Q σ' H') → g v σ H Q
theorem tgz_name (j : Nat) {x : Str} (hij : j ≠ i) (nd : X.N.Nodup) (hj : X.N[j]? = some x := by rfl) (hx : Loc X.env.scope x := by first | exact Or.inl rfl | exact Or.inr rfl)
    (hf : X.fn x = true ∨ X.env.scope.names.lookup x = some .local := by first | exact .inl rfl | exact .inr rfl | assumption) : TgZ X i (.Name x pos) (fun _ => True) (fun d ρ => ρ.set j (.im d)) :=
  ⟨gName j, pg_name nd hj hx hf, fun H0 ρ σ H N v d q r a _ Q k => k _ H N (Same.refl _) (by rw [List.set_comm _ _ hij]; exact r.setE (e := .im d) a)⟩
theorem tgz_pair (j l : Nat) {y w : Str} {p1 p2 : Pos} {kk : Nat} (hj : j ≠ i) (hl : l ≠ i) (nd : X.N.Nodup) (hc : X.calm = true) (hi : X.N[j]? = some y := by rfl) (hj' : X.N[l]? = some w := by rfl) (hx : Loc X.env.scope y := by first | exact Or.inl rfl | exact Or.inr rfl) (hx2 : Loc X.env.scope w := by first | exact Or.inl rfl | exact Or.inr rfl)
    (hf : X.fn y = true ∨ X.env.scope.names.lookup y = some .local := by first | exact .inl rfl | exact .inr rfl | assumption) (hf2 : X.fn w = true ∨ X.env.scope.names.lookup w = some .local := by first | exact .inl rfl | exact .inr rfl | assumption)
    (hn : (assignEach [Expr.Name y p1, .Name w p2] X.env).length = 2 := by rfl) (hst : (assignEach [Expr.Name y p1, .Name w p2] X.env).findIdx? (·.1) = none := by rfl)
    (h1 : (assignEach [Expr.Name y p1, .Name w p2] X.env).map (·.2) = assign (.Name y p1) X.env :: (assignEach [Expr.Name w p2] X.env).map (·.2) := by rfl) (h2 : (assignEach [Expr.Name w p2] X.env).map (·.2) = assign (.Name w p2) X.env :: (assignEach [] X.env).map (·.2) := by rfl) :
    TgZ X i (.Tuple [.Name y p1, .Name w p2] kk pos) (fun d => ∃ a b, d = .tup [a, b]) (fun d ρ => match d with | .tup [a, b] => (ρ.set j (.im a)).set l (.im b) | _ => ρ) := by
  refine ⟨_, pg_tup hc (pgs_cons (pg_name nd hi hx hf) (pgs_cons (pg_name nd hj' hx2 hf2) pgs_nil h2) h1) hn hst, fun H0 ρ σ H N v d q r a ok Q k => ?_⟩
  obtain ⟨d1, d2, rfl⟩ := ok
  obtain ⟨p, vs, rfl, q1, q2⟩ := at_seq a
  cases q2 with
  | cons a1 t =>
    cases t with
    | cons a2 t2 =>
      cases t2
      refine ⟨p, _, rfl, sqt_same r.sub q1, rfl, _, _, rfl, _, _, rfl, rfl, k _ H N (Same.refl _) ?_⟩
      show Rep X.K H0 (((ρ.set j (.im d1)).set l (.im d2)).set i (.rf q)) _ _ _
      rw [List.set_comm _ _ hl, List.set_comm _ _ hj]
      exact (r.setE (e := .im d1) a1).setE (e := .im d2) a2
/-- the turns of a for -/
inductive ForZ (z : Zp X.K τ) (H0 : Hp) (i : Nat) (B : Dat → Env' → Env') (body : List Stmt) : List Dat → Env' → τ → OcZ τ → Prop where
  | nil {ρ : Env'} {t : τ} : ForZ z H0 i B body [] ρ t (.nx ρ t)
  | turn {ρ ρ1 : Env'} {t t1 : τ} {d : Dat} {ds : List Dat} {o : OcZ τ} : ExecZ z H0 i (B d ρ) t body (.nx ρ1 t1) → ForZ z H0 i B body ds ρ1 t1 o → ForZ z H0 i B body (d :: ds) ρ t o
  | turnC {ρ ρ1 : Env'} {t t1 : τ} {d : Dat} {ds : List Dat} {o : OcZ τ} : ExecZ z H0 i (B d ρ) t body (.ct ρ1 t1) → ForZ z H0 i B body ds ρ1 t1 o → ForZ z H0 i B body (d :: ds) ρ t o
  | brk {ρ ρ1 : Env'} {t t1 : τ} {d : Dat} {ds : List Dat} : ExecZ z H0 i (B d ρ) t body (.bk ρ1 t1) → ForZ z H0 i B body (d :: ds) ρ t (.nx ρ1 t1)
  | stop {ρ : Env'} {t : τ} {d : Dat} {ds : List Dat} {o : OcZ τ} : o.fin → ExecZ z H0 i (B d ρ) t body o → ForZ z H0 i B body (d :: ds) ρ t o
theorem sz_for {bd : Dat → Env' → Env'} {ok : Dat → Prop} (hp : PassesOwn (model X.prog X.w) X.A X.env X.xe) (hc : X.calm = true) (hΦ : Φ H0) (mΦ : ∀ {A B : Hp}, Same A B → Φ A → Φ B) (hi : IterZ X Φ i ρ tg iter ds) (hg : TgZ X i tg ok bd) (hk : ∀ d ∈ ds, ok d) (h : ForZ z H0 i bd body ds ρ t o)
    (hs : ∀ x, foldedSetIterable iter X.env x = pure x := by intro _; rfl) : ExSZ z H0 i ρ t (.For tg iter body [] pos) o := fun D σ H N ⟨p, Hs, n0, d0, r⟩ k => by
  obtain ⟨wi, pi, hw⟩ := hi
  obtain ⟨g, pg, hgg⟩ := hg.pg
  refine ws_of (ps_for hp hc pi pg pb_w hs) (hw (Un H0 Hs) p σ H N (mΦ (un_same d0) hΦ) r _ fun J H1 N1 n1 s1 r1 w => ?_)
  refine ⟨fun j m σ' H' => m = ds.length - j ∧ j ≤ ds.length ∧ ∃ ρ' t' N', Same N1 N' ∧ StZ z H0 i ρ' t' σ' H' N' ∧ ForZ z H0 i bd body (ds.drop j) ρ' t' o, ⟨_, rfl, Nat.zero_le _, ρ, t, N1, Same.refl _, ⟨p, Hs, z.mono n1 n0, d0, r1⟩, h⟩, ?_⟩
  rintro j m σ' H' ⟨rfl, hj, ρ', t', N', s', ⟨p', Hs', n', d', r'⟩, f⟩
  obtain ⟨wg, wst⟩ := w (Un H0 Hs') (Un H0 Hs') (ρ'.set i (.rf p')) σ' H' N' j (Same.refl _) s' r'
  by_cases hlt : j < ds.length
  · obtain ⟨go, yl⟩ := wg hlt
    have e1 : ds.drop j = ds[j] :: ds.drop (j + 1) := List.drop_eq_getElem_cons hlt
    rw [e1] at f
    have base : ∀ (O : OcZ τ) (Dx : Ends), ExecZ z H0 i (bd ds[j] ρ') t' body O → (∀ N3, Same N1 N3 → ContZ z H0 i N3 Dx O) → ∀ x H2, J.yld j H' x H2 → g x σ' H2 fun σ3 H3 => WB X body Dx σ3 H3 := fun O Dx ex kk x H2 y => by
      obtain ⟨N3, d, n3, s3, r3, e3, a3⟩ := yl x H2 y
      have ed : d = ds[j] := by
        rw [List.getElem?_eq_getElem hlt] at e3
        exact (Option.some.inj e3).symm
      subst ed
      exact hgg _ ρ' σ' H2 N3 x _ p' r3 a3 (hk _ (List.getElem_mem hlt)) _ fun σ4 H4 N4 n4 r4 => ex Dx σ4 H4 N4 ⟨p', Hs', z.mono (n3.trans n4) n', d', r4⟩ (kk N4 ((s'.trans n3).trans n4))
    have again : ∀ ρ1 t1, ForZ z H0 i bd body (ds.drop (j + 1)) ρ1 t1 o → ∀ σ3 H3, (∃ N3, Same N1 N3 ∧ StZ z H0 i ρ1 t1 σ3 H3 N3) → ∃ m', m' < ds.length - j ∧ m' = ds.length - (j + 1) ∧ j + 1 ≤ ds.length ∧ ∃ ρ' t' N', Same N1 N' ∧ StZ z H0 i ρ' t' σ3 H3 N' ∧ ForZ z H0 i bd body (ds.drop (j + 1)) ρ' t' o :=
      fun ρ1 t1 ff σ3 H3 ⟨N3, q1, q2⟩ => ⟨ds.length - (j + 1), by omega, rfl, hlt, ρ1, t1, N3, q1, q2, ff⟩
    cases f with
    | @turn _ ρ1 _ t1 _ _ _ ex ff => exact .inr ⟨go, fun σ3 H3 => ∃ N3, Same N1 N3 ∧ StZ z H0 i ρ1 t1 σ3 H3 N3, again ρ1 t1 ff, base (.nx ρ1 t1) _ ex fun N3 q3 σ3 H3 N4 q4 r4 => ⟨N4, q3.trans q4, r4⟩⟩
    | @turnC _ ρ1 _ t1 _ _ _ ex ff => exact .inr ⟨go, fun σ3 H3 => ∃ N3, Same N1 N3 ∧ StZ z H0 i ρ1 t1 σ3 H3 N3, again ρ1 t1 ff, base (.ct ρ1 t1) _ ex fun N3 q3 σ3 H3 N4 q4 r4 => ⟨N4, q3.trans q4, r4⟩⟩
    | @brk _ ρ1 _ t1 _ _ ex => exact .inr ⟨go, fun _ _ => False, fun _ _ z => z.elim, base (.bk ρ1 t1) _ ex fun N3 q3 σ3 H3 N4 q4 r4 => k σ3 H3 N4 ((n1.trans q3).trans q4) r4⟩
    | stop hf ex =>
      refine .inr ⟨go, fun _ _ => False, fun _ _ z => z.elim, base _ _ ex fun N3 q3 => ?_⟩
      have kc := ContZ.mono k (n1.trans q3)
      cases o <;> first | exact hf.elim | exact kc
  · have e1 : j = ds.length := by omega
    subst e1
    rw [List.drop_length] at f
    cases f
    exact .inl ⟨wst rfl, k σ' H' N' (n1.trans s') ⟨p', Hs', n', d', r'⟩⟩
theorem forM_Z {ea : β → Dat} {bd : Dat → Env' → Env'} {eS : S → Env'} {tS : S → τ} {f : β → S → M S} (hb : ∀ x s, ExMZ z H0 i (bd (ea x) (eS s)) (tS s) k body (fun s => .nx (eS s) (tS s)) (f x s)) : ∀ (xs : List β) (s : S), match forM f xs s with | .ok s' => ForZ z H0 i bd body (xs.map ea) (eS s) (tS s) (.nx (eS s') (tS s')) | .ex n => ForZ z H0 i bd body (xs.map ea) (eS s) (tS s) (.ex n (List.replicate k .no)) | .far => True
  | [], s => .nil
  | x :: xs, s => by
    have h := hb x s
    show match (f x s).bind fun s' => forM f xs s' with | .ok s' => _ | .ex n => _ | .far => True
    cases e : f x s with
    | ok s1 =>
      rw [e] at h
      have ih := forM_Z hb xs s1
      show match forM f xs s1 with | .ok s' => _ | .ex n => _ | .far => True
      cases e2 : forM f xs s1 with
      | ok s2 => rw [e2] at ih; exact .turn h ih
      | ex n => rw [e2] at ih; exact .turn h ih
      | far => trivial
    | ex n => rw [e] at h; exact .stop trivial h
    | far => trivial
theorem forF_Z {ea : β → Dat} {bd : Dat → Env' → Env'} {eS : S → Env'} {tS : S → τ} {eL : L → Env'} {tL : L → τ} {oR : R → OcZ τ} {f : β → S → M (Fl S S R)} (hR : ∀ r, (oR r).fin) (hb : ∀ x s, ExMZ z H0 i (bd (ea x) (eS s)) (tS s) k body (Fl.Dz eS tS eS tS oR) (f x s)) : ∀ (xs : List β) (s : S), match (forF f xs s : M (Fl S L R)) with | .ok v => ForZ z H0 i bd body (xs.map ea) (eS s) (tS s) (Fl.Dz eS tS eL tL oR v) | .ex n => ForZ z H0 i bd body (xs.map ea) (eS s) (tS s) (.ex n (List.replicate k .no)) | .far => True
  | [], s => .nil
  | x :: xs, s => by
    have h := hb x s
    unfold forF
    cases e : f x s with
    | ok v =>
      rw [e] at h
      cases v with
      | nx s1 =>
        have ih := forF_Z (eL := eL) (tL := tL) hR hb xs s1
        show match (forF f xs s1 : M (Fl S L R)) with | .ok v => _ | .ex n => _ | .far => True
        cases e2 : (forF f xs s1 : M (Fl S L R)) with
        | ok s2 => rw [e2] at ih; exact .turn h ih
        | ex n => rw [e2] at ih; exact .turn h ih
        | far => trivial
      | ct s1 =>
        have ih := forF_Z (eL := eL) (tL := tL) hR hb xs s1
        show match (forF f xs s1 : M (Fl S L R)) with | .ok v => _ | .ex n => _ | .far => True
        cases e2 : (forF f xs s1 : M (Fl S L R)) with
        | ok s2 => rw [e2] at ih; exact .turnC h ih
        | ex n => rw [e2] at ih; exact .turnC h ih
        | far => trivial
      | bk s1 => exact .brk h
      | rt r => exact .stop (hR r) h
    | ex n => rw [e] at h; exact .stop trivial h
    | far => trivial
section
variable {ea : β → Dat} {bd : Dat → Env' → Env'} {ok : Dat → Prop}
theorem xz_for {eS : S → Env'} {tS : S → τ} {xs : List β} {s0 : S} {f : β → S → M S} {fk : S → M γ} (hp : PassesOwn (model X.prog X.w) X.A X.env X.xe) (hc : X.calm = true) (hΦ : Φ H0) (mΦ : ∀ {A B : Hp}, Same A B → Φ A → Φ B) (hi : IterZ X Φ i ρ tg iter (xs.map ea)) (hg : TgZ X i tg ok bd) (hok : ∀ d ∈ xs.map ea, ok d) (h0 : ρ = eS s0) (ht : t = tS s0) (hb : ∀ x s, ExMZ z H0 i (bd (ea x) (eS s)) (tS s) k body (fun s => .nx (eS s) (tS s)) (f x s)) (tt : ∀ s, ExMZ z H0 i (eS s) (tS s) k rest D (fk s))
    (hs : ∀ x, foldedSetIterable iter X.env x = pure x := by intro _; rfl) : ExMZ z H0 i ρ t k (.For tg iter body [] pos :: rest) D (M.bind (forM f xs s0) fk) := by
  have h := forM_Z hb xs s0
  subst h0
  subst ht
  cases e : forM f xs s0 with
  | ok s => rw [e] at h; exact xz_then (sz_for hp hc hΦ mΦ hi hg hok h hs) (tt s)
  | ex q => rw [e] at h; exact ez_ex (sz_for hp hc hΦ mΦ hi hg hok h hs)
  | far => trivial
theorem sz_forM {eS : S → Env'} {tS : S → τ} {eL : L → Env'} {tL : L → τ} {oR : R → OcZ τ} {xs : List β} {s0 : S} {f : β → S → M (Fl S S R)} (hR : ∀ r, (oR r).fin) (hp : PassesOwn (model X.prog X.w) X.A X.env X.xe) (hc : X.calm = true) (hΦ : Φ H0) (mΦ : ∀ {A B : Hp}, Same A B → Φ A → Φ B) (hi : IterZ X Φ i ρ tg iter (xs.map ea)) (hg : TgZ X i tg ok bd) (hok : ∀ d ∈ xs.map ea, ok d) (h0 : ρ = eS s0) (ht : t = tS s0) (hb : ∀ x s, ExMZ z H0 i (bd (ea x) (eS s)) (tS s) k body (Fl.Dz eS tS eS tS oR) (f x s))
    (hs : ∀ x, foldedSetIterable iter X.env x = pure x := by intro _; rfl) : ExSMZ z H0 i ρ t k (.For tg iter body [] pos) (Fl.Dz eS tS eL tL oR) (forF f xs s0 : M (Fl S L R)) := by
  have h := forF_Z (eL := eL) (tL := tL) hR hb xs s0
  subst h0
  subst ht
  cases e : (forF f xs s0 : M (Fl S L R)) with
  | ok s => rw [e] at h; exact sz_for hp hc hΦ mΦ hi hg hok h hs
  | ex n => rw [e] at h; exact sz_for hp hc hΦ mΦ hi hg hok h hs
  | far => trivial
theorem xz_forJT {eS : S → Env'} {tS : S → τ} {oR : R → OcZ τ} {xs : List β} {s0 : S} {f : β → S → M (Fl S S R)} {fk : S → M R} (hR : ∀ r, (oR r).fin) (hp : PassesOwn (model X.prog X.w) X.A X.env X.xe) (hc : X.calm = true) (hΦ : Φ H0) (mΦ : ∀ {A B : Hp}, Same A B → Φ A → Φ B) (hi : IterZ X Φ i ρ tg iter (xs.map ea)) (hg : TgZ X i tg ok bd) (hok : ∀ d ∈ xs.map ea, ok d) (h0 : ρ = eS s0) (ht : t = tS s0) (hb : ∀ x s, ExMZ z H0 i (bd (ea x) (eS s)) (tS s) k body (Fl.Dz eS tS eS tS oR) (f x s)) (tt : ∀ s, ExMZ z H0 i (eS s) (tS s) k rest oR (fk s))
    (hs : ∀ x, foldedSetIterable iter X.env x = pure x := by intro _; rfl) : ExMZ z H0 i ρ t k (.For tg iter body [] pos :: rest) oR (M.seqT (forF f xs s0 : M (Fl S S R)) fk) := ez_flowT (eL := eS) (tL := tS) (fun r => OcZ.fin_out (hR r)) (sz_forM hR hp hc hΦ mΦ hi hg hok h0 ht hb hs) tt
theorem xz_forJ {eS : S → Env'} {tS : S → τ} {eL : L → Env'} {tL : L → τ} {eS' : S' → Env'} {tS' : S' → τ} {oR : R → OcZ τ} {xs : List β} {s0 : S} {f : β → S → M (Fl S S R)} {fk : S → M (Fl S' L R)} (hR : ∀ r, (oR r).fin) (hp : PassesOwn (model X.prog X.w) X.A X.env X.xe) (hc : X.calm = true) (hΦ : Φ H0) (mΦ : ∀ {A B : Hp}, Same A B → Φ A → Φ B) (hi : IterZ X Φ i ρ tg iter (xs.map ea)) (hg : TgZ X i tg ok bd) (hok : ∀ d ∈ xs.map ea, ok d) (h0 : ρ = eS s0) (ht : t = tS s0) (hb : ∀ x s, ExMZ z H0 i (bd (ea x) (eS s)) (tS s) k body (Fl.Dz eS tS eS tS oR) (f x s)) (tt : ∀ s, ExMZ z H0 i (eS s) (tS s) k rest (Fl.Dz eS' tS' eL tL oR) (fk s))
    (hs : ∀ x, foldedSetIterable iter X.env x = pure x := by intro _; rfl) : ExMZ z H0 i ρ t k (.For tg iter body [] pos :: rest) (Fl.Dz eS' tS' eL tL oR) (M.seq (forF f xs s0) fk) := ez_flow (fun r => OcZ.fin_out (hR r)) (sz_forM hR hp hc hΦ mΦ hi hg hok h0 ht hb hs) tt
end
end
end B

namespace B
open PySem PySem.Spec PyProof.Rows L2
/-! ### defs that a nested thing is handed to, that they may change -/
noncomputable def Rst (H Hs : Hp) : Hp := fun a => match Hs a with
  | some _ => none
  | none => H a
theorem rst_none {H Hs : Hp} {a : Addr} (h : Hs a = none) : Rst H Hs a = H a := by unfold Rst; rw [h]
theorem rst_some {H Hs : Hp} {a : Addr} {u : HO} (h : Rst H Hs a = some u) : Hs a = none ∧ H a = some u := by
  unfold Rst at h
  cases e : Hs a with
  | some w => rw [e] at h; cases h
  | none => rw [e] at h; exact ⟨rfl, h⟩
theorem rst_un {H Hs : Hp} (s : Same Hs H) : Un (Rst H Hs) Hs = H := funext fun a => by
  unfold Un Rst
  cases e : Hs a with
  | some w => exact (s a w e).symm
  | none => rfl
theorem rst_same (H Hs : Hp) : Same (Rst H Hs) H := fun a u h => (rst_some h).2
/-- things of one kind, with what is asked of their address; fl: all that they hold may be shared -/
structure Zf (K : PySem.W.Frag) (τ : Type) where
  z : (Addr → Prop) → Zp K τ
  fl : τ → Prop
  root : ∀ {pc pc' : Addr → Prop} {t : τ} {N Hs : Hp} {p : Addr}, (z pc).Z t N Hs p → pc' p → (z pc').Z t N Hs p
  pc : ∀ {pc : Addr → Prop} {t : τ} {N Hs : Hp} {p : Addr}, (z pc).Z t N Hs p → pc p
  im : ∀ {pc : Addr → Prop} {t : τ} {N Hs : Hp} {p : Addr}, fl t → (z pc).Z t N Hs p → (z pc).Z t (Imm N) Hs p
inductive ResZ (τ : Type) where
  | val (d : Dat) (t : τ)
  | exc (n : Str)
/-- the thing stands at place i of what is handed in -/
inductive AtsZ (K : PySem.W.Frag) (G : Hp) (p : Addr) : Nat → List V → List Dat → Prop where
  | here {vs : List V} {ds : List Dat} : Ats K G vs ds → AtsZ K G p 0 (.ref p :: vs) ds
  | next {i : Nat} {v : V} {d : Dat} {vs : List V} {ds : List Dat} : At K G v d → AtsZ K G p i vs ds → AtsZ K G p (i + 1) (v :: vs) (d :: ds)
section
variable {τ : Type}
def spZ {K : PySem.W.Frag} (F : Zf K τ) (i : Nat) (mg : Str → Option Value) (R : τ → List Dat → ResZ τ → Prop) : Sp := fun vs H Q E => ∃ p t ds o Hs, R t ds o ∧ (F.z fun _ => True).Z t (Imm H) Hs p ∧ Same Hs H ∧ AtsZ K (Rst H Hs) p i vs ds ∧ match o with
  | .val d t' => ∀ v H' Hs', Same (Rst H Hs) (Rst H' Hs') → (F.z fun _ => True).Z t' (Imm H') Hs' p → Same Hs' H' → (∀ a u, Hs' a = some u → (∃ w, Hs a = some w) ∨ H a = none) → At K (Imm H') v d → Q v H'
  | .exc n => ∀ C H', mg n = some (.ref C) → Same H H' → E (.ref C) none H'
def GFnZ (P : Program) (w : World) (K : PySem.W.Frag) (mg : Str → Option Value) (base : Heap) (x : Str) (k : Nat) (F : Zf K τ) (i : Nat) (R : τ → List Dat → ResZ τ → Prop) : Prop :=
  ∃ f fd ps, FnOk P w K mg base (L2.CX P w) k f fd ps (spZ F i mg R) ∧ mg x = some (.ref f) ∧ PySem.W.keepIn K (.ref f) = true ∧ Binds K fd ps []
/-- what the names hold at the beginning, the thing's own name left out -/
inductive EntsZ : Nat → List Ent → List Dat → Prop where
  | nil {es : List Ent} {ds : List Dat} : Ents es ds → (∀ e ∈ es, ∃ d, e = .im d) → EntsZ 0 (.no :: es) ds
  | im {i : Nat} {d : Dat} {es : List Ent} {ds : List Dat} (f : flat d = true) : EntsZ i es ds → EntsZ (i + 1) (.im d :: es) (d :: ds)
theorem EntsZ.length : ∀ {i : Nat} {es : List Ent} {ds : List Dat}, EntsZ i es ds → es.length = ds.length + 1
  | _, _, _, .nil e _ => by rw [List.length_cons, e.length]
  | _, _, _, .im _ t => by rw [List.length_cons, List.length_cons, EntsZ.length t]
theorem AtsZ.length {K : PySem.W.Frag} {G : Hp} {p : Addr} : ∀ {i : Nat} {vs : List V} {ds : List Dat}, AtsZ K G p i vs ds → vs.length = ds.length + 1
  | _, _, _, .here a => by rw [List.length_cons, a.length]
  | _, _, _, .next _ t => by rw [List.length_cons, List.length_cons, AtsZ.length t]
theorem AtsZ.root {K : PySem.W.Frag} {G : Hp} {p : Addr} : ∀ {i : Nat} {vs : List V} {ds : List Dat}, AtsZ K G p i vs ds → vs[i]? = some (.ref p)
  | _, _, _, .here _ => rfl
  | _, _, _, .next _ t => by simpa using AtsZ.root t
theorem imm_rst {H Hs : Hp} : Same (Imm (Rst H Hs)) (Imm H) := imm_same (rst_same H Hs)
theorem EntsZ.get {K : PySem.W.Frag} {H : Hp} {p : Addr} : ∀ {i : Nat} {es : List Ent} {ds : List Dat} {vs : List V}, EntsZ i es ds → AtsZ K H p i vs ds → ∀ j : Nat, es[j]? = none ∨ es[j]? = some .no ∨ ∃ v d, vs[j]? = some v ∧ es[j]? = some (Ent.im d) ∧ At K (Imm H) v d
  | _, _, _, _, .nil e hi, .here a, 0 => .inr (.inl rfl)
  | _, _, _, _, .nil e hi, .here a, j + 1 => by
    rcases e.get a j with ⟨h, _⟩ | ⟨v, hv, ⟨d, h, q⟩ | ⟨d, h, q⟩⟩
    · exact .inl (by simpa using h)
    · exact .inr (.inr ⟨v, d, by simpa using hv, by simpa using h, q⟩)
    · obtain ⟨d2, e2⟩ := hi _ (List.mem_of_getElem? h)
      cases e2
  | _, _, _, _, .im f t, .next a b, 0 => .inr (.inr ⟨_, _, rfl, rfl, a.imm f⟩)
  | _, _, _, _, .im f t, .next a b, j + 1 => by simpa using EntsZ.get t b j
theorem rep_startZ {K : PySem.W.Frag} {H Hs : Hp} {p : Addr} {i : Nat} {es : List Ent} {ds : List Dat} {vs : List V} {N : List Str} (e : EntsZ i es ds) (a : AtsZ K (Rst H Hs) p i vs ds) : Rep K H ((es ++ List.replicate (N.length - vs.length) Ent.no).set i (Ent.rf p)) (L2.start N vs) H (Imm H) := by
  have hl : es.length = vs.length := by rw [e.length, a.length]
  have geE : ∀ (j : Nat) (x : Ent), ((es ++ List.replicate (N.length - vs.length) Ent.no).set i Ent.no)[j]? = some x → x ≠ .no → es[j]? = some x := fun j x h n => by
    rcases get_set h with ⟨_, z⟩ | ⟨_, h⟩
    · exact (n z).elim
    by_cases hi : j < es.length
    · rw [List.getElem?_append_left hi] at h; exact h
    · rw [List.getElem?_append_right (by omega), List.getElem?_replicate] at h
      split at h
      · cases h; exact (n rfl).elim
      · cases h
  have geV : ∀ (j : Nat) v, vs[j]? = some v → (L2.start N vs)[j]? = some (some v) := fun j v h => by
    unfold L2.start
    rw [List.getElem?_append_left (by rw [List.length_map]; exact (List.getElem?_eq_some_iff.mp h).1), List.getElem?_map, h]
    rfl
  refine Rep.toRf (geV i _ a.root) ⟨Same.refl _, imm_sub H, Same.refl _, fun b u h m => (imm_not h m).elim, ?_, fun j d h => ?_, fun j d h => ?_, fun j d h => ?_, fun j d h => ?_, fun j k d d' p ne h => ?_⟩
  · unfold L2.start
    simp [hl]
  · have h1 := geE j _ h (fun z => nomatch z)
    rcases e.get a j with h2 | h2 | ⟨v, d', hv, h2, q⟩
    · rw [h1] at h2; cases h2
    · rw [h1] at h2; cases h2
    · rw [h1] at h2; cases h2; exact ⟨v, geV j v hv, q.mono imm_rst⟩
  · have h1 := geE j _ h (fun z => nomatch z)
    rcases e.get a j with h2 | h2 | ⟨v, d', hv, h2, q⟩ <;> (rw [h1] at h2; cases h2)
  · have h1 := geE j _ h (fun z => nomatch z)
    rcases e.get a j with h2 | h2 | ⟨v, d', hv, h2, q⟩ <;> (rw [h1] at h2; cases h2)
  · have h1 := geE j _ h (fun z => nomatch z)
    rcases e.get a j with h2 | h2 | ⟨v, d', hv, h2, q⟩ <;> (rw [h1] at h2; cases h2)
  · have h1 := geE j _ h (fun z => nomatch z)
    rcases e.get a j with h2 | h2 | ⟨v, d', hv, h2, q⟩ <;> (rw [h1] at h2; cases h2)
/-- a def's promise by its mirror: the thing's new worth stands beside what is told -/
def RmZ {α : Type} (en : α → Dat) (m : M (α × τ)) (o : ResZ τ) : Prop := match m with
  | .ok v => o = .val (en v.1) v.2
  | .ex n => o = .exc n
  | .far => False
/-- .. that raises nothing out -/
def RmZn {α : Type} (en : α → Dat) (m : M (α × τ)) (o : ResZ τ) : Prop := match m with
  | .ok v => o = .val (en v.1) v.2
  | _ => False
end
section
variable {τ α : Type} {P : Program} {w : World} {K : PySem.W.Frag} {mg : Str → Option Value} {base : Heap} {x : Str} {st : Stmt} {ps N : List Str} {k i : Nat} {F : Zf K τ} {R : τ → List Dat → ResZ τ → Prop}
theorem GFnZ.mono {k' : Nat} (G : GFnZ P w K mg base x k F i R) (h : k ≤ k') : GFnZ P w K mg base x k' F i R := by
  obtain ⟨f, fd, ps, g, r⟩ := G
  exact ⟨f, fd, ps, g.mono h, r⟩
theorem GFnZ.mk (D : Df K mg x st ps) (S : FnScope N ps (defScope st)) (hl : ∀ t ds o, R t ds o → ds.length + 1 = ps.length) (hv : ∀ t ds o, R t ds o → match o with | .val d t' => flat d = true ∧ F.fl t' | .exc _ => False)
    (body : ∀ (f : Addr) (cdv : Value) (A : Around) (outer : List PySem.Env) (s : Shared) (H : Hp) (E : XK), Room k (XX P w K mg base N x st f cdv A outer s H E).A → ∀ t ds o, R t ds o → ∃ es, EntsZ i es ds ∧ ∀ H0 pc, match o with | .val d t' => ExecZ (X := XX P w K mg base N x st f cdv A outer s H E) (F.z pc) H0 i (es ++ List.replicate (N.length - ps.length) Ent.no) t (defBody st) (.rz d t') | .exc _ => True) : GFnZ P w K mg base x (k + 1) F i R := by
  obtain ⟨f, fd, FF, hm, hb⟩ := D
  refine ⟨f, fd, ps, FF.okX S (fun vs H Q E ⟨p, t, ds, o, Hs, hR, _, _, a, _⟩ => by rw [a.length]; exact hl t ds o hR) fun cdv A outer s H vs Q E hr hsp => ?_, hm, FF.kp, hb⟩
  obtain ⟨p, t, ds, o, Hs, hR, hz, hs, a, q⟩ := hsp
  obtain ⟨es, he, hbody⟩ := body f cdv A outer s H E hr t ds o hR
  have hlen : vs.length = ps.length := by rw [a.length]; exact hl t ds o hR
  have r : Rep K H ((es ++ List.replicate (N.length - ps.length) Ent.no).set i (Ent.rf p)) (L2.start N vs) H (Imm H) := hlen ▸ rep_startZ he a
  have hvv := hv t ds o hR
  cases o with
  | exc n => exact hvv.elim
  | val d t' =>
    obtain ⟨hf, hfl⟩ := hvv
    refine ⟨_, pb_w, ?_⟩
    refine hbody (Rst H Hs) (fun q => q = p) { nx := fun _ H' => Q .non H', rt := Q } _ _ _ ⟨p, Hs, F.root hz rfl, fun b u e => ?_, by rw [rst_un hs]; exact r⟩ fun v H' N' sn ⟨p', Hs', b1, b2, b3, b4⟩ b5 => ?_
    · unfold Rst; rw [e]
    · have hp : p' = p := F.pc (pc := fun q => q = p) b1
      subst hp
      refine q v H' Hs' (fun b u e => ?_) (F.root ((F.z _).mono (imm_same b4) (F.im hfl b1)) trivial) (fun b u e => b3 b u (un_some e)) (fun b u e => ?_) ((b5.imm hf).mono (imm_same b4))
      · have hn : Hs' b = none := by
          cases z : Hs' b with
          | none => rfl
          | some w => rw [b2 b w z] at e; cases e
        rw [rst_none hn]
        refine b3 b u ?_
        unfold Un
        rw [hn]
        exact e
      · have h0 := b2 b u e
        cases z : Hs b with
        | some w => exact .inl ⟨w, rfl⟩
        | none => rw [rst_none z] at h0; exact .inr h0
end
/-! ### calls of them -/
section
variable {τ : Type} {X : Cx} (z : Zp X.K τ) (H0 : Hp) (i : Nat)
def EvZ (ρ : Env') (t : τ) (e : Expr) (d : Dat) (t' : τ) : Prop := ∀ σ H N, StZ z H0 i ρ t σ H N → WE X e σ H fun v H' => ∃ N', Same N N' ∧ StZ z H0 i ρ t' σ H' N' ∧ At X.K N' v d
def EvXZ (ρ : Env') (t : τ) (e : Expr) (n : Str) : Prop := ∀ σ H N, StZ z H0 i ρ t σ H N → ∀ W : WX, Takes X W → (∀ C H' N', X.mg n = some (.ref C) → Same N N' → StZ z H0 i ρ t σ H' N' → W (.ref C) none σ H') → ∀ Q, WE X e σ H Q
def EvMZ {α : Type} (ρ : Env') (t : τ) (e : Expr) (en : α → Dat) (m : M (α × τ)) : Prop := match m with
  | .ok v => EvZ z H0 i ρ t e (en v.1) v.2
  | .ex n => EvXZ z H0 i ρ t e n
  | .far => True
end
section
variable {τ α β γ S : Type} {X : Cx} {F : Zf X.K τ} {pc : Addr → Prop} {H0 : Hp} {i ia k kk : Nat} {Φ : Hp → Prop} {ρ ρ1 : Env'} {t t' : τ} {st : Stmt} {sts rest : List Stmt} {a b c e : Expr} {es : List Expr} {p pos : Pos} {D : γ → OcZ τ} {d : Dat} {ds : List Dat} {x n : Str} {R : τ → List Dat → ResZ τ → Prop}
/-- what is handed in, the thing by its name -/
inductive ArgZ (X : Cx) (Φ : Hp → Prop) (i : Nat) (ρ : Env') : Nat → List Expr → List Dat → Prop where
  | here {y : Str} {p1 : Pos} {es : List Expr} {ds : List Dat} (h : ∀ H0' p, Φ H0' → EvA X H0' (ρ.set i (.rf p)) es ds) (hN : X.N[i]? = some y := by rfl) (hv : Vis X.env.scope y := by first | exact Or.inl rfl | exact Or.inr (Or.inl rfl) | exact Or.inr (Or.inr rfl)) (hd : (y == ("__debug__" : Str)) = false := by decide)
    (hcd : (y == ("__classdict__" : Str)) = false := by decide) (hs : starEach (.Name y p1 :: es) X.env = (false, eval (.Name y p1) X.env) :: starEach es X.env := by rfl) : ArgZ X Φ i ρ 0 (.Name y p1 :: es) ds
  | next {ia : Nat} {e : Expr} {d : Dat} {es : List Expr} {ds : List Dat} (h : ∀ H0' p, Φ H0' → Ev X H0' (ρ.set i (.rf p)) e d) (r : ArgZ X Φ i ρ ia es ds) (hs : starEach (e :: es) X.env = (false, eval e X.env) :: starEach es X.env := by rfl) : ArgZ X Φ i ρ (ia + 1) (e :: es) (d :: ds)
theorem ArgZ.run (hi : i < ρ.length) {H0' : Hp} {q : Addr} (f : Φ H0') : ∀ {ia : Nat} {es : List Expr} {ds : List Dat}, ArgZ X Φ i ρ ia es ds → ∀ σ H N, Rep X.K H0' (ρ.set i (.rf q)) σ H N → WA X es σ H fun vs H' => ∃ N', Same H H' ∧ Same N N' ∧ Rep X.K H0' (ρ.set i (.rf q)) σ H' N' ∧ AtsZ X.K N' q ia vs ds
  | _, _, _, .here h hN hv hd hcd hs, σ, H, N, r => wa_of (pa_cons (pv i hN hv hd hcd) pa_w hs) ⟨_, r.rf i q (List.getElem?_set_self hi), (h H0' q f σ H N r).imp fun vs H' ⟨N', s, n, r', a⟩ => ⟨N', s, n, r', .here a⟩⟩
  | _, _, _, .next h t hs, σ, H, N, r => wa_of (pa_cons pe_w pa_w hs) ((h H0' q f σ H N r).imp fun v H1 ⟨N1, s1, n1, r1, a1⟩ => (ArgZ.run hi f t σ H1 N1 r1).imp fun vs H2 ⟨N2, s2, n2, r2, a2⟩ => ⟨N2, s1.trans s2, n1.trans n2, r2, .next (a1.mono n2) a2⟩)
theorem AtsZ.mono {K : PySem.W.Frag} {G G' : Hp} {p : Addr} (s : Same G G') : ∀ {i : Nat} {vs : List V} {ds : List Dat}, AtsZ K G p i vs ds → AtsZ K G' p i vs ds
  | _, _, _, .here a => .here (a.mono s)
  | _, _, _, .next a t => .next (a.mono s) (AtsZ.mono s t)
/-- the heap as it stands behind the call -/
theorem rep_call {H H' Hs Hs' N : Hp} {σ : L2.St} {K : PySem.W.Frag} {ρ : Env'} (hn : noOl ρ) (mu : ∀ a u, Hs a = some u → Mut (some u)) (mu' : ∀ a u, Hs' a = some u → Mut (some u)) (d : ∀ a u, Hs a = some u → H0 a = none) (r : Rep K (Un H0 Hs) ρ σ H N) (s1 : Same (Rst H Hs) (Rst H' Hs')) (s2 : Same Hs' H') (fr : ∀ a u, Hs' a = some u → (∃ w, Hs a = some w) ∨ H a = none) :
    ∃ N', Same N N' ∧ Same (Imm H') N' ∧ (∀ a u, Hs' a = some u → H0 a = none) ∧ Rep K (Un H0 Hs') ρ σ H' N' := by
  have d' : ∀ a u, Hs' a = some u → H0 a = none := fun a u e => by
    rcases fr a u e with ⟨w, z⟩ | z
    · exact d a w z
    · cases q : H0 a with
      | none => rfl
      | some o =>
        have hsn : Hs a = none := by
          cases zz : Hs a with
          | none => rfl
          | some w => rw [d a w zz] at q; cases q
        have : Un H0 Hs a = some o := by unfold Un; rw [hsn]; exact q
        rw [r.old a o this] at z
        cases z
  have keepN : ∀ a o, N a = some o → H' a = some o ∧ Hs' a = none := fun a o e => by
    have h1 := r.sub a o e
    have hsn : Hs a = none := by
      cases zz : Hs a with
      | none => rfl
      | some w => rw [n_of r (un_some zz) (mu a w zz)] at e; cases e
    have := s1 a o (by rw [rst_none hsn]; exact h1)
    exact ⟨(rst_some this).2, (rst_some this).1⟩
  have base : Rep K (Un H0 Hs') ρ σ H' N := by
    refine ⟨fun a o e => ?_, fun a o e => (keepN a o e).1, fun a o e => ?_, fun a o e m => ?_, r.len, r.im, fun j x e => (hn j x e).elim, fun j x e => ?_, r.rf, r.apart⟩
    · unfold Un at e
      cases z : Hs' a with
      | some w => rw [z] at e; cases e; exact s2 a _ z
      | none =>
        rw [z] at e
        have hsn : Hs a = none := by
          cases zz : Hs a with
          | none => rfl
          | some w => rw [d a w zz] at e; cases e
        have h1 := r.old a o (by unfold Un; rw [hsn]; exact e)
        exact (rst_some (s1 a o (by rw [rst_none hsn]; exact h1))).2
    · have h1 := imm_sub _ _ _ e
      have h2 := imm_not e
      unfold Un at h1
      cases z : Hs' a with
      | some w => rw [z] at h1; cases h1; exact (h2 (mu' a _ z)).elim
      | none =>
        rw [z] at h1
        have hsn : Hs a = none := by
          cases zz : Hs a with
          | none => rfl
          | some w => rw [d a w zz] at h1; cases h1
        exact r.imm a o (imm_of (by unfold Un; rw [hsn]; exact h1) h2)
    · have h1 := (un_none (r.fresh a o e m)).2
      unfold Un
      rw [(keepN a o e).2]
      exact h1
    · obtain ⟨q, a1, a2, a3, a4⟩ := r.ow j x e
      obtain ⟨z1, z2⟩ := un_none a2
      have hq : ∃ o, H q = some o ∧ Mut (some o) := by
        cases x with
        | lst ds => obtain ⟨vs, b1, _⟩ := a4; exact ⟨_, b1, True.intro⟩
        | dic ds => obtain ⟨vs, b1, _⟩ := a4; exact ⟨_, b1, True.intro⟩
        | dit ks ds => obtain ⟨vs, b1, _⟩ := a4; exact ⟨_, b1, True.intro⟩
        | _ => exact a4.elim
      obtain ⟨oq, hq, mq⟩ := hq
      have hk := s1 q oq (by rw [rst_none z1]; exact hq)
      have hk1 := (rst_some hk).2
      have hk2 := (rst_some hk).1
      refine ⟨q, a1, by unfold Un; rw [hk2]; exact z2, a3, ?_⟩
      cases x with
      | lst ds => obtain ⟨vs, b1, b2⟩ := a4; rw [b1] at hq; cases hq; exact ⟨vs, hk1, b2⟩
      | dic ds => obtain ⟨vs, b1, b2⟩ := a4; rw [b1] at hq; cases hq; exact ⟨vs, hk1, b2⟩
      | dit ks ds => obtain ⟨vs, b1, ql, b2⟩ := a4; rw [b1] at hq; cases hq; exact ⟨vs, hk1, ql, b2⟩
      | _ => exact a4.elim
  obtain ⟨N', n1, n2, n3⟩ := base.keep
  exact ⟨N', n1, n3, d', n2⟩
theorem evz_call (G : GFnZ X.prog X.w X.K X.mg X.base x k F ia R) (hr : Room k X.A) (hn : noOl ρ) (hi : i < ρ.length) (hΦ : Φ H0) (mΦ : ∀ {A B : Hp}, Same A B → Φ A → Φ B) (hfl : F.fl t) (ha : ArgZ X Φ i ρ ia (e :: es) ds) (q : R t ds (.val d t')) (hg : Gl X x := by rfl) (hdb : (x == ("__debug__" : Str)) = false := by decide)
    (he : starEach (e :: es) X.env = (false, eval e X.env) :: starEach es X.env := by rfl) (hpl : (backTo pos (starEach es X.env)).any (·.1) = false := by rfl) : EvZ (F.z pc) H0 i ρ t (.Call (.Name x p) (e :: es) [] pos) d t' := fun σ H N ⟨q0, Hs, nz, dd, r⟩ => by
  obtain ⟨f, fd, ps, FF, hm, hk, hb⟩ := G
  have hn' : noOl (ρ.set i (.rf q0)) := noOl_set hn
  refine we_of (pe_callS FF hr hg hm hk hb (fun σ => passAt takes0 σ) pa_w hdb he hpl) ((ha.run hi (mΦ (un_same dd) hΦ) σ H N r).imp fun vs H1 ⟨N1, s1, n1, r1, a1⟩ => ?_)
  have hs1 : Same Hs H1 := fun b u e => r1.old b u (un_some e)
  have sN : Same N1 (Rst H1 Hs) := fun b u e => by
    have hsn : Hs b = none := by
      cases zz : Hs b with
      | none => rfl
      | some w => rw [n_of r1 (un_some zz) ((F.z pc).mu nz zz)] at e; cases e
    rw [rst_none hsn]
    exact r1.sub b u e
  refine ⟨q0, t, ds, _, Hs, q, F.root ((F.z pc).mono (imm_same (n1.trans r1.sub)) (F.im hfl nz)) trivial, hs1, a1.mono sN, fun v H' Hs' c1 c2 c3 c4 c5 => ?_⟩
  obtain ⟨N2, m1, m2, m3, m4⟩ := rep_call hn' (fun b u e => (F.z pc).mu nz e) (fun b u e => (F.z fun _ => True).mu c2 e) dd r1 c1 c3 c4
  exact ⟨N2, n1.trans m1, ⟨q0, Hs', F.root ((F.z _).mono m2 c2) (F.pc nz), m3, m4⟩, c5.mono m2⟩
theorem evxz_call (G : GFnZ X.prog X.w X.K X.mg X.base x k F ia R) (hr : Room k X.A) (hn : noOl ρ) (hi : i < ρ.length) (hΦ : Φ H0) (mΦ : ∀ {A B : Hp}, Same A B → Φ A → Φ B) (hfl : F.fl t) (ha : ArgZ X Φ i ρ ia (e :: es) ds) (q : R t ds (.exc n)) (hg : Gl X x := by rfl) (hdb : (x == ("__debug__" : Str)) = false := by decide)
    (he : starEach (e :: es) X.env = (false, eval e X.env) :: starEach es X.env := by rfl) (hpl : (backTo pos (starEach es X.env)).any (·.1) = false := by rfl) : EvXZ (F.z pc) H0 i ρ t (.Call (.Name x p) (e :: es) [] pos) n := fun σ H N ⟨q0, Hs, nz, dd, r⟩ W tk kw Q => by
  obtain ⟨f, fd, ps, FF, hm, hk, hb⟩ := G
  refine we_of (pe_callS FF hr hg hm hk hb (fun σ => passAt tk σ) pa_w hdb he hpl) ((ha.run hi (mΦ (un_same dd) hΦ) σ H N r).imp fun vs H1 ⟨N1, s1, n1, r1, a1⟩ => ?_)
  have hs1 : Same Hs H1 := fun b u e => r1.old b u (un_some e)
  have sN : Same N1 (Rst H1 Hs) := fun b u e => by
    have hsn : Hs b = none := by
      cases zz : Hs b with
      | none => rfl
      | some w => rw [n_of r1 (un_some zz) ((F.z pc).mu nz zz)] at e; cases e
    rw [rst_none hsn]
    exact r1.sub b u e
  exact ⟨q0, t, ds, _, Hs, q, F.root ((F.z pc).mono (imm_same (n1.trans r1.sub)) (F.im hfl nz)) trivial, hs1, a1.mono sN, fun C H' hC s' => kw C H' N1 hC n1 ⟨q0, Hs, (F.z pc).mono n1 nz, dd, r1.grow s'⟩⟩
theorem evmz_call {en : α → Dat} {m : M (α × τ)} (G : GFnZ X.prog X.w X.K X.mg X.base x k F ia R) (hr : Room k X.A) (hn : noOl ρ) (hi : i < ρ.length) (hΦ : Φ H0) (mΦ : ∀ {A B : Hp}, Same A B → Φ A → Φ B) (hfl : F.fl t) (ha : ArgZ X Φ i ρ ia (e :: es) ds) (q : ∀ o, RmZ en m o → R t ds o) (hg : Gl X x := by rfl) (hdb : (x == ("__debug__" : Str)) = false := by decide)
    (he : starEach (e :: es) X.env = (false, eval e X.env) :: starEach es X.env := by rfl) (hpl : (backTo pos (starEach es X.env)).any (·.1) = false := by rfl) : EvMZ (F.z pc) H0 i ρ t (.Call (.Name x p) (e :: es) [] pos) en m := by
  cases m with
  | ok v => exact evz_call (Φ := Φ) G hr hn hi hΦ mΦ hfl ha (q _ rfl) hg hdb he hpl
  | ex n => exact evxz_call (Φ := Φ) G hr hn hi hΦ mΦ hfl ha (q _ rfl) hg hdb he hpl
  | far => trivial
end
/-! statements with them -/
section
variable {τ α β γ S : Type} {X : Cx} {z : Zp X.K τ} {H0 : Hp} {i k : Nat} {Φ : Hp → Prop} {ρ ρ1 : Env'} {t t' : τ} {st : Stmt} {sts rest : List Stmt} {a b c e : Expr} {p pos : Pos} {D : γ → OcZ τ} {d : Dat} {n : Str}
theorem low_ex (hn : noOl ρ) (hk : ρ.length = k) {σ : L2.St} {H N : Hp} (h : StZ z H0 i ρ t σ H N) : Rep X.K H0 (List.replicate k .no) σ H N := by
  obtain ⟨q, Hs, nz, dd, r⟩ := h
  have r2 := r.low2 dd (noOl_set hn)
  have r3 := r2.nos
  rw [List.length_set, hk] at r3
  exact r3
theorem xz_exprM {en : α → Dat} {m : M (α × τ)} {f : α × τ → M γ} (hn : noOl ρ) (h : EvMZ z H0 i ρ t e en m) (tt : ∀ q, ExMZ z H0 i ρ q.2 k rest D (f q)) (hk : ρ.length = k := by rfl) (hs : swapsWith e none pos.line X.env = pure false := by rfl) : ExMZ z H0 i ρ t k (.Expr e pos :: rest) D (M.bind m f) := by
  cases m with
  | ok v => exact xz_then (ρ1 := ρ) (t1 := v.2) (fun DD σ H N r kk => ws_of (ps_expr pe_w hs) ((h σ H N r).imp fun w H' ⟨N', n1, r', a⟩ => kk σ H' N' n1 r')) (tt v)
  | ex n => exact ez_ex (fun DD σ H N r ⟨W, tk, c⟩ => ws_of (ps_expr pe_w hs) (h σ H N r W tk (fun C H' N' hC n1 r' => c C σ H' N' hC n1 (low_ex hn hk r')) _))
  | far => trivial
theorem xz_setM {en : α → Dat} {m : M (α × τ)} {f : α × τ → M γ} (j : Nat) {x : Str} {pos' : Pos} (hn : noOl ρ) (hij : j ≠ i) (h : EvMZ z H0 i ρ t e en m) (nd : X.N.Nodup) (tt : ∀ q, ExMZ z H0 i (ρ.set j (.im (en q.1))) q.2 k rest D (f q)) (hk : ρ.length = k := by rfl) (hj : X.N[j]? = some x := by rfl) (hx : Loc X.env.scope x := by first | exact Or.inl rfl | exact Or.inr rfl)
    (hs : swapsWith e (some (.Name x pos')) pos.line X.env = pure false := by rfl) (hf : X.fn x = true ∨ X.env.scope.names.lookup x = some .local := by first | exact .inl rfl | exact .inr rfl | assumption) : ExMZ z H0 i ρ t k (.Assign [.Name x pos'] e pos :: rest) D (M.bind m f) := by
  cases m with
  | ok v => exact xz_then (ρ1 := ρ.set j (.im (en v.1))) (t1 := v.2) (fun DD σ H N r kk => ws_of (ps_set nd hj hx pe_w hs hf) ((h σ H N r).imp fun w H' ⟨N', n1, ⟨q0, Hs, nz, dd, r'⟩, a⟩ => by
      have r3 := r'.setE (i := j) (v := w) (e := .im (en v.1)) a
      rw [List.set_comm _ _ (Ne.symm hij)] at r3
      exact kk _ H' N' n1 ⟨q0, Hs, nz, dd, r3⟩)) (tt v)
  | ex n => exact ez_ex (fun DD σ H N r ⟨W, tk, c⟩ => ws_of (ps_set nd hj hx pe_w hs hf) (h σ H N r W tk (fun C H' N' hC n1 r' => c C σ H' N' hC n1 (low_ex hn hk r')) _))
  | far => trivial
end
end B

namespace B
open PySem PySem.Spec PyProof.Rows L2
/-! ### instances as data: attributes, methods that only read -/
theorem lookup_zip {α : Type} {f : Str} : ∀ {fs : List Str} {vs : List α} {i : Nat} {v : α}, fs.findIdx? (· == f) = some i → vs[i]? = some v → (fs.zip vs).lookup f = some v
  | [], _, _, _, h, _ => by cases h
  | _ :: _, [], i, _, _, h => by simp at h
  | g :: fs, w :: vs, i, v, h, e => by
    rw [List.zip_cons_cons, List.lookup_cons]
    by_cases q : g = f
    · subst q
      rw [List.findIdx?_cons, if_pos (beq_self_eq_true g)] at h
      cases h
      rw [beq_self_eq_true]
      simpa using e
    · have q1 : (g == f) = false := by simpa using q
      have q2 : (f == g) = false := by simpa using Ne.symm q
      rw [q2]
      rw [List.findIdx?_cons, q1] at h
      simp only [Bool.false_eq_true, if_false] at h
      cases z : fs.findIdx? (· == f) with
      | none => rw [z] at h; cases h
      | some j =>
        rw [z] at h
        cases h
        exact lookup_zip z (by simpa using e)
theorem lookup_no {α : Type} {m : Str} : ∀ {fs : List Str} {vs : List α}, fs.contains m = false → (fs.zip vs).lookup m = none
  | [], _, _ => rfl
  | _ :: _, [], _ => rfl
  | g :: fs, w :: vs, h => by
    rw [List.contains_cons, Bool.or_eq_false_iff] at h
    rw [List.zip_cons_cons, List.lookup_cons, h.1]
    exact lookup_no h.2
theorem at_ins {K : PySem.W.Frag} {H : Hp} {v : V} {n : Str} {fs : List Str} {ds : List Dat} (h : At K H v (.ins n fs ds)) : ∃ p C dx vs, v = .ref p ∧ H p = some (.ins C dx (fs.zip vs)) ∧ KCls K n C ∧ (∀ f ∈ fs, NoAttr K C f) ∧ fs.length = ds.length ∧ Ats K H vs ds := by
  cases h with
  | ins a b c d e => exact ⟨_, _, _, _, rfl, a, b, c, d, e⟩
/-- a list or dict of the callee's own comes to hand -/
theorem own_ret {K : PySem.W.Frag} {H0 H H1 H' N N1 M : Hp} {ρ : Env'} {σ : L2.St} {p : Addr} {d : Dat} (r1 : Rep K H0 ρ σ H1 N1) (s1 : Same H H1) (n1 : Same N N1) (s' : Same H1 H') (m1 : Same M H') (m2 : ∀ a u, M a = some u → Mut (some u) → H1 a = none) (m3 : H1 p = none) (m4 : M p = none) (ow : Own K H' M p d) :
    ∃ N' q, V.ref p = V.ref q ∧ H q = none ∧ Same H H' ∧ Same N N' ∧ Rep K H0 ρ σ H' N' ∧ N' q = none ∧ Own K H' N' q d := by
  have mN : N1 p = none := r1.sub.free m3
  have r1' := r1.grow s'
  have bp : both N1 M p = none := by unfold both; rw [if_pos mN]; exact m4
  refine ⟨both N1 M, p, rfl, s1.free m3, s1.trans s', n1.trans (both_l _ _), r1'.more (both_l N1 M) (both_sub r1'.sub m1) (fun a o h m => ?_) (fun i d q h1 h2 h3 => ?_), bp, ?_⟩
  · unfold both at h
    split at h
    · exact r1.old.free (m2 a o h m)
    · exact r1.fresh a o h m
  · unfold both
    rw [if_pos h3]
    obtain ⟨p', o', e1, e2, m⟩ := r1.own_some h1
    rw [h2] at e1
    cases e1
    cases z : M q with
    | none => rfl
    | some u =>
      have e3 := m1 q u z
      rw [s' _ _ e2] at e3
      cases e3
      have := m2 q _ z m
      rw [e2] at this
      cases this
  · cases d with
    | lst ds => obtain ⟨vs, q1, q2⟩ := ow; exact ⟨vs, q1, q2.mono (both_r r1'.sub m1)⟩
    | dic ds => obtain ⟨vs, q1, q2⟩ := ow; exact ⟨vs, q1, q2.mono (both_r r1'.sub m1)⟩
    | dit ks ds => obtain ⟨vs, q1, ql, q2⟩ := ow; exact ⟨vs, q1, ql, q2.mono (both_r r1'.sub m1)⟩
    | _ => exact ow
def GMt (P : Program) (w : World) (K : PySem.W.Frag) (mg : Str → Option Value) (base : Heap) (n m : Str) (k : Nat) (R : List Dat → Res → Prop) : Prop :=
  ∃ C f fd ps, PySem.W.nsIn K mainGlobals n = some (some (.ref C)) ∧ FnOk P w K mg base (L2.CX P w) k f fd ps (spR K mg R) ∧ Meth K C m f ∧ Binds K fd ps []
/-- a method of the text as it stands behind the top -/
def DfM (K : PySem.W.Frag) (n m qn : Str) (st : Stmt) (ps : List Str) : Prop := ∃ C f fd, PySem.W.nsIn K mainGlobals n = some (some (.ref C)) ∧ Fun K m qn st f fd ∧ Meth K C m f ∧ Binds K fd ps []
section
variable {P : Program} {w : World} {K : PySem.W.Frag} {mg : Str → Option Value} {base : Heap} {x n m qn : Str} {st : Stmt} {ps N : List Str} {k : Nat} {R : List Dat → Res → Prop} {f : Addr} {fd : FuncData}
theorem GMt.mono {k' : Nat} (G : GMt P w K mg base n m k R) (h : k ≤ k') : GMt P w K mg base n m k' R := by
  obtain ⟨C, f, fd, ps, a, F, r⟩ := G
  exact ⟨C, f, fd, ps, a, F.mono h, r⟩
theorem GMt.mk2 (D : DfM K n m qn st ps) (S : FnScope N ps (defScope st)) (hl : ∀ ds o, R ds o → ds.length = ps.length)
    (body : ∀ (f : Addr) (cdv : Value) (A : Around) (outer : List PySem.Env) (s : Shared) (H : Hp) (E : XK), Room k (XX P w K mg base N qn st f cdv A outer s H E).A → ∀ ds o, R ds o → ∃ es, Ents es ds ∧ ∀ H0, Ends' (XX P w K mg base N qn st f cdv A outer s H E) H0 (es ++ List.replicate (N.length - ps.length) .no) (defBody st) o) : GMt P w K mg base n m (k + 1) R := by
  obtain ⟨C, f, fd, hC, F, hm, hb⟩ := D
  refine ⟨C, f, fd, ps, hC, ?_, hm, hb⟩
  refine F.okX S (fun vs H Q E ⟨ds, o, hr, a, _⟩ => by rw [a.length]; exact hl ds o hr) fun cdv A outer s H vs Q E hr hsp => ?_
  obtain ⟨ds, o, hR, a, q⟩ := hsp
  obtain ⟨es, he, hbody⟩ := body f cdv A outer s H E hr ds o hR
  have hlen : vs.length = ps.length := by rw [a.length]; exact hl ds o hR
  have r : Rep K H (es ++ List.replicate (N.length - ps.length) .no) (L2.start N vs) H (Imm H) := hlen ▸ rep_start he a
  have hb := hbody H
  refine ⟨_, pb_w, ?_⟩
  cases hb with
  | ret h => exact h { nx := fun _ H' => Q .non H', rt := Q } _ _ _ r fun v H' s _ rt => q v H' s rt
  | non h => exact h { nx := fun _ H' => Q .non H', rt := Q } _ _ _ r fun σ H' N' s r' => q .non H' r'.old ⟨N', r'.sub, r'.fresh, .non⟩
  | own h => exact h { nx := fun _ H' => Q .non H', rt := Q } _ _ _ r fun p H' N' s1 _ s2 s3 s4 s5 s6 => q p H' N' s1 s2 s3 s4 s5 s6
  | exc h => exact h { nx := fun _ H' => Q .non H', rt := Q } _ _ _ r ⟨_, takes_of rfl rfl rfl rfl, fun C σ H' N' hm s r' => q C H' hm r'.old⟩
end
section
variable {α : Type} {X : Cx} {H0 : Hp} {ρ : Env'} {a b c e o : Expr} {es : List Expr} {d : Dat} {ds as fl : List Dat} {fs : List Str} {p pos apos : Pos} {x n m f : Str} {k : Nat} {R : List Dat → Res → Prop} {en : α → Dat} {mm : M α}
/-- an attribute -/
theorem eb_fld {i : Nat} (ha : EvB X H0 ρ a (.ins n fs fl)) (hi : fs.findIdx? (· == f) = some i) (hd : fl[i]? = some d) (hb : attributeBase a f X.env (eval a X.env) = eval a X.env := by rfl) : EvB X H0 ρ (.Attribute a f pos) d := fun σ H N r =>
  we_of (pe_fld pe_w hb) ((ha σ H N r).imp fun v H1 ⟨N1, s1, n1, r1, a1⟩ => by
    obtain ⟨q, C, dx, vs, rfl, h1, h2, h3, h4, h5⟩ := at_ins a1
    obtain ⟨u, u1, u2⟩ := h5.get hd
    have hm : f ∈ fs := by
      obtain ⟨y, y1, y2⟩ := List.findIdx?_eq_some_iff_getElem.mp hi
      have := eq_of_beq y1
      rw [← this]
      exact List.getElem_mem _
    exact ⟨q, C, dx, _, u, rfl, h1, h2.cl, h3 f hm, lookup_zip hi u1, N1, s1, n1, r1, u2⟩)
theorem ev_fld {i : Nat} (ha : Ev X H0 ρ a (.ins n fs fl)) (hi : fs.findIdx? (· == f) = some i) (hd : fl[i]? = some d) (hb : attributeBase a f X.env (eval a X.env) = eval a X.env := by rfl) : Ev X H0 ρ (.Attribute a f pos) d := fun σ H N r =>
  we_of (pe_fld pe_w hb) ((ha σ H N r).imp fun v H1 ⟨N1, s1, n1, r1, a1⟩ => by
    obtain ⟨q, C, dx, vs, rfl, h1, h2, h3, h4, h5⟩ := at_ins a1
    obtain ⟨u, u1, u2⟩ := h5.get hd
    have hm : f ∈ fs := by
      obtain ⟨y, y1, y2⟩ := List.findIdx?_eq_some_iff_getElem.mp hi
      have := eq_of_beq y1
      rw [← this]
      exact List.getElem_mem _
    exact ⟨q, C, dx, _, u, rfl, r1.sub _ _ h1, h2.cl, h3 f hm, lookup_zip hi u1, N1, s1, n1, r1, u2⟩)
/-- o.m(e, ..) -/
def tMethS (C : Addr) (m : Str) (sp : Sp) (E : L2.St → XK) (ta : TE) (t : TA) : TE := fun σ H Q => ta σ H fun x H1 => ∃ a dx fs, x = .ref a ∧ H1 a = some (.ins C dx fs) ∧ fs.lookup m = none ∧ t σ H1 fun vs H2 => sp (x :: vs) H2 Q (E σ)
theorem pe_methS {CX : CXT} {C g : Addr} {fd : FuncData} {ps : List Str} {sp : Sp} {E : L2.St → XK} {ta : TE} {t : TA} {pl : Sem Bool} (he : PE X o ta) (c : Cls X.K C) (hm : Meth X.K C m g)
    (F : FnOk X.prog X.w X.K X.mg X.base CX k g fd ps sp) (hr : Room k X.A) (hb : Binds X.K fd ps []) (hx : ∀ σ, PassesAt CX X σ (E σ)) (ha : PA X (e :: es) t)
    (hst : starEach (e :: es) X.env = (false, eval e X.env) :: starEach es X.env := by rfl) (hpl : (backTo pos (starEach es X.env)).any (·.1) = false := by rfl)
    (ht : eval (.Call (.Attribute o m apos) (e :: es) [] pos) X.env = (do
      let ov ← eval o X.env
      standAt apos.atName
      let (f, first) ← holding [ov] (getMethod ov m pl)
      callWith pos f first (backTo pos (starEach (e :: es) X.env)) (backToKw pos (keywordEach [] X.env))) := by rfl) :
    PE X (.Call (.Attribute o m apos) (e :: es) [] pos) (tMethS C m sp E ta t) := by
  refine ⟨fun pins s σ H Q I h => ?_⟩
  refine PySem.W.methodCall_KW (pl := pl) (thn (he.run pins s σ H _ I h) fun u s1 ⟨x, H1, I1, rx, a, dx, fs, ex, ea, l, q⟩ => ?_) ht
  subst ex
  obtain rfl : u = Value.ref a := rx
  refine getmeth_ok I1 ea c hm l ?_
  refine PySem.W.callWith_K (first := [.ref a]) (h₀ := X.base) I1.ok.mod.kin hm.kp (thn (ha.run pos pins s1 σ H1 _ I1 q) fun us s2 ⟨vs, H2, I2, r, q2⟩ => ⟨I2.kIn, ?_⟩) hst hpl
  exact run_fnS (us := .ref a :: us) (vs := .ref a :: vs) F hr hb (hx σ) I2 (.cons rfl r) q2
theorem pe_methS0 {CX : CXT} {C g : Addr} {fd : FuncData} {ps : List Str} {sp : Sp} {E : L2.St → XK} {ta : TE} {pl : Sem Bool} (he : PE X o ta) (c : Cls X.K C) (hm : Meth X.K C m g)
    (F : FnOk X.prog X.w X.K X.mg X.base CX k g fd ps sp) (hr : Room k X.A) (hb : Binds X.K fd ps []) (hx : ∀ σ, PassesAt CX X σ (E σ))
    (ht : eval (.Call (.Attribute o m apos) [] [] pos) X.env = (do
      let ov ← eval o X.env
      standAt apos.atName
      let (f, first) ← holding [ov] (getMethod ov m pl)
      callWith pos f first (backTo pos (starEach [] X.env)) (backToKw pos (keywordEach [] X.env))) := by rfl) :
    PE X (.Call (.Attribute o m apos) [] [] pos) (tMethS C m sp E ta tNil) := by
  refine ⟨fun pins s σ H Q I h => ?_⟩
  refine PySem.W.methodCall_KW (pl := pl) (thn (he.run pins s σ H _ I h) fun u s1 ⟨x, H1, I1, rx, a, dx, fs, ex, ea, l, q⟩ => ?_) ht
  subst ex
  obtain rfl : u = Value.ref a := rx
  refine getmeth_ok I1 ea c hm l ?_
  exact PySem.W.callWith_K0 (first := [.ref a]) I1.kIn hm.kp (run_fnS (us := [.ref a]) (vs := [.ref a]) F hr hb (hx σ) I1 (.cons rfl .nil) q)
theorem KCls.eq {K : PySem.W.Frag} {C C' : Addr} (c : KCls K n C) (h : PySem.W.nsIn K mainGlobals n = some (some (.ref C'))) : C = C' := by
  have := c.at_.symm.trans h
  cases this
  rfl
/-- the way to a method: what is asked of its promise -/
theorem call_m (G : GMt X.prog X.w X.K X.mg X.base n m k R) (hr : Room k X.A) (ho : EvB X H0 ρ o (.ins n fs fl)) (hm : fs.contains m = false) (ha : EvAB X H0 ρ (e :: es) as) {W : WX} (tk : Takes X W) {Q : VK} {σ : L2.St} {H N : Hp} (r : Rep X.K H0 ρ σ H N)
    (hQ : ∀ vs H1 N1, Same H H1 → Same N N1 → Rep X.K H0 ρ σ H1 N1 → Ats X.K H1 vs (.ins n fs fl :: as) → spR X.K X.mg R vs H1 Q (fun cls d H => W cls d σ H))
    (hst : starEach (e :: es) X.env = (false, eval e X.env) :: starEach es X.env) (hpl : (backTo pos (starEach es X.env)).any (·.1) = false)
    (ht : ∃ pl, eval (.Call (.Attribute o m apos) (e :: es) [] pos) X.env = (do
      let ov ← eval o X.env
      standAt apos.atName
      let (f, first) ← holding [ov] (getMethod ov m pl)
      callWith pos f first (backTo pos (starEach (e :: es) X.env)) (backToKw pos (keywordEach [] X.env)))) : WE X (.Call (.Attribute o m apos) (e :: es) [] pos) σ H Q := by
  obtain ⟨C, f, fd, ps, hC, F, hM, hb⟩ := G
  obtain ⟨pl, ht⟩ := ht
  unfold WE
  intro pins s I
  have hh := (ho σ H N r)
  refine PySem.W.methodCall_KW (pl := pl) (thn (hh.go pins s I) fun u s1 ⟨x, H1, I1, rx, N1, s1', n1, r1, a1⟩ => ?_) ht
  obtain ⟨a, C', dx, vs, ex, h1, h2, h3, h4, h5⟩ := at_ins a1
  subst ex
  obtain rfl := h2.eq hC
  obtain rfl : u = Value.ref a := rx
  refine getmeth_ok I1 h1 h2.cl hM (lookup_no hm) ?_
  refine PySem.W.callWith_K (first := [.ref a]) (h₀ := X.base) I1.ok.mod.kin hM.kp (thn (pa_w.run pos pins s1 σ H1 _ I1 (ha σ H1 N1 r1)) fun us s2 ⟨vs, H2, I2, r, N2, t1, t2, r2, a2⟩ => ⟨I2.kIn, ?_⟩) hst hpl
  exact run_fnS (us := .ref a :: us) (vs := .ref a :: vs) F hr hb (passAt tk σ) I2 (.cons rfl r) (hQ _ H2 N2 (s1'.trans t1) (n1.trans t2) r2 (.cons (a1.mono t1) a2))
theorem call_m0 (G : GMt X.prog X.w X.K X.mg X.base n m k R) (hr : Room k X.A) (ho : EvB X H0 ρ o (.ins n fs fl)) (hm : fs.contains m = false) {W : WX} (tk : Takes X W) {Q : VK} {σ : L2.St} {H N : Hp} (r : Rep X.K H0 ρ σ H N)
    (hQ : ∀ vs H1 N1, Same H H1 → Same N N1 → Rep X.K H0 ρ σ H1 N1 → Ats X.K H1 vs [.ins n fs fl] → spR X.K X.mg R vs H1 Q (fun cls d H => W cls d σ H))
    (ht : ∃ pl, eval (.Call (.Attribute o m apos) [] [] pos) X.env = (do
      let ov ← eval o X.env
      standAt apos.atName
      let (f, first) ← holding [ov] (getMethod ov m pl)
      callWith pos f first (backTo pos (starEach [] X.env)) (backToKw pos (keywordEach [] X.env)))) : WE X (.Call (.Attribute o m apos) [] [] pos) σ H Q := by
  obtain ⟨C, f, fd, ps, hC, F, hM, hb⟩ := G
  obtain ⟨pl, ht⟩ := ht
  unfold WE
  intro pins s I
  have hh := (ho σ H N r)
  refine PySem.W.methodCall_KW (pl := pl) (thn (hh.go pins s I) fun u s1 ⟨x, H1, I1, rx, N1, s1', n1, r1, a1⟩ => ?_) ht
  obtain ⟨a, C', dx, vs, ex, h1, h2, h3, h4, h5⟩ := at_ins a1
  subst ex
  obtain rfl := h2.eq hC
  obtain rfl : u = Value.ref a := rx
  refine getmeth_ok I1 h1 h2.cl hM (lookup_no hm) ?_
  exact PySem.W.callWith_K0 (first := [.ref a]) I1.kIn hM.kp (run_fnS (us := [.ref a]) (vs := [.ref a]) F hr hb (passAt tk σ) I1 (.cons rfl .nil) (hQ _ H1 N1 s1' n1 r1 (.cons a1 .nil)))
theorem ev_meth (G : GMt X.prog X.w X.K X.mg X.base n m k R) (hr : Room k X.A) (ho : EvB X H0 ρ o (.ins n fs fl)) (ha : EvAB X H0 ρ (e :: es) as) (q : R (.ins n fs fl :: as) (.val d)) (hm : fs.contains m = false := by decide +kernel) (hst : starEach (e :: es) X.env = (false, eval e X.env) :: starEach es X.env := by rfl) (hpl : (backTo pos (starEach es X.env)).any (·.1) = false := by rfl)
    (ht : ∃ pl, eval (.Call (.Attribute o m apos) (e :: es) [] pos) X.env = (do
      let ov ← eval o X.env
      standAt apos.atName
      let (f, first) ← holding [ov] (getMethod ov m pl)
      callWith pos f first (backTo pos (starEach (e :: es) X.env)) (backToKw pos (keywordEach [] X.env))) := by exact ⟨_, rfl⟩) : Ev X H0 ρ (.Call (.Attribute o m apos) (e :: es) [] pos) d := fun σ H N r =>
  call_m G hr ho hm ha takes0 r (fun vs H1 N1 s1 n1 r1 a1 => ⟨_, .val d, q, a1, fun v H' s' rt => by
    obtain ⟨N2, n2, r2, a2⟩ := r1.ret s' rt
    exact ⟨N2, s1.trans s', n1.trans n2, r2, a2⟩⟩) hst hpl ht
theorem eo_meth (G : GMt X.prog X.w X.K X.mg X.base n m k R) (hr : Room k X.A) (ho : EvB X H0 ρ o (.ins n fs fl)) (ha : EvAB X H0 ρ (e :: es) as) (q : R (.ins n fs fl :: as) (.own d)) (hm : fs.contains m = false := by decide +kernel) (hst : starEach (e :: es) X.env = (false, eval e X.env) :: starEach es X.env := by rfl) (hpl : (backTo pos (starEach es X.env)).any (·.1) = false := by rfl)
    (ht : ∃ pl, eval (.Call (.Attribute o m apos) (e :: es) [] pos) X.env = (do
      let ov ← eval o X.env
      standAt apos.atName
      let (f, first) ← holding [ov] (getMethod ov m pl)
      callWith pos f first (backTo pos (starEach (e :: es) X.env)) (backToKw pos (keywordEach [] X.env))) := by exact ⟨_, rfl⟩) : EvO X H0 ρ (.Call (.Attribute o m apos) (e :: es) [] pos) d := fun σ H N r =>
  call_m G hr ho hm ha takes0 r (fun vs H1 N1 s1 n1 r1 a1 => ⟨_, .own d, q, a1, fun p H' M s' m1 m2 m3 m4 ow => own_ret r1 s1 n1 s' m1 m2 m3 m4 ow⟩) hst hpl ht
theorem exc_meth (G : GMt X.prog X.w X.K X.mg X.base n m k R) (hr : Room k X.A) (ho : EvB X H0 ρ o (.ins n fs fl)) (ha : EvAB X H0 ρ (e :: es) as) (q : R (.ins n fs fl :: as) (.exc x)) (hm : fs.contains m = false := by decide +kernel) (hst : starEach (e :: es) X.env = (false, eval e X.env) :: starEach es X.env := by rfl) (hpl : (backTo pos (starEach es X.env)).any (·.1) = false := by rfl)
    (ht : ∃ pl, eval (.Call (.Attribute o m apos) (e :: es) [] pos) X.env = (do
      let ov ← eval o X.env
      standAt apos.atName
      let (f, first) ← holding [ov] (getMethod ov m pl)
      callWith pos f first (backTo pos (starEach (e :: es) X.env)) (backToKw pos (keywordEach [] X.env))) := by exact ⟨_, rfl⟩) : EvX X H0 ρ (.Call (.Attribute o m apos) (e :: es) [] pos) x := fun σ H N r W tk kw Q =>
  call_m G hr ho hm ha tk r (fun vs H1 N1 s1 n1 r1 a1 => ⟨_, .exc x, q, a1, fun C H' hC s' => kw C H' N1 hC n1 (r1.grow s')⟩) hst hpl ht
theorem evm_meth (G : GMt X.prog X.w X.K X.mg X.base n m k R) (hr : Room k X.A) (ho : EvB X H0 ρ o (.ins n fs fl)) (ha : EvAB X H0 ρ (e :: es) as) (q : ∀ o, Rm en mm o → R (.ins n fs fl :: as) o) (hm : fs.contains m = false := by decide +kernel) (hst : starEach (e :: es) X.env = (false, eval e X.env) :: starEach es X.env := by rfl) (hpl : (backTo pos (starEach es X.env)).any (·.1) = false := by rfl)
    (ht : ∃ pl, eval (.Call (.Attribute o m apos) (e :: es) [] pos) X.env = (do
      let ov ← eval o X.env
      standAt apos.atName
      let (f, first) ← holding [ov] (getMethod ov m pl)
      callWith pos f first (backTo pos (starEach (e :: es) X.env)) (backToKw pos (keywordEach [] X.env))) := by exact ⟨_, rfl⟩) : EvM X H0 ρ (.Call (.Attribute o m apos) (e :: es) [] pos) en mm := by
  cases mm with
  | ok v => exact ev_meth G hr ho ha (q _ rfl) hm hst hpl ht
  | ex n => exact exc_meth G hr ho ha (q _ rfl) hm hst hpl ht
  | far => trivial
theorem eom_meth (G : GMt X.prog X.w X.K X.mg X.base n m k R) (hr : Room k X.A) (ho : EvB X H0 ρ o (.ins n fs fl)) (ha : EvAB X H0 ρ (e :: es) as) (q : ∀ o, RmO en mm o → R (.ins n fs fl :: as) o) (hm : fs.contains m = false := by decide +kernel) (hst : starEach (e :: es) X.env = (false, eval e X.env) :: starEach es X.env := by rfl) (hpl : (backTo pos (starEach es X.env)).any (·.1) = false := by rfl)
    (ht : ∃ pl, eval (.Call (.Attribute o m apos) (e :: es) [] pos) X.env = (do
      let ov ← eval o X.env
      standAt apos.atName
      let (f, first) ← holding [ov] (getMethod ov m pl)
      callWith pos f first (backTo pos (starEach (e :: es) X.env)) (backToKw pos (keywordEach [] X.env))) := by exact ⟨_, rfl⟩) : EoM X H0 ρ (.Call (.Attribute o m apos) (e :: es) [] pos) en mm := by
  cases mm with
  | ok v => exact eo_meth G hr ho ha (q _ rfl) hm hst hpl ht
  | ex n => exact exc_meth G hr ho ha (q _ rfl) hm hst hpl ht
  | far => trivial
theorem ev_meth0 (G : GMt X.prog X.w X.K X.mg X.base n m k R) (hr : Room k X.A) (ho : EvB X H0 ρ o (.ins n fs fl)) (q : R [.ins n fs fl] (.val d)) (hm : fs.contains m = false := by decide +kernel)
    (ht : ∃ pl, eval (.Call (.Attribute o m apos) [] [] pos) X.env = (do
      let ov ← eval o X.env
      standAt apos.atName
      let (f, first) ← holding [ov] (getMethod ov m pl)
      callWith pos f first (backTo pos (starEach [] X.env)) (backToKw pos (keywordEach [] X.env))) := by exact ⟨_, rfl⟩) : Ev X H0 ρ (.Call (.Attribute o m apos) [] [] pos) d := fun σ H N r =>
  call_m0 G hr ho hm takes0 r (fun vs H1 N1 s1 n1 r1 a1 => ⟨_, .val d, q, a1, fun v H' s' rt => by
    obtain ⟨N2, n2, r2, a2⟩ := r1.ret s' rt
    exact ⟨N2, s1.trans s', n1.trans n2, r2, a2⟩⟩) ht
theorem eo_meth0 (G : GMt X.prog X.w X.K X.mg X.base n m k R) (hr : Room k X.A) (ho : EvB X H0 ρ o (.ins n fs fl)) (q : R [.ins n fs fl] (.own d)) (hm : fs.contains m = false := by decide +kernel)
    (ht : ∃ pl, eval (.Call (.Attribute o m apos) [] [] pos) X.env = (do
      let ov ← eval o X.env
      standAt apos.atName
      let (f, first) ← holding [ov] (getMethod ov m pl)
      callWith pos f first (backTo pos (starEach [] X.env)) (backToKw pos (keywordEach [] X.env))) := by exact ⟨_, rfl⟩) : EvO X H0 ρ (.Call (.Attribute o m apos) [] [] pos) d := fun σ H N r =>
  call_m0 G hr ho hm takes0 r (fun vs H1 N1 s1 n1 r1 a1 => ⟨_, .own d, q, a1, fun p H' M s' m1 m2 m3 m4 ow => own_ret r1 s1 n1 s' m1 m2 m3 m4 ow⟩) ht
theorem exc_meth0 (G : GMt X.prog X.w X.K X.mg X.base n m k R) (hr : Room k X.A) (ho : EvB X H0 ρ o (.ins n fs fl)) (q : R [.ins n fs fl] (.exc x)) (hm : fs.contains m = false := by decide +kernel)
    (ht : ∃ pl, eval (.Call (.Attribute o m apos) [] [] pos) X.env = (do
      let ov ← eval o X.env
      standAt apos.atName
      let (f, first) ← holding [ov] (getMethod ov m pl)
      callWith pos f first (backTo pos (starEach [] X.env)) (backToKw pos (keywordEach [] X.env))) := by exact ⟨_, rfl⟩) : EvX X H0 ρ (.Call (.Attribute o m apos) [] [] pos) x := fun σ H N r W tk kw Q =>
  call_m0 G hr ho hm tk r (fun vs H1 N1 s1 n1 r1 a1 => ⟨_, .exc x, q, a1, fun C H' hC s' => kw C H' N1 hC n1 (r1.grow s')⟩) ht
theorem evm_meth0 (G : GMt X.prog X.w X.K X.mg X.base n m k R) (hr : Room k X.A) (ho : EvB X H0 ρ o (.ins n fs fl)) (q : ∀ o, Rm en mm o → R [.ins n fs fl] o) (hm : fs.contains m = false := by decide +kernel)
    (ht : ∃ pl, eval (.Call (.Attribute o m apos) [] [] pos) X.env = (do
      let ov ← eval o X.env
      standAt apos.atName
      let (f, first) ← holding [ov] (getMethod ov m pl)
      callWith pos f first (backTo pos (starEach [] X.env)) (backToKw pos (keywordEach [] X.env))) := by exact ⟨_, rfl⟩) : EvM X H0 ρ (.Call (.Attribute o m apos) [] [] pos) en mm := by
  cases mm with
  | ok v => exact ev_meth0 G hr ho (q _ rfl) hm ht
  | ex n => exact exc_meth0 G hr ho (q _ rfl) hm ht
  | far => trivial
theorem eom_meth0 (G : GMt X.prog X.w X.K X.mg X.base n m k R) (hr : Room k X.A) (ho : EvB X H0 ρ o (.ins n fs fl)) (q : ∀ o, RmO en mm o → R [.ins n fs fl] o) (hm : fs.contains m = false := by decide +kernel)
    (ht : ∃ pl, eval (.Call (.Attribute o m apos) [] [] pos) X.env = (do
      let ov ← eval o X.env
      standAt apos.atName
      let (f, first) ← holding [ov] (getMethod ov m pl)
      callWith pos f first (backTo pos (starEach [] X.env)) (backToKw pos (keywordEach [] X.env))) := by exact ⟨_, rfl⟩) : EoM X H0 ρ (.Call (.Attribute o m apos) [] [] pos) en mm := by
  cases mm with
  | ok v => exact eo_meth0 G hr ho (q _ rfl) hm ht
  | ex n => exact exc_meth0 G hr ho (q _ rfl) hm ht
  | far => trivial
end
end B

namespace B
open PySem PySem.Spec PyProof.Rows L2
/-! ### the learner: frame, text, known, past -/
abbrev KV := List Int × (Int × Int) × (Int × Int)
abbrev Lrn := (List Nat × Int) × List Nat × List (List Nat × KV) × List (List (List Nat × Option KV))
abbrev kvd : KV → Dat := tup3 (tpnd Dat.int) (tup2 Dat.int Dat.int) (tup2 Dat.int Dat.int)
abbrev pad : List Nat × Option KV → Dat := tup2 tx (optd kvd)
abbrev frd : List Nat × Int → Dat := tup2 tx Dat.int
def lfs : List Str := ["frame", "text", "known", "past"]
def lrnd (L : Lrn) : Dat := .ins "Learner" lfs [frd L.1, tx L.2.1, dicd kvd L.2.2.1, lstd (lstd pad) L.2.2.2]
def lvs (vf : V) (t : List Nat) (pk pp : Addr) : List (Str × V) := lfs.zip [vf, .str (SX.S t), .ref pk, .ref pp]
theorem ix_frame : lfs.findIdx? (· == ("frame" : Str)) = some 0 := by decide +kernel
theorem ix_text : lfs.findIdx? (· == ("text" : Str)) = some 1 := by decide +kernel
theorem ix_known : lfs.findIdx? (· == ("known" : Str)) = some 2 := by decide +kernel
theorem ix_past : lfs.findIdx? (· == ("past" : Str)) = some 3 := by decide +kernel
theorem mem_lfs {f : Str} {i : Nat} (h : lfs.findIdx? (· == f) = some i) : f ∈ lfs := by
  obtain ⟨y, y1, y2⟩ := List.findIdx?_eq_some_iff_getElem.mp h
  have := eq_of_beq y1
  rw [← this]
  exact List.getElem_mem _
theorem lvs_text {vf : V} {t : List Nat} {pk pp : Addr} : (lvs vf t pk pp).lookup ("text" : Str) = some (.str (SX.S t)) := lookup_zip ix_text rfl
theorem lvs_known {vf : V} {t : List Nat} {pk pp : Addr} : (lvs vf t pk pp).lookup ("known" : Str) = some (.ref pk) := lookup_zip ix_known rfl
theorem lvs_past {vf : V} {t : List Nat} {pk pp : Addr} : (lvs vf t pk pp).lookup ("past" : Str) = some (.ref pp) := lookup_zip ix_past rfl
theorem lvs_put {vf : V} {t t' : List Nat} {pk pp : Addr} : putF "text" (.str (SX.S t')) (lvs vf t pk pp) = lvs vf t' pk pp := by
  show (if ("frame" : Str) = "text" then _ else (("frame" : Str), vf) :: (if ("text" : Str) = "text" then (("text" : Str), V.str (SX.S t')) :: [(("known" : Str), V.ref pk), (("past" : Str), V.ref pp)] else _)) = _
  rw [if_neg (by decide +kernel), if_pos rfl]
  rfl
structure LrC (K : PySem.W.Frag) (pc : Addr → Prop) (L : Lrn) (N Hs : Hp) (p C dx pk pp : Addr) (qs : List Addr) (vf : V) (kv : List (Key × V)) : Prop where
  hp : Hs p = some (.ins C dx (lvs vf L.2.1 pk pp))
  kc : KCls K "Learner" C
  na : ∀ f ∈ lfs, NoAttr K C f
  af : At K N vf (frd L.1)
  hk : Hs pk = some (.dK kv)
  ak : Atk K N kv (dm kvd L.2.2.1)
  hq : Hs pp = some (.lst (qs.map V.ref))
  rw_ : RwP K N Hs (L.2.2.2.map fun r => r.map pad) qs
  nd : (p :: pk :: pp :: qs).Nodup
  mu : ∀ a u, Hs a = some u → Mut (some u)
  pc : pc p
def lrZ (K : PySem.W.Frag) (pc : Addr → Prop) : Zp K Lrn where
  Z := fun L N Hs p => ∃ C dx pk pp qs vf kv, LrC K pc L N Hs p C dx pk pp qs vf kv
  en := lrnd
  mono := fun s ⟨C, dx, pk, pp, qs, vf, kv, c⟩ => ⟨C, dx, pk, pp, qs, vf, kv, c.hp, c.kc, c.na, c.af.mono s, c.hk, c.ak.mono s, c.hq, c.rw_.mono s, c.nd, c.mu, c.pc⟩
  mu := fun ⟨_, _, _, _, _, _, _, c⟩ e => c.mu _ _ e
  at_ := fun {t N Hs G p} ⟨C, dx, pk, pp, qs, vf, kv, c⟩ s g => .ins (g _ _ c.hp) c.kc c.na rfl (.cons (c.af.mono s) (.cons (.str _) (.cons (.dic (.inl (g _ _ c.hk)) (c.ak.mono s)) (.cons (.lst (.inl (.inl (g _ _ c.hq))) (by have := c.rw_.ats s g; rw [List.map_map] at this; exact this)) .nil))))
theorem flat_kvd (v : KV) : flat (kvd v) = true := by
  show (flats _ && _) = true
  have : ∀ l : List Int, flats (l.map Dat.int) = true := fun l => by
    induction l with
    | nil => rfl
    | cons a l ih => exact ih
  rw [this]
  rfl
theorem flat_pad (v : List Nat × Option KV) : flat (pad v) = true := by
  obtain ⟨k, o⟩ := v
  cases o with
  | none => rfl
  | some v =>
    show (true && (flat (kvd v) && true)) = true
    rw [flat_kvd]
    rfl
theorem atk_imm {K : PySem.W.Frag} {H : Hp} {α : Type} {en : α → Dat} (f : ∀ a, flat (en a) = true) : ∀ {l : List (List Nat × α)} {vs : List (Key × V)}, Atk K H vs (dm en l) → Atk K (Imm H) vs (dm en l)
  | [], _, .nil => .nil
  | _ :: _, _, .cons a t => .cons (a.imm (f _)) (atk_imm f t)
theorem ats_imm {K : PySem.W.Frag} {H : Hp} {α : Type} {en : α → Dat} (f : ∀ a, flat (en a) = true) : ∀ {l : List α} {vs : List V}, Ats K H vs (l.map en) → Ats K (Imm H) vs (l.map en)
  | [], _, .nil => .nil
  | _ :: _, _, .cons a t => .cons (a.imm (f _)) (ats_imm f t)
theorem rwp_imm {K : PySem.W.Frag} {N Hs : Hp} {α : Type} {en : α → Dat} (f : ∀ a, flat (en a) = true) : ∀ {l : List (List α)} {qs : List Addr}, RwP K N Hs (l.map fun r => r.map en) qs → RwP K (Imm N) Hs (l.map fun r => r.map en) qs
  | [], _, .nil => .nil
  | _ :: _, _, .cons e b t => .cons e (ats_imm f b) (rwp_imm f t)
def lrF (K : PySem.W.Frag) : Zf K Lrn where
  z := lrZ K
  fl := fun _ => True
  root := fun ⟨C, dx, pk, pp, qs, vf, kv, c⟩ h => ⟨C, dx, pk, pp, qs, vf, kv, c.hp, c.kc, c.na, c.af, c.hk, c.ak, c.hq, c.rw_, c.nd, c.mu, h⟩
  pc := fun ⟨_, _, _, _, _, _, _, c⟩ => c.pc
  im := fun _ ⟨C, dx, pk, pp, qs, vf, kv, c⟩ => ⟨C, dx, pk, pp, qs, vf, kv, c.hp, c.kc, c.na, c.af.imm rfl, c.hk, atk_imm flat_kvd c.ak, c.hq, rwp_imm flat_pad c.rw_, c.nd, c.mu, c.pc⟩
theorem imm_upd {H : Hp} {a : Addr} {u o : HO} (h : H a = some u) (m : Mut (some u)) : Same (Imm H) (Imm (upd H a o)) := fun b w e => by
  have h1 := imm_sub H b w e
  have h2 := imm_not e
  have hb : b ≠ a := fun q => by
    rw [q, h] at h1
    cases h1
    exact h2 m
  exact imm_of (by rw [upd_ne hb]; exact h1) h2
/-! ### the thing, lent: it may be read while it stands -/
theorem Rep.less {K : PySem.W.Frag} {A B H N : Hp} {ρ : Env'} {σ : L2.St} (s : Same A B) (hn : noOl ρ) (r : Rep K B ρ σ H N) : Rep K A ρ σ H N where
  old := s.trans r.old
  sub := r.sub
  imm := (imm_same s).trans r.imm
  fresh := fun a o h m => s.free (r.fresh a o h m)
  len := r.len
  im := r.im
  ol := fun j d h => (hn j d h).elim
  ow := fun j d h => by
    obtain ⟨p, h1, h2, h3, h4⟩ := r.ow j d h
    exact ⟨p, h1, s.free h2, h3, h4⟩
  rf := r.rf
  apart := r.apart
theorem Rep.lentIn {K : PySem.W.Frag} {τ : Type} {F : Zf K τ} {pc : Addr → Prop} {t : τ} {H0 H N Hs : Hp} {p : Addr} {i : Nat} {ρ : Env'} {σ : L2.St} (hn : noOl ρ) (hfl : F.fl t) (nz : (F.z pc).Z t N Hs p) (r : Rep K (Un H0 Hs) (ρ.set i (.rf p)) σ H N) :
    ∃ G0 N', Same N N' ∧ Same (Un H0 Hs) G0 ∧ Rep K G0 (ρ.set i (.rf p)) σ H N' ∧ At K G0 (.ref p) ((F.z pc).en t) := by
  have hsH : Same Hs H := fun a u e => r.old a u (un_some e)
  have sG : Same (Un H0 Hs) (both (Un H0 Hs) (Imm H)) := both_l _ _
  have sI : Same (Imm H) (both (Un H0 Hs) (Imm H)) := both_r r.old (imm_sub H)
  have sN : Same N (both N (Imm H)) := both_l _ _
  have sNI : Same (Imm H) (both N (Imm H)) := both_r r.sub (imm_sub H)
  have oG : Same (both (Un H0 Hs) (Imm H)) H := both_sub r.old (imm_sub H)
  have own : ∀ (q : Addr) (o : HO), H q = some o → Mut (some o) → Imm H q = none := fun q o h m => by
    cases z : Imm H q with
    | none => rfl
    | some u =>
      have e := imm_sub H q u z
      rw [h] at e
      cases e
      exact (imm_not z m).elim
  refine ⟨both (Un H0 Hs) (Imm H), both N (Imm H), sN, sG, ⟨oG, both_sub r.sub (imm_sub H), fun a o h => sNI a o (imm_same oG a o h), fun a o h m => ?_, r.len, fun j d h => ?_, fun j d h => (noOl_set hn j d h).elim, fun j d h => ?_, r.rf, r.apart⟩, (F.z pc).at_ (F.im hfl nz) ((imm_same r.sub).trans sI) (fun a u e => sG a u (un_some e))⟩
  · unfold both at h
    split at h
    · exact (imm_not h m).elim
    · unfold both
      rw [if_pos (r.fresh a o h m)]
      exact own a o (r.sub a o h) m
  · obtain ⟨v, h1, h2⟩ := r.im j d h
    exact ⟨v, h1, h2.mono sN⟩
  · obtain ⟨q, h1, h2, h3, h4⟩ := r.ow j d h
    obtain ⟨q', o, e1, e2, m⟩ := r.own_some h
    rw [h1] at e1
    cases e1
    refine ⟨q, h1, by unfold both; rw [if_pos h2]; exact own q o e2 m, by unfold both; rw [if_pos h3]; exact own q o e2 m, ?_⟩
    cases d with
    | lst ds => obtain ⟨vs, b1, b2⟩ := h4; exact ⟨vs, b1, b2.mono sN⟩
    | dic ds => obtain ⟨vs, b1, b2⟩ := h4; exact ⟨vs, b1, b2.mono sN⟩
    | dit ks ds => obtain ⟨vs, b1, ql, b2⟩ := h4; exact ⟨vs, b1, ql, b2.mono sN⟩
    | _ => exact h4
section
variable {τ α β γ S R : Type} {X : Cx} {F : Zf X.K τ} {pc : Addr → Prop} {H0 : Hp} {i k : Nat} {Φ : Hp → Prop} {ρ ρ1 : Env'} {t : τ} {st : Stmt} {sts rest : List Stmt} {c e : Expr} {pos : Pos} {D : γ → OcZ τ}
/-- what may be told of the heaps that the thing is lent in -/
abbrev Lent (X : Cx) (F : Zf X.K τ) (pc : Addr → Prop) (Φ : Hp → Prop) (t : τ) (P : Hp → Addr → Prop) : Prop := ∀ H0' p, Φ H0' → At X.K H0' (.ref p) ((F.z pc).en t) → P H0' p
theorem etz_lent {v : Bool} (hn : noOl ρ) (hΦ : Φ H0) (mΦ : ∀ {A B : Hp}, Same A B → Φ A → Φ B) (hfl : F.fl t) (h : Lent X F pc Φ t fun H0' p => EvT X H0' (ρ.set i (.rf p)) c v) : EtZ (F.z pc) H0 i ρ t c v := fun σ H N ⟨p, Hs, nz, d, r⟩ => by
  obtain ⟨G0, N1, n1, g1, r1, a1⟩ := Rep.lentIn hn hfl nz r
  exact (h G0 p (mΦ ((un_same d).trans g1) hΦ) a1 σ H N1 r1).imp fun w H' ⟨e1, N', s, s2, r'⟩ => ⟨e1, s, p, Hs, nz, d, r.grow s⟩
/-- a statement that may read the thing -/
theorem xz_see {m : M β} {f : β → M γ} (eS : β → Env') (hn : noOl ρ) (hn2 : ∀ r, noOl (eS r)) (hΦ : Φ H0) (mΦ : ∀ {A B : Hp}, Same A B → Φ A → Φ B) (hfl : F.fl t) (h : Lent X F pc Φ t fun H0' p => ExM X H0' (ρ.set i (.rf p)) k [st] (fun r => .nx ((eS r).set i (.rf p))) m) (tt : ∀ r, ExMZ (F.z pc) H0 i (eS r) t k rest D (f r)) : ExMZ (F.z pc) H0 i ρ t k (st :: rest) D (M.bind m f) := by
  cases m with
  | ok v => exact xz_then (ρ1 := eS v) (t1 := t) (fun DD σ H N ⟨p, Hs, nz, d, r⟩ kk => by
      obtain ⟨G0, N1, n1, g1, r1, a1⟩ := Rep.lentIn hn hfl nz r
      exact ws_one (h G0 p (mΦ ((un_same d).trans g1) hΦ) a1 DD σ H N1 r1 fun σ' H' N' s r' => kk σ' H' N' (n1.trans s) ⟨p, Hs, (F.z pc).mono (n1.trans s) nz, d, Rep.less g1 (noOl_set (hn2 v)) r'⟩)) (tt v)
  | ex n => exact ez_ex (fun DD σ H N ⟨p, Hs, nz, d, r⟩ ⟨W, tk, cc⟩ => by
      obtain ⟨G0, N1, n1, g1, r1, a1⟩ := Rep.lentIn hn hfl nz r
      exact ws_one (h G0 p (mΦ ((un_same d).trans g1) hΦ) a1 DD σ H N1 r1 ⟨W, tk, fun C σ' H' N' m s r' => cc C σ' H' N' m (n1.trans s) (Rep.less ((un_same d).trans g1) (noOl_no k) r')⟩))
  | far => trivial
/-- a block's end that leaves the def -/
theorem xz_go {oo : γ → Outc} {m : M γ} (hn : noOl ρ) (hΦ : Φ H0) (mΦ : ∀ {A B : Hp}, Same A B → Φ A → Φ B) (hfl : F.fl t) (h : Lent X F pc Φ t fun H0' p => ExM X H0' (ρ.set i (.rf p)) k sts oo m) (hD : ∀ v, (∃ d, oo v = .rt d ∧ D v = .rt d) ∨ (∃ d, oo v = .ro d ∧ D v = .ro d)) : ExMZ (F.z pc) H0 i ρ t k sts D m := by
  cases m with
  | ok r =>
    show ExecZ (F.z pc) H0 i ρ t sts (D r)
    rcases hD r with ⟨dd, e1, e2⟩ | ⟨dd, e1, e2⟩
    · rw [e2]
      intro DD σ H N ⟨p, Hs, nz, d, rr⟩ c
      obtain ⟨G0, N1, n1, g1, r1, a1⟩ := Rep.lentIn hn hfl nz rr
      have h' : Exec X G0 (ρ.set i (.rf p)) sts (oo r) := h G0 p (mΦ ((un_same d).trans g1) hΦ) a1
      rw [e1] at h'
      exact h' DD σ H N1 r1 fun v H' a b ⟨M, m1, m2, m3⟩ => c v H' (((un_same d).trans g1).trans a) (n1.trans b) ⟨M, m1, fun x o q m => ((un_same d).trans g1).free (m2 x o q m), m3⟩
    · rw [e2]
      intro DD σ H N ⟨p, Hs, nz, d, rr⟩ c
      obtain ⟨G0, N1, n1, g1, r1, a1⟩ := Rep.lentIn hn hfl nz rr
      have h' : Exec X G0 (ρ.set i (.rf p)) sts (oo r) := h G0 p (mΦ ((un_same d).trans g1) hΦ) a1
      rw [e1] at h'
      exact h' DD σ H N1 r1 fun p' H' N2 a b b2 c1 c2 c3 c4 => c p' H' N2 (((un_same d).trans g1).trans a) (n1.trans b) b2 (fun x o q m => ((un_same d).trans g1).free (c1 x o q m)) (((un_same d).trans g1).free c2) c3 c4
  | ex n =>
    intro DD σ H N ⟨p, Hs, nz, d, rr⟩ ⟨W, tk, cc⟩
    · obtain ⟨G0, N1, n1, g1, r1, a1⟩ := Rep.lentIn hn hfl nz rr
      exact h G0 p (mΦ ((un_same d).trans g1) hΦ) a1 DD σ H N1 r1 ⟨W, tk, fun C σ' H' N' m s r' => cc C σ' H' N' m (n1.trans s) (Rep.less ((un_same d).trans g1) (noOl_no k) r')⟩
  | far => trivial
theorem xz_goT {m : M γ} {eR : γ → Dat} (hn : noOl ρ) (hΦ : Φ H0) (mΦ : ∀ {A B : Hp}, Same A B → Φ A → Φ B) (hfl : F.fl t) (h : Lent X F pc Φ t fun H0' p => ExM X H0' (ρ.set i (.rf p)) k sts (fun r => .rt (eR r)) m) : ExMZ (F.z pc) H0 i ρ t k sts (fun r => .rt (eR r)) m := xz_go (Φ := Φ) hn hΦ mΦ hfl h fun v => .inl ⟨_, rfl, rfl⟩
/-- .. from within a loop or an if -/
theorem xz_goF {S L R : Type} {eS : S → Env'} {tS : S → τ} {eL : L → Env'} {tL : L → τ} {eR : R → Dat} {m : M R} (hn : noOl ρ) (hΦ : Φ H0) (mΦ : ∀ {A B : Hp}, Same A B → Φ A → Φ B) (hfl : F.fl t) (h : Lent X F pc Φ t fun H0' p => ExM X H0' (ρ.set i (.rf p)) k sts (fun r => .rt (eR r)) m) : ExMZ (F.z pc) H0 i ρ t k sts (Fl.Dz eS tS eL tL (fun r => .rt (eR r))) (M.bind m fun r => .ok (.rt r)) := by
  have h2 := xz_goT (Φ := Φ) hn hΦ mΦ hfl h
  cases m with
  | ok r => exact h2
  | ex n => exact h2
  | far => trivial
/-- a list of one's own: nobody changes it from here on -/
theorem xz_frz {m : M γ} {d : Dat} {z : Zp X.K τ} (j : Nat) (hj : ρ[j]? = some (.ow d)) (hij : j ≠ i) (h : ExMZ z H0 i (ρ.set j (.im d)) t k sts D m) : ExMZ z H0 i ρ t k sts D m := by
  have go : ∀ {o : OcZ τ}, ExecZ z H0 i (ρ.set j (.im d)) t sts o → ExecZ z H0 i ρ t sts o := fun {o} hh DD σ H N ⟨p, Hs, nz, dd, r⟩ c => by
    have hj' : (ρ.set i (.rf p))[j]? = some (.ow d) := by rw [List.getElem?_set_ne (Ne.symm hij)]; exact hj
    obtain ⟨q, e1, h0, hnn, ho⟩ := r.ow j d hj'
    have r1 := r.drop j
    obtain ⟨N', s, r2, a⟩ := r1.freeze h0 hnn ho (fun l d' q' z => by
      rcases get_set q' with ⟨_, q''⟩ | ⟨ne, q''⟩
      · cases q''
      · exact r.apart j l d d' q (Ne.symm ne) hj' q'' e1 z)
    have r3 := r2.setE (i := j) (v := .ref q) (e := .im d) a
    have eσ : σ.set j (some (V.ref q)) = σ := by
      apply List.ext_getElem?
      intro l
      by_cases hl : j = l
      · subst hl
        rw [List.getElem?_set_self (lt_of_get e1), e1]
      · rw [List.getElem?_set_ne hl]
    rw [eσ, List.set_set, List.set_comm _ _ (Ne.symm hij)] at r3
    exact hh DD σ H N' ⟨p, Hs, z.mono s nz, dd, r3⟩ (c.mono s)
  cases m with
  | ok v => exact go h
  | ex n => exact go h
  | far => trivial
end
section
variable {γ : Type} {X : Cx} {pc : Addr → Prop} {H0 : Hp} {i k : Nat} {Φ : Hp → Prop} {ρ : Env'} {L : Lrn} {sts rest : List Stmt} {a b c e : Expr} {p1 p2 p3 p4 pos : Pos} {D : γ → OcZ Lrn}
/-- where the learner stands -/
theorem lr_at {σ : L2.St} {H N Hs : Hp} {p C dx pk pp : Addr} {qs : List Addr} {vf : V} {kv : List (Key × V)} (c : LrC X.K pc L N Hs p C dx pk pp qs vf kv) (r : Rep X.K (Un H0 Hs) (ρ.set i (.rf p)) σ H N) : H p = some (.ins C dx (lvs vf L.2.1 pk pp)) ∧ H pk = some (.dK kv) ∧ H pp = some (.lst (qs.map V.ref)) :=
  ⟨r.old _ _ (un_some c.hp), r.old _ _ (un_some c.hk), r.old _ _ (un_some c.hq)⟩
/-- self.past.append(a new list) -/
theorem lz_append {l : List (List Nat × Option KV)} {f : Lrn → M γ} {y : Str} (hn : noOl ρ) (hi : i < ρ.length) (hΦ : Φ H0) (mΦ : ∀ {A B : Hp}, Same A B → Φ A → Φ B) (he : Lent X (lrF X.K) pc Φ L fun H0' p => EvO X H0' (ρ.set i (.rf p)) e (lstd pad l)) (hz : lenLt L.2.2.2 = true) (tt : ∀ L, ExMZ (lrZ X.K pc) H0 i ρ L k rest D (f L)) (hN : X.N[i]? = some y := by rfl) (hv : Vis X.env.scope y := by first | exact Or.inl rfl | exact Or.inr (Or.inl rfl) | exact Or.inr (Or.inr rfl))
    (hd : (y == ("__debug__" : Str)) = false := by decide) (hcd : (y == ("__classdict__" : Str)) = false := by decide) (hb : attributeBase (.Name y p1) "past" X.env (eval (.Name y p1) X.env) = eval (.Name y p1) X.env := by rfl)
    (hpe : ∀ to t, PE X (.Attribute (.Name y p1) "past" p2) to → PA X [e] t → PE X (.Call (.Attribute (.Attribute (.Name y p1) "past" p2) "append" p3) [e] [] p4) (tBM X.K "list" rAppend to t) := by exact fun _ _ h g => pe_bm PySem.F.plainAttrs_list PySem.F.slot_list_append PySem.F.type_list_append mt_append h g)
    (hs1 : starEach [e] X.env = (false, eval e X.env) :: starEach [] X.env := by rfl) (hs : swapsWith (.Call (.Attribute (.Attribute (.Name y p1) "past" p2) "append" p3) [e] [] p4) none pos.line X.env = pure false := by rfl) :
    ExMZ (lrZ X.K pc) H0 i ρ L k (.Expr (.Call (.Attribute (.Attribute (.Name y p1) "past" p2) "append" p3) [e] [] p4) pos :: rest) D (M.lt (L.1, L.2.1, L.2.2.1, L.2.2.2 ++ [l]) f) := by
  refine xz_then (ρ1 := ρ) (t1 := (L.1, L.2.1, L.2.2.1, L.2.2.2 ++ [l])) (fun DD σ H N ⟨p, Hs, ⟨C, dx, pk, pp, qs, vf, kv, c⟩, d, r⟩ kk => ?_) (tt _)
  have hp : σ[i]? = some (some (V.ref p)) := r.rf i p (List.getElem?_set_self hi)
  have hn' : noOl (ρ.set i (.rf p)) := noOl_set hn
  obtain ⟨o1, o2, o3⟩ := lr_at c r
  obtain ⟨G0, NL, nL, g1, rL, aL⟩ := Rep.lentIn (F := lrF X.K) (pc := pc) hn trivial ⟨C, dx, pk, pp, qs, vf, kv, c⟩ r
  refine ws_of (ps_expr (hpe _ _ (pe_fld (pv i hN hv hd hcd) hb) (pa_cons pe_w pa_nil hs1)) hs) ⟨_, hp, p, C, dx, _, _, rfl, o1, c.kc.cl, c.na _ (mem_lfs ix_past), lvs_past, .inl ⟨rfl, _, .inl (.inl o3)⟩, (he G0 p (mΦ ((un_same d).trans g1) hΦ) aL σ H NL rL).imp fun v H1 ⟨N1, q, e1, hq, s1, m1, r1, nq, ws, w1, w2⟩ => ?_⟩
  subst e1
  have rg := r.grow s1
  have uq : Un H0 Hs q = none := by
    cases z : Un H0 Hs q with
    | none => rfl
    | some u => rw [r.old q u z] at hq; cases hq
  obtain ⟨hsq, h0q⟩ := un_none uq
  have qn : ∀ {a u}, Hs a = some u → a ≠ q := fun {a u} h z => by rw [z, hsq] at h; cases h
  have qqs : q ∉ qs := fun m => by obtain ⟨w, z⟩ := c.rw_.mem q m; rw [z] at hsq; cases hsq
  have r2 := rg.updS hn' (q := q) (o := .lst ws) True.intro (.inr ⟨r.sub.free hq, fun j d' e => no_own r hq j d' e⟩)
  rw [upd_id w1] at r2
  have hpp : (upd Hs q (.lst ws)) pp = some (.lst (qs.map V.ref)) := by rw [upd_ne (qn c.hq)]; exact c.hq
  have r3 := r2.updS hn' (q := pp) (o := .lst (qs.map V.ref ++ [V.ref q])) True.intro (.inl ⟨_, hpp, True.intro⟩)
  obtain ⟨N2, n2, r4, kp⟩ := r3.keep
  have a2 : Ats X.K N2 ws (l.map pad) := ((ats_imm flat_pad (w2.mono r1.sub)).mono (imm_upd (s1 _ _ o3) True.intro)).mono kp
  refine ⟨pp, _, _, rfl, rfl, s1 _ _ o3, by rw [List.length_map, c.rw_.len, List.length_map]; exact lenLt_ok hz, kk σ _ N2 n2 ?_⟩
  have nds := List.nodup_cons.mp c.nd
  have nd2 := List.nodup_cons.mp nds.2
  have nd3 := List.nodup_cons.mp nd2.2
  have ppp : p ≠ pp := fun z => nds.1 (by rw [z]; simp)
  have pkp : pk ≠ pp := fun z => nd2.1 (by rw [z]; simp)
  refine ⟨p, _, ⟨C, dx, pk, pp, qs ++ [q], vf, kv, by rw [upd_ne ppp, upd_ne (qn c.hp)]; exact c.hp, c.kc, c.na, c.af.mono n2, by rw [upd_ne pkp, upd_ne (qn c.hk)]; exact c.hk, c.ak.mono n2, by rw [upd_same, List.map_append]; rfl, ?_, ?_, mu_l (mu_l c.mu), c.pc⟩, dj_upd (d pp _ c.hq) (dj_upd h0q d), r4⟩
  · show RwP _ _ _ (List.map _ (L.2.2.2 ++ [l])) _
    rw [List.map_append]
    refine RwP.updH (RwP.snoc (ws := ws) upd_same a2 ((c.rw_.mono n2).updH qqs)) ?_
    rw [List.mem_append, not_or]
    exact ⟨nd3.1, fun m => qn c.hq (List.mem_singleton.mp m)⟩
  · rw [show p :: pk :: pp :: (qs ++ [q]) = (p :: pk :: pp :: qs) ++ [q] from rfl, List.nodup_append]
    refine ⟨c.nd, by simp, fun a ha b hb z => ?_⟩
    rw [List.mem_singleton.mp hb] at z
    subst z
    rcases List.mem_cons.mp ha with m | m
    · exact qn c.hp m.symm
    · rcases List.mem_cons.mp m with m | m
      · exact qn c.hk m.symm
      · rcases List.mem_cons.mp m with m | m
        · exact qn c.hq m.symm
        · exact qqs m
/-- self.text = .. -/
theorem lz_text {l : List Nat} {f : Lrn → M γ} {y : Str} (hn : noOl ρ) (hi : i < ρ.length) (hΦ : Φ H0) (mΦ : ∀ {A B : Hp}, Same A B → Φ A → Φ B) (he : Lent X (lrF X.K) pc Φ L fun H0' p => Ev X H0' (ρ.set i (.rf p)) e (tx l)) (tt : ∀ L, ExMZ (lrZ X.K pc) H0 i ρ L k rest D (f L)) (hN : X.N[i]? = some y := by rfl) (hv : Vis X.env.scope y := by first | exact Or.inl rfl | exact Or.inr (Or.inl rfl) | exact Or.inr (Or.inr rfl))
    (hd : (y == ("__debug__" : Str)) = false := by decide) (hcd : (y == ("__classdict__" : Str)) = false := by decide)
    (hs : swapsWith e (some (.Attribute (.Name y p1) "text" p2)) pos.line X.env = pure false := by rfl) :
    ExMZ (lrZ X.K pc) H0 i ρ L k (.Assign [.Attribute (.Name y p1) "text" p2] e pos :: rest) D (M.lt (L.1, l, L.2.2.1, L.2.2.2) f) := by
  refine xz_then (ρ1 := ρ) (t1 := (L.1, l, L.2.2.1, L.2.2.2)) (fun DD σ H N ⟨p, Hs, ⟨C, dx, pk, pp, qs, vf, kv, c⟩, d, r⟩ kk => ?_) (tt _)
  have hp : σ[i]? = some (some (V.ref p)) := r.rf i p (List.getElem?_set_self hi)
  have hn' : noOl (ρ.set i (.rf p)) := noOl_set hn
  obtain ⟨o1, o2, o3⟩ := lr_at c r
  obtain ⟨G0, NL, nL, g1, rL, aL⟩ := Rep.lentIn (F := lrF X.K) (pc := pc) hn trivial ⟨C, dx, pk, pp, qs, vf, kv, c⟩ r
  refine ws_of (ps_fld (pv i hN hv hd hcd) pe_w hs) ((he G0 p (mΦ ((un_same d).trans g1) hΦ) aL σ H NL rL).imp fun v H1 ⟨N1, s1, m1, r1, a1⟩ => ?_)
  have h5 := at_str a1
  subst h5
  have rg := r.grow s1
  refine ⟨_, hp, p, C, dx, _, rfl, s1 _ _ o1, c.kc.cl, c.na _ (mem_lfs ix_text), by show 4 < 1000; decide, ?_⟩
  rw [lvs_put]
  have r3 := rg.updS hn' (q := p) (o := .ins C dx (lvs vf l pk pp)) True.intro (.inl ⟨_, c.hp, True.intro⟩)
  have nds := List.nodup_cons.mp c.nd
  have h1 : p ≠ pk := fun z => nds.1 (by rw [z]; simp)
  have h2 : p ≠ pp := fun z => nds.1 (by rw [z]; simp)
  have h3 : p ∉ qs := fun m => nds.1 (by simp [m])
  exact kk σ _ N (Same.refl _) ⟨p, _, ⟨C, dx, pk, pp, qs, vf, kv, upd_same, c.kc, c.na, c.af, by rw [upd_ne (Ne.symm h1)]; exact c.hk, c.ak, by rw [upd_ne (Ne.symm h2)]; exact c.hq, c.rw_.updH h3, c.nd, mu_upd (o := .ins C dx _) True.intro c.mu, c.pc⟩, dj_upd (d p _ c.hp) d, r3⟩
/-- a cell of the dict is new -/
theorem lz_known {σ : L2.St} {H N Hs : Hp} {p C dx pk pp : Addr} {qs : List Addr} {vf : V} {kv kv' : List (Key × V)} {l : List (List Nat × KV)} (hn : noOl ρ) (c : LrC X.K pc L N Hs p C dx pk pp qs vf kv) (d : ∀ a u, Hs a = some u → H0 a = none) (r : Rep X.K (Un H0 Hs) (ρ.set i (.rf p)) σ H N) (h : Atk X.K N kv' (dm kvd l)) : StZ (lrZ X.K pc) H0 i ρ (L.1, L.2.1, l, L.2.2.2) σ (upd H pk (.dK kv')) N := by
  have r3 := r.updS (noOl_set hn) (q := pk) (o := .dK kv') True.intro (.inl ⟨_, c.hk, True.intro⟩)
  have nds := List.nodup_cons.mp c.nd
  have nd2 := List.nodup_cons.mp nds.2
  have h1 : p ≠ pk := fun z => nds.1 (by rw [z]; simp)
  have h2 : pk ≠ pp := fun z => nd2.1 (by rw [z]; simp)
  have h3 : pk ∉ qs := fun m => nd2.1 (by simp [m])
  exact ⟨p, _, ⟨C, dx, pk, pp, qs, vf, kv', by rw [upd_ne h1]; exact c.hp, c.kc, c.na, c.af, upd_same, h, by rw [upd_ne (Ne.symm h2)]; exact c.hq, c.rw_.updH h3, c.nd, mu_upd (o := .dK kv') True.intro c.mu, c.pc⟩, dj_upd (d pk _ c.hk) d, r3⟩
/-- self.known.update(path) -/
theorem lz_update {l : List (List Nat × KV)} {f : Lrn → M γ} {y : Str} (hn : noOl ρ) (hi : i < ρ.length) (hΦ : Φ H0) (mΦ : ∀ {A B : Hp}, Same A B → Φ A → Φ B) (he : ∀ H0' p, Φ H0' → Ev X H0' (ρ.set i (.rf p)) e (dicd kvd l)) (hz : catOk L.2.2.1 l = true) (tt : ∀ L, ExMZ (lrZ X.K pc) H0 i ρ L k rest D (f L)) (hN : X.N[i]? = some y := by rfl) (hv : Vis X.env.scope y := by first | exact Or.inl rfl | exact Or.inr (Or.inl rfl) | exact Or.inr (Or.inr rfl))
    (hd : (y == ("__debug__" : Str)) = false := by decide) (hcd : (y == ("__classdict__" : Str)) = false := by decide) (hb : attributeBase (.Name y p1) "known" X.env (eval (.Name y p1) X.env) = eval (.Name y p1) X.env := by rfl)
    (hpe : ∀ to t, PE X (.Attribute (.Name y p1) "known" p2) to → PA X [e] t → PE X (.Call (.Attribute (.Attribute (.Name y p1) "known" p2) "update" p3) [e] [] p4) (tBM X.K "dict" rUpd to t) := by exact fun _ _ h g => pe_bm PySem.F.plainAttrs_dict PySem.F.slot_dict_update PySem.F.type_dict_update mt_update h g)
    (hs1 : starEach [e] X.env = (false, eval e X.env) :: starEach [] X.env := by rfl) (hs : swapsWith (.Call (.Attribute (.Attribute (.Name y p1) "known" p2) "update" p3) [e] [] p4) none pos.line X.env = pure false := by rfl) :
    ExMZ (lrZ X.K pc) H0 i ρ L k (.Expr (.Call (.Attribute (.Attribute (.Name y p1) "known" p2) "update" p3) [e] [] p4) pos :: rest) D (M.lt (L.1, L.2.1, dmerge L.2.2.1 l, L.2.2.2) f) := by
  refine xz_then (ρ1 := ρ) (t1 := (L.1, L.2.1, dmerge L.2.2.1 l, L.2.2.2)) (fun DD σ H N ⟨p, Hs, ⟨C, dx, pk, pp, qs, vf, kv, c⟩, d, r⟩ kk => ?_) (tt _)
  have hp : σ[i]? = some (some (V.ref p)) := r.rf i p (List.getElem?_set_self hi)
  obtain ⟨o1, o2, o3⟩ := lr_at c r
  refine ws_of (ps_expr (hpe _ _ (pe_fld (pv i hN hv hd hcd) hb) (pa_cons pe_w pa_nil hs1)) hs) ⟨_, hp, p, C, dx, _, _, rfl, o1, c.kc.cl, c.na _ (mem_lfs ix_known), lvs_known, .inr (.inr (.inl ⟨rfl, .inl ⟨_, o2⟩⟩)), (he _ p (mΦ (un_same d) hΦ) σ H N r).imp fun v H1 ⟨N1, s1, m1, r1, a1⟩ => ?_⟩
  obtain ⟨b, ws, e1, h1, h2⟩ := at_dic a1
  have hne : pk ≠ b := fun z => by
    have h3 := n_of r1 (un_some c.hk) True.intro
    subst z
    rcases h1 with h1 | ⟨_, h1⟩ <;> (rw [h3] at h1; cases h1)
  have c1 : LrC X.K pc L N1 Hs p C dx pk pp qs vf kv := ⟨c.hp, c.kc, c.na, c.af.mono m1, c.hk, c.ak.mono m1, c.hq, c.rw_.mono m1, c.nd, c.mu, c.pc⟩
  exact ⟨pk, b, kv, ws, rfl, by rw [e1], s1 _ _ o2, rd_mono r1.sub h1, hne, by rw [atk_len c.ak, atk_len h2, List.length_map, List.length_map]; exact catOk_ok hz, kk σ _ N1 m1 (lz_known hn c1 d r1 (atk_merge c1.ak h2))⟩
/-- self.known[key] = .. -/
theorem lz_put {key : List Nat} {v : KV} {f : Lrn → M γ} {y : Str} (hn : noOl ρ) (hi : i < ρ.length) (hΦ : Φ H0) (mΦ : ∀ {A B : Hp}, Same A B → Φ A → Φ B) (he : ∀ H0' p, Φ H0' → Ev X H0' (ρ.set i (.rf p)) e (kvd v)) (hk : ∀ H0' p, Φ H0' → Ev X H0' (ρ.set i (.rf p)) b (tx key)) (hz : lenLt L.2.2.1 = true) (hu : X.A.units + 1 < cLine) (tt : ∀ L, ExMZ (lrZ X.K pc) H0 i ρ L k rest D (f L)) (hN : X.N[i]? = some y := by rfl) (hv : Vis X.env.scope y := by first | exact Or.inl rfl | exact Or.inr (Or.inl rfl) | exact Or.inr (Or.inr rfl))
    (hd : (y == ("__debug__" : Str)) = false := by decide) (hcd : (y == ("__classdict__" : Str)) = false := by decide) (hb : attributeBase (.Name y p1) "known" X.env (eval (.Name y p1) X.env) = eval (.Name y p1) X.env := by rfl)
    (hs : swapsWith e (some (.Subscript (.Attribute (.Name y p1) "known" p2) b p3)) pos.line X.env = pure false := by rfl) :
    ExMZ (lrZ X.K pc) H0 i ρ L k (.Assign [.Subscript (.Attribute (.Name y p1) "known" p2) b p3] e pos :: rest) D (M.lt (L.1, L.2.1, dput L.2.2.1 key v, L.2.2.2) f) := by
  refine xz_then (ρ1 := ρ) (t1 := (L.1, L.2.1, dput L.2.2.1 key v, L.2.2.2)) (fun DD σ H N ⟨p, Hs, ⟨C, dx, pk, pp, qs, vf, kv, c⟩, d, r⟩ kk => ?_) (tt _)
  have hp : σ[i]? = some (some (V.ref p)) := r.rf i p (List.getElem?_set_self hi)
  have hΦ' := mΦ (un_same d) hΦ
  refine ws_of (ps_dput hu (pe_fld (pv i hN hv hd hcd) hb) pe_w pe_w hs) ((he _ p hΦ' σ H N r).imp fun w H1 ⟨N1, s1, n1, r1, a1⟩ => ?_)
  have c1 : LrC X.K pc L N1 Hs p C dx pk pp qs vf kv := ⟨c.hp, c.kc, c.na, c.af.mono n1, c.hk, c.ak.mono n1, c.hq, c.rw_.mono n1, c.nd, c.mu, c.pc⟩
  obtain ⟨o1, o2, o3⟩ := lr_at c1 r1
  refine ⟨_, hp, p, C, dx, _, _, rfl, o1, c.kc.cl, c.na _ (mem_lfs ix_known), lvs_known, (hk _ p hΦ' σ H1 N1 r1).imp fun z H2 ⟨N2, s2, n2, r2, a2⟩ => ?_⟩
  have c2 : LrC X.K pc L N2 Hs p C dx pk pp qs vf kv := ⟨c.hp, c.kc, c.na, c1.af.mono n2, c.hk, c1.ak.mono n2, c.hq, c1.rw_.mono n2, c.nd, c.mu, c.pc⟩
  have h5 := at_str a2
  subst h5
  refine ⟨pk, _, rfl, .inl ⟨kv, Sum.inr (SX.S key), s2 _ _ o2, rfl, ?_, rfl⟩, kk σ _ N2 (n1.trans n2) (lz_known hn c2 d r2 (atk_put c2.ak key (a1.mono n2)))⟩
  rw [atk_len c.ak, List.length_map]
  exact lenLt_ok hz
end
end B

namespace B
open PySem PySem.Spec PyProof.Rows L2
/-! ### the learner: what goes back; its methods; a learner is made -/
def ddrop {α : Type} (l : List (List Nat × α)) (k : List Nat) : List (List Nat × α) := l.filter fun p => decide (p.1 ≠ k)
theorem atk_drop {α : Type} {K : PySem.W.Frag} {H : Hp} {e : α → Dat} (k : List Nat) : ∀ {l : List (List Nat × α)} {vs : List (Key × V)}, Atk K H vs (dm e l) → Atk K H (dropK vs (Sum.inr (SX.S k) : Key)) (dm e (ddrop l k))
  | [], _, .nil => .nil
  | p :: l, _, .cons a t => by
    have ih := atk_drop (e := e) k t
    unfold dropK ddrop at *
    by_cases h : p.1 = k
    · rw [List.filter_cons_of_neg (by simp [h]), List.filter_cons_of_neg (by simp [h])]
      exact ih
    · rw [List.filter_cons_of_pos (by simp [keq, h]), List.filter_cons_of_pos (by simp [h])]
      exact .cons a ih
noncomputable def rem (Hs : Hp) (q : Addr) : Hp := fun a => if a = q then none else Hs a
theorem rem_ne {Hs : Hp} {q a : Addr} (h : a ≠ q) : rem Hs q a = Hs a := by unfold rem; rw [if_neg h]
theorem rem_some {Hs : Hp} {q a : Addr} {u : HO} (h : rem Hs q a = some u) : a ≠ q ∧ Hs a = some u := by
  unfold rem at h
  split at h
  · cases h
  · exact ⟨by assumption, h⟩
theorem RwP.rem {K : PySem.W.Frag} {N Hs : Hp} {T : List (List Dat)} {qs : List Addr} {a : Addr} (h : RwP K N Hs T qs) (ha : a ∉ qs) : RwP K N (B.rem Hs a) T qs := by
  induction h with
  | nil => exact .nil
  | cons e b _ ih =>
    rw [List.mem_cons, not_or] at ha
    exact .cons (by rw [rem_ne (Ne.symm ha.1)]; exact e) b (ih ha.2)
/-- a cell of the thing becomes data that nobody changes -/
theorem Rep.give {K : PySem.W.Frag} {H0 H N Hs : Hp} {ρ : Env'} {σ : L2.St} {q : Addr} {u : HO} (hn : noOl ρ) (d : ∀ a u, Hs a = some u → H0 a = none) (h : Hs q = some u) (m : Mut (some u)) (r : Rep K (Un H0 Hs) ρ σ H N) : Rep K (Un H0 (rem Hs q)) ρ σ H (upd N q u) ∧ Same N (upd N q u) := by
  have nq : N q = none := n_of r (un_some h) m
  have hq : H q = some u := r.old q u (un_some h)
  have sN : Same N (upd N q u) := Same.of_none nq
  have ne : ∀ {a}, a ≠ q → Un H0 (rem Hs q) a = Un H0 Hs a := fun {a} z => by unfold Un; rw [rem_ne z]
  have at_q : Un H0 (rem Hs q) q = none := by
    unfold Un rem
    rw [if_pos rfl]
    exact d q u h
  refine ⟨⟨fun a o e => ?_, fun a o e => ?_, fun a o e => ?_, fun a o e mm => ?_, r.len, fun j x e => ?_, fun j x e => (hn j x e).elim, fun j x e => ?_, r.rf, r.apart⟩, sN⟩
  · by_cases z : a = q
    · rw [z, at_q] at e; cases e
    · rw [ne z] at e; exact r.old a o e
  · by_cases z : a = q
    · subst z; rw [upd_same] at e; cases e; exact hq
    · rw [upd_ne z] at e; exact r.sub a o e
  · have e1 := imm_sub _ a o e
    have e2 := imm_not e
    by_cases z : a = q
    · rw [z, at_q] at e1; cases e1
    · rw [ne z] at e1
      rw [upd_ne z]
      exact r.imm a o (imm_of e1 e2)
  · by_cases z : a = q
    · rw [z]; exact at_q
    · rw [upd_ne z] at e
      rw [ne z]
      exact r.fresh a o e mm
  · obtain ⟨v, a1, a2⟩ := r.im j x e
    exact ⟨v, a1, a2.mono sN⟩
  · obtain ⟨p, a1, a2, a3, a4⟩ := r.ow j x e
    have z : p ≠ q := fun z => by rw [z, un_some h] at a2; cases a2
    refine ⟨p, a1, by rw [ne z]; exact a2, by rw [upd_ne z]; exact a3, ?_⟩
    cases x with
    | lst ds => obtain ⟨vs, b1, b2⟩ := a4; exact ⟨vs, b1, b2.mono sN⟩
    | dic ds => obtain ⟨vs, b1, b2⟩ := a4; exact ⟨vs, b1, b2.mono sN⟩
    | dit ks ds => obtain ⟨vs, b1, ql, b2⟩ := a4; exact ⟨vs, b1, ql, b2.mono sN⟩
    | _ => exact a4
section
variable {τ β γ S : Type} {X : Cx} {z : Zp X.K τ} {pc : Addr → Prop} {H0 : Hp} {i k : Nat} {Φ : Hp → Prop} {ρ : Env'} {t t1 : τ} {L : Lrn} {sts rest body : List Stmt} {a b c e tg iter : Expr} {p1 p2 p3 p4 pos : Pos} {ds : List Dat} {D : γ → OcZ τ}
/-- self.known.pop(key) -/
theorem lz_drop {D : γ → OcZ Lrn} {key : List Nat} {f : Lrn → M γ} {y : Str} (hn : noOl ρ) (hi : i < ρ.length) (hΦ : Φ H0) (mΦ : ∀ {A B : Hp}, Same A B → Φ A → Φ B) (hk : ∀ H0' p, Φ H0' → Ev X H0' (ρ.set i (.rf p)) e (tx key)) (hh : dhas L.2.2.1 key = true) (tt : ∀ L, ExMZ (lrZ X.K pc) H0 i ρ L k rest D (f L)) (hN : X.N[i]? = some y := by rfl) (hv : Vis X.env.scope y := by first | exact Or.inl rfl | exact Or.inr (Or.inl rfl) | exact Or.inr (Or.inr rfl))
    (hd : (y == ("__debug__" : Str)) = false := by decide) (hcd : (y == ("__classdict__" : Str)) = false := by decide) (hb : attributeBase (.Name y p1) "known" X.env (eval (.Name y p1) X.env) = eval (.Name y p1) X.env := by rfl)
    (hm : M1 X (.Attribute (.Name y p1) "known" p2) "pop" p3 e p4 := by exact ⟨rfl, rfl, rfl, rfl⟩)
    (hs : swapsWith (.Call (.Attribute (.Attribute (.Name y p1) "known" p2) "pop" p3) [e] [] p4) none pos.line X.env = pure false := by rfl) :
    ExMZ (lrZ X.K pc) H0 i ρ L k (.Expr (.Call (.Attribute (.Attribute (.Name y p1) "known" p2) "pop" p3) [e] [] p4) pos :: rest) D (M.lt (L.1, L.2.1, ddrop L.2.2.1 key, L.2.2.2) f) := by
  refine xz_then (ρ1 := ρ) (t1 := (L.1, L.2.1, ddrop L.2.2.1 key, L.2.2.2)) (fun DD σ H N ⟨p, Hs, ⟨C, dx, pk, pp, qs, vf, kv, c⟩, d, r⟩ kk => ?_) (tt _)
  have hp : σ[i]? = some (some (V.ref p)) := r.rf i p (List.getElem?_set_self hi)
  obtain ⟨o1, o2, o3⟩ := lr_at c r
  refine ws_of (ps_expr (pe_dpop1 (pe_fld (pv i hN hv hd hcd) hb) pe_w hm) hs) ⟨_, hp, p, C, dx, _, _, rfl, o1, c.kc.cl, c.na _ (mem_lfs ix_known), lvs_known, pk, rfl, .inl ⟨_, .inl o2⟩, (hk _ p (mΦ (un_same d) hΦ) σ H N r).imp fun v H1 ⟨N1, s1, m1, r1, a1⟩ => ?_⟩
  have h5 := at_str a1
  subst h5
  have c1 : LrC X.K pc L N1 Hs p C dx pk pp qs vf kv := ⟨c.hp, c.kc, c.na, c.af.mono m1, c.hk, c.ak.mono m1, c.hq, c.rw_.mono m1, c.nd, c.mu, c.pc⟩
  obtain ⟨w, hw⟩ := Option.isSome_iff_exists.mp hh
  obtain ⟨u, hu, _⟩ := (atk_get c1.ak key).1 w hw
  exact ⟨kv, Sum.inr (SX.S key), u, s1 _ _ o2, rfl, hu, kk σ _ N1 m1 (lz_known hn c1 d r1 (atk_drop key c1.ak))⟩
/-- what is walked may change the thing once, ahead of the walk -/
def IterM (X : Cx) (z : Zp X.K τ) (H0 : Hp) (i : Nat) (ρ : Env') (t : τ) (tg e : Expr) (ds : List Dat) (t1 : τ) : Prop := ∃ wi, PI X tg e wi ∧ ∀ σ H N, StZ z H0 i ρ t σ H N → ∀ R, (∀ J H1 N1, Same N N1 → StZ z H0 i ρ t1 σ H1 N1 → (∀ G, Walks X.K G J N1 ds) → R J H1) → wi σ H R
theorem sz_forI {bd : Dat → Env' → Env'} {ok : Dat → Prop} {o : OcZ τ} (hp : PassesOwn (model X.prog X.w) X.A X.env X.xe) (hc : X.calm = true) (hi : IterM X z H0 i ρ t tg iter ds t1) (hg : TgZ X i tg ok bd) (hk : ∀ d ∈ ds, ok d) (h : ForZ z H0 i bd body ds ρ t1 o)
    (hs : ∀ x, foldedSetIterable iter X.env x = pure x := by intro _; rfl) : ExSZ z H0 i ρ t (.For tg iter body [] pos) o := fun D σ H N st k => by
  obtain ⟨wi, pi, hw⟩ := hi
  obtain ⟨g, pg, hgg⟩ := hg.pg
  refine ws_of (ps_for hp hc pi pg pb_w hs) (hw σ H N st _ fun J H1 N1 n1 ⟨p, Hs, nz, d0, r1⟩ w => ?_)
  refine ⟨fun j m σ' H' => m = ds.length - j ∧ j ≤ ds.length ∧ ∃ ρ' t' N', Same N1 N' ∧ StZ z H0 i ρ' t' σ' H' N' ∧ ForZ z H0 i bd body (ds.drop j) ρ' t' o, ⟨_, rfl, Nat.zero_le _, ρ, t1, N1, Same.refl _, ⟨p, Hs, nz, d0, r1⟩, h⟩, ?_⟩
  rintro j m σ' H' ⟨rfl, hj, ρ', t', N', s', ⟨p', Hs', n', d', r'⟩, f⟩
  obtain ⟨wg, wst⟩ := w (Un H0 Hs') (Un H0 Hs') (ρ'.set i (.rf p')) σ' H' N' j (Same.refl _) s' r'
  by_cases hlt : j < ds.length
  · obtain ⟨go, yl⟩ := wg hlt
    have e1 : ds.drop j = ds[j] :: ds.drop (j + 1) := List.drop_eq_getElem_cons hlt
    rw [e1] at f
    have base : ∀ (O : OcZ τ) (Dx : Ends), ExecZ z H0 i (bd ds[j] ρ') t' body O → (∀ N3, Same N1 N3 → ContZ z H0 i N3 Dx O) → ∀ x H2, J.yld j H' x H2 → g x σ' H2 fun σ3 H3 => WB X body Dx σ3 H3 := fun O Dx ex kk x H2 y => by
      obtain ⟨N3, d, n3, s3, r3, e3, a3⟩ := yl x H2 y
      have ed : d = ds[j] := by
        rw [List.getElem?_eq_getElem hlt] at e3
        exact (Option.some.inj e3).symm
      subst ed
      exact hgg _ ρ' σ' H2 N3 x _ p' r3 a3 (hk _ (List.getElem_mem hlt)) _ fun σ4 H4 N4 n4 r4 => ex Dx σ4 H4 N4 ⟨p', Hs', z.mono (n3.trans n4) n', d', r4⟩ (kk N4 ((s'.trans n3).trans n4))
    have again : ∀ ρ1 t1, ForZ z H0 i bd body (ds.drop (j + 1)) ρ1 t1 o → ∀ σ3 H3, (∃ N3, Same N1 N3 ∧ StZ z H0 i ρ1 t1 σ3 H3 N3) → ∃ m', m' < ds.length - j ∧ m' = ds.length - (j + 1) ∧ j + 1 ≤ ds.length ∧ ∃ ρ' t' N', Same N1 N' ∧ StZ z H0 i ρ' t' σ3 H3 N' ∧ ForZ z H0 i bd body (ds.drop (j + 1)) ρ' t' o :=
      fun ρ1 t1 ff σ3 H3 ⟨N3, q1, q2⟩ => ⟨ds.length - (j + 1), by omega, rfl, hlt, ρ1, t1, N3, q1, q2, ff⟩
    cases f with
    | @turn _ ρ1 _ t1 _ _ _ ex ff => exact .inr ⟨go, fun σ3 H3 => ∃ N3, Same N1 N3 ∧ StZ z H0 i ρ1 t1 σ3 H3 N3, again ρ1 t1 ff, base (.nx ρ1 t1) _ ex fun N3 q3 σ3 H3 N4 q4 r4 => ⟨N4, q3.trans q4, r4⟩⟩
    | @turnC _ ρ1 _ t1 _ _ _ ex ff => exact .inr ⟨go, fun σ3 H3 => ∃ N3, Same N1 N3 ∧ StZ z H0 i ρ1 t1 σ3 H3 N3, again ρ1 t1 ff, base (.ct ρ1 t1) _ ex fun N3 q3 σ3 H3 N4 q4 r4 => ⟨N4, q3.trans q4, r4⟩⟩
    | @brk _ ρ1 _ t1 _ _ ex => exact .inr ⟨go, fun _ _ => False, fun _ _ z => z.elim, base (.bk ρ1 t1) _ ex fun N3 q3 σ3 H3 N4 q4 r4 => k σ3 H3 N4 ((n1.trans q3).trans q4) r4⟩
    | stop hf ex =>
      refine .inr ⟨go, fun _ _ => False, fun _ _ z => z.elim, base _ _ ex fun N3 q3 => ?_⟩
      have kc := ContZ.mono k (n1.trans q3)
      cases o <;> first | exact hf.elim | exact kc
  · have e1 : j = ds.length := by omega
    subst e1
    rw [List.drop_length] at f
    cases f
    exact .inl ⟨wst rfl, k σ' H' N' (n1.trans s') ⟨p', Hs', n', d', r'⟩⟩
theorem xz_forI {ea : β → Dat} {bd : Dat → Env' → Env'} {ok : Dat → Prop} {eS : S → Env'} {tS : S → τ} {xs : List β} {s0 : S} {f : β → S → M S} {fk : S → M γ} (hp : PassesOwn (model X.prog X.w) X.A X.env X.xe) (hc : X.calm = true) (hi : IterM X z H0 i ρ t tg iter (xs.map ea) t1) (hg : TgZ X i tg ok bd) (hok : ∀ d ∈ xs.map ea, ok d) (h0 : ρ = eS s0) (ht : t1 = tS s0) (hb : ∀ x s, ExMZ z H0 i (bd (ea x) (eS s)) (tS s) k body (fun s => .nx (eS s) (tS s)) (f x s)) (tt : ∀ s, ExMZ z H0 i (eS s) (tS s) k rest D (fk s))
    (hs : ∀ x, foldedSetIterable iter X.env x = pure x := by intro _; rfl) : ExMZ z H0 i ρ t k (.For tg iter body [] pos :: rest) D (M.bind (forM f xs s0) fk) := by
  have h := forM_Z hb xs s0
  subst h0
  subst ht
  cases e : forM f xs s0 with
  | ok s => rw [e] at h; exact xz_then (sz_forI hp hc hi hg hok h hs) (tt s)
  | ex q => rw [e] at h; exact ez_ex (sz_forI hp hc hi hg hok h hs)
  | far => trivial
/-- .. in self.past.pop() -/
theorem lz_pop {row : List (List Nat × Option KV)} {T0 : List (List (List Nat × Option KV))} {y : Str} (hn : noOl ρ) (hi : i < ρ.length) (hT : L.2.2.2 = T0 ++ [row]) (hN : X.N[i]? = some y := by rfl) (hv : Vis X.env.scope y := by first | exact Or.inl rfl | exact Or.inr (Or.inl rfl) | exact Or.inr (Or.inr rfl))
    (hd : (y == ("__debug__" : Str)) = false := by decide) (hcd : (y == ("__classdict__" : Str)) = false := by decide) (hb : attributeBase (.Name y p1) "past" X.env (eval (.Name y p1) X.env) = eval (.Name y p1) X.env := by rfl)
    (hpe : ∀ to, PE X (.Attribute (.Name y p1) "past" p2) to → PE X (.Call (.Attribute (.Attribute (.Name y p1) "past" p2) "pop" p3) [] [] p4) (tBM0 X.K "list" rPop to) := by exact fun _ h => pe_bm0 PySem.F.plainAttrs_list PySem.F.slot_list_pop PySem.F.type_list_pop mt_pop h) :
    IterM X (lrZ X.K pc) H0 i ρ L tg (.Call (.Attribute (.Attribute (.Name y p1) "past" p2) "pop" p3) [] [] p4) (row.map pad) (L.1, L.2.1, L.2.2.1, T0) := ⟨_, pi_list (hpe _ (pe_fld (pv i hN hv hd hcd) hb)), fun σ H N ⟨p, Hs, ⟨C, dx, pk, pp, qs, vf, kv, c⟩, d, r⟩ R k => by
  have hp : σ[i]? = some (some (V.ref p)) := r.rf i p (List.getElem?_set_self hi)
  have hn' : noOl (ρ.set i (.rf p)) := noOl_set hn
  obtain ⟨o1, o2, o3⟩ := lr_at c r
  have crw := c.rw_
  rw [hT, List.map_append] at crw
  obtain ⟨qs0, q, ws, rfl, h1, h2, h3⟩ := RwP.last crw
  have nds := List.nodup_cons.mp c.nd
  have nd2 := List.nodup_cons.mp nds.2
  have nd3 := List.nodup_cons.mp nd2.2
  have pq : p ≠ q := fun z => nds.1 (by rw [z]; simp)
  have pkq : pk ≠ q := fun z => nd2.1 (by rw [z]; simp)
  have ppq : pp ≠ q := fun z => nd3.1 (by rw [z]; simp)
  have ppp : p ≠ pp := fun z => nds.1 (by rw [z]; simp)
  have pkp : pk ≠ pp := fun z => nd2.1 (by rw [z]; simp)
  have ndq : (qs0 ++ [q]).Nodup := nd3.2
  have qq0 : q ∉ qs0 := fun m => by
    rw [List.nodup_append] at ndq
    exact ndq.2.2 q m q (by simp) rfl
  have pp0 : pp ∉ qs0 := fun m => nd3.1 (by simp [m])
  have r2 := r.updS hn' (q := pp) (o := .lst ((qs0 ++ [q]).map V.ref).dropLast) True.intro (.inl ⟨_, c.hq, True.intro⟩)
  have hq2 : (upd Hs pp (.lst ((qs0 ++ [q]).map V.ref).dropLast)) q = some (.lst ws) := by rw [upd_ne (Ne.symm ppq)]; exact h2
  have d2 := dj_upd (o := .lst ((qs0 ++ [q]).map V.ref).dropLast) (d pp _ c.hq) d
  obtain ⟨r3, m3⟩ := r2.give hn' d2 hq2 True.intro
  have hH : (upd H pp (.lst ((qs0 ++ [q]).map V.ref).dropLast)) q = some (.lst ws) := by rw [upd_ne (Ne.symm ppq)]; exact r.old q _ (un_some h2)
  refine ⟨_, hp, p, C, dx, _, _, rfl, o1, c.kc.cl, c.na _ (mem_lfs ix_past), lvs_past, .inl ⟨rfl, _, .inl (.inl o3)⟩, pp, _, V.ref q, rfl, rfl, o3, by simp, q, rfl, ⟨ws, .inl (.inl hH)⟩, ?_⟩
  have a3 : Ats X.K (upd N q (.lst ws)) ws (row.map pad) := h3.mono m3
  have hl : SqL X.K (upd N q (.lst ws)) q ws := .inl (.inl upd_same)
  refine k _ _ _ m3 ⟨p, _, ⟨C, dx, pk, pp, qs0, vf, kv, by rw [rem_ne pq, upd_ne ppp]; exact c.hp, c.kc, c.na, c.af.mono m3, by rw [rem_ne pkq, upd_ne pkp]; exact c.hk, c.ak.mono m3, by rw [rem_ne ppq, upd_same, List.map_append, List.map_singleton, List.dropLast_concat], ((h1.mono m3).updH pp0).rem qq0, ?_, fun a u e => mu_l c.mu a u (rem_some e).2, c.pc⟩, fun a u e => d2 a u (rem_some e).2, r3⟩ fun G H02 ρ2 σ2 H2 N2 j s02 s2 rr => ⟨fun hj => ?_, fun hj => ⟨ws, sql_same (s2.trans rr.sub) hl, by rw [a3.length]; exact Nat.le_of_eq hj.symm⟩⟩
  · have : (p :: pk :: pp :: qs0).Sublist (p :: pk :: pp :: (qs0 ++ [q])) := by
      refine List.Sublist.cons_cons _ (List.Sublist.cons_cons _ (List.Sublist.cons_cons _ ?_))
      exact List.sublist_append_left _ _
    exact c.nd.sublist this
  · have hv : j < ws.length := by rw [a3.length]; exact hj
    refine ⟨⟨ws, ws[j], sql_same (s2.trans rr.sub) hl, by simp [hv]⟩, fun x H3 y => ?_⟩
    obtain ⟨rfl, y⟩ := y
    obtain ⟨dd, e1, e2⟩ := a3.getV (y ws (sql_same (s2.trans rr.sub) hl))
    exact ⟨N2, dd, Same.refl _, Same.refl _, rr, e1, e2.mono s2⟩⟩
theorem xz_exL {F : Zf X.K τ} {oo : γ → Outc} {n : Str} (hn : noOl ρ) (hΦ : Φ H0) (mΦ : ∀ {A B : Hp}, Same A B → Φ A → Φ B) (hfl : F.fl t) (h : Lent X F pc Φ t fun H0' p => ExM X H0' (ρ.set i (.rf p)) k sts oo (.ex n)) : ExMZ (F.z pc) H0 i ρ t k sts D (.ex n) := by
  intro DD σ H N ⟨p, Hs, nz, d, rr⟩ ⟨W, tk, cc⟩
  obtain ⟨G0, N1, n1, g1, r1, a1⟩ := Rep.lentIn hn hfl nz rr
  exact h G0 p (mΦ ((un_same d).trans g1) hΦ) a1 DD σ H N1 r1 ⟨W, tk, fun C σ' H' N' m s r' => cc C σ' H' N' m (n1.trans s) (Rep.less ((un_same d).trans g1) (noOl_no k) r')⟩
end
end B

namespace B
open PySem PySem.Spec PyProof.Rows L2
/-! ### methods that change the thing -/
def GMtZ {τ : Type} (P : Program) (w : World) (K : PySem.W.Frag) (mg : Str → Option Value) (base : Heap) (n m : Str) (k : Nat) (F : Zf K τ) (R : τ → List Dat → ResZ τ → Prop) : Prop :=
  ∃ C f fd ps, PySem.W.nsIn K mainGlobals n = some (some (.ref C)) ∧ FnOk P w K mg base (L2.CX P w) k f fd ps (spZ F 0 mg R) ∧ Meth K C m f ∧ Binds K fd ps []
/-- what a method's body does -/
def MGoal {τ : Type} (X : Cx) (F : Zf X.K τ) (t : τ) (ds : List Dat) (rr : Env') (body : List Stmt) (o : ResZ τ) : Prop := match o with
  | .val d t' => ∃ es ρ1, EntsZ 0 es ds ∧ ∀ H0 pc, ExecZ (X := X) (F.z pc) H0 0 (es ++ rr) t body (.nx ρ1 t')
  | .exc x => ∃ es ρ1, Ents es ((F.z fun _ => True).en t :: ds) ∧ ∀ H0, Exec X H0 (es ++ rr) body (.ex x ρ1)
section
variable {τ : Type} {P : Program} {w : World} {K : PySem.W.Frag} {mg : Str → Option Value} {base : Heap} {n m qn : Str} {st : Stmt} {ps N : List Str} {k : Nat} {F : Zf K τ} {R : τ → List Dat → ResZ τ → Prop}
theorem GMtZ.mk (D : DfM K n m qn st ps) (S : FnScope N ps (defScope st)) (hl : ∀ t ds o, R t ds o → ds.length + 1 = ps.length) (hv : ∀ t ds o, R t ds o → match o with | .val d t' => d = .non ∧ F.fl t' | .exc _ => True)
    (body : ∀ (f : Addr) (cdv : Value) (A : Around) (outer : List PySem.Env) (s : Shared) (H : Hp) (E : XK), Room k (XX P w K mg base N qn st f cdv A outer s H E).A → ∀ t ds o, R t ds o → MGoal (XX P w K mg base N qn st f cdv A outer s H E) F t ds (List.replicate (N.length - ps.length) Ent.no) (defBody st) o) : GMtZ P w K mg base n m (k + 1) F R := by
  obtain ⟨C, f, fd, hC, FF, hm, hb⟩ := D
  refine ⟨C, f, fd, ps, hC, FF.okX S (fun vs H Q E ⟨p, t, ds, o, Hs, hR, _, _, a, _⟩ => by rw [a.length]; exact hl t ds o hR) fun cdv A outer s H vs Q E hr hsp => ?_, hm, hb⟩
  obtain ⟨p, t, ds, o, Hs, hR, hz, hs, a, q⟩ := hsp
  have hbody := body f cdv A outer s H E hr t ds o hR
  have hlen : vs.length = ps.length := by rw [a.length]; exact hl t ds o hR
  have hvv := hv t ds o hR
  refine ⟨_, pb_w, ?_⟩
  cases o with
  | exc x =>
    obtain ⟨es, ρ1, he, hbody⟩ := hbody
    have a2 : Ats K H vs ((F.z fun _ => True).en t :: ds) := by
      cases a with
      | here a => exact .cons ((F.z fun _ => True).at_ hz (imm_sub H) hs) (a.mono (rst_same H Hs))
    have r : Rep K H (es ++ List.replicate (N.length - ps.length) .no) (L2.start N vs) H (Imm H) := hlen ▸ rep_start he a2
    exact hbody H { nx := fun _ H' => Q .non H', rt := Q } _ _ _ r ⟨_, takes_of rfl rfl rfl rfl, fun C σ H' N' hm s r' => q C H' hm r'.old⟩
  | val d t' =>
    obtain ⟨es, ρ1, he, hbody⟩ := hbody
    obtain ⟨rfl, hfl⟩ := hvv
    have r : Rep K H ((es ++ List.replicate (N.length - ps.length) Ent.no).set 0 (Ent.rf p)) (L2.start N vs) H (Imm H) := hlen ▸ rep_startZ he a
    refine hbody (Rst H Hs) (fun q => q = p) { nx := fun _ H' => Q .non H', rt := Q } _ _ _ ⟨p, Hs, F.root hz rfl, fun b u e => ?_, by rw [rst_un hs]; exact r⟩ fun σ H' N' sn ⟨p', Hs', b1, b2, rr⟩ => ?_
    · unfold Rst; rw [e]
    · have b3 := rr.old
      have b4 := rr.sub
      have hp : p' = p := F.pc (pc := fun q => q = p) b1
      subst hp
      refine q .non H' Hs' (fun b u e => ?_) (F.root ((F.z _).mono (imm_same b4) (F.im hfl b1)) trivial) (fun b u e => b3 b u (un_some e)) (fun b u e => ?_) .non
      · have hn : Hs' b = none := by
          cases z : Hs' b with
          | none => rfl
          | some w => rw [b2 b w z] at e; cases e
        rw [rst_none hn]
        refine b3 b u ?_
        unfold Un
        rw [hn]
        exact e
      · have h0 := b2 b u e
        cases z : Hs b with
        | some w => exact .inl ⟨w, rfl⟩
        | none => rw [rst_none z] at h0; exact .inr h0
end
section
variable {τ α β γ S : Type} {X : Cx} {F : Zf X.K τ} {pc : Addr → Prop} {H0 : Hp} {i k kk : Nat} {Φ : Hp → Prop} {ρ ρ1 : Env'} {t t' : τ} {a b c e : Expr} {es : List Expr} {p p1 pos apos : Pos} {d : Dat} {ds : List Dat} {x n m y : Str} {R : τ → List Dat → ResZ τ → Prop}
theorem evz_meth (hI : ∀ {pc : Addr → Prop} {t : τ} {N Hs : Hp} {p : Addr}, (F.z pc).Z t N Hs p → ∃ C dx fs, Hs p = some (.ins C dx fs) ∧ KCls X.K n C ∧ fs.lookup m = none) (G : GMtZ X.prog X.w X.K X.mg X.base n m k F R) (hr : Room k X.A) (hn : noOl ρ) (hi : i < ρ.length) (hΦ : Φ H0) (mΦ : ∀ {A B : Hp}, Same A B → Φ A → Φ B) (hfl : F.fl t) (ha : ∀ H0' p, Φ H0' → EvA X H0' (ρ.set i (.rf p)) (e :: es) ds) (q : R t ds (.val d t'))
    (hN : X.N[i]? = some y := by rfl) (hv : Vis X.env.scope y := by first | exact Or.inl rfl | exact Or.inr (Or.inl rfl) | exact Or.inr (Or.inr rfl)) (hd : (y == ("__debug__" : Str)) = false := by decide) (hcd : (y == ("__classdict__" : Str)) = false := by decide)
    (hst : starEach (e :: es) X.env = (false, eval e X.env) :: starEach es X.env := by rfl) (hpl : (backTo pos (starEach es X.env)).any (·.1) = false := by rfl)
    (ht : ∃ pl, eval (.Call (.Attribute (.Name y p1) m apos) (e :: es) [] pos) X.env = (do
      let ov ← eval (.Name y p1) X.env
      standAt apos.atName
      let (f, first) ← holding [ov] (getMethod ov m pl)
      callWith pos f first (backTo pos (starEach (e :: es) X.env)) (backToKw pos (keywordEach [] X.env))) := by exact ⟨_, rfl⟩) : EvZ (F.z pc) H0 i ρ t (.Call (.Attribute (.Name y p1) m apos) (e :: es) [] pos) d t' := fun σ H N ⟨q0, Hs, nz, dd, r⟩ => by
  obtain ⟨C, f, fd, ps, hC, FF, hm, hb⟩ := G
  obtain ⟨pl, ht⟩ := ht
  obtain ⟨C', dx, fs, i1, i2, i3⟩ := hI nz
  obtain rfl := i2.eq hC
  have hn' : noOl (ρ.set i (.rf q0)) := noOl_set hn
  refine we_of (pe_methS (pl := pl) (pv i hN hv hd hcd) i2.cl hm FF hr hb (fun σ => passAt takes0 σ) pa_w hst hpl ht) ⟨_, r.rf i q0 (List.getElem?_set_self hi), q0, dx, fs, rfl, r.old _ _ (un_some i1), i3, (ha _ q0 (mΦ (un_same dd) hΦ) σ H N r).imp fun vs H1 ⟨N1, s1, n1, r1, a1⟩ => ?_⟩
  have hs1 : Same Hs H1 := fun b u e => r1.old b u (un_some e)
  have sN : Same N1 (Rst H1 Hs) := fun b u e => by
    have hsn : Hs b = none := by
      cases zz : Hs b with
      | none => rfl
      | some w => rw [n_of r1 (un_some zz) ((F.z pc).mu nz zz)] at e; cases e
    rw [rst_none hsn]
    exact r1.sub b u e
  refine ⟨q0, t, ds, _, Hs, q, F.root ((F.z pc).mono (imm_same (n1.trans r1.sub)) (F.im hfl nz)) trivial, hs1, .here (a1.mono sN), fun v H' Hs' c1 c2 c3 c4 c5 => ?_⟩
  obtain ⟨N2, m1, m2, m3, m4⟩ := rep_call hn' (fun b u e => (F.z pc).mu nz e) (fun b u e => (F.z fun _ => True).mu c2 e) dd r1 c1 c3 c4
  exact ⟨N2, n1.trans m1, ⟨q0, Hs', F.root ((F.z _).mono m2 c2) (F.pc nz), m3, m4⟩, c5.mono m2⟩
theorem evxz_meth (hI : ∀ {pc : Addr → Prop} {t : τ} {N Hs : Hp} {p : Addr}, (F.z pc).Z t N Hs p → ∃ C dx fs, Hs p = some (.ins C dx fs) ∧ KCls X.K n C ∧ fs.lookup m = none) (G : GMtZ X.prog X.w X.K X.mg X.base n m k F R) (hr : Room k X.A) (hn : noOl ρ) (hi : i < ρ.length) (hΦ : Φ H0) (mΦ : ∀ {A B : Hp}, Same A B → Φ A → Φ B) (hfl : F.fl t) (ha : ∀ H0' p, Φ H0' → EvA X H0' (ρ.set i (.rf p)) (e :: es) ds) (q : R t ds (.exc x))
    (hN : X.N[i]? = some y := by rfl) (hv : Vis X.env.scope y := by first | exact Or.inl rfl | exact Or.inr (Or.inl rfl) | exact Or.inr (Or.inr rfl)) (hd : (y == ("__debug__" : Str)) = false := by decide) (hcd : (y == ("__classdict__" : Str)) = false := by decide)
    (hst : starEach (e :: es) X.env = (false, eval e X.env) :: starEach es X.env := by rfl) (hpl : (backTo pos (starEach es X.env)).any (·.1) = false := by rfl)
    (ht : ∃ pl, eval (.Call (.Attribute (.Name y p1) m apos) (e :: es) [] pos) X.env = (do
      let ov ← eval (.Name y p1) X.env
      standAt apos.atName
      let (f, first) ← holding [ov] (getMethod ov m pl)
      callWith pos f first (backTo pos (starEach (e :: es) X.env)) (backToKw pos (keywordEach [] X.env))) := by exact ⟨_, rfl⟩) : EvXZ (F.z pc) H0 i ρ t (.Call (.Attribute (.Name y p1) m apos) (e :: es) [] pos) x := fun σ H N ⟨q0, Hs, nz, dd, r⟩ W tk kw Q => by
  obtain ⟨C, f, fd, ps, hC, FF, hm, hb⟩ := G
  obtain ⟨pl, ht⟩ := ht
  obtain ⟨C', dx, fs, i1, i2, i3⟩ := hI nz
  obtain rfl := i2.eq hC
  have hn' : noOl (ρ.set i (.rf q0)) := noOl_set hn
  refine we_of (pe_methS (pl := pl) (pv i hN hv hd hcd) i2.cl hm FF hr hb (fun σ => passAt tk σ) pa_w hst hpl ht) ⟨_, r.rf i q0 (List.getElem?_set_self hi), q0, dx, fs, rfl, r.old _ _ (un_some i1), i3, (ha _ q0 (mΦ (un_same dd) hΦ) σ H N r).imp fun vs H1 ⟨N1, s1, n1, r1, a1⟩ => ?_⟩
  have hs1 : Same Hs H1 := fun b u e => r1.old b u (un_some e)
  have sN : Same N1 (Rst H1 Hs) := fun b u e => by
    have hsn : Hs b = none := by
      cases zz : Hs b with
      | none => rfl
      | some w => rw [n_of r1 (un_some zz) ((F.z pc).mu nz zz)] at e; cases e
    rw [rst_none hsn]
    exact r1.sub b u e
  exact ⟨q0, t, ds, _, Hs, q, F.root ((F.z pc).mono (imm_same (n1.trans r1.sub)) (F.im hfl nz)) trivial, hs1, .here (a1.mono sN), fun C H' hC s' => kw C H' N1 hC n1 ⟨q0, Hs, (F.z pc).mono n1 nz, dd, r1.grow s'⟩⟩
theorem evmz_meth {en : α → Dat} {mm : M (α × τ)} (hI : ∀ {pc : Addr → Prop} {t : τ} {N Hs : Hp} {p : Addr}, (F.z pc).Z t N Hs p → ∃ C dx fs, Hs p = some (.ins C dx fs) ∧ KCls X.K n C ∧ fs.lookup m = none) (G : GMtZ X.prog X.w X.K X.mg X.base n m k F R) (hr : Room k X.A) (hn : noOl ρ) (hi : i < ρ.length) (hΦ : Φ H0) (mΦ : ∀ {A B : Hp}, Same A B → Φ A → Φ B) (hfl : F.fl t) (ha : ∀ H0' p, Φ H0' → EvA X H0' (ρ.set i (.rf p)) (e :: es) ds) (q : ∀ o, RmZ en mm o → R t ds o)
    (hN : X.N[i]? = some y := by rfl) (hv : Vis X.env.scope y := by first | exact Or.inl rfl | exact Or.inr (Or.inl rfl) | exact Or.inr (Or.inr rfl)) (hd : (y == ("__debug__" : Str)) = false := by decide) (hcd : (y == ("__classdict__" : Str)) = false := by decide)
    (hst : starEach (e :: es) X.env = (false, eval e X.env) :: starEach es X.env := by rfl) (hpl : (backTo pos (starEach es X.env)).any (·.1) = false := by rfl)
    (ht : ∃ pl, eval (.Call (.Attribute (.Name y p1) m apos) (e :: es) [] pos) X.env = (do
      let ov ← eval (.Name y p1) X.env
      standAt apos.atName
      let (f, first) ← holding [ov] (getMethod ov m pl)
      callWith pos f first (backTo pos (starEach (e :: es) X.env)) (backToKw pos (keywordEach [] X.env))) := by exact ⟨_, rfl⟩) : EvMZ (F.z pc) H0 i ρ t (.Call (.Attribute (.Name y p1) m apos) (e :: es) [] pos) en mm := by
  cases mm with
  | ok v => exact evz_meth (Φ := Φ) hI G hr hn hi hΦ mΦ hfl ha (q _ rfl) hN hv hd hcd hst hpl ht
  | ex n => exact evxz_meth (Φ := Φ) hI G hr hn hi hΦ mΦ hfl ha (q _ rfl) hN hv hd hcd hst hpl ht
  | far => trivial
theorem lr_ins {K : PySem.W.Frag} {m : Str} (hm : lfs.contains m = false) {pc : Addr → Prop} {t : Lrn} {N Hs : Hp} {p : Addr} (h : ((lrF K).z pc).Z t N Hs p) : ∃ C dx fs, Hs p = some (.ins C dx fs) ∧ KCls K "Learner" C ∧ fs.lookup m = none := by
  obtain ⟨C, dx, pk, pp, qs, vf, kv, c⟩ := h
  exact ⟨C, dx, _, c.hp, c.kc, lookup_no hm⟩
end
/-! ### a learner is made -/
def spLrn (C : Addr) : Sp := fun vs H Q E => ∃ p dx vf, vs = [.ref p, vf] ∧ H p = some (.ins C dx []) ∧ ∀ pk pp, H pk = none → H pp = none → pk ≠ pp → Q .non (upd (upd (upd H pk (.dK [])) pp (.lst [])) p (.ins C dx (lvs vf [] pk pp)))
def GMk (P : Program) (w : World) (K : PySem.W.Frag) (mg : Str → Option Value) (base : Heap) (k : Nat) : Prop :=
  ∃ C f fd ps, KCls K "Learner" C ∧ (∀ f ∈ lfs, NoAttr K C f) ∧ Mk K C f ∧ mg "Learner" = some (.ref C) ∧ FnOk P w K mg base (L2.CX P w) k f fd ps (spLrn C) ∧ Binds K fd ps []
section
variable {γ : Type} {X : Cx} {H0 : Hp} {i k kk : Nat} {Φ : Hp → Prop} {ρ ρ1 : Env'} {rest : List Stmt} {e : Expr} {p1 p2 p3 pos : Pos} {y : Str} {fr : List Nat × Int}
theorem GMk.mono {P : Program} {w : World} {K : PySem.W.Frag} {mg : Str → Option Value} {base : Heap} {k k' : Nat} (G : GMk P w K mg base k) (h : k ≤ k') : GMk P w K mg base k' := by
  obtain ⟨C, f, fd, ps, a, b, c, d, F, r⟩ := G
  exact ⟨C, f, fd, ps, a, b, c, d, F.mono h, r⟩
/-- y = Learner(frame) -/
theorem xz_make {eR : γ → Dat} {m : M γ} (G : GMk X.prog X.w X.K X.mg X.base k) (hr : Room (k + 1) X.A) (hn : noOl ρ) (h0 : ρ[i]? = some .no) (he : Ev X H0 ρ e (frd fr)) (h : ExMZ (lrZ X.K fun _ => True) H0 i ρ (fr, [], [], []) kk rest (fun r => .rt (eR r)) m) (nd : X.N.Nodup) (hi : X.N[i]? = some y := by rfl) (hx : Loc X.env.scope y := by first | exact Or.inl rfl | exact Or.inr rfl)
    (hg : Gl X "Learner" := by rfl) (hs : swapsWith (.Call (.Name "Learner" p1) [e] [] p2) (some (.Name y p3)) pos.line X.env = pure false := by rfl) (hf : X.fn y = true ∨ X.env.scope.names.lookup y = some .local := by first | exact .inl rfl | exact .inr rfl | assumption)
    (hst : starEach [e] X.env = (false, eval e X.env) :: starEach [] X.env := by rfl) (hpl : (backTo p2 (starEach [] X.env)).any (·.1) = false := by rfl) :
    ExM X H0 ρ kk (.Assign [.Name y p3] (.Call (.Name "Learner" p1) [e] [] p2) pos :: rest) (fun r => .rt (eR r)) m := by
  obtain ⟨C, f, fd, ps, kc, na, M, hm, FF, hb⟩ := G
  have go : ∀ {o : OcZ Lrn} {o' : Outc}, ExecZ (lrZ X.K fun _ => True) H0 i ρ (fr, [], [], []) rest o → (∀ N DD, Cont X H0 N DD o' → ContZ (lrZ X.K fun _ => True) H0 i N DD o) → Exec X H0 ρ (.Assign [.Name y p3] (.Call (.Name "Learner" p1) [e] [] p2) pos :: rest) o' := fun {o o'} hh hc DD σ H N r cc => by
    refine wb_of (pss_cons (ps_set nd hi hx (pe_make M FF hr hg hm hb .nil passL (pa_cons pe_w pa_nil hst) (by decide) hst hpl) hs hf) pb_w) ((he σ H N r).imp fun vf H1 ⟨N1, s1, n1, r1, a1⟩ => ?_)
    intro x dx hx0 hdx0 hne
    refine ⟨x, dx, vf, rfl, upd_same, fun pk pp hk hp hkp => ⟨rfl, ?_⟩⟩
    have xk : pk ≠ x := fun z => by rw [z, upd_same] at hk; cases hk
    have xp : pp ≠ x := fun z => by rw [z, upd_same] at hp; cases hp
    have hk1 : (upd H1 dx (.own x)) pk = none := by rw [upd_ne xk] at hk; exact hk
    have hp1 : (upd H1 dx (.own x)) pp = none := by rw [upd_ne xp] at hp; exact hp
    have hx1 : (upd H1 dx (.own x)) x = none := by rw [upd_ne (Ne.symm hne)]; exact hx0
    have r2 : Rep X.K (Un H0 (fun _ => none)) ρ σ (upd H1 dx (.own x)) N1 := r1.grow (Same.of_none hdx0)
    have r3 := r2.updS hn (q := x) (o := .ins C dx []) True.intro (.inr ⟨r2.sub.free hx1, fun j d' e => no_own r2 hx1 j d' e⟩)
    have r4 := r3.updS hn (q := pk) (o := .dK []) True.intro (.inr ⟨r3.sub.free hk, fun j d' e => no_own r3 hk j d' e⟩)
    have hp4 : (upd (upd (upd H1 dx (.own x)) x (.ins C dx [])) pk (.dK [])) pp = none := by rw [upd_ne (Ne.symm hkp)]; exact hp
    have r5 := r4.updS hn (q := pp) (o := .lst []) True.intro (.inr ⟨r4.sub.free hp4, fun j d' e => no_own r4 hp4 j d' e⟩)
    have r6 := r5.updS hn (q := x) (o := .ins C dx (lvs vf [] pk pp)) True.intro (.inl ⟨.ins C dx [], by rw [upd_ne (Ne.symm xp), upd_ne (Ne.symm xk)]; exact upd_same, True.intro⟩)
    have r7 := r6.setE (i := i) (v := .ref x) (e := .rf x) rfl
    have o0 : ∀ q, (upd H1 dx (.own x)) q = none → H0 q = none := fun q z => (r1.old.trans (Same.of_none hdx0)).free z
    exact hh DD _ _ N1 ⟨x, _, ⟨C, dx, pk, pp, [], vf, [], upd_same, kc, na, a1, by rw [upd_ne xk, upd_ne hkp]; exact upd_same, .nil, by rw [upd_ne xp]; exact upd_same, .nil, by simp [Ne.symm xk, Ne.symm xp, hkp], mu_upd (o := .ins C dx _) True.intro (mu_l (mu_upd (o := .dK []) True.intro (mu_upd (o := .ins C dx []) True.intro none_all))), trivial⟩, dj_upd (o0 x hx1) (dj_upd (o0 pp hp1) (dj_upd (o0 pk hk1) (dj_upd (o0 x hx1) none_all))), r7⟩ (ContZ.mono (hc N DD cc) n1)
  cases m with
  | ok r => exact go h fun N DD c => c
  | ex n => exact go h fun N DD c => c
  | far => trivial
end
end B

namespace B
open PySem PySem.Spec PyProof.Rows L2
theorem lvs_new {vf : V} {pk pp : Addr} : lvs vf [] pk pp = putF "past" (.ref pp) (putF "known" (.ref pk) (putF "text" (.str "") (putF "frame" vf []))) := by
  have t0 : putF "frame" vf [] = [(("frame" : Str), vf)] := rfl
  have t1 : putF "text" (.str "") [(("frame" : Str), vf)] = [(("frame" : Str), vf), (("text" : Str), V.str "")] := by
    show (if ("frame" : Str) = "text" then _ else _) = _
    rw [if_neg (by decide +kernel)]
    rfl
  have t2 : putF "known" (.ref pk) [(("frame" : Str), vf), (("text" : Str), V.str "")] = [(("frame" : Str), vf), (("text" : Str), V.str ""), (("known" : Str), V.ref pk)] := by
    show (if ("frame" : Str) = "known" then _ else (("frame" : Str), vf) :: (if ("text" : Str) = "known" then _ else _)) = _
    rw [if_neg (by decide +kernel), if_neg (by decide +kernel)]
    rfl
  have t3 : putF "past" (.ref pp) [(("frame" : Str), vf), (("text" : Str), V.str ""), (("known" : Str), V.ref pk)] = [(("frame" : Str), vf), (("text" : Str), V.str ""), (("known" : Str), V.ref pk), (("past" : Str), V.ref pp)] := by
    show (if ("frame" : Str) = "past" then _ else (("frame" : Str), vf) :: (if ("text" : Str) = "past" then _ else (("text" : Str), V.str "") :: (if ("known" : Str) = "past" then _ else _))) = _
    rw [if_neg (by decide +kernel), if_neg (by decide +kernel), if_neg (by decide +kernel)]
    rfl
  rw [t0, t1, t2, t3]
  rfl
section
variable {τ γ : Type} {X : Cx} {z : Zp X.K τ} {H0 : Hp} {i k : Nat} {ρ ρx ρv ρ1 esx esv rr : Env'} {v : τ} {sts body : List Stmt} {D : γ → OcZ τ} {f : τ → M γ} {L : Lrn} {ds : List Dat} {mx : M Unit} {mv : M Lrn} {o : ResZ Lrn}
theorem xz_lt (h : ∀ L, ExMZ z H0 i ρ L k sts D (f L)) : ExMZ z H0 i ρ v k sts D (M.lt v f) := h v
/-- a method by its two mirrors -/
theorem meth_of (hm : RmZ nond (match mx with | .ex n => .ex n | _ => M.bind (M.nox mv) fun L => .ok ((), L)) o) (hx : ∀ H0, ExM X H0 ρx k body (fun _ => .nx []) mx) (hv : ∀ H0 pc, ExMZ (lrZ X.K pc) H0 0 ρv L k body (fun s => .nx ρ1 s) mv) (e1 : Ents esx (lrnd L :: ds)) (e2 : EntsZ 0 esv ds) (q1 : ρx = esx ++ rr := by rfl) (q2 : ρv = esv ++ rr := by rfl) : MGoal X (lrF X.K) L ds rr body o := by
  subst q1
  subst q2
  have go : RmZ nond (M.bind (M.nox mv) fun L => .ok ((), L)) o → MGoal X (lrF X.K) L ds rr body o := fun hm => by
    cases mv with
    | ok v => cases (show o = _ from hm); exact ⟨esv, ρ1, e2, fun H0 pc => hv H0 pc⟩
    | ex n => exact (show False from hm).elim
    | far => exact (show False from hm).elim
  cases mx with
  | ex n => cases (show o = _ from hm); exact ⟨esx, _, e1, fun H0 => hx H0⟩
  | ok u => exact go hm
  | far => exact go hm
end
end B

namespace B
open PySem PySem.Spec PyProof.Rows L2
/-! ### a dict of one's own is walked while the learner changes -/
theorem Rep.lockO {K : PySem.W.Frag} {A H N : Hp} {ρ : Env'} {σ : L2.St} {j : Nat} {ds : List (Key × Dat)} {dd : Addr} {kvs : List (Key × V)} (od : Obj) (hn : noOl ρ) (hj : ρ[j]? = some (.ow (.dic ds))) (r : Rep K A ρ σ H N) (g1 : σ[j]? = some (some (V.ref dd))) (g2 : A dd = none) (g3 : N dd = none) (g4 : H dd = some (.dK kvs)) :
    Rep K (upd A dd (.frz od (.dK kvs))) (ρ.set j (.rf dd)) σ (upd H dd (.frz od (.dK kvs))) (upd N dd (.frz od (.dK kvs))) := by
  refine Rep.toRf g1 ⟨fun a u e => ?_, fun a u e => ?_, fun a u e => ?_, fun a u e m => ?_, by rw [List.length_set]; exact r.len, fun l x e => ?_, fun l x e => ?_, fun l x e => ?_, fun l x e => ?_, fun l l' x y q ne e1 e2 => ?_⟩
  · by_cases q : a = dd
    · subst q; rw [upd_same] at e ⊢; exact e
    · rw [upd_ne q] at e ⊢; exact r.old a u e
  · by_cases q : a = dd
    · subst q; rw [upd_same] at e ⊢; exact e
    · rw [upd_ne q] at e ⊢; exact r.sub a u e
  · have e1 := imm_sub _ a u e
    have e2 := imm_not e
    by_cases q : a = dd
    · subst q; rw [upd_same] at e1 ⊢; exact e1
    · rw [upd_ne q] at e1 ⊢; exact r.imm a u (imm_of e1 e2)
  · by_cases q : a = dd
    · subst q; rw [upd_same] at e; cases e; exact m.elim
    · rw [upd_ne q] at e ⊢; exact r.fresh a u e m
  · rcases get_set e with ⟨_, z⟩ | ⟨_, e⟩
    · cases z
    · obtain ⟨v, a1, a2⟩ := r.im l x e
      exact ⟨v, a1, a2.mono (Same.of_none g3)⟩
  · rcases get_set e with ⟨_, z⟩ | ⟨_, e⟩
    · cases z
    · exact (hn l x e).elim
  · rcases get_set e with ⟨_, z⟩ | ⟨nl, e⟩
    · cases z
    · obtain ⟨p, a1, a2, a3, a4⟩ := r.ow l x e
      have q : p ≠ dd := fun q => r.apart l j x (.dic ds) p nl e hj a1 (by rw [q]; exact g1)
      refine ⟨p, a1, by rw [upd_ne q]; exact a2, by rw [upd_ne q]; exact a3, ?_⟩
      cases x with
      | lst ds => obtain ⟨vs, b1, b2⟩ := a4; exact ⟨vs, by rw [upd_ne q]; exact b1, b2.mono (Same.of_none g3)⟩
      | dic ds => obtain ⟨vs, b1, b2⟩ := a4; exact ⟨vs, by rw [upd_ne q]; exact b1, b2.mono (Same.of_none g3)⟩
      | dit ks ds => obtain ⟨vs, b1, ql, b2⟩ := a4; exact ⟨vs, by rw [upd_ne q]; exact b1, ql, b2.mono (Same.of_none g3)⟩
      | _ => exact a4
  · rcases get_set e with ⟨_, z⟩ | ⟨_, e⟩
    · cases z
    · exact r.rf l x e
  · rcases get_set e1 with ⟨_, z⟩ | ⟨_, e1⟩
    · cases z
    rcases get_set e2 with ⟨_, z⟩ | ⟨_, e2⟩
    · cases z
    exact r.apart l l' x y q ne e1 e2
theorem Rep.unlockO {K : PySem.W.Frag} {A H N : Hp} {ρ : Env'} {σ : L2.St} {dd : Addr} {kvs : List (Key × V)} {od : Obj} (hn : noOl ρ) (r : Rep K (upd A dd (.frz od (.dK kvs))) ρ σ H N) (g2 : A dd = none) : N dd = some (.frz od (.dK kvs)) ∧ Rep K A ρ σ (upd H dd (.dK kvs)) (upd N dd (.dK kvs)) := by
  have hN : N dd = some (.frz od (.dK kvs)) := r.imm dd _ (imm_of upd_same fun z => z)
  have rd := rds_unlock hN
  have ne : ∀ {a : Addr} {u : HO}, A a = some u → a ≠ dd := fun {a u} e q => by rw [q, g2] at e; cases e
  refine ⟨hN, fun a u e => ?_, fun a u e => ?_, fun a u e => ?_, fun a u e m => ?_, r.len, fun l x e => ?_, fun l x e => (hn l x e).elim, fun l x e => ?_, r.rf, r.apart⟩
  · rw [upd_ne (ne e)]
    exact r.old a u (by rw [upd_ne (ne e)]; exact e)
  · by_cases q : a = dd
    · subst q; rw [upd_same] at e ⊢; exact e
    · rw [upd_ne q] at e ⊢; exact r.sub a u e
  · have e1 := imm_sub _ a u e
    have e2 := imm_not e
    rw [upd_ne (ne e1)]
    exact r.imm a u (imm_of (by rw [upd_ne (ne e1)]; exact e1) e2)
  · by_cases q : a = dd
    · rw [q]; exact g2
    · rw [upd_ne q] at e
      have := r.fresh a u e m
      rwa [upd_ne q] at this
  · obtain ⟨v, a1, a2⟩ := r.im l x e
    exact ⟨v, a1, a2.rds rd⟩
  · obtain ⟨p, a1, a2, a3, a4⟩ := r.ow l x e
    have q : p ≠ dd := fun q => by rw [q, upd_same] at a2; cases a2
    exact ⟨p, a1, by rw [upd_ne q] at a2; exact a2, by rw [upd_ne q]; exact a3, a4.rds rd (upd_ne q)⟩
theorem RwP.rds {K : PySem.W.Frag} {N G Hs : Hp} {T : List (List Dat)} {qs : List Addr} (e : RdS N G) (h : RwP K N Hs T qs) : RwP K G Hs T qs := by
  induction h with
  | nil => exact .nil
  | cons a b _ ih => exact .cons a (b.rds e) ih
theorem un_upd0 {H0 Hs : Hp} {a : Addr} {o : HO} (h : Hs a = none) : Un (upd H0 a o) Hs = upd (Un H0 Hs) a o := funext fun b => by
  unfold Un
  by_cases q : b = a
  · subst q
    rw [upd_same, h, upd_same]
  · rw [upd_ne q, upd_ne q]
/-- the keys of a dict that is walked -/
def KeysAt (m : List (List Nat × KV)) (G : Hp) (dd : Addr) : Prop := ∃ od kvs, G dd = some (.frz od (.dK kvs)) ∧ kvs.length = m.length ∧ ∀ (i : Nat) (k : Key) (v : V), kvs[i]? = some (k, v) → ∃ x, m[i]? = some x ∧ kV k = .str (SX.S x.1)
theorem KeysAt.mono {m : List (List Nat × KV)} {G G' : Hp} {dd : Addr} (s : Same G G') (h : KeysAt m G dd) : KeysAt m G' dd := by
  obtain ⟨od, kvs, a, b⟩ := h
  exact ⟨od, kvs, s _ _ a, b⟩
section
variable {γ : Type} {X : Cx} {pc : Addr → Prop} {H0 : Hp} {i k : Nat} {Φ : Hp → Prop} {ρ : Env'} {L L1 : Lrn} {st : Stmt} {sts rest : List Stmt} {a b c e t : Expr} {p1 p2 p3 p4 pos : Pos} {D : γ → OcZ Lrn} {m : List (List Nat × KV)}
theorem it_keysL {dd : Addr} (j : Nat) {y : Str} (h : ρ[j]? = some (.rf dd)) (f : KeysAt m H0 dd) (hN : X.N[j]? = some y := by rfl) (hv : Vis X.env.scope y := by first | exact Or.inl rfl | exact Or.inr (Or.inl rfl) | exact Or.inr (Or.inr rfl)) (hd : (y == ("__debug__" : Str)) = false := by decide) (hcd : (y == ("__classdict__" : Str)) = false := by decide) : Iter X H0 ρ t (.Name y pos) ((m.map (·.1)).map tx) := by
  obtain ⟨od, kvs, h1, h2⟩ := f
  rw [List.map_map]
  exact ⟨_, pi_keys (pv j hN hv hd hcd), fun σ H N r R kk => ⟨_, r.rf j dd h, dd, od, rfl, .inl ⟨kvs, r.old _ _ h1, kk _ _ _ (Same.refl _) (Same.refl _) r (wlk_k (.inr h1) h2)⟩⟩⟩
theorem sz_lock (j : Nat) (hn : noOl ρ) (hj : ρ[j]? = some (.ow (dicd kvd m))) (hij : j ≠ i) (hΦ : Φ H0) (mΦ : ∀ {A B : Hp}, Same A B → Φ A → Φ B) (h : ∀ H0b dd, Φ H0b → KeysAt m H0b dd → ExSZ (lrZ X.K pc) H0b i (ρ.set j (.rf dd)) L st (.nx (ρ.set j (.rf dd)) L1)) : ExSZ (lrZ X.K pc) H0 i ρ L st (.nx (ρ.set j (.im (dicd kvd m))) L1) := fun DD σ H N ⟨p, Hs, ⟨C, dx, pk, pp, qs, vf, kv, c⟩, d, r⟩ kk => by
  have hj' : (ρ.set i (.rf p))[j]? = some (.ow (dicd kvd m)) := by rw [List.getElem?_set_ne (Ne.symm hij)]; exact hj
  have hn' : noOl (ρ.set i (.rf p)) := noOl_set hn
  obtain ⟨dd, g1, g2, g3, kv2, g4, g5⟩ := r.ow j _ hj'
  obtain ⟨e1, e2⟩ := un_none g2
  refine ws_of (ps_lock ps_w) ⟨dd, .dK kv2, g4, True.intro, fun od => ?_⟩
  have sn : Same N (upd N dd (.frz od (.dK kv2))) := Same.of_none g3
  have r1 := r.lockO od hn' hj' g1 g2 g3 g4
  rw [← un_upd0 e1, List.set_comm _ _ (Ne.symm hij)] at r1
  have s0 : Same H0 (upd H0 dd (.frz od (.dK kv2))) := Same.of_none e2
  have dj : ∀ a u, Hs a = some u → (upd H0 dd (.frz od (.dK kv2))) a = none := fun a u e => by
    rw [upd_ne (fun q => by rw [q, e1] at e; cases e)]
    exact d a u e
  refine h (upd H0 dd (.frz od (.dK kv2))) dd (mΦ s0 hΦ) ⟨od, kv2, upd_same, atk_ks g5⟩ _ σ _ _ ⟨p, Hs, ⟨C, dx, pk, pp, qs, vf, kv, c.hp, c.kc, c.na, c.af.mono sn, c.hk, c.ak.mono sn, c.hq, c.rw_.mono sn, c.nd, c.mu, c.pc⟩, dj, r1⟩ fun σ' H' N' s ⟨p', Hs', ⟨C', dx', pk', pp', qs', vf', kv', c'⟩, d', r'⟩ => ?_
  have hn2 : noOl ((ρ.set j (.rf dd)).set i (.rf p')) := noOl_set (noOl_set hn)
  have hs2 : Hs' dd = none := by
    cases z : Hs' dd with
    | none => rfl
    | some w => have := d' dd w z; rw [upd_same] at this; cases this
  have hH : H' dd = some (.frz od (.dK kv2)) := r'.old dd _ (by rw [un_upd0 hs2]; exact upd_same)
  refine ⟨hH, ?_⟩
  rw [un_upd0 hs2] at r'
  have g2' : Un H0 Hs' dd = none := by unfold Un; rw [hs2]; exact e2
  obtain ⟨hN', ru⟩ := r'.unlockO hn2 g2'
  have rd := rds_unlock hN'
  have hj2 : ((ρ.set j (.rf dd)).set i (.rf p'))[j]? = some (.rf dd) := by
    rw [List.getElem?_set_ne (Ne.symm hij), List.getElem?_set_self (lt_of_get hj)]
  have s1 := ru.rf j dd hj2
  have sN2 : Same N (upd N' dd (.dK kv2)) := fun a u e => by
    have q : a ≠ dd := fun q => by rw [q, g3] at e; cases e
    rw [upd_ne q]
    exact s a u (sn a u e)
  have r3 := ru.setE (i := j) (v := .ref dd) (e := .im (dicd kvd m)) (.dic (.inl upd_same) (g5.mono sN2))
  have eσ : σ'.set j (some (V.ref dd)) = σ' := by
    apply List.ext_getElem?
    intro l
    by_cases hl : j = l
    · subst hl
      rw [List.getElem?_set_self (lt_of_get s1), s1]
    · rw [List.getElem?_set_ne hl]
  rw [eσ, List.set_comm _ _ (Ne.symm hij), List.set_set] at r3
  exact kk σ' _ _ sN2 ⟨p', Hs', ⟨C', dx', pk', pp', qs', vf', kv', c'.hp, c'.kc, c'.na, c'.af.rds rd, c'.hk, c'.ak.rds rd, c'.hq, c'.rw_.rds rd, c'.nd, c'.mu, c'.pc⟩, fun a u e => by have := d' a u e; rwa [upd_ne (fun q => by rw [q, hs2] at e; cases e)] at this, r3⟩
/-- self.past.append([.. for x in d]), d a dict of one's own -/
theorem lz_appendK {l : List (List Nat × Option KV)} {f : Lrn → M γ} {y : Str} (j : Nat) (hn : noOl ρ) (hi : i < ρ.length) (hj : ρ[j]? = some (.ow (dicd kvd m))) (hij : j ≠ i) (hΦ : Φ H0) (mΦ : ∀ {A B : Hp}, Same A B → Φ A → Φ B) (he : ∀ H0' p dd, Φ H0' → KeysAt m H0' dd → At X.K H0' (.ref p) (lrnd L) → EvO X H0' ((ρ.set j (.rf dd)).set i (.rf p)) e (lstd pad l)) (hz : lenLt L.2.2.2 = true) (tt : ∀ L, ExMZ (lrZ X.K pc) H0 i (ρ.set j (.im (dicd kvd m))) L k rest D (f L)) (hN : X.N[i]? = some y := by rfl) (hv : Vis X.env.scope y := by first | exact Or.inl rfl | exact Or.inr (Or.inl rfl) | exact Or.inr (Or.inr rfl))
    (hd : (y == ("__debug__" : Str)) = false := by decide) (hcd : (y == ("__classdict__" : Str)) = false := by decide) (hb : attributeBase (.Name y p1) "past" X.env (eval (.Name y p1) X.env) = eval (.Name y p1) X.env := by rfl)
    (hpe : ∀ to t, PE X (.Attribute (.Name y p1) "past" p2) to → PA X [e] t → PE X (.Call (.Attribute (.Attribute (.Name y p1) "past" p2) "append" p3) [e] [] p4) (tBM X.K "list" rAppend to t) := by exact fun _ _ h g => pe_bm PySem.F.plainAttrs_list PySem.F.slot_list_append PySem.F.type_list_append mt_append h g)
    (hs1 : starEach [e] X.env = (false, eval e X.env) :: starEach [] X.env := by rfl) (hs : swapsWith (.Call (.Attribute (.Attribute (.Name y p1) "past" p2) "append" p3) [e] [] p4) none pos.line X.env = pure false := by rfl) :
    ExMZ (lrZ X.K pc) H0 i ρ L k (.Expr (.Call (.Attribute (.Attribute (.Name y p1) "past" p2) "append" p3) [e] [] p4) pos :: rest) D (M.lt (L.1, L.2.1, L.2.2.1, L.2.2.2 ++ [l]) f) :=
  xz_then (sz_lock (Φ := Φ) j hn hj hij hΦ mΦ fun H0b dd fa g => fun DD σ H N s cc => ws_one (lz_append (γ := Lrn) (k := k) (Φ := fun G => Φ G ∧ KeysAt m G dd) (rest := []) (D := fun L => .nx (ρ.set j (.rf dd)) L) (f := .ok) (noOl_set hn) (by rw [List.length_set]; exact hi) ⟨fa, g⟩ (fun s q => ⟨mΦ s q.1, q.2.mono s⟩) (fun H0' p q a => he H0' p dd q.1 q.2 a) hz (fun L => xz_end) hN hv hd hcd hb hpe hs1 hs DD σ H N s cc)) (tt _)
end
theorem lt_putF {f : Str} {v : V} {l : List (Str × V)} {n : Nat} (h : l.length < n) : (putF f v l).length < n + 1 := by
  have := length_putF f v l
  omega
/-- d.get(key), what d holds is flat -/
theorem ev_dget1b {α : Type} {en : α → Dat} {l : List (List Nat × α)} {key : List Nat} {X : Cx} {H0 : Hp} {ρ : Env'} {a b : Expr} {pos : Pos} (hf : ∀ x, flat (en x) = true) (ha : EvB X H0 ρ a (dicd en l)) (hb : Ev X H0 ρ b (tx key)) (hu : X.A.units + 1 < cLine) {apos : Pos} (hm : M1 X a "get" apos b pos := by exact ⟨rfl, rfl, rfl, rfl⟩) :
    Ev X H0 ρ (.Call (.Attribute a "get" apos) [b] [] pos) (optd en (dget l key)) := EvB.flat (fun σ H N rp => by
  refine we_of (pe_dget1 hu pe_w pe_w hm) ((ha σ H N rp).imp fun v0 H1 ⟨N1, s1, n1, r1, a1⟩ => ?_)
  obtain ⟨q, vs, e1, g1, g2⟩ := at_dic a1
  subst e1
  refine ⟨q, rfl, .inl ⟨vs, g1⟩, (hb σ H1 N1 r1).imp fun w H2 ⟨N2, s2, n2, r2, a2⟩ => ?_⟩
  have h5 := at_str a2
  subst h5
  have g3 : Atk X.K H2 vs (dm en l) := Atk.mono s2 g2
  obtain ⟨i1, i2⟩ := atk_get g3 key
  refine ⟨_, .inl ⟨vs, Sum.inr (SX.S key), rd_same s2 g1, rfl, rfl⟩, N2, s1.trans s2, n1.trans n2, r2, ?_⟩
  cases e : dget l key with
  | none => rw [i2 e]; exact .non
  | some v =>
    obtain ⟨z, z1, z2⟩ := i1 v e
    rw [z1]
    exact z2) (by cases dget l key with | none => rfl | some v => exact hf v)
/-- a text of one sign -/
def chr1 : List Nat → Option Nat
  | [c] => some c
  | _ => none
theorem chr1_ok {l : List Nat} {c : Nat} (h : chr1 l = some c) : l = [c] := by
  match l, h with
  | [c'], h => cases h; rfl
  | [], h => cases h
  | _ :: _ :: _, h => cases h
theorem ev_chr1 {X : Cx} {H0 : Hp} {ρ : Env'} {e : Expr} {l : List Nat} {c : Nat} (ha : Ev X H0 ρ e (tx l)) (h : chr1 l = some c) : Ev X H0 ρ e (chd c) := by
  rw [chr1_ok h] at ha
  exact ha
/-! ### a class of the program's own is none of the kit's types -/
theorem kit_sub {K : PySem.W.Frag} {C : Addr} {T : String} {b : Bool} (hk : PySem.W.kitMeta T = true) (h : PySem.W.subIn K (.ref C) (.type T) = some b) : PySem.W.kitOne K (.ref C) (.type T) = some b := by
  show (if (Value.ref C == Value.type T) = true then some true else (if PySem.W.kitMeta T = true then PySem.W.subIn K (.ref C) (.type T) else none)) = _
  rw [if_neg (by intro e; cases (beq_iff_eq.mp e)), if_pos hk]
  exact h
theorem kits_no {K : PySem.W.Frag} {C : Addr} (h1 : PySem.W.subIn K (.ref C) (.type "int") = some false) (h2 : PySem.W.subIn K (.ref C) (.type "bool") = some false) (h3 : PySem.W.subIn K (.ref C) (.type "str") = some false) (h4 : PySem.W.subIn K (.ref C) (.type "tuple") = some false) (h5 : PySem.W.subIn K (.ref C) (.type "list") = some false) (h6 : PySem.W.subIn K (.ref C) (.type "dict") = some false) : ∀ T, kits.contains T = true → PySem.W.kitOne K (.ref C) (.type T) = some false := by
  intro T hT
  have hm : T ∈ kits := List.contains_iff_mem.mp hT
  simp only [kits, List.mem_cons, List.not_mem_nil, or_false] at hm
  rcases hm with rfl | rfl | rfl | rfl | rfl | rfl
  · exact kit_sub (by decide +kernel) h1
  · exact kit_sub (by decide +kernel) h2
  · exact kit_sub (by decide +kernel) h3
  · exact kit_sub (by decide +kernel) h4
  · exact kit_sub (by decide +kernel) h5
  · exact kit_sub (by decide +kernel) h6
end B

namespace B
open PySem PySem.Spec PyProof.Rows L2
section
variable {X : Cx} {H0 : Hp} {ρ ρ0 ρ1 ρ2 : Env'} {α β γ S S' L R : Type} {a b c e call : Expr} {es : List Expr} {st : Stmt} {sts rest body : List Stmt} {d d1 d2 : Dat} {ds : List Dat} {p pos : Pos} {o o1 : Outc} {x n : Str} {k : Nat} {D : γ → Outc} {m : M α} {en : α → Dat}
/-! ### try: f(..) except C: suite -/
theorem xm_try1B {mb : M β} {eb : β → Dat} {s0 : S} {hs : List (Str × M S)} {eS : S → Env'} {f : S → M γ} {c : Value} {suite : List Stmt} {b₀ : Stmt} {np pos pos' pos'' : Pos} (is : List Nat)
    (hst : X.stack = X.env :: X.outer) (hfr : X.env.frame = some X.env.locals) (nd : X.N.Nodup) (hc : Names X x c)
    (hb : ∀ (pn : List (Addr × Obj)) (xe : Value → Shared → Prop), PassesOwn (model X.prog X.w) X.A X.env xe → EvM (X.tr pn xe) H0 ρ call eb mb)
    (hok : eS s0 = drops ρ is)
    (hh : AllH (fun n h => (∀ C, X.mg n = some (.ref C) → PySem.W.exmOne X.K (.ref C) c = some true) ∧ ∀ (a : Addr) (oe : Obj) (pn : List (Addr × Obj)), ExM (X.suite a ((a, oe) :: pn)) H0 ρ k (b₀ :: suite) (fun s => .nx (eS s)) h) hs)
    (tt : ∀ s, ExM X H0 (eS s) k rest D (f s))
    (hsw : ∀ pn xe, swapsWith call none pos.line (X.tr pn xe).env = pure false := by intro _ _; rfl) :
    ExM X H0 ρ k (.Try [.Expr call pos] [.ExceptHandler (some (.Name x np)) none (b₀ :: suite) pos'] [] [] pos'' :: rest) D (M.bind (tryM mb s0 hs) f) := by
  cases mb with
  | ok r =>
    have h1 : ExS X H0 ρ (.Try [.Expr call pos] [.ExceptHandler (some (.Name x np)) none (b₀ :: suite) pos'] [] [] pos'') (.nx (eS s0)) :=
      sx_tryON hst hfr hc (fun pn xe hp => ex_then (sx_expr (hb pn xe hp) (hsw pn xe)) (hok ▸ ex_drops is ex_nil)) trivial
    exact xm_then h1 (tt s0)
  | ex n' =>
    show ExM X H0 ρ k _ D (M.bind (lookM n' hs) f)
    induction hs with
    | nil => trivial
    | cons q r ih =>
      obtain ⟨⟨he, h1⟩, h2⟩ := hh
      unfold lookM
      by_cases e : n' = q.1
      · rw [if_pos e]
        subst e
        cases eh : q.2 with
        | ok s =>
          have h3 : ExS X H0 ρ (.Try [.Expr call pos] [.ExceptHandler (some (.Name x np)) none (b₀ :: suite) pos'] [] [] pos'') (.nx (eS s)) :=
            sx_tryO (m := q.1) (ρ1 := ρ) hst hfr hc he (fun pn xe hp => ex_one (sx_exprX (hb pn xe hp) (hsw pn xe))) (fun a oe pn => by
              have := h1 a oe pn
              rw [eh] at this
              exact this) trivial
          exact xm_then h3 (tt s)
        | ex _ => trivial
        | far => trivial
      · rw [if_neg e]
        exact ih h2
  | far => trivial
end
end B

namespace B
open PySem PySem.Spec PyProof.Rows L2
def pickM {α τ : Type} (mx : M α) (t : τ) (mv : M (α × τ)) : M (α × τ) := match mx with
  | .ok r => .ok (r, t)
  | .ex n => .ex n
  | .far => M.nox mv
@[simp] theorem pickM_ok {α τ : Type} (r : α) (t : τ) (mv : M (α × τ)) : pickM (.ok r) t mv = .ok (r, t) := id rfl
@[simp] theorem pickM_ex {α τ : Type} (n : Str) (t : τ) (mv : M (α × τ)) : pickM (.ex n) t mv = .ex n := id rfl
@[simp] theorem pickM_far {α τ : Type} (t : τ) (mv : M (α × τ)) : pickM .far t mv = M.nox mv := id rfl
/-! ### defs that a thing is handed to, by two mirrors: what they tell where the thing stays as it is, and the rest -/
def GoalZ {τ : Type} (X : Cx) (F : Zf X.K τ) (t : τ) (ds : List Dat) (rr : Env') (body : List Stmt) (o : ResZ τ) : Prop := match o with
  | .val d t' => (∃ es, EntsZ 0 es ds ∧ ∀ H0 pc, ExecZ (X := X) (F.z pc) H0 0 (es ++ rr) t body (.rz d t')) ∨ (t' = t ∧ ∃ es, Ents es ((F.z fun _ => True).en t :: ds) ∧ ∀ H0, Exec X H0 (es ++ rr) body (.rt d))
  | .exc x => ∃ es ρ1, Ents es ((F.z fun _ => True).en t :: ds) ∧ ∀ H0, Exec X H0 (es ++ rr) body (.ex x ρ1)
section
variable {τ : Type} {P : Program} {w : World} {K : PySem.W.Frag} {mg : Str → Option Value} {base : Heap} {x : Str} {st : Stmt} {ps N : List Str} {k : Nat} {F : Zf K τ} {R : τ → List Dat → ResZ τ → Prop}
theorem GFnZ.mkG (D : Df K mg x st ps) (S : FnScope N ps (defScope st)) (hl : ∀ t ds o, R t ds o → ds.length + 1 = ps.length) (hv : ∀ t ds o, R t ds o → match o with | .val d t' => flat d = true ∧ F.fl t' | .exc _ => True)
    (body : ∀ (f : Addr) (cdv : Value) (A : Around) (outer : List PySem.Env) (s : Shared) (H : Hp) (E : XK), Room k (XX P w K mg base N x st f cdv A outer s H E).A → ∀ t ds o, R t ds o → GoalZ (XX P w K mg base N x st f cdv A outer s H E) F t ds (List.replicate (N.length - ps.length) Ent.no) (defBody st) o) : GFnZ P w K mg base x (k + 1) F 0 R := by
  obtain ⟨f, fd, FF, hm, hb⟩ := D
  refine ⟨f, fd, ps, FF.okX S (fun vs H Q E ⟨p, t, ds, o, Hs, hR, _, _, a, _⟩ => by rw [a.length]; exact hl t ds o hR) fun cdv A outer s H vs Q E hr hsp => ?_, hm, FF.kp, hb⟩
  obtain ⟨p, t, ds, o, Hs, hR, hz, hs, a, q⟩ := hsp
  have hbody := body f cdv A outer s H E hr t ds o hR
  have hlen : vs.length = ps.length := by rw [a.length]; exact hl t ds o hR
  have hvv := hv t ds o hR
  refine ⟨_, pb_w, ?_⟩
  have a2 : Ats K H vs ((F.z fun _ => True).en t :: ds) := by
    cases a with
    | here a => exact .cons ((F.z fun _ => True).at_ hz (imm_sub H) hs) (a.mono (rst_same H Hs))
  cases o with
  | exc x =>
    obtain ⟨es, ρ1, he, hbody⟩ := hbody
    have r : Rep K H (es ++ List.replicate (N.length - ps.length) .no) (L2.start N vs) H (Imm H) := hlen ▸ rep_start he a2
    exact hbody H { nx := fun _ H' => Q .non H', rt := Q } _ _ _ r ⟨_, takes_of rfl rfl rfl rfl, fun C σ H' N' hm s r' => q C H' hm r'.old⟩
  | val d t' =>
    obtain ⟨hf, hfl⟩ := hvv
    rcases hbody with ⟨es, he, hbody⟩ | ⟨rfl, es, he, hbody⟩
    · have r : Rep K H ((es ++ List.replicate (N.length - ps.length) Ent.no).set 0 (Ent.rf p)) (L2.start N vs) H (Imm H) := hlen ▸ rep_startZ he a
      refine hbody (Rst H Hs) (fun q => q = p) { nx := fun _ H' => Q .non H', rt := Q } _ _ _ ⟨p, Hs, F.root hz rfl, fun b u e => ?_, by rw [rst_un hs]; exact r⟩ fun v H' N' sn ⟨p', Hs', b1, b2, b3, b4⟩ b5 => ?_
      · unfold Rst; rw [e]
      · have hp : p' = p := F.pc (pc := fun q => q = p) b1
        subst hp
        refine q v H' Hs' (fun b u e => ?_) (F.root ((F.z _).mono (imm_same b4) (F.im hfl b1)) trivial) (fun b u e => b3 b u (un_some e)) (fun b u e => ?_) ((b5.imm hf).mono (imm_same b4))
        · have hn : Hs' b = none := by
            cases z : Hs' b with
            | none => rfl
            | some w => rw [b2 b w z] at e; cases e
          rw [rst_none hn]
          refine b3 b u ?_
          unfold Un
          rw [hn]
          exact e
        · have h0 := b2 b u e
          cases z : Hs b with
          | some w => exact .inl ⟨w, rfl⟩
          | none => rw [rst_none z] at h0; exact .inr h0
    · have r : Rep K H (es ++ List.replicate (N.length - ps.length) .no) (L2.start N vs) H (Imm H) := hlen ▸ rep_start he a2
      refine hbody H { nx := fun _ H' => Q .non H', rt := Q } _ _ _ r fun v H' s1 s2 ⟨N', n1, n2, n3⟩ => ?_
      refine q v H' Hs (fun b u e => ?_) ((F.z _).mono (imm_same s1) hz) (hs.trans s1) (fun b u e => .inl ⟨u, e⟩) ((n3.imm hf).mono (imm_same n1))
      obtain ⟨z1, z2⟩ := rst_some e
      rw [rst_none z1]
      exact s1 b u z2
end
section
variable {τ α : Type} {X : Cx} {F : Zf X.K τ} {en : α → Dat} {ρx ρv esx esv rr : Env'} {t : τ} {ds : List Dat} {body : List Stmt} {k : Nat} {mx : M α} {mv : M (α × τ)} {o : ResZ τ}
theorem goal_of (hm : RmZ en (pickM mx t mv) o) (hx : ∀ H0, ExM X H0 ρx k body (fun r => .rt (en r)) mx) (hv : ∀ H0 pc, ExMZ (F.z pc) H0 0 ρv t k body (fun q => .rz (en q.1) q.2) mv) (e1 : Ents esx ((F.z fun _ => True).en t :: ds)) (e2 : EntsZ 0 esv ds) (q1 : ρx = esx ++ rr := by rfl) (q2 : ρv = esv ++ rr := by rfl) : GoalZ X F t ds rr body o := by
  subst q1
  subst q2
  cases mx with
  | ok r => cases (show o = _ from hm); exact .inr ⟨rfl, esx, e1, fun H0 => hx H0⟩
  | ex n => cases (show o = _ from hm); exact ⟨esx, _, e1, fun H0 => hx H0⟩
  | far =>
    cases mv with
    | ok v => cases (show o = _ from hm); exact .inl ⟨esv, e2, fun H0 pc => hv H0 pc⟩
    | ex n => exact (show False from hm).elim
    | far => exact (show False from hm).elim
theorem goal_ofV (hm : RmZ en (M.nox mv) o) (hv : ∀ H0 pc, ExMZ (F.z pc) H0 0 ρv t k body (fun q => .rz (en q.1) q.2) mv) (e2 : EntsZ 0 esv ds) (q2 : ρv = esv ++ rr := by rfl) : GoalZ X F t ds rr body o := by
  subst q2
  cases mv with
  | ok v => cases (show o = _ from hm); exact .inl ⟨esv, e2, fun H0 pc => hv H0 pc⟩
  | ex n => exact (show False from hm).elim
  | far => exact (show False from hm).elim
end
/-! ### expressions that change the thing -/
section
variable {τ α β γ S S' L R : Type} {X : Cx} {z : Zp X.K τ} {H0 : Hp} {i k : Nat} {Φ : Hp → Prop} {ρ ρ1 : Env'} {t t1 : τ} {st : Stmt} {sts rest body : List Stmt} {a b c e : Expr} {p p1 pos : Pos} {o : OcZ τ} {D : γ → OcZ τ} {d : Dat} {n x : Str} {en : α → Dat} {en2 : β → Dat}
theorem evmz_lent {F : Zf X.K τ} {pc : Addr → Prop} {mb : M α} (hn : noOl ρ) (hΦ : Φ H0) (mΦ : ∀ {A B : Hp}, Same A B → Φ A → Φ B) (hfl : F.fl t) (h : Lent X F pc Φ t fun H0' p => EvM X H0' (ρ.set i (.rf p)) e en mb) : EvMZ (F.z pc) H0 i ρ t e en (M.bind mb fun v => .ok (v, t)) := by
  cases mb with
  | ok v =>
      rintro σ H N ⟨p, Hs, nz, d, r⟩
      obtain ⟨G0, N1, n1, g1, r1, a1⟩ := Rep.lentIn hn hfl nz r
      have hh : Ev X G0 (ρ.set i (.rf p)) e (en v) := h G0 p (mΦ ((un_same d).trans g1) hΦ) a1
      exact (hh σ H N1 r1).imp fun w H' ⟨N', s, s2, r', a⟩ => ⟨N', n1.trans s2, ⟨p, Hs, (F.z pc).mono (n1.trans s2) nz, d, Rep.less g1 (noOl_set hn) r'⟩, a⟩
  | ex n =>
      rintro σ H N ⟨p, Hs, nz, d, r⟩ W tk kw Q
      obtain ⟨G0, N1, n1, g1, r1, a1⟩ := Rep.lentIn hn hfl nz r
      have hh : EvX X G0 (ρ.set i (.rf p)) e n := h G0 p (mΦ ((un_same d).trans g1) hΦ) a1
      exact hh σ H N1 r1 W tk (fun C H' N' hC s r' => kw C H' N' hC (n1.trans s) ⟨p, Hs, (F.z pc).mono (n1.trans s) nz, d, Rep.less g1 (noOl_set hn) r'⟩) Q
  | far => trivial
theorem evmz_pair {m1 : M (α × τ)} {m2 : α × τ → M (β × τ)} {x1 : Nat} (h1 : EvMZ z H0 i ρ t a en m1) (h2 : ∀ q : α × τ, EvMZ z H0 i ρ q.2 b en2 (m2 q)) (hs : starEach [a, b] X.env = (false, eval a X.env) :: starEach [b] X.env := by rfl) (hs2 : starEach [b] X.env = (false, eval b X.env) :: starEach [] X.env := by rfl) :
    EvMZ z H0 i ρ t (.Tuple [a, b] x1 pos) (fun r : α × β => .tup [en r.1, en2 r.2]) (M.bind m1 fun q => M.bind (M.nox (m2 q)) fun q2 => .ok ((q.1, q2.1), q2.2)) := by
  cases m1 with
  | ok q =>
    have h2 := h2 q
    cases e2 : m2 q with
    | ok q2 =>
      rw [e2] at h2
      show EvMZ z H0 i ρ t _ _ (M.bind (M.nox (m2 q)) _)
      rw [e2]
      intro σ H N s
      exact we_of (pe_tup pa_w) (wa_of (pa_cons pe_w pa_w hs) ((h1 σ H N s).imp fun v H1 ⟨N1, n1, s1, a1⟩ => wa_of (pa_cons pe_w pa_nil hs2) ((h2 σ H1 N1 s1).imp fun u H2 ⟨N2, n2, ⟨q0, Hs, nz, dd, r⟩, a2⟩ => by
        refine ⟨by show 2 ≤ sizeLine; decide, fun p hp => ?_⟩
        obtain ⟨r2, m2⟩ := r.new (o := .tup [v, u]) hp
        exact ⟨_, (n1.trans n2).trans m2, ⟨q0, Hs, z.mono m2 nz, dd, r2⟩, .tup (.inl (.inl upd_same)) (.cons (a1.mono (n2.trans m2)) (.cons (a2.mono m2) .nil))⟩)))
    | ex n =>
      show EvMZ z H0 i ρ t _ _ (M.bind (M.nox (m2 q)) _)
      rw [e2]
      trivial
    | far =>
      show EvMZ z H0 i ρ t _ _ (M.bind (M.nox (m2 q)) _)
      rw [e2]
      trivial
  | ex n => exact fun σ H N s W tk kw Q => we_of (pe_tup pa_w) (wa_of (pa_cons pe_w pa_w hs) (h1 σ H N s W tk kw _))
  | far => trivial
theorem evmz_isN {m : M (Unit × τ)} {j pos'} (h : EvMZ z H0 i ρ t a nond m) : EvMZ z H0 i ρ t (.Compare a [.Is] [.Constant .none j pos'] pos) Dat.bl (M.bind m fun q => .ok (true, q.2)) := by
  cases m with
  | ok q =>
      intro σ H N s
      refine we_of (pe_cmpR op_isN pe_w pe_w (nomark _)) ((h σ H N s).imp fun v H1 ⟨N1, n1, s1, a1⟩ => ?_)
      obtain ⟨q0, Hs, nz, dd, r⟩ := s1
      refine (ev_non σ H1 N1 r).imp fun u H2 ⟨N2, s2, n2, r2, a2⟩ => ?_
      have hv := at_isNon a1
      refine ⟨at_non a2, ?_⟩
      rw [hv]
      exact ⟨N2, n1.trans n2, ⟨q0, Hs, z.mono n2 nz, dd, r2⟩, .bl _⟩
  | ex n => exact fun σ H N s W tk kw Q => we_of (pe_cmpR op_isN pe_w pe_w (nomark _)) (h σ H N s W tk kw _)
  | far => trivial
/-! statements with them -/
theorem xz_retM {m : M (α × τ)} (hn : noOl ρ) (h : EvMZ z H0 i ρ t e en m) (hk : ρ.length = k := by rfl) : ExMZ z H0 i ρ t k (.Return (some e) pos :: rest) (fun q => .rz (en q.1) q.2) m := by
  cases m with
  | ok v => exact ez_out (o := .rz _ _) (fun DD σ H N s kk => ws_of (ps_ret pe_w) ((h σ H N s).imp fun w H' ⟨N', n1, ⟨q0, Hs, nz, dd, r⟩, a⟩ => kk w H' N' n1 ⟨q0, Hs, nz, dd, r.old, r.sub⟩ a)) trivial
  | ex n => exact ez_ex (fun DD σ H N r ⟨W, tk, c⟩ => ws_of (ps_ret pe_w) (h σ H N r W tk (fun C H' N' hC n1 r' => c C σ H' N' hC n1 (low_ex hn hk r')) _))
  | far => trivial
theorem xz_retMF {eS : S → Env'} {tS : S → τ} {eL : L → Env'} {tL : L → τ} {m : M (α × τ)} (hn : noOl ρ) (h : EvMZ z H0 i ρ t e en m) (hk : ρ.length = k := by rfl) : ExMZ z H0 i ρ t k (.Return (some e) pos :: rest) (Fl.Dz eS tS eL tL (fun q : α × τ => .rz (en q.1) q.2)) (M.bind m fun r => .ok (.rt r)) := by
  have h2 := xz_retM (rest := rest) (pos := pos) hn h hk
  cases m with
  | ok r => exact h2
  | ex n => exact h2
  | far => trivial
/-- t = CALL, t any target -/
theorem xz_asgM {m : M (α × τ)} {f : α × τ → M γ} {tg : Expr} {ok : Dat → Prop} {bd : Dat → Env' → Env'} {eS : α × τ → Env'} (hn : noOl ρ) (h : EvMZ z H0 i ρ t e en m) (hg : TgZ X i tg ok bd) (hk2 : ∀ v, ok (en v)) (hbd : ∀ q : α × τ, bd (en q.1) ρ = eS q) (tt : ∀ q, ExMZ z H0 i (eS q) q.2 k rest D (f q)) (hk : ρ.length = k := by rfl)
    (hs : swapsWithSole [tg] e pos.line X.env = pure false := by rfl) (hw : swappedStores [tg] e X.env = pure none := by rfl) (h1 : (assignEach [tg] X.env).map (·.2) = [assign tg X.env] := by rfl) : ExMZ z H0 i ρ t k (.Assign [tg] e pos :: rest) D (M.bind m f) := by
  obtain ⟨g, pg, gg⟩ := hg.pg
  cases m with
  | ok v => exact xz_then (ρ1 := eS v) (t1 := v.2) (fun DD σ H N s kk => ws_of (ps_asg pe_w pg hs hw h1) ((h σ H N s).imp fun w H' ⟨N', n1, ⟨q0, Hs, nz, dd, r⟩, a⟩ => gg _ ρ σ H' N' w _ q0 r a (hk2 v.1) _ fun σ2 H2 N2 n2 r2 => kk σ2 H2 N2 (n1.trans n2) ⟨q0, Hs, z.mono n2 nz, dd, by rw [← hbd v]; exact r2⟩)) (tt v)
  | ex n => exact ez_ex (fun DD σ H N r ⟨W, tk, c⟩ => ws_of (ps_asg pe_w pg hs hw h1) (h σ H N r W tk (fun C H' N' hC n1 r' => c C σ H' N' hC n1 (low_ex hn hk r')) _))
  | far => trivial
/-- try, where nothing is raised -/
theorem sz_tryN {l : Nat} {c : Value} {suite : List Stmt} {b₀ : Stmt} {np pos' : Pos} (hs : X.stack = X.env :: X.outer) (hf : X.env.frame = some X.env.locals) (nd : X.N.Nodup) (hc : Names X x c)
    (hb : ∀ (pn : List (Addr × Obj)) (xe : Value → Shared → Prop), PassesOwn (model X.prog X.w) X.A X.env xe → ExecZ (X := X.tr pn xe) z H0 i ρ t body (.nx ρ1 t1))
    (hsu : ∀ (a : Addr) (oe : Obj) (cls : Value) (d : Option Addr) (pn : List (Addr × Obj)), PSs (X.suite a ((a, oe) :: pn)) (b₀ :: suite) (WB (X.suite a ((a, oe) :: pn)) (b₀ :: suite)) := fun _ _ _ _ _ => pb_w)
    (hi : X.N[l]? = some n := by rfl) (hln : X.env.kindOf n = some .local := by rfl) :
    ExSZ z H0 i ρ t (.Try body [.ExceptHandler (some (.Name x np)) (some n) (b₀ :: suite) pos'] [] [] pos) (.nx ρ1 t1) := fun DD σ H N r k => by
  refine ws_of (ps_try_as (i := l) (c := c) (tb := fun W D σ H => ∀ pn xe, Takes (X.tr pn xe) W → PassesOwn (model X.prog X.w) X.A X.env xe → WB (X.tr pn xe) body D σ H)
    (ts := fun a cls d D σ H => ∀ oe pn, Zc cls d oe → (∃ vs, oe.data = .fields vs) → WB (X.suite a ((a, oe) :: pn)) (b₀ :: suite) D σ H) (Wout := fun _ _ _ _ => False) hs hf nd hi hln hc takes0 (fun W pn xe tk hp => ⟨fun pins s σ H D I h => (h pn xe tk hp).go pins s I⟩) (fun a oe cls d pn hz hd => ⟨fun pins s σ H D I h => (h oe pn hz hd).go pins s I⟩)) ?_
  intro pn xe tk hp
  exact hb pn xe hp _ σ H N r k
/-- try: y = CALL, where nothing is raised -/
theorem xz_tryN {m : M (α × τ)} {f : α × τ → M γ} (j l : Nat) {c : Value} {suite : List Stmt} {b₀ : Stmt} {np pos' pos2 pos3 : Pos} {y : Str} (hn : noOl ρ) (hij : j ≠ i) (hs : X.stack = X.env :: X.outer) (hf : X.env.frame = some X.env.locals) (nd : X.N.Nodup) (hc : Names X x c)
    (h : ∀ (pn : List (Addr × Obj)) (xe : Value → Shared → Prop), PassesOwn (model X.prog X.w) X.A X.env xe → EvMZ (X := X.tr pn xe) z H0 i ρ t e en m) (tt : ∀ q, ExMZ z H0 i (ρ.set j (.im (en q.1))) q.2 k rest D (f q)) (hl : X.N[l]? = some n := by rfl) (hln : X.env.kindOf n = some .local := by rfl) (hj : X.N[j]? = some y := by rfl) (hx : Loc X.env.scope y := by first | exact Or.inl rfl | exact Or.inr rfl)
    (hsw : ∀ pn xe, swapsWith e (some (.Name y pos2)) pos3.line (X.tr pn xe).env = pure false := by intro _ _; rfl) (hff : X.fn y = true ∨ X.env.scope.names.lookup y = some .local := by first | exact .inl rfl | exact .inr rfl | assumption) :
    ExMZ z H0 i ρ t k (.Try [.Assign [.Name y pos2] e pos3] [.ExceptHandler (some (.Name x np)) (some n) (b₀ :: suite) pos'] [] [] pos :: rest) D (M.bind (M.nox m) f) := by
  cases m with
  | ok v =>
    refine xz_then (ρ1 := ρ.set j (.im (en v.1))) (t1 := v.2) (sz_tryN (l := l) hs hf nd hc (fun pn xe hp => ?_) (hi := hl) (hln := hln)) (tt v)
    refine ez_then (X := X.tr pn xe) (ρ1 := ρ.set j (.im (en v.1))) (t1 := v.2) (fun DD σ H N r kk => ws_of (ps_set nd hj hx pe_w (hsw pn xe) hff) ((h pn xe hp σ H N r).imp fun w H' ⟨N', n1, ⟨q0, Hs, nz, dd, r'⟩, a⟩ => by
      have r3 := r'.setE (i := j) (v := w) (e := .im (en v.1)) a
      rw [List.set_comm _ _ (Ne.symm hij)] at r3
      exact kk _ H' N' n1 ⟨q0, Hs, nz, dd, r3⟩)) ez_nil
  | ex n => trivial
  | far => trivial
end
end B

namespace B
open PySem PySem.Spec PyProof.Rows L2
/-! ### several learners, each by itself -/
inductive LZs (K : PySem.W.Frag) : List Lrn → Hp → Hp → List Addr → Prop where
  | nil {N : Hp} : LZs K [] N (fun _ => none) []
  | cons {t : Lrn} {ts : List Lrn} {N A B : Hp} {a : Addr} {as : List Addr} : (lrZ K fun _ => True).Z t N A a → LZs K ts N B as → (∀ x u, A x = some u → B x = none) → LZs K (t :: ts) N (Un A B) (a :: as)
section
variable {K : PySem.W.Frag} {ts : List Lrn} {N N' Hs A B C : Hp} {as : List Addr}
theorem LZs.mono (s : Same N N') : ∀ {ts : List Lrn} {Hs : Hp} {as : List Addr}, LZs K ts N Hs as → LZs K ts N' Hs as
  | _, _, _, .nil => .nil
  | _, _, _, .cons z t d => .cons ((lrZ K _).mono s z) (LZs.mono s t) d
theorem LZs.im : ∀ {ts : List Lrn} {Hs : Hp} {as : List Addr}, LZs K ts N Hs as → LZs K ts (Imm N) Hs as
  | _, _, _, .nil => .nil
  | _, _, _, .cons z t d => .cons ((lrF K).im trivial z) (LZs.im t) d
theorem un_or {x : Addr} {u : HO} (h : Un A B x = some u) : B x = some u ∨ (B x = none ∧ A x = some u) := by
  unfold Un at h
  cases e : B x with
  | some w => rw [e] at h; exact .inl h
  | none => rw [e] at h; exact .inr ⟨rfl, h⟩
theorem LZs.mu : ∀ {ts : List Lrn} {Hs : Hp} {as : List Addr}, LZs K ts N Hs as → ∀ x u, Hs x = some u → Mut (some u)
  | _, _, _, .nil, x, u, e => by cases e
  | _, _, _, .cons z t d, x, u, e => by
    rcases un_or e with q | ⟨_, q⟩
    · exact LZs.mu t x u q
    · exact (lrZ K _).mu z q
theorem LZs.len : ∀ {ts : List Lrn} {Hs : Hp} {as : List Addr}, LZs K ts N Hs as → as.length = ts.length
  | _, _, _, .nil => rfl
  | _, _, _, .cons z t d => by rw [List.length_cons, List.length_cons, LZs.len t]
theorem un_l (d : ∀ x u, A x = some u → B x = none) {G : Hp} (g : Same (Un A B) G) : Same A G := fun x u e => g x u (by unfold Un; rw [d x u e]; exact e)
theorem un_r {G : Hp} (g : Same (Un A B) G) : Same B G := fun x u e => g x u (un_some e)
theorem LZs.ats {G : Hp} (s : Same N G) : ∀ {ts : List Lrn} {Hs : Hp} {as : List Addr}, LZs K ts N Hs as → Same Hs G → Ats K G (as.map V.ref) (ts.map lrnd)
  | _, _, _, .nil, _ => .nil
  | _, _, _, .cons z t d, g => .cons ((lrZ K _).at_ z s (un_l d g)) (LZs.ats s t (un_r g))
theorem un_assoc : Un (Un A B) C = Un A (Un B C) := funext fun x => by
  show (match C x with | some u => some u | none => Un A B x) = (match Un B C x with | some u => some u | none => A x)
  unfold Un
  cases C x with
  | some u => rfl
  | none => rfl
theorem un_swap (d : ∀ x u, A x = some u → B x = none) : Un A B = Un B A := funext fun x => by
  unfold Un
  cases e : A x with
  | some u => rw [d x u e]
  | none => cases B x <;> rfl
/-- one of them by itself, and put back -/
theorem LZs.at : ∀ {ts : List Lrn} {Hs : Hp} {as : List Addr}, LZs K ts N Hs as → ∀ (j : Nat) (hj : j < ts.length), ∃ A a, as[j]? = some a ∧ (lrZ K fun _ => True).Z ts[j] N A a ∧ Same A Hs ∧ ∀ N' t' A', Same N N' → (lrZ K fun _ => True).Z t' N' A' a → (∀ x u, A' x = some u → Rst Hs A x = none) → LZs K (ts.set j t') N' (Un (Rst Hs A) A') as
  | _, _, _, .nil, j, hj => absurd hj (Nat.not_lt_zero _)
  | _, _, _, .cons (t := t) (ts := ts) (A := A) (B := B) (a := a) (as := as) z w d, 0, _ => by
    have e : Rst (Un A B) A = B := funext fun x => by
      unfold Rst Un
      cases q : A x with
      | some u => exact (d x u q).symm
      | none => cases B x <;> rfl
    refine ⟨A, a, rfl, z, un_l d (fun _ _ h => h), fun N' t' A' s z' d' => ?_⟩
    rw [e] at d' ⊢
    rw [← un_swap d']
    exact .cons z' (w.mono s) d'
  | _, _, _, .cons (t := t) (ts := ts) (A := A1) (B := B) (a := a1) (as := as) z w d, j + 1, hj => by
    obtain ⟨A, a, h1, h2, h3, h4⟩ := w.at j (Nat.lt_of_succ_lt_succ hj)
    have e : Rst (Un A1 B) A = Un A1 (Rst B A) := funext fun x => by
      cases q : A x with
      | some u =>
        have hb := h3 x u q
        have ha1 : A1 x = none := by
          cases p : A1 x with
          | none => rfl
          | some v => rw [d x v p] at hb; cases hb
        have l : Rst (Un A1 B) A x = none := by unfold Rst; rw [q]
        have r0 : Rst B A x = none := by unfold Rst; rw [q]
        have r : Un A1 (Rst B A) x = none := by unfold Un; rw [r0]; exact ha1
        rw [l, r]
      | none =>
        have l : Rst (Un A1 B) A x = Un A1 B x := rst_none q
        have r0 : Rst B A x = B x := rst_none q
        rw [l]
        unfold Un
        rw [r0]
    refine ⟨A, a, h1, h2, fun x u q => un_some (h3 x u q), fun N' t' A' s z' d' => ?_⟩
    rw [e] at d' ⊢
    rw [un_assoc]
    refine .cons ((lrZ K _).mono s z) (h4 N' t' A' s z' fun x u q => ?_) fun x u q => ?_
    · have := d' x u q
      exact (un_none this).1
    · unfold Un
      have hb := d x u q
      cases p : A' x with
      | some v =>
        have := (un_none (d' x v p)).2
        rw [q] at this
        cases this
      | none =>
        show Rst B A x = none
        cases r : Rst B A x with
        | none => rfl
        | some v => have := (rst_some r).2; rw [hb] at this; cases this
end
/-! ### a list of learners, of one's own -/
abbrev lsd (ts : List Lrn) : Dat := lstd lrnd ts
def lsZ (K : PySem.W.Frag) (pc : Addr → Prop) : Zp K (List Lrn) where
  Z := fun ts N Hs p => ∃ as A, LZs K ts N A as ∧ A p = none ∧ Hs = upd A p (.lst (as.map V.ref)) ∧ pc p
  en := lsd
  mono := fun s ⟨as, A, h, a, b, c⟩ => ⟨as, A, h.mono s, a, b, c⟩
  mu := fun ⟨as, A, h, a, b, c⟩ e => by
    subst b
    exact mu_l h.mu _ _ e
  at_ := fun {t N Hs G p} ⟨as, A, h, a, b, c⟩ s g => by
    subst b
    have g1 : Same A G := fun x u e => g x u (by rw [upd_ne (fun q => by rw [q, a] at e; cases e)]; exact e)
    exact .lst (.inl (.inl (g _ _ upd_same))) (h.ats s g1)
def lsF (K : PySem.W.Frag) : Zf K (List Lrn) where
  z := lsZ K
  fl := fun _ => True
  root := fun ⟨as, A, h, a, b, c⟩ hp => ⟨as, A, h, a, b, hp⟩
  pc := fun ⟨_, _, _, _, _, c⟩ => c
  im := fun _ ⟨as, A, h, a, b, c⟩ => ⟨as, A, h.im, a, b, c⟩
/-! ### they are made -/
section
variable {γ : Type} {X : Cx} {H0 : Hp} {i k kk : Nat} {Φ : Hp → Prop} {ρ ρ1 : Env'} {rest : List Stmt} {e : Expr} {es : List Expr} {p p1 p2 p3 pos : Pos} {y : Str} {fr : List Nat × Int} {frs : List (List Nat × Int)}
/-- an expression that makes a learner -/
def MkL (X : Cx) (ρ : Env') (e : Expr) (fr : List Nat × Int) : Prop := ∀ H0 σ H N, Rep X.K H0 ρ σ H N → WE X e σ H fun v H' => ∃ x A N', v = .ref x ∧ Same N N' ∧ (lrZ X.K fun _ => True).Z (fr, [], [], []) N' A x ∧ (∀ a u, A a = some u → H0 a = none) ∧ Rep X.K (Un H0 A) ρ σ H' N'
theorem mk_one (G : GMk X.prog X.w X.K X.mg X.base k) (hr : Room (k + 1) X.A) (hn : noOl ρ) (he : ∀ H0, Ev X H0 ρ e (frd fr)) (hg : Gl X "Learner" := by rfl) (hst : starEach [e] X.env = (false, eval e X.env) :: starEach [] X.env := by rfl) (hpl : (backTo p2 (starEach [] X.env)).any (·.1) = false := by rfl) : MkL X ρ (.Call (.Name "Learner" p1) [e] [] p2) fr := fun H0 σ H N r => by
  obtain ⟨C, f, fd, ps, kc, na, M, hm, FF, hb⟩ := G
  refine we_of (pe_make M FF hr hg hm hb .nil passL (pa_cons pe_w pa_nil hst) (by decide) hst hpl) ((he H0 σ H N r).imp fun vf H1 ⟨N1, s1, n1, r1, a1⟩ => ?_)
  intro x dx hx0 hdx0 hne
  refine ⟨x, dx, vf, rfl, upd_same, fun pk pp hk hp hkp => ⟨rfl, ?_⟩⟩
  have xk : pk ≠ x := fun z => by rw [z, upd_same] at hk; cases hk
  have xp : pp ≠ x := fun z => by rw [z, upd_same] at hp; cases hp
  have hk1 : (upd H1 dx (.own x)) pk = none := by rw [upd_ne xk] at hk; exact hk
  have hp1 : (upd H1 dx (.own x)) pp = none := by rw [upd_ne xp] at hp; exact hp
  have hx1 : (upd H1 dx (.own x)) x = none := by rw [upd_ne (Ne.symm hne)]; exact hx0
  have r2 : Rep X.K (Un H0 (fun _ => none)) ρ σ (upd H1 dx (.own x)) N1 := r1.grow (Same.of_none hdx0)
  have r3 := r2.updS hn (q := x) (o := .ins C dx []) True.intro (.inr ⟨r2.sub.free hx1, fun j d' e => no_own r2 hx1 j d' e⟩)
  have r4 := r3.updS hn (q := pk) (o := .dK []) True.intro (.inr ⟨r3.sub.free hk, fun j d' e => no_own r3 hk j d' e⟩)
  have hp4 : (upd (upd (upd H1 dx (.own x)) x (.ins C dx [])) pk (.dK [])) pp = none := by rw [upd_ne (Ne.symm hkp)]; exact hp
  have r5 := r4.updS hn (q := pp) (o := .lst []) True.intro (.inr ⟨r4.sub.free hp4, fun j d' e => no_own r4 hp4 j d' e⟩)
  have r6 := r5.updS hn (q := x) (o := .ins C dx (lvs vf [] pk pp)) True.intro (.inl ⟨.ins C dx [], by rw [upd_ne (Ne.symm xp), upd_ne (Ne.symm xk)]; exact upd_same, True.intro⟩)
  have o0 : ∀ q, (upd H1 dx (.own x)) q = none → H0 q = none := fun q z => (r1.old.trans (Same.of_none hdx0)).free z
  exact ⟨x, _, N1, rfl, n1, ⟨C, dx, pk, pp, [], vf, [], upd_same, kc, na, a1, by rw [upd_ne xk, upd_ne hkp]; exact upd_same, .nil, by rw [upd_ne xp]; exact upd_same, .nil, by simp [Ne.symm xk, Ne.symm xp, hkp], mu_upd (o := .ins C dx _) True.intro (mu_l (mu_upd (o := .dK []) True.intro (mu_upd (o := .ins C dx []) True.intro none_all))), trivial⟩, dj_upd (o0 x hx1) (dj_upd (o0 pp hp1) (dj_upd (o0 pk hk1) (dj_upd (o0 x hx1) none_all))), r6⟩
def MkLs (X : Cx) (ρ : Env') (es : List Expr) (frs : List (List Nat × Int)) : Prop := ∀ H0 σ H N, Rep X.K H0 ρ σ H N → WA X es σ H fun vs H' => ∃ as A N', vs = as.map V.ref ∧ Same N N' ∧ LZs X.K (frs.map fun fr => (fr, [], [], [])) N' A as ∧ (∀ a u, A a = some u → H0 a = none) ∧ Rep X.K (Un H0 A) ρ σ H' N'
theorem mk_nil : MkLs X ρ [] [] := fun H0 σ H N r => wa_of pa_nil ⟨[], _, N, rfl, Same.refl _, .nil, (fun a u e => by cases e), r⟩
theorem mk_cons (h : MkL X ρ e fr) (t : MkLs X ρ es frs) (hs : starEach (e :: es) X.env = (false, eval e X.env) :: starEach es X.env := by rfl) : MkLs X ρ (e :: es) (fr :: frs) := fun H0 σ H N r => wa_of (pa_cons pe_w pa_w hs) ((h H0 σ H N r).imp fun v H1 ⟨x, A, N1, e1, n1, z, d, r1⟩ => (t _ σ H1 N1 r1).imp fun vs H2 ⟨as, B, N2, e2, n2, zs, d2, r2⟩ => by
  subst e1
  subst e2
  have dd : ∀ x u, A x = some u → B x = none := fun x u q => by
    cases p : B x with
    | none => rfl
    | some v => have := (un_none (d2 x v p)).1; rw [q] at this; cases this
  refine ⟨x :: as, _, N2, rfl, n1.trans n2, .cons ((lrZ X.K _).mono n2 z) zs dd, fun a u q => ?_, by rw [← un_assoc]; exact r2⟩
  rcases un_or q with q | ⟨_, q⟩
  · exact (un_none (d2 a u q)).2
  · exact d a u q)
/-- y = [Learner(..), ..] -/
theorem xz_makeL {eR : γ → Dat} {m : M γ} (hn : noOl ρ) (h0 : ρ[i]? = some .no) (he : MkLs X ρ es frs) (hz : frs.length ≤ sizeLine) (h : ExMZ (lsZ X.K fun _ => True) H0 i ρ (frs.map fun fr => (fr, [], [], [])) kk rest (fun r => .rt (eR r)) m) (nd : X.N.Nodup) (hi : X.N[i]? = some y := by rfl) (hx : Loc X.env.scope y := by first | exact Or.inl rfl | exact Or.inr rfl)
    (hs : swapsWith (.List es p2) (some (.Name y p3)) pos.line X.env = pure false := by rfl) (hf : X.fn y = true ∨ X.env.scope.names.lookup y = some .local := by first | exact .inl rfl | exact .inr rfl | assumption) :
    ExM X H0 ρ kk (.Assign [.Name y p3] (.List es p2) pos :: rest) (fun r => .rt (eR r)) m := by
  have go : ∀ {o : OcZ (List Lrn)} {o' : Outc}, ExecZ (lsZ X.K fun _ => True) H0 i ρ (frs.map fun fr => (fr, [], [], [])) rest o → (∀ N DD, Cont X H0 N DD o' → ContZ (lsZ X.K fun _ => True) H0 i N DD o) → Exec X H0 ρ (.Assign [.Name y p3] (.List es p2) pos :: rest) o' := fun {o o'} hh hc DD σ H N r cc => by
    refine wb_of (pss_cons (ps_set nd hi hx (pe_lst pa_w) hs hf) pb_w) ((he H0 σ H N r).imp fun vs H1 ⟨as, A, N1, e1, n1, z, d, r1⟩ => ?_)
    subst e1
    have hl := z.len
    rw [List.length_map] at hl
    refine ⟨by rw [List.length_map, hl]; exact hz, fun p hp => ?_⟩
    have r2 := r1.updS hn (q := p) (o := .lst (as.map V.ref)) True.intro (.inr ⟨r1.sub.free hp, fun j d' e => no_own r1 hp j d' e⟩)
    have r3 := r2.setE (i := i) (v := .ref p) (e := .rf p) rfl
    have hp0 := un_none (r1.old.free hp)
    exact hh DD _ _ N1 ⟨p, _, ⟨as, A, z, hp0.1, rfl, trivial⟩, dj_upd hp0.2 d, r3⟩ (ContZ.mono (hc N DD cc) n1)
  cases m with
  | ok r => exact go h fun N DD c => c
  | ex n => exact go h fun N DD c => c
  | far => trivial
end
/-! ### one of them handed to a def that changes it -/
section
variable {α β γ S : Type} {X : Cx} {pc : Addr → Prop} {H0 : Hp} {i k kk : Nat} {Φ : Hp → Prop} {ρ ρ1 : Env'} {ts : List Lrn} {t' : Lrn} {a b c e ix : Expr} {es : List Expr} {p p1 p2 p3 pos : Pos} {d : Dat} {ds : List Dat} {x n y : Str} {R : Lrn → List Dat → ResZ Lrn → Prop} {u : Int} {j : Nat}
theorem evz_callAt (G : GFnZ X.prog X.w X.K X.mg X.base x k (lrF X.K) 0 R) (hr : Room k X.A) (hn : noOl ρ) (hi : i < ρ.length) (hΦ : Φ H0) (mΦ : ∀ {A B : Hp}, Same A B → Φ A → Φ B) (hix : ∀ H0' p, Φ H0' → Ev X H0' (ρ.set i (.rf p)) ix (.int u)) (hu : ixN ts.length u = some j) (hj : j < ts.length) (ha : ∀ H0' p, Φ H0' → EvA X H0' (ρ.set i (.rf p)) es ds) (q : R ts[j] ds (.val d t'))
    (hN : X.N[i]? = some y := by rfl) (hv : Vis X.env.scope y := by first | exact Or.inl rfl | exact Or.inr (Or.inl rfl) | exact Or.inr (Or.inr rfl)) (hd : (y == ("__debug__" : Str)) = false := by decide) (hcd : (y == ("__classdict__" : Str)) = false := by decide) (hpi : PlainIx ix := by exact fun _ _ => rfl)
    (hg : Gl X x := by rfl) (hdb : (x == ("__debug__" : Str)) = false := by decide)
    (he : starEach (.Subscript (.Name y p1) ix p2 :: es) X.env = (false, eval (.Subscript (.Name y p1) ix p2) X.env) :: starEach es X.env := by rfl) (hpl : (backTo pos (starEach es X.env)).any (·.1) = false := by rfl) : EvZ (lsZ X.K pc) H0 i ρ ts (.Call (.Name x p) (.Subscript (.Name y p1) ix p2 :: es) [] pos) d (ts.set j t') := fun σ H N ⟨q0, Hs, ⟨as, A, z, hq, hH, hpc⟩, dd, r⟩ => by
  obtain ⟨f, fd, ps, FF, hm, hk, hb⟩ := G
  subst hH
  have hn' : noOl (ρ.set i (.rf q0)) := noOl_set hn
  have hΦ' := mΦ (un_same dd) hΦ
  have mu : ∀ a u, upd A q0 (.lst (as.map V.ref)) a = some u → Mut (some u) := mu_l z.mu
  have hl := z.len
  obtain ⟨B, a, b1, b2, b3, b4⟩ := z.at j hj
  refine we_of (pe_callS FF hr hg hm hk hb (fun σ => passAt takes0 σ) pa_w hdb he hpl) (wa_of (pa_cons (pe_ix ix_list (pv i hN hv hd hcd) pe_w hpi) pa_w he) ⟨_, r.rf i q0 (List.getElem?_set_self hi), (hix _ q0 hΦ' σ H N r).imp fun w H1 ⟨N1, s1, n1, r1, a1⟩ => ?_⟩)
  have hlst : H1 q0 = some (.lst (as.map V.ref)) := r1.old _ _ (un_some upd_same)
  refine ⟨q0, as.map V.ref, u, .ref a, rfl, at_int a1, .inl (.inl hlst), ?_, ?_⟩
  · unfold atI
    rw [List.length_map, hl, hu]
    show (as.map V.ref)[j]? = _
    rw [List.getElem?_map, b1]
    rfl
  refine (ha _ q0 hΦ' σ H1 N1 r1).imp fun vs H2 ⟨N2, s2, n2, r2, a2⟩ => ?_
  have hs2 : Same (upd A q0 (.lst (as.map V.ref))) H2 := fun b v e => r2.old b v (un_some e)
  have hA2 : Same A H2 := fun b v e => hs2 b v (by rw [upd_ne (fun z => by rw [z, hq] at e; cases e)]; exact e)
  have hB2 : Same B H2 := fun b v e => hA2 b v (b3 b v e)
  have hBm : ∀ b v, B b = some v → Mut (some v) := fun b v e => (lrZ X.K _).mu b2 e
  have sN : Same N2 (Rst H2 B) := fun b v e => by
    have hsn : B b = none := by
      cases zz : B b with
      | none => rfl
      | some w =>
        have hb' : b ≠ q0 := fun z => by rw [z] at zz; have := b3 _ _ zz; rw [hq] at this; cases this
        rw [n_of r2 (un_some (by rw [upd_ne hb']; exact b3 _ _ zz)) (hBm _ _ zz)] at e
        cases e
    rw [rst_none hsn]
    exact r2.sub b v e
  refine ⟨a, ts[j], ds, _, B, q, (lrZ X.K _).mono (imm_same ((n1.trans n2).trans r2.sub)) ((lrF X.K).im trivial b2), hB2, .here (a2.mono sN), fun v H' B' c1 c2 c3 c4 c5 => ?_⟩
  have hB'q : B' q0 = none := by
    cases zz : B' q0 with
    | none => rfl
    | some w =>
      rcases c4 _ _ zz with ⟨w', e⟩ | e
      · have := b3 _ _ e; rw [hq] at this; cases this
      · rw [hs2 q0 _ upd_same] at e; cases e
  have hBq : B q0 = none := by
    cases zz : B q0 with
    | none => rfl
    | some w => have := b3 _ _ zz; rw [hq] at this; cases this
  have hrest : ∀ x u, B' x = some u → Rst A B x = none := fun x u e => by
    rcases c4 _ _ e with ⟨w', e'⟩ | e'
    · unfold Rst; rw [e']
    · cases zz : Rst A B x with
      | none => rfl
      | some v => rw [hA2 x v (rst_some zz).2] at e'; cases e'
  have new : Un (Rst (upd A q0 (.lst (as.map V.ref))) B) B' = upd (Un (Rst A B) B') q0 (.lst (as.map V.ref)) := funext fun b => by
    by_cases c : b = q0
    · subst c
      rw [upd_same]
      unfold Un
      rw [hB'q]
      show Rst _ B b = _
      rw [rst_none hBq, upd_same]
    · rw [upd_ne c]
      unfold Un
      cases B' b with
      | some v => rfl
      | none =>
        show Rst _ B b = Rst A B b
        unfold Rst
        rw [upd_ne c]
  have lz : ∀ N3, Same N2 N3 → Same (Imm H') N3 → LZs X.K (ts.set j t') N3 (Un (Rst A B) B') as := fun N3 m1 m2 => by
    have := b4 N3 t' B' ((n1.trans n2).trans m1) ((lrZ X.K _).mono m2 c2) hrest
    exact this
  have mu' : ∀ a u, Un (Rst (upd A q0 (.lst (as.map V.ref))) B) B' a = some u → Mut (some u) := fun b v e => by
    rcases un_or e with e | ⟨_, e⟩
    · exact (lrZ X.K _).mu c2 e
    · exact mu b v (rst_some e).2
  have c1' : Same (Rst H2 (upd A q0 (.lst (as.map V.ref)))) (Rst H' (Un (Rst (upd A q0 (.lst (as.map V.ref))) B) B')) := fun b v e => by
    obtain ⟨e1, e2⟩ := rst_some e
    have eB : B b = none := by
      cases zz : B b with
      | none => rfl
      | some w =>
        have hb' : b ≠ q0 := fun z => by rw [z, hBq] at zz; cases zz
        rw [upd_ne hb', b3 _ _ zz] at e1
        cases e1
    obtain ⟨f1, f2⟩ := rst_some (c1 b v (by rw [rst_none eB]; exact e2))
    rw [rst_none (by unfold Un; rw [f1]; show Rst _ B b = none; rw [rst_none eB]; exact e1)]
    exact f2
  have c3' : Same (Un (Rst (upd A q0 (.lst (as.map V.ref))) B) B') H' := fun b v e => by
    rcases un_or e with e | ⟨_, e⟩
    · exact c3 b v e
    · obtain ⟨e1, e2⟩ := rst_some e
      exact (rst_some (c1 b v (by rw [rst_none e1]; exact hs2 b v e2))).2
  have c4' : ∀ b v, Un (Rst (upd A q0 (.lst (as.map V.ref))) B) B' b = some v → (∃ w, upd A q0 (.lst (as.map V.ref)) b = some w) ∨ H2 b = none := fun b v e => by
    rcases un_or e with e | ⟨_, e⟩
    · rcases c4 b v e with ⟨w, e'⟩ | e'
      · have hb' : b ≠ q0 := fun z => by rw [z, hBq] at e'; cases e'
        exact .inl ⟨w, by rw [upd_ne hb']; exact b3 _ _ e'⟩
      · exact .inr e'
    · exact .inl ⟨v, (rst_some e).2⟩
  obtain ⟨N3, m1, m2, m3, m4⟩ := rep_call hn' mu mu' dd r2 c1' c3' c4'
  exact ⟨N3, (n1.trans n2).trans m1, ⟨q0, _, ⟨as, _, lz N3 m1 m2, by unfold Un; rw [hB'q]; show Rst A B q0 = none; rw [rst_none hBq]; exact hq, new, hpc⟩, m3, m4⟩, c5.mono m2⟩
theorem evmz_callAt {en : α → Dat} {m : Lrn → M (α × Lrn)} (G : GFnZ X.prog X.w X.K X.mg X.base x k (lrF X.K) 0 R) (hr : Room k X.A) (hn : noOl ρ) (hi : i < ρ.length) (hΦ : Φ H0) (mΦ : ∀ {A B : Hp}, Same A B → Φ A → Φ B) (hix : ∀ H0' p, Φ H0' → Ev X H0' (ρ.set i (.rf p)) ix (.int u)) (ha : ∀ H0' p, Φ H0' → EvA X H0' (ρ.set i (.rf p)) es ds) (q : ∀ L o, RmZ en (m L) o → R L ds o)
    (hN : X.N[i]? = some y := by rfl) (hv : Vis X.env.scope y := by first | exact Or.inl rfl | exact Or.inr (Or.inl rfl) | exact Or.inr (Or.inr rfl)) (hd : (y == ("__debug__" : Str)) = false := by decide) (hcd : (y == ("__classdict__" : Str)) = false := by decide) (hpi : PlainIx ix := by exact fun _ _ => rfl)
    (hg : Gl X x := by rfl) (hdb : (x == ("__debug__" : Str)) = false := by decide)
    (he : starEach (.Subscript (.Name y p1) ix p2 :: es) X.env = (false, eval (.Subscript (.Name y p1) ix p2) X.env) :: starEach es X.env := by rfl) (hpl : (backTo pos (starEach es X.env)).any (·.1) = false := by rfl) :
    EvMZ (lsZ X.K pc) H0 i ρ ts (.Call (.Name x p) (.Subscript (.Name y p1) ix p2 :: es) [] pos) en (M.bind (M.ofO (atI ts u)) fun L => M.bind (M.nox (m L)) fun q => M.bind (M.ofO (setI ts u q.2)) fun ts2 => .ok (q.1, ts2)) := by
  cases hL : atI ts u with
  | none => trivial
  | some L =>
    unfold atI at hL
    obtain ⟨j, hu, hj⟩ := Option.bind_eq_some_iff.mp hL
    have hjl := lt_of_get hj
    have hLe : ts[j] = L := by
      rw [List.getElem?_eq_getElem hjl] at hj
      exact Option.some.inj hj
    show EvMZ _ _ _ _ _ _ _ (M.bind (M.nox (m L)) _)
    cases hm : m L with
    | far => trivial
    | ex n => trivial
    | ok v =>
      have hq := q L (.val (en v.1) v.2) (by rw [hm]; exact rfl)
      show EvMZ _ _ _ _ _ _ _ (M.bind (M.ofO (setI ts u v.2)) _)
      have hs : setI ts u v.2 = some (ts.set j v.2) := by
        unfold setI
        rw [hu]
        rfl
      rw [hs]
      exact evz_callAt (Φ := Φ) G hr hn hi hΦ mΦ hix hu hjl ha (by rw [hLe]; exact hq) hN hv hd hcd hpi hg hdb he hpl
end
section
variable {τ α γ : Type} {X : Cx} {z : Zp X.K τ} {H0 : Hp} {i k : Nat} {Φ : Hp → Prop} {ρ : Env'} {t : τ} {rest : List Stmt} {e ix : Expr} {p1 p2 pos : Pos} {D : γ → OcZ τ} {y : Str} {u : Int} {en : α → Dat} {l : List α}
/-- l[ix] = CALL, l a list of one's own -/
theorem xz_setIxM {m : M (α × τ)} {f : α × τ → List α → M γ} (jj : Nat) (hij : jj ≠ i) (hρ : ρ[jj]? = some (.ow (lstd en l))) (hn : noOl ρ) (hΦ : Φ H0) (mΦ : ∀ {A B : Hp}, Same A B → Φ A → Φ B) (h : EvMZ z H0 i ρ t e en m) (hx : ∀ H0' p, Φ H0' → Ev X H0' (ρ.set i (.rf p)) ix (.int u)) (tt : ∀ q l2, ExMZ z H0 i (ρ.set jj (.ow (lstd en l2))) q.2 k rest D (f q l2)) (hk : ρ.length = k := by rfl)
    (hN : X.N[jj]? = some y := by rfl) (hvis : Vis X.env.scope y := by first | exact Or.inl rfl | exact Or.inr (Or.inl rfl) | exact Or.inr (Or.inr rfl)) (hd : (y == ("__debug__" : Str)) = false := by decide) (hcd : (y == ("__classdict__" : Str)) = false := by decide)
    (hp : ∀ te to ti, PE X e te → PE X (.Name y p1) to → PE X ix ti → PS X (.Assign [.Subscript (.Name y p1) ix p2] e pos) (tAsg te (gSub to ti rSetL)) := by exact fun te to ti h g f => ps_asg h (pg_sub g f set_list)) :
    ExMZ z H0 i ρ t k (.Assign [.Subscript (.Name y p1) ix p2] e pos :: rest) D (M.bind m fun q => M.bind (M.ofO (setI l u q.1)) fun l2 => f q l2) := by
  cases m with
  | far => trivial
  | ex n => exact ez_ex (fun DD σ H N r ⟨W, tk, c⟩ => ws_of (hp _ _ _ pe_w (pv jj hN hvis hd hcd) pe_w) (h σ H N r W tk (fun C H' N' hC n1 r' => c C σ H' N' hC n1 (low_ex hn hk r')) _))
  | ok v =>
    show ExMZ z H0 i ρ t k _ D (M.bind (M.ofO (setI l u v.1)) _)
    cases hs : setI l u v.1 with
    | none => trivial
    | some l2 =>
      unfold setI at hs
      obtain ⟨j, hj1, hj2⟩ := Option.map_eq_some_iff.mp hs
      refine xz_then (ρ1 := ρ.set jj (.ow (lstd en l2))) (t1 := v.2) (fun DD σ H N s kk => ?_) (tt v l2)
      refine ws_of (hp _ _ _ pe_w (pv jj hN hvis hd hcd) pe_w) ((h σ H N s).imp fun w H1 ⟨N1, n1, ⟨q0, Hs, nz, dd, r1⟩, a1⟩ => ?_)
      have hi' : ∀ q : Addr, (ρ.set i (.rf q))[jj]? = some (.ow (lstd en l)) := fun q => by rw [List.getElem?_set_ne (Ne.symm hij)]; exact hρ
      obtain ⟨q, g1, g2, g3, vs, g4, g5⟩ := r1.ow jj _ (hi' q0)
      refine ⟨_, g1, (hx _ q0 (mΦ (un_same dd) hΦ) σ H1 N1 r1).imp fun w2 H2 ⟨N2, s2, n2, r2, a2⟩ => ?_⟩
      obtain ⟨q', f1, f2, f3, us, f4, f5⟩ := r2.ow jj _ (hi' q0)
      rw [g1] at f1
      cases f1
      refine ⟨q, us, u, j, rfl, at_int a2, f4, by rw [f5.length, List.length_map]; exact hj1, ?_⟩
      have r3 := r2.write (o := .lst (us.set j w)) (d' := .lst ((l.map en).set j (en v.1))) (hi' q0) g1 ⟨us.set j w, upd_same, f5.set (a1.mono n2) j⟩
      have e : (l.map en).set j (en v.1) = l2.map en := by rw [← hj2, List.map_set]
      rw [List.set_comm _ _ (Ne.symm hij), e] at r3
      exact kk σ _ N2 (n1.trans n2) ⟨q0, Hs, z.mono n2 nz, dd, r3⟩
end
end B

namespace B
open PySem PySem.Spec PyProof.Rows L2
/-! ### list of data of any kind -/
def lstOf : Dat → Option (List Dat)
  | .lst ds => some ds
  | _ => none
theorem lstOf_ok {d : Dat} {l : List Dat} (h : lstOf d = some l) : d = .lst l := by
  cases d <;> simp [lstOf] at h
  rw [h]
theorem flats_all : ∀ l : List Dat, flats l = l.all flat
  | [] => rfl
  | a :: l => by
    show (flat a && flats l) = (flat a && l.all flat)
    rw [flats_all l]
section
variable {X : Cx} {H0 : Hp} {ρ : Env'} {a : Expr} {p pos : Pos} {d : Dat} {l : List Dat}
theorem eo_listD (ha : EvB X H0 ρ a d) (h : lstOf d = some l) (f : (l.all flat) = true) (hm : X.mg "list" = none) (hg : Gl X "list" := by rfl) (he : starEach [a] X.env = (false, eval a X.env) :: starEach [] X.env := by rfl) (hpl : (backTo pos (starEach [] X.env)).any (·.1) = false := by rfl) :
    EvO X H0 ρ (.Call (.Name "list" p) [a] [] pos) (lstd idd l) := by
  have e := lstOf_ok h
  subst e
  show EvO X H0 ρ _ (.lst (l.map idd))
  rw [show l.map idd = l from List.map_id' l]
  exact eo_list ha (by rw [flats_all]; exact f) hm hg he hpl
end
end B

namespace B
open PySem PySem.Spec PyProof.Rows L2
/-! ### len(set(text)), the text's signs unlike -/
def sgn (c : Nat) : Str := ⟨#[c]⟩
theorem sgn_inj {a b : Nat} (h : sgn a = sgn b) : a = b := by
  have : [a] = [b] := congrArg (fun y : Str => y.cps.toList) h
  exact (List.cons.inj this).1
/-- the texts of the first signs -/
def met (l : List Nat) (i : Nat) : Str → Bool := fun k => (l.take i).any fun c => sgn c == k
theorem met_succ {l : List Nat} (nd : l.Nodup) {i : Nat} (h : i < l.length) : met l i (sgn l[i]) = false ∧ ∀ k, (met l i k || decide (k = sgn l[i])) = met l (i + 1) k := by
  have e : l.take (i + 1) = l.take i ++ [l[i]] := by rw [List.take_succ, List.getElem?_eq_getElem h]; rfl
  refine ⟨?_, fun k => ?_⟩
  · unfold met
    refine List.any_eq_false.mpr fun c hc q => ?_
    have q := sgn_inj (eq_of_beq q)
    obtain ⟨j, hj, ej⟩ := List.getElem_of_mem hc
    have hji : j < i := by rw [List.length_take] at hj; omega
    rw [List.getElem_take] at ej
    exact absurd (ej.trans q) (List.pairwise_iff_getElem.mp nd j i (Nat.lt_trans hji h) h hji)
  · unfold met
    rw [e, List.any_append]
    congr 1
    rw [List.any_cons, List.any_nil, Bool.or_false]
    by_cases c : k = sgn l[i]
    · rw [decide_eq_true c, c]; exact (beq_self_eq_true _).symm
    · rw [decide_eq_false c]; exact (beq_eq_false_iff_ne.mpr fun q => c q.symm).symm
section
variable {prog : Program} {w : World} {A : Around} {R : Result → Shared → Prop} {I : Addr} {fp wr : List Addr} {G : Array GenState → Array GenState → Prop} {n : Nat} {P : Nat → Value → Prop} {St : Nat → Shared → Prop}
theorem loop_signs (W : WalksS prog w A.in1 I fp wr G n P St) (S : Addr) (hSf : S ∉ fp) (l : List Nat) (nd : l.Nodup) (hl : l.length = n) (hb : n + 1 < scanBound) (hval : ∀ i (h : i < l.length) v, P i v → ∃ t, v = .str (sgn l[i]) t) :
    ∀ (k i : Nat) (s : Shared), n - i = k → i ≤ n → St i s → s.heap.SetOf (PySem.strKind prog w) S (met l i) i →
      (∀ s', Moved (S :: wr) G s s' → s'.heap.SetOf (PySem.strKind prog w) S (met l n) n → R (.ok (.ret .none)) s') → codeAny (model prog w) A (.builtin "set.update.loop" ⟨[.ref S, .ref I], []⟩) R s
  | 0, i, s, hk, hi, hst, hS, hR => by
    have hin : i = n := by omega
    subst hin
    have hSw : S ∉ wr := fun h => hSf (W.sub _ h)
    refine codeAny_builtin PyProof.Rows.F.entry_set_update_loop ?_
    rw [Around.under_plainId PyProof.Rows.F.plain_set_update_loop _]
    show wpAny _ A.in1 (pyNext (.ref I) >>= _) _ _ s
    refine wpAny_bind (W.done s _ _ hst fun s' hm => ?_)
    show wpAny _ A.in1 (ret Value.none) _ _ s'
    obtain ⟨o, es, ep, t, ho, rest⟩ := hS
    exact wpAny_pure (hR s' (hm.mono fun b hb => List.mem_cons_of_mem _ hb) ⟨o, es, ep, t, hm.heap S _ hSw ho, rest⟩)
  | k + 1, i, s, hk, hi, hst, hS, hR => by
    have hlt : i < n := by omega
    have hll : i < l.length := by omega
    have hSw : S ∉ wr := fun h => hSf (W.sub _ h)
    have hsub : ∀ b ∈ wr, b ∈ S :: wr := fun b hb => List.mem_cons_of_mem _ hb
    refine codeAny_builtin PyProof.Rows.F.entry_set_update_loop ?_
    rw [Around.under_plainId PyProof.Rows.F.plain_set_update_loop _]
    show wpAny _ A.in1 (pyNext (.ref I) >>= _) _ _ s
    refine wpAny_bind (W.item i s _ _ hlt hst fun v s' hP hst' hm => ?_)
    obtain ⟨t, rfl⟩ := hval i hll v hP
    obtain ⟨g1, g2⟩ := met_succ nd hll
    have hS' : s'.heap.SetOf (PySem.strKind prog w) S (met l i) i := by
      obtain ⟨o, es, ep, tb, ho, rest⟩ := hS
      exact ⟨o, es, ep, tb, hm.heap S _ hSw ho, rest⟩
    show wpAny _ A.in1 (holding [Value.str (sgn l[i]) t] (setAdd S (.str (sgn l[i]) t)) >>= _) _ _ s'
    refine wpAny_bind (wpAny_holding ?_)
    unfold setAdd
    refine wpAny_holding ?_
    refine wpAny_bind ((PySem.strKind prog w).pyHash (k := sgn l[i]) (strKind_is _ _ _ _) ?_)
    refine wpAny_setAddHashed_of (knd := PySem.strKind prog w) (s := { s' with toks := s'.toks + 1 }) (strKind_is _ _ _ _) rfl hS' (by omega) fun h' hsb hS2 => ?_
    have hSi : h'.SetOf (PySem.strKind prog w) S (met l (i + 1)) (i + 1) := SetOf_congr hS2 (fun k' => g2 k') (by rw [g1]; rfl)
    refine wpAny_pure ⟨plainId_quiet PyProof.Rows.F.plain_set_update_loop _, loop_signs W S hSf l nd hl hb hval k (i + 1) _ (by omega) hlt (W.frame _ s' _ _ hst' (Nat.le_succ _) fun b hb o e => ?_) hSi fun s'' hm'' hS'' => ?_⟩
    · rw [hsb.2 b (fun h : b = S => hSf (by rw [← h]; exact hb))]; exact e
    · refine hR s'' (Moved.trans W.gtrans ((hm.mono hsub).then_heap (Nat.le_succ _) fun b o hb e => ?_) hm'') hS''
      rw [hsb.2 b (fun h : b = S => hb (by rw [h]; exact List.mem_cons_self))]; exact e
end
section
variable {prog : Program} {w : World} {A : Around} {E : Value → Shared → Prop} {s : Shared}
set_option maxHeartbeats 8000000 in
theorem call_set_text {l : List Nat} {tk0 : Tok} {Q : Value → Shared → Prop} (hh : A.handled = none) (nd : l.Nodup) (hb : l.length + 1 < scanBound)
    (h : ∀ (h' : Heap) (tk : Nat), h'.SetOf (PySem.strKind prog w) s.heap.objs.size (met l l.length) l.length → (∀ b o, b < s.heap.objs.size → s.heap.get? b = some o → h'.get? b = some o) → Q (.ref s.heap.objs.size) { s with heap := h', toks := tk }) :
    wpAny (model prog w) A (call (.type "set") [.str (SX.S l) tk0]) Q E s := by
  obtain ⟨c, tl, hmro⟩ := PySem.F.called_set.mro
  have hmade := PySem.F.called_set.made
  have hsub := PySem.F.called_set.sub
  refine wpAny_call (codeAny_of_tree ?_)
  show wpAny _ _ (callAny (.type "set") _) _ _ _
  refine wpAny_pure ⟨Code.quiet_builtin _ (by decide +kernel), codeAny_builtin PySem.F.entry_type_call ?_⟩
  rw [Around.under_plain (weight_type_call_type "set" [.str (SX.S l) tk0] []) rfl]
  have h1 := PySem.F.called_set.notType
  have h2 := PySem.F.called_set.canCreate
  have hct := PySem.F.typeCall_set_1 (.str (SX.S l) tk0)
  repeat (any_goals (first | assumption | wp_step))
  refine codeAny_mono (code_set_new_1 (.str (SX.S l) tk0) (E := E) (Q₁ := fun obj s₁ => ∃ led : Bool, obj = .ref s.heap.objs.size ∧ s₁ = { s with heap := s.heap.push { cls := .type "set", dict := none, data := .set #[] 0 (.fresh 0 0 led) } }) fun led => ⟨led, rfl, rfl⟩) fun r s₁ hr => ?_
  cases r with
  | error e => exact hr
  | ok fl =>
    cases fl with
    | ret obj =>
      obtain ⟨led, rfl, rfl⟩ := hr
      have hS : (s.heap.push { cls := .type "set", dict := none, data := .set #[] 0 (.fresh 0 0 led) }).get? s.heap.objs.size = some { cls := .type "set", dict := none, data := .set #[] 0 (.fresh 0 0 led) } := Heap.get?_push_size _ rfl
      have hT : Shared.TypeIs { s with heap := s.heap.push { cls := .type "set", dict := none, data := .set #[] 0 (.fresh 0 0 led) } } (.ref s.heap.objs.size) "set" := ⟨_, hS, rfl⟩
      have hli := PySem.F.called_set.init.lookup
      have hbi := PySem.F.called_set.init.bind (.ref s.heap.objs.size)
      repeat (any_goals (first | assumption | wp_step))
      refine codeAny_mono (codeAny_call_builtin (R := wants (fun r s₂ => r = .none ∧ ∃ h' tk, s₂ = { s with heap := h', toks := tk } ∧ h'.SetOf (PySem.strKind prog w) s.heap.objs.size (met l l.length) l.length ∧ (∀ b o, b < s.heap.objs.size → s.heap.get? b = some o → h'.get? b = some o)) E) PySem.F.called_set.init.plain PySem.F.entry_set_init (check_set_init_1 hT ?_)) fun r₂ s₂ hr₂ => ?_
      · have hss := PySem.F.sub_str_set
        have hsf := PySem.F.sub_str_frozenset
        have hne : (Value.type "str" == Value.type "dict") = false := by decide
        unfold Builtin.«set.__init__» noKeywords Builtin.Frozenset.updateFrom
        generalize hPI : pyIter = PI
        wp_walk
        subst hPI
        refine wpAny_pyIter_str fun o St hW hst => ?_
        refine wpAny_bind (wpAny_runValue ?_)
        have hh3 : A.in1.in1.in1.handled = none := by simp [hh]
        have hsz : (SX.S l).cps.size = l.length := by simp [SX.S]
        refine loop_signs (hW _ hh3).toS s.heap.objs.size ?_ l nd hsz.symm (by rw [hsz]; exact hb) (fun i hi v hv => ?_) _ 0 _ rfl (Nat.zero_le _) hst ?_ fun s' hm hS' => ?_
        · rw [Heap.size_push, List.mem_singleton]
          exact Nat.ne_of_lt (Nat.lt_succ_self _)
        · obtain ⟨c, u, e1, e2⟩ := hv
          refine ⟨u, ?_⟩
          have e3 : l[i]? = some c := by
            have : (SX.S l).cps = l.toArray := rfl
            rw [this] at e1
            simpa using e1
          rw [List.getElem?_eq_getElem hi] at e3
          rw [e2, Option.some.inj e3]
          rfl
        · have hget := Heap.get?_push_of_some o hS
          exact SetOf_congr ((setObjOf_fresh (knd := PySem.strKind prog w) led).setOf hget (by unfold scanBound; omega)) (fun _ => rfl) rfl
        · obtain ⟨h', g', d', tk', os'⟩ := s'
          have eg : g' = s.gens := hm.gens
          have ed : d' = s.drawn := hm.drawn
          have eo : os' = s.os := hm.os
          subst eg; subst ed; subst eo
          rw [hsz] at hS'
          show wpAny _ _ _ _ _ _
          refine wpAny_pure ?_
          show wpAny _ _ (ret Value.none) _ _ _
          refine wpAny_pure ⟨rfl, h', tk', rfl, hS', fun b o2 hb2 e => ?_⟩
          refine hm.heap b o2 ?_ (Heap.get?_push_of_some _ (Heap.get?_push_of_some _ e))
          rw [Heap.size_push]
          simp only [List.mem_cons, List.not_mem_nil, or_false, not_or]
          exact ⟨Nat.ne_of_lt hb2, Nat.ne_of_lt (Nat.lt_succ_of_lt hb2)⟩
      · cases r₂ with
        | error e => exact hr₂
        | ok fl₂ =>
          cases fl₂ with
          | ret r =>
            obtain ⟨rfl, h', tk, rfl, hS', hk'⟩ := hr₂
            repeat (any_goals (first | assumption | wp_step))
            exact h _ _ hS' hk'
          | _ => exact hr₂.elim
    | _ => exact hr.elim
end
def tLenSetT (ta : TE) : TE := fun σ H Q => ta σ H fun x H1 => ∃ l : List Nat, x = .str (SX.S l) ∧ l.Nodup ∧ l.length ≤ 1000 ∧ Q (.int ((l.length : Nat) : Int)) H1
section
variable {X : Cx}
theorem pe_lenSetT {a : Expr} {ta : TE} {p p2 q pos : Pos} (hc : X.calm = true) (hg : Gl X "len") (hm : X.mg "len" = none) (hg2 : Gl X "set") (hm2 : X.mg "set" = none) (ha : PE X a ta) (na : starEach [a] X.env = (false, eval a X.env) :: starEach [] X.env := by rfl) : PE X (.Call (.Name "len" p) [.Call (.Name "set" p2) [a] [] q] [] pos) (tLenSetT ta) := by
  refine ⟨fun pins s σ H Q I h => ?_⟩
  refine Call_ (ld_blt I hg hm boot_len ?_)
  refine PyProof.Rows.callWith_builtin1 (PyProof.Rows.args_cons ?_ rfl) rfl rfl
  refine Call_ (ld_blt I hg2 hm2 boot_set ?_)
  refine PyProof.Rows.callWith_type1 (PyProof.Rows.args_cons (thn (ha.run pins s σ H _ I h) fun v s1 ⟨x, H1, I1, r1, q1⟩ => PyProof.Rows.args_nil ?_) na) na rfl
  obtain ⟨l, rfl, nd, hl, q1⟩ := q1
  obtain ⟨tk0, rfl⟩ := r1
  refine call_set_text (I1.ok.hd hc) nd (by unfold scanBound; omega) fun h' tk hS hk => ?_
  refine PyProof.Rows.args_nil ?_
  obtain ⟨o, es, ep, t, ho, hex, hd, _, _, _, hf, hn⟩ := hS
  have I2 : Inv X pins σ H1 { s1 with heap := h', toks := tk } := I1.kept fun b o e => hk b o (Heap.lt_size e) e
  exact call_len_set ho hex hd hf (by rw [hn]; omega) ⟨.int ((l.length : Nat) : Int), H1, I2.tok _, ⟨_, by rw [hn]⟩, q1⟩
theorem ev_lenSet {H0 : Hp} {ρ : Env'} {a : Expr} {p p2 q pos : Pos} {l : List Nat} (ha : Ev X H0 ρ a (tx l)) (nd : l.Nodup) (hl : l.length ≤ 1000) (hc : X.calm = true) (hm : X.mg "len" = none) (hm2 : X.mg "set" = none) (hg : Gl X "len" := by rfl) (hg2 : Gl X "set" := by rfl) (na : starEach [a] X.env = (false, eval a X.env) :: starEach [] X.env := by rfl) : Ev X H0 ρ (.Call (.Name "len" p) [.Call (.Name "set" p2) [a] [] q] [] pos) (.int ((l.length : Nat) : Int)) := fun σ H N r =>
  we_of (pe_lenSetT hc hg hm hg2 hm2 pe_w na) ((ha σ H N r).imp fun v H1 ⟨N1, s1, n1, r1, a1⟩ => ⟨l, at_str a1, nd, hl, N1, s1, n1, r1, .int _⟩)
end
end B

namespace B
open PySem PySem.Spec PyProof.Rows L2
/-! ### list + list, both of them data -/
theorem meets_addL (l : Addr) (items : Array Value) (n : Nat) (sl : Array (Option Value)) (b : Addr) (items2 : Array Value) (n2 : Nat) (sl2 : Array (Option Value)) (hc0 : items.size + items2.size ≤ sizeLine) :
    PySem.Meets (Builtin.«list.__add__» ⟨[.ref l, .ref b], []⟩) (fun _ R s => s.heap.get? l = some { cls := .type "list", dict := none, data := .seq items n, slots := sl } ∧ s.heap.get? b = some { cls := .type "list", dict := none, data := .seq items2 n2, slots := sl2 } ∧ R (.ok (.ret (Value.ref s.heap.objs.size))) { s with heap := s.heap.push { cls := Value.type "list", data := Data.seq (items ++ items2) }, toks := s.toks }) :=
  .of_wp fun prog w A R s h => by
    obtain ⟨hp, g, d, tk, os⟩ := s; obtain ⟨hl, hb, h⟩ := h; have f1 := PySem.AutoSeq1.idx_int; have f2 := PySem.AutoSeq1.sub_tuple_tuple; have f3 := PySem.AutoSeq1.sub_list_list; have f4 := PySem.AutoSeq1.sub_tuple_list; have f5 := PySem.AutoSeq1.sub_list_tuple
    wp_walk using PySem.AutoSeq1.wpAny_loadPart' hl, PySem.AutoSeq1.wpAny_loadPart' hb
    exact ⟨_, rfl, h⟩
def rCatL (K : PySem.W.Frag) : R2 := fun x y H Q => ∃ l b xs zs, x = .ref l ∧ y = .ref b ∧ SqL K H l xs ∧ SqL K H b zs ∧ xs.length + zs.length ≤ sizeLine ∧ ∀ p, H p = none → Q (.ref p) (upd H p (.lst (xs ++ zs)))
theorem op_catL {X : Cx} : OpR X (binaryOp .Add) (rCatL X.K) := by
  intro pins s σ H x y v u Q I rx ry h
  obtain ⟨l, b, xs, zs, rfl, rfl, hH, hB, hz, q⟩ := h
  cases rx
  cases ry
  obtain ⟨its, r, ⟨⟨c1, d1, t1, sl1⟩, n, e, h1, h2, h3⟩, _⟩ := I.list hH
  obtain ⟨its2, r2, ⟨⟨c2, d2, t2, sl2⟩, n2, e2, k1, k2, k3⟩, _⟩ := I.list hB
  simp only at h1 h2 h3 k1 k2 k3
  subst h1 h2 h3 k1 k2 k3
  have z1 := r.length
  have z2 := r2.length
  have hsz : its.toArray.size + its2.toArray.size ≤ sizeLine := by rw [List.size_toArray, List.size_toArray]; omega
  refine concat_meets ⟨_, e, rfl⟩ ⟨_, e2, rfl⟩ PySem.noFill_list_add PySem.seq_list_add F.slot_list_add F.entry_list_add (F.args_list_add_2 _ _) (meets_addL l its.toArray n sl1 b its2.toArray n2 sl2 hsz) ⟨e, e2, ?_⟩
  have ea : its.toArray ++ its2.toArray = (its ++ its2).toArray := by simp
  rw [ea]
  exact ⟨.ref _, _, I.lnew (t' := s.toks) (r.append r2) (by rw [List.length_append]; omega), rfl, q _ I.fresh⟩
section
variable {X : Cx} {H0 : Hp} {ρ : Env'} {a b : Expr} {pos : Pos} {α : Type} {en : α → Dat}
theorem eo_catBm {l m : List α} (f : ∀ x, flat (en x) = true) (ha : EvB X H0 ρ a (lstd en l)) (hb : EvB X H0 ρ b (lstd en m)) (h : catOk l m = true) : EvO X H0 ρ (.BinOp a .Add b pos) (lstd en (l ++ m)) := fun σ H N rp =>
  we_of (pe_op op_catL pe_w pe_w) ((ha σ H N rp).imp fun v H1 ⟨N1, s1, n1, r1, a1⟩ => (hb σ H1 N1 r1).imp fun w H2 ⟨N2, s2, n2, r2, a2⟩ => by
    obtain ⟨p1, vs, e1, h1, h2⟩ := at_lst (a1.mono s2)
    obtain ⟨p2, ws, e2, h3, h4⟩ := at_lst a2
    have hz := catOk_ok h
    refine ⟨p1, p2, vs, ws, e1, e2, h1, h3, by rw [h2.length, h4.length, List.length_map, List.length_map]; exact hz, fun q hq => ?_⟩
    obtain ⟨N3, n3, r3, i3⟩ := r2.keep
    obtain ⟨r5, n5⟩ := eo_new (o := .lst (vs ++ ws)) r3 hq
    refine ⟨N3, q, rfl, (s1.trans s2).free hq, (s1.trans s2).trans (Same.of_none hq), (n1.trans n2).trans n3, r5, n5, vs ++ ws, upd_same, ?_⟩
    show Ats X.K N3 (vs ++ ws) ((l ++ m).map en)
    rw [List.map_append]
    exact ((ats_imm f h2).mono i3).append ((ats_imm f h4).mono i3))
theorem eo_catIm {l m : List α} (ha : Ev X H0 ρ a (lstd en l)) (hb : Ev X H0 ρ b (lstd en m)) (h : catOk l m = true) : EvO X H0 ρ (.BinOp a .Add b pos) (lstd en (l ++ m)) := fun σ H N rp =>
  we_of (pe_op op_catL pe_w pe_w) ((ha σ H N rp).imp fun v H1 ⟨N1, s1, n1, r1, a1⟩ => (hb σ H1 N1 r1).imp fun w H2 ⟨N2, s2, n2, r2, a2⟩ => by
    obtain ⟨p1, vs, e1, h1, h2⟩ := at_lst (a1.mono n2)
    obtain ⟨p2, ws, e2, h3, h4⟩ := at_lst a2
    have hz := catOk_ok h
    refine ⟨p1, p2, vs, ws, e1, e2, sql_same r2.sub h1, sql_same r2.sub h3, by rw [h2.length, h4.length, List.length_map, List.length_map]; exact hz, fun q hq => ?_⟩
    obtain ⟨r5, n5⟩ := eo_new (o := .lst (vs ++ ws)) r2 hq
    refine ⟨N2, q, rfl, (s1.trans s2).free hq, (s1.trans s2).trans (Same.of_none hq), n1.trans n2, r5, n5, vs ++ ws, upd_same, ?_⟩
    show Ats X.K N2 (vs ++ ws) ((l ++ m).map en)
    rw [List.map_append]
    exact h2.append h4)
end
end B

namespace B
open PySem PySem.Spec PyProof.Rows L2
/-! ### a list of ints, handed to a def that changes it -/
def liZ (K : PySem.W.Frag) (pc : Addr → Prop) : Zp K (List Int) where
  Z := fun t N Hs p => Hs = upd (fun _ => none) p (.lst (t.map V.int)) ∧ pc p
  en := fun t => lstd Dat.int t
  mono := fun _ h => h
  mu := fun {t N Hs p a u} h e => by
    obtain ⟨h1, _⟩ := h
    subst h1
    exact mu_l none_all _ _ e
  at_ := fun {t N Hs G p} h s g => .lst (vs := t.map V.int) (.inl (.inl (g _ _ (by rw [h.1]; exact upd_same)))) (Ats.ofInts' t)
where
  Ats.ofInts' {K : PySem.W.Frag} {H : Hp} : ∀ (ns : List Int), Ats K H (ns.map V.int) (ns.map Dat.int)
    | [] => .nil
    | n :: ns => .cons (.int n) (Ats.ofInts' ns)
def liF (K : PySem.W.Frag) : Zf K (List Int) where
  z := liZ K
  fl := fun _ => True
  root := fun h hp => ⟨h.1, hp⟩
  pc := fun h => h.2
  im := fun _ h => h
theorem Rep.backZ {K : PySem.W.Frag} {A A' H N : Hp} {ρ : Env'} {σ : L2.St} {q : Nat} {x : V} {e : Ent} (hn : noOl ρ) (hx : ρ[q]? = some .no) (s : Same A A') (r : Rep K A' (ρ.set q e) (σ.set q (some x)) H N) : Rep K A ρ σ H N := by
  have ne : ∀ {j : Nat} {t : Ent}, ρ[j]? = some t → t ≠ .no → q ≠ j := fun {j t} h n z => by
    subst z
    rw [hx] at h
    cases h
    exact n rfl
  refine ⟨s.trans r.old, r.sub, (imm_same s).trans r.imm, fun a o h m => s.free (r.fresh a o h m), by have := r.len; rw [List.length_set, List.length_set] at this; exact this, fun j d h => ?_, fun j d h => (hn j d h).elim, fun j d h => ?_, fun j a h => ?_, fun j k d d' p hjk h1 h2 h3 => ?_⟩
  · have n := ne h (fun z => nomatch z)
    obtain ⟨v, h1, h2⟩ := r.im j d (by rw [List.getElem?_set_ne n]; exact h)
    rw [List.getElem?_set_ne n] at h1
    exact ⟨v, h1, h2⟩
  · have n := ne h (fun z => nomatch z)
    obtain ⟨p, h1, h2, h3⟩ := r.ow j d (by rw [List.getElem?_set_ne n]; exact h)
    rw [List.getElem?_set_ne n] at h1
    exact ⟨p, h1, s.free h2, h3⟩
  · have n := ne h (fun z => nomatch z)
    have h1 := r.rf j a (by rw [List.getElem?_set_ne n]; exact h)
    rw [List.getElem?_set_ne n] at h1
    exact h1
  · have n1 := ne h1 (fun z => nomatch z)
    have n2 := ne h2 (fun z => nomatch z)
    have := r.apart j k d d' p hjk (by rw [List.getElem?_set_ne n1]; exact h1) (by rw [List.getElem?_set_ne n2]; exact h2) (by rw [List.getElem?_set_ne n1]; exact h3)
    rwa [List.getElem?_set_ne n2] at this
section
variable {γ : Type} {X : Cx} {pc : Addr → Prop} {H0 : Hp} {i k : Nat} {Φ : Hp → Prop} {ρ ρ1 : Env'} {t t1 : List Int} {st : Stmt} {sts rest : List Stmt} {a b c e ix : Expr} {p1 p2 p3 p4 pos : Pos} {D : γ → OcZ (List Int)}
/-- x.append(e) -/
theorem xl_append {w : Int} {y : Str} {f : List Int → M γ} (hn : noOl ρ) (hi : i < ρ.length) (hΦ : Φ H0) (mΦ : ∀ {A B : Hp}, Same A B → Φ A → Φ B) (he : ∀ H0' p, Φ H0' → Ev X H0' (ρ.set i (.rf p)) e (.int w)) (hz : lenLt t = true) (tt : ∀ t, ExMZ (liZ X.K pc) H0 i ρ t k rest D (f t)) (hN : X.N[i]? = some y := by rfl) (hv : Vis X.env.scope y := by first | exact Or.inl rfl | exact Or.inr (Or.inl rfl) | exact Or.inr (Or.inr rfl))
    (hd : (y == ("__debug__" : Str)) = false := by decide) (hcd : (y == ("__classdict__" : Str)) = false := by decide)
    (hpe : ∀ to t, PE X (.Name y p1) to → PA X [e] t → PE X (.Call (.Attribute (.Name y p1) "append" p2) [e] [] p3) (tBM X.K "list" rAppend to t) := by exact fun _ _ h g => pe_bm PySem.F.plainAttrs_list PySem.F.slot_list_append PySem.F.type_list_append mt_append h g)
    (hs1 : starEach [e] X.env = (false, eval e X.env) :: starEach [] X.env := by rfl) (hs : swapsWith (.Call (.Attribute (.Name y p1) "append" p2) [e] [] p3) none pos.line X.env = pure false := by rfl) :
    ExMZ (liZ X.K pc) H0 i ρ t k (.Expr (.Call (.Attribute (.Name y p1) "append" p2) [e] [] p3) pos :: rest) D (M.lt (t ++ [w]) f) := by
  refine xz_then (ρ1 := ρ) (t1 := t ++ [w]) (fun DD σ H N ⟨p, Hs, n, d, r⟩ kk => ?_) (tt _)
  obtain ⟨n1, n2⟩ := n
  have hsp : Hs p = some (.lst (t.map V.int)) := by rw [n1]; exact upd_same
  have hp : σ[i]? = some (some (V.ref p)) := r.rf i p (List.getElem?_set_self hi)
  have hn' : noOl (ρ.set i (.rf p)) := noOl_set hn
  refine ws_of (ps_expr (hpe _ _ (pv i hN hv hd hcd) (pa_cons pe_w pa_nil hs1)) hs) ⟨_, hp, .inl ⟨rfl, _, .inl (.inl (r.old p _ (un_some hsp)))⟩, (he _ p (mΦ (un_same d) hΦ) σ H N r).imp fun v H1 ⟨N1, s1, m1, r1, a1⟩ => ?_⟩
  have hw := at_int a1
  subst hw
  refine ⟨p, _, _, rfl, rfl, s1 _ _ (r.old p _ (un_some hsp)), by rw [List.length_map]; exact lenLt_ok hz, kk σ _ N1 m1 ?_⟩
  have r3 := r1.updS hn' (q := p) (o := .lst (t.map V.int ++ [V.int w])) True.intro (.inl ⟨_, hsp, True.intro⟩)
  refine ⟨p, _, ⟨?_, n2⟩, dj_upd (d p _ hsp) d, r3⟩
  rw [n1, List.map_append]
  funext b
  by_cases q : b = p
  · subst q; rw [upd_same, upd_same]; rfl
  · rw [upd_ne q, upd_ne q, upd_ne q]
/-- x[ix] = e -/
theorem xl_set {w u : Int} {t2 : List Int} {y : Str} {f : List Int → M γ} (hn : noOl ρ) (hi : i < ρ.length) (hΦ : Φ H0) (mΦ : ∀ {A B : Hp}, Same A B → Φ A → Φ B) (hix : ∀ H0' p, Φ H0' → Ev X H0' (ρ.set i (.rf p)) ix (.int u)) (he : ∀ H0' p, Φ H0' → Ev X H0' (ρ.set i (.rf p)) e (.int w)) (hj : setI t u w = some t2) (tt : ∀ t, ExMZ (liZ X.K pc) H0 i ρ t k rest D (f t)) (hN : X.N[i]? = some y := by rfl) (hv : Vis X.env.scope y := by first | exact Or.inl rfl | exact Or.inr (Or.inl rfl) | exact Or.inr (Or.inr rfl))
    (hd : (y == ("__debug__" : Str)) = false := by decide) (hcd : (y == ("__classdict__" : Str)) = false := by decide)
    (hp : ∀ te to ti, PE X e te → PE X (.Name y p1) to → PE X ix ti → PS X (.Assign [.Subscript (.Name y p1) ix p2] e pos) (tAsg te (gSub to ti rSetL)) := by exact fun te to ti h g f => ps_asg h (pg_sub g f set_list)) :
    ExMZ (liZ X.K pc) H0 i ρ t k (.Assign [.Subscript (.Name y p1) ix p2] e pos :: rest) D (M.lt t2 f) := by
  unfold setI at hj
  obtain ⟨j, hj1, hj2⟩ := Option.map_eq_some_iff.mp hj
  refine xz_then (ρ1 := ρ) (t1 := t2) (fun DD σ H N ⟨p, Hs, n, d, r⟩ kk => ?_) (tt _)
  obtain ⟨n1, n2⟩ := n
  have hsp : Hs p = some (.lst (t.map V.int)) := by rw [n1]; exact upd_same
  have hpp : σ[i]? = some (some (V.ref p)) := r.rf i p (List.getElem?_set_self hi)
  have hn' : noOl (ρ.set i (.rf p)) := noOl_set hn
  have hΦ' := mΦ (un_same d) hΦ
  refine ws_of (hp _ _ _ pe_w (pv i hN hv hd hcd) pe_w) ((he _ p hΦ' σ H N r).imp fun v H1 ⟨N1, s1, m1, r1, a1⟩ => ⟨_, hpp, (hix _ p hΦ' σ H1 N1 r1).imp fun x H2 ⟨N2, s2, m2, r2, a2⟩ => ?_⟩)
  have hw := at_int a1
  subst hw
  refine ⟨p, t.map V.int, u, j, rfl, at_int a2, r2.old p _ (un_some hsp), by rw [List.length_map]; exact hj1, kk σ _ N2 (m1.trans m2) ?_⟩
  have r4 := r2.updS hn' (q := p) (o := .lst ((t.map V.int).set j (V.int w))) True.intro (.inl ⟨_, hsp, True.intro⟩)
  refine ⟨p, _, ⟨?_, n2⟩, dj_upd (d p _ hsp) d, r4⟩
  rw [n1, ← hj2, List.map_set]
  funext b
  by_cases q : b = p
  · subst q; rw [upd_same, upd_same]
  · rw [upd_ne q, upd_ne q, upd_ne q]
end
/-! ### a list comprehension whose elements change the thing -/
noncomputable def compZ {α β τ : Type} (g : α → τ → M (β × τ)) : List α → τ → M (List β × τ)
  | [], t => .ok ([], t)
  | x :: xs, t => M.bind (g x t) fun q => M.bind (compZ g xs q.2) fun r => .ok (q.1 :: r.1, r.2)
theorem compZ_run {α β τ : Type} {g : α → τ → M (β × τ)} : ∀ {xs : List α} {t : τ} {ys : List β} {t' : τ}, compZ g xs t = .ok (ys, t') → ∃ ts : Nat → τ, ts 0 = t ∧ ts xs.length = t' ∧ ys.length = xs.length ∧ ∀ (j : Nat) (hj : j < xs.length) (hy : j < ys.length), g xs[j] (ts j) = .ok (ys[j], ts (j + 1))
  | [], t, ys, t', h => by
    cases h
    exact ⟨fun _ => t, rfl, rfl, rfl, fun j hj => by cases hj⟩
  | x :: xs, t, ys, t', h => by
    have h : M.bind (g x t) (fun q => M.bind (compZ g xs q.2) fun r => .ok (q.1 :: r.1, r.2)) = .ok (ys, t') := h
    cases e : g x t with
    | far => rw [e] at h; cases h
    | ex n => rw [e] at h; cases h
    | ok q =>
      rw [e, M.bind_ok] at h
      cases e2 : compZ g xs q.2 with
      | far => rw [e2] at h; cases h
      | ex n => rw [e2] at h; cases h
      | ok r =>
        rw [e2, M.bind_ok] at h
        cases h
        obtain ⟨ts, h1, h2, h3, h4⟩ := compZ_run (ys := r.1) (t' := r.2) e2
        refine ⟨fun j => match j with | 0 => t | j + 1 => ts j, rfl, h2, by rw [List.length_cons, List.length_cons, h3], fun j hj hy => ?_⟩
        cases j with
        | zero => show g x t = .ok (q.1, ts 0); rw [e, h1]
        | succ j => exact h4 j (by simpa using hj) (by simpa using hy)
section
variable {τ α β : Type} {X : Cx} {z : Zp X.K τ} {H0 : Hp} {i k : Nat} {Φ : Hp → Prop} {ρ : Env'} {t t' : τ} {e : Expr} {pos p6 p5 : Pos} {ds : List Dat}
def EvLZ (z : Zp X.K τ) (H0 : Hp) (i : Nat) (ρ : Env') (t : τ) (e : Expr) (gs : List Dat) (t' : τ) : Prop := ∀ σ H N, StZ z H0 i ρ t σ H N → WE X e σ H fun v H' => ∃ N' D acc, v = .ref D ∧ H' D = some (.lst acc) ∧ Same N N' ∧ StZ z H0 i ρ t' σ H' N' ∧ Ats X.K N' acc gs
theorem ez_comp {elt tg iter : Expr} {scope : Scope} {xn : Str} {gs : List Dat} (q : Nat) (ts : Nat → τ) (hc : X.calm = true) (nd : X.N.Nodup) (hn : noOl ρ) (hqi : q ≠ i) (hΦ : Φ H0) (mΦ : ∀ {A B : Hp}, Same A B → Φ A → Φ B) (hi : IterZ X Φ i ρ tg iter ds) (ok : blkC X.N X.env.scope scope [(xn, q)] = true) (hx : ρ[q]? = some .no)
    (htg : ∀ (s : Shared) (H : Hp) (C : Addr) (cl : List (Str × Addr)) (fp : List Addr), PG (X.blk s H scope (compEnvC scope cl C X.env) fp) tg (gName q)) (hgl : gs.length = ds.length)
    (hel : ∀ (H0' : Hp) (s : Shared) (H : Hp) (C : Addr) (cl : List (Str × Addr)) (fp : List Addr), Same H0 H0' → ∀ (j : Nat) (hj : j < ds.length) (hg : j < gs.length), EvZ (X := X.blk s H scope (compEnvC scope cl C X.env) fp) z H0' i (ρ.set q (.im ds[j])) (ts j) elt gs[j] (ts (j + 1)))
    (hz : ds.length < sizeLine) (hs : ∀ x, foldedSetIterable iter X.env x = pure x := by intro _; rfl) : EvLZ z H0 i ρ (ts 0) (.ListComp elt [⟨tg, iter, [], 0⟩] scope pos) gs (ts ds.length) := fun σ H N ⟨p0, Hs0, z0, d0, r0⟩ => by
  obtain ⟨wi, pi, hw⟩ := hi
  have pts : ∀ (s : Shared) (H : Hp) (C : Addr) (cl : List (Str × Addr)) (fp : List Addr), PTs (X.blk s H scope (compEnvC scope cl C X.env) fp) [] (fun σ H Q => Q true H) := fun s H C cl fp => ⟨fun pins s' σ H Q I h => pts_nil.run pins s' σ H Q I h⟩
  have pes : ∀ (s : Shared) (H : Hp) (C : Addr) (cl : List (Str × Addr)) (fp : List Addr), PE (X.blk s H scope (compEnvC scope cl C X.env) fp) elt
      (fun σ H Q => ∀ s H' C cl fp, WE (X.blk s H' scope (compEnvC scope cl C X.env) fp) elt σ H Q) := fun s H C cl fp => ⟨fun pins s' σ H Q I h => (h _ _ _ _ _).go pins s' I⟩
  refine we_of (pe_lc hc nd pi (blkOk_by ok) htg pts pes hs) (hw (Un H0 Hs0) p0 σ H N (mΦ (un_same d0) hΦ) r0 _ fun J H1 N1 n1 s1 r1 w => fun D hD => ?_)
  have hiσ : q < σ.length := by rw [← r0.len, List.length_set]; exact lt_of_get hx
  have hn' : ∀ p, noOl (ρ.set i (.rf p)) := fun p => noOl_set hn
  have hx' : ∀ p, (ρ.set i (.rf p))[q]? = some .no := fun p => by rw [List.getElem?_set_ne (Ne.symm hqi)]; exact hx
  have uD : Un H0 Hs0 D = none := r1.old.free hD
  obtain ⟨hs0D, h0D⟩ := un_none uD
  have np0 : ∀ (j : Nat) d, (ρ.set i (.rf p0))[j]? = some (Ent.ow d) → σ[j]? ≠ some (some (V.ref D)) := no_own r1 hD
  have np : ∀ p (j : Nat) d, (ρ.set i (.rf p))[j]? = some (Ent.ow d) → σ[j]? ≠ some (some (V.ref D)) := fun p j d h => by
    rcases get_set h with ⟨_, y⟩ | ⟨n, h⟩
    · cases y
    · exact np0 j d (by rw [List.getElem?_set_ne (Ne.symm n)]; exact h)
  refine ⟨fun j m H' => m = ds.length - j ∧ j ≤ ds.length ∧ ∃ N' acc p Hs, Same N1 N' ∧ z.Z (ts j) N' Hs p ∧ (∀ a u, Hs a = some u → H0 a = none) ∧ Hs D = none ∧ Rep X.K (Un H0 Hs) (ρ.set i (.rf p)) σ H' N' ∧ N' D = none ∧ H' D = some (.lst acc) ∧ Ats X.K N' acc (gs.take j),
    ⟨_, rfl, Nat.zero_le _, N1, [], p0, Hs0, Same.refl _, z.mono n1 z0, d0, hs0D, r1.grow (Same.of_none hD), r1.sub.free hD, upd_same, by rw [List.take_zero]; exact .nil⟩, ?_⟩
  rintro j m H' ⟨rfl, hj, N', acc, p, Hs, s', zz, dd, hsD, r', dN, dH, aa⟩
  have uD' : Un H0 Hs D = none := by unfold Un; rw [hsD]; exact h0D
  obtain ⟨wg, wst⟩ := w (Un H0 Hs) (upd (Un H0 Hs) D (.lst acc)) (ρ.set i (.rf p)) σ H' N' j (Same.of_none uD') s' (r'.toOld uD' dH dN (np p))
  by_cases hlt : j < ds.length
  · obtain ⟨go, yl⟩ := wg hlt
    refine .inr ⟨go, fun H' => ∃ N' acc p Hs, Same N1 N' ∧ z.Z (ts (j + 1)) N' Hs p ∧ (∀ a u, Hs a = some u → H0 a = none) ∧ Hs D = none ∧ Rep X.K (Un H0 Hs) (ρ.set i (.rf p)) σ H' N' ∧ N' D = none ∧ H' D = some (.lst acc) ∧ Ats X.K N' acc (gs.take (j + 1)), fun H2 q => ⟨_, by omega, rfl, hlt, q⟩, fun x H2 y => ?_⟩
    obtain ⟨N2, d, n2, e2, r2, e3, a2⟩ := yl x H2 y
    have ed : d = ds[j] := by
      rw [List.getElem?_eq_getElem hlt] at e3
      exact (Option.some.inj e3).symm
    subst ed
    have dH2 : H2 D = some (.lst acc) := e2 _ _ dH
    have d0' : Same H0 (upd H0 D (.lst acc)) := Same.of_none h0D
    have hg : j < gs.length := by rw [hgl]; exact hlt
    rw [← un_upd0 hsD] at r2
    have rs := r2.setE (i := q) (v := x) (e := .im ds[j]) a2
    rw [List.set_comm _ _ (Ne.symm hqi)] at rs
    have ws : (wipe σ [q]).set q (some x) = σ.set q (some x) := by show (σ.set q none).set q (some x) = _; rw [List.set_set]
    show wipe ((wipe σ [q]).set q (some x)) [q] = wipe σ [q] ∧ _
    refine ⟨by rw [ws]; show (σ.set q (some x)).set q none = σ.set q none; rw [List.set_set], ?_⟩
    rw [show (wipe σ (List.map (fun (x : Str × Nat) => x.snd) [(xn, q)])).set q (some x) = σ.set q (some x) from ws]
    refine iteT fun s H5 C cl fp => ?_
    refine (hel _ s H5 C cl fp d0' j hlt hg _ _ _ ⟨p, Hs, z.mono n2 zz, fun a u h => ?_, rs⟩).imp fun v H4 ⟨N4, n4, ⟨p4, Hs4, z4, d4, r4⟩, a4⟩ => ?_
    · by_cases c : a = D
      · subst c; rw [hsD] at h; cases h
      · rw [upd_ne c]; exact dd a u h
    · have hs4D : Hs4 D = none := by
        cases q : Hs4 D with
        | none => rfl
        | some u => have := d4 D u q; rw [upd_same] at this; cases this
      have d4' : ∀ a u, Hs4 a = some u → H0 a = none := fun a u h => by
        have := d4 a u h
        rw [upd_ne (fun c => by rw [c, hs4D] at h; cases h)] at this
        exact this
      rw [un_upd0 hs4D] at r4
      have q4 : H4 D = some (.lst acc) := r4.old _ _ upd_same
      have nD4 : N4 D = none := r4.notD
      have u4 : Un H0 Hs4 D = none := by unfold Un; rw [hs4D]; exact h0D
      rw [List.set_comm _ _ hqi] at r4
      have r5 := Rep.backZ (hn' p4) (hx' p4) (Same.of_none u4) r4
      refine ⟨acc, q4, ?_, N4, acc ++ [v], p4, Hs4, (s'.trans n2).trans n4, z4, d4', hs4D, r5.updD u4 nD4 (np p4), nD4, upd_same, ?_⟩
      · rw [aa.length, List.length_take]
        omega
      · rw [show gs.take (j + 1) = gs.take j ++ [gs[j]] by rw [List.take_succ, List.getElem?_eq_getElem hg]; rfl]
        exact ((aa.mono n2).mono n4).append (.cons a4 .nil)
  · have e1 : j = ds.length := by omega
    subst e1
    rw [← hgl, List.take_length] at aa
    exact .inl ⟨wst rfl, N', D, acc, rfl, dH, n1.trans s', ⟨p, Hs, zz, dd, r'⟩, aa⟩
/-- tuple([..]) -/
theorem evmz_tupC {ea : α → Dat} {eb : β → Dat} {xs : List α} {g : α → τ → M (β × τ)} {elt tg iter : Expr} {scope : Scope} {xn : Str} (q : Nat) (hc : X.calm = true) (nd : X.N.Nodup) (hn : noOl ρ) (hqi : q ≠ i) (hΦ : Φ H0) (mΦ : ∀ {A B : Hp}, Same A B → Φ A → Φ B) (hi : IterZ X Φ i ρ tg iter (xs.map ea)) (ok : blkC X.N X.env.scope scope [(xn, q)] = true) (hx : ρ[q]? = some .no)
    (htg : ∀ (s : Shared) (H : Hp) (C : Addr) (cl : List (Str × Addr)) (fp : List Addr), PG (X.blk s H scope (compEnvC scope cl C X.env) fp) tg (gName q))
    (hel : ∀ (H0' : Hp) (s : Shared) (H : Hp) (C : Addr) (cl : List (Str × Addr)) (fp : List Addr), Same H0 H0' → ∀ x t, EvMZ (X := X.blk s H scope (compEnvC scope cl C X.env) fp) z H0' i (ρ.set q (.im (ea x))) t elt eb (g x t))
    (hz : lenLt xs = true) (hg : Gl X "tuple") (hm : X.mg "tuple" = none) (na : starEach [Expr.ListComp elt [⟨tg, iter, [], 0⟩] scope pos] X.env = (false, eval (.ListComp elt [⟨tg, iter, [], 0⟩] scope pos) X.env) :: starEach [] X.env := by rfl) (hs : ∀ x, foldedSetIterable iter X.env x = pure x := by intro _; rfl) :
    EvMZ z H0 i ρ t (.Call (.Name "tuple" p5) [.ListComp elt [⟨tg, iter, [], 0⟩] scope pos] [] p6) (tpnd eb) (M.nox (compZ g xs t)) := by
  cases e : compZ g xs t with
  | far => trivial
  | ex n => trivial
  | ok v =>
    obtain ⟨ys, t'⟩ := v
    obtain ⟨ts, h1, h2, h3, h4⟩ := compZ_run e
    intro σ H N st
    have hl : (ys.map eb).length = (xs.map ea).length := by rw [List.length_map, List.length_map, h3]
    have key : EvLZ z H0 i ρ (ts 0) (.ListComp elt [⟨tg, iter, [], 0⟩] scope pos) (ys.map eb) (ts (xs.map ea).length) := ez_comp (Φ := Φ) q ts hc nd hn hqi hΦ mΦ hi ok hx htg hl (fun H0' s H C cl fp sm j hj hg => by
      have hjx : j < xs.length := by simpa using hj
      have hjy : j < ys.length := by simpa using hg
      have hh := hel H0' s H C cl fp sm xs[j] (ts j)
      rw [h4 j hjx hjy] at hh
      rw [List.getElem_map, List.getElem_map]
      exact hh) (by rw [List.length_map]; exact lenLt_ok hz) hs
    rw [h1, List.length_map, h2] at key
    refine we_of (pe_tupleOf hg hm pe_w na) ((key σ H N st).imp fun v H' ⟨N', D, acc, e1, e2, n1, ⟨p, Hs, z1, d1, r1⟩, a1⟩ => ?_)
    refine .inl ⟨D, acc, e1, .inl (.inl e2), fun tq ht => ?_⟩
    obtain ⟨r2, n2⟩ := r1.new (o := .tup acc) ht
    exact ⟨_, n1.trans n2, ⟨p, Hs, z.mono n2 z1, d1, r2⟩, .tup (.inl (.inl upd_same)) (a1.mono n2)⟩
end
end B

namespace B
open PySem PySem.Spec PyProof.Rows L2
/-! ### a def that changes a list, handed a new one -/
section
variable {α : Type} {X : Cx} {H0 : Hp} {ρ : Env'} {e : Expr} {es : List Expr} {p pos : Pos} {d : Dat} {ds : List Dat} {x : Str} {k ia : Nat} {R : List Int → List Dat → ResZ (List Int) → Prop}
inductive ArgN (X : Cx) (H0 : Hp) (ρ : Env') : Nat → List Expr → List Dat → Prop where
  | here {p1 : Pos} (hs : starEach [.List [] p1] X.env = (false, eval (.List [] p1) X.env) :: starEach [] X.env := by rfl) : ArgN X H0 ρ 0 [.List [] p1] []
  | next {ia : Nat} {e : Expr} {d : Dat} {es : List Expr} {ds : List Dat} (h : Ev X H0 ρ e d) (r : ArgN X H0 ρ ia es ds) (hs : starEach (e :: es) X.env = (false, eval e X.env) :: starEach es X.env := by rfl) : ArgN X H0 ρ (ia + 1) (e :: es) (d :: ds)
theorem ArgN.run : ∀ {ia : Nat} {es : List Expr} {ds : List Dat}, ArgN X H0 ρ ia es ds → ∀ σ H N, Rep X.K H0 ρ σ H N → WA X es σ H fun vs H' => ∃ N' H1 q, H1 q = none ∧ H' = upd H1 q (.lst []) ∧ Same H H1 ∧ Same N N' ∧ Rep X.K H0 ρ σ H1 N' ∧ AtsZ X.K N' q ia vs ds
  | _, _, _, .here hs, σ, H, N, r => wa_of (pa_cons (pe_lst pa_nil) pa_nil hs) ⟨Nat.zero_le _, fun q hq => ⟨N, H, q, hq, rfl, Same.refl _, Same.refl _, r, .here .nil⟩⟩
  | _, _, _, .next h t hs, σ, H, N, r => wa_of (pa_cons pe_w pa_w hs) ((h σ H N r).imp fun v H1 ⟨N1, s1, n1, r1, a1⟩ => (ArgN.run t σ H1 N1 r1).imp fun vs H2 ⟨N2, H3, q, z1, z2, s2, n2, r2, a2⟩ => ⟨N2, H3, q, z1, z2, s1.trans s2, n1.trans n2, r2, .next (a1.mono n2) a2⟩)
theorem ev_callN {d : Dat} {t' : List Int} (G : GFnZ X.prog X.w X.K X.mg X.base x k (liF X.K) ia R) (hr : Room k X.A) (ha : ArgN X H0 ρ ia (e :: es) ds) (q : R [] ds (.val d t')) (hg : Gl X x := by rfl) (hdb : (x == ("__debug__" : Str)) = false := by decide)
    (he : starEach (e :: es) X.env = (false, eval e X.env) :: starEach es X.env := by rfl) (hpl : (backTo pos (starEach es X.env)).any (·.1) = false := by rfl) : Ev X H0 ρ (.Call (.Name x p) (e :: es) [] pos) d := fun σ H N r => by
  obtain ⟨f, fd, ps, FF, hm, hk, hb⟩ := G
  refine we_of (pe_callS FF hr hg hm hk hb (fun σ => passAt takes0 σ) pa_w hdb he hpl) ((ha.run σ H N r).imp fun vs H2 ⟨N1, H1, q0, hq, e2, s1, n1, r1, a1⟩ => ?_)
  subst e2
  have rst : Rst (upd H1 q0 (.lst [])) (upd (fun _ => none) q0 (.lst [])) = H1 := funext fun b => by
    by_cases c : b = q0
    · subst c; unfold Rst; rw [upd_same, hq]
    · rw [rst_none (by rw [upd_ne c]), upd_ne c]
  refine ⟨q0, [], ds, _, upd (fun _ => none) q0 (.lst []), q, ⟨rfl, trivial⟩, fun b u z => ?_, by rw [rst]; exact a1.mono r1.sub, fun v H' Hs' c1 c2 c3 c4 c5 => ?_⟩
  · by_cases c : b = q0
    · subst c; rw [upd_same] at z ⊢; exact z
    · rw [upd_ne c] at z; cases z
  · rw [rst] at c1
    have sH : Same H1 H' := c1.trans (rst_same _ _)
    obtain ⟨N2, n2, r2, k2⟩ := (r1.grow sH).keep
    exact ⟨N2, s1.trans sH, n1.trans n2, r2, c5.mono k2⟩
theorem evm_callN {en : α → Dat} {m : M (α × List Int)} (G : GFnZ X.prog X.w X.K X.mg X.base x k (liF X.K) ia R) (hr : Room k X.A) (ha : ArgN X H0 ρ ia (e :: es) ds) (q : ∀ o, RmZn en m o → R [] ds o) (hg : Gl X x := by rfl) (hdb : (x == ("__debug__" : Str)) = false := by decide)
    (he : starEach (e :: es) X.env = (false, eval e X.env) :: starEach es X.env := by rfl) (hpl : (backTo pos (starEach es X.env)).any (·.1) = false := by rfl) : EvM X H0 ρ (.Call (.Name x p) (e :: es) [] pos) en (M.bind (M.nox m) fun v => .ok v.1) := by
  cases m with
  | ok v => exact ev_callN G hr ha (q _ rfl) hg hdb he hpl
  | ex n => trivial
  | far => trivial
end
/-! ### a dict of lists of ints of one's own, one of these by a name too -/
abbrev NsT := List (List Nat × List Int) × Option (List Nat × Addr)
theorem Rws.anyN {K : PySem.W.Frag} {N N' Hs : Hp} {T : List (List Nat × List Int)} {qs : List Addr} {kvs : List (Key × V)} (h : Rws K N Hs Dat.int T qs kvs) : Rws K N' Hs Dat.int T qs kvs := by
  induction h with
  | nil => exact .nil
  | @cons k l T q qs ws kvs e b _ ih => exact .cons e (by rw [Ats.ints b]; exact Ats.ofInts l) ih
def nsZ (K : PySem.W.Frag) (pc : Addr → Prop) : Zp K NsT where
  Z := fun t N Hs p => (∃ qs kvs, Nst K N Hs p Dat.int t.1 qs kvs ∧ ∀ key b, t.2 = some (key, b) → valV kvs (Sum.inr (SX.S key) : Key) = some (.ref b)) ∧ pc p
  en := fun t => dicd (lstd Dat.int) t.1
  mono := fun s ⟨⟨qs, kvs, n, h⟩, c⟩ => ⟨⟨qs, kvs, n.mono s, h⟩, c⟩
  mu := fun ⟨⟨_, _, n, _⟩, _⟩ e => n.mut e
  at_ := fun ⟨⟨_, _, n, _⟩, _⟩ s g => .dic (.inl (g _ _ n.top)) (n.r.atk2 s g)
def nsF (K : PySem.W.Frag) : Zf K NsT where
  z := nsZ K
  fl := fun _ => True
  root := fun ⟨h, _⟩ hp => ⟨h, hp⟩
  pc := fun h => h.2
  im := fun _ ⟨⟨qs, kvs, n, h⟩, c⟩ => ⟨⟨qs, kvs, ⟨n.r.anyN, n.top, n.nd, n.dom⟩, h⟩, c⟩
theorem Rws.row {K : PySem.W.Frag} {N Hs : Hp} {T : List (List Nat × List Int)} {qs : List Addr} {kvs : List (Key × V)} {key : List Nat} {b : Addr} {l : List Int} (h : Rws K N Hs Dat.int T qs kvs) (hq : qs.Nodup) (hl : dget T key = some l) (hb : valV kvs (Sum.inr (SX.S key) : Key) = some (.ref b)) :
    b ∈ qs ∧ Hs b = some (.lst (l.map V.int)) ∧ ∀ l', Rws K N (upd Hs b (.lst (l'.map V.int))) Dat.int (dset T key l') qs kvs := by
  obtain ⟨q, ws, m1, m2, m3, m4, m5⟩ := h.at_ hq hl
  rw [hb] at m4
  cases m4
  rw [Ats.ints m3] at m2
  exact ⟨m1, m2, fun l' => m5 N _ l' (Same.refl _) (Ats.ofInts l')⟩
def nsPut (T : List (List Nat × List Int)) (key : List Nat) (l : List Int) : List (List Nat × List Int) := if dhas T key = true then T else T ++ [(key, l)]
section
variable {β γ : Type} {X : Cx} {pc : Addr → Prop} {H0 : Hp} {i k : Nat} {Φ : Hp → Prop} {ρ ρ1 : Env'} {T : List (List Nat × List Int)} {st : Stmt} {sts rest : List Stmt} {a b c e ix : Expr} {p1 p2 p3 p4 pos : Pos} {D : γ → OcZ NsT}
/-- some = {} -/
theorem xn_start {y : Str} {eR : γ → Dat} {m : M γ} (hn : noOl ρ) (h0 : ρ[i]? = some .no) (h : ExMZ (nsZ X.K fun _ => True) H0 i ρ ([], none) k rest (fun r => .rt (eR r)) m) (nd : X.N.Nodup) (hi : X.N[i]? = some y := by rfl) (hx : Loc X.env.scope y := by first | exact Or.inl rfl | exact Or.inr rfl)
    (hs : swapsWith (.Dict [] [] p2) (some (.Name y p3)) pos.line X.env = pure false := by rfl) (hf : X.fn y = true ∨ X.env.scope.names.lookup y = some .local := by first | exact .inl rfl | exact .inr rfl | assumption) :
    ExM X H0 ρ k (.Assign [.Name y p3] (.Dict [] [] p2) pos :: rest) (fun r => .rt (eR r)) m := by
  have go : ∀ {o : OcZ NsT} {o' : Outc}, ExecZ (nsZ X.K fun _ => True) H0 i ρ ([], none) rest o → (∀ N DD, Cont X H0 N DD o' → ContZ (nsZ X.K fun _ => True) H0 i N DD o) → Exec X H0 ρ (.Assign [.Name y p3] (.Dict [] [] p2) pos :: rest) o' := fun {o o'} hh hc DD σ H N r cc => by
    refine wb_of (pss_cons (ps_set nd hi hx pe_dnewK hs hf) pb_w) fun p hp => ?_
    have r0 : Rep X.K (Un H0 (fun _ => none)) ρ σ H N := r
    have r1 := r0.updS hn (q := p) (o := .dK []) True.intro (.inr ⟨r.sub.free hp, fun j d' e => no_own r hp j d' e⟩)
    have r3 := r1.setE (i := i) (v := .ref p) (e := .rf p) rfl
    exact hh DD _ _ N ⟨p, _, ⟨⟨[], [], ⟨.nil, upd_same, by simp, fun a u z => by
      by_cases c : a = p
      · subst c; exact List.mem_cons_self
      · rw [upd_ne c] at z; cases z⟩, fun key b z => by cases z⟩, trivial⟩, dj_upd (r.old.free hp) none_all, r3⟩ (hc N DD cc)
  cases m with
  | ok r => exact go h fun N DD c => c
  | ex n => exact go h fun N DD c => c
  | far => trivial
/-- row = some.setdefault(key, [..]) -/
theorem xn_setd {l : List Int} {key : List Nat} {y z : Str} {apos cpos : Pos} {f : List (List Nat × List Int) → M γ} (j : Nat) (hn : noOl ρ) (hi : i < ρ.length) (hij : j ≠ i) (hΦ : Φ H0) (mΦ : ∀ {A B : Hp}, Same A B → Φ A → Φ B) (ha : ∀ H0' p, Φ H0' → Ev X H0' (ρ.set i (.rf p)) a (tx key)) (hc : ∀ H0' p, Φ H0' → EvO X H0' (ρ.set i (.rf p)) c (lstd Dat.int l)) (hz : lenLt T = true) (nd : X.N.Nodup)
    (tt : ∀ T b, ExMZ (nsZ X.K pc) H0 i (ρ.set j (.rf b)) (T, some (key, b)) k rest D (f T)) (hN : X.N[i]? = some y := by rfl) (hv : Vis X.env.scope y := by first | exact Or.inl rfl | exact Or.inr (Or.inl rfl) | exact Or.inr (Or.inr rfl)) (hd : (y == ("__debug__" : Str)) = false := by decide) (hcd : (y == ("__classdict__" : Str)) = false := by decide)
    (hm : M2 X (.Name y p1) "setdefault" apos a c cpos := by exact ⟨rfl, rfl, rfl, rfl⟩) (hj : X.N[j]? = some z := by rfl) (hx : Loc X.env.scope z := by first | exact Or.inl rfl | exact Or.inr rfl)
    (hs : swapsWith (.Call (.Attribute (.Name y p1) "setdefault" apos) [a, c] [] cpos) (some (.Name z p3)) pos.line X.env = pure false := by rfl) (hf : X.fn z = true ∨ X.env.scope.names.lookup z = some .local := by first | exact .inl rfl | exact .inr rfl | assumption) :
    ExMZ (nsZ X.K pc) H0 i ρ (T, none) k (.Assign [.Name z p3] (.Call (.Attribute (.Name y p1) "setdefault" apos) [a, c] [] cpos) pos :: rest) D (M.lt (nsPut T key l) f) := by
  show ExMZ (nsZ X.K pc) H0 i ρ (T, none) k (_ :: rest) D (f (nsPut T key l))
  have main : ∀ DD σ H N, StZ (nsZ X.K pc) H0 i ρ (T, none) σ H N → (∀ b σ' H' N', Same N N' → StZ (nsZ X.K pc) H0 i (ρ.set j (.rf b)) (nsPut T key l, some (key, b)) σ' H' N' → DD.nx σ' H') → WS X (.Assign [.Name z p3] (.Call (.Attribute (.Name y p1) "setdefault" apos) [a, c] [] cpos) pos) DD σ H := fun DD σ H N ⟨p, Hs, ⟨⟨qs, kvs, n, _⟩, hpc⟩, d, r⟩ kk => by
    have hp : σ[i]? = some (some (V.ref p)) := r.rf i p (List.getElem?_set_self hi)
    have hn' : noOl (ρ.set i (.rf p)) := noOl_set hn
    have hΦ' := mΦ (un_same d) hΦ
    refine ws_of (ps_set nd hj hx (pe_dsetd (pv i hN hv hd hcd) pe_w pe_w hm) hs hf) ⟨_, hp, p, rfl, .inl ⟨kvs, .inl (r.old p _ (un_some n.top))⟩, (ha _ p hΦ' σ H N r).imp fun v H1 ⟨N1, s1, n1, r1, a1⟩ => (hc _ p hΦ' σ H1 N1 r1).imp fun w H2 ⟨N2, q, e1, hq, s2, n2, r2, nq, ws, w1, w2⟩ => ?_⟩
    have h5 := at_str a1
    subst h5
    subst e1
    have uq : Un H0 Hs q = none := by
      cases z : Un H0 Hs q with
      | none => rfl
      | some u => rw [r1.old q u z] at hq; cases hq
    obtain ⟨hsq, h0q⟩ := un_none uq
    have notin := nst_noq n hsq
    have npq : p ≠ q := fun z => notin (by rw [← z]; exact List.mem_cons_self)
    have top2 : H2 p = some (.dK kvs) := r2.old p _ (un_some n.top)
    refine ⟨kvs, Sum.inr (SX.S key), top2, rfl, by rw [n.r.len]; exact lenLt_ok hz, fun v hv => ?_, fun hv => ?_⟩
    · -- it stands there
      have hh : dhas T key = true := by
        cases q : dget T key with
        | some l => show (dget T key).isSome = true; rw [q]; rfl
        | none =>
          exfalso
          have : ∀ {T : List (List Nat × List Int)} {qs : List Addr} {kvs : List (Key × V)}, Rws X.K N Hs Dat.int T qs kvs → dget T key = none → valV kvs (Sum.inr (SX.S key) : Key) = none := by
            intro T qs kvs h
            induction h with
            | nil => intro _; rfl
            | @cons k' l0 T q qs ws kvs e b h ih =>
              intro hg
              rw [dget_cons] at hg
              by_cases c : k' = key
              · rw [if_pos c] at hg; cases hg
              · rw [if_neg c] at hg
                have ne : ¬ ((Sum.inr (SX.S k') : Key) = Sum.inr (SX.S key)) := fun z => c (SX.S_inj (Sum.inr.inj z))
                rw [valV_neg ne]
                exact ih hg
          rw [this n.r q] at hv
          cases hv
      obtain ⟨l0, hl0⟩ := Option.isSome_iff_exists.mp (show (dget T key).isSome = true from hh)
      obtain ⟨q1, ws1, m1, m2, m3, m4, m5⟩ := n.r.at_ (List.nodup_cons.mp n.nd).2 hl0
      rw [hv] at m4
      cases m4
      have rr := r2.setE (i := j) (v := .ref q1) (e := .rf q1) rfl
      rw [List.set_comm _ _ (Ne.symm hij)] at rr
      have hput : nsPut T key l = T := by unfold nsPut; rw [if_pos hh]
      rw [hput] at kk
      exact kk q1 _ _ N2 (n1.trans n2) ⟨p, Hs, ⟨⟨qs, kvs, n.mono (n1.trans n2), fun key' b' z => by cases z; exact hv⟩, hpc⟩, d, rr⟩
    · -- it comes to it
      have hh : ¬ dhas T key = true := fun hh => by
        obtain ⟨l0, hl0⟩ := Option.isSome_iff_exists.mp (show (dget T key).isSome = true from hh)
        obtain ⟨q1, ws1, m1, m2, m3, m4, m5⟩ := n.r.at_ (List.nodup_cons.mp n.nd).2 hl0
        rw [hv] at m4
        cases m4
      have hput : nsPut T key l = T ++ [(key, l)] := by unfold nsPut; rw [if_neg hh]
      rw [hput] at kk
      have any0 : (kvs.any fun kv => decide (kv.1 = (Sum.inr (SX.S key) : Key))) = false := by
        cases z : (kvs.any fun kv => decide (kv.1 = (Sum.inr (SX.S key) : Key))) with
        | false => rfl
        | true =>
          exfalso
          have : ∀ kvs : List (Key × V), (kvs.any fun kv => decide (kv.1 = (Sum.inr (SX.S key) : Key))) = true → valV kvs (Sum.inr (SX.S key) : Key) ≠ none := by
            intro kvs
            induction kvs with
            | nil => intro h; cases h
            | cons kv kvs ih =>
              intro h
              obtain ⟨k1, v1⟩ := kv
              by_cases c : k1 = (Sum.inr (SX.S key) : Key)
              · rw [valV_pos c]; simp
              · rw [valV_neg c]
                rw [List.any_cons, decide_eq_false c, Bool.false_or] at h
                exact ih h
          exact this kvs z hv
      have hputK : putK kvs (Sum.inr (SX.S key) : Key) (V.ref q) = kvs ++ [((Sum.inr (SX.S key) : Key), V.ref q)] := by
        unfold putK
        rw [any0, if_neg (by decide)]
      rw [hputK]
      have r3 := r2.updS hn' (q := q) (o := .lst ws) True.intro (.inr ⟨nq, fun j d' e => no_own r1 hq j d' e⟩)
      rw [upd_id w1] at r3
      have r4 := r3.updS hn' (q := p) (o := .dK (kvs ++ [((Sum.inr (SX.S key) : Key), V.ref q)])) True.intro (.inl ⟨.dK kvs, by rw [upd_ne npq]; exact n.top, True.intro⟩)
      have rr := r4.setE (i := j) (v := .ref q) (e := .rf q) rfl
      rw [List.set_comm _ _ (Ne.symm hij)] at rr
      rw [List.mem_cons, not_or] at notin
      have pq : p ∉ qs := (List.nodup_cons.mp n.nd).1
      refine kk q _ _ N2 (n1.trans n2) ⟨p, _, ⟨⟨qs ++ [q], _, ⟨?_, upd_same, ?_, fun a u z => ?_⟩, fun key' b' z => ?_⟩, hpc⟩, dj_upd (d p _ n.top) (dj_upd h0q d), rr⟩
      · refine Rws.updH (Rws.snoc (q := q) (ws := ws) upd_same w2 ((n.r.mono (n1.trans n2)).updH notin.2)) ?_
        rw [List.mem_append, not_or]
        exact ⟨pq, fun m => notin.1 (List.mem_singleton.mp m).symm⟩
      · rw [show p :: (qs ++ [q]) = (p :: qs) ++ [q] from rfl, List.nodup_append]
        refine ⟨n.nd, by simp, fun a ha b hb z => ?_⟩
        rw [List.mem_singleton.mp hb] at z
        subst z
        rcases List.mem_cons.mp ha with m | m
        · exact notin.1 m
        · exact notin.2 m
      · by_cases c : a = p
        · subst c; exact List.mem_cons_self
        · rw [upd_ne c] at z
          by_cases c2 : a = q
          · subst c2; simp
          · rw [upd_ne c2] at z
            rcases List.mem_cons.mp (n.dom a u z) with m | m
            · exact absurd m c
            · exact List.mem_cons_of_mem _ (List.mem_append_left _ m)
      · cases z
        have : ∀ kvs : List (Key × V), valV kvs (Sum.inr (SX.S key) : Key) = none → valV (kvs ++ [((Sum.inr (SX.S key) : Key), V.ref q)]) (Sum.inr (SX.S key) : Key) = some (V.ref q) := by
          intro kvs
          induction kvs with
          | nil => intro _; exact valV_pos rfl
          | cons kv kvs ih =>
            intro h
            obtain ⟨k1, v1⟩ := kv
            by_cases c : k1 = (Sum.inr (SX.S key) : Key)
            · rw [valV_pos c] at h; cases h
            · rw [valV_neg c] at h
              rw [List.cons_append, valV_neg c]
              exact ih h
        exact this kvs hv
  cases e : f (nsPut T key l) with
  | far => trivial
  | ok v =>
    have h2 := fun b => tt (nsPut T key l) b
    rw [e] at h2
    exact fun DD σ H N st cc => wb_of (pss_cons ps_w pb_w) (main { DD with nx := WB X rest DD } σ H N st fun b σ' H' N' s st' => h2 b DD σ' H' N' st' (cc.mono s))
  | ex n =>
    have h2 := fun b => tt (nsPut T key l) b
    rw [e] at h2
    exact fun DD σ H N st cc => wb_of (pss_cons ps_w pb_w) (main { DD with nx := WB X rest DD } σ H N st fun b σ' H' N' s st' => h2 b DD σ' H' N' st' (ContZ.mono (o := .ex n _) cc s))
/-- a statement that reads the list by its name -/
theorem xn_one {l : List Int} {key : List Nat} {bb : Addr} {m : M β} {f : β → M γ} (eS : β → Env') (hΦ : Φ H0) (mΦ : ∀ {A B : Hp}, Same A B → Φ A → Φ B) (hl : dget T key = some l) (h : ∀ H0' p, Φ H0' → At X.K H0' (.ref bb) (lstd Dat.int l) → ExM X H0' (ρ.set i (.rf p)) k [st] (fun r => .nx ((eS r).set i (.rf p))) m) (tt : ∀ r, ExMZ (nsZ X.K pc) H0 i (eS r) (T, some (key, bb)) k rest D (f r)) :
    ExMZ (nsZ X.K pc) H0 i ρ (T, some (key, bb)) k (st :: rest) D (M.bind m f) := by
  have row : ∀ {N Hs : Hp} {p : Addr}, (nsZ X.K pc).Z (T, some (key, bb)) N Hs p → At X.K (Un H0 Hs) (.ref bb) (lstd Dat.int l) := fun {N Hs p} ⟨⟨qs, kvs, n, hb⟩, _⟩ => by
    obtain ⟨_, m2, _⟩ := n.r.row (List.nodup_cons.mp n.nd).2 hl (hb _ _ rfl)
    exact .lst (.inl (.inl (un_some m2))) (Ats.ofInts l)
  cases m with
  | ok r => exact xz_then (ρ1 := eS r) (t1 := (T, some (key, bb))) (fun DD σ H N ⟨p, Hs, n, d, rp⟩ c => ws_one (h (Un H0 Hs) p (mΦ (un_same d) hΦ) (row n) DD σ H N rp fun σ' H' N' s r' => c σ' H' N' s ⟨p, Hs, (nsZ X.K pc).mono s n, d, r'⟩)) (tt r)
  | ex n => exact ez_ex (fun DD σ H N ⟨p, Hs, nn, d, rp⟩ ⟨W, tk, c⟩ => ws_one (h (Un H0 Hs) p (mΦ (un_same d) hΦ) (row nn) DD σ H N rp ⟨W, tk, fun C σ' H' N' m s r' => c C σ' H' N' m s (r'.low2 d (noOl_no k))⟩))
  | far => trivial
/-- row[ix] = e -/
theorem xn_set {l l2 : List Int} {key : List Nat} {bb : Addr} {u w : Int} {z : Str} {f : List (List Nat × List Int) → M γ} (j : Nat) (hn : noOl ρ) (hij : j ≠ i) (hρ : ρ[j]? = some (.rf bb)) (hΦ : Φ H0) (mΦ : ∀ {A B : Hp}, Same A B → Φ A → Φ B) (hl : dget T key = some l) (hix : ∀ H0' p, Φ H0' → At X.K H0' (.ref bb) (lstd Dat.int l) → Ev X H0' (ρ.set i (.rf p)) ix (.int u)) (he : ∀ H0' p, Φ H0' → At X.K H0' (.ref bb) (lstd Dat.int l) → Ev X H0' (ρ.set i (.rf p)) e (.int w)) (hl2 : setI l u w = some l2)
    (tt : ∀ T, ExMZ (nsZ X.K pc) H0 i ρ (T, some (key, bb)) k rest D (f T)) (hN : X.N[j]? = some z := by rfl) (hv : Vis X.env.scope z := by first | exact Or.inl rfl | exact Or.inr (Or.inl rfl) | exact Or.inr (Or.inr rfl))
    (hd : (z == ("__debug__" : Str)) = false := by decide) (hcd : (z == ("__classdict__" : Str)) = false := by decide)
    (hp : ∀ te to ti, PE X e te → PE X (.Name z p1) to → PE X ix ti → PS X (.Assign [.Subscript (.Name z p1) ix p2] e pos) (tAsg te (gSub to ti rSetL)) := by exact fun te to ti h g f => ps_asg h (pg_sub g f set_list)) :
    ExMZ (nsZ X.K pc) H0 i ρ (T, some (key, bb)) k (.Assign [.Subscript (.Name z p1) ix p2] e pos :: rest) D (M.lt (dset T key l2) f) := by
  unfold setI at hl2
  obtain ⟨jj, hj1, hj2⟩ := Option.map_eq_some_iff.mp hl2
  refine xz_then (ρ1 := ρ) (t1 := (dset T key l2, some (key, bb))) (fun DD σ H N ⟨p, Hs, ⟨⟨qs, kvs, n, hb⟩, hpc⟩, d, r⟩ kk => ?_) (tt _)
  obtain ⟨m1, m2, m5⟩ := n.r.row (List.nodup_cons.mp n.nd).2 hl (hb _ _ rfl)
  have hn' : noOl (ρ.set i (.rf p)) := noOl_set hn
  have hΦ' := mΦ (un_same d) hΦ
  have row : At X.K (Un H0 Hs) (.ref bb) (lstd Dat.int l) := .lst (.inl (.inl (un_some m2))) (Ats.ofInts l)
  have hjj : σ[j]? = some (some (V.ref bb)) := r.rf j bb (by rw [List.getElem?_set_ne (Ne.symm hij)]; exact hρ)
  refine ws_of (hp _ _ _ pe_w (pv j hN hv hd hcd) pe_w) ((he _ p hΦ' row σ H N r).imp fun v H1 ⟨N1, s1, n1, r1, a1⟩ => ⟨_, hjj, (hix _ p hΦ' row σ H1 N1 r1).imp fun x H2 ⟨N2, s2, n2, r2, a2⟩ => ?_⟩)
  have hw := at_int a1
  subst hw
  refine ⟨bb, l.map V.int, u, jj, rfl, at_int a2, r2.old bb _ (un_some m2), by rw [List.length_map]; exact hj1, kk σ _ N2 (n1.trans n2) ?_⟩
  have r4 := r2.updS hn' (q := bb) (o := .lst ((l.map V.int).set jj (V.int w))) True.intro (.inl ⟨_, m2, True.intro⟩)
  have pb : p ≠ bb := fun z => (List.nodup_cons.mp n.nd).1 (z ▸ m1)
  have e3 : (l.map V.int).set jj (V.int w) = l2.map V.int := by rw [← hj2, List.map_set]
  rw [e3] at r4 ⊢
  refine ⟨p, _, ⟨⟨qs, kvs, ⟨(m5 l2).mono (n1.trans n2), by rw [upd_ne pb]; exact n.top, n.nd, fun a u z => ?_⟩, hb⟩, hpc⟩, dj_upd (d bb _ m2) d, r4⟩
  by_cases c : a = bb
  · subst c; exact List.mem_cons_of_mem _ m1
  · rw [upd_ne c] at z; exact n.dom a u z
/-- its name is asked no more -/
theorem xn_weak {o : Option (List Nat × Addr)} {m : M γ} (h : ExMZ (nsZ X.K pc) H0 i ρ (T, none) k sts D m) : ExMZ (nsZ X.K pc) H0 i ρ (T, o) k sts D m := by
  have w : ∀ {σ : L2.St} {H N : Hp}, StZ (nsZ X.K pc) H0 i ρ (T, o) σ H N → StZ (nsZ X.K pc) H0 i ρ (T, none) σ H N := fun ⟨p, Hs, ⟨⟨qs, kvs, n, _⟩, c⟩, d, r⟩ => ⟨p, Hs, ⟨⟨qs, kvs, n, fun _ _ z => by cases z⟩, c⟩, d, r⟩
  cases m with
  | ok v => exact fun DD σ H N st cc => h DD σ H N (w st) cc
  | ex n => exact fun DD σ H N st cc => h DD σ H N (w st) cc
  | far => trivial
end
end B

namespace B
open PySem PySem.Spec PyProof.Rows L2
section
variable {τ α : Type} {X : Cx} {z : Zp X.K τ} {H0 : Hp} {i : Nat} {ρ : Env'} {t : τ} {e : Expr} {en : α → Dat}
theorem rmzn_of {m : M (α × τ)} {o : ResZ τ} (h : RmZ en (M.nox m) o) : RmZn en m o := by
  cases m with
  | ok v => exact h
  | ex n => exact (show False from h).elim
  | far => exact (show False from h).elim
theorem evmz_trn {m : M (List Tr × τ)} (h : EvMZ z H0 i ρ t e (tpnd trd) m) : EvMZ z H0 i ρ t e trd (M.bind m fun q => .ok (Tr.node q.1, q.2)) := by
  cases m with
  | ok v =>
    have h : EvZ z H0 i ρ t e (tpnd trd v.1) v.2 := h
    show EvZ z H0 i ρ t e (trd (.node v.1)) v.2
    rw [trd_node]
    exact h
  | ex n => exact h
  | far => trivial
end
end B

namespace B
open PySem PySem.Spec PyProof.Rows L2
/-! ### dicts whose keys are tuples of ints -/
section
variable {α : Type}
def tget (l : List (List Int × α)) (k : List Int) : Option α := (l.find? fun p => decide (p.1 = k)).map (·.2)
def tput (l : List (List Int × α)) (k : List Int) (v : α) : List (List Int × α) := if (l.any fun p => decide (p.1 = k)) = true then l.map (fun p => if p.1 = k then (p.1, v) else p) else l ++ [(k, v)]
abbrev tky (k : List Int) : List Key := k.map Sum.inl
abbrev tixd (k : List Int) : Dat := .tix (tky k)
abbrev tks (l : List (List Int × α)) : List (List Key) := l.map fun p => tky p.1
abbrev ditd (e : α → Dat) (l : List (List Int × α)) : Dat := .dit (tks l) (l.map fun p => e p.2)
theorem tkeq {a b : List Int} : tky a = tky b ↔ a = b := ⟨fun h => (List.map_inj_right (fun x y q => Sum.inl.inj q)).mp h, fun h => by rw [h]⟩
theorem tget_cons {p : List Int × α} {l : List (List Int × α)} {k : List Int} : tget (p :: l) k = if p.1 = k then some p.2 else tget l k := by
  unfold tget
  rw [List.find?_cons]
  by_cases h : p.1 = k <;> simp [h]
theorem tky_v (k : List Int) : (tky k).map kV = k.map V.int := by
  rw [tky, List.map_map]
  rfl
theorem ats_tget {K : PySem.W.Frag} {H : Hp} {e : α → Dat} : ∀ {l : List (List Int × α)} {vs : List V}, Ats K H vs (l.map fun p => e p.2) → ∀ k : List Int, (∀ v, tget l k = some v → ∃ w, valV ((tks l).zip vs) (tky k) = some w ∧ At K H w (e v)) ∧ (tget l k = none → valV ((tks l).zip vs) (tky k) = none)
  | [], vs, h, k => by
    cases h
    exact ⟨fun v q => (by cases q), fun _ => rfl⟩
  | p :: l, vs, h, k => by
    cases h with
    | @cons v _ vs _ ha ht =>
      obtain ⟨i1, i2⟩ := ats_tget ht k
      rw [tget_cons]
      show (∀ w, _ → ∃ u, valV ((tky p.1, v) :: ((tks l).zip vs)) (tky k) = some u ∧ _) ∧ (_ → valV ((tky p.1, v) :: ((tks l).zip vs)) (tky k) = none)
      by_cases e1 : p.1 = k
      · rw [if_pos e1]
        refine ⟨fun w q => ?_, fun q => (by cases q)⟩
        cases q
        exact ⟨_, valV_pos (tkeq.mpr e1), ha⟩
      · rw [if_neg e1]
        have n1 : ¬ tky p.1 = tky k := fun z => e1 (tkeq.mp z)
        refine ⟨fun w q => ?_, fun q => ?_⟩
        · rw [valV_neg n1]; exact i1 w q
        · rw [valV_neg n1]; exact i2 q
theorem ats_tany {K : PySem.W.Frag} {H : Hp} {e : α → Dat} : ∀ {l : List (List Int × α)} {vs : List V}, Ats K H vs (l.map fun p => e p.2) → ∀ k : List Int, (((tks l).zip vs).any fun kv => decide (kv.1 = tky k)) = l.any fun p => decide (p.1 = k)
  | [], vs, h, k => by cases h; rfl
  | p :: l, vs, h, k => by
    cases h with
    | @cons v _ vs _ ha ht =>
      show (decide (tky p.1 = tky k) || _) = (decide (p.1 = k) || _)
      exact congr (congrArg or (decide_eq_decide.mpr tkeq)) (ats_tany ht k)
theorem ats_trepl {K : PySem.W.Frag} {H : Hp} {e : α → Dat} {k : List Int} {w : V} {v : α} (hw : At K H w (e v)) : ∀ {l : List (List Int × α)} {vs : List V}, Ats K H vs (l.map fun p => e p.2) →
    ∃ us, (((tks l).zip vs).map fun kv => if kv.1 = tky k then (kv.1, w) else kv) = (tks (l.map fun p => if p.1 = k then (p.1, v) else p)).zip us ∧ Ats K H us ((l.map fun p => if p.1 = k then (p.1, v) else p).map fun p => e p.2)
  | [], vs, h => by cases h; exact ⟨[], rfl, .nil⟩
  | p :: l, vs, h => by
    cases h with
    | @cons u _ vs _ ha ht =>
      obtain ⟨us, i1, i2⟩ := ats_trepl hw ht
      by_cases e1 : p.1 = k
      · refine ⟨w :: us, ?_, ?_⟩
        · show (if tky p.1 = tky k then (tky p.1, w) else (tky p.1, u)) :: _ = (tky (if p.1 = k then (p.1, v) else p).1, w) :: _
          rw [if_pos (tkeq.mpr e1), if_pos e1]
          exact congrArg _ i1
        · show Ats K H (w :: us) (e (if p.1 = k then (p.1, v) else p).2 :: _)
          rw [if_pos e1]
          exact .cons hw i2
      · refine ⟨u :: us, ?_, ?_⟩
        · show (if tky p.1 = tky k then (tky p.1, w) else (tky p.1, u)) :: _ = (tky (if p.1 = k then (p.1, v) else p).1, u) :: _
          rw [if_neg (fun z => e1 (tkeq.mp z)), if_neg e1]
          exact congrArg _ i1
        · show Ats K H (u :: us) (e (if p.1 = k then (p.1, v) else p).2 :: _)
          rw [if_neg e1]
          exact .cons ha i2
theorem ats_tput {K : PySem.W.Frag} {H : Hp} {e : α → Dat} {l : List (List Int × α)} {vs : List V} (h : Ats K H vs (l.map fun p => e p.2)) (k : List Int) {w : V} {v : α} (hw : At K H w (e v)) :
    ∃ us, putK ((tks l).zip vs) (tky k) w = (tks (tput l k v)).zip us ∧ Ats K H us ((tput l k v).map fun p => e p.2) := by
  unfold putK tput
  rw [ats_tany h k]
  split
  · exact ats_trepl hw h
  · refine ⟨vs ++ [w], ?_, ?_⟩
    · show _ = ((l ++ [(k, v)]).map fun p => tky p.1).zip (vs ++ [w])
      rw [List.map_append, List.zip_append (by rw [List.length_map, h.length, List.length_map])]
      rfl
    · rw [List.map_append]
      exact h.append (.cons hw .nil)
theorem tks_len (l : List (List Int × α)) (e : α → Dat) : (tks l).length = (l.map fun p => e p.2).length := by rw [List.length_map, List.length_map]
end
theorem inj_tix : ∀ a b : List Int, tixd a = tixd b → a = b := fun _ _ h => tkeq.mp (Dat.tix.inj h)
theorem at_tix {K : PySem.W.Frag} {H : Hp} {v : V} {k : List Key} (h : At K H v (.tix k)) : ∃ p, v = .ref p ∧ H p = some (.tup (k.map kV)) := by cases h with | tix a => exact ⟨_, rfl, a⟩
theorem at_dit {K : PySem.W.Frag} {H : Hp} {v : V} {ks : List (List Key)} {ds : List Dat} (h : At K H v (.dit ks ds)) : ∃ p vs, v = .ref p ∧ Rd H p (.dT (ks.zip vs)) ∧ ks.length = ds.length ∧ Ats K H vs ds := by cases h with | dit a l t => exact ⟨_, _, rfl, a, l, t⟩
theorem at_tix_tup {K : PySem.W.Frag} {H : Hp} {v : V} {k : List Int} (h : At K H v (tixd k)) : At K H v (tpnd .int k) := by
  obtain ⟨p, rfl, e⟩ := at_tix h
  rw [tky_v] at e
  exact .tup (.inl (.inl e)) (Ats.ofInts k)
section
variable {X : Cx} {H0 : Hp} {ρ ρ0 ρ1 ρ2 : Env'} {α β γ S S' L R : Type} {a b c e call : Expr} {es : List Expr} {st : Stmt} {sts rest body : List Stmt} {d d1 d2 : Dat} {ds : List Dat} {p pos : Pos} {o o1 : Outc} {x n : Str} {k : Nat} {D : γ → Outc} {m : M α} {en : α → Dat} {l : List (List Int × α)} {key : List Int}
/-- a key read as a tuple -/
theorem ev_tixT {k : List Int} (h : Ev X H0 ρ e (tixd k)) : Ev X H0 ρ e (tpnd .int k) := fun σ H N r => (h σ H N r).imp fun v H' ⟨N', s, n, r', q⟩ => ⟨N', s, n, r', at_tix_tup q⟩
/-- tuple(list of ints): a key -/
theorem ev_tupleI {l : List Int} (ha : EvB X H0 ρ a (lstd .int l)) (hm : X.mg "tuple" = none) (hg : Gl X "tuple" := by rfl) (na : starEach [a] X.env = (false, eval a X.env) :: starEach [] X.env := by rfl) : Ev X H0 ρ (.Call (.Name "tuple" p) [a] [] pos) (tixd l) := fun σ H N rp =>
  we_of (pe_tupleOf hg hm pe_w na) ((ha σ H N rp).imp fun v H1 ⟨N1, s1, n1, r1, a1⟩ => by
    obtain ⟨q, us, e3, h1, h2⟩ := at_lst a1
    have h3 := Ats.ints h2
    subst h3
    refine .inl ⟨q, _, e3, h1, fun q2 hq => ?_⟩
    obtain ⟨r3, n3⟩ := r1.new (o := .tup (l.map V.int)) hq
    exact ⟨_, s1.trans (Same.of_none hq), n1.trans n3, r3, .tix (by rw [tky_v]; exact upd_same)⟩)
/-- {} -/
theorem eo_dit0 : EvO X H0 ρ (.Dict [] [] pos) (ditd en []) := fun σ H N rp => we_of pe_dnewT (fun q hq => by
  obtain ⟨r3, n3⟩ := eo_new (o := .dT []) rp hq
  exact ⟨N, q, rfl, hq, Same.of_none hq, Same.refl _, r3, n3, [], upd_same, rfl, .nil⟩)
theorem tget_of {K : PySem.W.Frag} {H : Hp} {q : Addr} {vs : List V} {y : V} (hr : Rd H q (.dT ((tks l).zip vs))) (ha : Ats K H vs (l.map fun p => en p.2)) (hy : At K H y (tixd key)) : ∃ o, DGet H q y o ∧ (∀ v, tget l key = some v → ∃ w, o = some w ∧ At K H w (en v)) ∧ (tget l key = none → o = none) := by
  obtain ⟨b, rfl, hb⟩ := at_tix hy
  obtain ⟨i1, i2⟩ := ats_tget ha key
  exact ⟨_, .inr ⟨_, tky key, b, hr, rfl, hb, rfl⟩, i1, i2⟩
theorem ev_tgetm {v : α} (ha : Ev X H0 ρ a (ditd en l)) (hb : Ev X H0 ρ b (tixd key)) (h : tget l key = some v) (hu : X.A.units + 1 < cLine) (hs : NoSl b := by exact fun _ _ => rfl) : Ev X H0 ρ (.Subscript a b pos) (en v) := fun σ H N rp =>
  we_of (pe_dget hu pe_w pe_w hs) ((ha σ H N rp).imp fun u H1 ⟨N1, s1, n1, r1, a1⟩ => (hb σ H1 N1 r1).imp fun y H2 ⟨N2, s2, n2, r2, a2⟩ => by
    obtain ⟨q, vs, e1, h1, hl, h2⟩ := at_dit (a1.mono n2)
    obtain ⟨o, g1, g2, _⟩ := tget_of h1 h2 a2
    obtain ⟨w, rfl, g3⟩ := g2 v h
    refine ⟨q, w, e1, ?_, N2, s1.trans s2, n1.trans n2, r2, g3⟩
    rcases g1 with ⟨kvs, k', q1, q2⟩ | ⟨kvs, k', b', q1, q2, q3, q4⟩
    · exact .inl ⟨kvs, k', rd_mono r2.sub q1, q2⟩
    · exact .inr ⟨kvs, k', b', rd_mono r2.sub q1, q2, r2.sub _ _ q3, q4⟩)
theorem eb_tgetm {v : α} (f : flat (en v) = true) (ha : EvB X H0 ρ a (ditd en l)) (hb : Ev X H0 ρ b (tixd key)) (h : tget l key = some v) (hu : X.A.units + 1 < cLine) (hs : NoSl b := by exact fun _ _ => rfl) : Ev X H0 ρ (.Subscript a b pos) (en v) := EvB.flat (fun σ H N rp =>
  we_of (pe_dget hu pe_w pe_w hs) ((ha σ H N rp).imp fun u H1 ⟨N1, s1, n1, r1, a1⟩ => (hb σ H1 N1 r1).imp fun y H2 ⟨N2, s2, n2, r2, a2⟩ => by
    obtain ⟨q, vs, e1, h1, hl, h2⟩ := at_dit (a1.mono s2)
    obtain ⟨o, g1, g2, _⟩ := tget_of h1 h2 (a2.mono r2.sub)
    obtain ⟨w, rfl, g3⟩ := g2 v h
    exact ⟨q, w, e1, g1, N2, s1.trans s2, n1.trans n2, r2, g3⟩)) f
section
variable (i : Nat) {y : Str} {p1 : Pos}
theorem ev_tget2w {u : α} (hb : Ev X H0 ρ b (tixd key)) (hc : Ev X H0 ρ c (en u)) (hu : X.A.units + 1 < cLine) {apos : Pos} (hm : M2 X (.Name y p1) "get" apos b c pos := by exact ⟨rfl, rfl, rfl, rfl⟩) (hN : X.N[i]? = some y := by rfl) (hv : Vis X.env.scope y := by first | exact Or.inl rfl | exact Or.inr (Or.inl rfl) | exact Or.inr (Or.inr rfl))
    (hd : (y == ("__debug__" : Str)) = false := by decide) (hcd : (y == ("__classdict__" : Str)) = false := by decide) (hi : ρ[i]? = some (.ow (ditd en l)) := by rfl) : Ev X H0 ρ (.Call (.Attribute (.Name y p1) "get" apos) [b, c] [] pos) (en ((tget l key).getD u)) := fun σ H N rp => by
  obtain ⟨q, g1, g2, g3, vs, g4, gl, g5⟩ := rp.ow i _ hi
  refine we_of (pe_dget2 hu (pv i hN hv hd hcd) pe_w pe_w hm) ⟨_, g1, q, rfl, .inr ⟨_, .inl g4⟩, (hb σ H N rp).imp fun w H2 ⟨N2, s2, n2, r2, a2⟩ => (hc σ H2 N2 r2).imp fun z H3 ⟨N3, s3, n3, r3, a3⟩ => ?_⟩
  obtain ⟨q', f1, f2, f3, us, f4, fl, f5⟩ := r3.ow i _ hi
  rw [g1] at f1
  cases f1
  obtain ⟨bb, rfl, hbb⟩ := at_tix (a2.mono n3)
  obtain ⟨i1, i2⟩ := ats_tget f5 key
  refine ⟨_, .inr ⟨_, tky key, bb, .inl f4, rfl, r3.sub _ _ hbb, rfl⟩, N3, s2.trans s3, n2.trans n3, r3, ?_⟩
  cases e : tget l key with
  | none => rw [i2 e]; exact a3
  | some v =>
    obtain ⟨z, z1, z2⟩ := i1 v e
    rw [z1]; exact z2
theorem xm_tput {v : α} {f : List (List Int × α) → M γ} {p2 : Pos} (he : Ev X H0 ρ e (en v)) (hb : Ev X H0 ρ b (tixd key)) (hz : lenLt l = true) (hu : X.A.units + 1 < cLine) (tt : ∀ l, ExM X H0 (ρ.set i (.ow (ditd en l))) k rest D (f l)) (hN : X.N[i]? = some y := by rfl) (hv : Vis X.env.scope y := by first | exact Or.inl rfl | exact Or.inr (Or.inl rfl) | exact Or.inr (Or.inr rfl))
    (hd : (y == ("__debug__" : Str)) = false := by decide) (hcd : (y == ("__classdict__" : Str)) = false := by decide) (hi : ρ[i]? = some (.ow (ditd en l)) := by rfl)
    (hs : swapsWith e (some (.Subscript (.Name y p1) b p2)) pos.line X.env = pure false := by rfl) : ExM X H0 ρ k (.Assign [.Subscript (.Name y p1) b p2] e pos :: rest) D (M.lt (tput l key v) f) := by
  refine xm_then (ρ1 := ρ.set i (.ow (ditd en (tput l key v)))) (fun Dd σ H N r kk => ?_) (tt (tput l key v))
  refine ws_of (ps_dput hu (pv i hN hv hd hcd) pe_w pe_w hs) ((he σ H N r).imp fun w H1 ⟨N1, s1, n1, r1, a1⟩ => ?_)
  obtain ⟨q, g1, g2, g3, vs, g4, gl, g5⟩ := r1.ow i _ hi
  refine ⟨_, g1, (hb σ H1 N1 r1).imp fun z H2 ⟨N2, s2, n2, r2, a2⟩ => ?_⟩
  obtain ⟨q', f1, f2, f3, us, f4, fl, f5⟩ := r2.ow i _ hi
  rw [g1] at f1
  cases f1
  obtain ⟨bb, rfl, hbb⟩ := at_tix a2
  obtain ⟨us2, u1, u2⟩ := ats_tput f5 key (a1.mono n2)
  refine ⟨q, _, rfl, .inr ⟨_, tky key, bb, f4, rfl, r2.sub _ _ hbb, ?_, rfl⟩, kk σ _ N2 (n1.trans n2) ?_⟩
  · rw [List.length_zip, f5.length, List.length_map, List.length_map, Nat.min_self]; exact lenLt_ok hz
  · exact r2.write hi g1 ⟨us2, by rw [upd_same, u1], tks_len _ _, u2⟩
end
end
/-! ### for key in d -/
theorem rds_lockT {N : Hp} {d : Addr} {kvs : List (List Key × V)} {od : Obj} (h : N d = some (.dT kvs)) : RdS N (upd N d (.frz od (.dT kvs))) := fun a => by
  have go : ∀ u, Rd N a u → (∀ o u', u ≠ .frz o u') → Rd (upd N d (.frz od (.dT kvs))) a u := fun u r hu => by
    by_cases q : a = d
    · subst q
      rcases r with r | ⟨o, r⟩
      · rw [h] at r; cases r; exact .inr ⟨od, upd_same⟩
      · rw [h] at r; cases r
    · rcases r with r | ⟨o, r⟩
      · exact .inl (by rw [upd_ne q]; exact r)
      · exact .inr ⟨o, by rw [upd_ne q]; exact r⟩
  exact ⟨fun xs r => go _ r (fun o u' z => by cases z), fun xs r => go _ r (fun o u' z => by cases z), fun ks r => go _ r (fun o u' z => by cases z), fun C dx fs r => by rw [upd_ne (fun q => by rw [q, h] at r; cases r)]; exact r, fun ks r => go _ r (fun o u' z => by cases z), fun xs r => by rw [upd_ne (fun q => by rw [q, h] at r; cases r)]; exact r⟩
theorem rds_unlockT {N : Hp} {d : Addr} {kvs : List (List Key × V)} {od : Obj} (h : N d = some (.frz od (.dT kvs))) : RdS N (upd N d (.dT kvs)) := fun a => by
  have go : ∀ u, Rd N a u → (∀ o u', u ≠ .frz o u') → Rd (upd N d (.dT kvs)) a u := fun u r hu => by
    by_cases q : a = d
    · subst q
      rcases r with r | ⟨o, r⟩
      · rw [h] at r; cases r; exact absurd rfl (hu _ _)
      · rw [h] at r; cases r; exact .inl upd_same
    · rcases r with r | ⟨o, r⟩
      · exact .inl (by rw [upd_ne q]; exact r)
      · exact .inr ⟨o, by rw [upd_ne q]; exact r⟩
  exact ⟨fun xs r => go _ r (fun o u' z => by cases z), fun xs r => go _ r (fun o u' z => by cases z), fun ks r => go _ r (fun o u' z => by cases z), fun C dx fs r => by rw [upd_ne (fun q => by rw [q, h] at r; cases r)]; exact r, fun ks r => go _ r (fun o u' z => by cases z), fun xs r => by rw [upd_ne (fun q => by rw [q, h] at r; cases r)]; exact r⟩
theorem Rep.lockT {K : PySem.W.Frag} {H0 H N : Hp} {ρ : Env'} {σ : L2.St} {d : Addr} {kvs : List (List Key × V)} (r : Rep K H0 ρ σ H N) (h : N d = some (.dT kvs)) (od : Obj) : Rep K H0 ρ σ (upd H d (.frz od (.dT kvs))) (upd N d (.frz od (.dT kvs))) := by
  have h0 : H0 d = none := r.fresh d _ h True.intro
  have ne : ∀ {a : Addr} {u : HO}, H0 a = some u → a ≠ d := fun {a u} e q => by rw [q, h0] at e; cases e
  have rd := rds_lockT (od := od) h
  refine ⟨fun a u e => by rw [upd_ne (ne e)]; exact r.old a u e, fun a u e => ?_, fun a u e => by rw [upd_ne (ne (imm_sub _ _ _ e))]; exact r.imm a u e, fun a u e m => ?_, r.len, fun j x e => ?_, r.ol, fun j x e => ?_, r.rf, r.apart⟩
  · by_cases q : a = d
    · subst q; rw [upd_same] at e ⊢; exact e
    · rw [upd_ne q] at e ⊢; exact r.sub a u e
  · by_cases q : a = d
    · subst q; rw [upd_same] at e; cases e; exact m.elim
    · rw [upd_ne q] at e; exact r.fresh a u e m
  · obtain ⟨v, a1, a2⟩ := r.im j x e
    exact ⟨v, a1, a2.rds rd⟩
  · obtain ⟨p, a1, a2, a3, a4⟩ := r.ow j x e
    have q : p ≠ d := fun q => by rw [q, h] at a3; cases a3
    exact ⟨p, a1, a2, by rw [upd_ne q]; exact a3, a4.rds rd (upd_ne q)⟩
theorem Rep.unlockT {K : PySem.W.Frag} {H0 H N : Hp} {ρ : Env'} {σ : L2.St} {d : Addr} {kvs : List (List Key × V)} {od : Obj} (r : Rep K H0 ρ σ H N) (h : N d = some (.frz od (.dT kvs))) (h0 : H0 d = none) : Rep K H0 ρ σ (upd H d (.dT kvs)) (upd N d (.dT kvs)) := by
  have ne : ∀ {a : Addr} {u : HO}, H0 a = some u → a ≠ d := fun {a u} e q => by rw [q, h0] at e; cases e
  have rd := rds_unlockT h
  refine ⟨fun a u e => by rw [upd_ne (ne e)]; exact r.old a u e, fun a u e => ?_, fun a u e => by rw [upd_ne (ne (imm_sub _ _ _ e))]; exact r.imm a u e, fun a u e m => ?_, r.len, fun j x e => ?_, r.ol, fun j x e => ?_, r.rf, r.apart⟩
  · by_cases q : a = d
    · subst q; rw [upd_same] at e ⊢; exact e
    · rw [upd_ne q] at e ⊢; exact r.sub a u e
  · by_cases q : a = d
    · subst q; exact h0
    · rw [upd_ne q] at e; exact r.fresh a u e m
  · obtain ⟨v, a1, a2⟩ := r.im j x e
    exact ⟨v, a1, a2.rds rd⟩
  · obtain ⟨p, a1, a2, a3, a4⟩ := r.ow j x e
    have q : p ≠ d := fun q => by rw [q, h] at a3; cases a3
    exact ⟨p, a1, a2, by rw [upd_ne q]; exact a3, a4.rds rd (upd_ne q)⟩
section
variable {α β γ S : Type} {X : Cx} {H0 : Hp} {k : Nat} {en : α → Dat} {ρ ρ1 : Env'} {st : Stmt} {sts rest body : List Stmt} {b c e : Expr} {p1 pos : Pos} {o : Outc} {D : γ → Outc}
theorem wlk_t {K : PySem.W.Frag} {G N1 : Hp} {d : Addr} {od : Obj} {vs : List V} {l : List (List Int × α)} (hd : N1 d = some (.frz od (.dT ((tks l).zip vs))) ∨ G d = some (.frz od (.dT ((tks l).zip vs)))) (hl : vs.length = l.length) : Walks K G (Itkt d od ((tks l).zip vs)) N1 (l.map fun p => tixd p.1) := fun H02 ρ2 σ2 H2 N2 i s02 s2 r2 => by
  have h2 : H2 d = some (.frz od (.dT ((tks l).zip vs))) := by
    rcases hd with hd | hd
    · exact r2.sub _ _ (s2 _ _ hd)
    · exact r2.old _ _ (s02 _ _ hd)
  have hz : ((tks l).zip vs).length = l.length := by rw [List.length_zip, hl, List.length_map, Nat.min_self]
  refine ⟨fun hi => ⟨⟨h2, by rw [hz]; rwa [List.length_map] at hi⟩, fun x H3 y => ?_⟩, fun hi => ⟨h2, by rw [hz]; rw [List.length_map] at hi; omega⟩⟩
  obtain ⟨rfl, kk, v, q, e1, rfl, e2⟩ := y
  rw [List.length_map] at hi
  have e3 : kk = tky l[i].1 := by
    have e4 := e1
    rw [List.getElem?_zip_eq_some] at e4
    have e5 := e4.1
    rw [List.getElem?_map, List.getElem?_eq_getElem hi] at e5
    exact (Option.some.inj e5).symm
  subst e3
  obtain ⟨N3, n3, r3, kp⟩ := r2.keep
  refine ⟨N3, tixd l[i].1, n3, Same.refl _, r3, by rw [List.getElem?_map, List.getElem?_eq_getElem hi]; rfl, .tix (kp _ _ (imm_of e2 fun z => z))⟩
/-- for key in d, d a thing of ours that no one changes any more -/
theorem sx_forT {t : Expr} {bd : Dat → Env' → Env'} {ok : Dat → Prop} {l : List (List Int × α)} (i : Nat) {y : Str} (hp : PassesOwn (model X.prog X.w) X.A X.env X.xe) (hc : X.calm = true) (hi : ρ[i]? = some (.im (ditd en l))) (hg : Tgt X H0 t ok bd) (hok : ∀ d ∈ (l.map fun p => tixd p.1), ok d) (h : ForT X H0 bd body (l.map fun p => tixd p.1) ρ (.nx ρ1))
    (hN : X.N[i]? = some y := by rfl) (hv : Vis X.env.scope y := by first | exact Or.inl rfl | exact Or.inr (Or.inl rfl) | exact Or.inr (Or.inr rfl)) (hd : (y == ("__debug__" : Str)) = false := by decide) (hcd : (y == ("__classdict__" : Str)) = false := by decide)
    (hs : ∀ x, foldedSetIterable (.Name y p1) X.env x = pure x := by intro _; rfl) : ExS X H0 ρ (.For t (.Name y p1) body [] pos) (.nx ρ1) := fun DD σ H N r c => by
  obtain ⟨v, e1, a⟩ := r.im i _ hi
  obtain ⟨d, vs, rfl, rd, hl, ak⟩ := at_dit a
  have hk : vs.length = l.length := by rw [ak.length, List.length_map]
  rcases rd with e2 | ⟨od, e2⟩
  · refine ws_of (ps_lock ps_w) ⟨d, _, r.sub _ _ e2, True.intro, fun od => ?_⟩
    have h0 : H0 d = none := r.fresh d _ e2 True.intro
    have rl := r.lockT e2 od
    refine ws_for (H0 := H0) (ρ := ρ) hp hc (pi_keys (pv i hN hv hd hcd)) (fun R kk => ⟨_, e1, d, od, rfl, .inr ⟨_, upd_same, kk _ _ _ (Same.refl _) (Same.refl _) rl (wlk_t (.inl upd_same) hk)⟩⟩) hg hok h (fun σ' H' N' s r' => ⟨r'.sub _ _ (s _ _ upd_same), ?_⟩) hs
    have nd := s _ _ upd_same
    refine c σ' _ _ (fun a u e => ?_) (r'.unlockT nd h0)
    by_cases q : a = d
    · subst q; rw [e2] at e; rw [upd_same]; exact e
    · rw [upd_ne q]; exact s a u (by rw [upd_ne q]; exact e)
  · exact ws_for (H0 := H0) (ρ := ρ) hp hc (pi_keys (pv i hN hv hd hcd)) (fun R kk => ⟨_, e1, d, od, rfl, .inr ⟨_, r.sub _ _ e2, kk _ _ _ (Same.refl _) (Same.refl _) r (wlk_t (.inl e2) hk)⟩⟩) hg hok h c hs
theorem xm_forT {eS : S → Env'} {l : List (List Int × α)} {s0 : S} {t : Expr} {bd : Dat → Env' → Env'} {ok : Dat → Prop} {f : List Int → S → M S} {fk : S → M γ} (i : Nat) {y : Str} (hp : PassesOwn (model X.prog X.w) X.A X.env X.xe) (hc : X.calm = true) (hi : ρ[i]? = some (.im (ditd en l))) (hg : Tgt X H0 t ok bd) (hok : ∀ d ∈ (l.map fun p => tixd p.1), ok d) (h0 : ρ = eS s0) (hb : ∀ x s, ExM X H0 (bd (tixd x) (eS s)) k body (fun s => .nx (eS s)) (f x s)) (tt : ∀ s, ExM X H0 (eS s) k rest D (fk s))
    (hN : X.N[i]? = some y := by rfl) (hv : Vis X.env.scope y := by first | exact Or.inl rfl | exact Or.inr (Or.inl rfl) | exact Or.inr (Or.inr rfl)) (hd : (y == ("__debug__" : Str)) = false := by decide) (hcd : (y == ("__classdict__" : Str)) = false := by decide)
    (hs : ∀ x, foldedSetIterable (.Name y p1) X.env x = pure x := by intro _; rfl) : ExM X H0 ρ k (.For t (.Name y p1) body [] pos :: rest) D (M.bind (M.nox (forM f (l.map (·.1)) s0)) fk) := by
  have h := forM_T hb (l.map (·.1)) s0
  subst h0
  rw [List.map_map] at h
  cases e : forM f (l.map (·.1)) s0 with
  | ok s =>
    rw [e] at h
    exact xm_then (sx_forT i hp hc hi hg hok h hN hv hd hcd hs) (tt s)
  | ex n => trivial
  | far => trivial
/-! ### a return that walks a dict within -/
/-- the keys of a dict with tuple keys that is walked -/
def KeysTAt (K : PySem.W.Frag) (en : α → Dat) (l : List (List Int × α)) (G : Hp) (dd : Addr) : Prop := At K G (.ref dd) (ditd en l) ∧ ∃ od vs, G dd = some (.frz od (.dT ((tks l).zip vs))) ∧ vs.length = l.length
theorem KeysTAt.mono {K : PySem.W.Frag} {l : List (List Int × α)} {G G' : Hp} {dd : Addr} (s : Same G G') (h : KeysTAt K en l G dd) : KeysTAt K en l G' dd := by
  obtain ⟨a, od, vs, b, c⟩ := h
  exact ⟨a.mono s, od, vs, s _ _ b, c⟩
theorem it_keysT {l : List (List Int × α)} {t : Expr} {dd : Addr} (j : Nat) {y : Str} (h : ρ[j]? = some (.rf dd)) (f : KeysTAt X.K en l H0 dd) (hN : X.N[j]? = some y := by rfl) (hv : Vis X.env.scope y := by first | exact Or.inl rfl | exact Or.inr (Or.inl rfl) | exact Or.inr (Or.inr rfl)) (hd : (y == ("__debug__" : Str)) = false := by decide) (hcd : (y == ("__classdict__" : Str)) = false := by decide) : Iter X H0 ρ t (.Name y pos) ((l.map (·.1)).map tixd) := by
  obtain ⟨_, od, kvs, h1, h2⟩ := f
  rw [List.map_map]
  exact ⟨_, pi_keys (pv j hN hv hd hcd), fun σ H N r R kk => ⟨_, r.rf j dd h, dd, od, rfl, .inr ⟨_, r.old _ _ h1, kk _ _ _ (Same.refl _) (Same.refl _) r (wlk_t (.inr h1) h2)⟩⟩⟩
theorem eb_keysT {l : List (List Int × α)} {dd : Addr} (j : Nat) {y : Str} (h : ρ[j]? = some (.rf dd)) (f : KeysTAt X.K en l H0 dd) (hN : X.N[j]? = some y := by rfl) (hv : Vis X.env.scope y := by first | exact Or.inl rfl | exact Or.inr (Or.inl rfl) | exact Or.inr (Or.inr rfl)) (hd : (y == ("__debug__" : Str)) = false := by decide) (hcd : (y == ("__classdict__" : Str)) = false := by decide) : EvB X H0 ρ (.Name y pos) (ditd en l) := fun σ H N r =>
  we_of (pv j hN hv hd hcd) ⟨_, r.rf j dd h, N, Same.refl _, Same.refl _, r, f.1.mono r.old⟩
theorem Rep.raise {K : PySem.W.Frag} {H0 H N : Hp} {ρ : Env'} {σ : L2.St} {d : Addr} {o : HO} (hn : noOl ρ) (r : Rep K H0 ρ σ H N) (h0 : H0 d = none) (hN : N d = some o) (nm : ¬ Mut (some o)) : Rep K (upd H0 d o) ρ σ H N := by
  refine ⟨fun a u e => ?_, r.sub, fun a u e => ?_, fun a u e m => ?_, r.len, r.im, fun j x e => (hn j x e).elim, fun j x e => ?_, r.rf, r.apart⟩
  · by_cases q : a = d
    · subst q; rw [upd_same] at e; cases e; exact r.sub _ _ hN
    · rw [upd_ne q] at e; exact r.old a u e
  · have e1 := imm_sub _ _ _ e
    have e2 := imm_not e
    by_cases q : a = d
    · subst q; rw [upd_same] at e1; cases e1; exact hN
    · rw [upd_ne q] at e1; exact r.imm a u (imm_of e1 e2)
  · have q : a ≠ d := fun q => by rw [q, hN] at e; cases e; exact nm m
    rw [upd_ne q]
    exact r.fresh a u e m
  · obtain ⟨p, a1, a2, a3, a4⟩ := r.ow j x e
    exact ⟨p, a1, by rw [upd_ne (fun q => by rw [q, hN] at a3; cases a3)]; exact a2, a3, a4⟩
theorem ret_unlock {K : PySem.W.Frag} {H0 H : Hp} {v : V} {d : Dat} {a : Addr} {o u : HO} (f : flat d = true) (ha : H a = some o) (no : ∀ xs, Rd H a (.tup xs) → False) (r : Ret K (upd H0 a o) v d H) : Ret K H0 v d (upd H a u) := by
  obtain ⟨N, s, fr, q⟩ := r
  refine ⟨Imm (upd H a u), imm_sub _, fun b x e m => (imm_not e m).elim, (q.mono s).flat2 (fun b xs e => ?_) f⟩
  have ne : ∀ {w : HO}, H b = some w → (w = .tup xs ∨ ∃ ob, w = .frz ob (.tup xs)) → b ≠ a := fun {w} e1 e2 q => by
    subst q
    rcases e2 with e2 | ⟨ob, e2⟩
    · exact no xs (.inl (by rw [e1, e2]))
    · exact no xs (.inr ⟨ob, by rw [e1, e2]⟩)
  rcases e with (e | ⟨ob, e⟩) | e
  · exact .inl (.inl (imm_of (by rw [upd_ne (ne e (.inl rfl))]; exact e) fun z => z))
  · exact .inl (.inr ⟨ob, imm_of (by rw [upd_ne (ne e (.inr ⟨ob, rfl⟩))]; exact e) fun z => z⟩)
  · exact .inr e
theorem xm_lockRetT {l : List (List Int × α)} {eR : γ → Dat} {m : M γ} (i : Nat) (hn : noOl ρ) (hi : ρ[i]? = some (.im (ditd en l))) (hf : ∀ r, flat (eR r) = true) (hfree : ∀ {G G' : Hp} {v : V} (a : α), At X.K G v (en a) → At X.K G' v (en a)) (h : ∀ H0b dd, KeysTAt X.K en l H0b dd → ExM X H0b (ρ.set i (.rf dd)) k [st] (fun r => .rt (eR r)) m) : ExM X H0 ρ k (st :: rest) (fun r => .rt (eR r)) (M.nox m) := by
  cases m with
  | far => trivial
  | ex n => trivial
  | ok w =>
    refine ex_cons (o1 := .rt (eR w)) (fun DD σ H N r c => ?_) rfl
    obtain ⟨v, e1, a⟩ := r.im i _ hi
    obtain ⟨d, vs, rfl, rd, hl, ak⟩ := at_dit a
    have hk : vs.length = l.length := by rw [ak.length, List.length_map]
    have free : ∀ {G G' : Hp} {vs : List V} {l : List (List Int × α)}, Ats X.K G vs (l.map fun p => en p.2) → Ats X.K G' vs (l.map fun p => en p.2) := fun {G G' vs l} => by
      induction l generalizing vs with
      | nil => intro q; cases q; exact .nil
      | cons p l ih => intro q; cases q with | cons a t => exact .cons (hfree p.2 a) (ih t)
    have go : ∀ od (H0b H1 N1 : Hp), Rep X.K H0b ρ σ H1 N1 → H0b d = some (.frz od (.dT ((tks l).zip vs))) → ∀ D1 : Ends, (∀ v H, Same H0b H → Same N1 H → Ret X.K H0b v (eR w) H → D1.rt v H) → WS X st D1 σ H1 := fun od H0b H1 N1 r1 e2 D1 c1 =>
      ws_one (h H0b d ⟨.dit (.inr ⟨od, e2⟩) hl (free ak), od, vs, e2, hk⟩ D1 σ H1 N1 (Rep.toRf e1 (r1.drop i)) c1)
    rcases rd with e2 | ⟨od, e2⟩
    · refine ws_of (ps_lock ps_w) ⟨d, _, r.sub _ _ e2, True.intro, fun od => ?_⟩
      have h0 : H0 d = none := r.fresh d _ e2 True.intro
      have rl := (r.lockT e2 od).raise hn h0 upd_same (fun z => z)
      refine go od _ _ _ rl upd_same _ fun v' H' s1 s2 rr => ?_
      have hd : H' d = some (.frz od (.dT ((tks l).zip vs))) := s1 _ _ upd_same
      refine ⟨hd, c v' _ (fun a u e => ?_) (fun a u e => ?_) (ret_unlock (hf w) hd (fun xs q => ?_) rr)⟩
      · have q : a ≠ d := fun q => by rw [q, h0] at e; cases e
        rw [upd_ne q]
        exact s1 a u (by rw [upd_ne q]; exact e)
      · by_cases q : a = d
        · subst q; rw [e2] at e; rw [upd_same]; exact e
        · rw [upd_ne q]; exact s2 a u (by rw [upd_ne q]; exact e)
      · rcases q with q | ⟨ob, q⟩
        · rw [hd] at q; cases q
        · rw [hd] at q; cases q
    · cases e0 : H0 d with
      | none =>
        refine go od _ _ _ (r.raise hn e0 e2 (fun z => z)) upd_same _ fun v' H' s1 s2 ⟨N', b1, b2, b3⟩ => ?_
        refine c v' H' (fun a u e => s1 a u ?_) s2 ⟨N', b1, fun a o q m => ?_, b3⟩
        · rw [upd_ne (fun q => by rw [q, e0] at e; cases e)]; exact e
        · have := b2 a o q m
          by_cases z : a = d
          · rw [z]; exact e0
          · rwa [upd_ne z] at this
      | some o =>
        have e4 := r.old _ _ e0
        rw [r.sub _ _ e2] at e4
        cases e4
        exact go od _ _ _ r e0 _ c
end
/-! ### min of a list of ints -/
def minL (x : Int) (xs : List Int) : Int := xs.foldl min x
theorem reads_ints {h : Heap} : ∀ {its : List Value} {ns : List Int}, IntsAre its ns → ReadsAll h its (ns.map .int) [] := fun {its ns} r => by
  induction r with
  | nil => exact .nil
  | cons n t _ ih => exact .cons (as := []) (.int n t) ih
theorem cr_min {X : Cx} (hc : X.calm = true) (hu : X.A.units + 1 < cLine) : CallR X (.builtin "min") (fun vs H Q => ∃ (a : Addr) (n : Int) (ns : List Int), vs = [V.ref a] ∧ SqL X.K H a ((n :: ns).map V.int) ∧ Q (.int (minL n ns)) H) := by
  intro pins s σ H vs us Q I r h
  obtain ⟨a, n, ns, rfl, hs, q⟩ := h
  obtain ⟨its, rv, hl, _⟩ := I.list hs
  rw [Vals.ref1 r]
  have hd : PyData.depthAll ((n :: ns).map PyData.int) = 0 := by
    have : ∀ l : List Int, PyData.depthAll (l.map PyData.int) = 0 := fun l => by
      induction l with
      | nil => rfl
      | cons a l ih => show max 0 (PyData.depthAll (l.map PyData.int)) = 0; rw [ih]; rfl
    exact this _
  refine PySem.W.min_list_data (x := .int n) (xs := ns.map .int) (as := []) (I.ok.hd hc) hl.isList (show ReadsAll s.heap its ((n :: ns).map .int) [] from reads_ints rv.ints) ⟨fun x hx y hy => ?_, fun x hx => ?_⟩ (by rw [show (PyData.int n :: ns.map PyData.int) = (n :: ns).map PyData.int from rfl, hd]; exact hu) fun i v h' tk bs hi hr hk => ?_
  · obtain ⟨u, _, rfl⟩ := List.mem_map.mp (show x ∈ (n :: ns).map PyData.int from hx)
    obtain ⟨w, _, rfl⟩ := List.mem_map.mp (show y ∈ (n :: ns).map PyData.int from hy)
    rfl
  · obtain ⟨u, _, rfl⟩ := List.mem_map.mp (show x ∈ (n :: ns).map PyData.int from hx)
    exact fun z => nomatch z
  · rw [PySem.W.minD_ints] at hr
    cases hr with
    | int _ t => exact ⟨.int _, H, I.kept hk, ⟨t, rfl⟩, q⟩
section
variable {X : Cx} {H0 : Hp} {ρ : Env'} {a : Expr} {p pos : Pos}
theorem ev_minL {n : Int} {ns l : List Int} (ha : EvB X H0 ρ a (lstd .int l)) (hl : l = n :: ns) (hu : X.A.units + 1 < cLine) (hc : X.calm = true) (hm : X.mg "min" = none) (hg : Gl X "min" := by rfl) (he : starEach [a] X.env = (false, eval a X.env) :: starEach [] X.env := by rfl) (hpl : (backTo pos (starEach [] X.env)).any (·.1) = false := by rfl) :
    Ev X H0 ρ (.Call (.Name "min" p) [a] [] pos) (.int (minL n ns)) := ev_blt (cr_min hc hu) hm (by decide +kernel) (eab1 ha he) (fun vs σ H N Q r q g => by
    obtain ⟨v, e1, e2⟩ := ats_one q
    obtain ⟨pp, us, e3, h1, h2⟩ := at_lst e2
    subst hl
    rw [h2.ints] at h1
    exact ⟨pp, n, ns, by rw [e1, e3], h1, goes_self g r (.int _)⟩) hg (by decide) (by decide) he hpl
end
def hdTl (l : List Int) : Option (Int × List Int) := match l with
  | [] => none
  | a :: r => some (a, r)
theorem hdTl_ok {l : List Int} {r : Int × List Int} (h : hdTl l = some r) : l = r.1 :: r.2 := by
  cases l with
  | nil => cases h
  | cons a t => cases h; rfl
end B

namespace B
open PySem PySem.Spec PyProof.Rows L2
def top (i : Nat) : Stmt := PySem.Challenge.pw_boughpress_k23_whole_worths_come_to_one.main.body.getD i (.Pass ⟨0, 0, 0, 0⟩)
abbrev s_greatest_divisor : Stmt := top 4
abbrev n_greatest_divisor : List Str := ["one", "other"]
theorem sc_greatest_divisor : FnScope n_greatest_divisor ["one", "other"] (defScope s_greatest_divisor) := ⟨rfl, rfl, rfl, by decide +kernel, rfl, by decide +kernel, by decide +kernel⟩
abbrev s_fraction : Stmt := top 5
abbrev n_fraction : List Str := ["top", "bottom", "many"]
theorem sc_fraction : FnScope n_fraction ["top", "bottom"] (defScope s_fraction) := ⟨rfl, rfl, rfl, by decide +kernel, rfl, by decide +kernel, by decide +kernel⟩
abbrev s_odd_product : Stmt := top 7
abbrev n_odd_product : List Str := ["many", "found", "k"]
theorem sc_odd_product : FnScope n_odd_product ["many"] (defScope s_odd_product) := ⟨rfl, rfl, rfl, by decide +kernel, rfl, by decide +kernel, by decide +kernel⟩
abbrev s_worth : Stmt := top 8
abbrev n_worth : List Str := ["counts", "top", "many", "bottom", "k"]
theorem sc_worth : FnScope n_worth ["counts"] (defScope s_worth) := ⟨rfl, rfl, rfl, by decide +kernel, rfl, by decide +kernel, by decide +kernel⟩
abbrev s_law_cell_at : Stmt := top 10
abbrev n_law_cell_at : List Str := ["script", "k"]
theorem sc_law_cell_at : FnScope n_law_cell_at ["script", "k"] (defScope s_law_cell_at) := ⟨rfl, rfl, rfl, by decide +kernel, rfl, by decide +kernel, by decide +kernel⟩
abbrev s_law_whole : Stmt := top 11
abbrev n_law_whole : List Str := ["thing"]
theorem sc_law_whole : FnScope n_law_whole ["thing"] (defScope s_law_whole) := ⟨rfl, rfl, rfl, by decide +kernel, rfl, by decide +kernel, by decide +kernel⟩
abbrev s_law_divisor : Stmt := top 12
abbrev n_law_divisor : List Str := ["one", "other"]
theorem sc_law_divisor : FnScope n_law_divisor ["one", "other"] (defScope s_law_divisor) := ⟨rfl, rfl, rfl, by decide +kernel, rfl, by decide +kernel, by decide +kernel⟩
abbrev s_law_is_fraction : Stmt := top 13
abbrev n_law_is_fraction : List Str := ["found"]
theorem sc_law_is_fraction : FnScope n_law_is_fraction ["found"] (defScope s_law_is_fraction) := ⟨rfl, rfl, rfl, by decide +kernel, rfl, by decide +kernel, by decide +kernel⟩
abbrev s_law_bottom : Stmt := top 14
abbrev n_law_bottom : List Str := ["many", "total", "bottom", "k"]
theorem sc_law_bottom : FnScope n_law_bottom ["many", "total"] (defScope s_law_bottom) := ⟨rfl, rfl, rfl, by decide +kernel, rfl, by decide +kernel, by decide +kernel⟩
abbrev s_law_over : Stmt := top 15
abbrev n_law_over : List Str := ["some", "bottom", "found"]
theorem sc_law_over : FnScope n_law_over ["some", "bottom"] (defScope s_law_over) := ⟨rfl, rfl, rfl, by decide +kernel, rfl, by decide +kernel, by decide +kernel⟩
abbrev s_law_more : Stmt := top 16
abbrev n_law_more : List Str := ["some", "place"]
theorem sc_law_more : FnScope n_law_more ["some", "place"] (defScope s_law_more) := ⟨rfl, rfl, rfl, by decide +kernel, rfl, by decide +kernel, by decide +kernel⟩
abbrev s_law_next : Stmt := top 17
abbrev n_law_next : List Str := ["some", "many", "bottom", "found", "place"]
theorem sc_law_next : FnScope n_law_next ["some"] (defScope s_law_next) := ⟨rfl, rfl, rfl, by decide +kernel, rfl, by decide +kernel, by decide +kernel⟩
abbrev s_law_all : Stmt := top 18
abbrev n_law_all : List Str := ["many", "total", "found", "k", "longer", "some", "place", "key"]
theorem sc_law_all : FnScope n_law_all ["many", "total"] (defScope s_law_all) := ⟨rfl, rfl, rfl, by decide +kernel, rfl, by decide +kernel, by decide +kernel⟩
abbrev s_law : Stmt := top 19
abbrev n_law : List Str := ["script", "cell", "many", "some", "one", "total", "bottom", "table", "key"]
theorem sc_law : FnScope n_law ["script"] (defScope s_law) := ⟨rfl, rfl, rfl, by decide +kernel, rfl, by decide +kernel, by decide +kernel⟩
/-- what the top has left: the built-ins are what they were, the classes of errors stand -/
structure Txt (K : PySem.W.Frag) (mg : Str → Option Value) : Prop where
  b_ValueError : mg "ValueError" = none
  b_abs : mg "abs" = none
  b_bool : mg "bool" = none
  b_int : mg "int" = none
  b_isinstance : mg "isinstance" = none
  b_len : mg "len" = none
  b_list : mg "list" = none
  b_min : mg "min" = none
  b_range : mg "range" = none
  b_sum : mg "sum" = none
  b_tuple : mg "tuple" = none
  e_NoFraction : Exc K mg "NoFraction"
noncomputable def m_greatest_divisor (one_ : Int) (other_ : Int) : M Int :=
  M.lt (((one_).natAbs : Int) : Int) fun one_ =>
  M.lt (((other_).natAbs : Int) : Int) fun other_ =>
  M.bind (whileM (fun (s1 : Int × Int) => .ok ((!decide (s1.2 = (0 : Int))))) (fun (s1 : Int × Int) => (
    M.gd (decide (0 < s1.2)) <|
    M.lt ((s1.2, (s1.1 % s1.2)) : Int × Int) fun q3 =>
    .ok (q3.1, q3.2)
  )) ((other_).natAbs + 2) (one_, other_)) fun (s1 : Int × Int) =>
  .ok s1.1
noncomputable def m_fraction (top_ : Int) (bottom_ : Int) : M (Int × Int) :=
  if (decide (bottom_ = (0 : Int))) = true then (
    .ex "NoFraction"
  ) else
  M.bind (m_greatest_divisor top_ bottom_) fun many_ =>
  M.bind (if (decide (bottom_ < (0 : Int))) = true then (
    M.lt ((-many_) : Int) fun many_ =>
    .ok many_
  ) else (
    .ok many_
  )) fun (s1 : Int) =>
  M.gd (fdivOk s1) <|
  M.gd (fdivOk s1) <|
  .ok ((Int.fdiv top_ s1), (Int.fdiv bottom_ s1))
noncomputable def m_odd_product (many_ : Int) : M Int :=
  M.lt ((1 : Int) : Int) fun found_ =>
  M.gd (rngOk 0 many_) <|
  M.bind (forM (fun (x2 : Int) (s4 : Int) => (
    M.gd (mulOk s4 (((2 : Int) * x2) + (1 : Int))) <|
    M.lt ((s4 * (((2 : Int) * x2) + (1 : Int))) : Int) fun found_ =>
    .ok found_
  )) (rng 0 1 (many_).toNat) found_) fun (s4 : Int) =>
  .ok s4
noncomputable def m_worth (counts_ : (List Int)) : M (Int × Int) :=
  M.lt ((1 : Int) : Int) fun top_ =>
  M.bind (forM (fun (x1 : Int) (s2 : Int) => (
    M.bind (M.nox (m_odd_product x1)) fun r3 =>
    M.gd (mulOk s2 r3) <|
    M.lt ((s2 * r3) : Int) fun top_ =>
    .ok top_
  )) counts_ top_) fun (s2 : Int) =>
  M.lt ((1 : Int) : Int) fun bottom_ =>
  M.gd (rngOk 0 (counts_).sum) <|
  M.bind (forM (fun (x7 : Int) (s9 : Int) => (
    M.gd (mulOk s9 (((2 : Int) * x7) + ((counts_).length : Int))) <|
    M.lt ((s9 * (((2 : Int) * x7) + ((counts_).length : Int))) : Int) fun bottom_ =>
    .ok bottom_
  )) (rng 0 1 ((counts_).sum).toNat) bottom_) fun (s9 : Int) =>
  M.bind (m_fraction s2 s9) fun r => .ok r
noncomputable def m_law_cell_at (script_ : (List Int)) (k_ : Int) : M Int :=
  if (decide (k_ < ((script_).length : Int))) = true then (
    M.bind (M.ofO (atI script_ k_)) fun r1 =>
    .ok r1
  ) else
  .ok (0 : Int)
noncomputable def m_law_whole (thing_ : Int) : M Bool :=
  .ok (true && (!false))
noncomputable def m_law_divisor (one_ : Int) (other_ : Int) : M Int :=
  M.bind (whileM (fun (s1 : Int × Int) => .ok ((!decide (s1.2 = (0 : Int))))) (fun (s1 : Int × Int) => (
    M.gd (decide (0 < s1.2)) <|
    M.lt ((s1.2, (s1.1 % s1.2)) : Int × Int) fun q3 =>
    .ok (q3.1, q3.2)
  )) ((other_).natAbs + 2) (one_, other_)) fun (s1 : Int × Int) =>
  .ok ((s1.1).natAbs : Int)
noncomputable def m_law_is_fraction (found_ : (Int × Int)) : M Bool :=
  if ((!true) || (!decide ((2 : Int) = (2 : Int)))) = true then (
    .ok false
  ) else
  M.bind (M.nox (m_law_whole found_.1)) fun r1 =>
  M.bind (M.nox (if (!r1) = true then M.ok true else (M.bind (M.nox (m_law_whole found_.2)) fun r3 => .ok ((!r3) || (decide (found_.2 < (1 : Int))))))) fun r5 =>
  if r5 = true then (
    .ok false
  ) else
  M.bind (M.nox (m_law_divisor found_.1 found_.2)) fun r7 =>
  .ok (decide (r7 = (1 : Int)))
noncomputable def m_law_bottom (many_ : Int) (total_ : Int) : M Int :=
  M.lt ((1 : Int) : Int) fun bottom_ =>
  M.gd (rngOk 0 total_) <|
  M.bind (forM (fun (x2 : Int) (s4 : Int) => (
    M.gd (mulOk s4 (((2 : Int) * x2) + many_)) <|
    M.lt ((s4 * (((2 : Int) * x2) + many_)) : Int) fun bottom_ =>
    .ok bottom_
  )) (rng 0 1 (total_).toNat) bottom_) fun (s4 : Int) =>
  .ok s4
noncomputable def m_law_over (some_ : (List Int)) (bottom_ : Int) : M Int :=
  M.bind (m_worth some_) fun found_ =>
  M.bind (M.nox (m_law_is_fraction found_)) fun r1 =>
  M.bind (M.nox (if (!r1) = true then M.ok true else (M.bind (M.nox (if (decide (found_.1 < (1 : Int))) = true then M.ok true else (M.gd (decide (0 < found_.2)) <| .ok (!decide ((bottom_ % found_.2) = (0 : Int)))))) fun r4 => .ok r4))) fun r6 =>
  if r6 = true then (
    .ok (0 : Int)
  ) else
  M.gd (divOk found_.2) <|
  M.gd (mulOk found_.1 (bottom_ / found_.2)) <|
  .ok (found_.1 * (bottom_ / found_.2))
noncomputable def m_law_more (some_ : (List Int)) (place_ : Int) : M (List Int) :=
  M.bind (M.ofO (atI some_ place_)) fun r1 =>
  M.gd (catOk (cut some_ none (some place_)) [(r1 + (1 : Int))]) <|
  M.gd (catOk ((cut some_ none (some place_)) ++ [(r1 + (1 : Int))]) (cut some_ (some (place_ + (1 : Int))) none)) <|
  .ok (((cut some_ none (some place_)) ++ [(r1 + (1 : Int))]) ++ (cut some_ (some (place_ + (1 : Int))) none))
noncomputable def m_law_next (some_ : (List Int)) : M Bool :=
  M.lt (((some_).length : Int) : Int) fun many_ =>
  M.bind (m_law_bottom many_ ((some_).sum + (1 : Int))) fun bottom_ =>
  M.gd (rngOk 0 many_) <|
  M.gd (lenLt (rng 0 1 (many_).toNat)) <|
  M.bind (M.nox (compM (fun _ => .ok true) (fun place_ => M.bind (M.nox (m_law_more some_ place_)) fun r3 => M.bind (M.nox (m_law_over r3 bottom_)) fun r5 => .ok (r5)) (rng 0 1 (many_).toNat))) fun found_ =>
  M.bind (M.ofO (hdTl found_)) fun r7 =>
  M.bind (M.nox (if (decide ((0 : Int) < (minL r7.1 r7.2))) = true then M.nox (M.bind (M.nox (m_law_over some_ bottom_)) fun r9 => .ok (decide ((found_).sum = r9))) else M.ok false)) fun r11 =>
  .ok r11
noncomputable def m_law_all (many_ : Int) (total_ : Int) : M (List (List Int × Int)) :=
  M.lt ([] : (List (List Int × Int))) fun found_ =>
  M.gd (repOk [(0 : Int)] many_) <|
  M.gd (lenLt found_) <|
  M.lt (tput found_ (repS [(0 : Int)] many_) (1 : Int)) fun found_ =>
  M.gd (rngOk 0 total_) <|
  M.bind (forM (fun (x4 : Int) (s6 : (List (List Int × Int))) => (
    M.lt ([] : (List (List Int × Int))) fun longer_ =>
    M.bind (M.nox (forM (fun (x7 : (List Int)) (s8 : (List (List Int × Int))) => (
      M.gd (rngOk 0 many_) <|
      M.bind (forM (fun (x10 : Int) (s12 : (List (List Int × Int))) => (
        M.bind (M.nox (m_law_more x7 x10)) fun r13 =>
        M.lt (r13 : (List Int)) fun key_ =>
        M.bind (M.ofO (tget s6 x7)) fun r15 =>
        M.gd (lenLt s12) <|
        M.lt (tput s12 key_ (((tget s12 key_).getD (0 : Int)) + r15)) fun longer_ =>
        .ok longer_
      )) (rng 0 1 (many_).toNat) s8) fun (s12 : (List (List Int × Int))) =>
      .ok s12
    )) ((s6).map (·.1)) longer_)) fun (s8 : (List (List Int × Int))) =>
    M.lt (s8 : (List (List Int × Int))) fun found_ =>
    .ok found_
  )) (rng 0 1 (total_).toNat) found_) fun (s6 : (List (List Int × Int))) =>
  .ok s6
noncomputable def m_law (script_ : (List Int)) : M Bool :=
  M.bind (m_law_cell_at script_ (0 : Int)) fun cell_ =>
  M.lt (((2 : Int) + (cell_ % (5 : Int))) : Int) fun many_ =>
  M.gd (repOk [(0 : Int)] many_) <|
  M.lt ((repS [(0 : Int)] many_) : (List Int)) fun some_ =>
  M.bind (forM (fun (x2 : Int) (s3 : (List Int)) => (
    M.gd (decide (0 < many_)) <|
    M.bind (m_law_more s3 (x2 % many_)) fun some_ =>
    .ok some_
  )) (cut script_ (some (1 : Int)) (some (61 : Int))) some_) fun (s3 : (List Int)) =>
  M.bind (M.nox (m_law_next s3)) fun r5 =>
  if (!r5) = true then (
    .ok false
  ) else
  M.bind (M.ofO (atI [(8 : Int), (5 : Int), (4 : Int), (3 : Int), (3 : Int)] (many_ - (2 : Int)))) fun r7 =>
  M.gd (decide (0 < (r7 + (1 : Int)))) <|
  M.lt (((cell_ / (5 : Int)) % (r7 + (1 : Int))) : Int) fun total_ =>
  M.bind (m_law_bottom many_ total_) fun bottom_ =>
  M.bind (m_law_all many_ total_) fun table_ =>
  M.nox <|
    M.gd (lenLt ((table_).map (·.1))) <|
    M.bind (M.nox (compM (fun _ => .ok true) (fun key_ => M.bind (M.ofO (tget table_ key_)) fun r11 => M.bind (M.nox (m_law_over key_ bottom_)) fun r13 => M.gd (mulOk r11 r13) <| .ok ((r11 * r13))) ((table_).map (·.1)))) fun r16 =>
    .ok (decide ((r16).sum = bottom_))
end B
namespace B
open PySem PySem.Spec PyProof.Rows L2
section
variable {P : Program} {w : World} {K : PySem.W.Frag} {mg : Str → Option Value} {base : Heap}
def R_greatest_divisor : List Dat → Res → Prop := fun ds o => ∃ (one_ : Int) (other_ : Int), ds = [Dat.int one_, Dat.int other_] ∧ Rm Dat.int (m_greatest_divisor one_ other_) o
theorem ok_greatest_divisor (T : Txt K mg)  (D : Df K mg "greatest_divisor" s_greatest_divisor ["one", "other"]) : GFn P w K mg base "greatest_divisor" 1 R_greatest_divisor := by
  refine GFn.mk2 D sc_greatest_divisor (fun ds o h => by obtain ⟨_, _, rfl, _⟩ := h; rfl) fun f cdv A outer s H E hr ds o hR => ?_
  obtain ⟨one_, other_, rfl, hm⟩ := hR
  refine ⟨_, (.im ((fun _ => rfl) _) (.im ((fun _ => rfl) _) .nil)), fun H0 => ends_m (k := 2) (en := Dat.int) ?_ o hm⟩
  unfold m_greatest_divisor
  refine xm_set (en := Dat.int) 0 (ev_abs (ev_name 0 rfl) T.b_abs) sc_greatest_divisor.nd (fun one_ => ?_)
  refine xm_set (en := Dat.int) 1 (ev_abs (ev_name 1 rfl) T.b_abs) sc_greatest_divisor.nd (fun other_ => ?_)
  refine xm_while (eS := (fun (s : Int × Int) => [.im (Dat.int s.1), .im (Dat.int s.2)])) (passes_of rfl) rfl (fun s1 => (etm_ok (et_ne (ev_name 1 rfl) ev_int))) (fun s1 => ?_) (fun s1 => ?_)
  · refine xm_gd fun h2 => ?_
    refine xm_par2 (ea := Dat.int) (eb := Dat.int) 0 1 (ev_name 1 rfl) (ev_mod (ev_name 0 rfl) (ev_name 1 rfl) (of_decide_eq_true h2)) sc_greatest_divisor.nd rfl (by decide) (fun q3 => ?_)
    exact xm_end []
  exact xm_ret (ev_name 0 rfl)
def R_fraction : List Dat → Res → Prop := fun ds o => ∃ (top_ : Int) (bottom_ : Int), ds = [Dat.int top_, Dat.int bottom_] ∧ Rm (tup2 Dat.int Dat.int) (m_fraction top_ bottom_) o
theorem ok_fraction (T : Txt K mg) (G_greatest_divisor : GFn P w K mg base "greatest_divisor" 1 R_greatest_divisor) (D : Df K mg "fraction" s_fraction ["top", "bottom"]) : GFn P w K mg base "fraction" 2 R_fraction := by
  refine GFn.mk2 D sc_fraction (fun ds o h => by obtain ⟨_, _, rfl, _⟩ := h; rfl) fun f cdv A outer s H E hr ds o hR => ?_
  obtain ⟨top_, bottom_, rfl, hm⟩ := hR
  refine ⟨_, (.im ((fun _ => rfl) _) (.im ((fun _ => rfl) _) .nil)), fun H0 => ends_m (k := 3) (en := (tup2 Dat.int Dat.int)) ?_ o hm⟩
  unfold m_fraction
  refine xm_ifX (fun _ => trivial) (et_eq (ev_name 1 rfl) ev_int) (fun hc => ?_) (fun hc => ?_)
  · -- raise NoFraction('a bottom that is 0')
    exact xm_raise T.e_NoFraction rfl
  refine xm_setM (eb := Dat.int) 2 (evm_call (en := Dat.int) G_greatest_divisor (by exact hr.mono (by first | decide | omega)) (eab_cons (Ev.toB (ev_name 0 rfl)) (eab_cons (Ev.toB (ev_name 1 rfl)) eab_nil)) (fun o q => ⟨top_, bottom_, rfl, q⟩)) sc_fraction.nd (fun many_ => ?_)
  refine xm_ifN (eS := (fun (s : Int) => [.im (Dat.int top_), .im (Dat.int bottom_), .im (Dat.int s)])) (et_lt (ev_name 1 rfl) ev_int) (fun hc => ?_) (fun hc => ?_) (fun s1 => ?_)
  · -- many = -many
    refine xm_set (en := Dat.int) 2 (ev_neg (ev_name 2 rfl)) sc_fraction.nd (fun many_ => ?_)
    exact xm_end []
  · exact xm_end []
  refine xm_gd fun h2 => ?_
  refine xm_gd fun h3 => ?_
  exact xm_ret (ev_tup (ea_cons (ev_fdivN (ev_name 0 rfl) (ev_name 2 rfl) (fdivOk_1 h2) (fdivOk_2 h2)) (ea_cons (ev_fdivN (ev_name 1 rfl) (ev_name 2 rfl) (fdivOk_1 h3) (fdivOk_2 h3)) ea_nil)) (by show 2 ≤ sizeLine; decide))
def R_odd_product : List Dat → Res → Prop := fun ds o => ∃ (many_ : Int), ds = [Dat.int many_] ∧ Rm Dat.int (m_odd_product many_) o
theorem ok_odd_product (T : Txt K mg)  (D : Df K mg "odd_product" s_odd_product ["many"]) : GFn P w K mg base "odd_product" 1 R_odd_product := by
  refine GFn.mk2 D sc_odd_product (fun ds o h => by obtain ⟨_, rfl, _⟩ := h; rfl) fun f cdv A outer s H E hr ds o hR => ?_
  obtain ⟨many_, rfl, hm⟩ := hR
  refine ⟨_, (.im ((fun _ => rfl) _) .nil), fun H0 => ends_m (k := 3) (en := Dat.int) ?_ o hm⟩
  unfold m_odd_product
  refine xm_set (en := Dat.int) 1 ev_int sc_odd_product.nd (fun found_ => ?_)
  refine xm_gd fun h3 => ?_
  refine xm_for (ea := Dat.int) (eS := (fun (s : Int) => [.im (Dat.int many_), .im (Dat.int s), .no])) (passes_of rfl) rfl (itm_r1 (ev_name 0 rfl) h3 T.b_range) (tg_name 2 sc_odd_product.nd) (fun _ _ => trivial) rfl (fun x2 s4 => ?_) (fun s4 => ?_)
  · refine xm_gd fun h5 => ?_
    refine xm_set (en := Dat.int) 1 (ev_mul (ev_name 1 rfl) (ev_add (ev_mul ev_int (ev_name 2 rfl) (mul_l (by decide) (by decide))) ev_int) (mulOk_ok h5)) sc_odd_product.nd (fun found_ => ?_)
    exact xm_end [2]
  exact xm_ret (ev_name 1 rfl)
def R_worth : List Dat → Res → Prop := fun ds o => ∃ (counts_ : (List Int)), ds = [(lstd Dat.int) counts_] ∧ Rm (tup2 Dat.int Dat.int) (m_worth counts_) o
theorem ok_worth (T : Txt K mg) (G_fraction : GFn P w K mg base "fraction" 2 R_fraction) (G_odd_product : GFn P w K mg base "odd_product" 1 R_odd_product) (D : Df K mg "worth" s_worth ["counts"]) : GFn P w K mg base "worth" 3 R_worth := by
  refine GFn.mk2 D sc_worth (fun ds o h => by obtain ⟨_, rfl, _⟩ := h; rfl) fun f cdv A outer s H E hr ds o hR => ?_
  obtain ⟨counts_, rfl, hm⟩ := hR
  refine ⟨_, (.ol .nil), fun H0 => ends_m (k := 5) (en := (tup2 Dat.int Dat.int)) ?_ o hm⟩
  unfold m_worth
  refine xm_set (en := Dat.int) 1 ev_int sc_worth.nd (fun top_ => ?_)
  refine xm_for (ea := Dat.int) (eS := (fun (s : Int) => [.ol ((lstd Dat.int) counts_), .im (Dat.int s), .no, .no, .no])) (passes_of rfl) rfl (itm_ol (fun _ => rfl) 0 rfl) (tg_name 2 sc_worth.nd) (fun _ _ => trivial) rfl (fun x1 s2 => ?_) (fun s2 => ?_)
  · refine xm_bind fun r3 h4 => ?_
    refine xm_gd fun h5 => ?_
    refine xm_set (en := Dat.int) 1 (ev_mul (ev_name 1 rfl) (by exact evm_get (en := Dat.int) (v := r3) (evm_call (en := Dat.int) G_odd_product (by exact hr.mono (by first | decide | omega)) (eab_cons (Ev.toB (ev_name 2 rfl)) eab_nil) (fun o q => ⟨x1, rfl, q⟩)) h4) (mulOk_ok h5)) sc_worth.nd (fun top_ => ?_)
    exact xm_end [2]
  refine xm_set (en := Dat.int) 3 ev_int sc_worth.nd (fun bottom_ => ?_)
  refine xm_gd fun h8 => ?_
  refine xm_for (ea := Dat.int) (eS := (fun (s : Int) => [.ol ((lstd Dat.int) counts_), .im (Dat.int s2), .no, .im (Dat.int s), .no])) (passes_of rfl) rfl (itm_r1 (ev_sum (eb_name_ol 0 rfl) rfl T.b_sum) h8 T.b_range) (tg_name 4 sc_worth.nd) (fun _ _ => trivial) rfl (fun x7 s9 => ?_) (fun s9 => ?_)
  · refine xm_gd fun h10 => ?_
    refine xm_set (en := Dat.int) 3 (ev_mul (ev_name 3 rfl) (ev_add (ev_mul ev_int (ev_name 4 rfl) (mul_l (by decide) (by decide))) (ev_lenm (eb_name_ol 0 rfl) T.b_len)) (mulOk_ok h10)) sc_worth.nd (fun bottom_ => ?_)
    exact xm_end [4]
  exact xm_retM (eb := (tup2 Dat.int Dat.int)) (evm_call (en := (tup2 Dat.int Dat.int)) G_fraction (by exact hr.mono (by first | decide | omega)) (eab_cons (Ev.toB (ev_name 1 rfl)) (eab_cons (Ev.toB (ev_name 3 rfl)) eab_nil)) (fun o q => ⟨s2, s9, rfl, q⟩))
def R_law_cell_at : List Dat → Res → Prop := fun ds o => ∃ (script_ : (List Int)) (k_ : Int), ds = [(lstd Dat.int) script_, Dat.int k_] ∧ Rm Dat.int (m_law_cell_at script_ k_) o
theorem ok_law_cell_at (T : Txt K mg)  (D : Df K mg "_law_cell_at" s_law_cell_at ["script", "k"]) : GFn P w K mg base "_law_cell_at" 1 R_law_cell_at := by
  refine GFn.mk2 D sc_law_cell_at (fun ds o h => by obtain ⟨_, _, rfl, _⟩ := h; rfl) fun f cdv A outer s H E hr ds o hR => ?_
  obtain ⟨script_, k_, rfl, hm⟩ := hR
  refine ⟨_, (.ol (.im ((fun _ => rfl) _) .nil)), fun H0 => ends_m (k := 2) (en := Dat.int) ?_ o hm⟩
  unfold m_law_cell_at
  refine xm_ifX (fun _ => trivial) (et_lt (ev_name 1 rfl) (ev_lenm (eb_name_ol 0 rfl) T.b_len)) (fun hc => ?_) (fun hc => ?_)
  · refine xm_ofO fun r1 h2 => ?_
    exact xm_ret (EvB.flat (eb_ixLm (en := Dat.int) (eb_name_ol 0 rfl) (ev_name 1 rfl) h2) ((fun _ => rfl) _))
  exact xm_ret ev_int
def R_law_whole : List Dat → Res → Prop := fun ds o => ∃ (thing_ : Int), ds = [Dat.int thing_] ∧ Rm Dat.bl (m_law_whole thing_) o
theorem ok_law_whole (T : Txt K mg)  (D : Df K mg "_law_whole" s_law_whole ["thing"]) : GFn P w K mg base "_law_whole" 1 R_law_whole := by
  refine GFn.mk2 D sc_law_whole (fun ds o h => by obtain ⟨_, rfl, _⟩ := h; rfl) fun f cdv A outer s H E hr ds o hR => ?_
  obtain ⟨thing_, rfl, hm⟩ := hR
  refine ⟨_, (.im ((fun _ => rfl) _) .nil), fun H0 => ends_m (k := 1) (en := Dat.bl) ?_ o hm⟩
  unfold m_law_whole
  exact xm_ret (ev_andB (ev_to (d := Dat.bl true) (ev_isi_int (d := Dat.int thing_) (Ev.toB (ev_name 0 rfl)) T.b_isinstance T.b_int) rfl) fun hq => (ev_one (ev_not (ev_to (d := Dat.bl false) (ev_isi_bool (d := Dat.int thing_) (Ev.toB (ev_name 0 rfl)) T.b_isinstance T.b_bool) rfl))))
def R_law_divisor : List Dat → Res → Prop := fun ds o => ∃ (one_ : Int) (other_ : Int), ds = [Dat.int one_, Dat.int other_] ∧ Rm Dat.int (m_law_divisor one_ other_) o
theorem ok_law_divisor (T : Txt K mg)  (D : Df K mg "_law_divisor" s_law_divisor ["one", "other"]) : GFn P w K mg base "_law_divisor" 1 R_law_divisor := by
  refine GFn.mk2 D sc_law_divisor (fun ds o h => by obtain ⟨_, _, rfl, _⟩ := h; rfl) fun f cdv A outer s H E hr ds o hR => ?_
  obtain ⟨one_, other_, rfl, hm⟩ := hR
  refine ⟨_, (.im ((fun _ => rfl) _) (.im ((fun _ => rfl) _) .nil)), fun H0 => ends_m (k := 2) (en := Dat.int) ?_ o hm⟩
  unfold m_law_divisor
  refine xm_while (eS := (fun (s : Int × Int) => [.im (Dat.int s.1), .im (Dat.int s.2)])) (passes_of rfl) rfl (fun s1 => (etm_ok (et_ne (ev_name 1 rfl) ev_int))) (fun s1 => ?_) (fun s1 => ?_)
  · refine xm_gd fun h2 => ?_
    refine xm_par2 (ea := Dat.int) (eb := Dat.int) 0 1 (ev_name 1 rfl) (ev_mod (ev_name 0 rfl) (ev_name 1 rfl) (of_decide_eq_true h2)) sc_law_divisor.nd rfl (by decide) (fun q3 => ?_)
    exact xm_end []
  exact xm_ret (ev_abs (ev_name 0 rfl) T.b_abs)
def R_law_is_fraction : List Dat → Res → Prop := fun ds o => ∃ (found_ : (Int × Int)), ds = [(tup2 Dat.int Dat.int) found_] ∧ Rm Dat.bl (m_law_is_fraction found_) o
theorem ok_law_is_fraction (T : Txt K mg) (G_law_divisor : GFn P w K mg base "_law_divisor" 1 R_law_divisor) (G_law_whole : GFn P w K mg base "_law_whole" 1 R_law_whole) (D : Df K mg "_law_is_fraction" s_law_is_fraction ["found"]) : GFn P w K mg base "_law_is_fraction" 2 R_law_is_fraction := by
  refine GFn.mk2 D sc_law_is_fraction (fun ds o h => by obtain ⟨_, rfl, _⟩ := h; rfl) fun f cdv A outer s H E hr ds o hR => ?_
  obtain ⟨found_, rfl, hm⟩ := hR
  refine ⟨_, (.im ((fun _ => rfl) _) .nil), fun H0 => ends_m (k := 1) (en := Dat.bl) ?_ o hm⟩
  unfold m_law_is_fraction
  refine xm_ifX (fun _ => trivial) (EvW.t (ew_or (et_not (et_val (ev_to (d := Dat.bl true) (ev_isi_tuple (d := (tup2 Dat.int Dat.int) found_) (Ev.toB (ev_name 0 rfl)) T.b_isinstance T.b_tuple) rfl))) fun hq => (ew_or1 (et_ne (ev_len (Ev.toB (ev_name 0 rfl)) rfl T.b_len) ev_int)))) (fun hc => ?_) (fun hc => ?_)
  · -- return False
    exact xm_ret ev_bl
  refine xm_bind fun r1 h2 => ?_
  refine xm_bind fun r5 h6 => ?_
  refine xm_ifX (fun _ => trivial) (EvW.t (ewm_get (ewm_or (et_not (et_val (by exact evm_get (en := Dat.bl) (v := r1) (evm_call (en := Dat.bl) G_law_whole (by exact hr.mono (by first | decide | omega)) (eab_cons (Ev.toB (ev_ixT (ev_name 0 rfl) ev_int (by rfl))) eab_nil) (fun o q => ⟨found_.1, rfl, q⟩)) h2))) (fun hq => (ewm_bind fun r3 h4 => (ewm_ok (ew_or (et_not (et_val (by exact evm_get (en := Dat.bl) (v := r3) (evm_call (en := Dat.bl) G_law_whole (by exact hr.mono (by first | decide | omega)) (eab_cons (Ev.toB (ev_ixT (ev_name 0 rfl) ev_int (by rfl))) eab_nil) (fun o q => ⟨found_.2, rfl, q⟩)) h4))) fun hq => (ew_or1 (et_lt (ev_ixT (ev_name 0 rfl) ev_int (by rfl)) ev_int))))))) h6)) (fun hc => ?_) (fun hc => ?_)
  · -- return False
    exact xm_ret ev_bl
  refine xm_bind fun r7 h8 => ?_
  exact xm_ret (ev_eq (by exact evm_get (en := Dat.int) (v := r7) (evm_call (en := Dat.int) G_law_divisor (by exact hr.mono (by first | decide | omega)) (eab_cons (Ev.toB (ev_ixT (ev_name 0 rfl) ev_int (by rfl))) (eab_cons (Ev.toB (ev_ixT (ev_name 0 rfl) ev_int (by rfl))) eab_nil)) (fun o q => ⟨found_.1, found_.2, rfl, q⟩)) h8) ev_int)
def R_law_bottom : List Dat → Res → Prop := fun ds o => ∃ (many_ : Int) (total_ : Int), ds = [Dat.int many_, Dat.int total_] ∧ Rm Dat.int (m_law_bottom many_ total_) o
theorem ok_law_bottom (T : Txt K mg)  (D : Df K mg "_law_bottom" s_law_bottom ["many", "total"]) : GFn P w K mg base "_law_bottom" 1 R_law_bottom := by
  refine GFn.mk2 D sc_law_bottom (fun ds o h => by obtain ⟨_, _, rfl, _⟩ := h; rfl) fun f cdv A outer s H E hr ds o hR => ?_
  obtain ⟨many_, total_, rfl, hm⟩ := hR
  refine ⟨_, (.im ((fun _ => rfl) _) (.im ((fun _ => rfl) _) .nil)), fun H0 => ends_m (k := 4) (en := Dat.int) ?_ o hm⟩
  unfold m_law_bottom
  refine xm_set (en := Dat.int) 2 ev_int sc_law_bottom.nd (fun bottom_ => ?_)
  refine xm_gd fun h3 => ?_
  refine xm_for (ea := Dat.int) (eS := (fun (s : Int) => [.im (Dat.int many_), .im (Dat.int total_), .im (Dat.int s), .no])) (passes_of rfl) rfl (itm_r1 (ev_name 1 rfl) h3 T.b_range) (tg_name 3 sc_law_bottom.nd) (fun _ _ => trivial) rfl (fun x2 s4 => ?_) (fun s4 => ?_)
  · refine xm_gd fun h5 => ?_
    refine xm_set (en := Dat.int) 2 (ev_mul (ev_name 2 rfl) (ev_add (ev_mul ev_int (ev_name 3 rfl) (mul_l (by decide) (by decide))) (ev_name 0 rfl)) (mulOk_ok h5)) sc_law_bottom.nd (fun bottom_ => ?_)
    exact xm_end [3]
  exact xm_ret (ev_name 2 rfl)
def R_law_over : List Dat → Res → Prop := fun ds o => ∃ (some_ : (List Int)) (bottom_ : Int), ds = [(lstd Dat.int) some_, Dat.int bottom_] ∧ Rm Dat.int (m_law_over some_ bottom_) o
theorem ok_law_over (T : Txt K mg) (G_worth : GFn P w K mg base "worth" 3 R_worth) (G_law_is_fraction : GFn P w K mg base "_law_is_fraction" 2 R_law_is_fraction) (D : Df K mg "_law_over" s_law_over ["some", "bottom"]) : GFn P w K mg base "_law_over" 4 R_law_over := by
  refine GFn.mk2 D sc_law_over (fun ds o h => by obtain ⟨_, _, rfl, _⟩ := h; rfl) fun f cdv A outer s H E hr ds o hR => ?_
  obtain ⟨some_, bottom_, rfl, hm⟩ := hR
  refine ⟨_, (.ol (.im ((fun _ => rfl) _) .nil)), fun H0 => ends_m (k := 3) (en := Dat.int) ?_ o hm⟩
  unfold m_law_over
  refine xm_setM (eb := (tup2 Dat.int Dat.int)) 2 (evm_call (en := (tup2 Dat.int Dat.int)) G_worth (by exact hr.mono (by first | decide | omega)) (eab_cons (Ev.toB (EvO.ev (eo_listm (fun _ => rfl) (eb_name_ol 0 rfl) T.b_list))) eab_nil) (fun o q => ⟨some_, rfl, q⟩)) sc_law_over.nd (fun found_ => ?_)
  refine xm_bind fun r1 h2 => ?_
  refine xm_bind fun r6 h7 => ?_
  refine xm_ifX (fun _ => trivial) (EvW.t (ewm_get (ewm_or (et_not (et_val (by exact evm_get (en := Dat.bl) (v := r1) (evm_call (en := Dat.bl) G_law_is_fraction (by exact hr.mono (by first | decide | omega)) (eab_cons (Ev.toB (ev_name 2 rfl)) eab_nil) (fun o q => ⟨found_, rfl, q⟩)) h2))) (fun hq => (ewm_bind fun r4 h5 => (ewm_ok (ewm_get (ewm_or (et_lt (ev_ixT (ev_name 2 rfl) ev_int (by rfl)) ev_int) (fun hq => (ewm_gd fun h3 => (ewm_ok (ew_or1 (et_ne (ev_mod (ev_name 1 rfl) (ev_ixT (ev_name 2 rfl) ev_int (by rfl)) (of_decide_eq_true h3)) ev_int)))))) h5))))) h7)) (fun hc => ?_) (fun hc => ?_)
  · -- return 0
    exact xm_ret ev_int
  refine xm_gd fun h8 => ?_
  refine xm_gd fun h9 => ?_
  exact xm_ret (ev_mul (ev_ixT (ev_name 2 rfl) ev_int (by rfl)) (ev_fdiv (ev_name 1 rfl) (ev_ixT (ev_name 2 rfl) ev_int (by rfl)) (divOk_1 h8) (divOk_2 h8)) (mulOk_ok h9))
def R_law_more : List Dat → Res → Prop := fun ds o => ∃ (some_ : (List Int)) (place_ : Int), ds = [(lstd Dat.int) some_, Dat.int place_] ∧ RmO (lstd Dat.int) (m_law_more some_ place_) o
theorem ok_law_more (T : Txt K mg)  (D : Df K mg "_law_more" s_law_more ["some", "place"]) : GFn P w K mg base "_law_more" 1 R_law_more := by
  refine GFn.mk2 D sc_law_more (fun ds o h => by obtain ⟨_, _, rfl, _⟩ := h; rfl) fun f cdv A outer s H E hr ds o hR => ?_
  obtain ⟨some_, place_, rfl, hm⟩ := hR
  refine ⟨_, (.ol (.im ((fun _ => rfl) _) .nil)), fun H0 => ends_mO (k := 2) (en := (lstd Dat.int)) ?_ o hm⟩
  unfold m_law_more
  refine xm_ofO fun r1 h2 => ?_
  refine xm_gd fun h3 => ?_
  refine xm_gd fun h4 => ?_
  exact xm_retO (eo_catLm (en := Dat.int) (eo_catLm (en := Dat.int) (eo_slLm (en := Dat.int) (l := some_) (fun _ => rfl) (eb_name_ol 0 rfl) eo_none (eo_some (ev_name 1 rfl))) (eo_lst (ea_cons (ev_add (EvB.flat (eb_ixLm (en := Dat.int) (eb_name_ol 0 rfl) (ev_name 1 rfl) h2) ((fun _ => rfl) _)) ev_int) ea_nil) (by show 1 ≤ sizeLine; decide)) h3) (eo_slLm (en := Dat.int) (l := some_) (fun _ => rfl) (eb_name_ol 0 rfl) (eo_some (ev_add (ev_name 1 rfl) ev_int)) eo_none) h4)
def R_law_next : List Dat → Res → Prop := fun ds o => ∃ (some_ : (List Int)), ds = [(lstd Dat.int) some_] ∧ Rm Dat.bl (m_law_next some_) o
theorem ok_law_next (T : Txt K mg) (G_law_bottom : GFn P w K mg base "_law_bottom" 1 R_law_bottom) (G_law_over : GFn P w K mg base "_law_over" 4 R_law_over) (G_law_more : GFn P w K mg base "_law_more" 1 R_law_more) (D : Df K mg "_law_next" s_law_next ["some"]) : GFn P w K mg base "_law_next" 5 R_law_next := by
  refine GFn.mk2 D sc_law_next (fun ds o h => by obtain ⟨_, rfl, _⟩ := h; rfl) fun f cdv A outer s H E hr ds o hR => ?_
  obtain ⟨some_, rfl, hm⟩ := hR
  refine ⟨_, (.ol .nil), fun H0 => ends_m (k := 5) (en := Dat.bl) ?_ o hm⟩
  unfold m_law_next
  refine xm_set (en := Dat.int) 1 (ev_lenm (eb_name_ol 0 rfl) T.b_len) sc_law_next.nd (fun many_ => ?_)
  refine xm_setM (eb := Dat.int) 2 (evm_call (en := Dat.int) G_law_bottom (by exact hr.mono (by first | decide | omega)) (eab_cons (Ev.toB (ev_name 1 rfl)) (eab_cons (Ev.toB (ev_add (ev_sum (eb_name_ol 0 rfl) rfl T.b_sum) ev_int)) eab_nil)) (fun o q => ⟨many_, ((some_).sum + (1 : Int)), rfl, q⟩)) sc_law_next.nd (fun bottom_ => ?_)
  refine xm_gd fun h1 => ?_
  refine xm_gd fun h2 => ?_
  refine xm_setLcM (xn := "place") (ea := Dat.int) (eb := Dat.int) 3 4 inj_int rfl sc_law_next.nd (itm_r1 (ev_name 1 rfl) h1 T.b_range) rfl rfl (fun _ _ _ _ _ => pg_name sc_law_next.nd rfl (by first | exact Or.inl rfl | exact Or.inr rfl)) (.inl ⟨rfl, fun _ => rfl⟩) (fun H0' s' H' C' cl' fp' hs' place_ => (evm_bind fun r3 h4 => (evm_bind fun r5 h6 => (evm_ok (by exact evm_get (en := Dat.int) (v := r5) (evm_call (en := Dat.int) G_law_over (by exact hr.mono (by first | decide | omega)) (eab_cons (Ev.toB (EvO.ev (by exact eom_get (en := (lstd Dat.int)) (v := r3) (eom_call (en := (lstd Dat.int)) G_law_more (by exact hr.mono (by first | decide | omega)) (eab_cons (eb_name_ol 0 rfl) (eab_cons (Ev.toB (ev_name 4 rfl)) eab_nil)) (fun o q => ⟨some_, place_, rfl, q⟩)) h4))) (eab_cons (Ev.toB (ev_name 2 rfl)) eab_nil)) (fun o q => ⟨r3, bottom_, rfl, q⟩)) h6))))) h2 (fun found_ => ?_)
  refine xm_ofO fun r7 h8 => ?_
  refine xm_bind fun r11 h12 => ?_
  exact xm_ret (evm_get (evm_and (ev_gt (ev_minL (eb_name_ow 3 rfl) (hdTl_ok h8) (hu_of hr) rfl T.b_min) ev_int) (fun hq => evm_nox (evm_bind fun r9 h10 => (evm_ok (ev_one (ev_eq (ev_sum (eb_name_ow 3 rfl) rfl T.b_sum) (by exact evm_get (en := Dat.int) (v := r9) (evm_call (en := Dat.int) G_law_over (by exact hr.mono (by first | decide | omega)) (eab_cons (eb_name_ol 0 rfl) (eab_cons (Ev.toB (ev_name 2 rfl)) eab_nil)) (fun o q => ⟨some_, bottom_, rfl, q⟩)) h10)))))) nox_ne) h12)
def R_law_all : List Dat → Res → Prop := fun ds o => ∃ (many_ : Int) (total_ : Int), ds = [Dat.int many_, Dat.int total_] ∧ Rm (ditd Dat.int) (m_law_all many_ total_) o
theorem ok_law_all (T : Txt K mg) (G_law_more : GFn P w K mg base "_law_more" 1 R_law_more) (D : Df K mg "_law_all" s_law_all ["many", "total"]) : GFn P w K mg base "_law_all" 2 R_law_all := by
  refine GFn.mk2 D sc_law_all (fun ds o h => by obtain ⟨_, _, rfl, _⟩ := h; rfl) fun f cdv A outer s H E hr ds o hR => ?_
  obtain ⟨many_, total_, rfl, hm⟩ := hR
  refine ⟨_, (.im ((fun _ => rfl) _) (.im ((fun _ => rfl) _) .nil)), fun H0 => ends_m (k := 8) (en := (ditd Dat.int)) ?_ o hm⟩
  unfold m_law_all
  refine xm_setO (en := (ditd Dat.int)) 2 ?_ sc_law_all.nd (fun found_ => ?_)
  · exact (eo_dit0 (en := Dat.int))
  refine xm_gd fun h1 => ?_
  refine xm_gd fun h2 => ?_
  refine xm_tput (en := Dat.int) 2 ev_int (ev_tupleI (Ev.toB (EvO.ev (eo_repOm (en := Dat.int) (l := [(0 : Int)]) (eo_lst (ea_cons ev_int ea_nil) (by show 1 ≤ sizeLine; decide)) (ev_name 0 rfl) h1))) T.b_tuple) h2 (hu_of hr) (fun found_ => ?_)
  refine xm_freeze 2 rfl ?_
  refine xm_gd fun h5 => ?_
  refine xm_for (ea := Dat.int) (eS := (fun (s : (List (List Int × Int))) => [.im (Dat.int many_), .im (Dat.int total_), .im ((ditd Dat.int) s), .no, .no, .no, .no, .no])) (passes_of rfl) rfl (itm_r1 (ev_name 1 rfl) h5 T.b_range) (tg_name 3 sc_law_all.nd) (fun _ _ => trivial) rfl (fun x4 s6 => ?_) (fun s6 => ?_)
  · -- longer = {}
    refine xm_setO (en := (ditd Dat.int)) 4 ?_ sc_law_all.nd (fun longer_ => ?_)
    · exact (eo_dit0 (en := Dat.int))
    refine xm_drops [3] ?_
    refine xm_forT (en := Dat.int) (eS := (fun (s : (List (List Int × Int))) => [.im (Dat.int many_), .im (Dat.int total_), .im ((ditd Dat.int) s6), .no, .ow ((ditd Dat.int) s), .no, .no, .no])) 2 (passes_of rfl) rfl rfl (tg_name 5 sc_law_all.nd) (fun _ _ => trivial) rfl (fun x7 s8 => ?_) (fun s8 => ?_)
    · refine xm_gd fun h11 => ?_
      refine xm_for (ea := Dat.int) (eS := (fun (s : (List (List Int × Int))) => [.im (Dat.int many_), .im (Dat.int total_), .im ((ditd Dat.int) s6), .no, .ow ((ditd Dat.int) s), .im (tixd x7), .no, .no])) (passes_of rfl) rfl (itm_r1 (ev_name 0 rfl) h11 T.b_range) (tg_name 6 sc_law_all.nd) (fun _ _ => trivial) rfl (fun x10 s12 => ?_) (fun s12 => ?_)
      · refine xm_bind fun r13 h14 => ?_
        refine xm_set (en := tixd) 7 (ev_tupleI (Ev.toB (EvO.ev (by exact eom_get (en := (lstd Dat.int)) (v := r13) (eom_call (en := (lstd Dat.int)) G_law_more (by exact hr.mono (by first | decide | omega)) (eab_cons (Ev.toB (EvO.ev (eo_listTm (fun _ => rfl) (Ev.toB (ev_tixT (ev_name 5 rfl))) T.b_list))) (eab_cons (Ev.toB (ev_name 6 rfl)) eab_nil)) (fun o q => ⟨x7, x10, rfl, q⟩)) h14))) T.b_tuple) sc_law_all.nd (fun key_ => ?_)
        refine xm_ofO fun r15 h16 => ?_
        refine xm_gd fun h17 => ?_
        refine xm_tput (en := Dat.int) 4 (ev_add (ev_tget2w (en := Dat.int) (l := s12) 4 (ev_name 7 rfl) ev_int (hu_of hr)) (ev_tgetm (en := Dat.int) (ev_name 2 rfl) (ev_name 5 rfl) h16 (hu_of hr))) (ev_name 7 rfl) h17 (hu_of hr) (fun longer_ => ?_)
        exact xm_end [6, 7]
      exact xm_end [5]
    refine xm_freeze 4 rfl ?_
    refine xm_set (en := (ditd Dat.int)) 2 (ev_name 4 rfl) sc_law_all.nd (fun found_ => ?_)
    exact xm_end [4]
  exact xm_ret (ev_name 2 rfl)
def R_lawm : List Dat → Res → Prop := fun ds o => ∃ (script_ : (List Int)), ds = [(lstd Dat.int) script_] ∧ Rm Dat.bl (m_law script_) o
theorem ok_law {f : Addr} {fd : FuncData} (T : Txt K mg) (G_law_cell_at : GFn P w K mg base "_law_cell_at" 1 R_law_cell_at) (G_law_bottom : GFn P w K mg base "_law_bottom" 1 R_law_bottom) (G_law_all : GFn P w K mg base "_law_all" 2 R_law_all) (G_law_more : GFn P w K mg base "_law_more" 1 R_law_more) (G_law_next : GFn P w K mg base "_law_next" 5 R_law_next) (G_law_over : GFn P w K mg base "_law_over" 4 R_law_over) (F : Fun K "law" "law" s_law f fd) : FnOk P w K mg base (L2.CX P w) 6 f fd ["script"] (spR K mg R_lawm) := by
  refine fn_mk2 F sc_law (fun ds o h => by obtain ⟨_, rfl, _⟩ := h; rfl) fun f cdv A outer s H E hr ds o hR => ?_
  obtain ⟨script_, rfl, hm⟩ := hR
  refine ⟨_, (.ol .nil), fun H0 => ends_m (k := 9) (en := Dat.bl) ?_ o hm⟩
  unfold m_law
  refine xm_setM (eb := Dat.int) 1 (evm_call (en := Dat.int) G_law_cell_at (by exact hr.mono (by first | decide | omega)) (eab_cons (eb_name_ol 0 rfl) (eab_cons (Ev.toB ev_int) eab_nil)) (fun o q => ⟨script_, (0 : Int), rfl, q⟩)) sc_law.nd (fun cell_ => ?_)
  refine xm_set (en := Dat.int) 2 (ev_add ev_int (ev_mod (ev_name 1 rfl) ev_int (by decide))) sc_law.nd (fun many_ => ?_)
  refine xm_gd fun h1 => ?_
  refine xm_setO (en := (lstd Dat.int)) 3 ?_ sc_law.nd (fun some_ => ?_)
  · exact (eo_repOm (en := Dat.int) (l := [(0 : Int)]) (eo_lst (ea_cons ev_int ea_nil) (by show 1 ≤ sizeLine; decide)) (ev_name 2 rfl) h1)
  refine xm_for (ea := Dat.int) (eS := (fun (s : (List Int)) => [.ol ((lstd Dat.int) script_), .im (Dat.int cell_), .im (Dat.int many_), .ow ((lstd Dat.int) s), .no, .no, .no, .no, .no])) (passes_of rfl) rfl (it_list (EvO.ev (eo_slLm (en := Dat.int) (l := script_) (fun _ => rfl) (eb_name_ol 0 rfl) (eo_some ev_int) (eo_some ev_int)))) (tg_name 4 sc_law.nd) (fun _ _ => trivial) rfl (fun x2 s3 => ?_) (fun s3 => ?_)
  · refine xm_gd fun h4 => ?_
    refine xm_setMO (eb := (lstd Dat.int)) 3 (eom_call (en := (lstd Dat.int)) G_law_more (by exact hr.mono (by first | decide | omega)) (eab_cons (eb_name_ow 3 rfl) (eab_cons (Ev.toB (ev_mod (ev_name 4 rfl) (ev_name 2 rfl) (of_decide_eq_true h4))) eab_nil)) (fun o q => ⟨s3, (x2 % many_), rfl, q⟩)) sc_law.nd (fun some_ => ?_)
    exact xm_end [4]
  refine xm_bind fun r5 h6 => ?_
  refine xm_ifX (fun _ => trivial) (et_not (et_val (by exact evm_get (en := Dat.bl) (v := r5) (evm_call (en := Dat.bl) G_law_next (by exact hr.mono (by first | decide | omega)) (eab_cons (eb_name_ow 3 rfl) eab_nil) (fun o q => ⟨s3, rfl, q⟩)) h6))) (fun hc => ?_) (fun hc => ?_)
  · -- return False
    exact xm_ret ev_bl
  refine xm_ofO fun r7 h8 => ?_
  refine xm_gd fun h9 => ?_
  refine xm_set (en := Dat.int) 5 (ev_mod (ev_fdiv (ev_name 1 rfl) ev_int (by decide) (by decide +kernel)) (ev_add (ev_ixLm (en := Dat.int) (l := [(8 : Int), (5 : Int), (4 : Int), (3 : Int), (3 : Int)]) (EvO.ev (eo_lst (ea_cons ev_int (ea_cons ev_int (ea_cons ev_int (ea_cons ev_int (ea_cons ev_int ea_nil))))) (by show 5 ≤ sizeLine; decide))) (ev_sub (ev_name 2 rfl) ev_int) h8) ev_int) (of_decide_eq_true h9)) sc_law.nd (fun total_ => ?_)
  refine xm_setM (eb := Dat.int) 6 (evm_call (en := Dat.int) G_law_bottom (by exact hr.mono (by first | decide | omega)) (eab_cons (Ev.toB (ev_name 2 rfl)) (eab_cons (Ev.toB (ev_name 5 rfl)) eab_nil)) (fun o q => ⟨many_, total_, rfl, q⟩)) sc_law.nd (fun bottom_ => ?_)
  refine xm_setM (eb := (ditd Dat.int)) 7 (evm_call (en := (ditd Dat.int)) G_law_all (by exact hr.mono (by first | decide | omega)) (eab_cons (Ev.toB (ev_name 2 rfl)) (eab_cons (Ev.toB (ev_name 5 rfl)) eab_nil)) (fun o q => ⟨many_, total_, rfl, q⟩)) sc_law.nd (fun table_ => ?_)
  refine xm_drops [0] ?_
  refine xm_lockRetT (en := Dat.int) (l := table_) 7 (noOl_of rfl) rfl (fun _ => rfl) (fun a q => by cases q; constructor) (fun H0b dd hK => ?_)
  refine xm_gd fun h10 => ?_
  refine xm_bind fun r16 h17 => ?_
  exact xm_ret (ev_eq (ev_sum (Ev.toB (EvO.ev (eo_compM (xn := "key") (ea := tixd) (eb := Dat.int) 8 inj_tix rfl sc_law.nd (it_keysT 7 rfl hK) rfl rfl (fun _ _ _ _ _ => pg_name sc_law.nd rfl (by first | exact Or.inl rfl | exact Or.inr rfl)) h17 (.inl ⟨rfl, fun _ => rfl⟩) (fun H0' s' H' C' cl' fp' hs' key_ => (evm_ofO fun r11 h12 => (evm_bind fun r13 h14 => (evm_gd fun h15 => (evm_ok (ev_mul (eb_tgetm (en := Dat.int) ((fun _ => rfl) _) (eb_keysT (en := Dat.int) (l := table_) 7 rfl (KeysTAt.mono hs' hK)) (ev_name 8 rfl) h12 (hu_of hr)) (by exact evm_get (en := Dat.int) (v := r13) (evm_call (en := Dat.int) G_law_over (by exact hr.mono (by first | decide | omega)) (eab_cons (Ev.toB (EvO.ev (eo_listTm (fun _ => rfl) (Ev.toB (ev_tixT (ev_name 8 rfl))) T.b_list))) (eab_cons (Ev.toB (ev_name 6 rfl)) eab_nil)) (fun o q => ⟨key_, bottom_, rfl, q⟩)) h14) (mulOk_ok h15))))))) h10))) rfl T.b_sum) (ev_name 6 rfl))
end
end B
namespace B
open PySem PySem.Spec PyProof.Rows L2
/-! ### the mathematics -/
/-- the fraction in lowest terms -/
def ftop (t b : Int) : Int := b.sign * (t / (Int.gcd t b : Int))
def fbot (t b : Int) : Int := (b.natAbs : Int) / (Int.gcd t b : Int)
theorem gcd_pos {t b : Int} (h : b ≠ 0) : (0 : Int) < (Int.gcd t b : Int) := by
  have : 0 < Int.gcd t b := Int.gcd_pos_of_ne_zero_right t h
  omega
theorem gcd_le {t b : Int} (h : b ≠ 0) : Int.gcd t b ≤ b.natAbs := Nat.le_of_dvd (by omega) (Int.gcd_dvd_natAbs_right t b)
theorem log2_mono {a b : Nat} (h : a ≤ b) (hb : b.log2 < 9000) : a.log2 < 9000 := by
  by_cases h0 : a = 0
  · subst h0; decide
  · have h1 : 2 ^ a.log2 ≤ a := Nat.log2_self_le h0
    have hb0 : b ≠ 0 := by omega
    have h2 : b < 2 ^ (b.log2 + 1) := Nat.lt_log2_self
    have h3 : 2 ^ a.log2 < 2 ^ (b.log2 + 1) := by omega
    have h4 : a.log2 < b.log2 + 1 := (Nat.pow_lt_pow_iff_right (by decide)).mp h3
    omega
theorem fdiv_top (t b : Int) (h : b ≠ 0) : t.fdiv (if b < 0 then -(Int.gcd t b : Int) else (Int.gcd t b : Int)) = ftop t b := by
  have g := gcd_pos (t := t) h
  have d : (Int.gcd t b : Int) ∣ t := Int.gcd_dvd_left t b
  unfold ftop
  split
  · rename_i hb
    rw [Int.fdiv_eq_ediv_of_dvd (by rwa [Int.neg_dvd]), Int.ediv_neg, Int.sign_eq_neg_one_of_neg hb]
    omega
  · rename_i hb
    rw [Int.fdiv_eq_ediv_of_dvd d, Int.sign_eq_one_of_pos (by omega)]
    omega
theorem fdiv_bot (t b : Int) (h : b ≠ 0) : b.fdiv (if b < 0 then -(Int.gcd t b : Int) else (Int.gcd t b : Int)) = fbot t b := by
  have d : (Int.gcd t b : Int) ∣ b := Int.gcd_dvd_right t b
  unfold fbot
  split
  · rename_i hb
    rw [Int.fdiv_eq_ediv_of_dvd (by rwa [Int.neg_dvd]), Int.ediv_neg, show (b.natAbs : Int) = -b by omega, Int.neg_ediv_of_dvd d]
  · rename_i hb
    rw [Int.fdiv_eq_ediv_of_dvd d, show (b.natAbs : Int) = b by omega]
theorem fbot_pos (t b : Int) (h : b ≠ 0) : 0 < fbot t b := by
  unfold fbot
  have g := gcd_pos (t := t) h
  have l := gcd_le (t := t) h
  exact Int.ediv_pos_of_pos_of_dvd (by omega) (by omega) (by rw [Int.dvd_natAbs]; exact Int.gcd_dvd_right t b)
theorem f_cross (t b : Int) : ftop t b * b = t * fbot t b := by
  unfold ftop fbot
  have h1 : (Int.gcd t b : Int) ∣ t := Int.gcd_dvd_left t b
  have h2 : (Int.gcd t b : Int) ∣ (b.natAbs : Int) := by rw [Int.dvd_natAbs]; exact Int.gcd_dvd_right t b
  have e : b.sign * b = (b.natAbs : Int) := by rw [Int.mul_comm]; exact Int.mul_sign_self b
  rw [Int.mul_right_comm, e, Int.mul_comm, ← Int.mul_ediv_assoc _ h2, Int.mul_comm, ← Int.mul_ediv_assoc _ h1, Int.mul_comm]
theorem f_coprime (t b : Int) (h : b ≠ 0) : Int.gcd (ftop t b) (fbot t b) = 1 := by
  unfold ftop fbot
  have g : 0 < Int.gcd t b := Int.gcd_pos_of_ne_zero_right t h
  have e1 : (b.sign * (t / (Int.gcd t b : Int))).natAbs = t.natAbs / Int.gcd t b := by
    rw [Int.natAbs_mul, Int.natAbs_sign, if_neg h, Nat.one_mul, Int.natAbs_ediv_of_dvd (Int.gcd_dvd_left t b), Int.natAbs_natCast]
  have e2 : ((b.natAbs : Int) / (Int.gcd t b : Int)).natAbs = b.natAbs / Int.gcd t b := by
    rw [← Int.natCast_ediv, Int.natAbs_natCast]
  show Nat.gcd _ _ = 1
  rw [e1, e2]
  exact Nat.gcd_div_gcd_div_gcd_of_pos_right (by omega)
theorem log_200 {b : Int} (h : b.natAbs < 2 ^ 200) : b.natAbs.log2 < 9000 := by
  by_cases h0 : b.natAbs = 0
  · rw [h0]; decide
  · exact Nat.lt_of_lt_of_le ((Nat.log2_lt h0).mpr h) (by decide)
theorem ftop_lt {t b : Int} (h : t.natAbs < 2 ^ 200) : (ftop t b).natAbs < 2 ^ 200 := by
  unfold ftop
  rw [Int.natAbs_mul]
  have h1 : b.sign.natAbs ≤ 1 := by rw [Int.natAbs_sign]; split <;> omega
  have h2 : (t / (Int.gcd t b : Int)).natAbs ≤ t.natAbs := by
    rw [Int.natAbs_ediv_of_dvd (Int.gcd_dvd_left t b), Int.natAbs_natCast]
    exact Nat.div_le_self _ _
  have h3 := Nat.mul_le_mul h1 h2
  omega
theorem fbot_lt {t b : Int} (h : b.natAbs < 2 ^ 200) : (fbot t b).natAbs < 2 ^ 200 := by
  unfold fbot
  rw [← Int.natCast_ediv, Int.natAbs_natCast]
  exact Nat.lt_of_le_of_lt (Nat.div_le_self _ _) h
theorem cell_ix {ns : List Int} {k : Nat} (h : k < ns.length) : atI (ns.map Dat.int) (k : Int) = some (.int (ns.getD k 0)) := by
  rw [atI_nat (v := .int (ns.getD k 0))]
  rw [List.getElem?_map, List.getD_eq_getElem?_getD, List.getElem?_eq_getElem h]
  rfl

theorem gcd_rec2 {a b : Int} : Int.gcd b (a % b) = Int.gcd a b := by rw [Int.emod_def, Int.gcd_sub_mul_left_right, Int.gcd_comm]
theorem euclid {c : Int × Int → M Bool} {f : Int × Int → M (Int × Int)} (hc : ∀ s : Int × Int, c s = .ok (!decide (s.2 = 0))) (hf : ∀ s : Int × Int, 0 < s.2 → f s = .ok (s.2, s.1 % s.2)) (a b : Int) (hb : 0 ≤ b) : ∃ x, whileM c f (b.natAbs + 2) (a, b) = .ok (x, 0) ∧ x.natAbs = Int.gcd a b ∧ (0 ≤ a → 0 ≤ x) := by
  have h := whileM_by (c := c) (f := f) (I := fun s => 0 ≤ s.2 ∧ Int.gcd s.1 s.2 = Int.gcd a b ∧ (0 ≤ a → 0 ≤ s.1)) (fun s => s.2.natAbs) (fun s hs => by
    by_cases h0 : s.2 = 0
    · left; rw [hc]; simp [h0]
    · right
      have hp : 0 < s.2 := by omega
      have e1 := Int.emod_nonneg s.1 (b := s.2) (by omega)
      have e2 := Int.emod_lt_of_pos s.1 hp
      refine ⟨by rw [hc]; simp [h0], _, hf s hp, ⟨e1, ?_, fun _ => hs.1⟩, ?_⟩
      · rw [gcd_rec2]; exact hs.2.1
      · show (s.1 % s.2).natAbs < s.2.natAbs
        omega) (b.natAbs + 2) (s := (a, b)) ⟨hb, rfl, id⟩ (by show b.natAbs < _; omega)
  obtain ⟨⟨x, y⟩, h1, ⟨h2, h3, h5⟩, h4⟩ := h
  rw [hc] at h4
  have hy : y = 0 := by simpa using h4
  subst hy
  refine ⟨x, h1, ?_, h5⟩
  rw [← h3]
  simp
theorem p_greatest_divisor (a b : Int) : m_greatest_divisor a b = .ok (Int.gcd a b : Int) := by
  unfold m_greatest_divisor
  simp only [M.lt_eq]
  obtain ⟨x, h1, h2, h3⟩ := euclid (c := fun (s1 : Int × Int) => .ok ((!(decide (s1.2 = (0 : Int)))))) (f := fun (s1 : Int × Int) => M.gd ((decide (0 < s1.2))) <| M.ok (s1.2, (s1.1 % s1.2))) (fun s => rfl) (fun s hs => by rw [M.gd_of _ (by simpa using hs)]) (a.natAbs : Int) (b.natAbs : Int) (by omega)
  rw [M.bind_of h1]
  have h4 := h3 (by omega)
  have h5 : Int.gcd (a.natAbs : Int) (b.natAbs : Int) = Int.gcd a b := by simp [Int.gcd]
  rw [h5] at h2
  show M.ok x = _
  rw [show x = (Int.gcd a b : Int) by omega]
theorem p_fraction0 (t : Int) : m_fraction t 0 = .ex "NoFraction" := by
  unfold m_fraction
  rw [if_pos (by simp)]
theorem p_fraction {t b : Int} (h : b ≠ 0) (hl : b.natAbs.log2 < 9000) : m_fraction t b = .ok (ftop t b, fbot t b) := by
  unfold m_fraction
  rw [if_neg (by simpa using h), p_greatest_divisor, M.bind_ok]
  have e1 := fdiv_top t b h
  have e2 := fdiv_bot t b h
  have g := gcd_pos (t := t) h
  have l := log2_mono (gcd_le (t := t) h) hl
  by_cases hs : b < 0
  · rw [if_pos hs] at e1 e2
    have ok : fdivOk (-(Int.gcd t b : Int)) = true := fdivOk_i (by omega) (by rw [Int.natAbs_neg]; exact l)
    rw [if_pos (by simpa using hs)]
    simp only [M.lt_eq, M.bind_ok]
    rw [M.gd_of _ ok, M.gd_of _ ok, e1, e2]
  · rw [if_neg hs] at e1 e2
    have ok : fdivOk (Int.gcd t b : Int) = true := fdivOk_i (by omega) l
    rw [if_neg (by simpa using hs)]
    simp only [M.bind_ok]
    rw [M.gd_of _ ok, M.gd_of _ ok, e1, e2]
theorem p_law_divisor (a : Int) {b : Int} (hb : 0 ≤ b) : m_law_divisor a b = .ok (Int.gcd a b : Int) := by
  unfold m_law_divisor
  simp only [M.lt_eq]
  obtain ⟨x, h1, h2, _⟩ := euclid (c := fun (s1 : Int × Int) => .ok ((!(decide (s1.2 = (0 : Int)))))) (f := fun (s1 : Int × Int) => M.gd ((decide (0 < s1.2))) <| M.ok (s1.2, (s1.1 % s1.2))) (fun s => rfl) (fun s hs => by rw [M.gd_of _ (by simpa using hs)]) a b hb
  rw [M.bind_of h1]
  show M.ok (x.natAbs : Int) = _
  rw [h2]
theorem p_is_fraction {x y : Int} (hy : 0 < y) (hg : Int.gcd x y = 1) : m_law_is_fraction (x, y) = .ok true := by
  unfold m_law_is_fraction
  have e : ∀ i, m_law_whole i = .ok true := fun i => rfl
  rw [if_neg (by decide)]
  simp only [e, M.nox_ok, M.bind_ok, Bool.not_true, Bool.false_eq_true, ↓reduceIte, Bool.false_or]
  rw [if_neg (by simp; omega), p_law_divisor _ (by omega), M.nox_ok, M.bind_ok]
  simp [hg]

theorem nat200 {x y : Int} {m : Nat} (hx : x.natAbs < 2 ^ m) (hy : y.natAbs < 2 ^ m) : (x * y).natAbs < 2 ^ (m + m) := by
  rw [Int.natAbs_mul, Nat.pow_add]
  exact Nat.mul_lt_mul_of_lt_of_lt hx hy
theorem log_9000 {b : Int} (h : b.natAbs < 2 ^ 3000) : b.natAbs.log2 < 9000 := by
  by_cases h0 : b.natAbs = 0
  · rw [h0]; decide
  · have h1 : 2 ^ b.natAbs.log2 ≤ b.natAbs := Nat.log2_self_le h0
    have h2 : 2 ^ b.natAbs.log2 < 2 ^ 3000 := by omega
    have h4 := (Nat.pow_lt_pow_iff_right (by decide)).mp h2
    omega
theorem up_200 {x : Int} {m n : Nat} (h : x.natAbs < 2 ^ m) (l : m ≤ n) : x.natAbs < 2 ^ n := Nat.lt_of_lt_of_le h (Nat.pow_le_pow_right (by decide) l)
theorem ftop_lt' {t b : Int} {m : Nat} (h : t.natAbs < 2 ^ m) : (ftop t b).natAbs < 2 ^ m := by
  unfold ftop
  rw [Int.natAbs_mul]
  have h1 : b.sign.natAbs ≤ 1 := by rw [Int.natAbs_sign]; split <;> omega
  have h2 : (t / (Int.gcd t b : Int)).natAbs ≤ t.natAbs := by
    rw [Int.natAbs_ediv_of_dvd (Int.gcd_dvd_left t b), Int.natAbs_natCast]
    exact Nat.div_le_self _ _
  have h3 := Nat.mul_le_mul h1 h2
  omega
theorem fbot_lt' {t b : Int} {m : Nat} (h : b.natAbs < 2 ^ m) : (fbot t b).natAbs < 2 ^ m := by
  unfold fbot
  rw [← Int.natCast_ediv, Int.natAbs_natCast]
  exact Nat.lt_of_le_of_lt (Nat.div_le_self _ _) h
theorem kmul {x : Int} {k : Int} (h : x.natAbs < 2 ^ 1000) (hk : k.natAbs ≤ 4) : (k * x).natAbs < 2 ^ 1002 := by
  rw [Int.natAbs_mul]
  have := Nat.mul_le_mul hk (Nat.le_of_lt h)
  have e : k.natAbs * x.natAbs ≤ 4 * x.natAbs := Nat.mul_le_mul hk (Nat.le_refl _)
  omega

/-! ### worths -/
def oprod : Nat → Nat
  | 0 => 1
  | n + 1 => oprod n * (2 * n + 1)
def wtop (ns : List Nat) : Nat := ns.foldl (fun a n => a * oprod n) 1
def wbot (k : Nat) : Nat → Nat
  | 0 => 1
  | n + 1 => wbot k n * (2 * n + k)
theorem oprod_lt : ∀ {n : Nat}, n ≤ 1000 → oprod n ≤ 2 ^ (11 * n)
  | 0, _ => by decide
  | n + 1, h => by
    show oprod n * (2 * n + 1) ≤ _
    have h1 := oprod_lt (n := n) (by omega)
    have h2 : 2 * n + 1 ≤ 2 ^ 11 := by omega
    have := Nat.mul_le_mul h1 h2
    rw [← Nat.pow_add] at this
    rw [show 11 * (n + 1) = 11 * n + 11 by omega]
    exact this
theorem wbot_lt {k : Nat} (hk : k ≤ 40) : ∀ {n : Nat}, n ≤ 1000 → wbot k n ≤ 2 ^ (11 * n)
  | 0, _ => by show 1 ≤ _; exact Nat.one_le_two_pow
  | n + 1, h => by
    show wbot k n * (2 * n + k) ≤ _
    have h1 := wbot_lt hk (n := n) (by omega)
    have h2 : 2 * n + k ≤ 2 ^ 11 := by omega
    have := Nat.mul_le_mul h1 h2
    rw [← Nat.pow_add] at this
    rw [show 11 * (n + 1) = 11 * n + 11 by omega]
    exact this
theorem wbot_pos {k : Nat} (hk : 0 < k) : ∀ {n : Nat}, 0 < wbot k n
  | 0 => by show 0 < 1; decide
  | n + 1 => Nat.mul_pos (wbot_pos hk) (by omega)
theorem wfold_lt : ∀ (ns : List Nat) (a m : Nat), a ≤ 2 ^ (11 * m) → m + ns.sum ≤ 1000 → ns.foldl (fun a n => a * oprod n) a ≤ 2 ^ (11 * (m + ns.sum))
  | [], a, m, h, _ => by simpa using h
  | n :: ns, a, m, h, hs => by
    rw [List.sum_cons] at hs
    have h1 := Nat.mul_le_mul h (oprod_lt (n := n) (by omega))
    rw [← Nat.pow_add] at h1
    have := wfold_lt ns (a * oprod n) (m + n) (by rw [show 11 * (m + n) = 11 * m + 11 * n by omega]; exact h1) (by omega)
    rw [List.foldl_cons, List.sum_cons, show m + (n + ns.sum) = m + n + ns.sum by omega]
    exact this
def natI (ns : List Nat) : List Int := ns.map fun n : Nat => (n : Int)
theorem natI_sum (ns : List Nat) : (natI ns).sum = ((ns.sum : Nat) : Int) := by
  induction ns with
  | nil => rfl
  | cons n ns ih =>
    show (n : Int) + (natI ns).sum = _
    rw [ih, List.sum_cons, Int.natCast_add]
theorem natI_len (ns : List Nat) : (natI ns).length = ns.length := by unfold natI; simp

theorem p_odd_product {n : Nat} (h : n ≤ 100000) : m_odd_product (n : Int) = .ok (oprod n : Int) := by
  unfold m_odd_product
  simp only [M.lt_eq]
  rw [M.gd_of _ (rngOk_i (by omega) (by omega) (by omega) (by omega)), Int.toNat_natCast]
  refine bind_rng (fun j => ((oprod j : Nat) : Int)) rfl (fun i hi => ?_) rfl
  rw [M.gd_of _ (mulOk_r (by omega) (by omega))]
  rw [show oprod (i + 1) = oprod i * (2 * i + 1) from rfl, Int.natCast_mul, Int.natCast_add, Int.natCast_mul]
  rfl
theorem p_worth {ns : List Nat} (hk0 : 0 < ns.length) (hk : ns.length ≤ 40) (hs : ns.sum ≤ 700) : m_worth (natI ns) = .ok (ftop (wtop ns) (wbot ns.length ns.sum), fbot (wtop ns) (wbot ns.length ns.sum)) := by
  unfold m_worth
  simp only [M.lt_eq]
  have key : ∀ (ns : List Nat) (a m : Nat), a ≤ 2 ^ (11 * m) → m + ns.sum ≤ 700 → forM (fun (x1 : Int) (s2 : Int) => M.bind (M.nox (m_odd_product x1)) fun r3 => M.gd (mulOk s2 r3) <| M.ok (s2 * r3)) (natI ns) (a : Int) = .ok ((ns.foldl (fun a n => a * oprod n) a : Nat) : Int) := by
    intro ns
    induction ns with
    | nil => intro a m _ _; rfl
    | cons n ns ih =>
      intro a m h1 h2
      rw [List.sum_cons] at h2
      have ho := oprod_lt (n := n) (by omega)
      have p1 : a * oprod n ≤ 2 ^ (11 * (m + n)) := by
        have := Nat.mul_le_mul h1 ho
        rw [← Nat.pow_add] at this
        rw [show 11 * (m + n) = 11 * m + 11 * n by omega]; exact this
      have b1 : (a : Int).natAbs < 2 ^ 7701 := by
        rw [Int.natAbs_natCast]
        exact Nat.lt_of_le_of_lt h1 ((Nat.pow_lt_pow_iff_right (by decide)).mpr (by omega))
      have b2 : (oprod n : Int).natAbs < 2 ^ 7701 := by
        rw [Int.natAbs_natCast]
        exact Nat.lt_of_le_of_lt ho ((Nat.pow_lt_pow_iff_right (by decide)).mpr (by omega))
      show (M.bind (M.nox (m_odd_product (n : Int))) fun r3 => M.gd (mulOk (a : Int) r3) <| M.ok ((a : Int) * r3)).bind _ = _
      rw [p_odd_product (by omega), M.nox_ok, M.bind_ok, M.gd_of _ (mulOk_i 7701 7701 b1 b2 (by decide) (by decide) (by decide)), M.bind_ok, ← Int.natCast_mul]
      exact ih _ _ p1 (by omega)
  have k1 := key ns 1 0 (by decide) (by omega)
  rw [show ((1 : Nat) : Int) = 1 from rfl] at k1
  rw [M.bind_of k1, natI_sum, natI_len, M.gd_of _ (rngOk_i (by omega) (by omega) (by omega) (by omega)), Int.toNat_natCast]
  refine bind_rng (fun j => ((wbot ns.length j : Nat) : Int)) rfl (fun i hi => ?_) ?_
  rotate_left
  · have hb := wbot_lt hk (n := ns.sum) (by omega)
    have hbp := wbot_pos (k := ns.length) hk0 (n := ns.sum)
    have hlog : (wbot ns.length ns.sum : Int).natAbs.log2 < 9000 := by
      rw [Int.natAbs_natCast]
      exact log2_9000 (m := 8000) (Nat.lt_of_le_of_lt hb ((Nat.pow_lt_pow_iff_right (by decide)).mpr (by omega))) (by decide)
    rw [show ns.foldl (fun a n => a * oprod n) 1 = wtop ns from rfl, p_fraction (by omega) hlog]
    rfl
  · rw [M.gd_of _ (mulOk_r (by omega) (by omega))]
    rw [show wbot ns.length (i + 1) = wbot ns.length i * (2 * i + ns.length) from rfl, Int.natCast_mul, Int.natCast_add, Int.natCast_mul]
    rfl

theorem p_cell_at {ns : List Int} {k : Nat} : m_law_cell_at ns (k : Int) = .ok (ns.getD k 0) := by
  unfold m_law_cell_at
  by_cases h : k < ns.length
  · rw [if_pos (by simpa using h), atI_n h]
    simp [List.getD_eq_getElem?_getD, h]
  · rw [if_neg (by simpa using h)]
    simp [List.getD_eq_getElem?_getD, h]

/-- one letter more -/
def plus1 (cs : List Nat) (p : Nat) : List Nat := cs.set p (cs.getD p 0 + 1)
theorem fold_mul : ∀ (ns : List Nat) (a : Nat), ns.foldl (fun a n => a * oprod n) a = a * wtop ns
  | [], a => by show a = a * 1; omega
  | n :: ns, a => by
    rw [List.foldl_cons, fold_mul ns (a * oprod n)]
    show a * oprod n * wtop ns = a * ns.foldl (fun a n => a * oprod n) (1 * oprod n)
    rw [fold_mul ns (1 * oprod n), Nat.one_mul, Nat.mul_assoc]
theorem wtop_cons (n : Nat) (ns : List Nat) : wtop (n :: ns) = oprod n * wtop ns := by
  show ns.foldl (fun a n => a * oprod n) (1 * oprod n) = _
  rw [fold_mul, Nat.one_mul]
theorem wtop_plus : ∀ (cs : List Nat) (p : Nat), p < cs.length → wtop (plus1 cs p) = wtop cs * (2 * cs.getD p 0 + 1)
  | c :: cs, 0, _ => by
    show wtop ((c + 1) :: cs) = wtop (c :: cs) * (2 * c + 1)
    rw [wtop_cons, wtop_cons, Nat.mul_right_comm]
    rfl
  | c :: cs, p + 1, h => by
    show wtop (c :: plus1 cs p) = wtop (c :: cs) * (2 * cs.getD p 0 + 1)
    rw [wtop_cons, wtop_cons, wtop_plus cs p (Nat.lt_of_succ_lt_succ h), Nat.mul_assoc]
theorem sum_plus : ∀ (cs : List Nat) (p : Nat), p < cs.length → (plus1 cs p).sum = cs.sum + 1
  | c :: cs, 0, _ => by
    show ((c + 1) :: cs).sum = (c :: cs).sum + 1
    rw [List.sum_cons, List.sum_cons]; omega
  | c :: cs, p + 1, h => by
    show (c :: plus1 cs p).sum = (c :: cs).sum + 1
    rw [List.sum_cons, List.sum_cons, sum_plus cs p (Nat.lt_of_succ_lt_succ h)]; omega
theorem plus_len (cs : List Nat) (p : Nat) : (plus1 cs p).length = cs.length := by unfold plus1; simp
def cou (k : Nat) (ps : List Nat) : List Nat := ps.foldl plus1 (List.replicate k 0)
theorem cou_len : ∀ (ps : List Nat) (cs : List Nat), (ps.foldl plus1 cs).length = cs.length
  | [], _ => rfl
  | p :: ps, cs => by rw [List.foldl_cons, cou_len ps, plus_len]
theorem cou_sum : ∀ (ps : List Nat) (cs : List Nat), (∀ p ∈ ps, p < cs.length) → (ps.foldl plus1 cs).sum = cs.sum + ps.length
  | [], _, _ => rfl
  | p :: ps, cs, h => by
    rw [List.foldl_cons, cou_sum ps _ (fun q hq => by rw [plus_len]; exact h q (List.mem_cons_of_mem _ hq)), sum_plus cs p (h p List.mem_cons_self), List.length_cons]
    omega
theorem cou_take {k : Nat} {ps : List Nat} {j : Nat} (h : j < ps.length) : cou k (ps.take (j + 1)) = plus1 (cou k (ps.take j)) ps[j] := by
  unfold cou
  rw [List.take_succ, List.getElem?_eq_getElem h, List.foldl_append]
  rfl
theorem getD_le_sum : ∀ (cs : List Nat) (p : Nat), cs.getD p 0 ≤ cs.sum
  | [], p => by simp
  | c :: cs, 0 => by show c ≤ _; rw [List.sum_cons]; omega
  | c :: cs, p + 1 => by
    show cs.getD p 0 ≤ _
    have := getD_le_sum cs p
    rw [List.sum_cons]; omega

theorem cut_pre {α : Type} (l : List α) (p : Nat) : cut l none (some (p : Int)) = l.take p := by
  show (l.drop 0).take (HT.sIx l.length l.length (some ((p : Nat) : Int)) - 0) = _
  rw [HT.sIx_nat, List.drop_zero, Nat.sub_zero]
  by_cases h : p ≤ l.length
  · rw [Nat.min_eq_left h]
  · rw [Nat.min_eq_right (by omega), List.take_of_length_le (Nat.le_refl _), List.take_of_length_le (by omega)]
theorem cut_suf {α : Type} (l : List α) (p : Nat) : cut l (some (p : Int)) none = l.drop p := by
  show (l.drop (HT.sIx l.length 0 (some ((p : Nat) : Int)))).take (l.length - HT.sIx l.length 0 (some ((p : Nat) : Int))) = _
  rw [HT.sIx_nat]
  by_cases h : p ≤ l.length
  · rw [Nat.min_eq_left h, List.take_of_length_le (by rw [List.length_drop]; exact Nat.le_refl _)]
  · rw [Nat.min_eq_right (by omega), List.drop_of_length_le (Nat.le_refl _), List.drop_of_length_le (by omega), List.take_nil]
theorem natI_getD (cs : List Nat) (q : Nat) (h : q < cs.length) : atI (natI cs) (q : Int) = some ((cs.getD q 0 : Nat) : Int) := by
  unfold natI
  rw [atI_n (by simpa using h)]
  simp [List.getD_eq_getElem?_getD, h]
theorem rep1 {α : Type} (x : α) (n : Nat) : repS [x] (n : Int) = List.replicate n x := by
  unfold repS
  rw [Int.toNat_natCast]
  induction n with
  | zero => rfl
  | succ n ih => rw [List.replicate_succ, List.flatten_cons, ih]; rfl
theorem natI_zero (k : Nat) : repS [(0 : Int)] (k : Int) = natI (cou k []) := by
  rw [rep1]
  unfold natI cou
  simp
theorem wtop_zero (k : Nat) : wtop (cou k []) = 1 := by
  unfold cou
  simp only [List.foldl_nil]
  induction k with
  | zero => rfl
  | succ n ih => rw [List.replicate_succ, wtop_cons, ih]; rfl
theorem p_more {cs : List Nat} {p : Nat} (h : p < cs.length) (hl : cs.length ≤ 100) : m_law_more (natI cs) (p : Int) = .ok (natI (plus1 cs p)) := by
  unfold m_law_more
  have hn : (natI cs).length = cs.length := natI_len cs
  rw [natI_getD cs p h, M.ofO_some, M.bind_ok, cut_pre, show ((p : Int) + 1) = ((p + 1 : Nat) : Int) from rfl, cut_suf]
  rw [M.gd_of _ (catOk_i (by rw [List.length_take, List.length_singleton]; omega)), M.gd_of _ (catOk_i (by rw [List.length_append, List.length_take, List.length_drop, List.length_singleton]; omega))]
  refine congrArg M.ok ?_
  unfold plus1 natI
  rw [List.map_set, List.set_eq_take_append_cons_drop, if_pos (by simpa using h)]
  simp
theorem p_bottom {k n : Nat} (hk : k ≤ 40) (hn : n ≤ 700) : m_law_bottom (k : Int) (n : Int) = .ok ((wbot k n : Nat) : Int) := by
  unfold m_law_bottom
  simp only [M.lt_eq]
  rw [M.gd_of _ (rngOk_i (by omega) (by omega) (by omega) (by omega)), Int.toNat_natCast]
  refine bind_rng (fun j => ((wbot k j : Nat) : Int)) rfl (fun i hi => ?_) rfl
  rw [M.gd_of _ (mulOk_r (by omega) (by omega))]
  rw [show wbot k (i + 1) = wbot k i * (2 * i + k) from rfl, Int.natCast_mul, Int.natCast_add, Int.natCast_mul]
  rfl
theorem oprod_pos : ∀ n, 0 < oprod n
  | 0 => by decide
  | n + 1 => Nat.mul_pos (oprod_pos n) (by omega)
theorem wtop_pos : ∀ cs : List Nat, 0 < wtop cs
  | [] => by decide
  | n :: ns => by rw [wtop_cons]; exact Nat.mul_pos (oprod_pos n) (wtop_pos ns)
/-- in lowest terms: how the reduced pair stands to the product -/
theorem low_terms {T W : Nat} (hT : 0 < T) (hW : 0 < W) : ∃ a b c : Nat, ftop (T : Int) (W : Int) = a ∧ fbot (T : Int) (W : Int) = b ∧ 0 < a ∧ 0 < b ∧ W = b * c ∧ a * c = T := by
  have hW0 : (W : Int) ≠ 0 := by omega
  have p1 := fbot_pos (T : Int) (W : Int) hW0
  have c1 := f_cross (T : Int) (W : Int)
  have g1 := f_coprime (T : Int) (W : Int) hW0
  obtain ⟨b, hb⟩ : ∃ b : Nat, fbot (T : Int) (W : Int) = b := ⟨(fbot (T : Int) (W : Int)).toNat, by omega⟩
  have q1 : 0 < ftop (T : Int) (W : Int) := by
    have h1 : (0 : Int) < ftop (T : Int) (W : Int) * W := by
      rw [c1]
      exact Int.mul_pos (by omega) p1
    exact Int.pos_of_mul_pos_left h1 (by omega)
  obtain ⟨a, ha⟩ : ∃ a : Nat, ftop (T : Int) (W : Int) = a := ⟨(ftop (T : Int) (W : Int)).toNat, by omega⟩
  rw [ha, hb] at c1 g1
  rw [ha] at q1
  rw [hb] at p1
  have c2 : a * W = T * b := by exact_mod_cast c1
  have g2 : Nat.gcd b a = 1 := by rw [Nat.gcd_comm]; exact_mod_cast g1
  have hd : b ∣ a * W := ⟨T, by rw [c2, Nat.mul_comm]⟩
  obtain ⟨c, hc⟩ := Nat.Coprime.dvd_of_dvd_mul_left g2 hd
  refine ⟨a, b, c, ha, hb, by omega, by omega, hc, ?_⟩
  have : a * c * b = T * b := by rw [← c2, hc]; grind
  exact Nat.eq_of_mul_eq_mul_right (by omega) this
theorem p_over {cs : List Nat} (hk0 : 0 < cs.length) (hk : cs.length ≤ 40) (hs : cs.sum ≤ 700) {q : Nat} (hq : q ≤ 10000) : m_law_over (natI cs) ((wbot cs.length cs.sum * q : Nat) : Int) = .ok ((wtop cs * q : Nat) : Int) := by
  unfold m_law_over
  have hb := wbot_lt hk (n := cs.sum) (by omega)
  have hbp := wbot_pos (k := cs.length) hk0 (n := cs.sum)
  have ht := wfold_lt cs 1 0 (by decide) (by omega)
  have htp := wtop_pos cs
  have ht' : wtop cs ≤ 2 ^ (11 * (0 + cs.sum)) := ht
  have hb0 : ((wbot cs.length cs.sum : Nat) : Int) ≠ 0 := by omega
  have g1 := f_coprime (wtop cs : Int) (wbot cs.length cs.sum : Int) hb0
  have p1 := fbot_pos (wtop cs : Int) (wbot cs.length cs.sum : Int) hb0
  have is := p_is_fraction p1 g1
  rw [p_worth hk0 hk hs, M.bind_ok, is, M.nox_ok, M.bind_ok]
  obtain ⟨a, b, c, e1, e2, a0, b0, e3, e4⟩ := low_terms htp hbp
  have B1 : wtop cs < 2 ^ 8000 := Nat.lt_of_le_of_lt ht' ((Nat.pow_lt_pow_iff_right (by decide)).mpr (by omega))
  have B2 : wbot cs.length cs.sum < 2 ^ 8000 := Nat.lt_of_le_of_lt hb ((Nat.pow_lt_pow_iff_right (by decide)).mpr (by omega))
  simp only [e1, e2]
  rw [e3] at B2 ⊢
  rw [← e4] at B1 ⊢
  have hc0 : 0 < c := by
    rcases Nat.eq_zero_or_pos c with z | z
    · rw [z, Nat.mul_zero] at e3; omega
    · exact z
  have hdiv : (((b * c * q : Nat) : Int) / (b : Int)) = ((c * q : Nat) : Int) := by
    rw [← Int.natCast_ediv, Nat.mul_assoc, Nat.mul_div_cancel_left _ b0]
  have hmod : (((b * c * q : Nat) : Int) % (b : Int)) = 0 := by
    rw [← Int.natCast_emod, Nat.mul_assoc, Nat.mul_mod_right]; rfl
  have la : a < 2 ^ 8000 := Nat.lt_of_le_of_lt (Nat.le_mul_of_pos_right _ hc0) B1
  have lb : b < 2 ^ 8000 := Nat.lt_of_le_of_lt (Nat.le_mul_of_pos_right _ hc0) B2
  have lc : c < 2 ^ 8000 := Nat.lt_of_le_of_lt (Nat.le_mul_of_pos_left _ b0) B2
  have lcq : c * q < 2 ^ 8100 := by
    have h1 : c * q ≤ c * 10000 := Nat.mul_le_mul_left _ hq
    have h2 : c * 10000 < 2 ^ 8000 * 10000 := (Nat.mul_lt_mul_right (by decide)).mpr lc
    have h3 : 2 ^ 8000 * 10000 ≤ 2 ^ 8000 * 2 ^ 100 := Nat.mul_le_mul_left _ (by decide)
    rw [← Nat.pow_add] at h3
    omega
  have n1 : ¬ ((a : Int) < 1) := by omega
  rw [if_neg (by decide), decide_eq_false n1, if_neg (by decide), M.gd_of _ (decide_eq_true (by omega)), hmod]
  simp only [decide_true, Bool.not_true, M.nox_ok, M.bind_ok, Bool.false_eq_true, if_false]
  rw [M.gd_of _ (divOk_i (by omega) (by rw [Int.natAbs_natCast]; exact log2_9000 lb (by decide))), hdiv]
  rw [M.gd_of _ (mulOk_i 8000 8100 (by rw [Int.natAbs_natCast]; exact la) (by rw [Int.natAbs_natCast]; exact lcq) (by decide) (by decide) (by decide))]
  rw [← Int.natCast_mul, Nat.mul_assoc]
theorem sum_two : ∀ cs : List Nat, ((List.range cs.length).map fun p => 2 * cs.getD p 0 + 1).sum = 2 * cs.sum + cs.length
  | [] => rfl
  | c :: cs => by
    rw [List.length_cons, List.range_succ_eq_map, List.map_cons, List.map_map, List.sum_cons, List.sum_cons]
    have := sum_two cs
    show 2 * c + 1 + ((List.range cs.length).map fun p => 2 * cs.getD p 0 + 1).sum = _
    omega
theorem sum_plus1 (cs : List Nat) : ((List.range cs.length).map fun p => wtop (plus1 cs p)).sum = wtop cs * (2 * cs.sum + cs.length) := by
  rw [← sum_two]
  have : ∀ l : List Nat, (∀ p ∈ l, p < cs.length) → (l.map fun p => wtop (plus1 cs p)).sum = wtop cs * (l.map fun p => 2 * cs.getD p 0 + 1).sum := by
    intro l
    induction l with
    | nil => intro _; simp
    | cons p l ih =>
      intro h
      rw [List.map_cons, List.map_cons, List.sum_cons, List.sum_cons, ih fun q hq => h q (List.mem_cons_of_mem _ hq), wtop_plus cs p (h p List.mem_cons_self)]
      exact (Nat.mul_add _ _ _).symm
  exact this _ fun p hp => List.mem_range.mp hp
theorem minL_pos : ∀ (xs : List Int) (x : Int), 0 < x → (∀ y ∈ xs, 0 < y) → 0 < minL x xs
  | [], x, h, _ => h
  | y :: ys, x, h, h2 => by
    show 0 < minL (min x y) ys
    exact minL_pos ys _ (by have := h2 y List.mem_cons_self; omega) fun z hz => h2 z (List.mem_cons_of_mem _ hz)
theorem sum_cast (l : List Nat) : (l.map fun n : Nat => (n : Int)).sum = ((l.sum : Nat) : Int) := natI_sum l
theorem p_next {cs : List Nat} (hk0 : 0 < cs.length) (hk : cs.length ≤ 6) (hs : cs.sum ≤ 60) : m_law_next (natI cs) = .ok true := by
  unfold m_law_next
  simp only [M.lt_eq]
  rw [natI_len, natI_sum, show ((cs.sum : Int) + 1) = ((cs.sum + 1 : Nat) : Int) from rfl, p_bottom (by omega) (by omega), M.bind_ok]
  rw [M.gd_of _ (rngOk_i (by omega) (by omega) (by omega) (by omega)), Int.toNat_natCast, M.gd_of _ (lenLt_i (by rw [rng_len]; omega))]
  have hr : rng 0 1 cs.length = (List.range cs.length).map fun i : Nat => (i : Int) := by
    unfold rng
    refine List.map_congr_left fun i _ => ?_
    omega
  have hc : compM (fun _ => M.ok true) (fun place_ => M.bind (M.nox (m_law_more (natI cs) place_)) fun r3 => M.bind (M.nox (m_law_over r3 ((wbot cs.length (cs.sum + 1) : Nat) : Int))) fun r5 => M.ok r5) (rng 0 1 cs.length) = .ok ((rng 0 1 cs.length).map fun x => ((wtop (plus1 cs x.toNat) : Nat) : Int)) := by
    refine compM_map (fun x _ => rfl) fun x hx => ?_
    obtain ⟨i, hi, rfl⟩ := rng_mem hx
    rw [show (0 + (i : Int) * 1) = (i : Int) by omega, p_more hi (by omega), M.nox_ok, M.bind_ok, Int.toNat_natCast]
    have h1 := plus_len cs i
    have h2 := sum_plus cs i hi
    have h3 := p_over (cs := plus1 cs i) (q := 1) (by omega) (by omega) (by omega) (by decide)
    rw [h1, h2, Nat.mul_one, Nat.mul_one] at h3
    rw [h3, M.nox_ok, M.bind_ok]
  rw [hc, M.nox_ok, M.bind_ok, hr, List.map_map]
  have he : ((List.range cs.length).map ((fun x : Int => ((wtop (plus1 cs x.toNat) : Nat) : Int)) ∘ fun i : Nat => (i : Int))) = ((List.range cs.length).map fun p => wtop (plus1 cs p)).map fun n : Nat => (n : Int) := by
    rw [List.map_map]
    exact List.map_congr_left fun i _ => by simp
  rw [he, sum_cast, sum_plus1]
  obtain ⟨x, xs, hx⟩ : ∃ x xs, (List.range cs.length).map (fun p => wtop (plus1 cs p)) = x :: xs := by
    cases h : (List.range cs.length).map (fun p => wtop (plus1 cs p)) with
    | nil =>
      have := congrArg List.length h
      rw [List.length_map, List.length_range, List.length_nil] at this
      omega
    | cons x xs => exact ⟨x, xs, rfl⟩
  have hp : ∀ y ∈ x :: xs, 0 < y := fun y hy => by
    rw [← hx] at hy
    obtain ⟨p, _, rfl⟩ := List.mem_map.mp hy
    exact wtop_pos _
  rw [hx]
  show M.bind (M.ofO (some ((x : Int), xs.map fun n : Nat => (n : Int)))) _ = _
  rw [M.ofO_some, M.bind_ok]
  have hm : 0 < minL (x : Int) (xs.map fun n : Nat => (n : Int)) := minL_pos _ _ (by have := hp x List.mem_cons_self; omega) fun y hy => by
    obtain ⟨n, hn, rfl⟩ := List.mem_map.mp hy
    have := hp n (List.mem_cons_of_mem _ hn)
    omega
  have ho := p_over (cs := cs) (q := 2 * cs.sum + cs.length) hk0 (by omega) (by omega) (by omega)
  rw [show wbot cs.length cs.sum * (2 * cs.sum + cs.length) = wbot cs.length (cs.sum + 1) from rfl] at ho
  simp only [decide_eq_true hm, if_true, ho, M.nox_ok, M.bind_ok, decide_true]
/-! ### all counts -/
def wt (k : List Int) : Nat := wtop (k.map Int.toNat)
theorem wt_natI (cs : List Nat) : wt (natI cs) = wtop cs := by
  unfold wt natI
  rw [List.map_map]
  congr 1
  exact List.map_id'' (fun n => Int.toNat_natCast n) cs
def sW (l : List (List Int × Int)) : Int := (l.map fun p => p.2 * (wt p.1 : Int)).sum
theorem sW_cons (p : List Int × Int) (l : List (List Int × Int)) : sW (p :: l) = p.2 * (wt p.1 : Int) + sW l := rfl
theorem sW_app : ∀ l m : List (List Int × Int), sW (l ++ m) = sW l + sW m
  | [], m => by show sW m = 0 + sW m; omega
  | p :: l, m => by rw [List.cons_append, sW_cons, sW_app l m, sW_cons]; omega
theorem tget_none {l : List (List Int × Int)} {k : List Int} (h : ∀ p ∈ l, p.1 ≠ k) : tget l k = none := by
  induction l with
  | nil => rfl
  | cons p l ih => rw [tget_cons, if_neg (h p List.mem_cons_self)]; exact ih fun q hq => h q (List.mem_cons_of_mem _ hq)
theorem tget_mem : ∀ {l : List (List Int × Int)}, (l.map (·.1)).Nodup → ∀ p ∈ l, tget l p.1 = some p.2
  | [], _, p, h => by cases h
  | q :: l, nd, p, h => by
    rw [List.map_cons, List.nodup_cons] at nd
    rw [tget_cons]
    rcases List.mem_cons.mp h with rfl | h
    · rw [if_pos rfl]
    · have : q.1 ≠ p.1 := fun e => nd.1 (by rw [e]; exact List.mem_map.mpr ⟨p, h, rfl⟩)
      rw [if_neg this]
      exact tget_mem nd.2 p h
/-- one more of a key -/
theorem put_more {l : List (List Int × Int)} (nd : (l.map (·.1)).Nodup) (k : List Int) (d : Int) :
    sW (tput l k ((tget l k).getD 0 + d)) = sW l + d * (wt k : Int) ∧ ((tput l k ((tget l k).getD 0 + d)).map (·.1)).Nodup ∧ (tput l k ((tget l k).getD 0 + d)).length ≤ l.length + 1 ∧ ∀ P : List Int × Int → Prop, (∀ p ∈ l, P p) → P (k, (tget l k).getD 0 + d) → ∀ p ∈ tput l k ((tget l k).getD 0 + d), P p := by
  by_cases h : ∃ p ∈ l, p.1 = k
  · obtain ⟨p, hp, rfl⟩ := h
    have hg := tget_mem nd p hp
    have ha : (l.any fun q => decide (q.1 = p.1)) = true := List.any_eq_true.mpr ⟨p, hp, by simp⟩
    unfold tput
    rw [if_pos ha, hg]
    obtain ⟨l1, l2, rfl⟩ := List.append_of_mem hp
    rw [List.map_append, List.map_cons, List.nodup_append] at nd
    obtain ⟨n1, n2, n3⟩ := nd
    rw [List.nodup_cons] at n2
    have same : ∀ m : List (List Int × Int), (∀ q ∈ m, q.1 ≠ p.1) → (m.map fun q => if q.1 = p.1 then (q.1, p.2 + d) else q) = m := fun m hm => by
      induction m with
      | nil => rfl
      | cons q m ih => rw [List.map_cons, if_neg (hm q List.mem_cons_self), ih fun r hr => hm r (List.mem_cons_of_mem _ hr)]
    have e1 := same l1 fun q hq e => n3 _ (List.mem_map.mpr ⟨q, hq, rfl⟩) _ List.mem_cons_self e
    have e2 := same l2 fun q hq e => n2.1 (by rw [← e]; exact List.mem_map.mpr ⟨q, hq, rfl⟩)
    have eq : ((l1 ++ p :: l2).map fun q => if q.1 = p.1 then (q.1, (some p.2).getD 0 + d) else q) = l1 ++ (p.1, p.2 + d) :: l2 := by
      show ((l1 ++ p :: l2).map fun q => if q.1 = p.1 then (q.1, p.2 + d) else q) = _
      rw [List.map_append, List.map_cons, if_pos rfl, e1, e2]
    rw [eq]
    refine ⟨?_, ?_, ?_, fun P h1 h2 q hq => ?_⟩
    · rw [sW_app, sW_cons, sW_app, sW_cons]
      show sW l1 + ((p.2 + d) * (wt p.1 : Int) + sW l2) = _
      rw [Int.add_mul]
      omega
    · rw [List.map_append, List.map_cons, List.nodup_append]
      exact ⟨n1, List.nodup_cons.mpr n2, n3⟩
    · simp only [List.length_append, List.length_cons]; omega
    · rcases List.mem_append.mp hq with hq | hq
      · exact h1 q (List.mem_append_left _ hq)
      · rcases List.mem_cons.mp hq with rfl | hq
        · exact h2
        · exact h1 q (List.mem_append_right _ (List.mem_cons_of_mem _ hq))
  · have hno : ∀ p ∈ l, p.1 ≠ k := fun p hp e => h ⟨p, hp, e⟩
    have ha : ¬ (l.any fun q => decide (q.1 = k)) = true := fun z => by
      obtain ⟨p, hp, e⟩ := List.any_eq_true.mp z
      exact hno p hp (of_decide_eq_true e)
    unfold tput
    rw [if_neg ha, tget_none hno]
    refine ⟨?_, ?_, ?_, fun P h1 h2 q hq => ?_⟩
    · rw [sW_app]
      show sW l + ((0 + d) * (wt k : Int) + 0) = _
      rw [Int.zero_add]
      omega
    · rw [List.map_append, List.nodup_append]
      refine ⟨nd, by simp, fun a ha b hb e => ?_⟩
      obtain ⟨p, hp, rfl⟩ := List.mem_map.mp ha
      simp at hb
      exact hno p hp (e.trans hb)
    · simp
    · rcases List.mem_append.mp hq with hq | hq
      · exact h1 q hq
      · rw [List.mem_singleton] at hq
        rw [hq]
        exact h2
/-- what stands in the table of the counts with the sum j -/
def Good (k j : Nat) (p : List Int × Int) : Prop := ∃ cs : List Nat, p.1 = natI cs ∧ cs.length = k ∧ cs.sum = j ∧ 0 ≤ p.2
structure Tb (k j n : Nat) (s : Int) (l : List (List Int × Int)) : Prop where
  nd : (l.map (·.1)).Nodup
  good : ∀ p ∈ l, Good k j p
  len : l.length ≤ n
  sum : sW l = s
theorem le_sW : ∀ {l : List (List Int × Int)} {k j : Nat}, (∀ p ∈ l, Good k j p) → ∀ p ∈ l, p.2 * (wt p.1 : Int) ≤ sW l
  | [], _, _, _, p, h => by cases h
  | q :: l, k, j, g, p, h => by
    have nn : ∀ l : List (List Int × Int), (∀ p ∈ l, Good k j p) → 0 ≤ sW l := fun l => by
      induction l with
      | nil => intro _; exact Int.le_refl _
      | cons q l ih =>
        intro g
        obtain ⟨_, _, _, _, z⟩ := g q List.mem_cons_self
        have := Int.mul_nonneg z (show (0 : Int) ≤ (wt q.1 : Int) by omega)
        have := ih fun p hp => g p (List.mem_cons_of_mem _ hp)
        rw [sW_cons]
        omega
    rw [sW_cons]
    rcases List.mem_cons.mp h with rfl | h
    · have := nn l fun p hp => g p (List.mem_cons_of_mem _ hp)
      omega
    · have := le_sW (fun p hp => g p (List.mem_cons_of_mem _ hp)) p h
      obtain ⟨_, _, _, _, z⟩ := g q List.mem_cons_self
      have := Int.mul_nonneg z (show (0 : Int) ≤ (wt q.1 : Int) by omega)
      omega
theorem Tb.put {k j n : Nat} {s d : Int} {l : List (List Int × Int)} {cs : List Nat} (h : Tb k j n s l) (h1 : cs.length = k) (h2 : cs.sum = j) (hd : 0 ≤ d) : Tb k j (n + 1) (s + d * (wtop cs : Int)) (tput l (natI cs) ((tget l (natI cs)).getD 0 + d)) := by
  obtain ⟨a, b, c, e⟩ := put_more h.nd (natI cs) d
  have hg : 0 ≤ (tget l (natI cs)).getD 0 := by
    cases q : tget l (natI cs) with
    | none => exact Int.le_refl _
    | some v =>
      unfold tget at q
      obtain ⟨p, hp, rfl⟩ := Option.map_eq_some_iff.mp q
      obtain ⟨_, _, _, _, z⟩ := h.good p (List.mem_of_find?_eq_some hp)
      exact z
  refine ⟨b, e _ h.good ⟨cs, rfl, h1, h2, by show 0 ≤ _ + d; omega⟩, by have := h.len; omega, ?_⟩
  rw [a, h.sum, wt_natI]
theorem p_all {k total : Nat} (hk0 : 0 < k) (hk : k ≤ 6) (ht : total ≤ 8) (hp : k ^ total ≤ 4096) : ∃ l, m_law_all (k : Int) (total : Int) = .ok l ∧ Tb k total 4096 ((wbot k total : Nat) : Int) l := by
  unfold m_law_all
  simp only [M.lt_eq]
  rw [M.gd_of _ (repOk_i (by omega) (by omega) (by decide)), M.gd_of _ (lenLt_i (by decide)), M.gd_of _ (rngOk_i (by omega) (by omega) (by omega) (by omega)), Int.toNat_natCast, natI_zero]
  have hzl : (cou k []).length = k := by unfold cou; simp
  have hzs : (cou k []).sum = 0 := by unfold cou; simp
  have t0 : Tb k 0 0 0 [] := ⟨List.nodup_nil, fun p h => (by cases h), Nat.le_refl _, rfl⟩
  have t1 := t0.put (d := 1) hzl hzs (by decide)
  rw [wtop_zero] at t1
  have e0 : tput [] (natI (cou k [])) ((tget [] (natI (cou k []))).getD 0 + 1) = tput [] (natI (cou k [])) (1 : Int) := rfl
  rw [e0] at t1
  have kp : ∀ j, j ≤ total → k ^ j ≤ 4096 := fun j hj => Nat.le_trans (Nat.pow_le_pow_right hk0 hj) hp
  refine bind_forN (Q := fun m => ∃ l, m = .ok l ∧ Tb k total 4096 ((wbot k total : Nat) : Int) l) (s0 := tput [] (natI (cou k [])) (1 : Int)) (fun j s => j ≤ total → Tb k j (k ^ j) ((wbot k j : Nat) : Int) s) (fun _ => t1) (fun j x hx s hs => ?_) (fun s hs => ?_)
  rotate_left
  · rw [rng_len] at hs
    have := hs (Nat.le_refl _)
    exact ⟨s, rfl, this.nd, this.good, Nat.le_trans this.len hp, this.sum⟩
  have hjt : j < total := by have := lt_of_get hx; rwa [rng_len] at this
  have T := hs (by omega)
  have kj := kp (j + 1) (by omega)
  have mid : ∃ s', forM (fun (x7 : (List Int)) (s8 : (List (List Int × Int))) => (
      M.gd (rngOk 0 (k : Int)) <|
      M.bind (forM (fun (x10 : Int) (s12 : (List (List Int × Int))) => (
        M.bind (M.nox (m_law_more x7 x10)) fun r13 =>
        M.bind (M.ofO (tget s x7)) fun r15 =>
        M.gd (lenLt s12) <|
        .ok (tput s12 r13 (((tget s12 r13).getD (0 : Int)) + r15))
      )) (rng 0 1 ((k : Int)).toNat) s8) fun (s12 : (List (List Int × Int))) =>
      .ok s12
    )) ((s).map (·.1)) [] = .ok s' ∧ Tb k (j + 1) (s.length * k) ((((2 * j + k : Nat) : Int)) * sW s) s' := by
    have key := forM_invN (f := fun (x7 : (List Int)) (s8 : (List (List Int × Int))) => (
      M.gd (rngOk 0 (k : Int)) <|
      M.bind (forM (fun (x10 : Int) (s12 : (List (List Int × Int))) => (
        M.bind (M.nox (m_law_more x7 x10)) fun r13 =>
        M.bind (M.ofO (tget s x7)) fun r15 =>
        M.gd (lenLt s12) <|
        .ok (tput s12 r13 (((tget s12 r13).getD (0 : Int)) + r15))
      )) (rng 0 1 ((k : Int)).toNat) s8) fun (s12 : (List (List Int × Int))) =>
      .ok s12)) (xs := s.map (·.1)) (s := []) (fun i l => i ≤ s.length → Tb k (j + 1) (i * k) ((((2 * j + k : Nat) : Int)) * sW (s.take i)) l) (fun _ => ⟨List.nodup_nil, fun p h => (by cases h), Nat.zero_le _, by simp [sW]⟩) (fun i x7 hx7 l hl => ?_)
    · obtain ⟨s', a, b⟩ := key
      refine ⟨s', a, ?_⟩
      have b2 := b (by rw [List.length_map]; exact Nat.le_refl _)
      rw [List.length_map, List.take_of_length_le (Nat.le_refl _)] at b2
      exact b2
    have hi : i < s.length := by have := lt_of_get hx7; rwa [List.length_map] at this
    have ex : x7 = s[i].1 := by
      rw [List.getElem?_map, List.getElem?_eq_getElem hi] at hx7
      exact (Option.some.inj hx7).symm
    subst ex
    have L := hl (by omega)
    obtain ⟨cs, g1, g2, g3, g4⟩ := T.good s[i] (List.getElem_mem hi)
    have tg := tget_mem T.nd s[i] (List.getElem_mem hi)
    have hik : i * k ≤ 4096 := by
      have h1 : i * k ≤ s.length * k := Nat.mul_le_mul_right _ (by omega)
      have h2 : s.length * k ≤ k ^ j * k := Nat.mul_le_mul_right _ T.len
      rw [← Nat.pow_succ] at h2
      exact Nat.le_trans h1 (Nat.le_trans h2 kj)
    rw [M.gd_of _ (rngOk_i (by omega) (by omega) (by omega) (by omega)), Int.toNat_natCast]
    refine bind_forN (Q := fun m => ∃ s', m = .ok s' ∧ (i + 1 ≤ s.length → Tb k (j + 1) ((i + 1) * k) ((((2 * j + k : Nat) : Int)) * sW (s.take (i + 1))) s')) (s0 := l)
      (fun q m => q ≤ k → Tb k (j + 1) (i * k + q) ((((2 * j + k : Nat) : Int)) * sW (s.take i) + s[i].2 * ((((List.range q).map fun p => wtop (plus1 cs p)).sum : Nat) : Int)) m)
      (fun _ => by
        show Tb k (j + 1) (i * k + 0) (_ + s[i].2 * ((0 : Nat) : Int)) l
        rw [show ((0 : Nat) : Int) = 0 from rfl, Int.mul_zero, Int.add_zero]
        exact L) (fun q x hxq m hm => ?_) (fun m hm => ?_)
    · have hq : q < k := by have := lt_of_get hxq; rwa [rng_len] at this
      have exq : x = (q : Int) := by
        have e1 := hxq
        rw [List.getElem?_eq_getElem (by rw [rng_len]; exact hq)] at e1
        have e2 := Option.some.inj e1
        rw [rng_get] at e2
        omega
      subst exq
      have Mq := hm (by omega)
      have e1 : m_law_more s[i].1 (q : Int) = .ok (natI (plus1 cs q)) := by rw [g1]; exact p_more (by omega) (by omega)
      rw [e1, M.nox_ok, M.bind_ok, tg, M.ofO_some, M.bind_ok, M.gd_of _ (lenLt_i (by have := Mq.len; omega))]
      refine ⟨_, rfl, fun _ => ?_⟩
      have r := Mq.put (cs := plus1 cs q) (d := s[i].2) (by rw [plus_len]; exact g2) (by rw [sum_plus cs q (by omega)]; omega) g4
      refine ⟨r.nd, r.good, r.len, ?_⟩
      rw [r.sum, List.range_succ, List.map_append, List.sum_append, List.map_cons, List.map_nil, List.sum_singleton, Int.natCast_add (List.sum _)]
      generalize ((2 * j + k : Nat) : Int) * sW (s.take i) = A
      generalize (((List.map (fun p => wtop (plus1 cs p)) (List.range q)).sum : Nat) : Int) = B1
      generalize ((wtop (plus1 cs q) : Nat) : Int) = B2
      grind
    · rw [rng_len] at hm
      refine ⟨m, rfl, fun _ => ?_⟩
      have r := hm (Nat.le_refl _)
      refine ⟨r.nd, r.good, by have := r.len; rw [Nat.succ_mul]; omega, ?_⟩
      rw [r.sum, List.take_succ_eq_append_getElem hi, sW_app, sW_cons, ← g2, sum_plus1, g3, g1, wt_natI, g2]
      show _ = ((2 * j + k : Nat) : Int) * (sW (s.take i) + (s[i].2 * (wtop cs : Int) + 0))
      rw [Int.natCast_mul]
      grind
  obtain ⟨s', m1, m2⟩ := mid
  rw [Int.toNat_natCast] at m1
  rw [m1, M.nox_ok, M.bind_ok]
  refine ⟨s', rfl, fun _ => ⟨m2.nd, m2.good, Nat.le_trans m2.len ?_, ?_⟩⟩
  · rw [Nat.pow_succ]
    exact Nat.mul_le_mul_right _ T.len
  · rw [m2.sum, T.sum, show wbot k (j + 1) = wbot k j * (2 * j + k) from rfl, Int.natCast_mul, Int.mul_comm]
theorem law_holds (ns : List Int) (h1 : ns.length ≤ 63) (h2 : ∀ z ∈ ns, Builtin.Int.intBits z ≤ 1048576) : m_law ns = .ok true := by
  unfold m_law
  simp only [M.lt_eq]
  have hc := p_cell_at (ns := ns) (k := 0)
  rw [show m_law_cell_at ns 0 = _ from hc]
  simp only [M.nox_ok, M.bind_ok]
  generalize ns.getD 0 0 = c0
  obtain ⟨k, hk⟩ : ∃ k : Nat, 2 + c0 % 5 = (k : Int) := ⟨(2 + c0 % 5).toNat, by omega⟩
  have hk0 : 2 ≤ k := by omega
  have hk6 : k ≤ 6 := by omega
  rw [hk, M.gd_of _ (repOk_i (by omega) (by omega) (by decide)), natI_zero]
  have hl : (cut ns (some 1) (some 61)).length ≤ 60 := cut_len3 (l := ns) (i := 1) (j := 61)
  have hzl : (cou k []).length = k := by unfold cou; simp
  have hzs : (cou k []).sum = 0 := by unfold cou; simp
  refine bind_forN (Q := fun m => m = .ok true) (s0 := natI (cou k [])) (fun i s => ∃ cs, s = natI cs ∧ cs.length = k ∧ cs.sum = i) ⟨_, rfl, hzl, hzs⟩ (fun i z hz s ⟨cs, e1, e2, e3⟩ => ?_) (fun s ⟨cs, e1, e2, e3⟩ => ?_)
  · subst e1
    have a1 := Int.emod_nonneg z (b := (k : Int)) (by omega)
    have a2 := Int.emod_lt_of_pos z (b := (k : Int)) (by omega)
    obtain ⟨p, hp⟩ : ∃ p : Nat, z % (k : Int) = p := ⟨(z % (k : Int)).toNat, by omega⟩
    rw [M.gd_of _ (decide_eq_true (by omega)), hp, p_more (by omega) (by omega), M.bind_ok]
    exact ⟨_, rfl, _, rfl, by rw [plus_len]; exact e2, by rw [sum_plus cs p (by omega), e3]⟩
  subst e1
  rw [p_next (by omega) (by omega) (by omega), M.nox_ok, M.bind_ok, if_neg (by decide)]
  obtain ⟨mx, hmx, hm8, hmp⟩ : ∃ mx : Nat, atI [(8 : Int), (5 : Int), (4 : Int), (3 : Int), (3 : Int)] ((k : Int) - (2 : Int)) = some (mx : Int) ∧ mx ≤ 8 ∧ k ^ mx ≤ 4096 := by
    have : k = 2 ∨ k = 3 ∨ k = 4 ∨ k = 5 ∨ k = 6 := by omega
    rcases this with h | h | h | h | h <;> subst h
    · exact ⟨8, rfl, by decide, by decide⟩
    · exact ⟨5, rfl, by decide, by decide⟩
    · exact ⟨4, rfl, by decide, by decide⟩
    · exact ⟨3, rfl, by decide, by decide⟩
    · exact ⟨3, rfl, by decide, by decide⟩
  rw [hmx, M.ofO_some, M.bind_ok, M.gd_of _ (decide_eq_true (by omega))]
  have b1 := Int.emod_nonneg (c0 / 5) (b := (mx : Int) + 1) (by omega)
  have b2 := Int.emod_lt_of_pos (c0 / 5) (b := (mx : Int) + 1) (by omega)
  obtain ⟨t, ht⟩ : ∃ t : Nat, c0 / 5 % ((mx : Int) + 1) = t := ⟨(c0 / 5 % ((mx : Int) + 1)).toNat, by omega⟩
  have htm : t ≤ mx := by omega
  rw [ht, p_bottom (by omega) (by omega), M.bind_ok]
  obtain ⟨l, l1, l2⟩ := p_all (k := k) (total := t) (by omega) hk6 (by omega) (Nat.le_trans (Nat.pow_le_pow_right (by omega) htm) hmp)
  rw [l1, M.bind_ok, M.gd_of _ (lenLt_i (by rw [List.length_map]; have := l2.len; omega))]
  have hcomp : compM (fun _ => M.ok true) (fun key_ => M.bind (M.ofO (tget l key_)) fun r11 => M.bind (M.nox (m_law_over key_ ((wbot k t : Nat) : Int))) fun r13 => M.gd (mulOk r11 r13) <| M.ok ((r11 * r13))) ((l).map (·.1)) = .ok ((l.map (·.1)).map fun key => (tget l key).getD 0 * (wt key : Int)) := by
    refine compM_map (fun x _ => rfl) fun x hx => ?_
    obtain ⟨p, hp, rfl⟩ := List.mem_map.mp hx
    obtain ⟨cs, g1, g2, g3, g4⟩ := l2.good p hp
    have h3 := p_over (cs := cs) (q := 1) (by omega) (by omega) (by omega) (by decide)
    rw [g2, g3, Nat.mul_one, Nat.mul_one] at h3
    rw [tget_mem l2.nd p hp, M.ofO_some, M.bind_ok, g1, h3, M.nox_ok, M.bind_ok, wt_natI]
    have hw := wfold_lt cs 1 0 (by decide) (by omega)
    have hw2 : wtop cs ≤ 2 ^ (11 * (0 + cs.sum)) := hw
    have hb := wbot_lt (k := k) (by omega) (n := t) (by omega)
    have hle := le_sW l2.good p hp
    rw [l2.sum, g1, wt_natI] at hle
    have hwp := wtop_pos cs
    have hp2 : p.2 ≤ p.2 * (wtop cs : Int) := by
      have := Int.mul_le_mul_of_nonneg_left (c := p.2) (show (1 : Int) ≤ (wtop cs : Int) by omega) g4
      omega
    have up : ∀ {m n : Nat}, n ≤ 8 → m ≤ 2 ^ (11 * n) → m < 2 ^ 100 := fun {m n} hn hm => Nat.lt_of_le_of_lt hm ((Nat.pow_lt_pow_iff_right (by decide)).mpr (by omega))
    have u1 := up (n := t) (by omega) hb
    have u2 := up (n := 0 + cs.sum) (by omega) hw2
    rw [M.gd_of _ (mulOk_i 100 100 (by omega) (by rw [Int.natAbs_natCast]; exact u2) (by decide) (by decide) (by decide))]
    rfl
  rw [hcomp, M.nox_ok, M.bind_ok, List.map_map]
  have hsum : ((l.map ((fun key => (tget l key).getD 0 * (wt key : Int)) ∘ fun p => p.1)).sum) = sW l := by
    unfold sW
    congr 1
    refine List.map_congr_left fun p hp => ?_
    show (tget l p.1).getD 0 * _ = _
    rw [tget_mem l2.nd p hp]
    rfl
  rw [hsum, l2.sum]
  simp
end B
namespace B
open PySem PySem.Spec PyProof.Rows L2
theorem all_mk {P : Program} {w : World} {K : PySem.W.Frag} {h : Heap} {mg : Str → Option Value} {fa : Addr} (X : K.In h) (G : h.Ns mainGlobals mg) (hfa : mg "law" = some (.ref fa))
    {f1 : Addr} {od1 an1 : Option Addr} {sl1 : Array (Option Value)} {oc1 kV1 dc1 pm1 cd1 ct1 : Value}
    {f2 : Addr} {od2 an2 : Option Addr} {sl2 : Array (Option Value)} {oc2 kV2 dc2 pm2 cd2 ct2 : Value}
    {f3 : Addr} {od3 an3 : Option Addr} {sl3 : Array (Option Value)} {oc3 kV3 dc3 pm3 cd3 ct3 : Value}
    {f4 : Addr} {od4 an4 : Option Addr} {sl4 : Array (Option Value)} {oc4 kV4 dc4 pm4 cd4 ct4 : Value}
    {f5 : Addr} {od5 an5 : Option Addr} {sl5 : Array (Option Value)} {oc5 kV5 dc5 pm5 cd5 ct5 : Value}
    {f6 : Addr} {od6 an6 : Option Addr} {sl6 : Array (Option Value)} {oc6 kV6 dc6 pm6 cd6 ct6 : Value}
    {f7 : Addr} {od7 an7 : Option Addr} {sl7 : Array (Option Value)} {oc7 kV7 dc7 pm7 cd7 ct7 : Value}
    {f8 : Addr} {od8 an8 : Option Addr} {sl8 : Array (Option Value)} {oc8 kV8 dc8 pm8 cd8 ct8 : Value}
    {f9 : Addr} {od9 an9 : Option Addr} {sl9 : Array (Option Value)} {oc9 kV9 dc9 pm9 cd9 ct9 : Value}
    {f10 : Addr} {od10 an10 : Option Addr} {sl10 : Array (Option Value)} {oc10 kV10 dc10 pm10 cd10 ct10 : Value}
    {f11 : Addr} {od11 an11 : Option Addr} {sl11 : Array (Option Value)} {oc11 kV11 dc11 pm11 cd11 ct11 : Value}
    {f12 : Addr} {od12 an12 : Option Addr} {sl12 : Array (Option Value)} {oc12 kV12 dc12 pm12 cd12 ct12 : Value}
    {f13 : Addr} {od13 an13 : Option Addr} {sl13 : Array (Option Value)} {oc13 kV13 dc13 pm13 cd13 ct13 : Value}
    {f14 : Addr} {od14 an14 : Option Addr} {sl14 : Array (Option Value)} {oc14 kV14 dc14 pm14 cd14 ct14 : Value}
    {C_NoFraction : Addr}
    (a1 : PySem.W.nsIn K mainGlobals "greatest_divisor" = some (some (.ref f1))) (l1 : K.lookup f1 = some ⟨oc1, od1, .func (PySem.W.fnOf "greatest_divisor" "greatest_divisor" (defArgs s_greatest_divisor) (defBody s_greatest_divisor) (defScope s_greatest_divisor) .none kV1 dc1 pm1 an1 cd1 ct1), sl1⟩) (c1 : PySem.W.codeIn K cd1 "greatest_divisor" = true) (k1 : PySem.W.keepIn K (.ref f1) = true)
    (a2 : PySem.W.nsIn K mainGlobals "fraction" = some (some (.ref f2))) (l2 : K.lookup f2 = some ⟨oc2, od2, .func (PySem.W.fnOf "fraction" "fraction" (defArgs s_fraction) (defBody s_fraction) (defScope s_fraction) .none kV2 dc2 pm2 an2 cd2 ct2), sl2⟩) (c2 : PySem.W.codeIn K cd2 "fraction" = true) (k2 : PySem.W.keepIn K (.ref f2) = true)
    (a3 : PySem.W.nsIn K mainGlobals "odd_product" = some (some (.ref f3))) (l3 : K.lookup f3 = some ⟨oc3, od3, .func (PySem.W.fnOf "odd_product" "odd_product" (defArgs s_odd_product) (defBody s_odd_product) (defScope s_odd_product) .none kV3 dc3 pm3 an3 cd3 ct3), sl3⟩) (c3 : PySem.W.codeIn K cd3 "odd_product" = true) (k3 : PySem.W.keepIn K (.ref f3) = true)
    (a4 : PySem.W.nsIn K mainGlobals "worth" = some (some (.ref f4))) (l4 : K.lookup f4 = some ⟨oc4, od4, .func (PySem.W.fnOf "worth" "worth" (defArgs s_worth) (defBody s_worth) (defScope s_worth) .none kV4 dc4 pm4 an4 cd4 ct4), sl4⟩) (c4 : PySem.W.codeIn K cd4 "worth" = true) (k4 : PySem.W.keepIn K (.ref f4) = true)
    (a5 : PySem.W.nsIn K mainGlobals "_law_cell_at" = some (some (.ref f5))) (l5 : K.lookup f5 = some ⟨oc5, od5, .func (PySem.W.fnOf "_law_cell_at" "_law_cell_at" (defArgs s_law_cell_at) (defBody s_law_cell_at) (defScope s_law_cell_at) .none kV5 dc5 pm5 an5 cd5 ct5), sl5⟩) (c5 : PySem.W.codeIn K cd5 "_law_cell_at" = true) (k5 : PySem.W.keepIn K (.ref f5) = true)
    (a6 : PySem.W.nsIn K mainGlobals "_law_whole" = some (some (.ref f6))) (l6 : K.lookup f6 = some ⟨oc6, od6, .func (PySem.W.fnOf "_law_whole" "_law_whole" (defArgs s_law_whole) (defBody s_law_whole) (defScope s_law_whole) .none kV6 dc6 pm6 an6 cd6 ct6), sl6⟩) (c6 : PySem.W.codeIn K cd6 "_law_whole" = true) (k6 : PySem.W.keepIn K (.ref f6) = true)
    (a7 : PySem.W.nsIn K mainGlobals "_law_divisor" = some (some (.ref f7))) (l7 : K.lookup f7 = some ⟨oc7, od7, .func (PySem.W.fnOf "_law_divisor" "_law_divisor" (defArgs s_law_divisor) (defBody s_law_divisor) (defScope s_law_divisor) .none kV7 dc7 pm7 an7 cd7 ct7), sl7⟩) (c7 : PySem.W.codeIn K cd7 "_law_divisor" = true) (k7 : PySem.W.keepIn K (.ref f7) = true)
    (a8 : PySem.W.nsIn K mainGlobals "_law_is_fraction" = some (some (.ref f8))) (l8 : K.lookup f8 = some ⟨oc8, od8, .func (PySem.W.fnOf "_law_is_fraction" "_law_is_fraction" (defArgs s_law_is_fraction) (defBody s_law_is_fraction) (defScope s_law_is_fraction) .none kV8 dc8 pm8 an8 cd8 ct8), sl8⟩) (c8 : PySem.W.codeIn K cd8 "_law_is_fraction" = true) (k8 : PySem.W.keepIn K (.ref f8) = true)
    (a9 : PySem.W.nsIn K mainGlobals "_law_bottom" = some (some (.ref f9))) (l9 : K.lookup f9 = some ⟨oc9, od9, .func (PySem.W.fnOf "_law_bottom" "_law_bottom" (defArgs s_law_bottom) (defBody s_law_bottom) (defScope s_law_bottom) .none kV9 dc9 pm9 an9 cd9 ct9), sl9⟩) (c9 : PySem.W.codeIn K cd9 "_law_bottom" = true) (k9 : PySem.W.keepIn K (.ref f9) = true)
    (a10 : PySem.W.nsIn K mainGlobals "_law_over" = some (some (.ref f10))) (l10 : K.lookup f10 = some ⟨oc10, od10, .func (PySem.W.fnOf "_law_over" "_law_over" (defArgs s_law_over) (defBody s_law_over) (defScope s_law_over) .none kV10 dc10 pm10 an10 cd10 ct10), sl10⟩) (c10 : PySem.W.codeIn K cd10 "_law_over" = true) (k10 : PySem.W.keepIn K (.ref f10) = true)
    (a11 : PySem.W.nsIn K mainGlobals "_law_more" = some (some (.ref f11))) (l11 : K.lookup f11 = some ⟨oc11, od11, .func (PySem.W.fnOf "_law_more" "_law_more" (defArgs s_law_more) (defBody s_law_more) (defScope s_law_more) .none kV11 dc11 pm11 an11 cd11 ct11), sl11⟩) (c11 : PySem.W.codeIn K cd11 "_law_more" = true) (k11 : PySem.W.keepIn K (.ref f11) = true)
    (a12 : PySem.W.nsIn K mainGlobals "_law_next" = some (some (.ref f12))) (l12 : K.lookup f12 = some ⟨oc12, od12, .func (PySem.W.fnOf "_law_next" "_law_next" (defArgs s_law_next) (defBody s_law_next) (defScope s_law_next) .none kV12 dc12 pm12 an12 cd12 ct12), sl12⟩) (c12 : PySem.W.codeIn K cd12 "_law_next" = true) (k12 : PySem.W.keepIn K (.ref f12) = true)
    (a13 : PySem.W.nsIn K mainGlobals "_law_all" = some (some (.ref f13))) (l13 : K.lookup f13 = some ⟨oc13, od13, .func (PySem.W.fnOf "_law_all" "_law_all" (defArgs s_law_all) (defBody s_law_all) (defScope s_law_all) .none kV13 dc13 pm13 an13 cd13 ct13), sl13⟩) (c13 : PySem.W.codeIn K cd13 "_law_all" = true) (k13 : PySem.W.keepIn K (.ref f13) = true)
    (a14 : PySem.W.nsIn K mainGlobals "law" = some (some (.ref f14))) (l14 : K.lookup f14 = some ⟨oc14, od14, .func (PySem.W.fnOf "law" "law" (defArgs s_law) (defBody s_law) (defScope s_law) .none kV14 dc14 pm14 an14 cd14 ct14), sl14⟩) (c14 : PySem.W.codeIn K cd14 "law" = true) (k14 : PySem.W.keepIn K (.ref f14) = true)
    (z_ValueError : PySem.W.nsIn K mainGlobals "ValueError" = some none)
    (z_abs : PySem.W.nsIn K mainGlobals "abs" = some none)
    (z_bool : PySem.W.nsIn K mainGlobals "bool" = some none)
    (z_int : PySem.W.nsIn K mainGlobals "int" = some none)
    (z_isinstance : PySem.W.nsIn K mainGlobals "isinstance" = some none)
    (z_len : PySem.W.nsIn K mainGlobals "len" = some none)
    (z_list : PySem.W.nsIn K mainGlobals "list" = some none)
    (z_min : PySem.W.nsIn K mainGlobals "min" = some none)
    (z_range : PySem.W.nsIn K mainGlobals "range" = some none)
    (z_sum : PySem.W.nsIn K mainGlobals "sum" = some none)
    (z_tuple : PySem.W.nsIn K mainGlobals "tuple" = some none)
    (aC_NoFraction : PySem.W.nsIn K mainGlobals "NoFraction" = some (some (.ref C_NoFraction))) (xC_NoFraction : PySem.W.excIn K C_NoFraction [.type "ValueError", .type "Exception", .type "BaseException", .type "object"] "ValueError.__new__" = true) (kC_NoFraction : PySem.W.keepIn K (.ref C_NoFraction) = true) (bC_NoFraction : PySem.W.subIn K (.ref C_NoFraction) (.type "BaseException") = some true) (tC_NoFraction : PySem.W.typeIn K (.ref C_NoFraction) = some (.type "type"))
    : ∃ fd : FuncData, (∀ (s : Shared) (v : Value), BindsTo s fd ⟨[v], []⟩ [("script", v)]) ∧ ∀ base : Heap, K.In base → base.Ns mainGlobals mg → FnOk P w K mg base (L2.CX P w) 6 fa fd ["script"] (spLaw K) := by
  have F_greatest_divisor := fun_mk (st := s_greatest_divisor) l1 c1 k1
  have D_greatest_divisor : Df K mg "greatest_divisor" s_greatest_divisor ["one", "other"] := ⟨f1, _, F_greatest_divisor, PySem.W.mg_of X G a1, F_greatest_divisor.binds (ps := ["one", "other"]) (fun _ _ _ _ _ _ us hl => match us, hl with | [_, _], _ => rfl)⟩
  have F_fraction := fun_mk (st := s_fraction) l2 c2 k2
  have D_fraction : Df K mg "fraction" s_fraction ["top", "bottom"] := ⟨f2, _, F_fraction, PySem.W.mg_of X G a2, F_fraction.binds (ps := ["top", "bottom"]) (fun _ _ _ _ _ _ us hl => match us, hl with | [_, _], _ => rfl)⟩
  have F_odd_product := fun_mk (st := s_odd_product) l3 c3 k3
  have D_odd_product : Df K mg "odd_product" s_odd_product ["many"] := ⟨f3, _, F_odd_product, PySem.W.mg_of X G a3, F_odd_product.binds (ps := ["many"]) (fun _ _ _ _ _ _ us hl => match us, hl with | [_], _ => rfl)⟩
  have F_worth := fun_mk (st := s_worth) l4 c4 k4
  have D_worth : Df K mg "worth" s_worth ["counts"] := ⟨f4, _, F_worth, PySem.W.mg_of X G a4, F_worth.binds (ps := ["counts"]) (fun _ _ _ _ _ _ us hl => match us, hl with | [_], _ => rfl)⟩
  have F_law_cell_at := fun_mk (st := s_law_cell_at) l5 c5 k5
  have D_law_cell_at : Df K mg "_law_cell_at" s_law_cell_at ["script", "k"] := ⟨f5, _, F_law_cell_at, PySem.W.mg_of X G a5, F_law_cell_at.binds (ps := ["script", "k"]) (fun _ _ _ _ _ _ us hl => match us, hl with | [_, _], _ => rfl)⟩
  have F_law_whole := fun_mk (st := s_law_whole) l6 c6 k6
  have D_law_whole : Df K mg "_law_whole" s_law_whole ["thing"] := ⟨f6, _, F_law_whole, PySem.W.mg_of X G a6, F_law_whole.binds (ps := ["thing"]) (fun _ _ _ _ _ _ us hl => match us, hl with | [_], _ => rfl)⟩
  have F_law_divisor := fun_mk (st := s_law_divisor) l7 c7 k7
  have D_law_divisor : Df K mg "_law_divisor" s_law_divisor ["one", "other"] := ⟨f7, _, F_law_divisor, PySem.W.mg_of X G a7, F_law_divisor.binds (ps := ["one", "other"]) (fun _ _ _ _ _ _ us hl => match us, hl with | [_, _], _ => rfl)⟩
  have F_law_is_fraction := fun_mk (st := s_law_is_fraction) l8 c8 k8
  have D_law_is_fraction : Df K mg "_law_is_fraction" s_law_is_fraction ["found"] := ⟨f8, _, F_law_is_fraction, PySem.W.mg_of X G a8, F_law_is_fraction.binds (ps := ["found"]) (fun _ _ _ _ _ _ us hl => match us, hl with | [_], _ => rfl)⟩
  have F_law_bottom := fun_mk (st := s_law_bottom) l9 c9 k9
  have D_law_bottom : Df K mg "_law_bottom" s_law_bottom ["many", "total"] := ⟨f9, _, F_law_bottom, PySem.W.mg_of X G a9, F_law_bottom.binds (ps := ["many", "total"]) (fun _ _ _ _ _ _ us hl => match us, hl with | [_, _], _ => rfl)⟩
  have F_law_over := fun_mk (st := s_law_over) l10 c10 k10
  have D_law_over : Df K mg "_law_over" s_law_over ["some", "bottom"] := ⟨f10, _, F_law_over, PySem.W.mg_of X G a10, F_law_over.binds (ps := ["some", "bottom"]) (fun _ _ _ _ _ _ us hl => match us, hl with | [_, _], _ => rfl)⟩
  have F_law_more := fun_mk (st := s_law_more) l11 c11 k11
  have D_law_more : Df K mg "_law_more" s_law_more ["some", "place"] := ⟨f11, _, F_law_more, PySem.W.mg_of X G a11, F_law_more.binds (ps := ["some", "place"]) (fun _ _ _ _ _ _ us hl => match us, hl with | [_, _], _ => rfl)⟩
  have F_law_next := fun_mk (st := s_law_next) l12 c12 k12
  have D_law_next : Df K mg "_law_next" s_law_next ["some"] := ⟨f12, _, F_law_next, PySem.W.mg_of X G a12, F_law_next.binds (ps := ["some"]) (fun _ _ _ _ _ _ us hl => match us, hl with | [_], _ => rfl)⟩
  have F_law_all := fun_mk (st := s_law_all) l13 c13 k13
  have D_law_all : Df K mg "_law_all" s_law_all ["many", "total"] := ⟨f13, _, F_law_all, PySem.W.mg_of X G a13, F_law_all.binds (ps := ["many", "total"]) (fun _ _ _ _ _ _ us hl => match us, hl with | [_, _], _ => rfl)⟩
  have F_law := fun_mk (st := s_law) l14 c14 k14
  have T : Txt K mg := { b_ValueError := PySem.W.mg_none_of X G z_ValueError, b_abs := PySem.W.mg_none_of X G z_abs, b_bool := PySem.W.mg_none_of X G z_bool, b_int := PySem.W.mg_none_of X G z_int, b_isinstance := PySem.W.mg_none_of X G z_isinstance, b_len := PySem.W.mg_none_of X G z_len, b_list := PySem.W.mg_none_of X G z_list, b_min := PySem.W.mg_none_of X G z_min, b_range := PySem.W.mg_none_of X G z_range, b_sum := PySem.W.mg_none_of X G z_sum, b_tuple := PySem.W.mg_none_of X G z_tuple, e_NoFraction := ⟨C_NoFraction, PySem.W.mg_of X G aC_NoFraction, xC_NoFraction, kC_NoFraction, bC_NoFraction, tC_NoFraction⟩ }
  have e := hfa.symm.trans (PySem.W.mg_of X G a14)
  cases e
  refine ⟨PySem.W.fnOf "law" "law" (defArgs s_law) (defBody s_law) (defScope s_law) .none kV14 dc14 pm14 an14 cd14 ct14, fun s v => .of_eq rfl, fun base _ _ => ?_⟩
  have G_greatest_divisor := ok_greatest_divisor (P := P) (w := w) (base := base) T D_greatest_divisor
  have G_fraction := ok_fraction T G_greatest_divisor D_fraction
  have G_odd_product := ok_odd_product (P := P) (w := w) (base := base) T D_odd_product
  have G_worth := ok_worth T G_fraction G_odd_product D_worth
  have G_law_cell_at := ok_law_cell_at (P := P) (w := w) (base := base) T D_law_cell_at
  have G_law_whole := ok_law_whole (P := P) (w := w) (base := base) T D_law_whole
  have G_law_divisor := ok_law_divisor (P := P) (w := w) (base := base) T D_law_divisor
  have G_law_is_fraction := ok_law_is_fraction T G_law_divisor G_law_whole D_law_is_fraction
  have G_law_bottom := ok_law_bottom (P := P) (w := w) (base := base) T D_law_bottom
  have G_law_over := ok_law_over T G_worth G_law_is_fraction D_law_over
  have G_law_more := ok_law_more (P := P) (w := w) (base := base) T D_law_more
  have G_law_next := ok_law_next T G_law_bottom G_law_over G_law_more D_law_next
  have G_law_all := ok_law_all T G_law_more D_law_all
  refine law_imp (FnOk_sub (fun ds o h => ?_) (ok_law T G_law_cell_at G_law_bottom G_law_all G_law_more G_law_next G_law_over F_law))
  obtain ⟨ns, rfl, h1, h2, rfl⟩ := h
  exact ⟨ns, rfl, by rw [law_holds ns h1 h2]; rfl⟩
end B
open PySem PySem.W PyProof.Rows
set_option maxRecDepth 100000 in
set_option maxHeartbeats 0 in
theorem PySem.Challenge.cw_boughpress_k23_whole_worths_come_to_one_holds : PySem.Challenge.rw_boughpress_k23_whole_worths_come_to_one.Holds := by
  w_on; o_law; k_head; (case hw => w_witness2)
  k_fill
  refine B.walk (l := PySem.Challenge.rw_boughpress_k23_whole_worths_come_to_one) (k := 6) rfl rfl ⟨rfl, by decide, by decide⟩ (fun w h Y => PySem.W.kIn_of Y) ?F
  case F =>
    intro w mg fa h KX G hmg
    refine' B.all_mk KX G hmg ?a1 ?l1 ?c1 ?k1 ?a2 ?l2 ?c2 ?k2 ?a3 ?l3 ?c3 ?k3 ?a4 ?l4 ?c4 ?k4 ?a5 ?l5 ?c5 ?k5 ?a6 ?l6 ?c6 ?k6 ?a7 ?l7 ?c7 ?k7 ?a8 ?l8 ?c8 ?k8 ?a9 ?l9 ?c9 ?k9 ?a10 ?l10 ?c10 ?k10 ?a11 ?l11 ?c11 ?k11 ?a12 ?l12 ?c12 ?k12 ?a13 ?l13 ?c13 ?k13 ?a14 ?l14 ?c14 ?k14 ?z_ValueError ?z_abs ?z_bool ?z_int ?z_isinstance ?z_len ?z_list ?z_min ?z_range ?z_sum ?z_tuple ?aC_NoFraction ?xC_NoFraction ?kC_NoFraction ?bC_NoFraction ?tC_NoFraction
    (case a1 => k_is)
    (case l1 => k_is)
    (case c1 => k_is)
    (case k1 => k_is)
    (case a2 => k_is)
    (case l2 => k_is)
    (case c2 => k_is)
    (case k2 => k_is)
    (case a3 => k_is)
    (case l3 => k_is)
    (case c3 => k_is)
    (case k3 => k_is)
    (case a4 => k_is)
    (case l4 => k_is)
    (case c4 => k_is)
    (case k4 => k_is)
    (case a5 => k_is)
    (case l5 => k_is)
    (case c5 => k_is)
    (case k5 => k_is)
    (case a6 => k_is)
    (case l6 => k_is)
    (case c6 => k_is)
    (case k6 => k_is)
    (case a7 => k_is)
    (case l7 => k_is)
    (case c7 => k_is)
    (case k7 => k_is)
    (case a8 => k_is)
    (case l8 => k_is)
    (case c8 => k_is)
    (case k8 => k_is)
    (case a9 => k_is)
    (case l9 => k_is)
    (case c9 => k_is)
    (case k9 => k_is)
    (case a10 => k_is)
    (case l10 => k_is)
    (case c10 => k_is)
    (case k10 => k_is)
    (case a11 => k_is)
    (case l11 => k_is)
    (case c11 => k_is)
    (case k11 => k_is)
    (case a12 => k_is)
    (case l12 => k_is)
    (case c12 => k_is)
    (case k12 => k_is)
    (case a13 => k_is)
    (case l13 => k_is)
    (case c13 => k_is)
    (case k13 => k_is)
    (case a14 => k_is)
    (case l14 => k_is)
    (case c14 => k_is)
    (case k14 => k_is)
    (case z_ValueError => k_is)
    (case z_abs => k_is)
    (case z_bool => k_is)
    (case z_int => k_is)
    (case z_isinstance => k_is)
    (case z_len => k_is)
    (case z_list => k_is)
    (case z_min => k_is)
    (case z_range => k_is)
    (case z_sum => k_is)
    (case z_tuple => k_is)
    (case aC_NoFraction => k_is)
    (case xC_NoFraction => k_exc)
    (case kC_NoFraction => k_is)
    (case bC_NoFraction => k_is)
    (case tC_NoFraction => k_is)
#print axioms PySem.Challenge.cw_boughpress_k23_whole_worths_come_to_one_holds


