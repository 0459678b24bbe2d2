import PyProof.Rows.All
import Wide.All
import OpenK.AllK
import Wide.FinOn
import HandS.ForMost
import HandS.Exc
import HandS.TryOnly
import HandS.ExcOwn
import HandS.WordsExc
import HandS.ExcIs
import HandS.IsInst
import HandS.Wide
import HandS.EndBits
import HandS.Codes
import HandS.StrMore
import HandS.TupAny
import HandS.Rev
import HandS.Text
import HandS.WideBits
import HandS.Dict
import HandS.Small
import HandS.Style
import HandS.RevTup
import HandS.Conv
import HandS.More
import PyProof.ListStr
import HandS.Defaults
import PyProof.DictUpdate
import PyProof.Rows.SumAny
import PyProof.Draws
import PyProof.EnumMake
import HandS.CallSlots
import PyProof.Rows.StrPadFill
import PyProof.Rows.StrPadWhole
import PyProof.Laws
import HandS.SortInts
import PySem.Challenge.RW_boughpress_k82_whole_pressed_behind
set_option Elab.async false
set_option linter.all false
set_option maxRecDepth 100000
set_option maxHeartbeats 4000000
namespace B
open PySem PySem.Spec PyProof.Rows L2

/-! ### data without the heap -/
inductive Dat where
  | non
  | bl (b : Bool)
  | int (i : Int)
  | str (s : Str)
  | tup (ds : List Dat)
  | lst (ds : List Dat)
  | dic (kvs : List (Key × Dat))

mutual
/-- nothing in it may be changed -/
def flat : Dat → Bool
  | .non => true
  | .bl _ => true
  | .int _ => true
  | .str _ => true
  | .tup ds => flats ds
  | .lst _ => false
  | .dic _ => false
def flats : List Dat → Bool
  | [] => true
  | d :: r => flat d && flats r
end

mutual
inductive At (K : PySem.W.Frag) (H : Hp) : V → Dat → Prop where
  | non : At K H .non .non
  | bl (b : Bool) : At K H (.bl b) (.bl b)
  | int (i : Int) : At K H (.int i) (.int i)
  | str (s : Str) : At K H (.str s) (.str s)
  | tup {p : Addr} {vs : List V} {ds : List Dat} : SqT K H p vs → Ats K H vs ds → At K H (.ref p) (.tup ds)
  | lst {p : Addr} {vs : List V} {ds : List Dat} : SqL K H p vs → Ats K H vs ds → At K H (.ref p) (.lst ds)
  | dic {p : Addr} {vs : List (Key × V)} {ds : List (Key × Dat)} : Rd H p (.dK vs) → Atk K H vs ds → At K H (.ref p) (.dic ds)
inductive Ats (K : PySem.W.Frag) (H : Hp) : List V → List Dat → Prop where
  | nil : Ats K H [] []
  | cons {v : V} {d : Dat} {vs : List V} {ds : List Dat} : At K H v d → Ats K H vs ds → Ats K H (v :: vs) (d :: ds)
inductive Atk (K : PySem.W.Frag) (H : Hp) : List (Key × V) → List (Key × Dat) → Prop where
  | nil : Atk K H [] []
  | cons {k : Key} {v : V} {d : Dat} {vs : List (Key × V)} {ds : List (Key × Dat)} : At K H v d → Atk K H vs ds → Atk K H ((k, v) :: vs) ((k, d) :: ds)
end

theorem sql_same {K : PySem.W.Frag} {H H' : Hp} {a : Addr} {xs : List V} (e : Same H H') (h : SqL K H a xs) : SqL K H' a xs := e.seq h
theorem sqt_same {K : PySem.W.Frag} {H H' : Hp} {a : Addr} {xs : List V} (e : Same H H') (h : SqT K H a xs) : SqT K H' a xs := by
  rcases h with (h | ⟨o, h⟩) | h
  · exact .inl (.inl (e _ _ h))
  · exact .inl (.inr ⟨o, e _ _ h⟩)
  · exact .inr h

theorem rd_same {H H' : Hp} {a : Addr} {u : HO} (e : Same H H') (h : Rd H a u) : Rd H' a u := by
  rcases h with h | ⟨o, h⟩
  · exact .inl (e _ _ h)
  · exact .inr ⟨o, e _ _ h⟩
mutual
theorem At.mono {K : PySem.W.Frag} {H H' : Hp} (e : Same H H') : ∀ {v : V} {d : Dat}, At K H v d → At K H' v d
  | _, _, .non => .non
  | _, _, .bl b => .bl b
  | _, _, .int i => .int i
  | _, _, .str s => .str s
  | _, _, .tup h t => .tup (sqt_same e h) (Ats.mono e t)
  | _, _, .lst h t => .lst (sql_same e h) (Ats.mono e t)
  | _, _, .dic h t => .dic (rd_same e h) (Atk.mono e t)
theorem Ats.mono {K : PySem.W.Frag} {H H' : Hp} (e : Same H H') : ∀ {vs : List V} {ds : List Dat}, Ats K H vs ds → Ats K H' vs ds
  | _, _, .nil => .nil
  | _, _, .cons a t => .cons (At.mono e a) (Ats.mono e t)
theorem Atk.mono {K : PySem.W.Frag} {H H' : Hp} (e : Same H H') : ∀ {vs : List (Key × V)} {ds : List (Key × Dat)}, Atk K H vs ds → Atk K H' vs ds
  | _, _, .nil => .nil
  | _, _, .cons a t => .cons (At.mono e a) (Atk.mono e t)
end

open Classical in
/-- what of a heap no one can change -/
noncomputable def Imm (H : Hp) : Hp := fun a => if Mut (H a) then none else H a
theorem imm_sub (H : Hp) : Same (Imm H) H := fun a o h => by
  unfold Imm at h
  split at h
  · cases h
  · exact h
theorem imm_of {H : Hp} {a : Addr} {o : HO} (h : H a = some o) (n : ¬ Mut (some o)) : Imm H a = some o := by
  unfold Imm
  rw [if_neg (by rw [h]; exact n)]
  exact h
theorem imm_not {H : Hp} {a : Addr} {o : HO} (h : Imm H a = some o) : ¬ Mut (some o) := by
  intro m
  have e := imm_sub H a o h
  unfold Imm at h
  rw [if_pos (by rw [e]; exact m)] at h
  cases h
theorem imm_same {H H' : Hp} (e : Same H H') : Same (Imm H) (Imm H') := fun a o h => imm_of (e a o (imm_sub H a o h)) (imm_not h)
theorem sqt_imm {K : PySem.W.Frag} {H : Hp} {a : Addr} {xs : List V} (h : SqT K H a xs) : SqT K (Imm H) a xs := by
  rcases h with (h | ⟨o, h⟩) | h
  · exact .inl (.inl (imm_of h fun z => z))
  · exact .inl (.inr ⟨o, imm_of h fun z => z⟩)
  · exact .inr h
mutual
theorem At.imm {K : PySem.W.Frag} {H : Hp} : ∀ {v : V} {d : Dat}, At K H v d → flat d = true → At K (Imm H) v d
  | _, _, .non, _ => .non
  | _, _, .bl b, _ => .bl b
  | _, _, .int i, _ => .int i
  | _, _, .str s, _ => .str s
  | _, _, .tup h t, f => .tup (sqt_imm h) (Ats.imm t (by simpa only [flat] using f))
  | _, _, .lst _ _, f => by simp [flat] at f
  | _, _, .dic _ _, f => by simp [flat] at f
theorem Ats.imm {K : PySem.W.Frag} {H : Hp} : ∀ {vs : List V} {ds : List Dat}, Ats K H vs ds → flats ds = true → Ats K (Imm H) vs ds
  | _, _, .nil, _ => .nil
  | _, _, .cons a t, f => by
    simp only [flats, Bool.and_eq_true] at f
    exact .cons (At.imm a f.1) (Ats.imm t f.2)
end
theorem Ats.length {K : PySem.W.Frag} {H : Hp} : ∀ {vs : List V} {ds : List Dat}, Ats K H vs ds → vs.length = ds.length
  | _, _, .nil => rfl
  | _, _, .cons _ t => by rw [List.length_cons, List.length_cons, Ats.length t]
theorem Ats.get {K : PySem.W.Frag} {H : Hp} : ∀ {vs : List V} {ds : List Dat} {i : Nat} {d : Dat}, Ats K H vs ds → ds[i]? = some d → ∃ v, vs[i]? = some v ∧ At K H v d
  | _, _, i, _, .nil, e => by simp at e
  | _, _, 0, _, .cons a _, e => by
    simp at e
    subst e
    exact ⟨_, rfl, a⟩
  | _, _, i + 1, d, .cons _ t, e => by
    obtain ⟨v, h1, h2⟩ := Ats.get (i := i) (d := d) t (by simpa using e)
    exact ⟨v, by simpa using h1, h2⟩
theorem Ats.getV {K : PySem.W.Frag} {H : Hp} : ∀ {vs : List V} {ds : List Dat} {i : Nat} {v : V}, Ats K H vs ds → vs[i]? = some v → ∃ d, ds[i]? = some d ∧ At K H v d
  | _, _, i, _, .nil, e => by simp at e
  | _, _, 0, _, .cons a _, e => by
    simp at e
    subst e
    exact ⟨_, rfl, a⟩
  | _, _, i + 1, d, .cons _ t, e => by
    obtain ⟨v, h1, h2⟩ := Ats.getV (i := i) (v := d) t (by simpa using e)
    exact ⟨v, by simpa using h1, h2⟩
theorem Ats.append {K : PySem.W.Frag} {H : Hp} : ∀ {vs us : List V} {ds es : List Dat}, Ats K H vs ds → Ats K H us es → Ats K H (vs ++ us) (ds ++ es)
  | _, _, _, _, .nil, s => s
  | _, _, _, _, .cons a t, s => .cons a (Ats.append t s)
theorem Ats.set {K : PySem.W.Frag} {H : Hp} {v : V} {d : Dat} (a : At K H v d) : ∀ {vs : List V} {ds : List Dat} (i : Nat), Ats K H vs ds → Ats K H (vs.set i v) (ds.set i d)
  | _, _, _, .nil => .nil
  | _, _, 0, .cons _ t => .cons a t
  | _, _, i + 1, .cons b t => .cons b (Ats.set a i t)
theorem Ats.take {K : PySem.W.Frag} {H : Hp} : ∀ {vs : List V} {ds : List Dat} (n : Nat), Ats K H vs ds → Ats K H (vs.take n) (ds.take n)
  | _, _, 0, _ => .nil
  | _, _, _ + 1, .nil => .nil
  | _, _, n + 1, .cons a t => .cons a (Ats.take n t)
theorem Ats.drop {K : PySem.W.Frag} {H : Hp} : ∀ {vs : List V} {ds : List Dat} (n : Nat), Ats K H vs ds → Ats K H (vs.drop n) (ds.drop n)
  | _, _, 0, r => r
  | _, _, _ + 1, .nil => .nil
  | _, _, n + 1, .cons _ t => Ats.drop n t
theorem Ats.ints {K : PySem.W.Frag} {H : Hp} : ∀ {vs : List V} {ns : List Int}, Ats K H vs (ns.map .int) → vs = ns.map .int
  | [], [], _ => rfl
  | _ :: _, n :: ns, .cons a t => by
    cases a
    rw [Ats.ints t]
    rfl
  | [], _ :: _, h => by cases h
  | _ :: _, [], h => by cases h
theorem Ats.ofInts {K : PySem.W.Frag} {H : Hp} : ∀ (ns : List Int), Ats K H (ns.map .int) (ns.map .int)
  | [] => .nil
  | n :: ns => .cons (.int n) (Ats.ofInts ns)

/-! ### what a def's names hold -/
inductive Ent where
  /-- no value, or one that is not asked for -/
  | no
  /-- data that nobody changes -/
  | im (d : Dat)
  /-- handed in: stands as it was at the entry -/
  | ol (d : Dat)
  /-- a list or dict of the def's own, that it may change -/
  | ow (d : Dat)
  /-- the thing at that address -/
  | rf (a : Addr)
abbrev Env' := List Ent

def Own (K : PySem.W.Frag) (H N : Hp) (p : Addr) : Dat → Prop
  | .lst ds => ∃ vs, H p = some (.lst vs) ∧ Ats K N vs ds
  | .dic ds => ∃ vs, H p = some (.dK vs) ∧ Atk K N vs ds
  | _ => False

structure Rep (K : PySem.W.Frag) (H0 : Hp) (ρ : Env') (σ : L2.St) (H N : Hp) : Prop where
  old : Same H0 H
  sub : Same N H
  imm : Same (Imm H0) N
  fresh : ∀ a o, N a = some o → Mut (some o) → H0 a = none
  len : ρ.length = σ.length
  im : ∀ (i : Nat) d, ρ[i]? = some (Ent.im d) → ∃ v, σ[i]? = some (some v) ∧ At K N v d
  ol : ∀ (i : Nat) d, ρ[i]? = some (Ent.ol d) → ∃ v, σ[i]? = some (some v) ∧ At K H0 v d
  ow : ∀ (i : Nat) d, ρ[i]? = some (Ent.ow d) → ∃ p, σ[i]? = some (some (V.ref p)) ∧ H0 p = none ∧ N p = none ∧ Own K H N p d
  rf : ∀ (i : Nat) a, ρ[i]? = some (Ent.rf a) → σ[i]? = some (some (V.ref a))
  apart : ∀ (i j : Nat) d d' p, i ≠ j → ρ[i]? = some (Ent.ow d) → ρ[j]? = some (Ent.ow d') → σ[i]? = some (some (V.ref p)) → σ[j]? ≠ some (some (V.ref p))

/-- what is handed out: nothing of it was there ahead and may be changed -/
def Ret (K : PySem.W.Frag) (H0 : Hp) (v : V) (d : Dat) (H : Hp) : Prop := ∃ N, Same N H ∧ (∀ a o, N a = some o → Mut (some o) → H0 a = none) ∧ At K N v d

/-! ### the machine's own wishes, as readings -/
section
variable (X : Cx)
def WE (e : Expr) : TE := fun σ H Q => ∀ (pins : List (Addr × Obj)) (s : Shared), Inv X pins σ H s → wpAny (model X.prog X.w) X.A (eval e X.env) (EP X pins σ Q) X.xe s
def WT (e : Expr) : TT := fun σ H Q => ∀ (pins : List (Addr × Obj)) (s : Shared), Inv X pins σ H s → wpAny (model X.prog X.w) X.A (isTrue e X.env (eval e X.env)) (TP X pins σ Q) X.xe s
def WW (e : Expr) : TT := fun σ H Q => ∀ (whole : Sem Value) (pins : List (Addr × Obj)) (s : Shared), Inv X pins σ H s → wpAny (model X.prog X.w) X.A (isTrue e X.env whole) (TP X pins σ Q) X.xe s
def WA (es : List Expr) : TA := fun σ H Q => ∀ (pos : Pos) (pins : List (Addr × Obj)) (s : Shared), Inv X pins σ H s → wpAny (model X.prog X.w) X.A (spliced (backTo pos (starEach es X.env))) (AP X pins σ Q) X.xe s
def WS (st : Stmt) : TS := fun D σ H => ∀ (pins : List (Addr × Obj)) (s : Shared), Inv X pins σ H s → wpAny (model X.prog X.w) X.A (exec st X.env) (SP X pins D) X.xe s
def WB (sts : List Stmt) : TS := fun D σ H => ∀ (pins : List (Addr × Obj)) (s : Shared), Inv X pins σ H s → wpAny (model X.prog X.w) X.A (execs sts X.env) (SP X pins D) X.xe s
end
section
variable {X : Cx} {e : Expr} {es : List Expr} {st : Stmt} {sts : List Stmt}
theorem pe_w : PE X e (WE X e) := ⟨fun pins s _ _ _ I h => h pins s I⟩
theorem pt_w : PT X e (WT X e) := ⟨fun pins s _ _ _ I h => h pins s I⟩
theorem pw_w : PW X e (WW X e) := ⟨fun wh pins s _ _ _ I h => h wh pins s I⟩
theorem pa_w : PA X es (WA X es) := ⟨fun pos pins s _ _ _ I h => h pos pins s I⟩
theorem ps_w : PS X st (WS X st) := ⟨fun pins s _ _ _ I h => h pins s I⟩
theorem pb_w : PSs X sts (WB X sts) := ⟨fun pins s _ _ _ I h => h pins s I⟩
theorem we_of {t : TE} {σ : L2.St} {H : Hp} {Q : VK} (p : PE X e t) (h : t σ H Q) : WE X e σ H Q := fun pins s I => p.run pins s σ H Q I h
theorem wt_of {t : TT} {σ : L2.St} {H : Hp} {Q : Bool → Hp → Prop} (p : PT X e t) (h : t σ H Q) : WT X e σ H Q := fun pins s I => p.run pins s σ H Q I h
theorem ww_of {t : TT} {σ : L2.St} {H : Hp} {Q : Bool → Hp → Prop} (p : PW X e t) (h : t σ H Q) : WW X e σ H Q := fun wh pins s I => p.run wh pins s σ H Q I h
theorem wa_of {t : TA} {σ : L2.St} {H : Hp} {Q : List V → Hp → Prop} (p : PA X es t) (h : t σ H Q) : WA X es σ H Q := fun pos pins s I => p.run pos pins s σ H Q I h
theorem ws_of {t : TS} {D : Ends} {σ : L2.St} {H : Hp} (p : PS X st t) (h : t D σ H) : WS X st D σ H := fun pins s I => p.run pins s σ H D I h
theorem wb_of {t : TS} {D : Ends} {σ : L2.St} {H : Hp} (p : PSs X sts t) (h : t D σ H) : WB X sts D σ H := fun pins s I => p.run pins s σ H D I h
theorem WE.imp {σ : L2.St} {H : Hp} {Q Q' : VK} (h : WE X e σ H Q) (k : ∀ v H', Q v H' → Q' v H') : WE X e σ H Q' := fun pins s I =>
  thn (h pins s I) fun _ _ ⟨v, H', I', r, q⟩ => ⟨v, H', I', r, k v H' q⟩
theorem WT.imp {σ : L2.St} {H : Hp} {Q Q' : Bool → Hp → Prop} (h : WT X e σ H Q) (k : ∀ v H', Q v H' → Q' v H') : WT X e σ H Q' := fun pins s I =>
  thn (h pins s I) fun _ _ ⟨H', I', q⟩ => ⟨H', I', k _ H' q⟩
theorem WW.imp {σ : L2.St} {H : Hp} {Q Q' : Bool → Hp → Prop} (h : WW X e σ H Q) (k : ∀ v H', Q v H' → Q' v H') : WW X e σ H Q' := fun wh pins s I =>
  thn (h wh pins s I) fun _ _ ⟨H', I', q⟩ => ⟨H', I', k _ H' q⟩
theorem WW.wt {σ : L2.St} {H : Hp} {Q : Bool → Hp → Prop} (h : WW X e σ H Q) : WT X e σ H Q := fun pins s I => h _ pins s I
theorem WA.imp {σ : L2.St} {H : Hp} {Q Q' : List V → Hp → Prop} (h : WA X es σ H Q) (k : ∀ v H', Q v H' → Q' v H') : WA X es σ H Q' := fun pos pins s I =>
  thn (h pos pins s I) fun _ _ ⟨v, H', I', r, q⟩ => ⟨v, H', I', r, k v H' q⟩
theorem sp_imp {pins : List (Addr × Obj)} {D D' : Ends} {f : Flow} {s : Shared} (h : SP X pins D f s) (h1 : ∀ σ H, D.nx σ H → D'.nx σ H) (h2 : ∀ v H, D.rt v H → D'.rt v H) (h3 : ∀ σ H, D.bk σ H → D'.bk σ H) (h4 : ∀ σ H, D.ct σ H → D'.ct σ H) : SP X pins D' f s := by
  cases f with
  | next => obtain ⟨σ', H', I, q⟩ := h; exact ⟨σ', H', I, h1 _ _ q⟩
  | brk => obtain ⟨σ', H', I, q⟩ := h; exact ⟨σ', H', I, h3 _ _ q⟩
  | cont => obtain ⟨σ', H', I, q⟩ := h; exact ⟨σ', H', I, h4 _ _ q⟩
  | ret u => obtain ⟨v, σ', H', I, r, q⟩ := h; exact ⟨v, σ', H', I, r, h2 _ _ q⟩
end

/-! ### what an expression is worth -/
section
variable (X : Cx) (H0 : Hp) (ρ : Env')
/-- data that nobody changes -/
def Ev (e : Expr) (d : Dat) : Prop := ∀ σ H N, Rep X.K H0 ρ σ H N → WE X e σ H fun v H' => ∃ N', Same H H' ∧ Same N N' ∧ Rep X.K H0 ρ σ H' N' ∧ At X.K N' v d
/-- data to be read -/
def EvB (e : Expr) (d : Dat) : Prop := ∀ σ H N, Rep X.K H0 ρ σ H N → WE X e σ H fun v H' => ∃ N', Same H H' ∧ Same N N' ∧ Rep X.K H0 ρ σ H' N' ∧ At X.K H' v d
def EvT (e : Expr) (b : Bool) : Prop := ∀ σ H N, Rep X.K H0 ρ σ H N → WT X e σ H fun c H' => c = b ∧ ∃ N', Same H H' ∧ Same N N' ∧ Rep X.K H0 ρ σ H' N'
def EvW (e : Expr) (b : Bool) : Prop := ∀ σ H N, Rep X.K H0 ρ σ H N → WW X e σ H fun c H' => c = b ∧ ∃ N', Same H H' ∧ Same N N' ∧ Rep X.K H0 ρ σ H' N'
def EvA (es : List Expr) (ds : List Dat) : Prop := ∀ σ H N, Rep X.K H0 ρ σ H N → WA X es σ H fun vs H' => ∃ N', Same H H' ∧ Same N N' ∧ Rep X.K H0 ρ σ H' N' ∧ Ats X.K N' vs ds
def EvAB (es : List Expr) (ds : List Dat) : Prop := ∀ σ H N, Rep X.K H0 ρ σ H N → WA X es σ H fun vs H' => ∃ N', Same H H' ∧ Same N N' ∧ Rep X.K H0 ρ σ H' N' ∧ Ats X.K H' vs ds
/-- it raises the class of that name -/
def EvX (e : Expr) (n : Str) : Prop := ∀ σ H N, Rep X.K H0 ρ σ H N → ∀ W : WX, Takes X W → (∀ C H' N', X.mg n = some (.ref C) → Same N N' → Rep X.K H0 ρ σ H' N' → W (.ref C) none σ H') → ∀ Q, WE X e σ H Q
end
theorem Same.of_none {H : Hp} {p : Addr} {o : HO} (h : H p = none) : Same H (upd H p o) := fun b u e => by
  rw [upd_ne (ne_of_none e h)]
  exact e
/-- the heap grows by a thing that nobody asks for -/
theorem Rep.grow {K : PySem.W.Frag} {H0 H N H' : Hp} {ρ : Env'} {σ : L2.St} (r : Rep K H0 ρ σ H N) (e : Same H H') : Rep K H0 ρ σ H' N where
  old := r.old.trans e
  sub := r.sub.trans e
  imm := r.imm
  fresh := r.fresh
  len := r.len
  im := r.im
  ol := r.ol
  ow := fun i d h => by
    obtain ⟨p, h1, h2, h3, h4⟩ := r.ow i d h
    refine ⟨p, h1, h2, h3, ?_⟩
    cases d with
    | lst ds =>
      obtain ⟨vs, q1, q2⟩ := h4
      exact ⟨vs, e _ _ q1, q2⟩
    | dic ds =>
      obtain ⟨vs, q1, q2⟩ := h4
      exact ⟨vs, e _ _ q1, q2⟩
    | _ => exact h4
  rf := r.rf
  apart := r.apart
/-- more of the heap is data that nobody changes -/
theorem Rep.more {K : PySem.W.Frag} {H0 H N N' : Hp} {ρ : Env'} {σ : L2.St} (r : Rep K H0 ρ σ H N) (e : Same N N') (sub : Same N' H) (fresh : ∀ a o, N' a = some o → Mut (some o) → H0 a = none)
    (own : ∀ (i : Nat) d p, ρ[i]? = some (Ent.ow d) → σ[i]? = some (some (V.ref p)) → N p = none → N' p = none) : Rep K H0 ρ σ H N' where
  old := r.old
  sub := sub
  imm := r.imm.trans e
  fresh := fresh
  len := r.len
  im := fun i d h => by
    obtain ⟨v, h1, h2⟩ := r.im i d h
    exact ⟨v, h1, h2.mono e⟩
  ol := r.ol
  ow := fun i d h => by
    obtain ⟨p, h1, h2, h3, h4⟩ := r.ow i d h
    refine ⟨p, h1, h2, own i d p h h1 h3, ?_⟩
    cases d with
    | lst ds =>
      obtain ⟨vs, q1, q2⟩ := h4
      exact ⟨vs, q1, q2.mono e⟩
    | dic ds =>
      obtain ⟨vs, q1, q2⟩ := h4
      exact ⟨vs, q1, q2.mono e⟩
    | _ => exact h4
  rf := r.rf
  apart := r.apart
/-- an owned thing stands in the heap -/
theorem Rep.own_some {K : PySem.W.Frag} {H0 H N : Hp} {ρ : Env'} {σ : L2.St} (r : Rep K H0 ρ σ H N) {i : Nat} {d : Dat} (h : ρ[i]? = some (Ent.ow d)) : ∃ p o, σ[i]? = some (some (V.ref p)) ∧ H p = some o ∧ Mut (some o) := by
  obtain ⟨p, h1, _, _, h4⟩ := r.ow i d h
  cases d with
  | lst ds =>
    obtain ⟨vs, q1, _⟩ := h4
    exact ⟨p, _, h1, q1, True.intro⟩
  | dic ds =>
    obtain ⟨vs, q1, _⟩ := h4
    exact ⟨p, _, h1, q1, True.intro⟩
  | _ => exact h4.elim
/-- something new comes, that nobody changes -/
theorem Rep.new {K : PySem.W.Frag} {H0 H N : Hp} {ρ : Env'} {σ : L2.St} (r : Rep K H0 ρ σ H N) {p : Addr} {o : HO} (hp : H p = none) : Rep K H0 ρ σ (upd H p o) (upd N p o) ∧ Same N (upd N p o) := by
  have np : N p = none := r.sub.free hp
  have e : Same N (upd N p o) := Same.of_none np
  refine ⟨(r.grow (Same.of_none hp)).more e (fun b u h => ?_) (fun b u h m => ?_) (fun i d q h1 h2 h3 => ?_), e⟩
  · by_cases hb : b = p
    · subst hb; rw [upd_same] at h ⊢; exact h
    · rw [upd_ne hb] at h ⊢; exact r.sub b u h
  · by_cases hb : b = p
    · subst hb; exact r.old.free hp
    · rw [upd_ne hb] at h; exact r.fresh b u h m
  · obtain ⟨p', o', e1, e2, _⟩ := r.own_some h1
    rw [h2] at e1
    cases e1
    rw [upd_ne (ne_of_none e2 hp)]
    exact h3
open Classical in
/-- two heaps of data, one beside the other -/
noncomputable def both (N M : Hp) : Hp := fun a => if N a = none then M a else N a
theorem both_l (N M : Hp) : Same N (both N M) := fun a o h => by
  unfold both
  rw [if_neg (by rw [h]; exact fun z => nomatch z)]
  exact h
theorem both_sub {N M H : Hp} (a : Same N H) (b : Same M H) : Same (both N M) H := fun x o h => by
  unfold both at h
  split at h
  · exact b x o h
  · exact a x o h
theorem both_r {N M H : Hp} (a : Same N H) (b : Same M H) : Same M (both N M) := fun x o h => by
  unfold both
  split
  · exact h
  · rename_i q
    cases e : N x with
    | none => exact (q e).elim
    | some u => rw [← a x u e, b x o h]
/-- what a call hands out is data that nobody changes -/
theorem Rep.ret {K : PySem.W.Frag} {H0 H N H' : Hp} {ρ : Env'} {σ : L2.St} {v : V} {d : Dat} (r : Rep K H0 ρ σ H N) (e : Same H H') (h : Ret K H v d H') : ∃ N', Same N N' ∧ Rep K H0 ρ σ H' N' ∧ At K N' v d := by
  obtain ⟨M, m1, m2, m3⟩ := h
  have r' := r.grow e
  refine ⟨both N M, both_l N M, r'.more (both_l N M) (both_sub r'.sub m1) (fun a o h m => ?_) (fun i d q h1 h2 h3 => ?_), m3.mono (both_r r'.sub m1)⟩
  · unfold both at h
    split at h
    · exact r.old.free (m2 a o h m)
    · exact r.fresh a o h m
  · unfold both
    rw [if_pos h3]
    obtain ⟨p', o', e1, e2, m⟩ := r.own_some h1
    rw [h2] at e1
    cases e1
    cases z : M q with
    | none => rfl
    | some u =>
      have e3 := m1 q u z
      rw [e _ _ e2] at e3
      cases e3
      have := m2 q _ z m
      rw [e2] at this
      cases this

/-! ### a name is given a value -/
theorem get_set {α : Type} {l : List α} {i j : Nat} {x y : α} (h : (l.set i x)[j]? = some y) : (j = i ∧ y = x) ∨ (j ≠ i ∧ l[j]? = some y) := by
  by_cases e : i = j
  · subst e
    by_cases hi : i < l.length
    · rw [List.getElem?_set_self hi] at h
      exact .inl ⟨rfl, (Option.some.inj h).symm⟩
    · rw [List.getElem?_eq_none (by rw [List.length_set]; omega)] at h
      cases h
  · rw [List.getElem?_set_ne e] at h
    exact .inr ⟨fun z => e z.symm, h⟩
theorem lt_of_get {α : Type} {l : List α} {i : Nat} {y : α} (h : l[i]? = some y) : i < l.length := (List.getElem?_eq_some_iff.mp h).1
/-- what holds of the value that entry i is to have -/
def EntOk (K : PySem.W.Frag) (H0 H N : Hp) (σ : L2.St) (ρ : Env') (i : Nat) (v : V) : Ent → Prop
  | .no => True
  | .im d => At K N v d
  | .ol d => At K H0 v d
  | .ow d => ∃ p, v = .ref p ∧ H0 p = none ∧ N p = none ∧ Own K H N p d ∧ ∀ j d', j ≠ i → ρ[j]? = some (.ow d') → σ[j]? ≠ some (some (V.ref p))
  | .rf a => v = .ref a
theorem Rep.setE {K : PySem.W.Frag} {H0 H N : Hp} {ρ : Env'} {σ : L2.St} (r : Rep K H0 ρ σ H N) {i : Nat} {v : V} {e : Ent} (h : EntOk K H0 H N σ ρ i v e) : Rep K H0 (ρ.set i e) (σ.set i (some v)) H N where
  old := r.old
  sub := r.sub
  imm := r.imm
  fresh := r.fresh
  len := by rw [List.length_set, List.length_set, r.len]
  im := fun j d q => by
    have hj := lt_of_get q
    rcases get_set q with ⟨rfl, q'⟩ | ⟨n, q'⟩
    · subst q'
      rw [List.length_set, r.len] at hj
      exact ⟨v, List.getElem?_set_self hj, h⟩
    · obtain ⟨u, h1, h2⟩ := r.im j d q'
      exact ⟨u, by rw [List.getElem?_set_ne (Ne.symm n)]; exact h1, h2⟩
  ol := fun j d q => by
    have hj := lt_of_get q
    rcases get_set q with ⟨rfl, q'⟩ | ⟨n, q'⟩
    · subst q'
      rw [List.length_set, r.len] at hj
      exact ⟨v, List.getElem?_set_self hj, h⟩
    · obtain ⟨u, h1, h2⟩ := r.ol j d q'
      exact ⟨u, by rw [List.getElem?_set_ne (Ne.symm n)]; exact h1, h2⟩
  ow := fun j d q => by
    have hj := lt_of_get q
    rcases get_set q with ⟨rfl, q'⟩ | ⟨n, q'⟩
    · subst q'
      rw [List.length_set, r.len] at hj
      obtain ⟨p, rfl, h1, h2, h3, _⟩ := h
      exact ⟨p, List.getElem?_set_self hj, h1, h2, h3⟩
    · obtain ⟨u, h1, h2⟩ := r.ow j d q'
      exact ⟨u, by rw [List.getElem?_set_ne (Ne.symm n)]; exact h1, h2⟩
  rf := fun j a q => by
    have hj := lt_of_get q
    rcases get_set q with ⟨rfl, q'⟩ | ⟨n, q'⟩
    · subst q'
      rw [List.length_set, r.len] at hj
      have e : v = .ref a := h
      rw [List.getElem?_set_self hj, e]
    · rw [List.getElem?_set_ne (Ne.symm n)]
      exact r.rf j a q'
  apart := fun j k d d' p ne q1 q2 z1 z2 => by
    rcases get_set q1 with ⟨rfl, e1⟩ | ⟨n1, q1'⟩
    · subst e1
      rcases get_set q2 with ⟨rfl, e2⟩ | ⟨n2, q2'⟩
      · exact ne rfl
      · obtain ⟨p', rfl, _, _, _, h4⟩ := h
        rcases get_set z1 with ⟨_, z1'⟩ | ⟨n3, _⟩
        · cases z1'
          rw [List.getElem?_set_ne (Ne.symm n2)] at z2
          exact h4 k d' n2 q2' z2
        · exact n3 rfl
    · rw [List.getElem?_set_ne (Ne.symm n1)] at z1
      rcases get_set q2 with ⟨rfl, e2⟩ | ⟨n2, q2'⟩
      · subst e2
        obtain ⟨p', rfl, _, _, _, h4⟩ := h
        rcases get_set z2 with ⟨_, z2'⟩ | ⟨n3, _⟩
        · cases z2'
          exact h4 j d n1 q1' z1
        · exact n3 rfl
      · rw [List.getElem?_set_ne (Ne.symm n2)] at z2
        exact r.apart j k d d' p ne q1' q2' z1 z2
/-- an owned thing is changed in place -/
theorem Rep.write {K : PySem.W.Frag} {H0 H N : Hp} {ρ : Env'} {σ : L2.St} (r : Rep K H0 ρ σ H N) {i : Nat} {p : Addr} {d d' : Dat} {o : HO} (hi : ρ[i]? = some (.ow d)) (hp : σ[i]? = some (some (V.ref p))) (ho : Own K (upd H p o) N p d') : Rep K H0 (ρ.set i (.ow d')) σ (upd H p o) N := by
  obtain ⟨p', q1, q2, q3, q4⟩ := r.ow i d hi
  rw [hp] at q1
  cases q1
  have hl := lt_of_get hi
  refine ⟨fun b u e => ?_, fun b u e => ?_, r.imm, r.fresh, by rw [List.length_set, r.len], fun j x q => ?_, fun j x q => ?_, fun j x q => ?_, fun j x q => ?_, fun j k x y z ne a b c => ?_⟩
  · rw [upd_ne (ne_of_none e q2)]
    exact r.old b u e
  · rw [upd_ne (ne_of_none e q3)]
    exact r.sub b u e
  · rcases get_set q with ⟨_, q'⟩ | ⟨_, q'⟩
    · cases q'
    · exact r.im j x q'
  · rcases get_set q with ⟨_, q'⟩ | ⟨_, q'⟩
    · cases q'
    · exact r.ol j x q'
  · rcases get_set q with ⟨rfl, q'⟩ | ⟨n, q'⟩
    · cases q'
      exact ⟨p, hp, q2, q3, ho⟩
    · obtain ⟨t, t1, t2, t3, t4⟩ := r.ow j x q'
      have tp : t ≠ p := by
        rintro rfl
        exact r.apart i j d x t (Ne.symm n) hi q' hp t1
      refine ⟨t, t1, t2, t3, ?_⟩
      cases x with
      | lst ds =>
        obtain ⟨vs, w1, w2⟩ := t4
        exact ⟨vs, by rw [upd_ne tp]; exact w1, w2⟩
      | dic ds =>
        obtain ⟨vs, w1, w2⟩ := t4
        exact ⟨vs, by rw [upd_ne tp]; exact w1, w2⟩
      | _ => exact t4
  · rcases get_set q with ⟨_, q'⟩ | ⟨_, q'⟩
    · cases q'
    · exact r.rf j x q'
  · have own : ∀ {m : Nat} {w : Dat}, (ρ.set i (Ent.ow d'))[m]? = some (.ow w) → ∃ w', ρ[m]? = some (.ow w') := fun {m w} h => by
      rcases get_set h with ⟨rfl, _⟩ | ⟨_, h'⟩
      · exact ⟨_, hi⟩
      · exact ⟨_, h'⟩
    obtain ⟨x', a'⟩ := own a
    obtain ⟨y', b'⟩ := own b
    exact r.apart j k x' y' z ne a' b' c
/-- an owned thing is given out of hand: from now on nobody changes it -/
theorem Rep.freeze {K : PySem.W.Frag} {H0 H N : Hp} {ρ : Env'} {σ : L2.St} (r : Rep K H0 ρ σ H N) {p : Addr} {d : Dat} (h0 : H0 p = none) (hn : N p = none) (ho : Own K H N p d) (hx : ∀ (j : Nat) d', ρ[j]? = some (Ent.ow d') → σ[j]? ≠ some (some (V.ref p))) :
    ∃ N', Same N N' ∧ Rep K H0 ρ σ H N' ∧ At K N' (.ref p) d := by
  have go : ∀ o, H p = some o → Rep K H0 ρ σ H (upd N p o) ∧ Same N (upd N p o) := fun o e => by
    have s : Same N (upd N p o) := Same.of_none hn
    refine ⟨r.more s (fun b u q => ?_) (fun b u q m => ?_) (fun j x q a1 a2 a3 => ?_), s⟩
    · by_cases hb : b = p
      · subst hb; rw [upd_same] at q; rw [e]; exact q
      · rw [upd_ne hb] at q; exact r.sub b u q
    · by_cases hb : b = p
      · subst hb; exact h0
      · rw [upd_ne hb] at q; exact r.fresh b u q m
    · rw [upd_ne]
      · exact a3
      · rintro rfl
        exact hx j x a1 a2
  cases d with
  | lst ds =>
    obtain ⟨vs, q1, q2⟩ := ho
    obtain ⟨r', s⟩ := go _ q1
    exact ⟨_, s, r', .lst (.inl (.inl upd_same)) (q2.mono s)⟩
  | dic ds =>
    obtain ⟨vs, q1, q2⟩ := ho
    obtain ⟨r', s⟩ := go _ q1
    exact ⟨_, s, r', .dic (.inl upd_same) (q2.mono s)⟩
  | _ => exact ho.elim
/-- a slot is forgotten -/
theorem Rep.drop {K : PySem.W.Frag} {H0 H N : Hp} {ρ : Env'} {σ : L2.St} (r : Rep K H0 ρ σ H N) (i : Nat) : Rep K H0 (ρ.set i .no) σ H N where
  old := r.old
  sub := r.sub
  imm := r.imm
  fresh := r.fresh
  len := by rw [List.length_set, r.len]
  im := fun j d q => by
    rcases get_set q with ⟨_, q'⟩ | ⟨_, q'⟩
    · cases q'
    · exact r.im j d q'
  ol := fun j d q => by
    rcases get_set q with ⟨_, q'⟩ | ⟨_, q'⟩
    · cases q'
    · exact r.ol j d q'
  ow := fun j d q => by
    rcases get_set q with ⟨_, q'⟩ | ⟨_, q'⟩
    · cases q'
    · exact r.ow j d q'
  rf := fun j d q => by
    rcases get_set q with ⟨_, q'⟩ | ⟨_, q'⟩
    · cases q'
    · exact r.rf j d q'
  apart := fun j k x y z ne a b c => by
    rcases get_set a with ⟨_, a'⟩ | ⟨_, a'⟩
    · cases a'
    · rcases get_set b with ⟨_, b'⟩ | ⟨_, b'⟩
      · cases b'
      · exact r.apart j k x y z ne a' b' c
/-- what is flat may be kept -/
theorem Rep.keep {K : PySem.W.Frag} {H0 H N : Hp} {ρ : Env'} {σ : L2.St} (r : Rep K H0 ρ σ H N) : ∃ N', Same N N' ∧ Rep K H0 ρ σ H N' ∧ Same (Imm H) N' := by
  refine ⟨both N (Imm H), both_l _ _, r.more (both_l _ _) (both_sub r.sub (imm_sub H)) (fun a o h m => ?_) (fun i d q h1 h2 h3 => ?_), both_r r.sub (imm_sub H)⟩
  · unfold both at h
    split at h
    · exact (imm_not h m).elim
    · exact r.fresh a o h m
  · unfold both
    rw [if_pos h3]
    obtain ⟨p', o', e1, e2, m⟩ := r.own_some h1
    rw [h2] at e1
    cases e1
    cases z : Imm H q with
    | none => rfl
    | some u =>
      have e3 := imm_sub H q u z
      rw [e2] at e3
      cases e3
      exact (imm_not z m).elim
end B

namespace B
open PySem PySem.Spec PyProof.Rows L2

section
variable {X : Cx} {H0 : Hp} {ρ : Env'} {a b c e : Expr} {es : List Expr} {d d1 d2 d3 : Dat} {ds : List Dat} {pos : Pos}

theorem at_int {K : PySem.W.Frag} {H : Hp} {v : V} {i : Int} (h : At K H v (.int i)) : v = .int i := by cases h; rfl
theorem at_bl {K : PySem.W.Frag} {H : Hp} {v : V} {i : Bool} (h : At K H v (.bl i)) : v = .bl i := by cases h; rfl
theorem at_str {K : PySem.W.Frag} {H : Hp} {v : V} {i : Str} (h : At K H v (.str i)) : v = .str i := by cases h; rfl
theorem at_non {K : PySem.W.Frag} {H : Hp} {v : V} (h : At K H v .non) : v = .non := by cases h; rfl

theorem Ev.toB (h : Ev X H0 ρ e d) : EvB X H0 ρ e d := fun σ H N r => (h σ H N r).imp fun v H' ⟨N', s, n, r', a⟩ => ⟨N', s, n, r', a.mono r'.sub⟩
theorem EvB.flat (h : EvB X H0 ρ e d) (f : flat d = true) : Ev X H0 ρ e d := fun σ H N r => (h σ H N r).imp fun v H' ⟨N', s, n, r', a⟩ =>
  let ⟨N2, n2, r2, k⟩ := r'.keep
  ⟨N2, s, n.trans n2, r2, (a.imm f).mono k⟩

/-! ### names, constants -/
theorem ev_int {i j} : Ev X H0 ρ (.Constant (.int i) j pos) (.int i) := fun _ H N r => we_of pe_int ⟨N, Same.refl _, Same.refl _, r, .int i⟩
theorem ev_bl {i j} : Ev X H0 ρ (.Constant (.bool i) j pos) (.bl i) := fun _ H N r => we_of pe_bl ⟨N, Same.refl _, Same.refl _, r, .bl i⟩
theorem ev_str {i j} : Ev X H0 ρ (.Constant (.str i) j pos) (.str i) := fun _ H N r => we_of pe_str ⟨N, Same.refl _, Same.refl _, r, .str i⟩
theorem ev_non {j} : Ev X H0 ρ (.Constant .none j pos) .non := fun _ H N r => we_of pe_non ⟨N, Same.refl _, Same.refl _, r, .non⟩
theorem ev_name (i : Nat) {x : Str} (h : ρ[i]? = some (.im d)) (hN : X.N[i]? = some x := by rfl) (hv : Vis X.env.scope x := by first | exact Or.inl rfl | exact Or.inr (Or.inl rfl) | exact Or.inr (Or.inr rfl)) (hd : (x == ("__debug__" : Str)) = false := by decide)
    (hcd : (x == ("__classdict__" : Str)) = false := by decide) : Ev X H0 ρ (.Name x pos) d := fun σ H N r => we_of (pv i hN hv hd hcd)
  (let ⟨v, h1, h2⟩ := r.im i d h; ⟨v, h1, N, Same.refl _, Same.refl _, r, h2⟩)
theorem eb_name_ol (i : Nat) {x : Str} (h : ρ[i]? = some (.ol d)) (hN : X.N[i]? = some x := by rfl) (hv : Vis X.env.scope x := by first | exact Or.inl rfl | exact Or.inr (Or.inl rfl) | exact Or.inr (Or.inr rfl)) (hd : (x == ("__debug__" : Str)) = false := by decide)
    (hcd : (x == ("__classdict__" : Str)) = false := by decide) : EvB X H0 ρ (.Name x pos) d := fun σ H N r => we_of (pv i hN hv hd hcd)
  (let ⟨v, h1, h2⟩ := r.ol i d h; ⟨v, h1, N, Same.refl _, Same.refl _, r, h2.mono r.old⟩)
theorem own_at {K : PySem.W.Frag} {H N : Hp} {p : Addr} (s : Same N H) (h : Own K H N p d) : At K H (.ref p) d := by
  cases d with
  | lst ds => obtain ⟨vs, q1, q2⟩ := h; exact .lst (.inl (.inl q1)) (q2.mono s)
  | dic ds => obtain ⟨vs, q1, q2⟩ := h; exact .dic (.inl q1) (q2.mono s)
  | _ => exact h.elim
theorem eb_name_ow (i : Nat) {x : Str} (h : ρ[i]? = some (.ow d)) (hN : X.N[i]? = some x := by rfl) (hv : Vis X.env.scope x := by first | exact Or.inl rfl | exact Or.inr (Or.inl rfl) | exact Or.inr (Or.inr rfl)) (hd : (x == ("__debug__" : Str)) = false := by decide)
    (hcd : (x == ("__classdict__" : Str)) = false := by decide) : EvB X H0 ρ (.Name x pos) d := fun σ H N r => we_of (pv i hN hv hd hcd)
  (let ⟨p, h1, _, _, h2⟩ := r.ow i d h; ⟨.ref p, h1, N, Same.refl _, Same.refl _, r, own_at r.sub h2⟩)

/-! ### two operands, one -/
/-- what an operation's reading is to lead to -/
abbrev Goes (K : PySem.W.Frag) (H0 : Hp) (ρ : Env') (σ : L2.St) (H N : Hp) (d : Dat) (Q : VK) : Prop := ∀ v H' N', Same H H' → Same N N' → Rep K H0 ρ σ H' N' → At K N' v d → Q v H'
theorem ev_bin {r : R2} (p : ∀ ta tb, PE X a ta → PE X b tb → PE X e (tOp r ta tb)) (ha : EvB X H0 ρ a d1) (hb : EvB X H0 ρ b d2)
    (hr : ∀ x y σ H N Q, Rep X.K H0 ρ σ H N → At X.K H x d1 → At X.K H y d2 → Goes X.K H0 ρ σ H N d Q → r x y H Q) : Ev X H0 ρ e d := fun σ H N rp =>
  we_of (p _ _ pe_w pe_w) ((ha σ H N rp).imp fun x H1 ⟨N1, s1, n1, r1, a1⟩ => (hb σ H1 N1 r1).imp fun y H2 ⟨N2, s2, n2, r2, a2⟩ =>
    hr x y σ H2 N2 _ r2 (a1.mono s2) a2 fun v H' N' s n rr aa => ⟨N', (s1.trans s2).trans s, (n1.trans n2).trans n, rr, aa⟩)
theorem evt_bin {r : R2} {k : Bool} (p : ∀ ta tb, PE X a ta → PE X b tb → PT X e (tTest (tOp r ta tb))) (ha : EvB X H0 ρ a d1) (hb : EvB X H0 ρ b d2)
    (hr : ∀ x y σ H N Q, Rep X.K H0 ρ σ H N → At X.K H x d1 → At X.K H y d2 → Goes X.K H0 ρ σ H N (.bl k) Q → r x y H Q) : EvT X H0 ρ e k := fun σ H N rp =>
  wt_of (p _ _ pe_w pe_w) ((ha σ H N rp).imp fun x H1 ⟨N1, s1, n1, r1, a1⟩ => (hb σ H1 N1 r1).imp fun y H2 ⟨N2, s2, n2, r2, a2⟩ =>
    hr x y σ H2 N2 _ r2 (a1.mono s2) a2 fun v H' N' s n rr aa => ⟨k, at_bl aa, rfl, N', (s1.trans s2).trans s, (n1.trans n2).trans n, rr⟩)
theorem goes_self {K : PySem.W.Frag} {H0 : Hp} {ρ : Env'} {σ : L2.St} {H N : Hp} {d : Dat} {Q : VK} {v : V} (g : Goes K H0 ρ σ H N d Q) (r : Rep K H0 ρ σ H N) (a : At K N v d) : Q v H := g v H N (Same.refl _) (Same.refl _) r a

section arith
variable {i j : Int} (ha : Ev X H0 ρ a (.int i)) (hb : Ev X H0 ρ b (.int j))
include ha hb
theorem ev_intop {op : Operator} {C : Int → Int → Prop} {g : Int → Int → Int} (o : OpR X (binaryOp op) (rI C fun i j => .int (g i j))) (hc : C i j) : Ev X H0 ρ (.BinOp a op b pos) (.int (g i j)) :=
  ev_bin (fun _ _ h k => pe_op o h k) ha.toB hb.toB fun x y σ H N Q r p q g => ⟨i, j, at_int p, at_int q, hc, goes_self g r (.int _)⟩
theorem ev_add : Ev X H0 ρ (.BinOp a .Add b pos) (.int (i + j)) := ev_bin (fun _ _ h k => pe_op op_add h k) ha.toB hb.toB fun x y σ H N Q r p q g => ⟨i, j, at_int p, at_int q, goes_self g r (.int _)⟩
theorem ev_sub : Ev X H0 ρ (.BinOp a .Sub b pos) (.int (i - j)) := ev_bin (fun _ _ h k => pe_op op_sub h k) ha.toB hb.toB fun x y σ H N Q r p q g => ⟨i, j, at_int p, at_int q, goes_self g r (.int _)⟩
theorem ev_mul (h : IntMulOk i j) : Ev X H0 ρ (.BinOp a .Mult b pos) (.int (i * j)) := ev_intop ha hb (op := .Mult) (C := IntMulOk) (g := fun i j => i * j) (opI fun _ _ _ _ _ _ _ hc q => mul_int q hc) h
theorem ev_fdiv (h0 : 0 < j) (h : j.natAbs.log2 < 9000) : Ev X H0 ρ (.BinOp a .FloorDiv b pos) (.int (i / j)) := ev_intop ha hb (g := fun i j => i / j) op_fdivW ⟨h0, h⟩
theorem ev_fdivN (h0 : j ≠ 0) (h : j.natAbs.log2 < 9000) : Ev X H0 ρ (.BinOp a .FloorDiv b pos) (.int (i.fdiv j)) := ev_intop ha hb (op := .FloorDiv) (C := fun _ j => j ≠ 0 ∧ j.natAbs.log2 < 9000) (g := fun i j => i.fdiv j)
  (opI fun _ _ _ _ _ _ _ hc q => floordiv_int hc.1 q (.inl (PyProof.noPylong_of_log2 hc.2))) ⟨h0, h⟩
theorem ev_mod (h : 0 < j) : Ev X H0 ρ (.BinOp a .Mod b pos) (.int (i % j)) := ev_intop ha hb (g := fun i j => i % j) op_mod h
theorem ev_modN (h : j ≠ 0) : Ev X H0 ρ (.BinOp a .Mod b pos) (.int (i.fmod j)) := ev_intop ha hb (g := fun i j => i.fmod j) op_modN h
theorem ev_pow (h : CPow i j) : Ev X H0 ρ (.BinOp a .Pow b pos) (.int (i ^ j.toNat)) := ev_intop ha hb (g := fun i j => i ^ j.toNat) op_pow h
theorem ev_shl (h : CPow i j) : Ev X H0 ρ (.BinOp a .LShift b pos) (.int (i * 2 ^ j.toNat)) := ev_intop ha hb (g := fun i j => i * 2 ^ j.toNat) op_shl h
theorem ev_shr (h : 0 ≤ j) : Ev X H0 ρ (.BinOp a .RShift b pos) (.int (i / 2 ^ j.toNat)) := ev_intop ha hb (g := fun i j => i / 2 ^ j.toNat) op_shr h
theorem ev_and : Ev X H0 ρ (.BinOp a .BitAnd b pos) (.int (Builtin.bitAnd i j)) := ev_bin (fun _ _ h k => pe_op op_and h k) ha.toB hb.toB fun x y σ H N Q r p q g => ⟨i, j, at_int p, at_int q, goes_self g r (.int _)⟩
theorem et_lt : EvT X H0 ρ (.Compare a [.Lt] [b] pos) (decide (i < j)) := evt_bin (fun _ _ h k => pt_cmpR op_lt h k (nomark _)) ha.toB hb.toB fun x y σ H N Q r p q g => ⟨i, j, at_int p, at_int q, goes_self g r (.bl _)⟩
theorem et_le : EvT X H0 ρ (.Compare a [.LtE] [b] pos) (decide (i ≤ j)) := evt_bin (fun _ _ h k => pt_cmpR op_le h k (nomark _)) ha.toB hb.toB fun x y σ H N Q r p q g => ⟨i, j, at_int p, at_int q, goes_self g r (.bl _)⟩
theorem et_gt : EvT X H0 ρ (.Compare a [.Gt] [b] pos) (decide (j < i)) := evt_bin (fun _ _ h k => pt_cmpR op_gt h k (nomark _)) ha.toB hb.toB fun x y σ H N Q r p q g => ⟨i, j, at_int p, at_int q, goes_self g r (.bl _)⟩
theorem et_ge : EvT X H0 ρ (.Compare a [.GtE] [b] pos) (decide (j ≤ i)) := evt_bin (fun _ _ h k => pt_cmpR op_ge h k (nomark _)) ha.toB hb.toB fun x y σ H N Q r p q g => ⟨i, j, at_int p, at_int q, goes_self g r (.bl _)⟩
theorem ev_lt : Ev X H0 ρ (.Compare a [.Lt] [b] pos) (.bl (decide (i < j))) := ev_bin (fun _ _ h k => pe_cmpR op_lt h k (nomark _)) ha.toB hb.toB fun x y σ H N Q r p q g => ⟨i, j, at_int p, at_int q, goes_self g r (.bl _)⟩
theorem ev_le : Ev X H0 ρ (.Compare a [.LtE] [b] pos) (.bl (decide (i ≤ j))) := ev_bin (fun _ _ h k => pe_cmpR op_le h k (nomark _)) ha.toB hb.toB fun x y σ H N Q r p q g => ⟨i, j, at_int p, at_int q, goes_self g r (.bl _)⟩
theorem ev_gt : Ev X H0 ρ (.Compare a [.Gt] [b] pos) (.bl (decide (j < i))) := ev_bin (fun _ _ h k => pe_cmpR op_gt h k (nomark _)) ha.toB hb.toB fun x y σ H N Q r p q g => ⟨i, j, at_int p, at_int q, goes_self g r (.bl _)⟩
theorem ev_ge : Ev X H0 ρ (.Compare a [.GtE] [b] pos) (.bl (decide (j ≤ i))) := ev_bin (fun _ _ h k => pe_cmpR op_ge h k (nomark _)) ha.toB hb.toB fun x y σ H N Q r p q g => ⟨i, j, at_int p, at_int q, goes_self g r (.bl _)⟩
theorem et_eq : EvT X H0 ρ (.Compare a [.Eq] [b] pos) (decide (i = j)) := evt_bin (fun _ _ h k => pt_cmpR op_eq h k (nomark _)) ha.toB hb.toB fun x y σ H N Q r p q g => by
  rw [at_int p, at_int q]
  exact ⟨rfl, goes_self (Q := Q) (by rw [show decide (V.int i = V.int j) = decide (i = j) from by simp]; exact g) r (.bl _)⟩
theorem et_ne : EvT X H0 ρ (.Compare a [.NotEq] [b] pos) (!decide (i = j)) := evt_bin (fun _ _ h k => pt_cmpR op_ne h k (nomark _)) ha.toB hb.toB fun x y σ H N Q r p q g => by
  rw [at_int p, at_int q]
  exact ⟨rfl, goes_self (Q := Q) (by rw [show decide (V.int i = V.int j) = decide (i = j) from by simp]; exact g) r (.bl _)⟩
theorem ev_eq : Ev X H0 ρ (.Compare a [.Eq] [b] pos) (.bl (decide (i = j))) := ev_bin (fun _ _ h k => pe_cmpR op_eq h k (nomark _)) ha.toB hb.toB fun x y σ H N Q r p q g => by
  rw [at_int p, at_int q]
  exact ⟨rfl, goes_self (Q := Q) (by rw [show decide (V.int i = V.int j) = decide (i = j) from by simp]; exact g) r (.bl _)⟩
theorem ev_ne : Ev X H0 ρ (.Compare a [.NotEq] [b] pos) (.bl (!decide (i = j))) := ev_bin (fun _ _ h k => pe_cmpR op_ne h k (nomark _)) ha.toB hb.toB fun x y σ H N Q r p q g => by
  rw [at_int p, at_int q]
  exact ⟨rfl, goes_self (Q := Q) (by rw [show decide (V.int i = V.int j) = decide (i = j) from by simp]; exact g) r (.bl _)⟩
end arith
theorem ev_neg {i : Int} (ha : Ev X H0 ρ a (.int i)) : Ev X H0 ρ (.UnaryOp .USub a pos) (.int (-i)) := fun σ H N rp =>
  we_of (pe_un un_neg pe_w) ((ha σ H N rp).imp fun x H1 ⟨N1, s1, n1, r1, a1⟩ => ⟨i, at_int a1, N1, s1, n1, r1, .int _⟩)
/-- texts, == and + -/
theorem et_eqS {i j : Str} (ha : Ev X H0 ρ a (.str i)) (hb : Ev X H0 ρ b (.str j)) : EvT X H0 ρ (.Compare a [.Eq] [b] pos) (decide (i = j)) := evt_bin (fun _ _ h k => pt_cmpR op_eq h k (nomark _)) ha.toB hb.toB fun x y σ H N Q r p q g => by
  rw [at_str p, at_str q]
  exact ⟨rfl, goes_self (Q := Q) (by rw [show decide (V.str i = V.str j) = decide (i = j) from by simp]; exact g) r (.bl _)⟩
theorem et_neS {i j : Str} (ha : Ev X H0 ρ a (.str i)) (hb : Ev X H0 ρ b (.str j)) : EvT X H0 ρ (.Compare a [.NotEq] [b] pos) (!decide (i = j)) := evt_bin (fun _ _ h k => pt_cmpR op_ne h k (nomark _)) ha.toB hb.toB fun x y σ H N Q r p q g => by
  rw [at_str p, at_str q]
  exact ⟨rfl, goes_self (Q := Q) (by rw [show decide (V.str i = V.str j) = decide (i = j) from by simp]; exact g) r (.bl _)⟩
theorem ev_eqS {i j : Str} (ha : Ev X H0 ρ a (.str i)) (hb : Ev X H0 ρ b (.str j)) : Ev X H0 ρ (.Compare a [.Eq] [b] pos) (.bl (decide (i = j))) := ev_bin (fun _ _ h k => pe_cmpR op_eq h k (nomark _)) ha.toB hb.toB fun x y σ H N Q r p q g => by
  rw [at_str p, at_str q]
  exact ⟨rfl, goes_self (Q := Q) (by rw [show decide (V.str i = V.str j) = decide (i = j) from by simp]; exact g) r (.bl _)⟩
theorem ev_neS {i j : Str} (ha : Ev X H0 ρ a (.str i)) (hb : Ev X H0 ρ b (.str j)) : Ev X H0 ρ (.Compare a [.NotEq] [b] pos) (.bl (!decide (i = j))) := ev_bin (fun _ _ h k => pe_cmpR op_ne h k (nomark _)) ha.toB hb.toB fun x y σ H N Q r p q g => by
  rw [at_str p, at_str q]
  exact ⟨rfl, goes_self (Q := Q) (by rw [show decide (V.str i = V.str j) = decide (i = j) from by simp]; exact g) r (.bl _)⟩
theorem ev_cat {i j : Str} (ha : Ev X H0 ρ a (.str i)) (hb : Ev X H0 ρ b (.str j)) (hz : i.length + j.length ≤ sizeLine) : Ev X H0 ρ (.BinOp a .Add b pos) (.str (i ++ j)) :=
  ev_bin (fun _ _ h k => pe_op op_add_str h k) ha.toB hb.toB fun x y σ H N Q r p q g => ⟨i, j, at_str p, at_str q, hz, goes_self g r (.str _)⟩
/-- is None -/
theorem isnon {K : PySem.W.Frag} {H : Hp} {v : V} (h : At K H v d) : decide (v = .non) = (match d with | .non => true | _ => false) := by
  cases h <;> simp
def isNon : Dat → Bool
  | .non => true
  | _ => false
theorem at_isNon {K : PySem.W.Frag} {H : Hp} {v : V} (h : At K H v d) : decide (v = .non) = isNon d := by cases h <;> simp [isNon]
theorem et_isN {j pos'} (ha : EvB X H0 ρ a d) : EvT X H0 ρ (.Compare a [.Is] [.Constant .none j pos'] pos) (isNon d) :=
  evt_bin (d2 := .non) (fun _ _ h k => pt_cmpR op_isN h k (nomark _)) ha ev_non.toB fun x y σ H N Q r p q g => ⟨at_non q, by rw [at_isNon p]; exact goes_self (Q := Q) g r (.bl _)⟩
theorem et_notN {j pos'} (ha : EvB X H0 ρ a d) : EvT X H0 ρ (.Compare a [.IsNot] [.Constant .none j pos'] pos) (!isNon d) :=
  evt_bin (d2 := .non) (fun _ _ h k => pt_cmpR op_notN h k (nomark _)) ha ev_non.toB fun x y σ H N Q r p q g => ⟨at_non q, by rw [at_isNon p]; exact goes_self (Q := Q) g r (.bl _)⟩

/-! ### and, or, not, if -/
theorem et_val {k : Bool} (h : Ev X H0 ρ e (.bl k)) (he : ∀ whole, isTrue e X.env whole = (do let v ← whole; standAt e.pos; holding [v] (truthy v)) := by intro _; rfl) : EvT X H0 ρ e k := fun σ H N rp =>
  wt_of (pt_val pe_w he) ((h σ H N rp).imp fun x H1 ⟨N1, s1, n1, r1, a1⟩ => ⟨k, at_bl a1, rfl, N1, s1, n1, r1⟩)
theorem ew_and1 {k : Bool} (h : EvT X H0 ρ a k) : EvW X H0 ρ (.BoolOp .And [a] pos) k := fun σ H N rp => ww_of (pw_and1 pt_w) (h σ H N rp)
theorem ew_or1 {k : Bool} (h : EvT X H0 ρ a k) : EvW X H0 ρ (.BoolOp .Or [a] pos) k := fun σ H N rp => ww_of (pw_or1 pt_w) (h σ H N rp)
theorem ew_and {k l : Bool} {rest : List Expr} (h : EvT X H0 ρ a k) (g : k = true → EvW X H0 ρ (.BoolOp .And (b :: rest) pos) l) : EvW X H0 ρ (.BoolOp .And (a :: b :: rest) pos) (k && l) := fun σ H N rp =>
  ww_of (pw_and pt_w pw_w) ((h σ H N rp).imp fun c H1 ⟨e1, N1, s1, n1, r1⟩ => by
    subst e1
    cases c with
    | true => exact (g rfl σ H1 N1 r1).imp fun c2 H2 ⟨e2, N2, s2, n2, r2⟩ => ⟨e2, N2, s1.trans s2, n1.trans n2, r2⟩
    | false => exact ⟨rfl, N1, s1, n1, r1⟩)
theorem ew_or {k l : Bool} {rest : List Expr} (h : EvT X H0 ρ a k) (g : k = false → EvW X H0 ρ (.BoolOp .Or (b :: rest) pos) l) : EvW X H0 ρ (.BoolOp .Or (a :: b :: rest) pos) (k || l) := fun σ H N rp =>
  ww_of (pw_or pt_w pw_w) ((h σ H N rp).imp fun c H1 ⟨e1, N1, s1, n1, r1⟩ => by
    subst e1
    cases c with
    | false => exact (g rfl σ H1 N1 r1).imp fun c2 H2 ⟨e2, N2, s2, n2, r2⟩ => ⟨e2, N2, s1.trans s2, n1.trans n2, r2⟩
    | true => exact ⟨rfl, N1, s1, n1, r1⟩)
theorem EvW.t {k : Bool} (h : EvW X H0 ρ e k) : EvT X H0 ρ e k := fun σ H N rp => (h σ H N rp).wt
theorem et_not {k : Bool} (h : EvT X H0 ρ a k) : EvT X H0 ρ (.UnaryOp .Not a pos) (!k) := fun σ H N rp =>
  wt_of (pt_not pt_w) ((h σ H N rp).imp fun c H1 ⟨e1, N1, s1, n1, r1⟩ => ⟨by rw [e1], N1, s1, n1, r1⟩)
theorem ev_one {op} (h : Ev X H0 ρ a d) : Ev X H0 ρ (.BoolOp op [a] pos) d := fun σ H N rp => we_of (pe_one pe_w) (h σ H N rp)
theorem ev_andB {k l : Bool} {rest : List Expr} (h : Ev X H0 ρ a (.bl k)) (g : k = true → Ev X H0 ρ (.BoolOp .And (b :: rest) pos) (.bl l)) : Ev X H0 ρ (.BoolOp .And (a :: b :: rest) pos) (.bl (k && l)) := fun σ H N rp =>
  we_of (pe_and pe_w pe_w) ((h σ H N rp).imp fun x H1 ⟨N1, s1, n1, r1, a1⟩ => ⟨k, at_bl a1, by
    cases k with
    | true => exact iteT ((g rfl σ H1 N1 r1).imp fun x2 H2 ⟨N2, s2, n2, r2, a2⟩ => ⟨N2, s1.trans s2, n1.trans n2, r2, a2⟩)
    | false => exact iteF ⟨N1, s1, n1, r1, .bl _⟩⟩)
theorem ev_orB {k l : Bool} {rest : List Expr} (h : Ev X H0 ρ a (.bl k)) (g : k = false → Ev X H0 ρ (.BoolOp .Or (b :: rest) pos) (.bl l)) : Ev X H0 ρ (.BoolOp .Or (a :: b :: rest) pos) (.bl (k || l)) := fun σ H N rp =>
  we_of (pe_or pe_w pe_w) ((h σ H N rp).imp fun x H1 ⟨N1, s1, n1, r1, a1⟩ => ⟨k, at_bl a1, by
    cases k with
    | false => exact iteF ((g rfl σ H1 N1 r1).imp fun x2 H2 ⟨N2, s2, n2, r2, a2⟩ => ⟨N2, s1.trans s2, n1.trans n2, r2, a2⟩)
    | true => exact iteT ⟨N1, s1, n1, r1, .bl _⟩⟩)
theorem ev_not {k : Bool} (h : Ev X H0 ρ a (.bl k)) : Ev X H0 ρ (.UnaryOp .Not a pos) (.bl (!k)) := fun σ H N rp =>
  we_of (pe_not pe_w) ((h σ H N rp).imp fun x H1 ⟨N1, s1, n1, r1, a1⟩ => ⟨k, at_bl a1, N1, s1, n1, r1, .bl _⟩)
theorem ev_ifT (hc : EvT X H0 ρ c true) (h : Ev X H0 ρ a d) : Ev X H0 ρ (.IfExp c a b pos) d := fun σ H N rp =>
  we_of (pe_ifExp pt_w pe_w pe_w) ((hc σ H N rp).imp fun x H1 ⟨e1, N1, s1, n1, r1⟩ => by
    subst e1
    exact iteT ((h σ H1 N1 r1).imp fun x2 H2 ⟨N2, s2, n2, r2, a2⟩ => ⟨N2, s1.trans s2, n1.trans n2, r2, a2⟩))
theorem ev_ifF (hc : EvT X H0 ρ c false) (h : Ev X H0 ρ b d) : Ev X H0 ρ (.IfExp c a b pos) d := fun σ H N rp =>
  we_of (pe_ifExp pt_w pe_w pe_w) ((hc σ H N rp).imp fun x H1 ⟨e1, N1, s1, n1, r1⟩ => by
    subst e1
    exact iteF ((h σ H1 N1 r1).imp fun x2 H2 ⟨N2, s2, n2, r2, a2⟩ => ⟨N2, s1.trans s2, n1.trans n2, r2, a2⟩))

/-! ### argument lists, displays -/
theorem ea_nil : EvA X H0 ρ [] [] := fun σ H N rp => wa_of pa_nil ⟨N, Same.refl _, Same.refl _, rp, .nil⟩
theorem ea_cons (h : Ev X H0 ρ e d) (t : EvA X H0 ρ es ds) (hs : starEach (e :: es) X.env = (false, eval e X.env) :: starEach es X.env := by rfl) : EvA X H0 ρ (e :: es) (d :: ds) := fun σ H N rp =>
  wa_of (pa_cons pe_w pa_w hs) ((h σ H N rp).imp fun x H1 ⟨N1, s1, n1, r1, a1⟩ => (t σ H1 N1 r1).imp fun xs H2 ⟨N2, s2, n2, r2, a2⟩ => ⟨N2, s1.trans s2, n1.trans n2, r2, .cons (a1.mono n2) a2⟩)
theorem eab_nil : EvAB X H0 ρ [] [] := fun σ H N rp => wa_of pa_nil ⟨N, Same.refl _, Same.refl _, rp, .nil⟩
theorem eab_cons (h : EvB X H0 ρ e d) (t : EvAB X H0 ρ es ds) (hs : starEach (e :: es) X.env = (false, eval e X.env) :: starEach es X.env := by rfl) : EvAB X H0 ρ (e :: es) (d :: ds) := fun σ H N rp =>
  wa_of (pa_cons pe_w pa_w hs) ((h σ H N rp).imp fun x H1 ⟨N1, s1, n1, r1, a1⟩ => (t σ H1 N1 r1).imp fun xs H2 ⟨N2, s2, n2, r2, a2⟩ => ⟨N2, s1.trans s2, n1.trans n2, r2, .cons (a1.mono s2) a2⟩)
theorem ev_tup {x1} (h : EvA X H0 ρ es ds) (hz : ds.length ≤ sizeLine) : Ev X H0 ρ (.Tuple es x1 pos) (.tup ds) := fun σ H N rp =>
  we_of (pe_tup pa_w) ((h σ H N rp).imp fun xs H1 ⟨N1, s1, n1, r1, a1⟩ => ⟨by rw [a1.length]; exact hz, fun p hp =>
    let ⟨r2, n2⟩ := r1.new (o := .tup xs) hp
    ⟨_, s1.trans (Same.of_none hp), n1.trans n2, r2, .tup (.inl (.inl upd_same)) (a1.mono n2)⟩⟩)

/-- a new list or dict, for one to own -/
def EvO (X : Cx) (H0 : Hp) (ρ : Env') (e : Expr) (d : Dat) : Prop := ∀ σ H N, Rep X.K H0 ρ σ H N → WE X e σ H fun v H' => ∃ N' p, v = .ref p ∧ H p = none ∧ Same H H' ∧ Same N N' ∧ Rep X.K H0 ρ σ H' N' ∧ N' p = none ∧ Own X.K H' N' p d
theorem no_own {K : PySem.W.Frag} {H N : Hp} {σ : L2.St} (r : Rep K H0 ρ σ H N) {p : Addr} (h : H p = none) (j : Nat) (d' : Dat) (q : ρ[j]? = some (.ow d')) : σ[j]? ≠ some (some (V.ref p)) := fun z => by
  obtain ⟨p', o, e1, e2, _⟩ := r.own_some q
  rw [z] at e1
  cases e1
  rw [h] at e2
  cases e2
theorem EvO.ev (h : EvO X H0 ρ e d) : Ev X H0 ρ e d := fun σ H N rp => (h σ H N rp).imp fun v H' ⟨N', p, e1, hp, s, n, r, np, o⟩ => by
  subst e1
  obtain ⟨N2, n2, r2, a2⟩ := r.freeze (rp.old.free hp) np o (no_own rp hp)
  exact ⟨N2, s, n.trans n2, r2, a2⟩
theorem eo_new {H' : Hp} {K : PySem.W.Frag} {N : Hp} {σ : L2.St} {p : Addr} {o : HO} (r : Rep K H0 ρ σ H' N) (hp : H' p = none) : Rep K H0 ρ σ (upd H' p o) N ∧ N p = none := ⟨r.grow (Same.of_none hp), r.sub.free hp⟩
theorem eo_lst (h : EvA X H0 ρ es ds) (hz : ds.length ≤ sizeLine) : EvO X H0 ρ (.List es pos) (.lst ds) := fun σ H N rp =>
  we_of (pe_lst pa_w) ((h σ H N rp).imp fun xs H1 ⟨N1, s1, n1, r1, a1⟩ => ⟨by rw [a1.length]; exact hz, fun p hp =>
    let ⟨r2, n2⟩ := eo_new (o := .lst xs) r1 hp
    ⟨N1, p, rfl, s1.free hp, s1.trans (Same.of_none hp), n1, r2, n2, xs, upd_same, a1⟩⟩)
theorem eo_dic0 : EvO X H0 ρ (.Dict [] [] pos) (.dic []) := fun σ H N rp => we_of pe_dnewK (fun p hp =>
    let ⟨r2, n2⟩ := eo_new (o := .dK []) rp hp
    ⟨N, p, rfl, hp, Same.of_none hp, Same.refl _, r2, n2, [], upd_same, .nil⟩)

/-! ### items, slices -/
theorem at_seq {K : PySem.W.Frag} {H : Hp} {v : V} (h : At K H v (.tup ds)) : ∃ p vs, v = .ref p ∧ SqT K H p vs ∧ Ats K H vs ds := by cases h with | tup a b => exact ⟨_, _, rfl, a, b⟩
theorem at_lst {K : PySem.W.Frag} {H : Hp} {v : V} (h : At K H v (.lst ds)) : ∃ p vs, v = .ref p ∧ SqL K H p vs ∧ Ats K H vs ds := by cases h with | lst a b => exact ⟨_, _, rfl, a, b⟩
theorem atI_ats {K : PySem.W.Frag} {H : Hp} {vs : List V} (h : Ats K H vs ds) {i : Int} (q : atI ds i = some d) : ∃ v, atI vs i = some v ∧ At K H v d := by
  unfold atI at q ⊢
  rw [h.length]
  cases e : ixN ds.length i with
  | none => rw [e] at q; cases q
  | some j =>
    rw [e] at q
    exact h.get q
theorem eb_ixT {i : Int} (ha : EvB X H0 ρ a (.tup ds)) (hb : Ev X H0 ρ b (.int i)) (q : atI ds i = some d) (hs : PlainIx b := by exact fun _ _ => rfl) : EvB X H0 ρ (.Subscript a b pos) d := fun σ H N rp =>
  we_of (pe_ix ix_tup pe_w pe_w hs) ((ha σ H N rp).imp fun x H1 ⟨N1, s1, n1, r1, a1⟩ => (hb.toB σ H1 N1 r1).imp fun y H2 ⟨N2, s2, n2, r2, a2⟩ =>
    let ⟨p, vs, e1, h1, h2⟩ := at_seq (a1.mono s2)
    let ⟨v, g1, g2⟩ := atI_ats h2 q
    ⟨p, vs, i, v, e1, at_int a2, h1, g1, N2, s1.trans s2, n1.trans n2, r2, g2⟩)
theorem eb_ixL {i : Int} (ha : EvB X H0 ρ a (.lst ds)) (hb : Ev X H0 ρ b (.int i)) (q : atI ds i = some d) (hs : PlainIx b := by exact fun _ _ => rfl) : EvB X H0 ρ (.Subscript a b pos) d := fun σ H N rp =>
  we_of (pe_ix ix_list pe_w pe_w hs) ((ha σ H N rp).imp fun x H1 ⟨N1, s1, n1, r1, a1⟩ => (hb.toB σ H1 N1 r1).imp fun y H2 ⟨N2, s2, n2, r2, a2⟩ =>
    let ⟨p, vs, e1, h1, h2⟩ := at_lst (a1.mono s2)
    let ⟨v, g1, g2⟩ := atI_ats h2 q
    ⟨p, vs, i, v, e1, at_int a2, h1, g1, N2, s1.trans s2, n1.trans n2, r2, g2⟩)
theorem ev_ixT {i : Int} (ha : Ev X H0 ρ a (.tup ds)) (hb : Ev X H0 ρ b (.int i)) (q : atI ds i = some d) (hs : PlainIx b := by exact fun _ _ => rfl) : Ev X H0 ρ (.Subscript a b pos) d := fun σ H N rp =>
  we_of (pe_ix ix_tup pe_w pe_w hs) ((ha σ H N rp).imp fun x H1 ⟨N1, s1, n1, r1, a1⟩ => (hb.toB σ H1 N1 r1).imp fun y H2 ⟨N2, s2, n2, r2, a2⟩ =>
    let ⟨p, vs, e1, h1, h2⟩ := at_seq (a1.mono n2)
    let ⟨v, g1, g2⟩ := atI_ats h2 q
    ⟨p, vs, i, v, e1, at_int a2, sqt_same r2.sub h1, g1, N2, s1.trans s2, n1.trans n2, r2, g2⟩)
theorem ev_ixL {i : Int} (ha : Ev X H0 ρ a (.lst ds)) (hb : Ev X H0 ρ b (.int i)) (q : atI ds i = some d) (hs : PlainIx b := by exact fun _ _ => rfl) : Ev X H0 ρ (.Subscript a b pos) d := fun σ H N rp =>
  we_of (pe_ix ix_list pe_w pe_w hs) ((ha σ H N rp).imp fun x H1 ⟨N1, s1, n1, r1, a1⟩ => (hb.toB σ H1 N1 r1).imp fun y H2 ⟨N2, s2, n2, r2, a2⟩ =>
    let ⟨p, vs, e1, h1, h2⟩ := at_lst (a1.mono n2)
    let ⟨v, g1, g2⟩ := atI_ats h2 q
    ⟨p, vs, i, v, e1, at_int a2, sql_same r2.sub h1, g1, N2, s1.trans s2, n1.trans n2, r2, g2⟩)
theorem ev_ixS {z : Str} {i : Int} {k : Nat} (ha : Ev X H0 ρ a (.str z)) (hb : Ev X H0 ρ b (.int i)) (hz : z.length ≤ sizeLine) (q : atI z.cps.toList i = some k) (hs : PlainIx b := by exact fun _ _ => rfl) : Ev X H0 ρ (.Subscript a b pos) (.str ⟨#[k]⟩) :=
  ev_bin (fun _ _ h k => pe_ix ix_str h k hs) ha.toB hb.toB fun x y σ H N Q r p p2 g => ⟨z, i, k, at_str p, at_int p2, hz, q, goes_self g r (.str _)⟩
end
end B

namespace B
open PySem PySem.Spec PyProof.Rows L2

/-! ### how a block ends -/
inductive Outc where
  | nx (ρ : Env')
  | rt (d : Dat)
  | ex (n : Str) (ρ : Env')
  | bk (ρ : Env')
  | ct (ρ : Env')
  /-- an owned thing is handed out -/
  | ro (d : Dat)
def Cont (X : Cx) (H0 N : Hp) (D : Ends) : Outc → Prop
  | .nx ρ => ∀ σ H N', Same N N' → Rep X.K H0 ρ σ H N' → D.nx σ H
  | .rt d => ∀ v H, Same H0 H → Ret X.K H0 v d H → D.rt v H
  | .ex n ρ => ∃ W, Takes X W ∧ ∀ C σ H N', X.mg n = some (.ref C) → Same N N' → Rep X.K H0 ρ σ H N' → W (.ref C) none σ H
  | .bk ρ => ∀ σ H N', Same N N' → Rep X.K H0 ρ σ H N' → D.bk σ H
  | .ct ρ => ∀ σ H N', Same N N' → Rep X.K H0 ρ σ H N' → D.ct σ H
  | .ro d => ∀ p H' N', Same H0 H' → Same N' H' → (∀ a u, N' a = some u → Mut (some u) → H0 a = none) → H0 p = none → N' p = none → Own X.K H' N' p d → D.rt (.ref p) H'
theorem Cont.mono {X : Cx} {H0 N N' : Hp} {D : Ends} {o : Outc} (c : Cont X H0 N D o) (s : Same N N') : Cont X H0 N' D o := by
  cases o with
  | nx ρ => exact fun σ H N2 s2 r => c σ H N2 (s.trans s2) r
  | rt d => exact c
  | ex n ρ =>
    obtain ⟨W, t, k⟩ := c
    exact ⟨W, t, fun C σ H N2 m s2 r => k C σ H N2 m (s.trans s2) r⟩
  | bk ρ => exact fun σ H N2 s2 r => c σ H N2 (s.trans s2) r
  | ct ρ => exact fun σ H N2 s2 r => c σ H N2 (s.trans s2) r
  | ro d => exact c
section
variable (X : Cx) (H0 : Hp) (ρ : Env')
def Exec (sts : List Stmt) (o : Outc) : Prop := ∀ D σ H N, Rep X.K H0 ρ σ H N → Cont X H0 N D o → WB X sts D σ H
def ExS (st : Stmt) (o : Outc) : Prop := ∀ D σ H N, Rep X.K H0 ρ σ H N → Cont X H0 N D o → WS X st D σ H
end
/-- what follows behind an end -/
def Thn (X : Cx) (H0 : Hp) (rest : List Stmt) (o1 o : Outc) : Prop := match o1 with
  | .nx ρ => Exec X H0 ρ rest o
  | o1 => o = o1

section
variable {X : Cx} {H0 : Hp} {ρ ρ1 ρ2 : Env'} {a b c e : Expr} {es : List Expr} {st : Stmt} {sts rest : List Stmt} {d d1 d2 : Dat} {ds : List Dat} {pos : Pos} {o o1 : Outc}
theorem ex_nil : Exec X H0 ρ [] (.nx ρ) := fun D σ H N r k => wb_of pss_nil (k σ H N (Same.refl _) r)
theorem ex_cons (h : ExS X H0 ρ st o1) (t : Thn X H0 rest o1 o) : Exec X H0 ρ (st :: rest) o := fun D σ H N r k => by
  refine wb_of (pss_cons ps_w pb_w) ?_
  show WS X st { D with nx := WB X rest D } σ H
  refine h _ σ H N r ?_
  cases o1 with
  | nx ρ' => exact fun σ' H' N' s r' => t D σ' H' N' r' (k.mono s)
  | rt d => cases (show o = _ from t); exact k
  | ex n ρ => cases (show o = _ from t); exact k
  | bk ρ => cases (show o = _ from t); exact k
  | ct ρ => cases (show o = _ from t); exact k
  | ro d => cases (show o = _ from t); exact k
theorem ex_one (h : ExS X H0 ρ st o) : Exec X H0 ρ [st] o := by
  refine ex_cons h ?_
  cases o with
  | nx ρ => exact ex_nil
  | _ => rfl
theorem ex_then (h : ExS X H0 ρ st (.nx ρ1)) (t : Exec X H0 ρ1 rest o) : Exec X H0 ρ (st :: rest) o := ex_cons h t
/-- an owned thing will not be changed any more -/
theorem ex_freeze (i : Nat) (hi : ρ[i]? = some (.ow d)) (h : Exec X H0 (ρ.set i (.im d)) sts o) : Exec X H0 ρ sts o := fun D σ H N r k => by
  obtain ⟨p, e1, h0, hn, ho⟩ := r.ow i d hi
  have r1 := r.drop i
  obtain ⟨N', s, r2, a⟩ := r1.freeze h0 hn ho (fun j d' q z => by
    rcases get_set q with ⟨_, q'⟩ | ⟨ne, q'⟩
    · cases q'
    · exact r.apart i j d d' p (Ne.symm ne) hi q' e1 z)
  have r3 := r2.setE (i := i) (v := .ref p) (e := .im d) a
  have eσ : σ.set i (some (V.ref p)) = σ := by
    apply List.ext_getElem?
    intro j
    by_cases hj : i = j
    · subst hj
      rw [List.getElem?_set_self (lt_of_get e1), e1]
    · rw [List.getElem?_set_ne hj]
  rw [eσ, List.set_set] at r3
  exact h D σ H N' r3 (k.mono s)
theorem ex_drop (i : Nat) (h : Exec X H0 (ρ.set i .no) sts o) : Exec X H0 ρ sts o := fun D σ H N r k => h D σ H N (r.drop i) k

/-! ### statements -/
theorem sx_pass : ExS X H0 ρ (.Pass pos) (.nx ρ) := fun D σ H N r k => ws_of ps_pass (k σ H N (Same.refl _) r)
theorem sx_break : ExS X H0 ρ (.Break pos) (.bk ρ) := fun D σ H N r k => ws_of ps_break (k σ H N (Same.refl _) r)
theorem sx_continue : ExS X H0 ρ (.Continue pos) (.ct ρ) := fun D σ H N r k => ws_of ps_continue (k σ H N (Same.refl _) r)
theorem sx_ret (h : Ev X H0 ρ e d) : ExS X H0 ρ (.Return (some e) pos) (.rt d) := fun D σ H N r k => ws_of (ps_ret pe_w) ((h σ H N r).imp fun v H' ⟨N', s, n, r', a⟩ => k v H' r'.old ⟨N', r'.sub, r'.fresh, a⟩)
theorem sx_retN : ExS X H0 ρ (.Return none pos) (.rt .non) := fun D σ H N r k => ws_of ps_retN (k .non H r.old ⟨N, r.sub, r.fresh, .non⟩)
theorem sx_set (i : Nat) {x : Str} {pos' : Pos} (h : Ev X H0 ρ e d) (nd : X.N.Nodup) (hρ : ρ.set i (.im d) = ρ1 := by rfl) (hi : X.N[i]? = some x := by rfl) (hx : Loc X.env.scope x := by first | exact Or.inl rfl | exact Or.inr rfl)
    (hs : swapsWith e (some (.Name x pos')) pos.line X.env = pure false := by rfl) (hf : X.fn x = true ∨ X.env.scope.names.lookup x = some .local := by first | exact .inl rfl | exact .inr rfl | assumption) : ExS X H0 ρ (.Assign [.Name x pos'] e pos) (.nx ρ1) := fun D σ H N r k =>
  ws_of (ps_set nd hi hx pe_w hs hf) ((h σ H N r).imp fun v H' ⟨N', s, n, r', a⟩ => k _ H' N' n (hρ ▸ r'.setE a))
theorem sx_setO (i : Nat) {x : Str} {pos' : Pos} (h : EvO X H0 ρ e d) (nd : X.N.Nodup) (hρ : ρ.set i (.ow d) = ρ1 := by rfl) (hi : X.N[i]? = some x := by rfl) (hx : Loc X.env.scope x := by first | exact Or.inl rfl | exact Or.inr rfl)
    (hs : swapsWith e (some (.Name x pos')) pos.line X.env = pure false := by rfl) (hf : X.fn x = true ∨ X.env.scope.names.lookup x = some .local := by first | exact .inl rfl | exact .inr rfl | assumption) : ExS X H0 ρ (.Assign [.Name x pos'] e pos) (.nx ρ1) := fun D σ H N r k =>
  ws_of (ps_set nd hi hx pe_w hs hf) ((h σ H N r).imp fun v H' ⟨N', p, e1, hp, s, n, r', np, ow⟩ => k _ H' N' n (hρ ▸ r'.setE (e := .ow d) ⟨p, e1, r.old.free hp, np, ow, fun j d' _ q => no_own r hp j d' q⟩))
theorem sx_expr (h : Ev X H0 ρ e d) (hs : swapsWith e none pos.line X.env = pure false := by rfl) : ExS X H0 ρ (.Expr e pos) (.nx ρ) := fun D σ H N r k => ws_of (ps_expr pe_w hs) ((h σ H N r).imp fun v H' ⟨N', s, n, r', a⟩ => k _ H' N' n r')
theorem sx_ifT {as bs : List Stmt} (hc : EvT X H0 ρ c true) (h : Exec X H0 ρ as o) : ExS X H0 ρ (.If c as bs pos) o := fun D σ H N r k => ws_of (ps_if pt_w pb_w pb_w) ((hc σ H N r).imp fun v H' ⟨e1, N', s, n, r'⟩ => by
  subst e1
  exact iteT (h D σ H' N' r' (k.mono n)))
theorem sx_ifF {as bs : List Stmt} (hc : EvT X H0 ρ c false) (h : Exec X H0 ρ bs o) : ExS X H0 ρ (.If c as bs pos) o := fun D σ H N r k => ws_of (ps_if pt_w pb_w pb_w) ((hc σ H N r).imp fun v H' ⟨e1, N', s, n, r'⟩ => by
  subst e1
  exact iteF (h D σ H' N' r' (k.mono n)))
/-- an if without else that is not taken -/
theorem sx_skip {as : List Stmt} (hc : EvT X H0 ρ c false) : ExS X H0 ρ (.If c as [] pos) (.nx ρ) := sx_ifF hc ex_nil
theorem sx_if {as bs : List Stmt} {k : Bool} (hc : EvT X H0 ρ c k) (h1 : k = true → Exec X H0 ρ as o) (h2 : k = false → Exec X H0 ρ bs o) : ExS X H0 ρ (.If c as bs pos) o := by
  cases k with
  | true => exact sx_ifT hc (h1 rfl)
  | false => exact sx_ifF hc (h2 rfl)
theorem ex_if {as bs : List Stmt} {k : Bool} (hc : EvT X H0 ρ c k) (h1 : k = true → Exec X H0 ρ (.If c as bs pos :: rest) o) (h2 : k = false → Exec X H0 ρ (.If c as bs pos :: rest) o) : Exec X H0 ρ (.If c as bs pos :: rest) o := by
  cases k with
  | true => exact h1 rfl
  | false => exact h2 rfl

/-! ### while -/
/-- the turns of a while -/
inductive WhileT (X : Cx) (H0 : Hp) (c : Expr) (body : List Stmt) : Env' → Outc → Prop where
  | done {ρ : Env'} : EvT X H0 ρ c false → WhileT X H0 c body ρ (.nx ρ)
  | turn {ρ ρ1 : Env'} {o : Outc} : EvT X H0 ρ c true → Exec X H0 ρ body (.nx ρ1) → WhileT X H0 c body ρ1 o → WhileT X H0 c body ρ o
  | turnC {ρ ρ1 : Env'} {o : Outc} : EvT X H0 ρ c true → Exec X H0 ρ body (.ct ρ1) → WhileT X H0 c body ρ1 o → WhileT X H0 c body ρ o
  | brk {ρ ρ1 : Env'} : EvT X H0 ρ c true → Exec X H0 ρ body (.bk ρ1) → WhileT X H0 c body ρ (.nx ρ1)
  | ret {ρ : Env'} {d : Dat} : EvT X H0 ρ c true → Exec X H0 ρ body (.rt d) → WhileT X H0 c body ρ (.rt d)
  | exc {ρ ρ1 : Env'} {n : Str} : EvT X H0 ρ c true → Exec X H0 ρ body (.ex n ρ1) → WhileT X H0 c body ρ (.ex n ρ1)
  | retO {ρ : Env'} {d : Dat} : EvT X H0 ρ c true → Exec X H0 ρ body (.ro d) → WhileT X H0 c body ρ (.ro d)
/-- .. counted -/
def WhileN (X : Cx) (H0 : Hp) (c : Expr) (body : List Stmt) (o : Outc) : Nat → Env' → Prop
  | 0, ρ => (EvT X H0 ρ c false ∧ o = .nx ρ) ∨ (EvT X H0 ρ c true ∧ ((∃ ρ1, Exec X H0 ρ body (.bk ρ1) ∧ o = .nx ρ1) ∨ (∃ d, Exec X H0 ρ body (.rt d) ∧ o = .rt d) ∨ (∃ d, Exec X H0 ρ body (.ro d) ∧ o = .ro d) ∨ ∃ n ρ1, Exec X H0 ρ body (.ex n ρ1) ∧ o = .ex n ρ1))
  | m + 1, ρ => ∃ ρ1, EvT X H0 ρ c true ∧ (Exec X H0 ρ body (.nx ρ1) ∨ Exec X H0 ρ body (.ct ρ1)) ∧ WhileN X H0 c body o m ρ1
theorem WhileT.count {body : List Stmt} (h : WhileT X H0 c body ρ o) : ∃ m, WhileN X H0 c body o m ρ := by
  induction h with
  | done h => exact ⟨0, .inl ⟨h, rfl⟩⟩
  | turn h1 h2 _ ih => obtain ⟨m, q⟩ := ih; exact ⟨m + 1, _, h1, .inl h2, q⟩
  | turnC h1 h2 _ ih => obtain ⟨m, q⟩ := ih; exact ⟨m + 1, _, h1, .inr h2, q⟩
  | brk h1 h2 => exact ⟨0, .inr ⟨h1, .inl ⟨_, h2, rfl⟩⟩⟩
  | ret h1 h2 => exact ⟨0, .inr ⟨h1, .inr (.inl ⟨_, h2, rfl⟩)⟩⟩
  | exc h1 h2 => exact ⟨0, .inr ⟨h1, .inr (.inr (.inr ⟨_, _, h2, rfl⟩))⟩⟩
  | retO h1 h2 => exact ⟨0, .inr ⟨h1, .inr (.inr (.inl ⟨_, h2, rfl⟩))⟩⟩
theorem sx_while {body : List Stmt} (hp : PassesOwn (model X.prog X.w) X.A X.env X.xe) (h : WhileT X H0 c body ρ o) : ExS X H0 ρ (.While c body [] pos) o := fun D σ H N r k => by
  obtain ⟨m0, h0⟩ := h.count
  refine ws_of (ps_while hp pt_w pb_w) ⟨fun m σ' H' => ∃ ρ' N', Same N N' ∧ Rep X.K H0 ρ' σ' H' N' ∧ WhileN X H0 c body o m ρ', ⟨m0, ρ, N, Same.refl _, r, h0⟩, ?_⟩
  rintro m σ' H' ⟨ρ', N', s, r', w⟩
  cases m with
  | zero =>
    rcases w with ⟨hc, eo⟩ | ⟨hc, w⟩
    · refine (hc σ' H' N' r').imp fun b H1 ⟨eb, N1, s1, n1, r1⟩ => ?_
      subst eb
      subst eo
      exact iteF (k σ' H1 N1 (s.trans n1) r1)
    · refine (hc σ' H' N' r').imp fun b H1 ⟨eb, N1, s1, n1, r1⟩ => ?_
      subst eb
      refine iteT ⟨fun _ _ => False, fun _ _ z => z.elim, ?_⟩
      rcases w with ⟨ρ1, hb, eo⟩ | ⟨d, hb, eo⟩ | ⟨d, hb, eo⟩ | ⟨n, ρ1, hb, eo⟩
      · subst eo
        exact hb _ σ' H1 N1 r1 fun σ2 H2 N2 s2 r2 => k σ2 H2 N2 ((s.trans n1).trans s2) r2
      · subst eo
        exact hb _ σ' H1 N1 r1 k
      · subst eo
        exact hb _ σ' H1 N1 r1 k
      · subst eo
        exact hb _ σ' H1 N1 r1 (Cont.mono (o := .ex n ρ1) k (s.trans n1))
  | succ m =>
    obtain ⟨ρ1, hc, hb, w⟩ := w
    refine (hc σ' H' N' r').imp fun b H1 ⟨eb, N1, s1, n1, r1⟩ => ?_
    subst eb
    refine iteT ⟨fun σ2 H2 => ∃ N2, Same N N2 ∧ Rep X.K H0 ρ1 σ2 H2 N2, fun σ2 H2 ⟨N2, s2, r2⟩ => ⟨m, Nat.lt_succ_self m, ρ1, N2, s2, r2, w⟩, ?_⟩
    rcases hb with hb | hb
    · exact hb _ σ' H1 N1 r1 fun σ2 H2 N2 s2 r2 => ⟨N2, (s.trans n1).trans s2, r2⟩
    · exact hb _ σ' H1 N1 r1 fun σ2 H2 N2 s2 r2 => ⟨N2, (s.trans n1).trans s2, r2⟩


/-! ### what is walked -/
/-- it goes through ds -/
def Walks (K : PySem.W.Frag) (H0 : Hp) (J : It) (N1 : Hp) (ds : List Dat) : Prop := ∀ (H0' : Hp) (ρ : Env') (σ : L2.St) (H N : Hp) (i : Nat), Same H0 H0' → Same N1 N → Rep K H0' ρ σ H N →
  (i < ds.length → J.go i H ∧ ∀ x H', J.yld i H x H' → ∃ N' d, Same N N' ∧ Same H H' ∧ Rep K H0' ρ σ H' N' ∧ ds[i]? = some d ∧ At K N' x d) ∧ (i = ds.length → J.stop i H)
def Iter (X : Cx) (H0 : Hp) (ρ : Env') (t e : Expr) (ds : List Dat) : Prop := ∃ wi, PI X t e wi ∧ ∀ σ H N, Rep X.K H0 ρ σ H N → ∀ R, (∀ J H1 N1, Same N N1 → Same H H1 → Rep X.K H0 ρ σ H1 N1 → Walks X.K H0 J N1 ds → R J H1) → wi σ H R
theorem it_list {t : Expr} (h : Ev X H0 ρ e (.lst ds)) : Iter X H0 ρ t e ds := ⟨_, pi_list pe_w, fun σ H N r R k => (h σ H N r).imp fun v H' ⟨N', s, n, r', a⟩ => by
  obtain ⟨p, vs, rfl, h1, h2⟩ := at_lst a
  refine ⟨p, rfl, ⟨vs, sql_same r'.sub h1⟩, k _ H' N' n s r' fun H02 ρ2 σ2 H2 N2 i s02 s2 r2 => ⟨fun hi => ?_, fun hi => ⟨vs, sql_same (s2.trans r2.sub) h1, by rw [h2.length]; exact Nat.le_of_eq hi.symm⟩⟩⟩
  have hv : i < vs.length := by rw [h2.length]; exact hi
  refine ⟨⟨vs, vs[i], sql_same (s2.trans r2.sub) h1, by simp [hv]⟩, fun x H3 y => ?_⟩
  obtain ⟨rfl, y⟩ := y
  obtain ⟨d, e1, e2⟩ := h2.getV (y vs (sql_same (s2.trans r2.sub) h1))
  exact ⟨N2, d, Same.refl _, Same.refl _, r2, e1, e2.mono s2⟩⟩
theorem it_ol (i : Nat) {t : Expr} {x : Str} (h : ρ[i]? = some (.ol (.lst ds))) (f : flats ds = true) (hN : X.N[i]? = some x := by rfl) (hv : Vis X.env.scope x := by first | exact Or.inl rfl | exact Or.inr (Or.inl rfl) | exact Or.inr (Or.inr rfl)) (hd : (x == ("__debug__" : Str)) = false := by decide)
    (hcd : (x == ("__classdict__" : Str)) = false := by decide) : Iter X H0 ρ t (.Name x pos) ds := ⟨_, pi_list (pv i hN hv hd hcd), fun σ H N r R k => by
  obtain ⟨v, e1, a⟩ := r.ol i _ h
  obtain ⟨p, vs, rfl, h1, h2⟩ := at_lst a
  refine ⟨_, e1, p, rfl, ⟨vs, sql_same r.old h1⟩, k _ H N (Same.refl _) (Same.refl _) r fun H02 ρ2 σ2 H2 N2 j s02 s2 r2 => ⟨fun hi => ?_, fun hi => ⟨vs, sql_same (s02.trans r2.old) h1, by rw [h2.length]; exact Nat.le_of_eq hi.symm⟩⟩⟩
  have hv : j < vs.length := by rw [h2.length]; exact hi
  refine ⟨⟨vs, vs[j], sql_same (s02.trans r2.old) h1, by simp [hv]⟩, fun x H3 y => ?_⟩
  obtain ⟨rfl, y⟩ := y
  obtain ⟨d, e2, e3⟩ := (h2.imm f).getV (y vs (sql_same (s02.trans r2.old) h1))
  exact ⟨N2, d, Same.refl _, Same.refl _, r2, e2, (e3.mono (imm_same s02)).mono r2.imm⟩⟩
theorem it_tup {t : Expr} (h : Ev X H0 ρ e (.tup ds)) : Iter X H0 ρ t e ds := ⟨_, pi_tup pe_w, fun σ H N r R k => (h σ H N r).imp fun v H' ⟨N', s, n, r', a⟩ => by
  obtain ⟨p, vs, rfl, h1, h2⟩ := at_seq a
  refine ⟨p, rfl, ⟨vs, sqt_same r'.sub h1⟩, k _ H' N' n s r' fun H02 ρ2 σ2 H2 N2 i s02 s2 r2 => ⟨fun hi => ?_, fun hi => ⟨vs, sqt_same (s2.trans r2.sub) h1, by rw [h2.length]; exact Nat.le_of_eq hi.symm⟩⟩⟩
  have hv : i < vs.length := by rw [h2.length]; exact hi
  refine ⟨⟨vs, vs[i], sqt_same (s2.trans r2.sub) h1, by simp [hv]⟩, fun x H3 y => ?_⟩
  obtain ⟨rfl, y⟩ := y
  obtain ⟨d, e1, e2⟩ := h2.getV (y vs (sqt_same (s2.trans r2.sub) h1))
  exact ⟨N2, d, Same.refl _, Same.refl _, r2, e1, e2.mono s2⟩⟩
/-- the signs of a text, each a text -/
def signs (z : Str) : List Dat := z.cps.toList.map fun c => .str ⟨#[c]⟩
theorem it_str {t : Expr} {z : Str} (h : Ev X H0 ρ e (.str z)) : Iter X H0 ρ t e (signs z) := ⟨_, pi_str pe_w, fun σ H N r R k => (h σ H N r).imp fun v H' ⟨N', s, n, r', a⟩ => by
  refine ⟨z, at_str a, k _ H' N' n s r' fun H02 ρ2 σ2 H2 N2 i s02 s2 r2 => ⟨fun hi => ?_, fun hi => ?_⟩⟩
  · have hz : i < z.cps.size := by simpa [signs] using hi
    refine ⟨hz, fun x H3 y => ?_⟩
    obtain ⟨rfl, c, y1, rfl⟩ := y
    refine ⟨N2, .str ⟨#[c]⟩, Same.refl _, Same.refl _, r2, ?_, .str _⟩
    unfold signs
    rw [List.getElem?_map, Array.getElem?_toList, y1]
    rfl
  · show z.cps.size ≤ i
    rw [hi]
    simp [signs]⟩
/-- lo, lo + c, .. -/
def steps (lo c : Int) (n : Nat) : List Dat := (List.range n).map fun i : Nat => .int (lo + (i : Int) * c)
theorem steps_len {lo c : Int} {n : Nat} : (steps lo c n).length = n := by simp [steps]
theorem steps_get {lo c : Int} {n i : Nat} (h : i < n) : (steps lo c n)[i]? = some (.int (lo + (i : Int) * c)) := by
  unfold steps
  rw [List.getElem?_map, List.getElem?_range h]
  rfl
theorem wlk_r {K : PySem.W.Frag} {lo : Int} {n : Nat} {N1 : Hp} : Walks K H0 (Itr lo n) N1 (steps lo 1 n) := fun H02 ρ2 σ2 H2 N2 i s02 s2 r2 => by
  refine ⟨fun hi => ?_, fun hi => by rw [steps_len] at hi; exact Nat.le_of_eq hi.symm⟩
  rw [steps_len] at hi
  refine ⟨hi, fun x H3 y => ?_⟩
  obtain ⟨rfl, rfl⟩ := y
  exact ⟨N2, _, Same.refl _, Same.refl _, r2, steps_get hi, by rw [Int.mul_one]; exact .int _⟩
theorem wlk_c {K : PySem.W.Frag} {lo c : Int} {n : Nat} {N1 : Hp} : Walks K H0 (Itc lo c n) N1 (steps lo c n) := fun H02 ρ2 σ2 H2 N2 i s02 s2 r2 => by
  refine ⟨fun hi => ?_, fun hi => by rw [steps_len] at hi; exact Nat.le_of_eq hi.symm⟩
  rw [steps_len] at hi
  refine ⟨hi, fun x H3 y => ?_⟩
  obtain ⟨rfl, rfl⟩ := y
  exact ⟨N2, _, Same.refl _, Same.refl _, r2, steps_get hi, .int _⟩
theorem ats1 {K : PySem.W.Frag} {H : Hp} {vs : List V} {i : Int} (h : Ats K H vs [.int i]) : vs = [.int i] := Ats.ints (ns := [i]) h
theorem ats2 {K : PySem.W.Frag} {H : Hp} {vs : List V} {i j : Int} (h : Ats K H vs [.int i, .int j]) : vs = [.int i, .int j] := Ats.ints (ns := [i, j]) h
theorem ats3 {K : PySem.W.Frag} {H : Hp} {vs : List V} {i j k : Int} (h : Ats K H vs [.int i, .int j, .int k]) : vs = [.int i, .int j, .int k] := Ats.ints (ns := [i, j, k]) h
theorem it_range1 {t : Expr} {p : Pos} {j : Int} (h : Ev X H0 ρ a (.int j)) (b1 : -(2 ^ 62) ≤ j) (b2 : j < 2 ^ 62) (hm : X.mg "range" = none) (hg : Gl X "range" := by rfl) (hs : starEach [a] X.env = [(false, eval a X.env)] := by rfl) :
    Iter X H0 ρ t (.Call (.Name "range" p) [a] [] pos) (steps 0 1 j.toNat) := ⟨_, pi_range1 hg hm pa_w hs, fun σ H N r R k => (ea_cons h ea_nil (hs := hs) σ H N r).imp fun vs H' ⟨N', s, n, r', q⟩ => ⟨j, ats1 q, b1, b2, k _ H' N' n s r' wlk_r⟩⟩
theorem it_range2 {t : Expr} {p : Pos} {i j : Int} (h : Ev X H0 ρ a (.int i)) (h2 : Ev X H0 ρ b (.int j)) (bb : -(2 ^ 62) ≤ i ∧ i < 2 ^ 62 ∧ -(2 ^ 62) ≤ j ∧ j < 2 ^ 62) (hm : X.mg "range" = none) (hg : Gl X "range" := by rfl)
    (hs : starEach [a, b] X.env = [(false, eval a X.env), (false, eval b X.env)] := by rfl) (hs2 : starEach [b] X.env = [(false, eval b X.env)] := by rfl) :
    Iter X H0 ρ t (.Call (.Name "range" p) [a, b] [] pos) (steps i 1 (j - i).toNat) := ⟨_, pi_range2 hg hm pa_w hs hs2, fun σ H N r R k => (ea_cons h (ea_cons h2 ea_nil (hs := hs2)) (hs := by rw [hs, hs2]) σ H N r).imp fun vs H' ⟨N', s, n, r', q⟩ => ⟨i, j, ats2 q, bb, k _ H' N' n s r' wlk_r⟩⟩
theorem it_range3 {t : Expr} {p : Pos} {i j c' : Int} {n : Nat} (h : Ev X H0 ρ a (.int i)) (h2 : Ev X H0 ρ b (.int j)) (h3 : Ev X H0 ρ c (.int c')) (hr : RgC i j c' n) (hm : X.mg "range" = none) (hg : Gl X "range" := by rfl)
    (hs : ∀ l, PA X [a, b, c] l → PI X t (.Call (.Name "range" p) [a, b, c] [] pos) (iRng3 l) := by exact fun _ h => pi_range3 rfl (by assumption) h) (s1 : starEach [a, b, c] X.env = (false, eval a X.env) :: starEach [b, c] X.env := by rfl) (s2 : starEach [b, c] X.env = (false, eval b X.env) :: starEach [c] X.env := by rfl) (s3 : starEach [c] X.env = (false, eval c X.env) :: starEach [] X.env := by rfl) :
    Iter X H0 ρ t (.Call (.Name "range" p) [a, b, c] [] pos) (steps i c' n) := ⟨_, hs _ pa_w, fun σ H N r R k => (ea_cons h (ea_cons h2 (ea_cons h3 ea_nil (hs := s3)) (hs := s2)) (hs := s1) σ H N r).imp fun vs H' ⟨N', s, n', r', q⟩ => ⟨i, j, c', n, ats3 q, hr, k _ H' N' n' s r' wlk_c⟩⟩

/-! ### for -/
/-- what a target makes of an item: the names' entries -/
structure Tgt (X : Cx) (H0 : Hp) (t : Expr) (ok : Dat → Prop) (B : Dat → Env' → Env') : Prop where
  pg : ∃ g, PG X t g ∧ ∀ (ρ : Env') (σ : L2.St) (H N : Hp) (v : V) (d : Dat), Rep X.K H0 ρ σ H N → At X.K N v d → ok d → ∀ Q, (∀ σ' H' N', Same N N' → Rep X.K H0 (B d ρ) σ' H' N' → Q σ' H') → g v σ H Q
theorem tg_name (i : Nat) {x : Str} (nd : X.N.Nodup) (hi : X.N[i]? = some x := by rfl) (hx : Loc X.env.scope x := by first | exact Or.inl rfl | exact Or.inr rfl)
    (hf : X.fn x = true ∨ X.env.scope.names.lookup x = some .local := by first | exact .inl rfl | exact .inr rfl | assumption) : Tgt X H0 (.Name x pos) (fun _ => True) (fun d ρ => ρ.set i (.im d)) :=
  ⟨gName i, pg_name nd hi hx hf, fun ρ σ H N v d r a _ Q k => k _ H N (Same.refl _) (r.setE (e := .im d) a)⟩
/-- the turns of a for, what is left to be walked first -/
inductive ForT (X : Cx) (H0 : Hp) (B : Dat → Env' → Env') (body : List Stmt) : List Dat → Env' → Outc → Prop where
  | nil {ρ : Env'} : ForT X H0 B body [] ρ (.nx ρ)
  | turn {ρ ρ1 : Env'} {d : Dat} {ds : List Dat} {o : Outc} : Exec X H0 (B d ρ) body (.nx ρ1) → ForT X H0 B body ds ρ1 o → ForT X H0 B body (d :: ds) ρ o
  | turnC {ρ ρ1 : Env'} {d : Dat} {ds : List Dat} {o : Outc} : Exec X H0 (B d ρ) body (.ct ρ1) → ForT X H0 B body ds ρ1 o → ForT X H0 B body (d :: ds) ρ o
  | brk {ρ ρ1 : Env'} {d : Dat} {ds : List Dat} : Exec X H0 (B d ρ) body (.bk ρ1) → ForT X H0 B body (d :: ds) ρ (.nx ρ1)
  | ret {ρ : Env'} {d r : Dat} {ds : List Dat} : Exec X H0 (B d ρ) body (.rt r) → ForT X H0 B body (d :: ds) ρ (.rt r)
  | exc {ρ ρ1 : Env'} {d : Dat} {ds : List Dat} {n : Str} : Exec X H0 (B d ρ) body (.ex n ρ1) → ForT X H0 B body (d :: ds) ρ (.ex n ρ1)
  | retO {ρ : Env'} {d r : Dat} {ds : List Dat} : Exec X H0 (B d ρ) body (.ro r) → ForT X H0 B body (d :: ds) ρ (.ro r)
theorem sx_for {t iter : Expr} {body : List Stmt} {bd : Dat → Env' → Env'} {ok : Dat → Prop} (hp : PassesOwn (model X.prog X.w) X.A X.env X.xe) (hc : X.calm = true) (hi : Iter X H0 ρ t iter ds) (hg : Tgt X H0 t ok bd) (hk : ∀ d ∈ ds, ok d) (h : ForT X H0 bd body ds ρ o)
    (hs : ∀ x, foldedSetIterable iter X.env x = pure x := by intro _; rfl) : ExS X H0 ρ (.For t iter body [] pos) o := fun D σ H N r k => by
  obtain ⟨wi, pi, hw⟩ := hi
  obtain ⟨g, pg, hgg⟩ := hg.pg
  refine ws_of (ps_for hp hc pi pg pb_w hs) (hw σ H N r _ fun J H1 N1 n1 s1 r1 w => ?_)
  refine ⟨fun i m σ' H' => m = ds.length - i ∧ i ≤ ds.length ∧ ∃ ρ' N', Same N1 N' ∧ Rep X.K H0 ρ' σ' H' N' ∧ ForT X H0 bd body (ds.drop i) ρ' o, ⟨_, rfl, Nat.zero_le _, ρ, N1, Same.refl _, r1, h⟩, ?_⟩
  rintro i m σ' H' ⟨rfl, hi, ρ', N', s', r', f⟩
  obtain ⟨wg, wst⟩ := w H0 ρ' σ' H' N' i (Same.refl _) s' r'
  by_cases hlt : i < ds.length
  · obtain ⟨go, yl⟩ := wg hlt
    have e1 : ds.drop i = ds[i] :: ds.drop (i + 1) := List.drop_eq_getElem_cons hlt
    rw [e1] at f
    have base : ∀ (O : Outc) (Dx : Ends), Exec X H0 (bd ds[i] ρ') body O → (∀ N3, Same N1 N3 → Cont X H0 N3 Dx O) → ∀ x H2, J.yld i H' x H2 → g x σ' H2 fun σ3 H3 => WB X body Dx σ3 H3 := fun O Dx ex kk x H2 y => by
      obtain ⟨N3, d, n3, s3, r3, e3, a3⟩ := yl x H2 y
      have ed : d = ds[i] := by
        rw [List.getElem?_eq_getElem hlt] at e3
        exact (Option.some.inj e3).symm
      subst ed
      exact hgg ρ' σ' H2 N3 x _ r3 a3 (hk _ (List.getElem_mem hlt)) _ fun σ4 H4 N4 n4 r4 => ex Dx σ4 H4 N4 r4 (kk N4 ((s'.trans n3).trans n4))
    have again : ∀ ρ1, ForT X H0 bd body (ds.drop (i + 1)) ρ1 o → ∀ σ3 H3, (∃ N3, Same N1 N3 ∧ Rep X.K H0 ρ1 σ3 H3 N3) → ∃ m', m' < ds.length - i ∧ m' = ds.length - (i + 1) ∧ i + 1 ≤ ds.length ∧ ∃ ρ' N', Same N1 N' ∧ Rep X.K H0 ρ' σ3 H3 N' ∧ ForT X H0 bd body (ds.drop (i + 1)) ρ' o :=
      fun ρ1 ff σ3 H3 ⟨N3, q1, q2⟩ => ⟨ds.length - (i + 1), by omega, rfl, hlt, ρ1, N3, q1, q2, ff⟩
    cases f with
    | @turn _ ρ1 _ _ _ ex ff => exact .inr ⟨go, fun σ3 H3 => ∃ N3, Same N1 N3 ∧ Rep X.K H0 ρ1 σ3 H3 N3, again ρ1 ff, base (.nx ρ1) _ ex fun N3 q3 σ3 H3 N4 q4 r4 => ⟨N4, q3.trans q4, r4⟩⟩
    | @turnC _ ρ1 _ _ _ ex ff => exact .inr ⟨go, fun σ3 H3 => ∃ N3, Same N1 N3 ∧ Rep X.K H0 ρ1 σ3 H3 N3, again ρ1 ff, base (.ct ρ1) _ ex fun N3 q3 σ3 H3 N4 q4 r4 => ⟨N4, q3.trans q4, r4⟩⟩
    | @brk _ ρ1 _ _ ex => exact .inr ⟨go, fun _ _ => False, fun _ _ z => z.elim, base (.bk ρ1) _ ex fun N3 q3 σ3 H3 N4 q4 r4 => k σ3 H3 N4 ((n1.trans q3).trans q4) r4⟩
    | ret ex => exact .inr ⟨go, fun _ _ => False, fun _ _ z => z.elim, base _ _ ex fun N3 q3 => k⟩
    | retO ex => exact .inr ⟨go, fun _ _ => False, fun _ _ z => z.elim, base _ _ ex fun N3 q3 => k⟩
    | @exc _ ρ1 _ _ n ex => exact .inr ⟨go, fun _ _ => False, fun _ _ z => z.elim, base (.ex n ρ1) _ ex fun N3 q3 => Cont.mono (o := .ex n ρ1) k (n1.trans q3)⟩
  · have e1 : i = ds.length := by omega
    subst e1
    rw [List.drop_length] at f
    cases f
    exact .inl ⟨wst rfl, k σ' H' N' (n1.trans s') r'⟩
end
end B

namespace B
open PySem PySem.Spec PyProof.Rows L2

/-! ### what a def does: R of the data handed in and of its end -/
inductive Res where
  | val (d : Dat)
  /-- a new list or dict, the caller's own -/
  | own (d : Dat)
  | exc (n : Str)
def spR (K : PySem.W.Frag) (mg : Str → Option Value) (R : List Dat → Res → Prop) : Sp := fun vs H Q E => ∃ ds o, R ds o ∧ Ats K H vs ds ∧ match o with
  | .val d => ∀ v H', Same H H' → Ret K H v d H' → Q v H'
  | .own d => ∀ p H' N, Same H H' → Same N H' → (∀ a u, N a = some u → Mut (some u) → H a = none) → H p = none → N p = none → Own K H' N p d → Q (.ref p) H'
  | .exc n => ∀ C H', mg n = some (.ref C) → Same H H' → E (.ref C) none H'
def GFn (P : Program) (w : World) (K : PySem.W.Frag) (mg : Str → Option Value) (base : Heap) (x : Str) (k : Nat) (R : List Dat → Res → Prop) : Prop :=
  ∃ f fd ps, FnOk P w K mg base (L2.CX P w) k f fd ps (spR K mg R) ∧ mg x = some (.ref f) ∧ PySem.W.keepIn K (.ref f) = true ∧ Binds K fd ps []
/-- a def of the text as it stands behind the top -/
def Df (K : PySem.W.Frag) (mg : Str → Option Value) (x : Str) (st : Stmt) (ps : List Str) : Prop := ∃ f fd, Fun K x x st f fd ∧ mg x = some (.ref f) ∧ Binds K fd ps []

inductive Ents : List Ent → List Dat → Prop where
  | nil : Ents [] []
  | im {d : Dat} {es : List Ent} {ds : List Dat} (f : flat d = true) : Ents es ds → Ents (.im d :: es) (d :: ds)
  | ol {d : Dat} {es : List Ent} {ds : List Dat} : Ents es ds → Ents (.ol d :: es) (d :: ds)
/-- a block's end as a def's -/
def Outc.ok : Outc → Res → Prop
  | .nx _, .val .non => True
  | .rt d, .val e => d = e
  | .ex n _, .exc m => n = m
  | _, _ => False
theorem Ents.get {K : PySem.W.Frag} {H : Hp} : ∀ {es : List Ent} {ds : List Dat} {vs : List V}, Ents es ds → Ats K H vs ds → ∀ i : Nat, (es[i]? = none ∧ vs[i]? = none) ∨ ∃ v, vs[i]? = some v ∧ ((∃ d, es[i]? = some (Ent.im d) ∧ At K (Imm H) v d) ∨ ∃ d, es[i]? = some (Ent.ol d) ∧ At K H v d)
  | _, _, _, .nil, .nil, i => .inl ⟨by simp, by simp⟩
  | _, _, _, .im f _, .cons a _, 0 => .inr ⟨_, rfl, .inl ⟨_, rfl, a.imm f⟩⟩
  | _, _, _, .ol _, .cons a _, 0 => .inr ⟨_, rfl, .inr ⟨_, rfl, a⟩⟩
  | _, _, _, .im _ t, .cons _ b, i + 1 => by simpa using Ents.get t b i
  | _, _, _, .ol t, .cons _ b, i + 1 => by simpa using Ents.get t b i
theorem Ents.length : ∀ {es : List Ent} {ds : List Dat}, Ents es ds → es.length = ds.length
  | _, _, .nil => rfl
  | _, _, .im _ t => congrArg (· + 1) (Ents.length t)
  | _, _, .ol t => congrArg (· + 1) (Ents.length t)
theorem rep_start {K : PySem.W.Frag} {H : Hp} {es : List Ent} {ds : List Dat} {vs : List V} {N : List Str} (e : Ents es ds) (a : Ats K H vs ds) : Rep K H (es ++ List.replicate (N.length - vs.length) .no) (L2.start N vs) H (Imm H) := by
  have hl : es.length = vs.length := by rw [e.length, a.length]
  have geE : ∀ (i : Nat) x, (es ++ List.replicate (N.length - vs.length) Ent.no)[i]? = some x → x ≠ .no → es[i]? = some x := fun i x h n => by
    by_cases hi : i < es.length
    · rw [List.getElem?_append_left hi] at h; exact h
    · rw [List.getElem?_append_right (by omega), List.getElem?_replicate] at h
      split at h
      · cases h; exact (n rfl).elim
      · cases h
  have geV : ∀ (i : Nat) v, vs[i]? = some v → (L2.start N vs)[i]? = some (some v) := fun i v h => by
    unfold L2.start
    rw [List.getElem?_append_left (by rw [List.length_map]; exact (List.getElem?_eq_some_iff.mp h).1), List.getElem?_map, h]
    rfl
  refine ⟨Same.refl _, imm_sub H, Same.refl _, fun b u h m => (imm_not h m).elim, ?_, fun i d h => ?_, fun i d h => ?_, fun i d h => ?_, fun i d h => ?_, fun i j d d' p ne h => ?_⟩
  · unfold L2.start
    simp [hl]
  · have h1 := geE i _ h (fun z => nomatch z)
    rcases e.get a i with ⟨h2, _⟩ | ⟨v, hv, ⟨d', h2, q⟩ | ⟨d', h2, q⟩⟩
    · rw [h1] at h2; cases h2
    · rw [h1] at h2; cases h2; exact ⟨v, geV i v hv, q⟩
    · rw [h1] at h2; cases h2
  · have h1 := geE i _ h (fun z => nomatch z)
    rcases e.get a i with ⟨h2, _⟩ | ⟨v, hv, ⟨d', h2, q⟩ | ⟨d', h2, q⟩⟩
    · rw [h1] at h2; cases h2
    · rw [h1] at h2; cases h2
    · rw [h1] at h2; cases h2; exact ⟨v, geV i v hv, q⟩
  · have h1 := geE i _ h (fun z => nomatch z)
    rcases e.get a i with ⟨h2, _⟩ | ⟨v, hv, ⟨d', h2, q⟩ | ⟨d', h2, q⟩⟩ <;> (rw [h1] at h2; cases h2)
  · have h1 := geE i _ h (fun z => nomatch z)
    rcases e.get a i with ⟨h2, _⟩ | ⟨v, hv, ⟨d', h2, q⟩ | ⟨d', h2, q⟩⟩ <;> (rw [h1] at h2; cases h2)
  · have h1 := geE i _ h (fun z => nomatch z)
    rcases e.get a i with ⟨h2, _⟩ | ⟨v, hv, ⟨d', h2, q⟩ | ⟨d', h2, q⟩⟩ <;> (rw [h1] at h2; cases h2)
/-- the context of a def's body -/
abbrev XX (P : Program) (w : World) (K : PySem.W.Frag) (mg : Str → Option Value) (base : Heap) (N : List Str) (x : Str) (st : Stmt) (f : Addr) (cdv : Value) (A : Around) (outer : List PySem.Env) (s : Shared) (H : Hp) (E : XK) : Cx :=
  cxOf (L2.CX P w) P w K mg base N x (defScope st) f cdv A outer s H E
/-- a block's end as it is asked of a def's body -/
inductive Ends' (X : Cx) (H0 : Hp) (ρ : Env') (body : List Stmt) : Res → Prop where
  | ret {d : Dat} : Exec X H0 ρ body (.rt d) → Ends' X H0 ρ body (.val d)
  | non {ρ1 : Env'} : Exec X H0 ρ body (.nx ρ1) → Ends' X H0 ρ body (.val .non)
  | exc {ρ1 : Env'} {n : Str} : Exec X H0 ρ body (.ex n ρ1) → Ends' X H0 ρ body (.exc n)
  | own {d : Dat} : Exec X H0 ρ body (.ro d) → Ends' X H0 ρ body (.own d)
/-- an owned thing is handed out -/
def ExecO (X : Cx) (H0 : Hp) (ρ : Env') (sts : List Stmt) (d : Dat) : Prop := ∀ D σ H N, Rep X.K H0 ρ σ H N → (∀ p H' N', Same H0 H' → Same N' H' → (∀ a u, N' a = some u → Mut (some u) → H0 a = none) → H0 p = none → N' p = none → Own X.K H' N' p d → D.rt (.ref p) H') → WB X sts D σ H
section
variable {P : Program} {w : World} {K : PySem.W.Frag} {mg : Str → Option Value} {base : Heap} {x : Str} {st : Stmt} {ps N : List Str} {k : Nat} {R : List Dat → Res → Prop}
/-- THE RULE for a def -/
theorem GFn.mk (D : Df K mg x st ps) (S : FnScope N ps (defScope st)) (hl : ∀ ds o, R ds o → ds.length = ps.length)
    (body : ∀ (f : Addr) (cdv : Value) (A : Around) (outer : List PySem.Env) (s : Shared) (H : Hp) (E : XK), Room k (XX P w K mg base N x st f cdv A outer s H E).A → ∀ ds o, R ds o → ∃ es, Ents es ds ∧ ∀ H0, match o with
      | .own d => ExecO (XX P w K mg base N x st f cdv A outer s H E) H0 (es ++ List.replicate (N.length - ps.length) .no) (defBody st) d
      | o => Ends' (XX P w K mg base N x st f cdv A outer s H E) H0 (es ++ List.replicate (N.length - ps.length) .no) (defBody st) o) : GFn P w K mg base x (k + 1) R := by
  obtain ⟨f, fd, F, hm, hb⟩ := D
  refine ⟨f, fd, ps, ?_, hm, F.kp, hb⟩
  refine F.okX S (fun vs H Q E ⟨ds, o, hr, a, _⟩ => by rw [a.length]; exact hl ds o hr) fun cdv A outer s H vs Q E hr hsp => ?_
  obtain ⟨ds, o, hR, a, q⟩ := hsp
  obtain ⟨es, he, hbody⟩ := body f cdv A outer s H E hr ds o hR
  have hlen : vs.length = ps.length := by rw [a.length]; exact hl ds o hR
  have r : Rep K H (es ++ List.replicate (N.length - ps.length) .no) (L2.start N vs) H (Imm H) := hlen ▸ rep_start he a
  have hb := hbody H
  refine ⟨_, pb_w, ?_⟩
  cases o with
  | val d =>
    cases hb with
    | ret h => exact h { nx := fun _ H' => Q .non H', rt := Q } _ _ _ r fun v H' s rt => q v H' s rt
    | non h => exact h { nx := fun _ H' => Q .non H', rt := Q } _ _ _ r fun σ H' N' s r' => q .non H' r'.old ⟨N', r'.sub, r'.fresh, .non⟩
  | own d => exact hb { nx := fun _ H' => Q .non H', rt := Q } _ _ _ r fun p H' N' s1 s2 s3 s4 s5 s6 => q p H' N' s1 s2 s3 s4 s5 s6
  | exc n =>
    cases hb with
    | exc h => exact h { nx := fun _ H' => Q .non H', rt := Q } _ _ _ r ⟨_, takes_of rfl rfl rfl rfl, fun C σ H' N' hm s r' => q C H' hm r'.old⟩
end
section
variable {X : Cx} {H0 : Hp} {ρ ρ1 ρ2 : Env'} {a b c e : Expr} {es : List Expr} {st : Stmt} {sts rest : List Stmt} {d d1 d2 : Dat} {ds : List Dat} {p pos : Pos} {o o1 : Outc} {x n : Str} {k k' : Nat} {R : List Dat → Res → Prop}
theorem xo_cons (h : ExS X H0 ρ st (.nx ρ1)) (t : ExecO X H0 ρ1 rest d) : ExecO X H0 ρ (st :: rest) d := fun D σ H N r q => by
  refine wb_of (pss_cons ps_w pb_w) ?_
  show WS X st { D with nx := WB X rest D } σ H
  exact h _ σ H N r fun σ' H' N' s r' => t D σ' H' N' r' q
theorem xo_ret (h : EvO X H0 ρ e d) : ExecO X H0 ρ [.Return (some e) pos] d := fun D σ H N r q => wb_of (pss_one (ps_ret pe_w)) ((h σ H N r).imp fun v H' ⟨N', p, e1, hp, s, n, r', np, ow⟩ => by
  subst e1
  exact q p H' N' r'.old r'.sub r'.fresh (r.old.free hp) np ow)
theorem xo_own (i : Nat) (h : ρ[i]? = some (.ow d)) (hN : X.N[i]? = some x := by rfl) (hv : Vis X.env.scope x := by first | exact Or.inl rfl | exact Or.inr (Or.inl rfl) | exact Or.inr (Or.inr rfl)) (hd : (x == ("__debug__" : Str)) = false := by decide)
    (hcd : (x == ("__classdict__" : Str)) = false := by decide) {pos'} : ExecO X H0 ρ [.Return (some (.Name x pos')) pos] d := fun D σ H N r q => wb_of (pss_one (ps_ret (pv i hN hv hd hcd)))
  (let ⟨p, h1, h2, h3, h4⟩ := r.ow i d h; ⟨.ref p, h1, q p H N r.old r.sub r.fresh h2 h3 h4⟩)

/-! ### calls of the text's defs -/
theorem GFn.mono {P : Program} {w : World} {K : PySem.W.Frag} {mg : Str → Option Value} {base : Heap} (G : GFn P w K mg base x k R) (h : k ≤ k') : GFn P w K mg base x k' R := by
  obtain ⟨f, fd, ps, F, r⟩ := G
  exact ⟨f, fd, ps, F.mono h, r⟩
theorem ev_call (G : GFn X.prog X.w X.K X.mg X.base x k R) (hr : Room k X.A) (ha : EvAB X H0 ρ (e :: es) ds) (q : R ds (.val d)) (hg : Gl X x := by rfl) (hdb : (x == ("__debug__" : Str)) = false := by decide)
    (he : starEach (e :: es) X.env = (false, eval e X.env) :: starEach es X.env := by rfl) (hpl : (backTo pos (starEach es X.env)).any (·.1) = false := by rfl) : Ev X H0 ρ (.Call (.Name x p) (e :: es) [] pos) d := fun σ H N r => by
  obtain ⟨f, fd, ps, F, hm, hk, hb⟩ := G
  refine we_of (pe_call F hr hg hm hk hb .nil passL pa_w hdb he hpl) ((ha σ H N r).imp fun vs H1 ⟨N1, s1, n1, r1, a1⟩ => ⟨ds, .val d, q, by rw [List.append_nil]; exact a1, fun v H' s' rt => ?_⟩)
  obtain ⟨N2, n2, r2, a2⟩ := r1.ret s' rt
  exact ⟨N2, s1.trans s', n1.trans n2, r2, a2⟩
theorem ev_call0 (G : GFn X.prog X.w X.K X.mg X.base x k R) (hr : Room k X.A) (q : R [] (.val d)) (hg : Gl X x := by rfl) (hdb : (x == ("__debug__" : Str)) = false := by decide) : Ev X H0 ρ (.Call (.Name x p) [] [] pos) d := fun σ H N r => by
  obtain ⟨f, fd, ps, F, hm, hk, hb⟩ := G
  refine we_of (pe_call0 F hr hg hm hk hb .nil passL hdb) ⟨[], .val d, q, .nil, fun v H' s' rt => ?_⟩
  obtain ⟨N2, n2, r2, a2⟩ := r.ret s' rt
  exact ⟨N2, s', n2, r2, a2⟩
theorem eo_call (G : GFn X.prog X.w X.K X.mg X.base x k R) (hr : Room k X.A) (ha : EvAB X H0 ρ (e :: es) ds) (q : R ds (.own d)) (hg : Gl X x := by rfl) (hdb : (x == ("__debug__" : Str)) = false := by decide)
    (he : starEach (e :: es) X.env = (false, eval e X.env) :: starEach es X.env := by rfl) (hpl : (backTo pos (starEach es X.env)).any (·.1) = false := by rfl) : EvO X H0 ρ (.Call (.Name x p) (e :: es) [] pos) d := fun σ H N r => by
  obtain ⟨f, fd, ps, F, hm, hk, hb⟩ := G
  refine we_of (pe_call F hr hg hm hk hb .nil passL pa_w hdb he hpl) ((ha σ H N r).imp fun vs H1 ⟨N1, s1, n1, r1, a1⟩ => ⟨ds, .own d, q, by rw [List.append_nil]; exact a1, fun p H' M s' m1 m2 m3 m4 ow => ?_⟩)
  have mN : N1 p = none := r1.sub.free m3
  have r1' := r1.grow s'
  have bp : both N1 M p = none := by unfold both; rw [if_pos mN]; exact m4
  refine ⟨both N1 M, p, rfl, s1.free m3, s1.trans s', n1.trans (both_l _ _), r1'.more (both_l N1 M) (both_sub r1'.sub m1) (fun a o h m => ?_) (fun i d q h1 h2 h3 => ?_), bp, ?_⟩
  · unfold both at h
    split at h
    · exact r1.old.free (m2 a o h m)
    · exact r1.fresh a o h m
  · unfold both
    rw [if_pos h3]
    obtain ⟨p', o', e1, e2, m⟩ := r1.own_some h1
    rw [h2] at e1
    cases e1
    cases z : M q with
    | none => rfl
    | some u =>
      have e3 := m1 q u z
      rw [s' _ _ e2] at e3
      cases e3
      have := m2 q _ z m
      rw [e2] at this
      cases this
  · cases d with
    | lst ds => obtain ⟨vs, q1, q2⟩ := ow; exact ⟨vs, q1, q2.mono (both_r r1'.sub m1)⟩
    | dic ds => obtain ⟨vs, q1, q2⟩ := ow; exact ⟨vs, q1, q2.mono (both_r r1'.sub m1)⟩
    | _ => exact ow
theorem exc_call (G : GFn X.prog X.w X.K X.mg X.base x k R) (hr : Room k X.A) (ha : EvAB X H0 ρ (e :: es) ds) (q : R ds (.exc n)) (hg : Gl X x := by rfl) (hdb : (x == ("__debug__" : Str)) = false := by decide)
    (he : starEach (e :: es) X.env = (false, eval e X.env) :: starEach es X.env := by rfl) (hpl : (backTo pos (starEach es X.env)).any (·.1) = false := by rfl) : EvX X H0 ρ (.Call (.Name x p) (e :: es) [] pos) n := fun σ H N r W tk kw Q => by
  obtain ⟨f, fd, ps, F, hm, hk, hb⟩ := G
  refine we_of (pe_callS F hr hg hm hk hb (fun σ => passAt tk σ) pa_w hdb he hpl) ((ha σ H N r).imp fun vs H1 ⟨N1, s1, n1, r1, a1⟩ => ⟨ds, .exc n, q, a1, fun C H' hC s' => ?_⟩)
  exact kw C H' N1 hC n1 (r1.grow s')
/-! .. that raise -/
theorem sx_retX (h : EvX X H0 ρ e n) : ExS X H0 ρ (.Return (some e) pos) (.ex n ρ) := fun D σ H N r ⟨W, tk, q⟩ => ws_of (ps_ret pe_w) (h σ H N r W tk (fun C H' N' hC s r' => q C σ H' N' hC s r') _)
theorem sx_exprX (h : EvX X H0 ρ e n) (hs : swapsWith e none pos.line X.env = pure false := by rfl) : ExS X H0 ρ (.Expr e pos) (.ex n ρ) := fun D σ H N r ⟨W, tk, q⟩ => ws_of (ps_expr pe_w hs) (h σ H N r W tk (fun C H' N' hC s r' => q C σ H' N' hC s r') _)
theorem sx_setX {i : Nat} {x : Str} {pos' : Pos} (h : EvX X H0 ρ e n) (nd : X.N.Nodup) (hi : X.N[i]? = some x := by rfl) (hx : Loc X.env.scope x := by first | exact Or.inl rfl | exact Or.inr rfl)
    (hs : swapsWith e (some (.Name x pos')) pos.line X.env = pure false := by rfl) (hf : X.fn x = true ∨ X.env.scope.names.lookup x = some .local := by first | exact .inl rfl | exact .inr rfl | assumption) : ExS X H0 ρ (.Assign [.Name x pos'] e pos) (.ex n ρ) := fun D σ H N r ⟨W, tk, q⟩ =>
  ws_of (ps_set nd hi hx pe_w hs hf) (h σ H N r W tk (fun C H' N' hC s r' => q C σ H' N' hC s r') _)
theorem sx_asgX {t : Expr} {ok : Dat → Prop} {bd : Dat → Env' → Env'} (h : EvX X H0 ρ e n) (hg : Tgt X H0 t ok bd) (hs : swapsWithSole [t] e pos.line X.env = pure false := by rfl) (hw : swappedStores [t] e X.env = pure none := by rfl)
    (h1 : (assignEach [t] X.env).map (·.2) = [assign t X.env] := by rfl) : ExS X H0 ρ (.Assign [t] e pos) (.ex n ρ) := fun D σ H N r ⟨W, tk, q⟩ => by
  obtain ⟨g, pg, _⟩ := hg.pg
  exact ws_of (ps_asg pe_w pg hs hw h1) (h σ H N r W tk (fun C H' N' hC s r' => q C σ H' N' hC s r') _)
theorem sx_asg {t : Expr} {ok : Dat → Prop} {bd : Dat → Env' → Env'} (h : Ev X H0 ρ e d) (hg : Tgt X H0 t ok bd) (hk : ok d) (hρ : bd d ρ = ρ1 := by rfl) (hs : swapsWithSole [t] e pos.line X.env = pure false := by rfl) (hw : swappedStores [t] e X.env = pure none := by rfl)
    (h1 : (assignEach [t] X.env).map (·.2) = [assign t X.env] := by rfl) : ExS X H0 ρ (.Assign [t] e pos) (.nx ρ1) := fun D σ H N r q => by
  obtain ⟨g, pg, gg⟩ := hg.pg
  exact ws_of (ps_asg pe_w pg hs hw h1) ((h σ H N r).imp fun v H' ⟨N', s, n, r', a⟩ => gg ρ σ H' N' v d r' a hk _ fun σ2 H2 N2 n2 r2 => q σ2 H2 N2 (n.trans n2) (hρ ▸ r2))
/-- (a, b) = a pair -/
theorem tg_pair (i j : Nat) {y z : Str} {p1 p2 : Pos} {kk : Nat} (nd : X.N.Nodup) (hc : X.calm = true) (hi : X.N[i]? = some y := by rfl) (hj : X.N[j]? = some z := by rfl) (hx : Loc X.env.scope y := by first | exact Or.inl rfl | exact Or.inr rfl) (hx2 : Loc X.env.scope z := by first | exact Or.inl rfl | exact Or.inr rfl)
    (hf : X.fn y = true ∨ X.env.scope.names.lookup y = some .local := by first | exact .inl rfl | exact .inr rfl | assumption) (hf2 : X.fn z = true ∨ X.env.scope.names.lookup z = some .local := by first | exact .inl rfl | exact .inr rfl | assumption)
    (hn : (assignEach [Expr.Name y p1, .Name z p2] X.env).length = 2 := by rfl) (hst : (assignEach [Expr.Name y p1, .Name z p2] X.env).findIdx? (·.1) = none := by rfl)
    (h1 : (assignEach [Expr.Name y p1, .Name z p2] X.env).map (·.2) = assign (.Name y p1) X.env :: (assignEach [Expr.Name z p2] X.env).map (·.2) := by rfl) (h2 : (assignEach [Expr.Name z p2] X.env).map (·.2) = assign (.Name z p2) X.env :: (assignEach [] X.env).map (·.2) := by rfl) :
    Tgt X H0 (.Tuple [.Name y p1, .Name z p2] kk pos) (fun d => ∃ a b, d = .tup [a, b]) (fun d ρ => match d with | .tup [a, b] => (ρ.set i (.im a)).set j (.im b) | _ => ρ) := by
  refine ⟨_, pg_tup hc (pgs_cons (pg_name nd hi hx hf) (pgs_cons (pg_name nd hj hx2 hf2) pgs_nil h2) h1) hn hst, fun ρ σ H N v d r a ok Q k => ?_⟩
  obtain ⟨d1, d2, rfl⟩ := ok
  obtain ⟨p, vs, rfl, q1, q2⟩ := at_seq a
  cases q2 with
  | cons a1 t =>
    cases t with
    | cons a2 t2 =>
      cases t2
      exact ⟨p, _, rfl, sqt_same r.sub q1, rfl, _, _, rfl, _, _, rfl, rfl, k _ H N (Same.refl _) ((r.setE (e := .im d1) a1).setE (e := .im d2) a2)⟩
/-- a, b = x, y -/
theorem sx_par (i j : Nat) {y z : Str} {px py pt : Pos} {kt k2 pt2} (ha : Ev X H0 ρ a d1) (hb : Ev X H0 ρ b d2) (nd : X.N.Nodup) (hc : X.calm = true) (hij : i ≠ j) (hρ : (ρ.set i (.im d1)).set j (.im d2) = ρ1 := by rfl) (hi : X.N[i]? = some y := by rfl) (hj : X.N[j]? = some z := by rfl)
    (hx : X.env.scope.names.lookup y = some .local := by rfl) (hy : X.env.scope.names.lookup z = some .local := by rfl) (hw : swappedStores [.Tuple [.Name y px, .Name z py] kt pt] (.Tuple [a, b] k2 pt2) X.env = pure (some [y, z]) := by rfl)
    (hs : swapsWithSole [.Tuple [.Name y px, .Name z py] kt pt] (.Tuple [a, b] k2 pt2) pos.line X.env = pure false := by rfl) (h1 : starEach [a, b] X.env = (false, eval a X.env) :: starEach [b] X.env := by rfl) (h2 : starEach [b] X.env = (false, eval b X.env) :: starEach [] X.env := by rfl) :
    ExS X H0 ρ (.Assign [.Tuple [.Name y px, .Name z py] kt pt] (.Tuple [a, b] k2 pt2) pos) (.nx ρ1) := fun D σ H N r q =>
  ws_of (ps_par hc nd hi hj hij hx hy pa_w hw hs) ((ea_cons ha (ea_cons hb ea_nil (hs := h2)) (hs := h1) σ H N r).imp fun vs H' ⟨N', s, n, r', a⟩ => by
    cases a with
    | cons a1 t =>
      cases t with
      | cons a2 t2 =>
        cases t2
        exact ⟨_, _, rfl, q _ H' N' n (hρ ▸ (r'.setE (e := .im d1) a1).setE (e := .im d2) a2)⟩)

/-! ### calls of built-ins -/
theorem ev_blt {r : List V → Hp → VK → Prop} {id : String} (cr : CallR X (.builtin id) r) (hm : X.mg x = none) (hv : bootBuiltins x = some (.builtin id)) (ha : EvAB X H0 ρ (e :: es) ds)
    (hr : ∀ vs σ H N Q, Rep X.K H0 ρ σ H N → Ats X.K H vs ds → Goes X.K H0 ρ σ H N d Q → r vs H Q) (hg : Gl X x := by rfl) (hn : x ≠ "__name__" := by decide) (hdb : (x == ("__debug__" : Str)) = false := by decide)
    (he : starEach (e :: es) X.env = (false, eval e X.env) :: starEach es X.env := by rfl) (hpl : (backTo pos (starEach es X.env)).any (·.1) = false := by rfl) : Ev X H0 ρ (.Call (.Name x p) (e :: es) [] pos) d := fun σ H N rp =>
  we_of (pe_callB cr hg hm hv pa_w hn hdb he hpl) ((ha σ H N rp).imp fun vs H1 ⟨N1, s1, n1, r1, a1⟩ => hr vs σ H1 N1 _ r1 a1 fun v H' N' s n rr aa => ⟨N', s1.trans s, n1.trans n, rr, aa⟩)
theorem ev_ty {r : List V → Hp → VK → Prop} {T : String} (cr : CallR X (.type T) r) (hm : X.mg x = none) (hv : bootBuiltins x = some (.type T)) (ha : EvAB X H0 ρ (e :: es) ds)
    (hr : ∀ vs σ H N Q, Rep X.K H0 ρ σ H N → Ats X.K H vs ds → Goes X.K H0 ρ σ H N d Q → r vs H Q) (hg : Gl X x := by rfl) (hn : x ≠ "__name__" := by decide) (hdb : (x == ("__debug__" : Str)) = false := by decide)
    (he : starEach (e :: es) X.env = (false, eval e X.env) :: starEach es X.env := by rfl) (hpl : (backTo pos (starEach es X.env)).any (·.1) = false := by rfl) : Ev X H0 ρ (.Call (.Name x p) (e :: es) [] pos) d := fun σ H N rp =>
  we_of (pe_callTy cr hg hm hv pa_w hn hdb he hpl) ((ha σ H N rp).imp fun vs H1 ⟨N1, s1, n1, r1, a1⟩ => hr vs σ H1 N1 _ r1 a1 fun v H' N' s n rr aa => ⟨N', s1.trans s, n1.trans n, rr, aa⟩)
def dlen : Dat → Option Nat
  | .str z => if z.length ≤ sizeLine then some z.length else none
  | .tup ds => some ds.length
  | .lst ds => some ds.length
  | _ => none
theorem at_len {K : PySem.W.Frag} {H : Hp} {v : V} {m : Nat} (h : At K H v d) (e : dlen d = some m) : LenV K v H m := by
  cases h with
  | str z =>
    by_cases hz : z.length ≤ sizeLine
    · rw [show dlen (.str z) = some z.length from if_pos hz] at e
      cases e
      exact ⟨hz, rfl⟩
    · rw [show dlen (.str z) = none from if_neg hz] at e
      cases e
  | tup a b => cases e; exact .inr ⟨_, a, b.length.symm⟩
  | lst a b => cases e; exact .inl ⟨_, a, b.length.symm⟩
  | _ => cases e
section one
variable {hs : starEach [a] X.env = (false, eval a X.env) :: starEach [] X.env}
theorem eab1 (h : EvB X H0 ρ a d) (hs : starEach [a] X.env = (false, eval a X.env) :: starEach [] X.env) : EvAB X H0 ρ [a] [d] := eab_cons h eab_nil hs
end one
theorem ats_one {K : PySem.W.Frag} {H : Hp} {vs : List V} (h : Ats K H vs [d]) : ∃ v, vs = [v] ∧ At K H v d := by
  cases h with | cons a t => cases t; exact ⟨_, rfl, a⟩
theorem ats_two {K : PySem.W.Frag} {H : Hp} {vs : List V} (h : Ats K H vs [d1, d2]) : ∃ v w, vs = [v, w] ∧ At K H v d1 ∧ At K H w d2 := by
  cases h with | cons a t => cases t with | cons b t2 => cases t2; exact ⟨_, _, rfl, a, b⟩
theorem ev_len {m : Nat} (ha : EvB X H0 ρ a d) (e : dlen d = some m) (hm : X.mg "len" = none) (hg : Gl X "len" := by rfl) (he : starEach [a] X.env = (false, eval a X.env) :: starEach [] X.env := by rfl) (hpl : (backTo pos (starEach [] X.env)).any (·.1) = false := by rfl) : Ev X H0 ρ (.Call (.Name "len" p) [a] [] pos) (.int m) :=
  ev_blt call_len hm PySem.boot_len (eab1 ha he) (fun vs σ H N Q r q g => let ⟨v, e1, e2⟩ := ats_one q; ⟨v, m, e1, at_len e2 e, goes_self g r (.int _)⟩) hg (by decide) (by decide) he hpl
theorem abs_eq (i : Int) : (if i < 0 then -i else i) = ((i.natAbs : Nat) : Int) := by split <;> omega
theorem ev_abs {i : Int} (ha : Ev X H0 ρ a (.int i)) (hm : X.mg "abs" = none) (hg : Gl X "abs" := by rfl) (he : starEach [a] X.env = (false, eval a X.env) :: starEach [] X.env := by rfl) (hpl : (backTo pos (starEach [] X.env)).any (·.1) = false := by rfl) : Ev X H0 ρ (.Call (.Name "abs" p) [a] [] pos) (.int ((i.natAbs : Nat) : Int)) :=
  ev_blt call_abs hm (by decide +kernel) (eab1 ha.toB he) (fun vs σ H N Q r q g => ⟨i, ats1 q, by rw [abs_eq]; exact goes_self g r (.int _)⟩) hg (by decide) (by decide) he hpl
theorem ev_min2 {i j : Int} (ha : Ev X H0 ρ a (.int i)) (hb : Ev X H0 ρ b (.int j)) (hc : X.calm = true) (hm : X.mg "min" = none) (hg : Gl X "min" := by rfl) (he : starEach [a, b] X.env = (false, eval a X.env) :: starEach [b] X.env := by rfl) (he2 : starEach [b] X.env = (false, eval b X.env) :: starEach [] X.env := by rfl) (hpl : (backTo pos (starEach [b] X.env)).any (·.1) = false := by rfl) :
    Ev X H0 ρ (.Call (.Name "min" p) [a, b] [] pos) (.int (min i j)) := ev_blt (call_min2 hc) hm (by decide +kernel) (eab_cons ha.toB (eab_cons hb.toB eab_nil he2) he) (fun vs σ H N Q r q g => ⟨i, j, ats2 q, by rw [show (if j < i then j else i) = min i j by omega]; exact goes_self g r (.int _)⟩) hg (by decide) (by decide) he hpl
theorem ev_max2 {i j : Int} (ha : Ev X H0 ρ a (.int i)) (hb : Ev X H0 ρ b (.int j)) (hc : X.calm = true) (hm : X.mg "max" = none) (hg : Gl X "max" := by rfl) (he : starEach [a, b] X.env = (false, eval a X.env) :: starEach [b] X.env := by rfl) (he2 : starEach [b] X.env = (false, eval b X.env) :: starEach [] X.env := by rfl) (hpl : (backTo pos (starEach [b] X.env)).any (·.1) = false := by rfl) :
    Ev X H0 ρ (.Call (.Name "max" p) [a, b] [] pos) (.int (max i j)) := ev_blt (call_max2 hc) hm (by decide +kernel) (eab_cons ha.toB (eab_cons hb.toB eab_nil he2) he) (fun vs σ H N Q r q g => ⟨i, j, ats2 q, by rw [show (if j > i then j else i) = max i j by omega]; exact goes_self g r (.int _)⟩) hg (by decide) (by decide) he hpl
/-! isinstance -/
def tyName : Dat → String
  | .non => "NoneType" | .bl _ => "bool" | .int _ => "int" | .str _ => "str" | .tup _ => "tuple" | .lst _ => "list" | .dic _ => "dict"
theorem at_ty {K : PySem.W.Frag} {H : Hp} {v : V} (h : At K H v d) : TyX K H v (.type (tyName d)) := by
  cases h with
  | non => exact .base .non
  | bl b => exact .base (.bl b)
  | int b => exact .base (.int b)
  | str b => exact .base (.str b)
  | tup h _ =>
    rcases h with (h | ⟨o, h⟩) | ⟨o, its, n, h, hc, _⟩
    · exact .base (.tup h)
    · exact .fTuple h
    · exact .kTuple h hc
  | lst h _ =>
    rcases h with (h | ⟨o, h⟩) | ⟨o, its, n, h, hc, _⟩
    · exact .base (.lst h)
    · exact .base (.frz h)
    · exact .kList h hc
  | dic h _ =>
    rcases h with h | ⟨o, h⟩
    · exact .base (.dK h)
    · exact .fDict h
theorem ev_isi {T : String} {y : Str} {p2 : Pos} {k : Bool} (ha : EvB X H0 ρ a d) (e : kitB (tyName d) T = some k) (hm : X.mg "isinstance" = none) (hmT : X.mg y = none) (hv : bootBuiltins y = some (.type T) := by decide +kernel) (hg : Gl X "isinstance" := by rfl) (hgT : Gl X y := by rfl) (hn : y ≠ "__name__" := by decide) (hdb : (y == ("__debug__" : Str)) = false := by decide)
    (he : starEach [a, .Name y p2] X.env = (false, eval a X.env) :: starEach [.Name y p2] X.env := by rfl) (he2 : starEach [.Name y p2] X.env = (false, eval (.Name y p2) X.env) :: starEach [] X.env := by rfl) (hpl : (backTo pos (starEach [.Name y p2] X.env)).any (·.1) = false := by rfl) :
    Ev X H0 ρ (.Call (.Name "isinstance" p) [a, .Name y p2] [] pos) (.bl k) := fun σ H N r =>
  we_of (pe_callB call_isi hg hm (by decide +kernel) (pa_cons pe_w (pa_cons (pe_bltn (v := .ty T) hgT hmT hv rfl hn hdb) pa_nil he2) he) (by decide) (by decide) he hpl)
    ((ha σ H N r).imp fun v H1 ⟨N1, s1, n1, r1, a1⟩ => ⟨v, .ty T, .type (tyName d), .type T, k, rfl, .ty T, at_ty a1, kit_ty e, N1, s1, n1, r1, .bl _⟩)
end
end B

namespace PySem.W
open PySem PySem.Spec PySem.Calls PyProof.Rows
end PySem.W
namespace B
open PySem PySem.Spec PyProof.Rows L2

/-! ### own exceptions: classes over ValueError, no __init__, made with a text -/
structure ExcAt (K : PySem.W.Frag) (mg : Str → Option Value) (n : Str) (C : Addr) : Prop where
  g : mg n = some (.ref C)
  x : PySem.W.excIn K C [.type "ValueError", .type "Exception", .type "BaseException", .type "object"] "ValueError.__new__" = true
  k : PySem.W.keepIn K (.ref C) = true
  b : PySem.W.subIn K (.ref C) (.type "BaseException") = some true
  t : PySem.W.typeIn K (.ref C) = some (.type "type")
def Exc (K : PySem.W.Frag) (mg : Str → Option Value) (n : Str) : Prop := ∃ C, ExcAt K mg n C
section
variable {X : Cx} {H0 : Hp} {ρ ρ1 ρ2 : Env'} {a b c e : Expr} {es : List Expr} {st : Stmt} {sts rest : List Stmt} {d d1 d2 : Dat} {ds : List Dat} {p pos : Pos} {o o1 : Outc} {x n : Str}
theorem sx_raise {m : Str} {j : Nat} {p p2 pos pos2 : Pos} (T : Exc X.K X.mg n) (hc : X.calm = true) (hg : Gl X n := by rfl) (hdb : (n == ("__debug__" : Str)) = false := by decide) : ExS X H0 ρ (.Raise (some (.Call (.Name n p) [.Constant (.str m) j p2] [] pos)) none pos2) (.ex n ρ) := fun D σ H N r ⟨W, tk, q⟩ => by
  obtain ⟨C, T⟩ := T
  exact ws_of (ps_raise hc tk (pmk_own PySem.F.excBase_ValueError T.x T.g T.k (raises_own T.b T.t) hg hdb)) (q C σ H N T.g (Same.refl _) r)
/-- the name of an except clause goes -/
theorem Rep.unset {K : PySem.W.Frag} {H0 H N : Hp} {ρ : Env'} {σ : L2.St} (r : Rep K H0 ρ σ H N) (i : Nat) : Rep K H0 (ρ.set i .no) (σ.set i none) H N := by
  have g : ∀ (j : Nat) (v : V), j ≠ i → σ[j]? = some (some v) → (σ.set i none)[j]? = some (some v) := fun j v n h => by rw [List.getElem?_set_ne (Ne.symm n)]; exact h
  have g' : ∀ (j : Nat) (v : V), (σ.set i none)[j]? = some (some v) → σ[j]? = some (some v) := fun j v h => by
    rcases get_set h with ⟨_, h'⟩ | ⟨_, h'⟩
    · cases h'
    · exact h'
  refine ⟨r.old, r.sub, r.imm, r.fresh, by rw [List.length_set, List.length_set, r.len], fun j d q => ?_, fun j d q => ?_, fun j d q => ?_, fun j d q => ?_, fun j k d d' p ne q1 q2 z1 z2 => ?_⟩
  · rcases get_set q with ⟨_, q'⟩ | ⟨n, q'⟩
    · cases q'
    · obtain ⟨v, h1, h2⟩ := r.im j d q'
      exact ⟨v, g j v n h1, h2⟩
  · rcases get_set q with ⟨_, q'⟩ | ⟨n, q'⟩
    · cases q'
    · obtain ⟨v, h1, h2⟩ := r.ol j d q'
      exact ⟨v, g j v n h1, h2⟩
  · rcases get_set q with ⟨_, q'⟩ | ⟨n, q'⟩
    · cases q'
    · obtain ⟨v, h1, h2⟩ := r.ow j d q'
      exact ⟨v, g j _ n h1, h2⟩
  · rcases get_set q with ⟨_, q'⟩ | ⟨n, q'⟩
    · cases q'
    · exact g j _ n (r.rf j d q')
  · rcases get_set q1 with ⟨_, q1'⟩ | ⟨n1, q1'⟩
    · cases q1'
    · rcases get_set q2 with ⟨_, q2'⟩ | ⟨n2, q2'⟩
      · cases q2'
      · exact r.apart j k d d' p ne q1' q2' (g' j _ z1) (g' k _ z2)
/-- behind the suite of «except .. as n» -/
def Outc.un (i : Nat) : Outc → Outc
  | .nx ρ => .nx (ρ.set i .no)
  | .rt d => .rt d
  | .ex n ρ => .ex n ρ
  | .bk ρ => .bk (ρ.set i .no)
  | .ct ρ => .ct (ρ.set i .no)
  | .ro d => .ro d
def Outc.noex : Outc → Prop
  | .ex _ _ => False
  | _ => True
/-- try: body, that raises m; except x as n: suite -/
theorem sx_try {m : Str} {i : Nat} {c : Value} {body suite : List Stmt} {b₀ : Stmt} {np pos pos' : Pos} (hs : X.stack = X.env :: X.outer) (hf : X.env.frame = some X.env.locals) (nd : X.N.Nodup) (hc : Names X x c) (he : ∀ C, X.mg m = some (.ref C) → PySem.W.exmOne X.K (.ref C) c = some true)
    (hb : ∀ (pn : List (Addr × Obj)) (xe : Value → Shared → Prop), PassesOwn (model X.prog X.w) X.A X.env xe → Exec (X.tr pn xe) H0 ρ body (.ex m ρ1))
    (hsu : ∀ (a C : Addr) (oe : Obj) (pn : List (Addr × Obj)), X.mg m = some (.ref C) → Zc (.ref C) none oe → (∃ vs, oe.data = .fields vs) → Exec (X.suite a ((a, oe) :: pn)) H0 (ρ1.set i (.rf a)) (b₀ :: suite) o)
    (ho : o.noex) (hi : X.N[i]? = some n := by rfl) (hln : X.env.kindOf n = some .local := by rfl) :
    ExS X H0 ρ (.Try body [.ExceptHandler (some (.Name x np)) (some n) (b₀ :: suite) pos'] [] [] pos) (o.un i) := fun D σ H N r k => by
  refine ws_of (ps_try_as (i := i) (c := c) (tb := fun W D σ H => ∀ pn xe, Takes (X.tr pn xe) W → PassesOwn (model X.prog X.w) X.A X.env xe → WB (X.tr pn xe) body D σ H)
    (ts := fun a cls d D σ H => ∀ oe pn, Zc cls d oe → (∃ vs, oe.data = .fields vs) → WB (X.suite a ((a, oe) :: pn)) (b₀ :: suite) D σ H) (Wout := fun _ _ _ _ => False) hs hf nd hi hln hc takes0 (fun W pn xe tk hp => ⟨fun pins s σ H D I h => h pn xe tk hp pins s I⟩) (fun a oe cls d pn hz hd => ⟨fun pins s σ H D I h => h oe pn hz hd pins s I⟩)) ?_
  intro pn xe tk hp
  refine hb pn xe hp _ σ H N r ⟨_, tk, fun C σ1 H1 N1 hC n1 r1 => ⟨true, he C hC, fun _ a ha oe pn' hz hd => ?_, fun z => nomatch z⟩⟩
  refine hsu a C oe pn' hC hz hd _ _ H1 N1 (r1.setE (v := .ref a) (e := .rf a) rfl) ?_
  cases o with
  | nx ρ2 => exact fun σ2 H2 N2 n2 r2 => k _ H2 N2 (n1.trans n2) (r2.unset i)
  | rt d => exact k
  | ex n ρ2 => exact ho.elim
  | bk ρ2 => exact fun σ2 H2 N2 n2 r2 => k _ H2 N2 (n1.trans n2) (r2.unset i)
  | ct ρ2 => exact fun σ2 H2 N2 n2 r2 => k _ H2 N2 (n1.trans n2) (r2.unset i)
  | ro d => exact k
/-- .. that raises nothing -/
theorem sx_tryN {i : Nat} {c : Value} {body suite : List Stmt} {b₀ : Stmt} {np pos pos' : Pos} (hs : X.stack = X.env :: X.outer) (hf : X.env.frame = some X.env.locals) (nd : X.N.Nodup) (hc : Names X x c)
    (hb : ∀ (pn : List (Addr × Obj)) (xe : Value → Shared → Prop), PassesOwn (model X.prog X.w) X.A X.env xe → Exec (X.tr pn xe) H0 ρ body o)
    (hsu : ∀ (a : Addr) (oe : Obj) (cls : Value) (d : Option Addr) (pn : List (Addr × Obj)), PSs (X.suite a ((a, oe) :: pn)) (b₀ :: suite) (WB (X.suite a ((a, oe) :: pn)) (b₀ :: suite)) := fun _ _ _ _ _ => pb_w)
    (ho : o.noex) (hi : X.N[i]? = some n := by rfl) (hln : X.env.kindOf n = some .local := by rfl) :
    ExS X H0 ρ (.Try body [.ExceptHandler (some (.Name x np)) (some n) (b₀ :: suite) pos'] [] [] pos) o := fun D σ H N r k => by
  refine ws_of (ps_try_as (i := i) (c := c) (tb := fun W D σ H => ∀ pn xe, Takes (X.tr pn xe) W → PassesOwn (model X.prog X.w) X.A X.env xe → WB (X.tr pn xe) body D σ H)
    (ts := fun a cls d D σ H => ∀ oe pn, Zc cls d oe → (∃ vs, oe.data = .fields vs) → WB (X.suite a ((a, oe) :: pn)) (b₀ :: suite) D σ H) (Wout := fun _ _ _ _ => False) hs hf nd hi hln hc takes0 (fun W pn xe tk hp => ⟨fun pins s σ H D I h => h pn xe tk hp pins s I⟩) (fun a oe cls d pn hz hd => ⟨fun pins s σ H D I h => h oe pn hz hd pins s I⟩)) ?_
  intro pn xe tk hp
  refine hb pn xe hp D σ H N r ?_
  cases o with
  | ex n ρ2 => exact ho.elim
  | nx ρ2 => exact k
  | rt d => exact k
  | bk ρ2 => exact k
  | ct ρ2 => exact k
  | ro d => exact k

/-! ### isinstance of the caught error -/
theorem call_isET {X : Cx} {a D : Addr} {oe : Obj} {pn : List (Addr × Obj)} (C : ExcC X.K D) (hz : Zc (.ref D) none oe) (hf : ∃ vs, oe.data = .fields vs) : CallR (X.suite a ((a, oe) :: pn)) (.builtin "isinstance")
    (fun xs H Q => ∃ (tp : Addr) (cs : List V) (us : List Value) (b : Bool), xs = [.ref a, .ref tp] ∧ H tp = some (.tup cs) ∧ Paired ClsV cs us ∧ PySem.W.kitAny X.K (.ref D) us = some b ∧ Q (.bl b) H) := by
  intro pins s σ H xs us Q I r h
  obtain ⟨tp, cs, ws, b, rfl, hT, k, e, q⟩ := h
  obtain ⟨u1, u2, rfl, r1, r2⟩ := vals2 r
  cases (show u1 = Value.ref a from r1)
  cases (show u2 = Value.ref tp from r2)
  obtain ⟨hget, _⟩ := I.pin (a, oe) (List.mem_append.mpr (.inl List.mem_cons_self))
  obtain ⟨vs, hv⟩ := hf
  have J : PySem.W.InstAt s.heap a oe D none := by
    obtain ⟨oc, od, oda, osl⟩ := oe
    obtain ⟨h1, h2⟩ := hz
    dsimp only at h1 h2 hv
    subst h1 h2 hv
    exact ⟨hget, rfl, rfl, trivial⟩
  obtain ⟨_, its, rv, o, h1, h2, n, h3⟩ := (show ObjOk X.prog X.w H s.heap tp (.tup cs) from I.hok tp _ hT)
  have e3 := ClsV.all k rv
  subst e3
  obtain ⟨oc, od, dt, sl⟩ := o
  simp only at h2 h3
  subst h2 h3
  exact PySem.W.kia_tup (PySem.W.handS_kitx_exc C.hg C.hk C.hs C.hd C.ha C.hn C.ht C.hm) I.kIn J h1 e (fun z => nomatch z) fun tk => ⟨.bl b, H, I.kept (t' := tk) fun _ _ z => z, rfl, q⟩
/-- a class of the text, or a built-in one, by its name -/
structure ClsN (X : Cx) (y : Str) (c : V) (u : Value) : Prop where
  v : ClsV c u
  g : Gl X y
  d : (y == ("__debug__" : Str)) = false
  m : X.mg y = some u ∨ (X.mg y = none ∧ bootBuiltins y = some u ∧ y ≠ "__name__")
theorem pe_cls {y : Str} {c : V} {u : Value} (h : ClsN X y c u) : PE X (.Name y pos) (tC c) := by
  have r : RelV c u := by
    obtain ⟨v, _, _, _⟩ := h
    cases v <;> rfl
  rcases h.m with m | ⟨m, b, n⟩
  · exact pe_glob h.g m r h.d
  · exact pe_bltn h.g m b r n h.d
theorem ev_isE {a D : Addr} {oe : Obj} {pn : List (Addr × Obj)} {y ee : Str} {p1 p2 : Pos} {k : Bool} {c : V} {u : Value} (i : Nat) (C : ExcC X.K D) (hz : Zc (.ref D) none oe) (hf : ∃ vs, oe.data = .fields vs) (hρ : ρ[i]? = some (.rf a)) (N : ClsN X y c u) (e : PySem.W.kitOne X.K (.ref D) u = some k)
    (hm : X.mg "isinstance" = none) (hN : X.N[i]? = some ee := by rfl) (hv : Vis X.env.scope ee := by first | exact Or.inl rfl | exact Or.inr (Or.inl rfl) | exact Or.inr (Or.inr rfl)) (hg : Gl X "isinstance" := by rfl) (hd : (ee == ("__debug__" : Str)) = false := by decide) (hcd : (ee == ("__classdict__" : Str)) = false := by decide)
    (he : starEach [.Name ee p1, .Name y p2] X.env = (false, eval (.Name ee p1) X.env) :: starEach [.Name y p2] X.env := by rfl) (he2 : starEach [.Name y p2] X.env = (false, eval (.Name y p2) X.env) :: starEach [] X.env := by rfl) (hpl : (backTo pos (starEach [.Name y p2] X.env)).any (·.1) = false := by rfl) :
    Ev (X.suite a ((a, oe) :: pn)) H0 ρ (.Call (.Name "isinstance" p) [.Name ee p1, .Name y p2] [] pos) (.bl k) := fun σ H N' r => by
  have N2 : ClsN (X.suite a ((a, oe) :: pn)) y c u := ⟨N.v, N.g, N.d, N.m⟩
  refine we_of (pe_callB (X := X.suite a ((a, oe) :: pn)) (call_isE C hz hf) hg hm (by decide +kernel) (pa_cons (pv (X := X.suite a ((a, oe) :: pn)) i hN hv hd hcd) (pa_cons (pe_cls N2) pa_nil he2) he) (by decide) (by decide) he hpl) ?_
  exact ⟨_, r.rf i a hρ, c, u, k, rfl, fun w q => N.v.eq q, e, N', Same.refl _, Same.refl _, r, .bl k⟩
/-- a row of classes -/
inductive ClsNs (X : Cx) : List Expr → List V → List Value → Prop where
  | nil : ClsNs X [] [] []
  | cons {y : Str} {c : V} {u : Value} {pp : Pos} {es : List Expr} {cs : List V} {us : List Value} : ClsN X y c u → ClsNs X es cs us → ClsNs X (.Name y pp :: es) (c :: cs) (u :: us)
theorem ClsNs.paired : ∀ {es : List Expr} {cs : List V} {us : List Value}, ClsNs X es cs us → Paired ClsV cs us
  | _, _, _, .nil => .nil
  | _, _, _, .cons h t => .cons h.v (ClsNs.paired t)
theorem ClsNs.len : ∀ {es : List Expr} {cs : List V} {us : List Value}, ClsNs X es cs us → cs.length = es.length
  | _, _, _, .nil => rfl
  | _, _, _, .cons h t => congrArg (· + 1) (ClsNs.len t)
/-- star-free rows of names -/
theorem wa_cls : ∀ {es : List Expr} {cs : List V} {us : List Value}, ClsNs X es cs us → (∀ y pp r, starEach (Expr.Name y pp :: r) X.env = (false, eval (Expr.Name y pp) X.env) :: starEach r X.env) → ∀ σ H Q, Q cs H → WA X es σ H Q
  | _, _, _, .nil, _, σ, H, Q, q => wa_of pa_nil q
  | _, _, _, .cons h t, hs, σ, H, Q, q => wa_of (pa_cons (pe_cls h) pa_w (hs _ _ _)) (wa_cls t hs σ H _ q)
theorem ev_isET {a D : Addr} {oe : Obj} {pn : List (Addr × Obj)} {ee : Str} {p1 p2 : Pos} {kk : Nat} {k : Bool} {cs : List V} {us : List Value} (i : Nat) (C : ExcC X.K D) (hz : Zc (.ref D) none oe) (hf : ∃ vs, oe.data = .fields vs) (hρ : ρ[i]? = some (.rf a)) (T : ClsNs (X.suite a ((a, oe) :: pn)) es cs us) (e : PySem.W.kitAny X.K (.ref D) us = some k)
    (hm : X.mg "isinstance" = none) (hl : es.length ≤ sizeLine) (hst : ∀ y pp r, starEach (Expr.Name y pp :: r) X.env = (false, eval (Expr.Name y pp) X.env) :: starEach r X.env := by intro _ _ _; rfl) (hN : X.N[i]? = some ee := by rfl) (hv : Vis X.env.scope ee := by first | exact Or.inl rfl | exact Or.inr (Or.inl rfl) | exact Or.inr (Or.inr rfl)) (hg : Gl X "isinstance" := by rfl)
    (hd : (ee == ("__debug__" : Str)) = false := by decide) (hcd : (ee == ("__classdict__" : Str)) = false := by decide)
    (he : starEach [.Name ee p1, .Tuple es kk p2] X.env = (false, eval (.Name ee p1) X.env) :: starEach [.Tuple es kk p2] X.env := by rfl) (he2 : starEach [.Tuple es kk p2] X.env = (false, eval (.Tuple es kk p2) X.env) :: starEach [] X.env := by rfl) (hpl : (backTo pos (starEach [.Tuple es kk p2] X.env)).any (·.1) = false := by rfl) :
    Ev (X.suite a ((a, oe) :: pn)) H0 ρ (.Call (.Name "isinstance" p) [.Name ee p1, .Tuple es kk p2] [] pos) (.bl k) := fun σ H N' r => by
  refine we_of (pe_callB (X := X.suite a ((a, oe) :: pn)) (call_isET C hz hf) hg hm (by decide +kernel) (pa_cons (pv (X := X.suite a ((a, oe) :: pn)) i hN hv hd hcd) (pa_cons (pe_tup pa_w) pa_nil he2) he) (by decide) (by decide) he hpl) ?_
  refine ⟨_, r.rf i a hρ, wa_cls T hst σ H _ ⟨by rw [T.len]; exact hl, fun tp hp => ?_⟩⟩
  have r2 := r.grow (Same.of_none (o := .tup cs) hp)
  exact ⟨tp, cs, us, k, rfl, upd_same, T.paired, e, N', Same.of_none hp, Same.refl _, r2, .bl k⟩

/-! ### lists of one's own -/
theorem pa1 {t : TE} (h : PE X e t) (he : starEach [e] X.env = (false, eval e X.env) :: starEach [] X.env := by rfl) : PA X [e] (tCons t tNil) := pa_cons h pa_nil he
theorem sx_append (i : Nat) {y : Str} {p1 p2 p3 : Pos} (hi : ρ[i]? = some (.ow (.lst ds))) (h : Ev X H0 ρ e d) (hz : ds.length < sizeLine) (hρ : ρ.set i (.ow (.lst (ds ++ [d]))) = ρ1 := by rfl) (hN : X.N[i]? = some y := by rfl) (hv : Vis X.env.scope y := by first | exact Or.inl rfl | exact Or.inr (Or.inl rfl) | exact Or.inr (Or.inr rfl))
    (hd : (y == ("__debug__" : Str)) = false := by decide) (hcd : (y == ("__classdict__" : Str)) = false := by decide)
    (hpe : ∀ to t, PE X (.Name y p1) to → PA X [e] t → PE X (.Call (.Attribute (.Name y p1) "append" p2) [e] [] p3) (tBM X.K "list" rAppend to t) := by exact fun _ _ h g => pe_bm PySem.F.plainAttrs_list PySem.F.slot_list_append PySem.F.type_list_append mt_append h g)
    (he : starEach [e] X.env = (false, eval e X.env) :: starEach [] X.env := by rfl) (hs : swapsWith (.Call (.Attribute (.Name y p1) "append" p2) [e] [] p3) none pos.line X.env = pure false := by rfl) :
    ExS X H0 ρ (.Expr (.Call (.Attribute (.Name y p1) "append" p2) [e] [] p3) pos) (.nx ρ1) := fun D σ H N r k => by
  obtain ⟨q, g1, g2, g3, vs, g4, g5⟩ := r.ow i _ hi
  refine ws_of (ps_expr (hpe _ _ (pv i hN hv hd hcd) (pa_cons pe_w pa_nil he)) hs) ⟨_, g1, .inl ⟨rfl, _, .inl (.inl g4)⟩, (h σ H N r).imp fun v H1 ⟨N1, s1, n1, r1, a1⟩ => ?_⟩
  obtain ⟨q', f1, f2, f3, us, f4, f5⟩ := r1.ow i _ hi
  rw [g1] at f1
  cases f1
  refine ⟨q, us, v, rfl, rfl, f4, by rw [f5.length]; exact hz, k σ _ N1 n1 ?_⟩
  exact hρ ▸ r1.write hi g1 ⟨us ++ [v], upd_same, f5.append (.cons a1 .nil)⟩

/-! ### == of data -/
mutual
def pd : Dat → PyData
  | .non => .none
  | .bl b => .bool b
  | .int i => .int i
  | .str s => .str s
  | .tup ds => .tuple (pds ds)
  | .lst ds => .list (pds ds)
  | .dic _ => .dict []
def pds : List Dat → List PyData
  | [] => []
  | d :: r => pd d :: pds r
end
mutual
/-- no dict in it -/
def nodic : Dat → Bool
  | .tup ds => nodics ds
  | .lst ds => nodics ds
  | .dic _ => false
  | .non => true
  | .bl _ => true
  | .int _ => true
  | .str _ => true
def nodics : List Dat → Bool
  | [] => true
  | d :: r => nodic d && nodics r
end
mutual
theorem At.dp {K : PySem.W.Frag} {H : Hp} : ∀ {v : V} {d : Dat}, At K H v d → nodic d = true → Dp K H v (pd d)
  | _, _, .non, _ => .non
  | _, _, .bl b, _ => .bl b
  | _, _, .int i, _ => .int i
  | _, _, .str s, _ => .str s
  | _, _, .tup h t, f => .tup h (Ats.dp t (by simpa only [nodic] using f))
  | _, _, .lst h t, f => .lst h (Ats.dp t (by simpa only [nodic] using f))
  | _, _, .dic _ _, f => by simp [nodic] at f
theorem Ats.dp {K : PySem.W.Frag} {H : Hp} : ∀ {vs : List V} {ds : List Dat}, Ats K H vs ds → nodics ds = true → DpAll K H vs (pds ds)
  | _, _, .nil, _ => .nil
  | _, _, .cons a t, f => by
    simp only [nodics, Bool.and_eq_true] at f
    exact .cons (At.dp a f.1) (Ats.dp t f.2)
end
def okD (d : Dat) : Bool := nodic d && SeqAt.shaped (pd d)
theorem okD_1 {d : Dat} (h : okD d = true) : nodic d = true := (Bool.and_eq_true_iff.mp h).1
theorem okD_2 {d : Dat} (h : okD d = true) : SeqAt.shaped (pd d) = true := (Bool.and_eq_true_iff.mp h).2
theorem ev_eqD (ha : EvB X H0 ρ a d1) (hb : EvB X H0 ρ b d2) (hu : X.A.units + 64 < cLine) (h1 : okD d1 = true) (h2 : okD d2 = true) : Ev X H0 ρ (.Compare a [.Eq] [b] pos) (.bl (PyData.eqv (pd d1) (pd d2))) :=
  ev_bin (fun _ _ h k => pe_cmpR (op_eqD hu) h k (nomark _)) ha hb fun x y σ H N Q r p q g => ⟨_, _, p.dp (okD_1 h1), q.dp (okD_1 h2), okD_2 h1, okD_2 h2, goes_self g r (.bl _)⟩
theorem ev_neD (ha : EvB X H0 ρ a d1) (hb : EvB X H0 ρ b d2) (hu : X.A.units + 64 < cLine) (h1 : okD d1 = true) (h2 : okD d2 = true) : Ev X H0 ρ (.Compare a [.NotEq] [b] pos) (.bl (!PyData.eqv (pd d1) (pd d2))) :=
  ev_bin (fun _ _ h k => pe_cmpR (op_neD hu) h k (nomark _)) ha hb fun x y σ H N Q r p q g => ⟨_, _, p.dp (okD_1 h1), q.dp (okD_1 h2), okD_2 h1, okD_2 h2, goes_self g r (.bl _)⟩
theorem et_eqD (ha : EvB X H0 ρ a d1) (hb : EvB X H0 ρ b d2) (hu : X.A.units + 64 < cLine) (h1 : okD d1 = true) (h2 : okD d2 = true) : EvT X H0 ρ (.Compare a [.Eq] [b] pos) (PyData.eqv (pd d1) (pd d2)) :=
  evt_bin (fun _ _ h k => pt_cmpR (op_eqD hu) h k (nomark _)) ha hb fun x y σ H N Q r p q g => ⟨_, _, p.dp (okD_1 h1), q.dp (okD_1 h2), okD_2 h1, okD_2 h2, goes_self g r (.bl _)⟩
theorem et_neD (ha : EvB X H0 ρ a d1) (hb : EvB X H0 ρ b d2) (hu : X.A.units + 64 < cLine) (h1 : okD d1 = true) (h2 : okD d2 = true) : EvT X H0 ρ (.Compare a [.NotEq] [b] pos) (!PyData.eqv (pd d1) (pd d2)) :=
  evt_bin (fun _ _ h k => pt_cmpR (op_neD hu) h k (nomark _)) ha hb fun x y σ H N Q r p q g => ⟨_, _, p.dp (okD_1 h1), q.dp (okD_1 h2), okD_2 h1, okD_2 h2, goes_self g r (.bl _)⟩

end
/-! ### list comprehensions -/
section
variable {K : PySem.W.Frag} {H0 H0' H H' N N' : Hp} {ρ : Env'} {σ : L2.St} {D : Addr} {acc : List V}
/-- the list at D, that no name holds, is taken for old -/
theorem Rep.toOld (r : Rep K H0 ρ σ H N) (h0 : H0 D = none) (hD : H D = some (.lst acc)) (hN : N D = none) (hp : ∀ (i : Nat) d, ρ[i]? = some (Ent.ow d) → σ[i]? ≠ some (some (V.ref D))) : Rep K (upd H0 D (.lst acc)) ρ σ H N where
  old := fun a o h => by
    by_cases ha : a = D
    · subst ha; rw [upd_same] at h; rw [hD]; exact h
    · rw [upd_ne ha] at h; exact r.old a o h
  sub := r.sub
  imm := fun a o h => by
    by_cases ha : a = D
    · subst ha
      have h1 := imm_sub _ _ _ h
      rw [upd_same] at h1
      cases h1
      exact (imm_not h True.intro).elim
    · have h1 := imm_sub _ _ _ h
      rw [upd_ne ha] at h1
      exact r.imm a o (imm_of h1 (imm_not h))
  fresh := fun a o h m => by
    by_cases ha : a = D
    · subst ha; rw [hN] at h; cases h
    · rw [upd_ne ha]; exact r.fresh a o h m
  len := r.len
  im := r.im
  ol := fun i d h => by
    obtain ⟨v, h1, h2⟩ := r.ol i d h
    exact ⟨v, h1, h2.mono (Same.of_none h0)⟩
  ow := fun i d h => by
    obtain ⟨p, h1, h2, h3⟩ := r.ow i d h
    exact ⟨p, h1, by rw [upd_ne (fun e => hp i d h (by rw [← e]; exact h1))]; exact h2, h3⟩
  rf := r.rf
  apart := r.apart
theorem Rep.back0 (r : Rep K H0 ρ σ H N) (s : Same H0 H0') (r' : Rep K H0' ρ σ H' N') : Rep K H0 ρ σ H' N' where
  old := s.trans r'.old
  sub := r'.sub
  imm := (imm_same s).trans r'.imm
  fresh := fun a o h m => s.free (r'.fresh a o h m)
  len := r.len
  im := r'.im
  ol := r.ol
  ow := fun i d h => by
    obtain ⟨p, h1, h2, h3⟩ := r'.ow i d h
    exact ⟨p, h1, s.free h2, h3⟩
  rf := r.rf
  apart := r.apart
theorem Rep.back {i : Nat} {x : V} {e : Ent} (r : Rep K H0 ρ σ H N) (hx : ρ[i]? = some .no) (s : Same H0 H0') (r' : Rep K H0' (ρ.set i e) (σ.set i (some x)) H' N') : Rep K H0 ρ σ H' N' := by
  have ne : ∀ {j : Nat} {t : Ent}, ρ[j]? = some t → t ≠ .no → i ≠ j := fun {j t} h n z => by
    subst z
    rw [hx] at h
    cases h
    exact n rfl
  refine ⟨s.trans r'.old, r'.sub, (imm_same s).trans r'.imm, fun a o h m => s.free (r'.fresh a o h m), r.len, fun j d h => ?_, r.ol, fun j d h => ?_, r.rf, r.apart⟩
  · have n := ne h (fun z => nomatch z)
    obtain ⟨v, h1, h2⟩ := r'.im j d (by rw [List.getElem?_set_ne n]; exact h)
    rw [List.getElem?_set_ne n] at h1
    exact ⟨v, h1, h2⟩
  · have n := ne h (fun z => nomatch z)
    obtain ⟨p, h1, h2, h3⟩ := r'.ow j d (by rw [List.getElem?_set_ne n]; exact h)
    rw [List.getElem?_set_ne n] at h1
    exact ⟨p, h1, s.free h2, h3⟩
theorem Rep.updD {o : HO} (r : Rep K H0 ρ σ H N) (h0 : H0 D = none) (hN : N D = none) (hp : ∀ (i : Nat) d, ρ[i]? = some (Ent.ow d) → σ[i]? ≠ some (some (V.ref D))) : Rep K H0 ρ σ (upd H D o) N where
  old := fun a u h => by rw [upd_ne (ne_of_none h h0)]; exact r.old a u h
  sub := fun a u h => by rw [upd_ne (ne_of_none h hN)]; exact r.sub a u h
  imm := r.imm
  fresh := r.fresh
  len := r.len
  im := r.im
  ol := r.ol
  ow := fun i d h => by
    obtain ⟨p, h1, h2, h3, h4⟩ := r.ow i d h
    have n : p ≠ D := fun e => hp i d h (e ▸ h1)
    refine ⟨p, h1, h2, h3, ?_⟩
    cases d with
    | lst ds => obtain ⟨vs, q1, q2⟩ := h4; exact ⟨vs, by rw [upd_ne n]; exact q1, q2⟩
    | dic ds => obtain ⟨vs, q1, q2⟩ := h4; exact ⟨vs, by rw [upd_ne n]; exact q1, q2⟩
    | _ => exact h4
  rf := r.rf
  apart := r.apart
/-- what stands at D is nobody's data -/
theorem Rep.notD {ρ' : Env'} {σ' : L2.St} (r : Rep K (upd H0 D (.lst acc)) ρ' σ' H N) : N D = none := by
  cases e : N D with
  | none => rfl
  | some o =>
    have h1 := r.sub _ _ e
    have h2 := r.old D (.lst acc) upd_same
    rw [h1] at h2
    cases h2
    have := r.fresh _ _ e True.intro
    rw [upd_same] at this
    cases this
end
section
variable {X : Cx} {H0 : Hp} {ρ ρ1 ρ2 : Env'} {a b c e : Expr} {es : List Expr} {st : Stmt} {sts rest : List Stmt} {d d1 d2 : Dat} {ds : List Dat} {p pos : Pos} {o o1 : Outc} {x n : Str}
/-- what a comprehension makes of its items: the test of each, the element -/
theorem eo_comp {elt tg iter : Expr} {ifs : List Expr} {scope : Scope} {xn : Str} (i : Nat) {pos : Pos} (hc : X.calm = true) (nd : X.N.Nodup) (hi : Iter X H0 ρ tg iter ds) (ok : blkC X.N X.env.scope scope [(xn, i)] = true) (hx : ρ[i]? = some .no) (f : Dat → Bool) (g : Dat → Dat)
    (htg : ∀ (s : Shared) (H : Hp) (C : Addr) (cl : List (Str × Addr)) (fp : List Addr), PG (X.blk s H scope (compEnvC scope cl C X.env) fp) tg (gName i))
    (hif : (ifs = [] ∧ ∀ d ∈ ds, f d = true) ∨ ∃ c, ifs = [c] ∧ ∀ (H0' : Hp) (s : Shared) (H : Hp) (C : Addr) (cl : List (Str × Addr)) (fp : List Addr), Same H0 H0' → ∀ d ∈ ds, EvT (X.blk s H scope (compEnvC scope cl C X.env) fp) H0' (ρ.set i (.im d)) c (f d))
    (hel : ∀ (H0' : Hp) (s : Shared) (H : Hp) (C : Addr) (cl : List (Str × Addr)) (fp : List Addr), Same H0 H0' → ∀ d ∈ ds, f d = true → Ev (X.blk s H scope (compEnvC scope cl C X.env) fp) H0' (ρ.set i (.im d)) elt (g d))
    (hz : ds.length < sizeLine) (hs : ∀ x, foldedSetIterable iter X.env x = pure x := by intro _; rfl) : EvO X H0 ρ (.ListComp elt [⟨tg, iter, ifs, 0⟩] scope pos) (.lst ((ds.filter f).map g)) := fun σ H N r => by
  obtain ⟨wi, pi, hw⟩ := hi
  have pts : ∀ (s : Shared) (H : Hp) (C : Addr) (cl : List (Str × Addr)) (fp : List Addr), PTs (X.blk s H scope (compEnvC scope cl C X.env) fp) ifs
      (fun σ H Q => (ifs = [] ∧ Q true H) ∨ ∃ c, ifs = [c] ∧ ∀ s H' C cl fp, WT (X.blk s H' scope (compEnvC scope cl C X.env) fp) c σ H Q) := fun s H C cl fp => ⟨fun pins s' σ H Q I h => by
    rcases h with ⟨rfl, h⟩ | ⟨c, rfl, h⟩
    · exact pts_nil.run pins s' σ H Q I h
    · exact (pts_one pt_w).run pins s' σ H Q I (h _ _ _ _ _)⟩
  have pes : ∀ (s : Shared) (H : Hp) (C : Addr) (cl : List (Str × Addr)) (fp : List Addr), PE (X.blk s H scope (compEnvC scope cl C X.env) fp) elt
      (fun σ H Q => ∀ s H' C cl fp, WE (X.blk s H' scope (compEnvC scope cl C X.env) fp) elt σ H Q) := fun s H C cl fp => ⟨fun pins s' σ H Q I h => h _ _ _ _ _ pins s' I⟩
  refine we_of (pe_lc hc nd pi (blkOk_by ok) htg pts pes hs) (hw σ H N r _ fun J H1 N1 n1 s1 r1 w => fun D hD => ?_)
  have hiσ : i < σ.length := by rw [← r.len]; exact lt_of_get hx
  refine ⟨fun j m H' => m = ds.length - j ∧ j ≤ ds.length ∧ ∃ N' acc, Same N1 N' ∧ Same H1 H' ∧ Rep X.K H0 ρ σ H' N' ∧ N' D = none ∧ H' D = some (.lst acc) ∧ Ats X.K N' acc (((ds.take j).filter f).map g), ⟨_, rfl, Nat.zero_le _, N1, [], Same.refl _, Same.of_none hD, r1.grow (Same.of_none hD), r1.sub.free hD, upd_same, by simpa using Ats.nil⟩, ?_⟩
  rintro j m H' ⟨rfl, hj, N', acc, s', e', r', dN, dH, aa⟩
  have h0D : H0 D = none := r1.old.free hD
  have npD : ∀ (q : Nat) d, ρ[q]? = some (Ent.ow d) → σ[q]? ≠ some (some (V.ref D)) := no_own r1 hD
  obtain ⟨wg, wst⟩ := w (upd H0 D (.lst acc)) ρ σ H' N' j (Same.of_none h0D) s' (r'.toOld h0D dH dN npD)
  by_cases hlt : j < ds.length
  · obtain ⟨go, yl⟩ := wg hlt
    have et : ds.take (j + 1) = ds.take j ++ [ds[j]] := by rw [List.take_succ, List.getElem?_eq_getElem hlt]; rfl
    refine .inr ⟨go, fun H' => ∃ N' acc, Same N1 N' ∧ Same H1 H' ∧ Rep X.K H0 ρ σ H' N' ∧ N' D = none ∧ H' D = some (.lst acc) ∧ Ats X.K N' acc (((ds.take (j + 1)).filter f).map g), fun H2 q => ⟨_, by omega, rfl, hlt, q⟩, fun x H2 y => ?_⟩
    obtain ⟨N2, d, n2, e2, r2, e3, a2⟩ := yl x H2 y
    have ed : d = ds[j] := by
      rw [List.getElem?_eq_getElem hlt] at e3
      exact (Option.some.inj e3).symm
    subst ed
    have dH2 : H2 D = some (.lst acc) := e2 _ _ dH
    have np : ∀ (q : Nat) d, ρ[q]? = some (Ent.ow d) → σ[q]? ≠ some (some (V.ref D)) := no_own r1 hD
    have d0 : Same H0 (upd H0 D (.lst acc)) := Same.of_none h0D
    have mem : ds[j] ∈ ds := List.getElem_mem hlt
    have dH2 : H2 D = some (.lst acc) := e2 _ _ dH
    have r2' : Rep X.K (upd H0 D (.lst acc)) ρ σ H2 N2 := r2
    have rs := r2'.setE (i := i) (v := x) (e := .im ds[j]) a2
    have ws : (wipe σ [i]).set i (some x) = σ.set i (some x) := by show (σ.set i none).set i (some x) = _; rw [List.set_set]
    show wipe ((wipe σ [i]).set i (some x)) [i] = wipe σ [i] ∧ _
    refine ⟨by rw [ws]; show (σ.set i (some x)).set i none = σ.set i none; rw [List.set_set], ?_⟩
    rw [show (wipe σ (List.map (fun (x : Str × Nat) => x.snd) [(xn, i)])).set i (some x) = σ.set i (some x) from ws]
    have elem : ∀ H3 N3, f ds[j] = true → Same H2 H3 → Same N2 N3 → Rep X.K (upd H0 D (.lst acc)) (ρ.set i (.im ds[j])) (σ.set i (some x)) H3 N3 → ∀ s H' C cl fp, WE (X.blk s H' scope (compEnvC scope cl C X.env) fp) elt (σ.set i (some x)) H3 fun y H4 => ∃ acc', H4 D = some (.lst acc') ∧ acc'.length < sizeLine ∧
        ∃ N' a', Same N1 N' ∧ Same H1 (upd H4 D (.lst (acc' ++ [y]))) ∧ Rep X.K H0 ρ σ (upd H4 D (.lst (acc' ++ [y]))) N' ∧ N' D = none ∧ (upd H4 D (.lst (acc' ++ [y]))) D = some (.lst a') ∧ Ats X.K N' a' (((ds.take (j + 1)).filter f).map g) := fun H3 N3 hf e3' n3 r3 s H5 C cl fp => by
      refine (hel _ s H5 C cl fp d0 _ mem hf _ _ _ r3).imp fun y H4 ⟨N4, s4, n4, r4, a4⟩ => ?_
      have q4 : H4 D = some (.lst acc) := s4 _ _ (e3' _ _ dH2)
      refine ⟨acc, q4, ?_, N4, acc ++ [y], (((s'.trans n2).trans n3).trans n4), fun a u h => ?_, (r'.back hx d0 r4).updD h0D r4.notD np, r4.notD, upd_same, ?_⟩
      · rw [aa.length, List.length_map]
        have := List.length_filter_le f (ds.take j)
        have := List.length_take_le j ds
        omega
      · rw [upd_ne (ne_of_none h hD)]
        exact s4 _ _ (e3' _ _ (e2 _ _ (e' a u h)))
      · rw [et, List.filter_append, List.map_append]
        refine ((aa.mono n2).mono n3 |>.mono n4).append ?_
        rw [List.filter_cons, if_pos hf]
        exact .cons a4 .nil
    have skip : ∀ H3 N3, f ds[j] = false → Same H2 H3 → Same N2 N3 → Rep X.K (upd H0 D (.lst acc)) (ρ.set i (.im ds[j])) (σ.set i (some x)) H3 N3 → ∃ N' acc, Same N1 N' ∧ Same H1 H3 ∧ Rep X.K H0 ρ σ H3 N' ∧ N' D = none ∧ H3 D = some (.lst acc) ∧ Ats X.K N' acc (((ds.take (j + 1)).filter f).map g) := fun H3 N3 hf e3' n3 r3 => by
      refine ⟨N3, acc, (s'.trans n2).trans n3, (e'.trans e2).trans e3', r'.back hx d0 r3, r3.notD, e3' _ _ dH2, ?_⟩
      rw [et, List.filter_append, List.map_append, List.filter_cons, if_neg (by rw [hf]; exact Bool.false_ne_true)]
      simpa using (aa.mono n2).mono n3
    rcases hif with ⟨hne, hft⟩ | ⟨c, hc', ht⟩
    · exact .inl ⟨hne, iteT (elem H2 N2 (hft _ mem) (Same.refl _) (Same.refl _) rs)⟩
    · refine .inr ⟨c, hc', fun s H5 C cl fp => ?_⟩
      refine (ht _ s H5 C cl fp d0 _ mem _ _ _ rs).imp fun bb H3 ⟨eb, N3, s3, n3, r3⟩ => ?_
      subst eb
      cases hf : f ds[j] with
      | true => exact iteT (elem H3 N3 hf s3 n3 r3)
      | false => exact iteF (skip H3 N3 hf s3 n3 r3)
  · have e1 : j = ds.length := by omega
    subst e1
    rw [List.take_length] at aa
    exact .inl ⟨wst rfl, N', D, rfl, s1.free hD, s1.trans e', n1.trans s', r', dN, acc, dH, aa⟩
end
end B

namespace B
open PySem PySem.Spec PyProof.Rows L2
def Outc.out : Outc → Prop
  | .nx _ => False
  | _ => True
section
variable {X : Cx} {H0 : Hp} {ρ ρ1 ρ2 : Env'} {a b c e : Expr} {es : List Expr} {st : Stmt} {sts rest : List Stmt} {d d1 d2 : Dat} {ds : List Dat} {p pos : Pos} {o o1 : Outc} {x n : Str}
theorem et_to {k l : Bool} (h : EvT X H0 ρ e k) (hk : k = l) : EvT X H0 ρ e l := hk ▸ h
theorem ev_to (h : Ev X H0 ρ e d1) (hk : d1 = d) : Ev X H0 ρ e d := hk ▸ h
theorem ex_out (h : ExS X H0 ρ st o) (ho : o.out) : Exec X H0 ρ (st :: rest) o := by
  refine ex_cons h ?_
  cases o with
  | nx ρ => exact ho.elim
  | _ => rfl
theorem ev_powC {i j r : Int} (ha : Ev X H0 ρ a (.int i)) (hb : Ev X H0 ρ b (.int j)) (h : CPow i j) (e : i ^ j.toNat = r) : Ev X H0 ρ (.BinOp a .Pow b pos) (.int r) := ev_to (ev_pow ha hb h) (by rw [e])
theorem ev_shlC {i j r : Int} (ha : Ev X H0 ρ a (.int i)) (hb : Ev X H0 ρ b (.int j)) (h : CPow i j) (e : i * 2 ^ j.toNat = r) : Ev X H0 ρ (.BinOp a .LShift b pos) (.int r) := ev_to (ev_shl ha hb h) (by rw [e])
theorem mul_ok {i j : Int} (m n : Nat) (h1 : i.natAbs < 2 ^ m) (h2 : j.natAbs < 2 ^ n) (h0 : 0 < m) (h0' : 0 < n) (h : m + n ≤ 1000000) : IntMulOk i j := (wide_mul h1 h2 h0 h0' h).ok
theorem mul_l {i j : Int} (h1 : -(2 ^ 64) < i) (h2 : i < 2 ^ 64) : IntMulOk i j := .of_left (intBits_le_64 h1 h2)
theorem mul_r {i j : Int} (h1 : -(2 ^ 64) < j) (h2 : j < 2 ^ 64) : IntMulOk i j := .of_right (intBits_le_64 h1 h2)
end
section
variable {P : Program} {w : World} {K : PySem.W.Frag} {mg : Str → Option Value} {base : Heap} {x : Str} {st : Stmt} {ps N : List Str} {k : Nat} {R : List Dat → Res → Prop} {f : Addr} {fd : FuncData}
/-- THE RULE for a def, its address told -/
theorem fn_mk (F : Fun K x x st f fd) (S : FnScope N ps (defScope st)) (hl : ∀ ds o, R ds o → ds.length = ps.length)
    (body : ∀ (f : Addr) (cdv : Value) (A : Around) (outer : List PySem.Env) (s : Shared) (H : Hp) (E : XK), Room k (XX P w K mg base N x st f cdv A outer s H E).A → ∀ ds o, R ds o → ∃ es, Ents es ds ∧ ∀ H0, match o with
      | .own d => ExecO (XX P w K mg base N x st f cdv A outer s H E) H0 (es ++ List.replicate (N.length - ps.length) .no) (defBody st) d
      | o => Ends' (XX P w K mg base N x st f cdv A outer s H E) H0 (es ++ List.replicate (N.length - ps.length) .no) (defBody st) o) : FnOk P w K mg base (L2.CX P w) (k + 1) f fd ps (spR K mg R) := by
  refine F.okX S (fun vs H Q E ⟨ds, o, hr, a, _⟩ => by rw [a.length]; exact hl ds o hr) fun cdv A outer s H vs Q E hr hsp => ?_
  obtain ⟨ds, o, hR, a, q⟩ := hsp
  obtain ⟨es, he, hbody⟩ := body f cdv A outer s H E hr ds o hR
  have hlen : vs.length = ps.length := by rw [a.length]; exact hl ds o hR
  have r : Rep K H (es ++ List.replicate (N.length - ps.length) .no) (L2.start N vs) H (Imm H) := hlen ▸ rep_start he a
  have hb := hbody H
  refine ⟨_, pb_w, ?_⟩
  cases o with
  | val d =>
    cases hb with
    | ret h => exact h { nx := fun _ H' => Q .non H', rt := Q } _ _ _ r fun v H' s rt => q v H' s rt
    | non h => exact h { nx := fun _ H' => Q .non H', rt := Q } _ _ _ r fun σ H' N' s r' => q .non H' r'.old ⟨N', r'.sub, r'.fresh, .non⟩
  | own d => exact hb { nx := fun _ H' => Q .non H', rt := Q } _ _ _ r fun p H' N' s1 s2 s3 s4 s5 s6 => q p H' N' s1 s2 s3 s4 s5 s6
  | exc n =>
    cases hb with
    | exc h => exact h { nx := fun _ H' => Q .non H', rt := Q } _ _ _ r ⟨_, takes_of rfl rfl rfl rfl, fun C σ H' N' hm s r' => q C H' hm r'.old⟩
/-- the law's: at most 63 ints, of so many bits -/
def R_law : List Dat → Res → Prop := fun ds o => ∃ ns : List Int, ds = [.lst (ns.map .int)] ∧ ns.length ≤ 63 ∧ (∀ z ∈ ns, Builtin.Int.intBits z ≤ 1048576) ∧ o = .val (.bl true)
def spLaw (K : PySem.W.Frag) : Sp := fun vs H Q _ => ∃ (a : Addr) (ns : List Int), vs = [.ref a] ∧ SqL K H a (ns.map V.int) ∧ ns.length ≤ 63 ∧ (∀ z ∈ ns, Builtin.Int.intBits z ≤ 1048576) ∧ ∀ v H', v = .bl true → Q v H'
theorem ats_ints {K : PySem.W.Frag} {H : Hp} (ns : List Int) : Ats K H (ns.map .int) (ns.map .int) := Ats.ofInts ns
theorem law_imp (F : FnOk P w K mg base (L2.CX P w) k f fd ["script"] (spR K mg R_law)) : FnOk P w K mg base (L2.CX P w) k f fd ["script"] (spLaw K) := F.imp fun vs H Q E ⟨a, ns, e, hS, hl, hb, q⟩ => by
  subst e
  exact ⟨[.lst (ns.map .int)], .val (.bl true), ⟨ns, rfl, hl, hb, rfl⟩, .cons (.lst hS (ats_ints ns)) .nil, fun v H' _ ⟨N, _, _, a⟩ => q v H' (at_bl a)⟩
end
theorem walk {l : PySem.W.OpenLaw} {k : Nat} {q : Program} {loose : List Str} {XP : (Str → Option Value) → Heap → Prop} {YP : World → Heap → Prop} {d : DefRec} {K : Params → PySem.W.Frag} (hn : l.most = some 63) (hdf : d.params.defaults = []) (hr : Room k callerA)
    (hY : ∀ (w : World) (h : Heap), YP w h → (K w.params).In h)
    (F : ∀ (w : World) (mg : Str → Option Value) (fa : Addr) (h : Heap), (K w.params).In h → h.Ns mainGlobals mg → mg d.name = some (.ref fa) →
      ∃ fd : FuncData, (∀ (s : Shared) (u : Value), BindsTo s fd ⟨[u], []⟩ [("script", u)]) ∧ ∀ base : Heap, (K w.params).In base → base.Ns mainGlobals mg → FnOk l.prog w (K w.params) mg base (L2.CX l.prog w) k fa fd ["script"] (spLaw (K w.params))) :
    PySem.W.WalkO q loose XP YP l.row.toRowW d [] (fun f vs => PySem.call f vs) :=
  L2.walk_ofB (n := 63) (k := k) (x := "script") (CX := fun w => L2.CX l.prog w) (sp := fun w => spLaw (K w.params)) hn (by decide) hdf hr hY F
    (fun _ _ a ns hl hb _ hS => ⟨a, ns, rfl, hS, hl, hb, fun _ _ e => e⟩) fun _ _ _ _ _ h => by
      obtain ⟨_, _, _, _, _, _, _, _, _, _, _, _, z⟩ := h
      exact z.elim

/-! ### the classes of errors among one another -/
def Kit (K : PySem.W.Frag) (mg : Str → Option Value) (C : Addr) (n : Str) (b : Bool) : Prop := ∃ D, mg n = some (.ref D) ∧ PySem.W.kitOne K (.ref C) (.ref D) = some b
def Exm (K : PySem.W.Frag) (mg : Str → Option Value) (C : Addr) (n : Str) : Prop := ∃ D, mg n = some (.ref D) ∧ PySem.W.exmOne K (.ref C) (.ref D) = some true
theorem kit_own {K : PySem.W.Frag} {C D : Addr} {b : Bool} (hs : PySem.W.subIn K (.ref C) (.ref C) = some true) (hd : PySem.W.hasDictIn K D = true) (ht : PySem.W.typeIn K (.ref D) = some (.type "type")) (h : PySem.W.subIn K (.ref C) (.ref D) = some b) : PySem.W.kitOne K (.ref C) (.ref D) = some b := by
  obtain ⟨cd, hc, _⟩ := PySem.W.any_some hd
  by_cases e : C = D
  · subst e
    rw [hs] at h
    cases h
    show (if (Value.ref C == Value.ref C) = true then some true else _) = _
    rw [if_pos (by simp)]
  · show (if (Value.ref C == Value.ref D) = true then some true else (if ((PySem.W.clsIn K D).isSome && PySem.W.typeIn K (.ref D) == some (.type "type")) = true then PySem.W.subIn K (.ref C) (.ref D) else none)) = _
    rw [if_neg (by intro q; exact e (Value.ref.inj (beq_iff_eq.mp q))), if_pos (by rw [hc, ht] <;> rfl)]
    exact h
theorem kit_ve {K : PySem.W.Frag} {C : Addr} (h : PySem.W.subIn K (.ref C) (.type "ValueError") = some true) : PySem.W.kitOne K (.ref C) (.type "ValueError") = some true := by
  show (if (Value.ref C == Value.type "ValueError") = true then some true else (if PySem.W.kitMeta "ValueError" = true then PySem.W.subIn K (.ref C) (.type "ValueError") else none)) = _
  rw [if_neg (by intro e; cases (beq_iff_eq.mp e)), if_pos (by decide +kernel)]
  exact h

def Kits (K : PySem.W.Frag) (mg : Str → Option Value) (C : Addr) : List (Str × Bool) → Prop
  | [] => True
  | p :: r => Kit K mg C p.1 p.2 ∧ Kits K mg C r
theorem kits_nil {K : PySem.W.Frag} {mg : Str → Option Value} {C : Addr} : Kits K mg C [] := trivial
theorem kits_cons {K : PySem.W.Frag} {mg : Str → Option Value} {C : Addr} {n : Str} {b : Bool} {r : List (Str × Bool)} (h : Kit K mg C n b) (t : Kits K mg C r) : Kits K mg C ((n, b) :: r) := ⟨h, t⟩
theorem Kits.get {K : PySem.W.Frag} {mg : Str → Option Value} {C : Addr} : ∀ {l : List (Str × Bool)} (n : Str) (b : Bool), Kits K mg C l → (n, b) ∈ l → Kit K mg C n b
  | [], _, _, _, h => by cases h
  | p :: r, n, b, k, h => by
    rcases List.mem_cons.mp h with e | h
    · have e1 : p.1 = n := by rw [← e]
      have e2 : p.2 = b := by rw [← e]
      rw [← e1, ← e2]
      exact k.1
    · exact Kits.get n b k.2 h
/-- what is known of the class that a refusal has -/
structure ExcX (K : PySem.W.Frag) (mg : Str → Option Value) (n : Str) (l : List (Str × Bool)) (C : Addr) : Prop where
  at_ : ExcAt K mg n C
  ec : ExcC K C
  self : PySem.W.exmOne K (.ref C) (.ref C) = some true
  press : Exm K mg C "PressError"
  ve : PySem.W.kitOne K (.ref C) (.type "ValueError") = some true
  kits : Kits K mg C l
section
variable {X : Cx} {H0 : Hp} {ρ ρ1 ρ2 : Env'} {a b c e : Expr} {es : List Expr} {st : Stmt} {sts rest : List Stmt} {d d1 d2 : Dat} {ds : List Dat} {p pos : Pos} {o o1 : Outc} {x n : Str}
theorem ev_isEo {a D : Addr} {oe : Obj} {pn : List (Addr × Obj)} {y ee : Str} {p1 p2 : Pos} {k : Bool} (i : Nat) (N : Kit X.K X.mg D y k) (C : ExcC X.K D) (hz : Zc (.ref D) none oe) (hf : ∃ vs, oe.data = .fields vs) (hρ : ρ[i]? = some (.rf a))
    (hm : X.mg "isinstance" = none) (hgy : Gl X y := by rfl) (hdy : (y == ("__debug__" : Str)) = false := by decide) (hN : X.N[i]? = some ee := by rfl) (hv : Vis X.env.scope ee := by first | exact Or.inl rfl | exact Or.inr (Or.inl rfl) | exact Or.inr (Or.inr rfl)) (hg : Gl X "isinstance" := by rfl) (hd : (ee == ("__debug__" : Str)) = false := by decide) (hcd : (ee == ("__classdict__" : Str)) = false := by decide)
    (he : starEach [.Name ee p1, .Name y p2] X.env = (false, eval (.Name ee p1) X.env) :: starEach [.Name y p2] X.env := by rfl) (he2 : starEach [.Name y p2] X.env = (false, eval (.Name y p2) X.env) :: starEach [] X.env := by rfl) (hpl : (backTo pos (starEach [.Name y p2] X.env)).any (·.1) = false := by rfl) :
    Ev (X.suite a ((a, oe) :: pn)) H0 ρ (.Call (.Name "isinstance" p) [.Name ee p1, .Name y p2] [] pos) (.bl k) := by
  obtain ⟨D2, m, q⟩ := N
  exact ev_isE (c := .ref D2) (u := .ref D2) i C hz hf hρ ⟨.own D2, hgy, hdy, .inl m⟩ q hm hN hv hg hd hcd he he2 hpl
theorem ev_isEv {a D : Addr} {oe : Obj} {pn : List (Addr × Obj)} {ee : Str} {p1 p2 : Pos} (i : Nat) (N : PySem.W.kitOne X.K (.ref D) (.type "ValueError") = some true) (hb : X.mg "ValueError" = none) (C : ExcC X.K D) (hz : Zc (.ref D) none oe) (hf : ∃ vs, oe.data = .fields vs) (hρ : ρ[i]? = some (.rf a))
    (hm : X.mg "isinstance" = none) (hgy : Gl X "ValueError" := by rfl) (hN : X.N[i]? = some ee := by rfl) (hv : Vis X.env.scope ee := by first | exact Or.inl rfl | exact Or.inr (Or.inl rfl) | exact Or.inr (Or.inr rfl)) (hg : Gl X "isinstance" := by rfl) (hd : (ee == ("__debug__" : Str)) = false := by decide) (hcd : (ee == ("__classdict__" : Str)) = false := by decide)
    (he : starEach [.Name ee p1, .Name "ValueError" p2] X.env = (false, eval (.Name ee p1) X.env) :: starEach [.Name "ValueError" p2] X.env := by rfl) (he2 : starEach [.Name "ValueError" p2] X.env = (false, eval (.Name "ValueError" p2) X.env) :: starEach [] X.env := by rfl) (hpl : (backTo pos (starEach [.Name "ValueError" p2] X.env)).any (·.1) = false := by rfl) :
    Ev (X.suite a ((a, oe) :: pn)) H0 ρ (.Call (.Name "isinstance" p) [.Name ee p1, .Name "ValueError" p2] [] pos) (.bl true) :=
  ev_isE (c := .ty "ValueError") (u := .type "ValueError") i C hz hf hρ ⟨.ty _, hgy, by decide, .inr ⟨hb, by decide +kernel, by decide⟩⟩ N hm hN hv hg hd hcd he he2 hpl
inductive NoKits (X : Cx) (D : Addr) : List Expr → Prop where
  | nil : NoKits X D []
  | cons {y : Str} {pp : Pos} {es : List Expr} (k : Kit X.K X.mg D y false) (t : NoKits X D es) (g : Gl X y := by rfl) (hd : (y == ("__debug__" : Str)) = false := by decide) : NoKits X D (.Name y pp :: es)
theorem NoKits.get {D : Addr} : ∀ {es : List Expr}, NoKits X D es → ∃ cs us, ClsNs X es cs us ∧ PySem.W.kitAny X.K (.ref D) us = some false
  | _, .nil => ⟨[], [], .nil, rfl⟩
  | _, .cons k t g hd => by
    obtain ⟨cs, us, h1, h2⟩ := NoKits.get t
    obtain ⟨E, m, q⟩ := k
    exact ⟨.ref E :: cs, .ref E :: us, .cons ⟨.own E, g, hd, .inl m⟩ h1, kitAny_cons q (fun _ => h2) (fun z => nomatch z)⟩
theorem NoKits.suite {D a : Addr} {pn : List (Addr × Obj)} : ∀ {es : List Expr}, NoKits X D es → NoKits (X.suite a pn) D es
  | _, .nil => .nil
  | _, .cons k t g hd => .cons k (NoKits.suite t) g hd
theorem ev_isEs {a D : Addr} {oe : Obj} {pn : List (Addr × Obj)} {ee : Str} {p1 p2 : Pos} {kk : Nat} (i : Nat) (N : NoKits X D es) (C : ExcC X.K D) (hz : Zc (.ref D) none oe) (hf : ∃ vs, oe.data = .fields vs) (hρ : ρ[i]? = some (.rf a))
    (hm : X.mg "isinstance" = none) (hl : es.length ≤ sizeLine := by decide) (hst : ∀ y pp r, starEach (Expr.Name y pp :: r) X.env = (false, eval (Expr.Name y pp) X.env) :: starEach r X.env := by intro _ _ _; rfl) (hN : X.N[i]? = some ee := by rfl) (hv : Vis X.env.scope ee := by first | exact Or.inl rfl | exact Or.inr (Or.inl rfl) | exact Or.inr (Or.inr rfl)) (hg : Gl X "isinstance" := by rfl)
    (hd : (ee == ("__debug__" : Str)) = false := by decide) (hcd : (ee == ("__classdict__" : Str)) = false := by decide)
    (he : starEach [.Name ee p1, .Tuple es kk p2] X.env = (false, eval (.Name ee p1) X.env) :: starEach [.Tuple es kk p2] X.env := by rfl) (he2 : starEach [.Tuple es kk p2] X.env = (false, eval (.Tuple es kk p2) X.env) :: starEach [] X.env := by rfl) (hpl : (backTo pos (starEach [.Tuple es kk p2] X.env)).any (·.1) = false := by rfl) :
    Ev (X.suite a ((a, oe) :: pn)) H0 ρ (.Call (.Name "isinstance" p) [.Name ee p1, .Tuple es kk p2] [] pos) (.bl false) := by
  obtain ⟨cs, us, h1, h2⟩ := (N.suite (a := a) (pn := (a, oe) :: pn)).get
  exact ev_isET i C hz hf hρ h1 h2 hm hl hst hN hv hg hd hcd he he2 hpl
/-- except x: the class of that name -/
theorem names_of {C : Addr} (h : X.mg x = some (.ref C)) (g : Gl X x := by rfl) (hd : (x == ("__debug__" : Str)) = false := by decide) : Names X x (.ref C) := ⟨g, hd, .inl h⟩
end
def isInt : Dat → Bool
  | .int _ => true
  | .bl _ => true
  | _ => false
theorem kit_isInt : ∀ (d : Dat), kitB (tyName d) "int" = some (isInt d)
  | .non => (by decide +kernel : kitB "NoneType" "int" = some false)
  | .bl _ => (by decide +kernel : kitB "bool" "int" = some true)
  | .int _ => (by decide +kernel : kitB "int" "int" = some true)
  | .str _ => (by decide +kernel : kitB "str" "int" = some false)
  | .tup _ => (by decide +kernel : kitB "tuple" "int" = some false)
  | .lst _ => (by decide +kernel : kitB "list" "int" = some false)
  | .dic _ => (by decide +kernel : kitB "dict" "int" = some false)
def isBool : Dat → Bool
  | .bl _ => true
  | _ => false
theorem kit_isBool : ∀ (d : Dat), kitB (tyName d) "bool" = some (isBool d)
  | .non => (by decide +kernel : kitB "NoneType" "bool" = some false)
  | .bl _ => (by decide +kernel : kitB "bool" "bool" = some true)
  | .int _ => (by decide +kernel : kitB "int" "bool" = some false)
  | .str _ => (by decide +kernel : kitB "str" "bool" = some false)
  | .tup _ => (by decide +kernel : kitB "tuple" "bool" = some false)
  | .lst _ => (by decide +kernel : kitB "list" "bool" = some false)
  | .dic _ => (by decide +kernel : kitB "dict" "bool" = some false)
def isStr : Dat → Bool
  | .str _ => true
  | _ => false
theorem kit_isStr : ∀ (d : Dat), kitB (tyName d) "str" = some (isStr d)
  | .non => (by decide +kernel : kitB "NoneType" "str" = some false)
  | .bl _ => (by decide +kernel : kitB "bool" "str" = some false)
  | .int _ => (by decide +kernel : kitB "int" "str" = some false)
  | .str _ => (by decide +kernel : kitB "str" "str" = some true)
  | .tup _ => (by decide +kernel : kitB "tuple" "str" = some false)
  | .lst _ => (by decide +kernel : kitB "list" "str" = some false)
  | .dic _ => (by decide +kernel : kitB "dict" "str" = some false)
def isTup : Dat → Bool
  | .tup _ => true
  | _ => false
theorem kit_isTup : ∀ (d : Dat), kitB (tyName d) "tuple" = some (isTup d)
  | .non => (by decide +kernel : kitB "NoneType" "tuple" = some false)
  | .bl _ => (by decide +kernel : kitB "bool" "tuple" = some false)
  | .int _ => (by decide +kernel : kitB "int" "tuple" = some false)
  | .str _ => (by decide +kernel : kitB "str" "tuple" = some false)
  | .tup _ => (by decide +kernel : kitB "tuple" "tuple" = some true)
  | .lst _ => (by decide +kernel : kitB "list" "tuple" = some false)
  | .dic _ => (by decide +kernel : kitB "dict" "tuple" = some false)
def isLst : Dat → Bool
  | .lst _ => true
  | _ => false
theorem kit_isLst : ∀ (d : Dat), kitB (tyName d) "list" = some (isLst d)
  | .non => (by decide +kernel : kitB "NoneType" "list" = some false)
  | .bl _ => (by decide +kernel : kitB "bool" "list" = some false)
  | .int _ => (by decide +kernel : kitB "int" "list" = some false)
  | .str _ => (by decide +kernel : kitB "str" "list" = some false)
  | .tup _ => (by decide +kernel : kitB "tuple" "list" = some false)
  | .lst _ => (by decide +kernel : kitB "list" "list" = some true)
  | .dic _ => (by decide +kernel : kitB "dict" "list" = some false)
def isDic : Dat → Bool
  | .dic _ => true
  | _ => false
theorem kit_isDic : ∀ (d : Dat), kitB (tyName d) "dict" = some (isDic d)
  | .non => (by decide +kernel : kitB "NoneType" "dict" = some false)
  | .bl _ => (by decide +kernel : kitB "bool" "dict" = some false)
  | .int _ => (by decide +kernel : kitB "int" "dict" = some false)
  | .str _ => (by decide +kernel : kitB "str" "dict" = some false)
  | .tup _ => (by decide +kernel : kitB "tuple" "dict" = some false)
  | .lst _ => (by decide +kernel : kitB "list" "dict" = some false)
  | .dic _ => (by decide +kernel : kitB "dict" "dict" = some true)
section
variable {X : Cx} {H0 : Hp} {ρ ρ1 ρ2 : Env'} {a b c e : Expr} {es : List Expr} {st : Stmt} {sts rest : List Stmt} {d d1 d2 : Dat} {ds : List Dat} {p pos : Pos} {o o1 : Outc} {x n : Str}
theorem ev_isi_int {p2 : Pos} (ha : EvB X H0 ρ a d) (hm : X.mg "isinstance" = none) (hmT : X.mg "int" = none) (hg : Gl X "isinstance" := by rfl) (hgT : Gl X "int" := by rfl)
    (he : starEach [a, .Name "int" p2] X.env = (false, eval a X.env) :: starEach [.Name "int" p2] X.env := by rfl) (he2 : starEach [.Name "int" p2] X.env = (false, eval (.Name "int" p2) X.env) :: starEach [] X.env := by rfl) (hpl : (backTo pos (starEach [.Name "int" p2] X.env)).any (·.1) = false := by rfl) :
    Ev X H0 ρ (.Call (.Name "isinstance" p) [a, .Name "int" p2] [] pos) (.bl (isInt d)) := ev_isi ha (kit_isInt d) hm hmT (by decide +kernel) hg hgT (by decide) (by decide) he he2 hpl
theorem ev_isi_bool {p2 : Pos} (ha : EvB X H0 ρ a d) (hm : X.mg "isinstance" = none) (hmT : X.mg "bool" = none) (hg : Gl X "isinstance" := by rfl) (hgT : Gl X "bool" := by rfl)
    (he : starEach [a, .Name "bool" p2] X.env = (false, eval a X.env) :: starEach [.Name "bool" p2] X.env := by rfl) (he2 : starEach [.Name "bool" p2] X.env = (false, eval (.Name "bool" p2) X.env) :: starEach [] X.env := by rfl) (hpl : (backTo pos (starEach [.Name "bool" p2] X.env)).any (·.1) = false := by rfl) :
    Ev X H0 ρ (.Call (.Name "isinstance" p) [a, .Name "bool" p2] [] pos) (.bl (isBool d)) := ev_isi ha (kit_isBool d) hm hmT (by decide +kernel) hg hgT (by decide) (by decide) he he2 hpl
theorem ev_isi_str {p2 : Pos} (ha : EvB X H0 ρ a d) (hm : X.mg "isinstance" = none) (hmT : X.mg "str" = none) (hg : Gl X "isinstance" := by rfl) (hgT : Gl X "str" := by rfl)
    (he : starEach [a, .Name "str" p2] X.env = (false, eval a X.env) :: starEach [.Name "str" p2] X.env := by rfl) (he2 : starEach [.Name "str" p2] X.env = (false, eval (.Name "str" p2) X.env) :: starEach [] X.env := by rfl) (hpl : (backTo pos (starEach [.Name "str" p2] X.env)).any (·.1) = false := by rfl) :
    Ev X H0 ρ (.Call (.Name "isinstance" p) [a, .Name "str" p2] [] pos) (.bl (isStr d)) := ev_isi ha (kit_isStr d) hm hmT (by decide +kernel) hg hgT (by decide) (by decide) he he2 hpl
theorem ev_isi_tuple {p2 : Pos} (ha : EvB X H0 ρ a d) (hm : X.mg "isinstance" = none) (hmT : X.mg "tuple" = none) (hg : Gl X "isinstance" := by rfl) (hgT : Gl X "tuple" := by rfl)
    (he : starEach [a, .Name "tuple" p2] X.env = (false, eval a X.env) :: starEach [.Name "tuple" p2] X.env := by rfl) (he2 : starEach [.Name "tuple" p2] X.env = (false, eval (.Name "tuple" p2) X.env) :: starEach [] X.env := by rfl) (hpl : (backTo pos (starEach [.Name "tuple" p2] X.env)).any (·.1) = false := by rfl) :
    Ev X H0 ρ (.Call (.Name "isinstance" p) [a, .Name "tuple" p2] [] pos) (.bl (isTup d)) := ev_isi ha (kit_isTup d) hm hmT (by decide +kernel) hg hgT (by decide) (by decide) he he2 hpl
theorem ev_isi_list {p2 : Pos} (ha : EvB X H0 ρ a d) (hm : X.mg "isinstance" = none) (hmT : X.mg "list" = none) (hg : Gl X "isinstance" := by rfl) (hgT : Gl X "list" := by rfl)
    (he : starEach [a, .Name "list" p2] X.env = (false, eval a X.env) :: starEach [.Name "list" p2] X.env := by rfl) (he2 : starEach [.Name "list" p2] X.env = (false, eval (.Name "list" p2) X.env) :: starEach [] X.env := by rfl) (hpl : (backTo pos (starEach [.Name "list" p2] X.env)).any (·.1) = false := by rfl) :
    Ev X H0 ρ (.Call (.Name "isinstance" p) [a, .Name "list" p2] [] pos) (.bl (isLst d)) := ev_isi ha (kit_isLst d) hm hmT (by decide +kernel) hg hgT (by decide) (by decide) he he2 hpl
theorem ev_isi_dict {p2 : Pos} (ha : EvB X H0 ρ a d) (hm : X.mg "isinstance" = none) (hmT : X.mg "dict" = none) (hg : Gl X "isinstance" := by rfl) (hgT : Gl X "dict" := by rfl)
    (he : starEach [a, .Name "dict" p2] X.env = (false, eval a X.env) :: starEach [.Name "dict" p2] X.env := by rfl) (he2 : starEach [.Name "dict" p2] X.env = (false, eval (.Name "dict" p2) X.env) :: starEach [] X.env := by rfl) (hpl : (backTo pos (starEach [.Name "dict" p2] X.env)).any (·.1) = false := by rfl) :
    Ev X H0 ρ (.Call (.Name "isinstance" p) [a, .Name "dict" p2] [] pos) (.bl (isDic d)) := ev_isi ha (kit_isDic d) hm hmT (by decide +kernel) hg hgT (by decide) (by decide) he he2 hpl
end

theorem ExcX.eq {K : PySem.W.Frag} {mg : Str → Option Value} {n : Str} {l : List (Str × Bool)} {C C' : Addr} (x : ExcX K mg n l C) (h : mg n = some (.ref C')) : C' = C := by
  rw [x.at_.g] at h
  cases h
  rfl
theorem ExcX.exm {K : PySem.W.Frag} {mg : Str → Option Value} {n : Str} {l : List (Str × Bool)} {C : Addr} (x : ExcX K mg n l C) : ∀ C', mg n = some (.ref C') → PySem.W.exmOne K (.ref C') (.ref C) = some true := fun C' h => by
  rw [x.eq h]
  exact x.self

theorem fits_small {i : Int} (h1 : -(2 ^ 40) ≤ i) (h2 : i ≤ 2 ^ 40) : Builtin.Range.rangeFitsLong i = true := by
  unfold Builtin.Range.rangeFitsLong
  rw [Bool.and_eq_true]
  exact ⟨decide_eq_true (by omega), decide_eq_true (by omega)⟩
/-- range(i, j, c), c above 0 -/
theorem rgc_pos {i j c : Int} {n : Nat} (hc : 0 < c) (hc2 : c < 1073741824) (hi : -(2 ^ 39) ≤ i) (hi2 : i ≤ 2 ^ 39) (hj : -(2 ^ 39) ≤ j) (hj2 : j ≤ 2 ^ 39) (hn : (n : Int) = if i < j then (j - i - 1) / c + 1 else 0) : RgC i j c n := by
  have e : Builtin.Range.rangeSize i j c = (n : Int) := by
    unfold Builtin.Range.rangeSize
    rw [if_pos hc, hn]
  have hb : (n : Int) ≤ 2 ^ 40 := by
    rw [hn]
    split
    · have : (j - i - 1) / c ≤ j - i - 1 := Int.ediv_le_self _ (by omega)
      omega
    · decide
  refine ⟨by omega, by omega, ?_, e⟩
  unfold Builtin.Range.small
  rw [e, fits_small (by omega) (by omega), fits_small (by omega) (by omega), fits_small (by omega) (by omega), fits_small (i := (n : Int)) (by omega) hb, if_pos hc, fits_small (by omega) (by omega)]
  simp

/-- each turn leads back to the same -/
theorem for_same {X : Cx} {H0 : Hp} {bd : Dat → Env' → Env'} {body : List Stmt} {ρ : Env'} : ∀ {ds : List Dat}, (∀ d ∈ ds, Exec X H0 (bd d ρ) body (.nx ρ)) → ForT X H0 bd body ds ρ (.nx ρ)
  | [], _ => .nil
  | d :: ds, h => .turn (h d List.mem_cons_self) (for_same fun e he => h e (List.mem_cons_of_mem _ he))
theorem mem_steps {lo c : Int} {n : Nat} {d : Dat} (h : d ∈ steps lo c n) : ∃ i : Nat, i < n ∧ d = .int (lo + (i : Int) * c) := by
  unfold steps at h
  obtain ⟨i, hi, rfl⟩ := List.mem_map.mp h
  exact ⟨i, List.mem_range.mp hi, rfl⟩
theorem mem_ints {ns : List Int} {d : Dat} (h : d ∈ ns.map Dat.int) : ∃ z, z ∈ ns ∧ d = .int z := by
  obtain ⟨i, hi, rfl⟩ := List.mem_map.mp h
  exact ⟨i, hi, rfl⟩
end B

namespace B
open PySem PySem.Spec PyProof.Rows L2

/-- a text -/
abbrev tx (l : List Nat) : Dat := .str (SX.S l)
/-- the part of a row from lo to hi -/
def cut {α : Type} (xs : List α) (lo hi : Option Int) : List α := (xs.drop (HT.sIx xs.length 0 lo)).take (HT.sIx xs.length xs.length hi - HT.sIx xs.length 0 lo)
theorem flats_cut {ds : List Dat} (f : flats ds = true) (lo hi : Option Int) : flats (cut ds lo hi) = true := by
  have h1 : ∀ (l : List Dat), flats l = l.all flat := by
    intro l
    induction l with
    | nil => rfl
    | cons d r ih => show (flat d && flats r) = _; rw [ih]; rfl
  rw [h1, List.all_eq_true] at f ⊢
  intro d hd
  exact f d (List.mem_of_mem_drop (List.mem_of_mem_take hd))

section
variable {X : Cx} {H0 : Hp} {ρ ρ1 ρ2 : Env'} {a b c e : Expr} {es : List Expr} {st : Stmt} {sts rest : List Stmt} {d d1 d2 : Dat} {ds : List Dat} {p pos : Pos} {o o1 : Outc} {x n : Str}

/-! ### sum, list, ord, int -/
theorem ev_sum {ns : List Int} (ha : EvB X H0 ρ a (.lst (ns.map .int))) (hc : X.calm = true) (hm : X.mg "sum" = none) (hg : Gl X "sum" := by rfl) (he : starEach [a] X.env = (false, eval a X.env) :: starEach [] X.env := by rfl) (hpl : (backTo pos (starEach [] X.env)).any (·.1) = false := by rfl) :
    Ev X H0 ρ (.Call (.Name "sum" p) [a] [] pos) (.int ns.sum) := ev_blt (cr_sum hc) hm (by decide +kernel) (eab1 ha he) (fun vs σ H N Q r q g => by
    obtain ⟨v, e1, e2⟩ := ats_one q
    obtain ⟨pp, us, e3, h1, h2⟩ := at_lst e2
    rw [h2.ints] at h1
    exact ⟨pp, ns, by rw [e1, e3], h1, goes_self g r (.int _)⟩) hg (by decide) (by decide) he hpl
theorem eo_list (ha : EvB X H0 ρ a (.lst ds)) (f : flats ds = true) (hm : X.mg "list" = none) (hg : Gl X "list" := by rfl) (he : starEach [a] X.env = (false, eval a X.env) :: starEach [] X.env := by rfl) (hpl : (backTo pos (starEach [] X.env)).any (·.1) = false := by rfl) :
    EvO X H0 ρ (.Call (.Name "list" p) [a] [] pos) (.lst ds) := fun σ H N rp =>
  we_of (pe_callTy call_list_of hg hm (by decide +kernel) pa_w (by decide) (by decide) he hpl) ((eab1 ha he σ H N rp).imp fun vs H1 ⟨N1, s1, n1, r1, a1⟩ => by
    obtain ⟨v, e1, e2⟩ := ats_one a1
    obtain ⟨pp, us, e3, h1, h2⟩ := at_lst e2
    obtain ⟨N2, n2, r2, k⟩ := r1.keep
    refine ⟨pp, us, by rw [e1, e3], .inl h1, fun l hl => ?_⟩
    obtain ⟨r3, n3⟩ := eo_new (o := .lst us) r2 hl
    exact ⟨N2, l, rfl, s1.free hl, s1.trans (Same.of_none hl), n1.trans n2, r3, n3, us, upd_same, (h2.imm f).mono k⟩)
theorem eo_listT (ha : EvB X H0 ρ a (.tup ds)) (f : flats ds = true) (hm : X.mg "list" = none) (hg : Gl X "list" := by rfl) (he : starEach [a] X.env = (false, eval a X.env) :: starEach [] X.env := by rfl) (hpl : (backTo pos (starEach [] X.env)).any (·.1) = false := by rfl) :
    EvO X H0 ρ (.Call (.Name "list" p) [a] [] pos) (.lst ds) := fun σ H N rp =>
  we_of (pe_callTy call_list_of hg hm (by decide +kernel) pa_w (by decide) (by decide) he hpl) ((eab1 ha he σ H N rp).imp fun vs H1 ⟨N1, s1, n1, r1, a1⟩ => by
    obtain ⟨v, e1, e2⟩ := ats_one a1
    obtain ⟨pp, us, e3, h1, h2⟩ := at_seq e2
    obtain ⟨N2, n2, r2, k⟩ := r1.keep
    refine ⟨pp, us, by rw [e1, e3], .inr h1, fun l hl => ?_⟩
    obtain ⟨r3, n3⟩ := eo_new (o := .lst us) r2 hl
    exact ⟨N2, l, rfl, s1.free hl, s1.trans (Same.of_none hl), n1.trans n2, r3, n3, us, upd_same, (h2.imm f).mono k⟩)
theorem ev_ord {k : Nat} (ha : Ev X H0 ρ a (tx [k])) (hm : X.mg "ord" = none) (hg : Gl X "ord" := by rfl) (he : starEach [a] X.env = (false, eval a X.env) :: starEach [] X.env := by rfl) (hpl : (backTo pos (starEach [] X.env)).any (·.1) = false := by rfl) :
    Ev X H0 ρ (.Call (.Name "ord" p) [a] [] pos) (.int (k : Int)) := ev_blt call_ord hm (by decide +kernel) (eab1 ha.toB he) (fun vs σ H N Q r q g => by
    obtain ⟨v, e1, e2⟩ := ats_one q
    rw [at_str e2] at e1
    exact ⟨_, e1, rfl, goes_self g r (.int _)⟩) hg (by decide) (by decide) he hpl
theorem ev_intB {k : Bool} (ha : Ev X H0 ρ a (.bl k)) (hm : X.mg "int" = none) (hg : Gl X "int" := by rfl) (he : starEach [a] X.env = (false, eval a X.env) :: starEach [] X.env := by rfl) (hpl : (backTo pos (starEach [] X.env)).any (·.1) = false := by rfl) :
    Ev X H0 ρ (.Call (.Name "int" p) [a] [] pos) (.int (if k then 1 else 0)) := ev_ty call_int1 hm (by decide +kernel) (eab1 ha.toB he) (fun vs σ H N Q r q g => by
    obtain ⟨v, e1, e2⟩ := ats_one q
    rw [at_bl e2] at e1
    exact .inr ⟨k, e1, goes_self g r (.int _)⟩) hg (by decide) (by decide) he hpl

/-! ### slices -/
/-- a part of a slice -/
def EvP (X : Cx) (H0 : Hp) (ρ : Env') (e : Option Expr) (o : Option Int) : Prop := ∃ t : TO, PO X e t ∧ ∀ σ H N, Rep X.K H0 ρ σ H N → ∀ Q : Option Int → Hp → Prop, (∀ H' N', Same H H' → Same N N' → Rep X.K H0 ρ σ H' N' → Q o H') → t σ H Q
theorem eo_none : EvP X H0 ρ none none := ⟨_, po_none, fun σ H N r Q k => k H N (Same.refl _) (Same.refl _) r⟩
theorem eo_some {i : Int} (h : Ev X H0 ρ e (.int i)) : EvP X H0 ρ (some e) (some i) := ⟨_, po_some pe_w, fun σ H N r Q k => (h σ H N r).imp fun v H' ⟨N', s, n, r', a⟩ => ⟨i, at_int a, k H' N' s n r'⟩⟩
section
variable {lo hi : Option Expr} {l h : Option Int} {p2 : Pos}
theorem ev_slS {z : Str} (ha : Ev X H0 ρ a (.str z)) (hl : EvP X H0 ρ lo l) (hh : EvP X H0 ρ hi h) (hz : z.length ≤ sizeLine) : Ev X H0 ρ (.Subscript a (.Slice lo hi none p2) pos) (.str (Txt.slice z l h)) := fun σ H N rp => by
  obtain ⟨tl, pl, kl⟩ := hl
  obtain ⟨th, ph, kh⟩ := hh
  exact we_of (pe_slice C8.sl_txt pe_w pl ph) ((ha σ H N rp).imp fun v H1 ⟨N1, s1, n1, r1, a1⟩ => kl σ H1 N1 r1 _ fun H2 N2 s2 n2 r2 => kh σ H2 N2 r2 _ fun H3 N3 s3 n3 r3 =>
    ⟨z, at_str a1, hz, N3, (s1.trans s2).trans s3, (n1.trans n2).trans n3, r3, .str _⟩)
theorem eo_slL (ha : EvB X H0 ρ a (.lst ds)) (hl : EvP X H0 ρ lo l) (hh : EvP X H0 ρ hi h) (f : flats ds = true) : EvO X H0 ρ (.Subscript a (.Slice lo hi none p2) pos) (.lst (cut ds l h)) := fun σ H N rp => by
  obtain ⟨tl, pl, kl⟩ := hl
  obtain ⟨th, ph, kh⟩ := hh
  refine we_of (pe_slice sl_list pe_w pl ph) ((ha σ H N rp).imp fun v H1 ⟨N1, s1, n1, r1, a1⟩ => kl σ H1 N1 r1 _ fun H2 N2 s2 n2 r2 => kh σ H2 N2 r2 _ fun H3 N3 s3 n3 r3 => ?_)
  obtain ⟨pp, us, e3, h1, h2⟩ := at_lst ((a1.mono s2).mono s3)
  obtain ⟨N4, n4, r4, k⟩ := r3.keep
  refine ⟨pp, us, e3, h1, fun q hq => ?_⟩
  obtain ⟨r5, n5⟩ := eo_new (o := .lst (cutV us l h)) r4 hq
  refine ⟨N4, q, rfl, ((s1.trans s2).trans s3).free hq, ((s1.trans s2).trans s3).trans (Same.of_none hq), ((n1.trans n2).trans n3).trans n4, r5, n5, _, upd_same, ?_⟩
  have := ((h2.imm f).mono k)
  unfold cutV cut
  rw [h2.length]
  exact (this.drop _).take _
theorem ev_slT (ha : Ev X H0 ρ a (.tup ds)) (hl : EvP X H0 ρ lo l) (hh : EvP X H0 ρ hi h) : Ev X H0 ρ (.Subscript a (.Slice lo hi none p2) pos) (.tup (cut ds l h)) := fun σ H N rp => by
  obtain ⟨tl, pl, kl⟩ := hl
  obtain ⟨th, ph, kh⟩ := hh
  refine we_of (pe_slice sl_tupA pe_w pl ph) ((ha σ H N rp).imp fun v H1 ⟨N1, s1, n1, r1, a1⟩ => kl σ H1 N1 r1 _ fun H2 N2 s2 n2 r2 => kh σ H2 N2 r2 _ fun H3 N3 s3 n3 r3 => ?_)
  obtain ⟨pp, us, e3, h1, h2⟩ := at_seq ((a1.mono n2).mono n3)
  refine ⟨pp, us, e3, sqt_same r3.sub h1, fun hw => ?_, fun hw q hq => ?_⟩
  · refine ⟨N3, (s1.trans s2).trans s3, (n1.trans n2).trans n3, r3, ?_⟩
    have e : cut ds l h = ds := by
      unfold cut
      rw [h2.length] at hw
      rw [hw.1, hw.2]
      simp
    rw [e]
    exact .tup h1 h2
  · obtain ⟨r5, n5⟩ := r3.new (o := .tup (cutV us l h)) hq
    have hh : ∀ Z, Ats X.K Z us ds → Ats X.K Z (cutV us l h) (cut ds l h) := fun Z z => by
      unfold cutV cut
      rw [h2.length]
      exact (z.drop _).take _
    exact ⟨_, ((s1.trans s2).trans s3).trans (Same.of_none hq), ((n1.trans n2).trans n3).trans n5, r5, .tup (.inl (.inl upd_same)) (hh _ (h2.mono n5))⟩
end

/-! ### texts -/
theorem ev_ixX {l : List Nat} {i : Int} {k : Nat} (ha : Ev X H0 ρ a (tx l)) (hb : Ev X H0 ρ b (.int i)) (hz : l.length ≤ sizeLine) (q : atI l i = some k) (hs : PlainIx b := by exact fun _ _ => rfl) : Ev X H0 ρ (.Subscript a b pos) (tx [k]) :=
  ev_ixS (z := SX.S l) ha hb (by rw [SX.S_len]; exact hz) q hs
theorem ev_catX {l m : List Nat} (ha : Ev X H0 ρ a (tx l)) (hb : Ev X H0 ρ b (tx m)) (hz : l.length + m.length ≤ sizeLine) : Ev X H0 ρ (.BinOp a .Add b pos) (tx (l ++ m)) := by
  have := ev_cat (pos := pos) ha hb (by rw [SX.S_len, SX.S_len]; exact hz)
  rw [SX.S_cat] at this
  exact this
theorem et_eqX {l m : List Nat} (ha : Ev X H0 ρ a (tx l)) (hb : Ev X H0 ρ b (tx m)) : EvT X H0 ρ (.Compare a [.Eq] [b] pos) (decide (l = m)) := by
  have := et_eqS (pos := pos) ha hb
  rw [show decide (SX.S l = SX.S m) = decide (l = m) from decide_eq_decide.mpr ⟨SX.S_inj, fun e => by rw [e]⟩] at this
  exact this
theorem ev_eqX {l m : List Nat} (ha : Ev X H0 ρ a (tx l)) (hb : Ev X H0 ρ b (tx m)) : Ev X H0 ρ (.Compare a [.Eq] [b] pos) (.bl (decide (l = m))) := by
  have := ev_eqS (pos := pos) ha hb
  rw [show decide (SX.S l = SX.S m) = decide (l = m) from decide_eq_decide.mpr ⟨SX.S_inj, fun e => by rw [e]⟩] at this
  exact this
theorem et_neX {l m : List Nat} (ha : Ev X H0 ρ a (tx l)) (hb : Ev X H0 ρ b (tx m)) : EvT X H0 ρ (.Compare a [.NotEq] [b] pos) (!decide (l = m)) := by
  have := et_neS (pos := pos) ha hb
  rw [show decide (SX.S l = SX.S m) = decide (l = m) from decide_eq_decide.mpr ⟨SX.S_inj, fun e => by rw [e]⟩] at this
  exact this
theorem ev_neX {l m : List Nat} (ha : Ev X H0 ρ a (tx l)) (hb : Ev X H0 ρ b (tx m)) : Ev X H0 ρ (.Compare a [.NotEq] [b] pos) (.bl (!decide (l = m))) := by
  have := ev_neS (pos := pos) ha hb
  rw [show decide (SX.S l = SX.S m) = decide (l = m) from decide_eq_decide.mpr ⟨SX.S_inj, fun e => by rw [e]⟩] at this
  exact this
theorem et_inX {k : Nat} {l : List Nat} (ha : Ev X H0 ρ a (tx [k])) (hb : Ev X H0 ρ b (tx l)) (hm : behindInMarks .In b = false := by rfl) : EvT X H0 ρ (.Compare a [.In] [b] pos) (decide (k ∈ l)) :=
  evt_bin (fun _ _ h k => pt_cmpR op_in_sign h k hm) ha.toB hb.toB fun x y σ H N Q r p q g => ⟨k, SX.S l, at_str p, at_str q, goes_self g r (.bl _)⟩
theorem et_ninX {k : Nat} {l : List Nat} (ha : Ev X H0 ρ a (tx [k])) (hb : Ev X H0 ρ b (tx l)) (hm : behindInMarks .NotIn b = false := by rfl) : EvT X H0 ρ (.Compare a [.NotIn] [b] pos) (!decide (k ∈ l)) :=
  evt_bin (fun _ _ h k => pt_cmpR op_notIn_sign h k hm) ha.toB hb.toB fun x y σ H N Q r p q g => ⟨k, SX.S l, at_str p, at_str q, goes_self g r (.bl _)⟩
theorem ev_inX {k : Nat} {l : List Nat} (ha : Ev X H0 ρ a (tx [k])) (hb : Ev X H0 ρ b (tx l)) (hm : behindInMarks .In b = false := by rfl) : Ev X H0 ρ (.Compare a [.In] [b] pos) (.bl (decide (k ∈ l))) :=
  ev_bin (fun _ _ h k => pe_cmpR op_in_sign h k hm) ha.toB hb.toB fun x y σ H N Q r p q g => ⟨k, SX.S l, at_str p, at_str q, goes_self g r (.bl _)⟩
theorem ev_ninX {k : Nat} {l : List Nat} (ha : Ev X H0 ρ a (tx [k])) (hb : Ev X H0 ρ b (tx l)) (hm : behindInMarks .NotIn b = false := by rfl) : Ev X H0 ρ (.Compare a [.NotIn] [b] pos) (.bl (!decide (k ∈ l))) :=
  ev_bin (fun _ _ h k => pe_cmpR op_notIn_sign h k hm) ha.toB hb.toB fun x y σ H N Q r p q g => ⟨k, SX.S l, at_str p, at_str q, goes_self g r (.bl _)⟩
theorem it_tx {t : Expr} {l : List Nat} (h : Ev X H0 ρ e (tx l)) : Iter X H0 ρ t e (l.map fun k => tx [k]) := it_str (z := SX.S l) h

theorem ev_lit {z : Str} {l : List Nat} {j} (h : z = SX.S l := by decide +kernel) : Ev X H0 ρ (.Constant (.str z) j pos) (tx l) := by
  subst h
  exact ev_str

/-! ### methods of texts -/
theorem ev_m1 {id : String} {name : Str} {apos : Pos} {r : V → List V → Hp → VK → Prop} {z : Str} (slot : Slot "str" name id) (ty : typeOf (.builtin id) = pure (.type "method_descriptor")) (rule : MtR X id r) (ha : Ev X H0 ρ a (.str z)) (hb : EvB X H0 ρ b d1)
    (hr : ∀ y σ H N Q, Rep X.K H0 ρ σ H N → At X.K H y d1 → Goes X.K H0 ρ σ H N d Q → r (.str z) [y] H Q)
    (hs : starEach [b] X.env = [(false, eval b X.env)] := by rfl) (hbase : attributeBase a name X.env (eval a X.env) = eval a X.env := by rfl) (hline : (apos.endLine == pos.line) = true := by rfl) :
    Ev X H0 ρ (.Call (.Attribute a name apos) [b] [] pos) d := fun σ H N rp =>
  we_of (pe_m1 slot ty rule pe_w pe_w hs hbase hline) ((ha σ H N rp).imp fun v H1 ⟨N1, s1, n1, r1, a1⟩ => by
    rw [at_str a1]
    exact ⟨⟨z, rfl⟩, (hb σ H1 N1 r1).imp fun y H2 ⟨N2, s2, n2, r2, a2⟩ => hr y σ H2 N2 _ r2 a2 fun v H' N' s n rr aa => ⟨N', (s1.trans s2).trans s, (n1.trans n2).trans n, rr, aa⟩⟩)
section
variable {z y : Str} {apos : Pos} (ha : Ev X H0 ρ a (.str z)) (hb : Ev X H0 ρ b (.str y)) (hs : starEach [b] X.env = [(false, eval b X.env)]) (hline : (apos.endLine == pos.line) = true)
include ha hb hs hline
theorem ev_find0 (hbase : attributeBase a "find" X.env (eval a X.env) = eval a X.env) : Ev X H0 ρ (.Call (.Attribute a "find" apos) [b] [] pos) (.int (Txt.find z y)) :=
  ev_m1 F.slot_str_find F.type_str_find mt_find ha hb.toB (fun v σ H N Q r q g => ⟨z, y, rfl, by rw [at_str q], goes_self g r (.int _)⟩) hs hbase hline
theorem ev_count0 (hbase : attributeBase a "count" X.env (eval a X.env) = eval a X.env) : Ev X H0 ρ (.Call (.Attribute a "count" apos) [b] [] pos) (.int (Txt.count z y)) :=
  ev_m1 F.slot_str_count F.type_str_count mt_count ha hb.toB (fun v σ H N Q r q g => ⟨z, y, rfl, by rw [at_str q], goes_self g r (.int _)⟩) hs hbase hline
theorem ev_starts0 (hbase : attributeBase a "startswith" X.env (eval a X.env) = eval a X.env) : Ev X H0 ρ (.Call (.Attribute a "startswith" apos) [b] [] pos) (.bl (Txt.startswith z y)) :=
  ev_m1 F.slot_str_startswith F.type_str_startswith mt_startswith ha hb.toB (fun v σ H N Q r q g => ⟨z, y, rfl, by rw [at_str q], goes_self g r (.bl _)⟩) hs hbase hline
end
theorem ats_strs {K : PySem.W.Frag} {H : Hp} : ∀ {vs : List V} {ys : List Str}, Ats K H vs (ys.map .str) → vs = ys.map .str
  | [], [], _ => rfl
  | _ :: _, n :: ns, .cons a t => by
    cases a
    rw [ats_strs t]
    rfl
  | [], _ :: _, h => by cases h
  | _ :: _, [], h => by cases h
theorem ev_join {z : Str} {ys : List Str} {apos : Pos} (ha : Ev X H0 ρ a (.str z)) (hb : EvB X H0 ρ b (.lst (ys.map .str))) (hz : (ys.map (·.length)).sum + ys.length * z.length ≤ 16777216)
    (hs : starEach [b] X.env = [(false, eval b X.env)] := by rfl) (hbase : attributeBase a "join" X.env (eval a X.env) = eval a X.env := by rfl) (hline : (apos.endLine == pos.line) = true := by rfl) :
    Ev X H0 ρ (.Call (.Attribute a "join" apos) [b] [] pos) (.str (Txt.join z ys)) :=
  ev_m1 F.slot_str_join F.type_str_join mt_join ha hb (fun v σ H N Q r q g => by
    obtain ⟨pp, us, e3, h1, h2⟩ := at_lst q
    rw [ats_strs h2] at h1
    exact ⟨z, pp, ys, rfl, by rw [e3], .inl h1, hz, goes_self g r (.str _)⟩) hs hbase hline
end

/-! ### data that may be compared -/
def okn : Nat → Dat → Bool
  | _, .non => true
  | _, .bl _ => true
  | _, .int _ => true
  | _, .str s => PyData.strOk s
  | n + 1, .tup ds => ds.all (okn n)
  | n + 1, .lst ds => ds.all (okn n)
  | 0, .tup _ => false
  | 0, .lst _ => false
  | _, .dic _ => false
theorem okn_ok : ∀ (n : Nat) (d : Dat), okn n d = true → nodic d = true ∧ (pd d).canLay0 = true ∧ (pd d).depth ≤ n
  | n, .non, _ => ⟨rfl, rfl, Nat.zero_le _⟩
  | n, .bl _, _ => ⟨rfl, rfl, Nat.zero_le _⟩
  | n, .int _, _ => ⟨rfl, rfl, Nat.zero_le _⟩
  | n, .str s, h => by
    have h' : PyData.strOk s = true := by cases n <;> exact h
    exact ⟨rfl, h', Nat.zero_le _⟩
  | n + 1, .tup ds, h => by
    have k : ∀ ds : List Dat, ds.all (okn n) = true → nodics ds = true ∧ PyData.canLayAll0 (pds ds) = true ∧ PyData.depthAll (pds ds) ≤ n := by
      intro ds
      induction ds with
      | nil => intro _; exact ⟨rfl, rfl, Nat.zero_le _⟩
      | cons d r ih =>
        intro q
        rw [List.all_cons, Bool.and_eq_true] at q
        obtain ⟨a1, a2, a3⟩ := okn_ok n d q.1
        obtain ⟨b1, b2, b3⟩ := ih q.2
        refine ⟨?_, ?_, ?_⟩
        · show (nodic d && nodics r) = true; rw [a1, b1]; rfl
        · show ((pd d).canLay0 && PyData.canLayAll0 (pds r)) = true; rw [a2, b2]; rfl
        · show max (pd d).depth (PyData.depthAll (pds r)) ≤ n; omega
    obtain ⟨c1, c2, c3⟩ := k ds h
    exact ⟨c1, c2, Nat.succ_le_succ c3⟩
  | n + 1, .lst ds, h => by
    have k : ∀ ds : List Dat, ds.all (okn n) = true → nodics ds = true ∧ PyData.canLayAll0 (pds ds) = true ∧ PyData.depthAll (pds ds) ≤ n := by
      intro ds
      induction ds with
      | nil => intro _; exact ⟨rfl, rfl, Nat.zero_le _⟩
      | cons d r ih =>
        intro q
        rw [List.all_cons, Bool.and_eq_true] at q
        obtain ⟨a1, a2, a3⟩ := okn_ok n d q.1
        obtain ⟨b1, b2, b3⟩ := ih q.2
        refine ⟨?_, ?_, ?_⟩
        · show (nodic d && nodics r) = true; rw [a1, b1]; rfl
        · show ((pd d).canLay0 && PyData.canLayAll0 (pds r)) = true; rw [a2, b2]; rfl
        · show max (pd d).depth (PyData.depthAll (pds r)) ≤ n; omega
    obtain ⟨c1, c2, c3⟩ := k ds h
    exact ⟨c1, c2, Nat.succ_le_succ c3⟩
  | 0, .tup _, h => by cases h
  | 0, .lst _, h => by cases h
  | n, .dic _, h => by cases n <;> cases h
theorem okD_of {n : Nat} {d : Dat} (h : okn n d = true) (hn : n ≤ 64 := by decide) : okD d = true := by
  obtain ⟨a1, a2, a3⟩ := okn_ok n d h
  unfold okD SeqAt.shaped
  rw [a1, a2, decide_eq_true (Nat.le_trans a3 hn)]
  rfl
theorem okD_ints (ns : List Int) : okD (.lst (ns.map .int)) = true := okD_of (n := 1) (by show (ns.map Dat.int).all (okn 0) = true; rw [List.all_map]; exact List.all_eq_true.mpr fun _ _ => rfl)
theorem eqv_ints : ∀ (ns ms : List Int), PyData.eqv (pd (.lst (ns.map .int))) (pd (.lst (ms.map .int))) = decide (ns = ms)
  | [], [] => rfl
  | [], _ :: _ => rfl
  | _ :: _, [] => rfl
  | n :: ns, m :: ms => by
    have ih := eqv_ints ns ms
    show ((n == m) && PyData.eqvAll (pds (ns.map .int)) (pds (ms.map .int))) = _
    have ih' : PyData.eqvAll (pds (ns.map .int)) (pds (ms.map .int)) = decide (ns = ms) := ih
    rw [ih']
    by_cases h1 : n = m
    · subst h1
      simp
    · simp [h1]
/-- a loop over a row, the state by the number of turns -/
theorem for_rows {X : Cx} {H0 : Hp} {bd : Dat → Env' → Env'} {body : List Stmt} : ∀ {ds : List Dat} (ρ : Nat → Env'), (∀ (i : Nat) (d : Dat), ds[i]? = some d → Exec X H0 (bd d (ρ i)) body (.nx (ρ (i + 1)))) → ForT X H0 bd body ds (ρ 0) (.nx (ρ ds.length))
  | [], _, _ => .nil
  | d :: ds, ρ, h => .turn (h 0 d rfl) (for_rows (fun i => ρ (i + 1)) fun i e he => h (i + 1) e he)
theorem for_steps {X : Cx} {H0 : Hp} {bd : Dat → Env' → Env'} {body : List Stmt} {lo c : Int} {n : Nat} (ρ : Nat → Env') (h : ∀ i : Nat, i < n → Exec X H0 (bd (.int (lo + (i : Int) * c)) (ρ i)) body (.nx (ρ (i + 1)))) : ForT X H0 bd body (steps lo c n) (ρ 0) (.nx (ρ n)) := by
  have := for_rows (X := X) (H0 := H0) (bd := bd) (body := body) (ds := steps lo c n) ρ (fun i d hd => by
    have hi : i < n := by have := lt_of_get hd; rwa [steps_len] at this
    rw [steps_get hi] at hd
    cases hd
    exact h i hi)
  rwa [steps_len] at this
theorem flats_ints (ns : List Int) : flats (ns.map .int) = true := by
  induction ns with
  | nil => rfl
  | cons n ns ih => exact ih
end B

namespace B
open PySem PySem.Spec PyProof.Rows L2

/-! ### a text so many times -/
theorem foldl_cat {α : Type} (l : List α) : ∀ (k : Nat) (acc : Array α), ((List.replicate k l.toArray).foldl (· ++ ·) acc) = (acc.toList ++ (List.replicate k l).flatten).toArray
  | 0, acc => by simp
  | k + 1, acc => by
    rw [List.replicate_succ, List.foldl_cons, foldl_cat l k, List.replicate_succ, List.flatten_cons]
    simp [List.append_assoc]
theorem mul_S {l : List Nat} {n : Int} : Txt.mul (SX.S l) n = SX.S (List.replicate n.toNat l).flatten := by
  unfold Txt.mul
  by_cases h1 : n < 1
  · rw [if_pos h1, show n.toNat = 0 by omega]
    rfl
  · rw [if_neg h1]
    split
    · rename_i h
      rw [Bool.or_eq_true] at h
      rcases h with h | h
      · rw [eq_of_beq h]
        show _ = SX.S (List.replicate 1 l).flatten
        simp
      · have e : l = [] := by
          have := eq_of_beq h
          rw [SX.S_len] at this
          exact List.length_eq_zero_iff.mp this
        subst e
        simp
    · have := foldl_cat l n.toNat #[]
      show (⟨(List.replicate n.toNat l.toArray).foldl (· ++ ·) #[]⟩ : Str) = _
      rw [this]
      simp
theorem op_mul_str {X : Cx} : OpR X (binaryOp .Mult) (fun x y H Q => ∃ z n, x = .str z ∧ y = .int n ∧ MulOk z n ∧ Q (.str (Txt.mul z n)) H) := by
  intro pins s σ H x y v u Q I rx ry h
  obtain ⟨i, j, rfl, rfl, hz, q⟩ := h
  obtain ⟨t, rfl⟩ := rx
  obtain ⟨t', rfl⟩ := ry
  exact SB.mul hz fun t' k => ⟨.str _, H, I.tok k, ⟨_, rfl⟩, q⟩
theorem mulOk_small {l : List Nat} {n : Int} (h1 : -100000 ≤ n) (h2 : n ≤ 100000) (h3 : l.length ≤ 100) : MulOk (SX.S l) n := by
  refine ⟨?_, fun a b => ?_, fun a b => ?_⟩
  · rw [decide_eq_false (by omega), decide_eq_false (by omega)]; rfl
  · rw [SX.S_len]
    have : (2 ^ 63 - 1) / 100000 ≤ (2 ^ 63 - 1) / n := by
      rw [Int.le_ediv_iff_mul_le (by omega)]
      have : (2 ^ 63 - 1) / 100000 * n ≤ (2 ^ 63 - 1) / 100000 * 100000 := Int.mul_le_mul_of_nonneg_left h2 (by decide)
      omega
    omega
  · rw [SX.S_len]
    have : l.length * n.toNat ≤ 100 * 100000 := Nat.mul_le_mul h3 (by omega)
    have e : sizeLine = 16777216 := by decide
    unfold Builtin.Str.tooLong
    first | exact decide_eq_false (by omega) | (simp; omega)

section
variable {X : Cx} {H0 : Hp} {ρ ρ1 ρ2 : Env'} {a b c e : Expr} {es : List Expr} {st : Stmt} {sts rest : List Stmt} {d d1 d2 : Dat} {ds : List Dat} {p pos : Pos} {o o1 : Outc} {x n : Str} {k : Nat}
theorem ev_repX {l : List Nat} {k : Int} (ha : Ev X H0 ρ a (tx l)) (hb : Ev X H0 ρ b (.int k)) (h : MulOk (SX.S l) k) : Ev X H0 ρ (.BinOp a .Mult b pos) (tx (List.replicate k.toNat l).flatten) :=
  ev_bin (fun _ _ h k => pe_op op_mul_str h k) ha.toB hb.toB fun x y σ H N Q r p q g => ⟨_, _, at_str p, at_int q, h, by rw [mul_S]; exact goes_self g r (.str _)⟩

/-! ### shifts to the left, wide -/
theorem ev_shlW {i : Int} {k : Nat} (ha : Ev X H0 ρ a (.int i)) (hb : Ev X H0 ρ b (.int (k : Int))) (h : CShl i (k : Int)) : Ev X H0 ρ (.BinOp a .LShift b pos) (.int (i * 2 ^ k)) := by
  have := ev_intop (pos := pos) ha hb (g := fun i j => i * 2 ^ j.toNat) op_shlW h
  rwa [Int.toNat_natCast] at this

/-! ### x += y -/
theorem sx_augI (i : Nat) {y : Str} {pos' : Pos} {k j : Int} (hi : ρ[i]? = some (.im (.int k))) (h : Ev X H0 ρ e (.int j)) (nd : X.N.Nodup) (hρ : ρ.set i (.im (.int (k + j))) = ρ1 := by rfl) (hN : X.N[i]? = some y := by rfl) (hx : Loc X.env.scope y := by first | exact Or.inl rfl | exact Or.inr rfl)
    (hp : ∀ te, PE X e te → PS X (.AugAssign (.Name y pos') .Add e pos) (tAug i te (ipI fun i j => i + j)) := by exact fun te h => ps_aug (by assumption) rfl (by first | exact Or.inl rfl | exact Or.inr rfl) h ip_add) :
    ExS X H0 ρ (.AugAssign (.Name y pos') .Add e pos) (.nx ρ1) := fun D σ H N r k => by
  obtain ⟨v, h1, h2⟩ := r.im i _ hi
  refine ws_of (hp _ pe_w) ⟨v, h1, (h σ H N r).imp fun w H' ⟨N', s, n, r', a⟩ => ⟨_, _, at_int h2, at_int a, k _ H' N' n (hρ ▸ r'.setE (e := .im (.int _)) (.int _))⟩⟩

/-! ### items of an owned list are set -/
theorem sx_setIx (i : Nat) {y : Str} {p1 p2 : Pos} {ix : Expr} {k : Int} {j : Nat} (hi : ρ[i]? = some (.ow (.lst ds))) (hv : Ev X H0 ρ e d) (hx : Ev X H0 ρ ix (.int k)) (hj : ixN ds.length k = some j) (hρ : ρ.set i (.ow (.lst (ds.set j d))) = ρ1 := by rfl) (hN : X.N[i]? = some y := by rfl)
    (hvis : Vis X.env.scope y := by first | exact Or.inl rfl | exact Or.inr (Or.inl rfl) | exact Or.inr (Or.inr rfl)) (hd : (y == ("__debug__" : Str)) = false := by decide) (hcd : (y == ("__classdict__" : Str)) = false := by decide)
    (hp : ∀ te to ti, PE X e te → PE X (.Name y p1) to → PE X ix ti → PS X (.Assign [.Subscript (.Name y p1) ix p2] e pos) (tAsg te (gSub to ti rSetL)) := by exact fun te to ti h g f => ps_asg h (pg_sub g f set_list)) :
    ExS X H0 ρ (.Assign [.Subscript (.Name y p1) ix p2] e pos) (.nx ρ1) := fun D σ H N r kk => by
  refine ws_of (hp _ _ _ pe_w (pv i hN hvis hd hcd) pe_w) ((hv σ H N r).imp fun v H1 ⟨N1, s1, n1, r1, a1⟩ => ?_)
  obtain ⟨q, g1, g2, g3, vs, g4, g5⟩ := r1.ow i _ hi
  refine ⟨_, g1, (hx σ H1 N1 r1).imp fun w H2 ⟨N2, s2, n2, r2, a2⟩ => ?_⟩
  obtain ⟨q', f1, f2, f3, us, f4, f5⟩ := r2.ow i _ hi
  rw [g1] at f1
  cases f1
  refine ⟨q, us, k, j, rfl, at_int a2, f4, by rw [f5.length]; exact hj, kk σ _ N2 (n1.trans n2) ?_⟩
  exact hρ ▸ r2.write hi g1 ⟨us.set j v, upd_same, f5.set (a1.mono n2) j⟩
/-- o[i], an item of a list, by values -/
def rGetL : V → V → Hp → VK → Prop := fun o i H Q => ∃ p xs j v, o = .ref p ∧ i = .int ((j : Nat) : Int) ∧ H p = some (.lst xs) ∧ xs[j]? = some v ∧ Q v H
theorem get_list : PGet X rGetL := by
  intro pins s σ H o i ov iv Q I ro ri h
  obtain ⟨p, xs, j, z, rfl, rfl, hp, he, q⟩ := h
  cases ro
  obtain ⟨t, rfl⟩ := ri
  obtain ⟨its, r, pl, hz⟩ := I.list (.inl (.inl hp))
  obtain ⟨w, ew, rw'⟩ := r.get he
  have hj := lt_of_get he
  have hl := r.length
  have hn := line63
  exact wpAny_getItem_list pl.isList (by omega) (by omega) (by simpa using ew) ⟨z, H, I, rw', q⟩
theorem sx_augIx (i : Nat) {y : Str} {p1 p2 : Pos} {ix : Expr} {k l : Int} {j : Nat} (hi : ρ[i]? = some (.ow (.lst ds))) (hx : Ev X H0 ρ ix (.int (j : Int))) (hj : ds[j]? = some (.int k)) (hv : Ev X H0 ρ e (.int l)) (hρ : ρ.set i (.ow (.lst (ds.set j (.int (k + l))))) = ρ1 := by rfl) (hN : X.N[i]? = some y := by rfl)
    (hvis : Vis X.env.scope y := by first | exact Or.inl rfl | exact Or.inr (Or.inl rfl) | exact Or.inr (Or.inr rfl)) (hd : (y == ("__debug__" : Str)) = false := by decide) (hcd : (y == ("__classdict__" : Str)) = false := by decide)
    (hp : ∀ te to ti, PE X e te → PE X (.Name y p1) to → PE X ix ti → PS X (.AugAssign (.Subscript (.Name y p1) ix p2) .Add e pos) (tAugS to ti te rGetL (ipI fun i j => i + j) rSetL) := by exact fun te to ti h g f => ps_augS g f get_list h ip_add set_list) :
    ExS X H0 ρ (.AugAssign (.Subscript (.Name y p1) ix p2) .Add e pos) (.nx ρ1) := fun D σ H N r kk => by
  obtain ⟨q, g1, g2, g3, vs, g4, g5⟩ := r.ow i _ hi
  refine ws_of (hp _ _ _ pe_w (pv i hN hvis hd hcd) pe_w) ⟨_, g1, (hx σ H N r).imp fun w H1 ⟨N1, s1, n1, r1, a1⟩ => ?_⟩
  obtain ⟨q', f1, f2, f3, us, f4, f5⟩ := r1.ow i _ hi
  rw [g1] at f1
  cases f1
  obtain ⟨z, z1, z2⟩ := f5.get hj
  refine ⟨q, us, j, z, rfl, at_int a1, f4, z1, (hv σ H1 N1 r1).imp fun u H2 ⟨N2, s2, n2, r2, a2⟩ => ⟨k, l, at_int z2, at_int a2, ?_⟩⟩
  obtain ⟨q', f1, f2, f3, us2, f6, f7⟩ := r2.ow i _ hi
  rw [g1] at f1
  cases f1
  have hlt : j < us2.length := by rw [f7.length]; exact lt_of_get hj
  refine ⟨q, us2, j, j, rfl, at_int a1, f6, ?_, kk σ _ N2 (n1.trans n2) ?_⟩
  · unfold ixN
    rw [if_pos (by omega), if_pos (by omega), Int.toNat_natCast]
  · exact hρ ▸ r2.write hi g1 ⟨us2.set j (.int (k + l)), upd_same, f7.set (.int _) j⟩

/-! ### casts, joins, ends by an error -/
theorem eb_to (h : EvB X H0 ρ e d1) (hk : d1 = d) : EvB X H0 ρ e d := hk ▸ h
theorem eo_to (h : EvO X H0 ρ e d1) (hk : d1 = d) : EvO X H0 ρ e d := hk ▸ h
theorem ev_joinX {l : List Nat} {yss : List (List Nat)} {apos : Pos} (ha : Ev X H0 ρ a (tx l)) (hb : EvB X H0 ρ b (.lst (yss.map tx))) (hz : (yss.map (·.length)).sum + yss.length * l.length ≤ 16777216)
    (hs : starEach [b] X.env = [(false, eval b X.env)] := by rfl) (hbase : attributeBase a "join" X.env (eval a X.env) = eval a X.env := by rfl) (hline : (apos.endLine == pos.line) = true := by rfl) :
    Ev X H0 ρ (.Call (.Attribute a "join" apos) [b] [] pos) (tx (TL.joinL l yss)) := by
  have h := ev_join (z := SX.S l) (ys := yss.map SX.S) (apos := apos) (pos := pos) ha (by rw [List.map_map]; exact hb) (by rw [SX.lens, List.length_map, SX.S_len]; exact hz) hs hbase hline
  rw [SX.join_S] at h
  exact h
theorem Rep.nos {K : PySem.W.Frag} {H N : Hp} {σ : L2.St} (r : Rep K H0 ρ σ H N) : Rep K H0 (List.replicate ρ.length .no) σ H N where
  old := r.old
  sub := r.sub
  imm := r.imm
  fresh := r.fresh
  len := by rw [List.length_replicate, r.len]
  im := fun i d h => by rw [List.getElem?_replicate] at h; split at h <;> cases h
  ol := fun i d h => by rw [List.getElem?_replicate] at h; split at h <;> cases h
  ow := fun i d h => by rw [List.getElem?_replicate] at h; split at h <;> cases h
  rf := fun i a h => by rw [List.getElem?_replicate] at h; split at h <;> cases h
  apart := fun i j d d' p _ h => by rw [List.getElem?_replicate] at h; split at h <;> cases h
/-- behind an error nothing is asked of the names -/
theorem ex_nos (h : Exec X H0 ρ sts (.ex n ρ1)) (hk : ρ1.length = k) : Exec X H0 ρ sts (.ex n (List.replicate k .no)) := fun D σ H N r ⟨W, tk, q⟩ =>
  h D σ H N r ⟨W, tk, fun C σ' H' N' m s r' => q C σ' H' N' m s (hk ▸ r'.nos)⟩
end
theorem slice_cut (l : List Nat) (lo hi : Option Int) : Txt.slice (SX.S l) lo hi = SX.S (cut l lo hi) := by
  rw [← C8.cutS_slice]
  unfold cutS cut
  rw [SX.S_len]
theorem ev_slX {X : Cx} {H0 : Hp} {ρ : Env'} {a : Expr} {pos p2 : Pos} {lo hi : Option Expr} {i j : Option Int} {l : List Nat} (ha : Ev X H0 ρ a (tx l)) (hl : EvP X H0 ρ lo i) (hh : EvP X H0 ρ hi j) (hz : l.length ≤ sizeLine) : Ev X H0 ρ (.Subscript a (.Slice lo hi none p2) pos) (tx (cut l i j)) := by
  have := ev_slS (pos := pos) (p2 := p2) (z := SX.S l) ha hl hh (by rw [SX.S_len]; exact hz)
  rw [slice_cut] at this
  exact this
theorem cut_to {α : Type} {l : List α} {i : Int} (h : 0 ≤ i) : cut l none (some i) = l.take i.toNat := by
  obtain ⟨k, rfl⟩ := Int.eq_ofNat_of_zero_le h
  show (l.drop 0).take (HT.sIx l.length l.length (some ((k : Nat) : Int)) - 0) = _
  rw [HT.sIx_nat, List.drop_zero, Nat.sub_zero, Int.toNat_natCast]
  by_cases hk : k ≤ l.length
  · rw [Nat.min_eq_left hk]
  · rw [Nat.min_eq_right (by omega), List.take_of_length_le (Nat.le_refl _), List.take_of_length_le (by omega)]
theorem cut_from {α : Type} {l : List α} {i : Int} (h : 0 ≤ i) : cut l (some i) none = l.drop i.toNat := by
  obtain ⟨k, rfl⟩ := Int.eq_ofNat_of_zero_le h
  show (l.drop (HT.sIx l.length 0 (some ((k : Nat) : Int)))).take (l.length - HT.sIx l.length 0 (some ((k : Nat) : Int))) = _
  rw [HT.sIx_nat, Int.toNat_natCast]
  by_cases hk : k ≤ l.length
  · rw [Nat.min_eq_left hk, List.take_of_length_le (by rw [List.length_drop]; omega)]
  · rw [Nat.min_eq_right (by omega), List.drop_of_length_le (Nat.le_refl _), List.drop_of_length_le (by omega)]
    simp
theorem cut_mid {α : Type} {l : List α} {i j : Int} (h : 0 ≤ i) (h2 : 0 ≤ j) : cut l (some i) (some j) = (l.take j.toNat).drop i.toNat := by
  obtain ⟨k, rfl⟩ := Int.eq_ofNat_of_zero_le h
  obtain ⟨m, rfl⟩ := Int.eq_ofNat_of_zero_le h2
  show (l.drop (HT.sIx l.length 0 (some ((k : Nat) : Int)))).take (HT.sIx l.length l.length (some ((m : Nat) : Int)) - HT.sIx l.length 0 (some ((k : Nat) : Int))) = _
  rw [HT.sIx_nat, HT.sIx_nat, Int.toNat_natCast, Int.toNat_natCast, ← List.drop_take]
  by_cases hk : k ≤ l.length
  · rw [Nat.min_eq_left hk]
    by_cases hm : m ≤ l.length
    · rw [Nat.min_eq_left hm]
    · rw [Nat.min_eq_right (by omega), List.take_of_length_le (Nat.le_refl _), List.take_of_length_le (by omega)]
  · rw [Nat.min_eq_right (by omega)]
    rw [List.drop_of_length_le (by rw [List.length_take]; omega), List.drop_of_length_le (by rw [List.length_take]; omega)]
theorem dlen_tx {l : List Nat} (h : l.length ≤ sizeLine) : dlen (tx l) = some l.length := by
  show (if (SX.S l).length ≤ sizeLine then some (SX.S l).length else none) = _
  rw [SX.S_len, if_pos h]
theorem at_nat {l : List Nat} {i : Int} {k : Nat} (h0 : 0 ≤ i) (h : l[i.toNat]? = some k) : atI l i = some k := by
  have := atI_nat (v := k) h
  rwa [Int.toNat_of_nonneg h0] at this
theorem at_dat {l : List Dat} {i : Int} {k : Dat} (h0 : 0 ≤ i) (h : l[i.toNat]? = some k) : atI l i = some k := by
  have := atI_nat (v := k) h
  rwa [Int.toNat_of_nonneg h0] at this
end B

namespace B
open PySem PySem.Spec PyProof.Rows L2
section
variable {X : Cx} {H0 : Hp} {ρ ρ1 ρ2 : Env'} {a b c e : Expr} {es : List Expr} {st : Stmt} {sts rest : List Stmt} {d d1 d2 : Dat} {ds : List Dat} {p pos : Pos} {o o1 : Outc} {x n : Str}
/-- a name is given what a comprehension makes -/
theorem sx_setLc (j0 : Nat) {elt tg iter : Expr} {ifs : List Expr} {scope : Scope} {xn y : Str} (i : Nat) {pos py spos : Pos} (hc : X.calm = true) (nd : X.N.Nodup) (hi : Iter X H0 ρ tg iter ds) (ok : blkC X.N X.env.scope scope [(xn, i)] = true) (hx : ρ[i]? = some .no) (f : Dat → Bool) (g : Dat → Dat)
    (htg : ∀ (s : Shared) (H : Hp) (C : Addr) (cl : List (Str × Addr)) (fp : List Addr), PG (X.blk s H scope (compEnvC scope cl C X.env) fp) tg (gName i))
    (hif : (ifs = [] ∧ ∀ d ∈ ds, f d = true) ∨ ∃ c, ifs = [c] ∧ ∀ (H0' : Hp) (s : Shared) (H : Hp) (C : Addr) (cl : List (Str × Addr)) (fp : List Addr), Same H0 H0' → ∀ d ∈ ds, EvT (X.blk s H scope (compEnvC scope cl C X.env) fp) H0' (ρ.set i (.im d)) c (f d))
    (hel : ∀ (H0' : Hp) (s : Shared) (H : Hp) (C : Addr) (cl : List (Str × Addr)) (fp : List Addr), Same H0 H0' → ∀ d ∈ ds, f d = true → Ev (X.blk s H scope (compEnvC scope cl C X.env) fp) H0' (ρ.set i (.im d)) elt (g d))
    (hz : ds.length < sizeLine) (hρ : ρ.set j0 (.ow (.lst ((ds.filter f).map g))) = ρ1 := by rfl) (hs : ∀ x, foldedSetIterable iter X.env x = pure x := by intro _; rfl) (hy : X.N[j0]? = some y := by rfl) (hyl : X.env.scope.names.lookup y = some .local := by rfl)
    (hsw : swapsWith (.ListComp elt [⟨tg, iter, ifs, 0⟩] scope pos) (some (.Name y py)) spos.line X.env = pure true := by rfl) :
    ExS X H0 ρ (.Assign [.Name y py] (.ListComp elt [⟨tg, iter, ifs, 0⟩] scope pos) spos) (.nx ρ1) := fun DD σ H N r kk => by
  obtain ⟨wi, pi, hw⟩ := hi
  have pts : ∀ (s : Shared) (H : Hp) (C : Addr) (cl : List (Str × Addr)) (fp : List Addr), PTs (X.blk s H scope (compEnvC scope cl C X.env) fp) ifs
      (fun σ H Q => (ifs = [] ∧ Q true H) ∨ ∃ c, ifs = [c] ∧ ∀ s H' C cl fp, WT (X.blk s H' scope (compEnvC scope cl C X.env) fp) c σ H Q) := fun s H C cl fp => ⟨fun pins s' σ H Q I h => by
    rcases h with ⟨rfl, h⟩ | ⟨c, rfl, h⟩
    · exact pts_nil.run pins s' σ H Q I h
    · exact (pts_one pt_w).run pins s' σ H Q I (h _ _ _ _ _)⟩
  have pes : ∀ (s : Shared) (H : Hp) (C : Addr) (cl : List (Str × Addr)) (fp : List Addr), PE (X.blk s H scope (compEnvC scope cl C X.env) fp) elt
      (fun σ H Q => ∀ s H' C cl fp, WE (X.blk s H' scope (compEnvC scope cl C X.env) fp) elt σ H Q) := fun s H C cl fp => ⟨fun pins s' σ H Q I h => h _ _ _ _ _ pins s' I⟩
  refine ws_of (ps_setLc hc nd hy hyl hsw pi (blkOk_by ok) htg pts pes hs) (hw σ H N r _ fun J H1 N1 n1 s1 r1 w => fun D hD => ?_)
  have hiσ : i < σ.length := by rw [← r.len]; exact lt_of_get hx
  refine ⟨fun j m H' => m = ds.length - j ∧ j ≤ ds.length ∧ ∃ N' acc, Same N1 N' ∧ Same H1 H' ∧ Rep X.K H0 ρ σ H' N' ∧ N' D = none ∧ H' D = some (.lst acc) ∧ Ats X.K N' acc (((ds.take j).filter f).map g), ⟨_, rfl, Nat.zero_le _, N1, [], Same.refl _, Same.of_none hD, r1.grow (Same.of_none hD), r1.sub.free hD, upd_same, by simpa using Ats.nil⟩, ?_⟩
  rintro j m H' ⟨rfl, hj, N', acc, s', e', r', dN, dH, aa⟩
  have h0D : H0 D = none := r1.old.free hD
  have npD : ∀ (q : Nat) d, ρ[q]? = some (Ent.ow d) → σ[q]? ≠ some (some (V.ref D)) := no_own r1 hD
  obtain ⟨wg, wst⟩ := w (upd H0 D (.lst acc)) ρ σ H' N' j (Same.of_none h0D) s' (r'.toOld h0D dH dN npD)
  by_cases hlt : j < ds.length
  · obtain ⟨go, yl⟩ := wg hlt
    have et : ds.take (j + 1) = ds.take j ++ [ds[j]] := by rw [List.take_succ, List.getElem?_eq_getElem hlt]; rfl
    refine .inr ⟨go, fun H' => ∃ N' acc, Same N1 N' ∧ Same H1 H' ∧ Rep X.K H0 ρ σ H' N' ∧ N' D = none ∧ H' D = some (.lst acc) ∧ Ats X.K N' acc (((ds.take (j + 1)).filter f).map g), fun H2 q => ⟨_, by omega, rfl, hlt, q⟩, fun x H2 y => ?_⟩
    obtain ⟨N2, d, n2, e2, r2, e3, a2⟩ := yl x H2 y
    have ed : d = ds[j] := by
      rw [List.getElem?_eq_getElem hlt] at e3
      exact (Option.some.inj e3).symm
    subst ed
    have dH2 : H2 D = some (.lst acc) := e2 _ _ dH
    have np : ∀ (q : Nat) d, ρ[q]? = some (Ent.ow d) → σ[q]? ≠ some (some (V.ref D)) := no_own r1 hD
    have d0 : Same H0 (upd H0 D (.lst acc)) := Same.of_none h0D
    have mem : ds[j] ∈ ds := List.getElem_mem hlt
    have dH2 : H2 D = some (.lst acc) := e2 _ _ dH
    have r2' : Rep X.K (upd H0 D (.lst acc)) ρ σ H2 N2 := r2
    have rs := r2'.setE (i := i) (v := x) (e := .im ds[j]) a2
    have ws : (wipe σ [i]).set i (some x) = σ.set i (some x) := by show (σ.set i none).set i (some x) = _; rw [List.set_set]
    show wipe ((wipe σ [i]).set i (some x)) [i] = wipe σ [i] ∧ _
    refine ⟨by rw [ws]; show (σ.set i (some x)).set i none = σ.set i none; rw [List.set_set], ?_⟩
    rw [show (wipe σ (List.map (fun (x : Str × Nat) => x.snd) [(xn, i)])).set i (some x) = σ.set i (some x) from ws]
    have elem : ∀ H3 N3, f ds[j] = true → Same H2 H3 → Same N2 N3 → Rep X.K (upd H0 D (.lst acc)) (ρ.set i (.im ds[j])) (σ.set i (some x)) H3 N3 → ∀ s H' C cl fp, WE (X.blk s H' scope (compEnvC scope cl C X.env) fp) elt (σ.set i (some x)) H3 fun y H4 => ∃ acc', H4 D = some (.lst acc') ∧ acc'.length < sizeLine ∧
        ∃ N' a', Same N1 N' ∧ Same H1 (upd H4 D (.lst (acc' ++ [y]))) ∧ Rep X.K H0 ρ σ (upd H4 D (.lst (acc' ++ [y]))) N' ∧ N' D = none ∧ (upd H4 D (.lst (acc' ++ [y]))) D = some (.lst a') ∧ Ats X.K N' a' (((ds.take (j + 1)).filter f).map g) := fun H3 N3 hf e3' n3 r3 s H5 C cl fp => by
      refine (hel _ s H5 C cl fp d0 _ mem hf _ _ _ r3).imp fun y H4 ⟨N4, s4, n4, r4, a4⟩ => ?_
      have q4 : H4 D = some (.lst acc) := s4 _ _ (e3' _ _ dH2)
      refine ⟨acc, q4, ?_, N4, acc ++ [y], (((s'.trans n2).trans n3).trans n4), fun a u h => ?_, (r'.back hx d0 r4).updD h0D r4.notD np, r4.notD, upd_same, ?_⟩
      · rw [aa.length, List.length_map]
        have := List.length_filter_le f (ds.take j)
        have := List.length_take_le j ds
        omega
      · rw [upd_ne (ne_of_none h hD)]
        exact s4 _ _ (e3' _ _ (e2 _ _ (e' a u h)))
      · rw [et, List.filter_append, List.map_append]
        refine ((aa.mono n2).mono n3 |>.mono n4).append ?_
        rw [List.filter_cons, if_pos hf]
        exact .cons a4 .nil
    have skip : ∀ H3 N3, f ds[j] = false → Same H2 H3 → Same N2 N3 → Rep X.K (upd H0 D (.lst acc)) (ρ.set i (.im ds[j])) (σ.set i (some x)) H3 N3 → ∃ N' acc, Same N1 N' ∧ Same H1 H3 ∧ Rep X.K H0 ρ σ H3 N' ∧ N' D = none ∧ H3 D = some (.lst acc) ∧ Ats X.K N' acc (((ds.take (j + 1)).filter f).map g) := fun H3 N3 hf e3' n3 r3 => by
      refine ⟨N3, acc, (s'.trans n2).trans n3, (e'.trans e2).trans e3', r'.back hx d0 r3, r3.notD, e3' _ _ dH2, ?_⟩
      rw [et, List.filter_append, List.map_append, List.filter_cons, if_neg (by rw [hf]; exact Bool.false_ne_true)]
      simpa using (aa.mono n2).mono n3
    rcases hif with ⟨hne, hft⟩ | ⟨c, hc', ht⟩
    · exact .inl ⟨hne, iteT (elem H2 N2 (hft _ mem) (Same.refl _) (Same.refl _) rs)⟩
    · refine .inr ⟨c, hc', fun s H5 C cl fp => ?_⟩
      refine (ht _ s H5 C cl fp d0 _ mem _ _ _ rs).imp fun bb H3 ⟨eb, N3, s3, n3, r3⟩ => ?_
      subst eb
      cases hf : f ds[j] with
      | true => exact iteT (elem H3 N3 hf s3 n3 r3)
      | false => exact iteF (skip H3 N3 hf s3 n3 r3)
  · have e1 : j = ds.length := by omega
    subst e1
    rw [List.take_length] at aa
    exact .inl ⟨wst rfl, kk _ H' N' (n1.trans s') (hρ ▸ r'.setE (e := .ow (.lst _)) ⟨D, rfl, h0D, dN, ⟨acc, dH, aa⟩, fun q d' _ hq => npD q d' hq⟩)⟩
end
end B

namespace B
open PySem PySem.Spec PyProof.Rows L2
theorem idx_rev (n : Nat) : Builtin.Str.strSliceIndices none none (-1) n = (List.range n).reverse := by
  have e : Builtin.Str.strSliceIndices none none (-1) n = sliceRange ((n : Int) - 1) (-1) (-1) := rfl
  rw [e, PySem.W.krv_sliceRange, PySem.W.krv_range]
theorem pe_revS {X : Cx} {e : Expr} {te : TE} {k : Nat} {p1 p2 p3 pos : Pos} (he : PE X e te) : PE X (.Subscript e (.Slice none none (some (.UnaryOp .USub (.Constant (.int 1) k p1) p2)) p3) pos)
    (fun σ H Q => te σ H fun x H1 => ∃ l : List Nat, x = .str (SX.S l) ∧ l.length ≤ sizeLine ∧ Q (.str (SX.S l.reverse)) H1) := by
  refine ⟨fun pins s σ H Q I h => ?_⟩
  refine Subscript_ (thn (he.run pins s σ H _ I h) fun v s1 ⟨x, H1, I1, r1, q1⟩ => ?_)
  obtain ⟨a, rfl, hz, q⟩ := q1
  obtain ⟨t, rfl⟩ := r1
  have hst : PO X (some (.UnaryOp .USub (.Constant (.int 1) k p1) p2)) (tPart (tUn (rU fun i => .int (-i)) (tC (.int 1)))) := po_some (pe_un un_neg pe_int)
  refine wpAny_Slice (thn (po_none.run pins s1 σ H1 (fun o H2 => o = none ∧ H2 = H1) I1 ⟨rfl, rfl⟩) fun vl s2 ⟨l, H2, I2, pl, el, e2⟩ => ?_)
  subst el e2
  refine thn (po_none.run pins s2 σ H2 (fun o H3 => o = none ∧ H3 = H2) I2 ⟨rfl, rfl⟩) fun vu s3 ⟨u, H3, I3, pu, eu, e3⟩ => ?_
  subst eu e3
  refine thn (hst.run pins s3 σ H3 (fun o H4 => o = some (-1) ∧ H4 = H3) I3 ⟨1, rfl, -1, rfl, rfl, rfl⟩) fun vs s4 ⟨o, H4, I4, ps, eo, e4⟩ => ?_
  subst eo e4
  have I5 : Inv X pins σ H4 { s4 with heap := s4.heap.push { cls := .type "slice", data := .fields #[vl, vu, vs] } } := I4.kept (t' := s4.toks) fun b ob q => Heap.get?_push_of_some _ q
  obtain ⟨l, rfl, el⟩ := IsPart.raw pl
  obtain ⟨u, rfl, eu⟩ := IsPart.raw pu
  obtain ⟨w, rfl, ew⟩ := IsPart.raw ps
  have hs : (s4.heap.push { cls := .type "slice", data := .fields #[partValue l, partValue u, partValue w] }).IsSlice s4.heap.objs.size l u w := ⟨_, Heap.get?_push_size _ rfl, rfl, rfl⟩
  refine tail_any (ops := [.str (SX.S a) t, .ref s4.heap.objs.size]) (typeIs_str _ _ _) F.slot_str_getitem.lookup ?_ (by with_unfolding_all rfl)
  refine wpAny_getItem_str_slice (l := l) (u := u) (st := w) hs (by rw [ew]; rfl) ?_
  unfold sliceMade
  have e1 : ((w.map (·.1)).getD 1 == 1 && (slicePicked (SX.S a) l u w).length == (SX.S a).length) = false := by rw [ew]; rfl
  rw [if_neg (by rw [e1]; exact Bool.false_ne_true)]
  have e2 : (⟨((slicePicked (SX.S a) l u w).filterMap ((SX.S a).cps[·]?)).toArray⟩ : Str) = SX.S a.reverse := by
    unfold slicePicked
    rw [el, eu, ew]
    show (⟨((Builtin.Str.strSliceIndices none none (-1) (SX.S a).length).filterMap ((SX.S a).cps[·]?)).toArray⟩ : Str) = _
    rw [idx_rev, List.filterMap_reverse]
    have := PySem.W.krv_all (SX.S a).cps
    rw [show (SX.S a).length = (SX.S a).cps.size from rfl, this]
  rw [e2]
  refine ⟨by rw [SX.S_len, List.length_reverse]; exact hz, .str _, H4, I5.tok _, ⟨_, rfl⟩, q⟩
section
variable {X : Cx} {H0 : Hp} {ρ ρ1 ρ2 : Env'} {a b c e : Expr} {pos : Pos}
theorem ev_revX {l : List Nat} {k : Nat} {p1 p2 p3 : Pos} (ha : Ev X H0 ρ a (tx l)) (hz : l.length ≤ sizeLine) : Ev X H0 ρ (.Subscript a (.Slice none none (some (.UnaryOp .USub (.Constant (.int 1) k p1) p2)) p3) pos) (tx l.reverse) := fun σ H N r =>
  we_of (pe_revS pe_w) ((ha σ H N r).imp fun v H1 ⟨N1, s1, n1, r1, a1⟩ => ⟨l, at_str a1, hz, N1, s1, n1, r1, .str _⟩)
end
end B

namespace B
open PySem PySem.Spec PyProof.Rows L2

/-! ### find, count of one sign; startswith -/
theorem occ_stop (s sub : Str) (hi limit : Nat) : ∀ (l : List Nat) (st : Array Nat × Nat), ¬ st.1.size < limit → (forIn l st (StrLaws.occBody s sub hi limit)).run = st
  | [], st, _ => rfl
  | a :: l, st, h => by
    rw [List.forIn_cons]
    unfold StrLaws.occBody
    rw [if_neg (fun q => h q.1.1.1)]
    exact occ_stop s sub hi limit l st h
theorem occ_cond (L : List Nat) (c i free n limit : Nat) (acc : Array Nat) (hs : acc.size < limit) (hf : free ≤ i) :
    (((acc.size < limit ∧ free ≤ i) ∧ i + (SX.S [c]).length ≤ (SX.S L).length) ∧ Builtin.Str.subAt (SX.S L) (SX.S [c]) i = true) ↔ L[i]? = some c := by
  have := StrLaws.subAt_one (SX.S L) c i
  constructor
  · intro h; exact this.mp ⟨h.1.2, h.2⟩
  · intro h; have := this.mpr h; exact ⟨⟨⟨hs, hf⟩, this.1⟩, this.2⟩
theorem occ_at (L : List Nat) (c j : Nat) (hj : L[j]? = some c) : ∀ (n a free : Nat), free ≤ a → a ≤ j → j < a + n → (∀ i, a ≤ i → i < j → L[i]? ≠ some c) →
    (forIn (List.range' a n) ((#[] : Array Nat), free) (StrLaws.occBody (SX.S L) (SX.S [c]) (SX.S L).length 1)).run.1.toList = [j]
  | 0, a, _, _, h1, h2, _ => by omega
  | n + 1, a, free, hf, h1, h2, h3 => by
    rw [List.range'_succ, List.forIn_cons]
    unfold StrLaws.occBody
    by_cases e : a = j
    · subst e
      rw [if_pos ((occ_cond L c a free n 1 #[] (by decide) hf).mpr hj)]
      show (forIn (List.range' (a + 1) n) ((#[] : Array Nat).push a, a + 1) (StrLaws.occBody (SX.S L) (SX.S [c]) (SX.S L).length 1)).run.1.toList = [a]
      rw [occ_stop _ _ _ _ _ _ (by simp)]
      rfl
    · rw [if_neg (fun q => h3 a (Nat.le_refl _) (by omega) ((occ_cond L c a free n 1 #[] (by decide) hf).mp q))]
      exact occ_at L c j hj n (a + 1) free (by omega) (by omega) (by omega) (fun i q1 q2 => h3 i (by omega) q2)
theorem find_one {L : List Nat} {c : Nat} (h : c ∈ L) : Txt.find (SX.S L) (SX.S [c]) = ((L.idxOf c : Nat) : Int) := by
  have hlt : L.idxOf c < L.length := List.idxOf_lt_length_iff.mpr h
  have hg : L[L.idxOf c]? = some c := by rw [List.getElem?_eq_getElem hlt, List.getElem_idxOf hlt]
  have ho : Builtin.Str.occurrences (SX.S L) (SX.S [c]) 0 (SX.S L).length 1 = [L.idxOf c] := by
    rw [StrLaws.occ_eq]
    refine occ_at L c _ hg _ 0 0 (Nat.le_refl _) (Nat.zero_le _) (by rw [SX.S_len]; omega) (fun i _ hi e => ?_)
    have hil : i < L.length := by omega
    rw [List.getElem?_eq_getElem hil] at e
    have q := List.not_of_lt_findIdx (p := (· == c)) (xs := L) hi
    have e2 := Option.some.inj e
    simp [e2] at q
  unfold Txt.find
  rw [ho]
theorem starts_S (l m : List Nat) : Txt.startswith (SX.S l) (SX.S m) = decide (l.take m.length = m) := by
  unfold Txt.startswith
  rw [StrLaws.subAt_eq, SX.S_len, SX.S_len]
  show (decide (0 + m.length ≤ l.length) && ((l.drop 0).take (SX.S m).length == m)) = _
  rw [SX.S_len, List.drop_zero]
  by_cases h : l.take m.length = m
  · have : m.length ≤ l.length := by
      have := congrArg List.length h
      rw [List.length_take] at this
      omega
    rw [decide_eq_true h, decide_eq_true (by omega), h]
    simp
  · rw [decide_eq_false h]
    have : (l.take m.length == m) = false := by simpa using h
    rw [this, Bool.and_false]
theorem occ_count (L : List Nat) (c : Nat) : ∀ (n a free : Nat) (acc : Array Nat), free ≤ a → a + n = L.length + 1 → acc.size ≤ a →
    (forIn (List.range' a n) (acc, free) (StrLaws.occBody (SX.S L) (SX.S [c]) (SX.S L).length (L.length + 1))).run.1.size = acc.size + (L.drop a).count c
  | 0, a, free, acc, _, h2, _ => by
    have : L.drop a = [] := List.drop_of_length_le (by omega)
    rw [this]
    rfl
  | n + 1, a, free, acc, hf, h2, h3 => by
    rw [List.range'_succ, List.forIn_cons]
    unfold StrLaws.occBody
    by_cases e : L[a]? = some c
    · rw [if_pos ((occ_cond L c a free n _ acc (by omega) hf).mpr e)]
      have := occ_count L c n (a + 1) (a + 1) (acc.push a) (by omega) (by omega) (by rw [Array.size_push]; omega)
      refine Eq.trans this ?_
      obtain ⟨hlt, hv⟩ := List.getElem?_eq_some_iff.mp e
      rw [Array.size_push, List.drop_eq_getElem_cons hlt, hv, List.count_cons_self]
      omega
    · rw [if_neg (fun q => e ((occ_cond L c a free n _ acc (by omega) hf).mp q))]
      have := occ_count L c n (a + 1) free acc (by omega) (by omega) (by omega)
      refine Eq.trans this ?_
      by_cases hlt : a < L.length
      · rw [List.drop_eq_getElem_cons hlt, List.count_cons_of_ne]
        intro q
        exact e (by rw [List.getElem?_eq_getElem hlt, q])
      · rw [List.drop_of_length_le (by omega), List.drop_of_length_le (by omega)]
theorem count_one (L : List Nat) (c : Nat) : Txt.count (SX.S L) (SX.S [c]) = ((L.count c : Nat) : Int) := by
  unfold Txt.count
  rw [StrLaws.occ_eq, Array.length_toList, SX.S_len]
  have := occ_count L c (L.length + 1 - 0) 0 0 #[] (Nat.le_refl _) (by omega) (by decide)
  rw [SX.S_len] at this
  rw [this]
  simp
section
variable {X : Cx} {H0 : Hp} {ρ ρ1 ρ2 : Env'} {a b c e : Expr} {pos apos : Pos}
theorem ev_findX {l : List Nat} {k : Nat} (ha : Ev X H0 ρ a (tx l)) (hb : Ev X H0 ρ b (tx [k])) (hm : k ∈ l) (hs : starEach [b] X.env = [(false, eval b X.env)] := by rfl) (hline : (apos.endLine == pos.line) = true := by rfl) (hbase : attributeBase a "find" X.env (eval a X.env) = eval a X.env := by rfl) :
    Ev X H0 ρ (.Call (.Attribute a "find" apos) [b] [] pos) (.int ((l.idxOf k : Nat) : Int)) := by
  have := ev_find0 ha hb hs hline hbase
  rw [find_one hm] at this
  exact this
theorem ev_countX {l : List Nat} {k : Nat} (ha : Ev X H0 ρ a (tx l)) (hb : Ev X H0 ρ b (tx [k])) (hs : starEach [b] X.env = [(false, eval b X.env)] := by rfl) (hline : (apos.endLine == pos.line) = true := by rfl) (hbase : attributeBase a "count" X.env (eval a X.env) = eval a X.env := by rfl) :
    Ev X H0 ρ (.Call (.Attribute a "count" apos) [b] [] pos) (.int ((l.count k : Nat) : Int)) := by
  have := ev_count0 ha hb hs hline hbase
  rw [count_one] at this
  exact this
theorem ev_startsX {l m : List Nat} (ha : Ev X H0 ρ a (tx l)) (hb : Ev X H0 ρ b (tx m)) (hs : starEach [b] X.env = [(false, eval b X.env)] := by rfl) (hline : (apos.endLine == pos.line) = true := by rfl) (hbase : attributeBase a "startswith" X.env (eval a X.env) = eval a X.env := by rfl) :
    Ev X H0 ρ (.Call (.Attribute a "startswith" apos) [b] [] pos) (.bl (decide (l.take m.length = m))) := by
  have := ev_starts0 ha hb hs hline hbase
  rw [starts_S] at this
  exact this
end
end B

namespace B
open PySem PySem.Spec PyProof.Rows L2
/-- it goes through ds, while the names stay as they are -/
def WalksC (K : PySem.W.Frag) (H0 : Hp) (ρ : Env') (σ : L2.St) (J : It) (N1 : Hp) (ds : List Dat) : Prop := ∀ (H0' H N : Hp) (i : Nat), Same H0 H0' → Same N1 N → Rep K H0' ρ σ H N →
  (i < ds.length → J.go i H ∧ ∀ x H', J.yld i H x H' → ∃ N' d, Same N N' ∧ Same H H' ∧ Rep K H0' ρ σ H' N' ∧ ds[i]? = some d ∧ At K N' x d) ∧ (i = ds.length → J.stop i H)
def IterC (X : Cx) (H0 : Hp) (ρ : Env') (t e : Expr) (ds : List Dat) : Prop := ∃ wi, PI X t e wi ∧ ∀ σ H N, Rep X.K H0 ρ σ H N → ∀ R, (∀ J H1 N1, Same N N1 → Same H H1 → Rep X.K H0 ρ σ H1 N1 → WalksC X.K H0 ρ σ J N1 ds → R J H1) → wi σ H R
section
variable {X : Cx} {H0 : Hp} {ρ ρ1 ρ2 : Env'} {a b c e : Expr} {es : List Expr} {st : Stmt} {sts rest : List Stmt} {d d1 d2 : Dat} {ds : List Dat} {p pos : Pos} {o o1 : Outc} {x n : Str}
theorem it_ow (i : Nat) {t : Expr} {x : Str} (h : ρ[i]? = some (.ow (.lst ds))) (hN : X.N[i]? = some x := by rfl) (hv : Vis X.env.scope x := by first | exact Or.inl rfl | exact Or.inr (Or.inl rfl) | exact Or.inr (Or.inr rfl)) (hd : (x == ("__debug__" : Str)) = false := by decide)
    (hcd : (x == ("__classdict__" : Str)) = false := by decide) : IterC X H0 ρ t (.Name x pos) ds := ⟨_, pi_list (pv i hN hv hd hcd), fun σ H N r R k => by
  obtain ⟨p, e1, h0, hn, vs, hp, ha⟩ := r.ow i _ h
  refine ⟨_, e1, p, rfl, ⟨vs, .inl (.inl hp)⟩, k _ H N (Same.refl _) (Same.refl _) r fun H02 H2 N2 j s02 s2 r2 => ?_⟩
  obtain ⟨q, f1, f2, f3, us, f4, f5⟩ := r2.ow i _ h
  rw [e1] at f1
  cases f1
  refine ⟨fun hi => ?_, fun hi => ⟨us, .inl (.inl f4), by rw [f5.length]; exact Nat.le_of_eq hi.symm⟩⟩
  have hv : j < us.length := by rw [f5.length]; exact hi
  refine ⟨⟨us, us[j], .inl (.inl f4), by simp [hv]⟩, fun x H3 y => ?_⟩
  obtain ⟨rfl, y⟩ := y
  obtain ⟨d, g1, g2⟩ := f5.getV (y us (.inl (.inl f4)))
  exact ⟨N2, d, Same.refl _, Same.refl _, r2, g1, g2⟩⟩
/-- a comprehension over an owned list -/
theorem eo_compC {elt tg iter : Expr} {ifs : List Expr} {scope : Scope} {xn : Str} (i : Nat) {pos : Pos} (hc : X.calm = true) (nd : X.N.Nodup) (hi : IterC X H0 ρ tg iter ds) (ok : blkC X.N X.env.scope scope [(xn, i)] = true) (hx : ρ[i]? = some .no) (f : Dat → Bool) (g : Dat → Dat)
    (htg : ∀ (s : Shared) (H : Hp) (C : Addr) (cl : List (Str × Addr)) (fp : List Addr), PG (X.blk s H scope (compEnvC scope cl C X.env) fp) tg (gName i))
    (hif : (ifs = [] ∧ ∀ d ∈ ds, f d = true) ∨ ∃ c, ifs = [c] ∧ ∀ (H0' : Hp) (s : Shared) (H : Hp) (C : Addr) (cl : List (Str × Addr)) (fp : List Addr), Same H0 H0' → ∀ d ∈ ds, EvT (X.blk s H scope (compEnvC scope cl C X.env) fp) H0' (ρ.set i (.im d)) c (f d))
    (hel : ∀ (H0' : Hp) (s : Shared) (H : Hp) (C : Addr) (cl : List (Str × Addr)) (fp : List Addr), Same H0 H0' → ∀ d ∈ ds, f d = true → Ev (X.blk s H scope (compEnvC scope cl C X.env) fp) H0' (ρ.set i (.im d)) elt (g d))
    (hz : ds.length < sizeLine) (hs : ∀ x, foldedSetIterable iter X.env x = pure x := by intro _; rfl) : EvO X H0 ρ (.ListComp elt [⟨tg, iter, ifs, 0⟩] scope pos) (.lst ((ds.filter f).map g)) := fun σ H N r => by
  obtain ⟨wi, pi, hw⟩ := hi
  have pts : ∀ (s : Shared) (H : Hp) (C : Addr) (cl : List (Str × Addr)) (fp : List Addr), PTs (X.blk s H scope (compEnvC scope cl C X.env) fp) ifs
      (fun σ H Q => (ifs = [] ∧ Q true H) ∨ ∃ c, ifs = [c] ∧ ∀ s H' C cl fp, WT (X.blk s H' scope (compEnvC scope cl C X.env) fp) c σ H Q) := fun s H C cl fp => ⟨fun pins s' σ H Q I h => by
    rcases h with ⟨rfl, h⟩ | ⟨c, rfl, h⟩
    · exact pts_nil.run pins s' σ H Q I h
    · exact (pts_one pt_w).run pins s' σ H Q I (h _ _ _ _ _)⟩
  have pes : ∀ (s : Shared) (H : Hp) (C : Addr) (cl : List (Str × Addr)) (fp : List Addr), PE (X.blk s H scope (compEnvC scope cl C X.env) fp) elt
      (fun σ H Q => ∀ s H' C cl fp, WE (X.blk s H' scope (compEnvC scope cl C X.env) fp) elt σ H Q) := fun s H C cl fp => ⟨fun pins s' σ H Q I h => h _ _ _ _ _ pins s' I⟩
  refine we_of (pe_lc hc nd pi (blkOk_by ok) htg pts pes hs) (hw σ H N r _ fun J H1 N1 n1 s1 r1 w => fun D hD => ?_)
  have hiσ : i < σ.length := by rw [← r.len]; exact lt_of_get hx
  refine ⟨fun j m H' => m = ds.length - j ∧ j ≤ ds.length ∧ ∃ N' acc, Same N1 N' ∧ Same H1 H' ∧ Rep X.K H0 ρ σ H' N' ∧ N' D = none ∧ H' D = some (.lst acc) ∧ Ats X.K N' acc (((ds.take j).filter f).map g), ⟨_, rfl, Nat.zero_le _, N1, [], Same.refl _, Same.of_none hD, r1.grow (Same.of_none hD), r1.sub.free hD, upd_same, by simpa using Ats.nil⟩, ?_⟩
  rintro j m H' ⟨rfl, hj, N', acc, s', e', r', dN, dH, aa⟩
  have h0D : H0 D = none := r1.old.free hD
  have npD : ∀ (q : Nat) d, ρ[q]? = some (Ent.ow d) → σ[q]? ≠ some (some (V.ref D)) := no_own r1 hD
  obtain ⟨wg, wst⟩ := w (upd H0 D (.lst acc)) H' N' j (Same.of_none h0D) s' (r'.toOld h0D dH dN npD)
  by_cases hlt : j < ds.length
  · obtain ⟨go, yl⟩ := wg hlt
    have et : ds.take (j + 1) = ds.take j ++ [ds[j]] := by rw [List.take_succ, List.getElem?_eq_getElem hlt]; rfl
    refine .inr ⟨go, fun H' => ∃ N' acc, Same N1 N' ∧ Same H1 H' ∧ Rep X.K H0 ρ σ H' N' ∧ N' D = none ∧ H' D = some (.lst acc) ∧ Ats X.K N' acc (((ds.take (j + 1)).filter f).map g), fun H2 q => ⟨_, by omega, rfl, hlt, q⟩, fun x H2 y => ?_⟩
    obtain ⟨N2, d, n2, e2, r2, e3, a2⟩ := yl x H2 y
    have ed : d = ds[j] := by
      rw [List.getElem?_eq_getElem hlt] at e3
      exact (Option.some.inj e3).symm
    subst ed
    have dH2 : H2 D = some (.lst acc) := e2 _ _ dH
    have np : ∀ (q : Nat) d, ρ[q]? = some (Ent.ow d) → σ[q]? ≠ some (some (V.ref D)) := no_own r1 hD
    have d0 : Same H0 (upd H0 D (.lst acc)) := Same.of_none h0D
    have mem : ds[j] ∈ ds := List.getElem_mem hlt
    have dH2 : H2 D = some (.lst acc) := e2 _ _ dH
    have r2' : Rep X.K (upd H0 D (.lst acc)) ρ σ H2 N2 := r2
    have rs := r2'.setE (i := i) (v := x) (e := .im ds[j]) a2
    have ws : (wipe σ [i]).set i (some x) = σ.set i (some x) := by show (σ.set i none).set i (some x) = _; rw [List.set_set]
    show wipe ((wipe σ [i]).set i (some x)) [i] = wipe σ [i] ∧ _
    refine ⟨by rw [ws]; show (σ.set i (some x)).set i none = σ.set i none; rw [List.set_set], ?_⟩
    rw [show (wipe σ (List.map (fun (x : Str × Nat) => x.snd) [(xn, i)])).set i (some x) = σ.set i (some x) from ws]
    have elem : ∀ H3 N3, f ds[j] = true → Same H2 H3 → Same N2 N3 → Rep X.K (upd H0 D (.lst acc)) (ρ.set i (.im ds[j])) (σ.set i (some x)) H3 N3 → ∀ s H' C cl fp, WE (X.blk s H' scope (compEnvC scope cl C X.env) fp) elt (σ.set i (some x)) H3 fun y H4 => ∃ acc', H4 D = some (.lst acc') ∧ acc'.length < sizeLine ∧
        ∃ N' a', Same N1 N' ∧ Same H1 (upd H4 D (.lst (acc' ++ [y]))) ∧ Rep X.K H0 ρ σ (upd H4 D (.lst (acc' ++ [y]))) N' ∧ N' D = none ∧ (upd H4 D (.lst (acc' ++ [y]))) D = some (.lst a') ∧ Ats X.K N' a' (((ds.take (j + 1)).filter f).map g) := fun H3 N3 hf e3' n3 r3 s H5 C cl fp => by
      refine (hel _ s H5 C cl fp d0 _ mem hf _ _ _ r3).imp fun y H4 ⟨N4, s4, n4, r4, a4⟩ => ?_
      have q4 : H4 D = some (.lst acc) := s4 _ _ (e3' _ _ dH2)
      refine ⟨acc, q4, ?_, N4, acc ++ [y], (((s'.trans n2).trans n3).trans n4), fun a u h => ?_, (r'.back hx d0 r4).updD h0D r4.notD np, r4.notD, upd_same, ?_⟩
      · rw [aa.length, List.length_map]
        have := List.length_filter_le f (ds.take j)
        have := List.length_take_le j ds
        omega
      · rw [upd_ne (ne_of_none h hD)]
        exact s4 _ _ (e3' _ _ (e2 _ _ (e' a u h)))
      · rw [et, List.filter_append, List.map_append]
        refine ((aa.mono n2).mono n3 |>.mono n4).append ?_
        rw [List.filter_cons, if_pos hf]
        exact .cons a4 .nil
    have skip : ∀ H3 N3, f ds[j] = false → Same H2 H3 → Same N2 N3 → Rep X.K (upd H0 D (.lst acc)) (ρ.set i (.im ds[j])) (σ.set i (some x)) H3 N3 → ∃ N' acc, Same N1 N' ∧ Same H1 H3 ∧ Rep X.K H0 ρ σ H3 N' ∧ N' D = none ∧ H3 D = some (.lst acc) ∧ Ats X.K N' acc (((ds.take (j + 1)).filter f).map g) := fun H3 N3 hf e3' n3 r3 => by
      refine ⟨N3, acc, (s'.trans n2).trans n3, (e'.trans e2).trans e3', r'.back hx d0 r3, r3.notD, e3' _ _ dH2, ?_⟩
      rw [et, List.filter_append, List.map_append, List.filter_cons, if_neg (by rw [hf]; exact Bool.false_ne_true)]
      simpa using (aa.mono n2).mono n3
    rcases hif with ⟨hne, hft⟩ | ⟨c, hc', ht⟩
    · exact .inl ⟨hne, iteT (elem H2 N2 (hft _ mem) (Same.refl _) (Same.refl _) rs)⟩
    · refine .inr ⟨c, hc', fun s H5 C cl fp => ?_⟩
      refine (ht _ s H5 C cl fp d0 _ mem _ _ _ rs).imp fun bb H3 ⟨eb, N3, s3, n3, r3⟩ => ?_
      subst eb
      cases hf : f ds[j] with
      | true => exact iteT (elem H3 N3 hf s3 n3 r3)
      | false => exact iteF (skip H3 N3 hf s3 n3 r3)
  · have e1 : j = ds.length := by omega
    subst e1
    rw [List.take_length] at aa
    exact .inl ⟨wst rfl, N', D, rfl, s1.free hD, s1.trans e', n1.trans s', r', dN, acc, dH, aa⟩
end
end B

namespace B
open PySem PySem.Spec PyProof.Rows L2
theorem Ats.rep {K : PySem.W.Frag} {H : Hp} {vs : List V} {ds : List Dat} (h : Ats K H vs ds) : ∀ n : Nat, Ats K H (List.replicate n vs).flatten (List.replicate n ds).flatten
  | 0 => .nil
  | n + 1 => by
    rw [List.replicate_succ, List.replicate_succ, List.flatten_cons, List.flatten_cons]
    exact h.append (Ats.rep h n)
section
variable {X : Cx} {H0 : Hp} {ρ ρ1 ρ2 : Env'} {a b c e : Expr} {es : List Expr} {st : Stmt} {sts rest : List Stmt} {d d1 d2 d3 : Dat} {ds : List Dat} {p pos : Pos} {o o1 : Outc} {x n : Str}
/-- a new list, so many times -/
theorem eo_repO {k : Int} (ha : EvO X H0 ρ a (.lst ds)) (hb : Ev X H0 ρ b (.int k)) (h1 : -(2 ^ 63) ≤ k) (h2 : k < 2 ^ 63) (hz : ds.length * k.toNat ≤ sizeLine) : EvO X H0 ρ (.BinOp a .Mult b pos) (.lst (List.replicate k.toNat ds).flatten) := fun σ H N rp =>
  we_of (pe_op op_rep pe_w pe_w) ((ha σ H N rp).imp fun v H1 ⟨N1, q, e1, hp, s1, n1, r1, np, ow⟩ => (hb σ H1 N1 r1).imp fun w H2 ⟨N2, s2, n2, r2, a2⟩ => by
    obtain ⟨vs, q1, q2⟩ := ow
    refine ⟨q, k, vs, e1, at_int a2, s2 _ _ q1, h1, h2, by rw [q2.length]; exact hz, fun l hl => ?_⟩
    obtain ⟨r3, n3⟩ := eo_new (o := .lst (List.replicate k.toNat vs).flatten) r2 hl
    exact ⟨N2, l, rfl, (s1.trans s2).free hl, (s1.trans s2).trans (Same.of_none hl), n1.trans n2, r3, n3, _, upd_same, (q2.mono n2).rep _⟩)
/-- an owned list, so many times -/
theorem eo_repN {k : Int} (i : Nat) {y : Str} {p1 : Pos} (hi : ρ[i]? = some (.ow (.lst ds))) (hb : Ev X H0 ρ b (.int k)) (h1 : -(2 ^ 63) ≤ k) (h2 : k < 2 ^ 63) (hz : ds.length * k.toNat ≤ sizeLine) (hN : X.N[i]? = some y := by rfl) (hv : Vis X.env.scope y := by first | exact Or.inl rfl | exact Or.inr (Or.inl rfl) | exact Or.inr (Or.inr rfl))
    (hd : (y == ("__debug__" : Str)) = false := by decide) (hcd : (y == ("__classdict__" : Str)) = false := by decide) : EvO X H0 ρ (.BinOp (.Name y p1) .Mult b pos) (.lst (List.replicate k.toNat ds).flatten) := fun σ H N rp => by
  obtain ⟨q, g1, g2, g3, us, g4, g5⟩ := rp.ow i _ hi
  refine we_of (pe_op op_rep (pv i hN hv hd hcd) pe_w) ⟨_, g1, (hb σ H N rp).imp fun w H2 ⟨N2, s2, n2, r2, a2⟩ => ?_⟩
  refine ⟨q, k, us, rfl, at_int a2, s2 _ _ g4, h1, h2, by rw [g5.length]; exact hz, fun l hl => ?_⟩
  obtain ⟨r3, n3⟩ := eo_new (o := .lst (List.replicate k.toNat us).flatten) r2 hl
  exact ⟨N2, l, rfl, s2.free hl, s2.trans (Same.of_none hl), n2, r3, n3, _, upd_same, (g5.mono n2).rep _⟩
/-- (a, b, c) = a triple -/
theorem tg_three (i j l : Nat) {y z u : Str} {p1 p2 p3 : Pos} {kk : Nat} (nd : X.N.Nodup) (hc : X.calm = true) (hi : X.N[i]? = some y := by rfl) (hj : X.N[j]? = some z := by rfl) (hl : X.N[l]? = some u := by rfl) (hx : Loc X.env.scope y := by first | exact Or.inl rfl | exact Or.inr rfl) (hx2 : Loc X.env.scope z := by first | exact Or.inl rfl | exact Or.inr rfl) (hx3 : Loc X.env.scope u := by first | exact Or.inl rfl | exact Or.inr rfl)
    (hf : X.fn y = true ∨ X.env.scope.names.lookup y = some .local := by first | exact .inl rfl | exact .inr rfl | assumption) (hf2 : X.fn z = true ∨ X.env.scope.names.lookup z = some .local := by first | exact .inl rfl | exact .inr rfl | assumption) (hf3 : X.fn u = true ∨ X.env.scope.names.lookup u = some .local := by first | exact .inl rfl | exact .inr rfl | assumption)
    (hn : (assignEach [Expr.Name y p1, .Name z p2, .Name u p3] X.env).length = 3 := by rfl) (hst : (assignEach [Expr.Name y p1, .Name z p2, .Name u p3] X.env).findIdx? (·.1) = none := by rfl)
    (h1 : (assignEach [Expr.Name y p1, .Name z p2, .Name u p3] X.env).map (·.2) = assign (.Name y p1) X.env :: (assignEach [Expr.Name z p2, .Name u p3] X.env).map (·.2) := by rfl) (h2 : (assignEach [Expr.Name z p2, .Name u p3] X.env).map (·.2) = assign (.Name z p2) X.env :: (assignEach [Expr.Name u p3] X.env).map (·.2) := by rfl)
    (h3 : (assignEach [Expr.Name u p3] X.env).map (·.2) = assign (.Name u p3) X.env :: (assignEach [] X.env).map (·.2) := by rfl) :
    Tgt X H0 (.Tuple [.Name y p1, .Name z p2, .Name u p3] kk pos) (fun d => ∃ a b c, d = .tup [a, b, c]) (fun d ρ => match d with | .tup [a, b, c] => ((ρ.set i (.im a)).set j (.im b)).set l (.im c) | _ => ρ) := by
  refine ⟨_, pg_tup hc (pgs_cons (pg_name nd hi hx hf) (pgs_cons (pg_name nd hj hx2 hf2) (pgs_cons (pg_name nd hl hx3 hf3) pgs_nil h3) h2) h1) hn hst, fun ρ σ H N v d r a ok Q k => ?_⟩
  obtain ⟨d1, d2, d3, rfl⟩ := ok
  obtain ⟨p, vs, rfl, q1, q2⟩ := at_seq a
  cases q2 with
  | cons a1 t =>
    cases t with
    | cons a2 t2 =>
      cases t2 with
      | cons a3 t3 =>
        cases t3
        exact ⟨p, _, rfl, sqt_same r.sub q1, rfl, _, _, rfl, _, _, rfl, _, _, rfl, rfl, k _ H N (Same.refl _) (((r.setE (e := .im d1) a1).setE (e := .im d2) a2).setE (e := .im d3) a3)⟩
end
end B

namespace B
open PySem PySem.Spec PyProof.Rows L2 RT
section
variable {prog : Program} {w : World} {A : Around} {E : Value → Shared → Prop} {s : Shared}
/-- list(reversed(a list)) -/
theorem call_list_rev {it l : Addr} {items : Array Value} {Q : Value → Shared → Prop} (hh : A.handled = none) (hit : s.heap.IsRevIter it l ((items.size : Int) - 1)) (hl : s.heap.IsList l items) (hne : l ≠ it) (hn : items.size ≤ sizeLine)
    (hQ : ∀ (h' : Heap) (tk : Nat) (acc : Array Value) (c' : Nat), (∀ b o, b ≠ it → s.heap.get? b = some o → h'.get? b = some o) → h'.get? s.heap.objs.size = some { cls := .type "list", dict := none, data := .seq acc c', slots := #[] } →
      ItemsOf (fun i v => items[items.size - 1 - i]? = some v) acc items.size → Q (.ref s.heap.objs.size) { s with heap := h', toks := tk }) :
    wpAny (model prog w) A (call (.type "list") [.ref it]) Q E s := by
  have W := (Walks.listRev (prog := prog) (w := w) (A := A.in1.in1) hh it l hne items).toS
  obtain ⟨oi, hoi, _⟩ := id hit
  obtain ⟨ol, hol, _⟩ := id hl
  have hSi : s.heap.objs.size ≠ it := Nat.ne_of_gt (Heap.lt_size hoi)
  have hSl : s.heap.objs.size ≠ l := Nat.ne_of_gt (Heap.lt_size hol)
  have hSf : s.heap.objs.size ∉ [it, l] := by simp only [List.mem_cons, List.not_mem_nil, or_false, not_or]; exact ⟨hSi, hSl⟩
  refine callType_codes (Q₁ := fun obj s₁ => obj = .ref s.heap.objs.size ∧ s₁ = { s with heap := s.heap.push { cls := .type "list", data := .seq #[] } }) F.called_list (F.typeCall_list_1 _) F.entry_list_init
    (code_list_new _ ⟨rfl, rfl⟩) fun obj s₁ h₁ => ?_
  obtain ⟨rfl, rfl⟩ := h₁
  have hS : (s.heap.push { cls := .type "list", data := .seq #[] }).get? s.heap.objs.size = some { cls := .type "list", data := .seq #[] } := Heap.get?_push_size _ rfl
  refine ⟨⟨_, hS, rfl⟩, F.args_list_init_2 _ _, ?_⟩
  show wpAny _ A.in1.in1 (do let old ← Builtin.List.listItems (.ref s.heap.objs.size); Builtin.List.listUpdate (.ref s.heap.objs.size) (fun _ => #[]); letGo old.toList.reverse; Builtin.List.listExtendWith (.ref s.heap.objs.size) (.ref it) .none) _ _ _
  refine wpAny_bind ?_
  unfold Builtin.List.listItems
  refine wpAny_bind (wpAny_seqItems hS rfl (wpAny_pure ?_))
  show wpAny _ A.in1.in1 (updateSeq s.heap.objs.size (fun _ => #[]) >>= fun _ => letGo (#[] : Array Value).toList.reverse >>= fun _ => Builtin.List.listExtendWith (.ref s.heap.objs.size) (.ref it) .none) _ _ _
  refine wpAny_bind (wpAny_updateSeq hS rfl ?_)
  have hS₂ := Heap.get?_update_self (Obj.mapSeq (fun _ => (#[] : Array Value))) hS rfl
  have oth : ∀ b o, b ≠ s.heap.objs.size → s.heap.get? b = some o → ((s.heap.push { cls := .type "list", data := .seq #[] }).update s.heap.objs.size (Obj.mapSeq (fun _ => (#[] : Array Value)))).get? b = some o :=
    fun b o hb e => (Heap.get?_update_other _ _ (Ne.symm hb)).trans (Heap.get?_push_of_some _ e)
  refine wpAny_bind (wpAny_letGo ?_)
  generalize hH : (s.heap.push { cls := .type "list", data := .seq #[] }).update s.heap.objs.size (Obj.mapSeq (fun _ => (#[] : Array Value))) = H2 at *
  have hit1 : H2.IsRevIter it l ((items.size : Int) - 1) := hit.at fun o e => oth _ _ (Ne.symm hSi) e
  have hl1 : H2.IsList l items := hl.at fun o e => oth _ _ (Ne.symm hSl) e
  have hT : ({ s with heap := H2 } : Shared).TypeIs (.ref it) "list_reverseiterator" := Heap.IsRevIter.typeIs (s := { s with heap := H2 }) hit1
  have h1 : Builtin.List.listSameRef (.ref s.heap.objs.size) (.ref it) = false := by simp [Builtin.List.listSameRef, hSi]
  unfold Builtin.List.listExtendWith
  refine wpAny_bind (wpAny_typeOf hT ?_)
  rw [if_neg (by rw [h1]; decide)]
  refine wpAny_bind (wpAny_pyIter_revIter (s := { s with heap := H2 }) hit1 ?_)
  refine wpAny_bind (wpAny_holding ?_)
  unfold Builtin.List.listLengthHint
  refine wpAny_bind (wpAny_specialOf hT nolen_lri ?_)
  show wpAny _ A.in1.in1 (specialOf (Value.ref it) (Str.ofString "__length_hint__") >>= _) _ _ _
  refine wpAny_bind (wpAny_specialOf hT hint_lri ?_)
  generalize hid : ("list_reverseiterator.__length_hint__" : String) = id0
  wp_delta
  rw [show splitId id0 = some ("list_reverseiterator", "__length_hint__") from by subst hid; decide +kernel]
  subst hid
  refine wpAny_bind (wpAny_isInstance (b := true) hT (by rw [isSubtype_type]; kernel_rfl) ?_)
  refine wpAny_pure ?_
  rw [if_neg (by decide)]
  have e0 : ((items.size : Nat) : Int) - 1 - ((0 : Nat) : Int) = (items.size : Int) - 1 := by omega
  refine wpAny_pure ⟨plainId_quiet F.plain_extend_loop _, codeAny_extend_loopS W hn _ hSf _ items.size 0 _ _ _ rfl (Nat.zero_le _) ⟨Nat.zero_le _, by rw [e0]; exact hit1, hl1⟩ hS₂ (ItemsOf.nil _) fun s' acc' c' hm hS' hacc => ?_⟩
  rw [Moved.eq_with hm]
  refine ⟨rfl, hQ s'.heap s'.toks acc' c' (fun b o hb e => hm.heap b o (fun hmem => ?_) (oth b o (Nat.ne_of_lt (Heap.lt_size e)) e)) hS' hacc⟩
  rcases List.mem_cons.mp hmem with e' | hmem
  · exact absurd (Heap.lt_size e) (by rw [e']; exact Nat.lt_irrefl _)
  · exact hb (List.mem_singleton.mp hmem)
end
theorem Ats.reverse {K : PySem.W.Frag} {H : Hp} : ∀ {vs : List V} {ds : List Dat}, Ats K H vs ds → Ats K H vs.reverse ds.reverse
  | _, _, .nil => .nil
  | _, _, .cons a t => by
    rw [List.reverse_cons, List.reverse_cons]
    exact (Ats.reverse t).append (.cons a .nil)
section
variable {X : Cx}
theorem pe_listRev {e : Expr} {te : TE} {p p2 pos pos2 : Pos} (hc : X.calm = true) (hg : Gl X "list") (hm : X.mg "list" = none) (hg2 : Gl X "reversed") (hm2 : X.mg "reversed" = none) (he : PE X e te)
    (hs : starEach [e] X.env = (false, eval e X.env) :: starEach [] X.env := by rfl)
    (hs2 : starEach [.Call (.Name "reversed" p2) [e] [] pos2] X.env = (false, eval (.Call (.Name "reversed" p2) [e] [] pos2) X.env) :: starEach [] X.env := by rfl) :
    PE X (.Call (.Name "list" p) [.Call (.Name "reversed" p2) [e] [] pos2] [] pos) (fun σ H Q => te σ H fun v H1 => ∃ (a : Addr) (xs : List V), v = .ref a ∧ SqL X.K H1 a xs ∧ ∀ q, H1 q = none → Q (.ref q) (upd H1 q (.lst xs.reverse))) := by
  refine ⟨fun pins s σ H Q I h => ?_⟩
  refine Call_ (ld_blt I hg hm boot_list (PyProof.Rows.callWith_type1 (args_cons (Call_ (ld_blt I hg2 hm2 PyProof.Rows.boot_reversed (PyProof.Rows.callWith_type1 (args_cons (thn (he.run pins s σ H _ I h) fun u s1 ⟨v, H1, I1, r1, q1⟩ => args_nil ?_) hs) hs rfl))) hs2) hs2 rfl))
  obtain ⟨a, xs, ev, hq, q⟩ := q1
  subst ev
  obtain rfl : u = Value.ref a := r1
  obtain ⟨its, rv, p', hz⟩ := I1.list hq
  refine call_reversed_list p'.isList (args_nil ?_)
  have k0 : ∀ b o, s1.heap.get? b = some o → (s1.heap.push (revObj a ((its.toArray.size : Int) - 1))).get? b = some o := fun b o e => Heap.get?_push_of_some _ e
  have hl := p'.isList
  obtain ⟨ol, hol, _⟩ := id hl
  have hne : a ≠ s1.heap.objs.size := Nat.ne_of_lt (Heap.lt_size hol)
  have hn : its.toArray.size ≤ sizeLine := by rw [List.size_toArray, ← rv.length]; exact hz
  refine call_list_rev (s := { s1 with heap := s1.heap.push (revObj a ((its.toArray.size : Int) - 1)) }) (I1.ok.hd hc) ⟨_, Heap.get?_push_size _ rfl, rfl, rfl⟩ (hl.push _) hne hn fun h' tk acc c' hk hS hi => ?_
  have hk1 : ∀ b u, s1.heap.get? b = some u → h'.get? b = some u := fun b u e => hk b u (Nat.ne_of_lt (Heap.lt_size e)) (k0 b u e)
  have hle : s1.heap.objs.size ≤ (s1.heap.push (revObj a ((its.toArray.size : Int) - 1))).objs.size := by simp [Heap.push]
  refine ⟨.ref _, upd H1 _ (.lst xs.reverse), I1.laid (t' := tk) hk1 hle (show ObjOk X.prog X.w _ _ _ (.lst xs.reverse) from ⟨by rw [List.length_reverse]; exact hz, acc.toList, c', vals_rev rv hi, ?_⟩), rfl, q _ (I1.hok.fresh hle)⟩
  rw [Array.toArray_toList]
  exact hS
variable {H0 : Hp} {ρ : Env'} {a : Expr} {ds : List Dat} {p p2 pos pos2 : Pos}
theorem eo_listRev (ha : EvB X H0 ρ a (.lst ds)) (f : flats ds = true) (hc : X.calm = true) (hm : X.mg "list" = none) (hm2 : X.mg "reversed" = none) (hg : Gl X "list" := by rfl) (hg2 : Gl X "reversed" := by rfl) (hs : starEach [a] X.env = (false, eval a X.env) :: starEach [] X.env := by rfl)
    (hs2 : starEach [.Call (.Name "reversed" p2) [a] [] pos2] X.env = (false, eval (.Call (.Name "reversed" p2) [a] [] pos2) X.env) :: starEach [] X.env := by rfl) : EvO X H0 ρ (.Call (.Name "list" p) [.Call (.Name "reversed" p2) [a] [] pos2] [] pos) (.lst ds.reverse) := fun σ H N rp =>
  we_of (pe_listRev hc hg hm hg2 hm2 pe_w hs hs2) ((ha σ H N rp).imp fun v H1 ⟨N1, s1, n1, r1, a1⟩ => by
    obtain ⟨q, us, e3, h1, h2⟩ := at_lst a1
    obtain ⟨N2, n2, r2, k⟩ := r1.keep
    refine ⟨q, us, e3, h1, fun l hl => ?_⟩
    obtain ⟨r3, n3⟩ := eo_new (o := .lst us.reverse) r2 hl
    refine ⟨N2, l, rfl, s1.free hl, s1.trans (Same.of_none hl), n1.trans n2, r3, n3, us.reverse, upd_same, ?_⟩
    have h3 : Ats X.K N2 us ds := (h2.imm f).mono k
    exact h3.reverse)
end
end B

namespace B
open PySem PySem.Spec PyProof.Rows L2

/-! ### what a text's part comes to: a value, an error, or out of reach -/
inductive M (α : Type) where
  | ok (a : α)
  | ex (n : Str)
  | far
namespace M
variable {α β : Type}
def bind (m : M α) (k : α → M β) : M β := match m with
  | .ok a => k a
  | .ex n => .ex n
  | .far => .far
def nox (m : M α) : M α := match m with
  | .ok a => .ok a
  | _ => .far
def gd (b : Bool) (m : M α) : M α := match b with
  | true => m
  | false => .far
def ofO (o : Option α) : M α := match o with
  | some a => .ok a
  | none => .far
def lt (v : α) (k : α → M β) : M β := k v
@[simp] theorem bind_ok (a : α) (k : α → M β) : (M.ok a).bind k = k a := id rfl
@[simp] theorem bind_ex (n : Str) (k : α → M β) : (M.ex n : M α).bind k = .ex n := id rfl
@[simp] theorem bind_far (k : α → M β) : (M.far : M α).bind k = .far := id rfl
@[simp] theorem nox_ok (a : α) : (M.ok a).nox = .ok a := id rfl
@[simp] theorem nox_ex (n : Str) : (M.ex n : M α).nox = .far := id rfl
@[simp] theorem nox_far : (M.far : M α).nox = .far := id rfl
@[simp] theorem gd_true (m : M α) : gd true m = m := id rfl
@[simp] theorem ofO_some (a : α) : ofO (some a) = .ok a := id rfl
@[simp] theorem lt_eq (v : α) (k : α → M β) : lt v k = k v := id rfl
theorem gd_of {b : Bool} (m : M α) (h : b = true) : gd b m = m := by rw [h]; rfl
theorem ofO_of {o : Option α} {a : α} (h : o = some a) : ofO o = .ok a := by rw [h]; rfl
theorem nox_of {m : M α} {a : α} (h : m = .ok a) : m.nox = .ok a := by rw [h]; rfl
theorem bind_of {m : M α} {a : α} {k : α → M β} (h : m = .ok a) : m.bind k = k a := by rw [h]; rfl
end M
/-- how a block goes on -/
inductive Fl (S L R : Type) where
  | nx (s : S)
  | ct (s : L)
  | bk (s : L)
  | rt (r : R)
section
variable {α S S' L L' R : Type}
def M.seq (m : M (Fl S L R)) (k : S → M (Fl S' L R)) : M (Fl S' L R) := match m with
  | .ok (.nx s) => k s
  | .ok (.ct s) => .ok (.ct s)
  | .ok (.bk s) => .ok (.bk s)
  | .ok (.rt r) => .ok (.rt r)
  | .ex n => .ex n
  | .far => .far
def M.seqT (m : M (Fl S L R)) (k : S → M R) : M R := match m with
  | .ok (.nx s) => k s
  | .ok (.rt r) => .ok r
  | .ex n => .ex n
  | _ => .far
@[simp] theorem M.seq_nx (s : S) (k : S → M (Fl S' L R)) : (M.ok (Fl.nx s)).seq k = k s := id rfl
@[simp] theorem M.seq_ct (s : L) (k : S → M (Fl S' L R)) : (M.ok (Fl.ct s)).seq k = .ok (.ct s) := id rfl
@[simp] theorem M.seq_bk (s : L) (k : S → M (Fl S' L R)) : (M.ok (Fl.bk s)).seq k = .ok (.bk s) := id rfl
@[simp] theorem M.seq_rt (s : R) (k : S → M (Fl S' L R)) : (M.ok (Fl.rt s)).seq k = .ok (.rt s) := id rfl
@[simp] theorem M.seqT_nx (s : S) (k : S → M R) : (M.ok (Fl.nx s : Fl S L R)).seqT k = k s := id rfl
@[simp] theorem M.seqT_rt (s : R) (k : S → M R) : (M.ok (Fl.rt s : Fl S L R)).seqT k = .ok s := id rfl
@[simp] theorem M.seq_ex (n : Str) (k : S → M (Fl S' L R)) : (M.ex n).seq k = .ex n := id rfl
@[simp] theorem M.seqT_ex (n : Str) (k : S → M R) : (M.ex n : M (Fl S L R)).seqT k = .ex n := id rfl
/-- a for whose body only falls through -/
def forM (f : α → S → M S) : List α → S → M S
  | [], s => .ok s
  | x :: xs, s => (f x s).bind fun s' => forM f xs s'
def forF (f : α → S → M (Fl S S R)) : List α → S → M (Fl S L R)
  | [], s => .ok (.nx s)
  | x :: xs, s => match f x s with
    | .ok (.nx s') => forF f xs s'
    | .ok (.ct s') => forF f xs s'
    | .ok (.bk s') => .ok (.nx s')
    | .ok (.rt r) => .ok (.rt r)
    | .ex n => .ex n
    | .far => .far
def whileM (c : S → M Bool) (f : S → M S) : Nat → S → M S
  | 0, _ => .far
  | n + 1, s => (c s).bind fun t => if t = true then (f s).bind fun s' => whileM c f n s' else .ok s
def whileF (c : S → M Bool) (f : S → M (Fl S S R)) : Nat → S → M (Fl S L R)
  | 0, _ => .far
  | n + 1, s => (c s).bind fun t => if t = true then (match f s with
    | .ok (.nx s') => whileF c f n s'
    | .ok (.ct s') => whileF c f n s'
    | .ok (.bk s') => .ok (.nx s')
    | .ok (.rt r) => .ok (.rt r)
    | .ex n => .ex n
    | .far => .far) else .ok (.nx s)
def compM {β : Type} (f : α → M Bool) (g : α → M β) : List α → M (List β)
  | [] => .ok []
  | x :: xs => (f x).bind fun b => if b = true then (g x).bind fun y => (compM f g xs).bind fun ys => .ok (y :: ys) else compM f g xs
end

section
variable (X : Cx) (H0 : Hp) (ρ : Env') {α β : Type}
def EvM (e : Expr) (en : α → Dat) (m : M α) : Prop := match m with
  | .ok v => Ev X H0 ρ e (en v)
  | .ex n => EvX X H0 ρ e n
  | .far => True
def EtM (e : Expr) (m : M Bool) : Prop := match m with
  | .ok v => EvT X H0 ρ e v
  | .ex _ => False
  | .far => True
def EwM (e : Expr) (m : M Bool) : Prop := match m with
  | .ok v => EvW X H0 ρ e v
  | .ex _ => False
  | .far => True
def EoM (e : Expr) (en : α → Dat) (m : M α) : Prop := match m with
  | .ok v => EvO X H0 ρ e (en v)
  | .ex n => EvX X H0 ρ e n
  | .far => True
/-- a block -/
def ExM (k : Nat) (sts : List Stmt) (D : α → Outc) (m : M α) : Prop := match m with
  | .ok v => Exec X H0 ρ sts (D v)
  | .ex n => Exec X H0 ρ sts (.ex n (List.replicate k .no))
  | .far => True
end
/-- a statement -/
def ExSM (X : Cx) (H0 : Hp) (ρ : Env') {α : Type} (k : Nat) (st : Stmt) (D : α → Outc) (m : M α) : Prop := match m with
  | .ok v => ExS X H0 ρ st (D v)
  | .ex n => ExS X H0 ρ st (.ex n (List.replicate k .no))
  | .far => True
/-- a def's promise -/
def Rm {α : Type} (en : α → Dat) (m : M α) (o : Res) : Prop := match m with
  | .ok v => o = .val (en v)
  | .ex n => o = .exc n
  | .far => False
def RmO {α : Type} (en : α → Dat) (m : M α) (o : Res) : Prop := match m with
  | .ok v => o = .own (en v)
  | .ex n => o = .exc n
  | .far => False
theorem rm_ok {α : Type} {en : α → Dat} {m : M α} {v : α} (h : m = .ok v) : Rm en m (.val (en v)) := by subst h; rfl
theorem rm_ex {α : Type} {en : α → Dat} {m : M α} {n : Str} (h : m = .ex n) : Rm en m (.exc n) := by subst h; rfl
theorem rmO_ok {α : Type} {en : α → Dat} {m : M α} {v : α} (h : m = .ok v) : RmO en m (.own (en v)) := by subst h; rfl
theorem rmO_ex {α : Type} {en : α → Dat} {m : M α} {n : Str} (h : m = .ex n) : RmO en m (.exc n) := by subst h; rfl
def Fl.D {S L R : Type} (eS : S → Env') (eL : L → Env') (oR : R → Outc) : Fl S L R → Outc
  | .nx s => .nx (eS s)
  | .ct s => .ct (eL s)
  | .bk s => .bk (eL s)
  | .rt r => oR r
/-- the names that are let go -/
def drops (ρ : Env') : List Nat → Env'
  | [] => ρ
  | i :: is => drops (ρ.set i .no) is

section
variable {X : Cx} {H0 : Hp} {ρ ρ0 ρ1 ρ2 : Env'} {α β S S' L L' R : Type} {a b c e : Expr} {es : List Expr} {st : Stmt} {sts as bs body rest : List Stmt} {d d1 d2 : Dat} {ds : List Dat} {p pos : Pos} {o o1 : Outc} {x n : Str} {k : Nat} {D : α → Outc} {m : M α} {en : α → Dat} {g : Bool}
/-! ### expressions -/
theorem evm_gd (h : g = true → EvM X H0 ρ e en m) : EvM X H0 ρ e en (M.gd g m) := by
  cases g with
  | true => exact h rfl
  | false => trivial
theorem evm_bind {mb : M β} {f : β → M α} (h : ∀ r, mb = .ok r → EvM X H0 ρ e en (f r)) : EvM X H0 ρ e en (M.bind (M.nox mb) f) := by
  cases mb with
  | ok r => exact h r rfl
  | ex _ => trivial
  | far => trivial
theorem evm_ofO {ob : Option β} {f : β → M α} (h : ∀ r, ob = some r → EvM X H0 ρ e en (f r)) : EvM X H0 ρ e en (M.bind (M.ofO ob) f) := by
  cases ob with
  | some r => exact h r rfl
  | none => trivial
theorem evm_ok {v : α} (h : Ev X H0 ρ e (en v)) : EvM X H0 ρ e en (.ok v) := h
theorem evm_get {v : α} (h : EvM X H0 ρ e en m) (q : m = .ok v) : Ev X H0 ρ e (en v) := by subst q; exact h
theorem etm_gd {m : M Bool} (h : g = true → EtM X H0 ρ e m) : EtM X H0 ρ e (M.gd g m) := by
  cases g with
  | true => exact h rfl
  | false => trivial
theorem etm_bind {mb : M β} {f : β → M Bool} (h : ∀ r, mb = .ok r → EtM X H0 ρ e (f r)) : EtM X H0 ρ e (M.bind (M.nox mb) f) := by
  cases mb with
  | ok r => exact h r rfl
  | ex _ => trivial
  | far => trivial
theorem etm_ofO {ob : Option β} {f : β → M Bool} (h : ∀ r, ob = some r → EtM X H0 ρ e (f r)) : EtM X H0 ρ e (M.bind (M.ofO ob) f) := by
  cases ob with
  | some r => exact h r rfl
  | none => trivial
theorem etm_ok {v : Bool} (h : EvT X H0 ρ e v) : EtM X H0 ρ e (.ok v) := h
theorem etm_get {m : M Bool} {v : Bool} (h : EtM X H0 ρ e m) (q : m = .ok v) : EvT X H0 ρ e v := by subst q; exact h
theorem ewm_get {m : M Bool} {v : Bool} (h : EwM X H0 ρ e m) (q : m = .ok v) : EvW X H0 ρ e v := by subst q; exact h
theorem ewm_gd {m : M Bool} (h : g = true → EwM X H0 ρ e m) : EwM X H0 ρ e (M.gd g m) := by
  cases g with
  | true => exact h rfl
  | false => trivial
theorem ewm_bind {mb : M β} {f : β → M Bool} (h : ∀ r, mb = .ok r → EwM X H0 ρ e (f r)) : EwM X H0 ρ e (M.bind (M.nox mb) f) := by
  cases mb with
  | ok r => exact h r rfl
  | ex _ => trivial
  | far => trivial
theorem ewm_ofO {ob : Option β} {f : β → M Bool} (h : ∀ r, ob = some r → EwM X H0 ρ e (f r)) : EwM X H0 ρ e (M.bind (M.ofO ob) f) := by
  cases ob with
  | some r => exact h r rfl
  | none => trivial
theorem ewm_ok {v : Bool} (h : EvW X H0 ρ e v) : EwM X H0 ρ e (.ok v) := h
/-- x and y, where y may be out of reach -/
theorem ewm_and {u : Bool} {m : M Bool} {rs : List Expr} (h : EvT X H0 ρ a u) (q : u = true → EwM X H0 ρ (.BoolOp .And (b :: rs) pos) m) : EwM X H0 ρ (.BoolOp .And (a :: b :: rs) pos) (if u = true then m else .ok false) := by
  cases u with
  | true =>
    rw [if_pos rfl]
    have q := q rfl
    cases m with
    | ok v => exact ew_and (k := true) h (fun _ => q)
    | ex n => exact q.elim
    | far => trivial
  | false =>
    rw [if_neg (by decide)]
    exact ew_and (k := false) (l := false) h (fun z => nomatch z)
theorem ewm_or {u : Bool} {m : M Bool} {rs : List Expr} (h : EvT X H0 ρ a u) (q : u = false → EwM X H0 ρ (.BoolOp .Or (b :: rs) pos) m) : EwM X H0 ρ (.BoolOp .Or (a :: b :: rs) pos) (if u = true then .ok true else m) := by
  cases u with
  | true =>
    rw [if_pos rfl]
    exact ew_or (k := true) (l := true) h (fun z => nomatch z)
  | false =>
    rw [if_neg (by decide)]
    have q := q rfl
    cases m with
    | ok v => exact ew_or (k := false) h (fun _ => q)
    | ex n => exact q.elim
    | far => trivial
theorem evm_and {u : Bool} {m : M Bool} {rs : List Expr} (h : Ev X H0 ρ a (.bl u)) (q : u = true → EvM X H0 ρ (.BoolOp .And (b :: rs) pos) Dat.bl m) (hx : ∀ n, m ≠ .ex n) : EvM X H0 ρ (.BoolOp .And (a :: b :: rs) pos) Dat.bl (if u = true then m else .ok false) := by
  cases u with
  | true =>
    rw [if_pos rfl]
    have q := q rfl
    cases m with
    | ok v => exact ev_andB (k := true) h (fun _ => q)
    | ex n => exact (hx n rfl).elim
    | far => trivial
  | false =>
    rw [if_neg (by decide)]
    exact ev_andB (k := false) (l := false) h (fun z => nomatch z)
theorem evm_or {u : Bool} {m : M Bool} {rs : List Expr} (h : Ev X H0 ρ a (.bl u)) (q : u = false → EvM X H0 ρ (.BoolOp .Or (b :: rs) pos) Dat.bl m) (hx : ∀ n, m ≠ .ex n) : EvM X H0 ρ (.BoolOp .Or (a :: b :: rs) pos) Dat.bl (if u = true then .ok true else m) := by
  cases u with
  | true =>
    rw [if_pos rfl]
    exact ev_orB (k := true) (l := true) h (fun z => nomatch z)
  | false =>
    rw [if_neg (by decide)]
    have q := q rfl
    cases m with
    | ok v => exact ev_orB (k := false) h (fun _ => q)
    | ex n => exact (hx n rfl).elim
    | far => trivial
theorem evm_ife {u : Bool} {m1 m2 : M α} (h : EvT X H0 ρ c u) (q1 : u = true → EvM X H0 ρ a en m1) (q2 : u = false → EvM X H0 ρ b en m2) (hx1 : ∀ n, m1 ≠ .ex n) (hx2 : ∀ n, m2 ≠ .ex n) : EvM X H0 ρ (.IfExp c a b pos) en (if u = true then m1 else m2) := by
  cases u with
  | true =>
    rw [if_pos rfl]
    have q := q1 rfl
    cases m1 with
    | ok v => exact ev_ifT h q
    | ex n => exact (hx1 n rfl).elim
    | far => trivial
  | false =>
    rw [if_neg (by decide)]
    have q := q2 rfl
    cases m2 with
    | ok v => exact ev_ifF h q
    | ex n => exact (hx2 n rfl).elim
    | far => trivial
theorem ev_ife {u : Bool} {v1 v2 : α} (h : EvT X H0 ρ c u) (q1 : Ev X H0 ρ a (en v1)) (q2 : Ev X H0 ρ b (en v2)) : Ev X H0 ρ (.IfExp c a b pos) (en (if u = true then v1 else v2)) := by
  cases u with
  | true => exact ev_ifT h q1
  | false => exact ev_ifF h q2
theorem evm_nox (h : EvM X H0 ρ e en m) : EvM X H0 ρ e en m.nox := by
  cases m with
  | ok v => exact h
  | ex n => trivial
  | far => trivial
theorem nox_ne {m : M α} : ∀ n, m.nox ≠ .ex n := fun n => by cases m <;> exact fun z => nomatch z

/-! ### blocks: what stands ahead of a statement -/
theorem xm_gd (h : g = true → ExM X H0 ρ k sts D m) : ExM X H0 ρ k sts D (M.gd g m) := by
  cases g with
  | true => exact h rfl
  | false => trivial
theorem xm_bind {mb : M β} {f : β → M α} (h : ∀ r, mb = .ok r → ExM X H0 ρ k sts D (f r)) : ExM X H0 ρ k sts D (M.bind (M.nox mb) f) := by
  cases mb with
  | ok r => exact h r rfl
  | ex _ => trivial
  | far => trivial
theorem xm_ofO {ob : Option β} {f : β → M α} (h : ∀ r, ob = some r → ExM X H0 ρ k sts D (f r)) : ExM X H0 ρ k sts D (M.bind (M.ofO ob) f) := by
  cases ob with
  | some r => exact h r rfl
  | none => trivial
theorem ex_drops : ∀ (is : List Nat) {ρ : Env'}, Exec X H0 (drops ρ is) sts o → Exec X H0 ρ sts o
  | [], _, h => h
  | i :: is, _, h => ex_drop i (ex_drops is h)
theorem xm_drops (is : List Nat) (h : ExM X H0 (drops ρ is) k sts D m) : ExM X H0 ρ k sts D m := by
  cases m with
  | ok v => exact ex_drops is h
  | ex n => exact ex_drops is h
  | far => trivial
theorem xm_freeze (i : Nat) (hi : ρ[i]? = some (.ow d)) (h : ExM X H0 (ρ.set i (.im d)) k sts D m) : ExM X H0 ρ k sts D m := by
  cases m with
  | ok v => exact ex_freeze i hi h
  | ex n => exact ex_freeze i hi h
  | far => trivial
theorem xm_env (h : ExM X H0 ρ1 k sts D m) (e : ρ = ρ1 := by rfl) : ExM X H0 ρ k sts D m := e ▸ h
theorem xm_then (h : ExS X H0 ρ st (.nx ρ1)) (t : ExM X H0 ρ1 k rest D m) : ExM X H0 ρ k (st :: rest) D m := by
  cases m with
  | ok v => exact ex_then h t
  | ex n => exact ex_then h t
  | far => trivial
theorem xm_then' {f : β → M α} {v : β} (h : ExS X H0 ρ st (.nx ρ1)) (t : ExM X H0 ρ1 k rest D (f v)) : ExM X H0 ρ k (st :: rest) D (M.lt v f) := xm_then h t
/-- a statement that raises -/
theorem ex_raises (h : ExS X H0 ρ st (.ex n ρ)) (hk : ρ.length = k) : Exec X H0 ρ (st :: rest) (.ex n (List.replicate k .no)) := ex_nos (ex_cons h rfl) hk
/-- x = f(..), which may raise -/
theorem xm_setM {eb : β → Dat} {mb : M β} {f : β → M α} (i : Nat) {x : Str} {pos' : Pos} (h : EvM X H0 ρ e eb mb) (nd : X.N.Nodup) (t : ∀ r, ExM X H0 (ρ.set i (.im (eb r))) k rest D (f r)) (hk : ρ.length = k := by rfl) (hi : X.N[i]? = some x := by rfl) (hx : Loc X.env.scope x := by first | exact Or.inl rfl | exact Or.inr rfl)
    (hs : swapsWith e (some (.Name x pos')) pos.line X.env = pure false := by rfl) (hf : X.fn x = true ∨ X.env.scope.names.lookup x = some .local := by first | exact .inl rfl | exact .inr rfl | assumption) : ExM X H0 ρ k (.Assign [.Name x pos'] e pos :: rest) D (M.bind mb f) := by
  cases mb with
  | ok r => exact xm_then (sx_set i h nd rfl hi hx hs hf) (t r)
  | ex n => exact ex_raises (sx_setX h nd hi hx hs hf) hk
  | far => trivial
theorem xm_setMO {eb : β → Dat} {mb : M β} {f : β → M α} (i : Nat) {x : Str} {pos' : Pos} (h : EoM X H0 ρ e eb mb) (nd : X.N.Nodup) (t : ∀ r, ExM X H0 (ρ.set i (.ow (eb r))) k rest D (f r)) (hk : ρ.length = k := by rfl) (hi : X.N[i]? = some x := by rfl) (hx : Loc X.env.scope x := by first | exact Or.inl rfl | exact Or.inr rfl)
    (hs : swapsWith e (some (.Name x pos')) pos.line X.env = pure false := by rfl) (hf : X.fn x = true ∨ X.env.scope.names.lookup x = some .local := by first | exact .inl rfl | exact .inr rfl | assumption) : ExM X H0 ρ k (.Assign [.Name x pos'] e pos :: rest) D (M.bind mb f) := by
  cases mb with
  | ok r => exact xm_then (sx_setO i h nd rfl hi hx hs hf) (t r)
  | ex n => exact ex_raises (sx_setX h nd hi hx hs hf) hk
  | far => trivial
theorem xm_asgM {eb : β → Dat} {mb : M β} {f : β → M α} {t : Expr} {ok : Dat → Prop} {bd : Dat → Env' → Env'} (h : EvM X H0 ρ e eb mb) (hg : Tgt X H0 t ok bd) (hok : ∀ r, ok (eb r)) (tt : ∀ r, ExM X H0 (bd (eb r) ρ) k rest D (f r)) (hk : ρ.length = k := by rfl) (hs : swapsWithSole [t] e pos.line X.env = pure false := by rfl) (hw : swappedStores [t] e X.env = pure none := by rfl)
    (h1 : (assignEach [t] X.env).map (·.2) = [assign t X.env] := by rfl) : ExM X H0 ρ k (.Assign [t] e pos :: rest) D (M.bind mb f) := by
  cases mb with
  | ok r => exact xm_then (sx_asg h hg (hok r) rfl hs hw h1) (tt r)
  | ex n => exact ex_raises (sx_asgX h hg hs hw h1) hk
  | far => trivial
theorem xm_exprM {eb : β → Dat} {mb : M β} {f : β → M α} (h : EvM X H0 ρ e eb mb) (t : ∀ r, ExM X H0 ρ k rest D (f r)) (hk : ρ.length = k := by rfl) (hs : swapsWith e none pos.line X.env = pure false := by rfl) : ExM X H0 ρ k (.Expr e pos :: rest) D (M.bind mb f) := by
  cases mb with
  | ok r => exact xm_then (sx_expr h hs) (t r)
  | ex n => exact ex_raises (sx_exprX h hs) hk
  | far => trivial
/-! ### returns -/
theorem xm_ret {v : α} (h : Ev X H0 ρ e d) (hD : D v = .rt d := by rfl) : ExM X H0 ρ k (.Return (some e) pos :: rest) D (.ok v) := by
  show Exec X H0 ρ _ (D v)
  rw [hD]
  exact ex_cons (sx_ret h) rfl
theorem sx_retO (h : EvO X H0 ρ e d) : ExS X H0 ρ (.Return (some e) pos) (.ro d) := fun Dd σ H N r q => ws_of (ps_ret pe_w) ((h σ H N r).imp fun v H' ⟨N', p, e1, hp, s, n, r', np, ow⟩ => by
  subst e1
  exact q p H' N' r'.old r'.sub r'.fresh (r.old.free hp) np ow)
theorem sx_retOw (i : Nat) (h : ρ[i]? = some (.ow d)) (hN : X.N[i]? = some x := by rfl) (hv : Vis X.env.scope x := by first | exact Or.inl rfl | exact Or.inr (Or.inl rfl) | exact Or.inr (Or.inr rfl)) (hd : (x == ("__debug__" : Str)) = false := by decide)
    (hcd : (x == ("__classdict__" : Str)) = false := by decide) {pos'} : ExS X H0 ρ (.Return (some (.Name x pos')) pos) (.ro d) := fun Dd σ H N r q => ws_of (ps_ret (pv i hN hv hd hcd))
  (let ⟨p, h1, h2, h3, h4⟩ := r.ow i d h; ⟨.ref p, h1, q p H N r.old r.sub r.fresh h2 h3 h4⟩)
theorem xm_retO {v : α} (h : EvO X H0 ρ e d) (hD : D v = .ro d := by rfl) : ExM X H0 ρ k (.Return (some e) pos :: rest) D (.ok v) := by
  show Exec X H0 ρ _ (D v)
  rw [hD]
  exact ex_cons (sx_retO h) rfl
theorem xm_retOw {v : α} (i : Nat) (h : ρ[i]? = some (.ow d)) (hD : D v = .ro d := by rfl) (hN : X.N[i]? = some x := by rfl) (hv : Vis X.env.scope x := by first | exact Or.inl rfl | exact Or.inr (Or.inl rfl) | exact Or.inr (Or.inr rfl)) (hd : (x == ("__debug__" : Str)) = false := by decide)
    (hcd : (x == ("__classdict__" : Str)) = false := by decide) {pos'} : ExM X H0 ρ k (.Return (some (.Name x pos')) pos :: rest) D (.ok v) := by
  show Exec X H0 ρ _ (D v)
  rw [hD]
  exact ex_cons (sx_retOw i h hN hv hd hcd) rfl
theorem xm_retM {eb : β → Dat} {mb : M β} {f : β → α} (h : EvM X H0 ρ e eb mb) (hD : ∀ r, D (f r) = .rt (eb r) := by intro _; rfl) (hk : ρ.length = k := by rfl) : ExM X H0 ρ k (.Return (some e) pos :: rest) D (M.bind mb fun r => .ok (f r)) := by
  cases mb with
  | ok r => exact xm_ret h (hD r)
  | ex n => exact ex_raises (sx_retX h) hk
  | far => trivial
theorem xm_retMO {eb : β → Dat} {mb : M β} {f : β → α} (h : EoM X H0 ρ e eb mb) (hD : ∀ r, D (f r) = .ro (eb r) := by intro _; rfl) (hk : ρ.length = k := by rfl) : ExM X H0 ρ k (.Return (some e) pos :: rest) D (M.bind mb fun r => .ok (f r)) := by
  cases mb with
  | ok r => exact xm_retO h (hD r)
  | ex n => exact ex_raises (sx_retX h) hk
  | far => trivial
theorem xm_raise {mm : Str} {j : Nat} {p p2 pos pos2 : Pos} (T : Exc X.K X.mg n) (hc : X.calm = true) (hk : ρ.length = k := by rfl) (hg : Gl X n := by rfl) (hdb : (n == ("__debug__" : Str)) = false := by decide) : ExM X H0 ρ k (.Raise (some (.Call (.Name n p) [.Constant (.str mm) j p2] [] pos)) none pos2 :: rest) D (.ex n) :=
  ex_raises (sx_raise T hc hg hdb) hk
/-! ### ends of a block -/
theorem xm_end {v : α} (is : List Nat) (hD : D v = .nx (drops ρ is) := by rfl) : ExM X H0 ρ k [] D (.ok v) := by
  show Exec X H0 ρ [] (D v)
  rw [hD]
  exact ex_drops is ex_nil
theorem xm_brk {v : α} (is : List Nat) (hD : D v = .bk (drops ρ is) := by rfl) : ExM X H0 ρ k (.Break pos :: rest) D (.ok v) := by
  show Exec X H0 ρ _ (D v)
  rw [hD]
  exact ex_drops is (ex_cons sx_break rfl)
theorem xm_cnt {v : α} (is : List Nat) (hD : D v = .ct (drops ρ is) := by rfl) : ExM X H0 ρ k (.Continue pos :: rest) D (.ok v) := by
  show Exec X H0 ρ _ (D v)
  rw [hD]
  exact ex_drops is (ex_cons sx_continue rfl)
/-! ### if -/
theorem out_cons {o : Outc} (h : ExS X H0 ρ st o) (ho : o.out) : Exec X H0 ρ (st :: rest) o := ex_out h ho
/-- the first way leaves the def -/
theorem xm_ifX {m2 : M α} (hD : ∀ v, (D v).out) (hc : EvT X H0 ρ c g) (h1 : g = true → ExM X H0 ρ k as D m) (h2 : g = false → ExM X H0 ρ k rest D m2) : ExM X H0 ρ k (.If c as [] pos :: rest) D (if g = true then m else m2) := by
  cases g with
  | true =>
    rw [if_pos rfl]
    have h1 := h1 rfl
    cases m with
    | ok v => exact ex_out (sx_ifT hc h1) (hD v)
    | ex n => exact ex_out (sx_ifT hc h1) trivial
    | far => trivial
  | false =>
    rw [if_neg (by decide)]
    exact xm_then (sx_skip hc) (h2 rfl)
/-- both leave it -/
theorem xm_ifXX {m2 : M α} (hD : ∀ v, (D v).out) (hc : EvT X H0 ρ c g) (h1 : g = true → ExM X H0 ρ k as D m) (h2 : g = false → ExM X H0 ρ k bs D m2) : ExM X H0 ρ k (.If c as bs pos :: rest) D (if g = true then m else m2) := by
  cases g with
  | true =>
    rw [if_pos rfl]
    have h1 := h1 rfl
    cases m with
    | ok v => exact ex_out (sx_ifT hc h1) (hD v)
    | ex n => exact ex_out (sx_ifT hc h1) trivial
    | far => trivial
  | false =>
    rw [if_neg (by decide)]
    have h2 := h2 rfl
    cases m2 with
    | ok v => exact ex_out (sx_ifF hc h2) (hD v)
    | ex n => exact ex_out (sx_ifF hc h2) trivial
    | far => trivial
/-- both fall through -/
theorem xm_ifN {eS : S → Env'} {m1 m2 : M S} {f : S → M α} (hc : EvT X H0 ρ c g) (h1 : g = true → ExM X H0 ρ k as (fun s => .nx (eS s)) m1) (h2 : g = false → ExM X H0 ρ k bs (fun s => .nx (eS s)) m2) (t : ∀ s, ExM X H0 (eS s) k rest D (f s)) : ExM X H0 ρ k (.If c as bs pos :: rest) D (M.bind (if g = true then m1 else m2) f) := by
  cases g with
  | true =>
    rw [if_pos rfl]
    have h1 := h1 rfl
    cases m1 with
    | ok v => exact xm_then (sx_ifT hc h1) (t v)
    | ex n => exact ex_out (sx_ifT hc h1) trivial
    | far => trivial
  | false =>
    rw [if_neg (by decide)]
    have h2 := h2 rfl
    cases m2 with
    | ok v => exact xm_then (sx_ifF hc h2) (t v)
    | ex n => exact ex_out (sx_ifF hc h2) trivial
    | far => trivial
theorem ex_flow {eS : S → Env'} {eL : L → Env'} {oR : R → Outc} {eS' : S' → Env'} {mf : M (Fl S L R)} {f : S → M (Fl S' L R)} (hR : ∀ r, (oR r).out) (h : ExSM X H0 ρ k st (Fl.D eS eL oR) mf) (t : ∀ s, ExM X H0 (eS s) k rest (Fl.D eS' eL oR) (f s)) : ExM X H0 ρ k (st :: rest) (Fl.D eS' eL oR) (M.seq mf f) := by
  cases mf with
  | ok v =>
    cases v with
    | nx s => exact xm_then h (t s)
    | ct s => exact ex_cons h rfl
    | bk s => exact ex_cons h rfl
    | rt r => exact ex_out h (hR r)
  | ex n => exact ex_cons h rfl
  | far => trivial
theorem ex_flowT {eS : S → Env'} {eL : L → Env'} {oR : R → Outc} {mf : M (Fl S L R)} {f : S → M R} (hR : ∀ r, (oR r).out) (h : ExSM X H0 ρ k st (Fl.D eS eL oR) mf) (t : ∀ s, ExM X H0 (eS s) k rest oR (f s)) : ExM X H0 ρ k (st :: rest) oR (M.seqT mf f) := by
  cases mf with
  | ok v =>
    cases v with
    | nx s => exact xm_then h (t s)
    | ct s => trivial
    | bk s => trivial
    | rt r => exact ex_out h (hR r)
  | ex n => exact ex_cons h rfl
  | far => trivial
theorem sx_ifM {D : β → Outc} {m1 m2 : M β} (hc : EvT X H0 ρ c g) (h1 : g = true → ExM X H0 ρ k as D m1) (h2 : g = false → ExM X H0 ρ k bs D m2) : ExSM X H0 ρ k (.If c as bs pos) D (if g = true then m1 else m2) := by
  cases g with
  | true =>
    rw [if_pos rfl]
    have h1 := h1 rfl
    cases m1 with
    | ok v => exact sx_ifT hc h1
    | ex n => exact sx_ifT hc h1
    | far => trivial
  | false =>
    rw [if_neg (by decide)]
    have h2 := h2 rfl
    cases m2 with
    | ok v => exact sx_ifF hc h2
    | ex n => exact sx_ifF hc h2
    | far => trivial
theorem xm_ifJ {eS : S → Env'} {eL : L → Env'} {oR : R → Outc} {eS' : S' → Env'} {m1 m2 : M (Fl S L R)} {f : S → M (Fl S' L R)} (hR : ∀ r, (oR r).out) (hc : EvT X H0 ρ c g) (h1 : g = true → ExM X H0 ρ k as (Fl.D eS eL oR) m1) (h2 : g = false → ExM X H0 ρ k bs (Fl.D eS eL oR) m2) (t : ∀ s, ExM X H0 (eS s) k rest (Fl.D eS' eL oR) (f s)) :
    ExM X H0 ρ k (.If c as bs pos :: rest) (Fl.D eS' eL oR) (M.seq (if g = true then m1 else m2) f) := ex_flow hR (sx_ifM hc h1 h2) t
theorem xm_ifJT {eS : S → Env'} {eL : L → Env'} {oR : R → Outc} {m1 m2 : M (Fl S L R)} {f : S → M R} (hR : ∀ r, (oR r).out) (hc : EvT X H0 ρ c g) (h1 : g = true → ExM X H0 ρ k as (Fl.D eS eL oR) m1) (h2 : g = false → ExM X H0 ρ k bs (Fl.D eS eL oR) m2) (t : ∀ s, ExM X H0 (eS s) k rest oR (f s)) :
    ExM X H0 ρ k (.If c as bs pos :: rest) oR (M.seqT (if g = true then m1 else m2) f) := ex_flowT hR (sx_ifM hc h1 h2) t
/-! ### for -/
section
variable {ea : β → Dat} {t iter : Expr} {bd : Dat → Env' → Env'} {ok : Dat → Prop}
theorem forM_T {eS : S → Env'} {f : β → S → M S} (hb : ∀ x s, ExM X H0 (bd (ea x) (eS s)) k body (fun s => .nx (eS s)) (f x s)) : ∀ (xs : List β) (s : S), match forM f xs s with | .ok s' => ForT X H0 bd body (xs.map ea) (eS s) (.nx (eS s')) | .ex n => ForT X H0 bd body (xs.map ea) (eS s) (.ex n (List.replicate k .no)) | .far => True
  | [], s => .nil
  | x :: xs, s => by
    have h := hb x s
    show match (f x s).bind fun s' => forM f xs s' with | .ok s' => _ | .ex n => _ | .far => True
    cases e : f x s with
    | ok s1 =>
      rw [e] at h
      have ih := forM_T hb xs s1
      show match forM f xs s1 with | .ok s' => _ | .ex n => _ | .far => True
      cases e2 : forM f xs s1 with
      | ok s2 => rw [e2] at ih; exact .turn h ih
      | ex n => rw [e2] at ih; exact .turn h ih
      | far => trivial
    | ex n => rw [e] at h; exact .exc h
    | far => trivial
theorem forF_T {eS : S → Env'} {eL : L → Env'} {oR : R → Outc} {f : β → S → M (Fl S S R)} (hR : ∀ r, ∃ d, oR r = .rt d ∨ oR r = .ro d) (hb : ∀ x s, ExM X H0 (bd (ea x) (eS s)) k body (Fl.D eS eS oR) (f x s)) : ∀ (xs : List β) (s : S), match (forF f xs s : M (Fl S L R)) with | .ok v => ForT X H0 bd body (xs.map ea) (eS s) (Fl.D eS eL oR v) | .ex n => ForT X H0 bd body (xs.map ea) (eS s) (.ex n (List.replicate k .no)) | .far => True
  | [], s => .nil
  | x :: xs, s => by
    have h := hb x s
    unfold forF
    cases e : f x s with
    | ok v =>
      rw [e] at h
      cases v with
      | nx s1 =>
        have ih := forF_T (eL := eL) hR hb xs s1
        show match (forF f xs s1 : M (Fl S L R)) with | .ok v => _ | .ex n => _ | .far => True
        cases e2 : (forF f xs s1 : M (Fl S L R)) with
        | ok s2 => rw [e2] at ih; exact .turn h ih
        | ex n => rw [e2] at ih; exact .turn h ih
        | far => trivial
      | ct s1 =>
        have ih := forF_T (eL := eL) hR hb xs s1
        show match (forF f xs s1 : M (Fl S L R)) with | .ok v => _ | .ex n => _ | .far => True
        cases e2 : (forF f xs s1 : M (Fl S L R)) with
        | ok s2 => rw [e2] at ih; exact .turnC h ih
        | ex n => rw [e2] at ih; exact .turnC h ih
        | far => trivial
      | bk s1 => exact .brk h
      | rt r =>
        have h : Exec X H0 (bd (ea x) (eS s)) body (oR r) := h
        show ForT X H0 bd body ((x :: xs).map ea) (eS s) (oR r)
        obtain ⟨d, q | q⟩ := hR r
        · rw [q] at h ⊢; exact .ret h
        · rw [q] at h ⊢; exact .retO h
    | ex n => rw [e] at h; exact .exc h
    | far => trivial
theorem xm_for {eS : S → Env'} {xs : List β} {s0 : S} {f : β → S → M S} {fk : S → M α} (hp : PassesOwn (model X.prog X.w) X.A X.env X.xe) (hc : X.calm = true) (hi : Iter X H0 ρ t iter (xs.map ea)) (hg : Tgt X H0 t ok bd) (hok : ∀ d ∈ xs.map ea, ok d) (h0 : ρ = eS s0) (hb : ∀ x s, ExM X H0 (bd (ea x) (eS s)) k body (fun s => .nx (eS s)) (f x s)) (tt : ∀ s, ExM X H0 (eS s) k rest D (fk s))
    (hs : ∀ x, foldedSetIterable iter X.env x = pure x := by intro _; rfl) : ExM X H0 ρ k (.For t iter body [] pos :: rest) D (M.bind (forM f xs s0) fk) := by
  have h := forM_T hb xs s0
  cases e : forM f xs s0 with
  | ok s =>
    rw [e] at h
    exact xm_then (sx_for hp hc hi hg hok (h0 ▸ h) hs) (tt s)
  | ex n =>
    rw [e] at h
    exact ex_out (o := .ex n (List.replicate k .no)) (sx_for hp hc hi hg hok (h0 ▸ h) hs) trivial
  | far => trivial
theorem sx_forM {eS : S → Env'} {eL : L → Env'} {oR : R → Outc} {xs : List β} {s0 : S} {f : β → S → M (Fl S S R)} (hR : ∀ r, ∃ d, oR r = .rt d ∨ oR r = .ro d) (hp : PassesOwn (model X.prog X.w) X.A X.env X.xe) (hc : X.calm = true) (hi : Iter X H0 ρ t iter (xs.map ea)) (hg : Tgt X H0 t ok bd) (hok : ∀ d ∈ xs.map ea, ok d) (h0 : ρ = eS s0) (hb : ∀ x s, ExM X H0 (bd (ea x) (eS s)) k body (Fl.D eS eS oR) (f x s))
    (hs : ∀ x, foldedSetIterable iter X.env x = pure x := by intro _; rfl) : ExSM X H0 ρ k (.For t iter body [] pos) (Fl.D eS eL oR) (forF f xs s0 : M (Fl S L R)) := by
  have h := forF_T (eL := eL) hR hb xs s0
  cases e : (forF f xs s0 : M (Fl S L R)) with
  | ok s => rw [e] at h; exact sx_for hp hc hi hg hok (h0 ▸ h) hs
  | ex n => rw [e] at h; exact sx_for hp hc hi hg hok (h0 ▸ h) hs
  | far => trivial
theorem out_of {o : Outc} (h : ∃ d, o = .rt d ∨ o = .ro d) : o.out := by
  obtain ⟨d, q | q⟩ := h <;> (rw [q]; trivial)
theorem xm_forJ {eS : S → Env'} {eL : L → Env'} {eS' : S' → Env'} {oR : R → Outc} {xs : List β} {s0 : S} {f : β → S → M (Fl S S R)} {fk : S → M (Fl S' L R)} (hR : ∀ r, ∃ d, oR r = .rt d ∨ oR r = .ro d) (hp : PassesOwn (model X.prog X.w) X.A X.env X.xe) (hc : X.calm = true) (hi : Iter X H0 ρ t iter (xs.map ea)) (hg : Tgt X H0 t ok bd) (hok : ∀ d ∈ xs.map ea, ok d) (h0 : ρ = eS s0) (hb : ∀ x s, ExM X H0 (bd (ea x) (eS s)) k body (Fl.D eS eS oR) (f x s)) (tt : ∀ s, ExM X H0 (eS s) k rest (Fl.D eS' eL oR) (fk s))
    (hs : ∀ x, foldedSetIterable iter X.env x = pure x := by intro _; rfl) : ExM X H0 ρ k (.For t iter body [] pos :: rest) (Fl.D eS' eL oR) (M.seq (forF f xs s0) fk) := ex_flow (fun r => out_of (hR r)) (sx_forM hR hp hc hi hg hok h0 hb hs) tt
theorem xm_forJT {eS : S → Env'} {oR : R → Outc} {xs : List β} {s0 : S} {f : β → S → M (Fl S S R)} {fk : S → M R} (hR : ∀ r, ∃ d, oR r = .rt d ∨ oR r = .ro d) (hp : PassesOwn (model X.prog X.w) X.A X.env X.xe) (hc : X.calm = true) (hi : Iter X H0 ρ t iter (xs.map ea)) (hg : Tgt X H0 t ok bd) (hok : ∀ d ∈ xs.map ea, ok d) (h0 : ρ = eS s0) (hb : ∀ x s, ExM X H0 (bd (ea x) (eS s)) k body (Fl.D eS eS oR) (f x s)) (tt : ∀ s, ExM X H0 (eS s) k rest oR (fk s))
    (hs : ∀ x, foldedSetIterable iter X.env x = pure x := by intro _; rfl) : ExM X H0 ρ k (.For t iter body [] pos :: rest) oR (M.seqT (forF f xs s0 : M (Fl S S R)) fk) := ex_flowT (eL := eS) (fun r => out_of (hR r)) (sx_forM hR hp hc hi hg hok h0 hb hs) tt
end
/-! ### while -/
theorem whileM_T {eS : S → Env'} {cm : S → M Bool} {f : S → M S} (hc : ∀ s, EtM X H0 (eS s) c (cm s)) (hb : ∀ s, ExM X H0 (eS s) k body (fun s => .nx (eS s)) (f s)) : ∀ (q : Nat) (s : S), match whileM cm f q s with | .ok s' => WhileT X H0 c body (eS s) (.nx (eS s')) | .ex n => WhileT X H0 c body (eS s) (.ex n (List.replicate k .no)) | .far => True
  | 0, s => trivial
  | q + 1, s => by
    have h := hb s
    have hc1 := hc s
    unfold whileM
    cases ec : cm s with
    | ok u =>
      rw [ec] at hc1
      cases u with
      | false => exact .done hc1
      | true =>
        show match (f s).bind fun s' => whileM cm f q s' with | .ok s' => _ | .ex n => _ | .far => True
        cases e : f s with
        | ok s1 =>
          rw [e] at h
          have ih := whileM_T hc hb q s1
          show match whileM cm f q s1 with | .ok s' => _ | .ex n => _ | .far => True
          cases e2 : whileM cm f q s1 with
          | ok s2 => rw [e2] at ih; exact .turn hc1 h ih
          | ex n => rw [e2] at ih; exact .turn hc1 h ih
          | far => trivial
        | ex n => rw [e] at h; exact .exc hc1 h
        | far => trivial
    | ex n => rw [ec] at hc1; exact hc1.elim
    | far => trivial
theorem whileF_T {eS : S → Env'} {eL : L → Env'} {oR : R → Outc} {cm : S → M Bool} {f : S → M (Fl S S R)} (hR : ∀ r, ∃ d, oR r = .rt d ∨ oR r = .ro d) (hc : ∀ s, EtM X H0 (eS s) c (cm s)) (hb : ∀ s, ExM X H0 (eS s) k body (Fl.D eS eS oR) (f s)) : ∀ (q : Nat) (s : S), match (whileF cm f q s : M (Fl S L R)) with | .ok v => WhileT X H0 c body (eS s) (Fl.D eS eL oR v) | .ex n => WhileT X H0 c body (eS s) (.ex n (List.replicate k .no)) | .far => True
  | 0, s => trivial
  | q + 1, s => by
    have h := hb s
    have hc1 := hc s
    unfold whileF
    cases ec : cm s with
    | ok u =>
      rw [ec] at hc1
      cases u with
      | false => exact .done hc1
      | true =>
        show match (match f s with | .ok (.nx s') => whileF cm f q s' | .ok (.ct s') => whileF cm f q s' | .ok (.bk s') => .ok (.nx s') | .ok (.rt r) => .ok (.rt r) | .ex n => .ex n | .far => .far : M (Fl S L R)) with | .ok v => _ | .ex n => _ | .far => True
        cases e : f s with
        | ok v =>
          rw [e] at h
          cases v with
          | nx s1 =>
            have ih := whileF_T (eL := eL) hR hc hb q s1
            show match (whileF cm f q s1 : M (Fl S L R)) with | .ok v => _ | .ex n => _ | .far => True
            cases e2 : (whileF cm f q s1 : M (Fl S L R)) with
            | ok s2 => rw [e2] at ih; exact .turn hc1 h ih
            | ex n => rw [e2] at ih; exact .turn hc1 h ih
            | far => trivial
          | ct s1 =>
            have ih := whileF_T (eL := eL) hR hc hb q s1
            show match (whileF cm f q s1 : M (Fl S L R)) with | .ok v => _ | .ex n => _ | .far => True
            cases e2 : (whileF cm f q s1 : M (Fl S L R)) with
            | ok s2 => rw [e2] at ih; exact .turnC hc1 h ih
            | ex n => rw [e2] at ih; exact .turnC hc1 h ih
            | far => trivial
          | bk s1 => exact .brk hc1 h
          | rt r =>
            have h : Exec X H0 (eS s) body (oR r) := h
            show WhileT X H0 c body (eS s) (oR r)
            obtain ⟨d, q | q⟩ := hR r
            · rw [q] at h ⊢; exact .ret hc1 h
            · rw [q] at h ⊢; exact .retO hc1 h
        | ex n => rw [e] at h; exact .exc hc1 h
        | far => trivial
    | ex n => rw [ec] at hc1; exact hc1.elim
    | far => trivial
theorem xm_while {eS : S → Env'} {s0 : S} {cm : S → M Bool} {f : S → M S} {fk : S → M α} {fuel : Nat} (hp : PassesOwn (model X.prog X.w) X.A X.env X.xe) (h0 : ρ = eS s0) (hc : ∀ s, EtM X H0 (eS s) c (cm s)) (hb : ∀ s, ExM X H0 (eS s) k body (fun s => .nx (eS s)) (f s)) (tt : ∀ s, ExM X H0 (eS s) k rest D (fk s)) : ExM X H0 ρ k (.While c body [] pos :: rest) D (M.bind (whileM cm f fuel s0) fk) := by
  have h := whileM_T hc hb fuel s0
  cases e : whileM cm f fuel s0 with
  | ok s => rw [e] at h; exact xm_then (sx_while hp (h0 ▸ h)) (tt s)
  | ex n => rw [e] at h; exact ex_out (o := .ex n (List.replicate k .no)) (sx_while hp (h0 ▸ h)) trivial
  | far => trivial
theorem sx_whileM {eS : S → Env'} {eL : L → Env'} {oR : R → Outc} {s0 : S} {cm : S → M Bool} {f : S → M (Fl S S R)} {fuel : Nat} (hR : ∀ r, ∃ d, oR r = .rt d ∨ oR r = .ro d) (hp : PassesOwn (model X.prog X.w) X.A X.env X.xe) (h0 : ρ = eS s0) (hc : ∀ s, EtM X H0 (eS s) c (cm s)) (hb : ∀ s, ExM X H0 (eS s) k body (Fl.D eS eS oR) (f s)) :
    ExSM X H0 ρ k (.While c body [] pos) (Fl.D eS eL oR) (whileF cm f fuel s0 : M (Fl S L R)) := by
  have h := whileF_T (eL := eL) hR hc hb fuel s0
  cases e : (whileF cm f fuel s0 : M (Fl S L R)) with
  | ok s => rw [e] at h; exact sx_while hp (h0 ▸ h)
  | ex n => rw [e] at h; exact sx_while hp (h0 ▸ h)
  | far => trivial
theorem xm_whileJ {eS : S → Env'} {eL : L → Env'} {eS' : S' → Env'} {oR : R → Outc} {s0 : S} {cm : S → M Bool} {f : S → M (Fl S S R)} {fk : S → M (Fl S' L R)} {fuel : Nat} (hR : ∀ r, ∃ d, oR r = .rt d ∨ oR r = .ro d) (hp : PassesOwn (model X.prog X.w) X.A X.env X.xe) (h0 : ρ = eS s0) (hc : ∀ s, EtM X H0 (eS s) c (cm s)) (hb : ∀ s, ExM X H0 (eS s) k body (Fl.D eS eS oR) (f s)) (tt : ∀ s, ExM X H0 (eS s) k rest (Fl.D eS' eL oR) (fk s)) :
    ExM X H0 ρ k (.While c body [] pos :: rest) (Fl.D eS' eL oR) (M.seq (whileF cm f fuel s0) fk) := ex_flow (fun r => out_of (hR r)) (sx_whileM hR hp h0 hc hb) tt
theorem xm_whileJT {eS : S → Env'} {oR : R → Outc} {s0 : S} {cm : S → M Bool} {f : S → M (Fl S S R)} {fk : S → M R} {fuel : Nat} (hR : ∀ r, ∃ d, oR r = .rt d ∨ oR r = .ro d) (hp : PassesOwn (model X.prog X.w) X.A X.env X.xe) (h0 : ρ = eS s0) (hc : ∀ s, EtM X H0 (eS s) c (cm s)) (hb : ∀ s, ExM X H0 (eS s) k body (Fl.D eS eS oR) (f s)) (tt : ∀ s, ExM X H0 (eS s) k rest oR (fk s)) :
    ExM X H0 ρ k (.While c body [] pos :: rest) oR (M.seqT (whileF cm f fuel s0 : M (Fl S S R)) fk) := ex_flowT (eL := eS) (fun r => out_of (hR r)) (sx_whileM hR hp h0 hc hb) tt
/-! ### calls -/
theorem evm_call {R : List Dat → Res → Prop} {kk : Nat} (G : GFn X.prog X.w X.K X.mg X.base x kk R) (hr : Room kk X.A) (ha : EvAB X H0 ρ (e :: es) ds) (q : ∀ o, Rm en m o → R ds o) (hg : Gl X x := by rfl) (hdb : (x == ("__debug__" : Str)) = false := by decide)
    (he : starEach (e :: es) X.env = (false, eval e X.env) :: starEach es X.env := by rfl) (hpl : (backTo pos (starEach es X.env)).any (·.1) = false := by rfl) : EvM X H0 ρ (.Call (.Name x p) (e :: es) [] pos) en m := by
  cases m with
  | ok v => exact ev_call G hr ha (q _ rfl) hg hdb he hpl
  | ex n => exact exc_call G hr ha (q _ rfl) hg hdb he hpl
  | far => trivial
theorem eom_call {R : List Dat → Res → Prop} {kk : Nat} (G : GFn X.prog X.w X.K X.mg X.base x kk R) (hr : Room kk X.A) (ha : EvAB X H0 ρ (e :: es) ds) (q : ∀ o, RmO en m o → R ds o) (hg : Gl X x := by rfl) (hdb : (x == ("__debug__" : Str)) = false := by decide)
    (he : starEach (e :: es) X.env = (false, eval e X.env) :: starEach es X.env := by rfl) (hpl : (backTo pos (starEach es X.env)).any (·.1) = false := by rfl) : EoM X H0 ρ (.Call (.Name x p) (e :: es) [] pos) en m := by
  cases m with
  | ok v => exact eo_call G hr ha (q _ rfl) hg hdb he hpl
  | ex n => exact exc_call G hr ha (q _ rfl) hg hdb he hpl
  | far => trivial
/-! ### defs -/
theorem ends_m (h : ExM X H0 ρ k sts (fun r => .rt (en r)) m) : ∀ o, Rm en m o → Ends' X H0 ρ sts o := fun o q => by
  cases m with
  | ok v => cases (show o = _ from q); exact .ret h
  | ex n => cases (show o = _ from q); exact .exc h
  | far => exact (show False from q).elim
theorem ends_mO (h : ExM X H0 ρ k sts (fun r => .ro (en r)) m) : ∀ o, RmO en m o → Ends' X H0 ρ sts o := fun o q => by
  cases m with
  | ok v => cases (show o = _ from q); exact .own h
  | ex n => cases (show o = _ from q); exact .exc h
  | far => exact (show False from q).elim
/-- a def without a return -/
theorem ends_mN {m : M Unit} {ρ1 : Env'} (h : ExM X H0 ρ k sts (fun _ => .nx ρ1) m) : ∀ o, Rm (fun _ : Unit => Dat.non) m o → Ends' X H0 ρ sts o := fun o q => by
  cases m with
  | ok v => cases (show o = _ from q); exact .non h
  | ex n => cases (show o = _ from q); exact .exc h
  | far => exact (show False from q).elim
end
section
variable {P : Program} {w : World} {K : PySem.W.Frag} {mg : Str → Option Value} {base : Heap} {x : Str} {st : Stmt} {ps N : List Str} {k : Nat} {R : List Dat → Res → Prop} {f : Addr} {fd : FuncData}
/-- THE RULE for a def -/
theorem fn_mk2 (F : Fun K x x st f fd) (S : FnScope N ps (defScope st)) (hl : ∀ ds o, R ds o → ds.length = ps.length)
    (body : ∀ (f : Addr) (cdv : Value) (A : Around) (outer : List PySem.Env) (s : Shared) (H : Hp) (E : XK), Room k (XX P w K mg base N x st f cdv A outer s H E).A → ∀ ds o, R ds o → ∃ es, Ents es ds ∧ ∀ H0, Ends' (XX P w K mg base N x st f cdv A outer s H E) H0 (es ++ List.replicate (N.length - ps.length) .no) (defBody st) o) : FnOk P w K mg base (L2.CX P w) (k + 1) f fd ps (spR K mg R) := by
  refine F.okX S (fun vs H Q E ⟨ds, o, hr, a, _⟩ => by rw [a.length]; exact hl ds o hr) fun cdv A outer s H vs Q E hr hsp => ?_
  obtain ⟨ds, o, hR, a, q⟩ := hsp
  obtain ⟨es, he, hbody⟩ := body f cdv A outer s H E hr ds o hR
  have hlen : vs.length = ps.length := by rw [a.length]; exact hl ds o hR
  have r : Rep K H (es ++ List.replicate (N.length - ps.length) .no) (L2.start N vs) H (Imm H) := hlen ▸ rep_start he a
  have hb := hbody H
  refine ⟨_, pb_w, ?_⟩
  cases hb with
  | ret h => exact h { nx := fun _ H' => Q .non H', rt := Q } _ _ _ r fun v H' s rt => q v H' s rt
  | non h => exact h { nx := fun _ H' => Q .non H', rt := Q } _ _ _ r fun σ H' N' s r' => q .non H' r'.old ⟨N', r'.sub, r'.fresh, .non⟩
  | own h => exact h { nx := fun _ H' => Q .non H', rt := Q } _ _ _ r fun p H' N' s1 s2 s3 s4 s5 s6 => q p H' N' s1 s2 s3 s4 s5 s6
  | exc h => exact h { nx := fun _ H' => Q .non H', rt := Q } _ _ _ r ⟨_, takes_of rfl rfl rfl rfl, fun C σ H' N' hm s r' => q C H' hm r'.old⟩
theorem GFn.mk2 (D : Df K mg x st ps) (S : FnScope N ps (defScope st)) (hl : ∀ ds o, R ds o → ds.length = ps.length)
    (body : ∀ (f : Addr) (cdv : Value) (A : Around) (outer : List PySem.Env) (s : Shared) (H : Hp) (E : XK), Room k (XX P w K mg base N x st f cdv A outer s H E).A → ∀ ds o, R ds o → ∃ es, Ents es ds ∧ ∀ H0, Ends' (XX P w K mg base N x st f cdv A outer s H E) H0 (es ++ List.replicate (N.length - ps.length) .no) (defBody st) o) : GFn P w K mg base x (k + 1) R := by
  obtain ⟨f, fd, F, hm, hb⟩ := D
  exact ⟨f, fd, ps, fn_mk2 F S hl body, hm, F.kp, hb⟩
end
end B

namespace B
open PySem PySem.Spec PyProof.Rows L2
/-! ### kinds of values -/
abbrev chd (c : Nat) : Dat := tx [c]
abbrev nond (_ : Unit) : Dat := .non
abbrev idd (d : Dat) : Dat := d
section
variable {α β γ δ : Type}
abbrev lstd (e : α → Dat) (l : List α) : Dat := .lst (l.map e)
abbrev tpnd (e : α → Dat) (l : List α) : Dat := .tup (l.map e)
abbrev tup1 (ea : α → Dat) (p : α) : Dat := .tup [ea p]
abbrev tup2 (ea : α → Dat) (eb : β → Dat) (p : α × β) : Dat := .tup [ea p.1, eb p.2]
abbrev tup3 (ea : α → Dat) (eb : β → Dat) (ec : γ → Dat) (p : α × β × γ) : Dat := .tup [ea p.1, eb p.2.1, ec p.2.2]
abbrev tup4 (ea : α → Dat) (eb : β → Dat) (ec : γ → Dat) (ed : δ → Dat) (p : α × β × γ × δ) : Dat := .tup [ea p.1, eb p.2.1, ec p.2.2.1, ed p.2.2.2]
abbrev optd (e : α → Dat) : Option α → Dat
  | none => .non
  | some a => e a
abbrev dicd (e : α → Dat) (l : List (List Nat × α)) : Dat := .dic (l.map fun p => (Sum.inr (SX.S p.1), e p.2))
theorem flats_map {e : α → Dat} (h : ∀ a, flat (e a) = true) (l : List α) : flats (l.map e) = true := by
  induction l with
  | nil => rfl
  | cons a l ih => show (flat (e a) && flats (l.map e)) = true; rw [h a, ih]; rfl
theorem flat_tup1 {ea : α → Dat} (h1 : ∀ a, flat (ea a) = true) : ∀ p, flat (tup1 ea p) = true := fun p => by
  show (flat (ea p) && true) = true; rw [h1]; rfl
theorem flat_tup2 {ea : α → Dat} {eb : β → Dat} (h1 : ∀ a, flat (ea a) = true) (h2 : ∀ a, flat (eb a) = true) : ∀ p, flat (tup2 ea eb p) = true := fun p => by
  show (flat (ea p.1) && (flat (eb p.2) && true)) = true; rw [h1, h2]; rfl
theorem flat_tup3 {ea : α → Dat} {eb : β → Dat} {ec : γ → Dat} (h1 : ∀ a, flat (ea a) = true) (h2 : ∀ a, flat (eb a) = true) (h3 : ∀ a, flat (ec a) = true) : ∀ p, flat (tup3 ea eb ec p) = true := fun p => by
  show (flat (ea p.1) && (flat (eb p.2.1) && (flat (ec p.2.2) && true))) = true; rw [h1, h2, h3]; rfl
theorem flat_tpn {e : α → Dat} (h : ∀ a, flat (e a) = true) : ∀ l, flat (tpnd e l) = true := fun l => by
  show flats (l.map e) = true; exact flats_map h l
theorem cutm (f : α → β) (l : List α) (lo hi : Option Int) : cut (l.map f) lo hi = (cut l lo hi).map f := by
  unfold cut
  rw [List.length_map, List.map_take, List.map_drop]
theorem atIm (f : α → β) (l : List α) (i : Int) {r : α} (h : atI l i = some r) : atI (l.map f) i = some (f r) := by
  unfold atI at h ⊢
  rw [List.length_map]
  cases e : ixN l.length i with
  | none => rw [e] at h; cases h
  | some j =>
    rw [e] at h
    show (l.map f)[j]? = _
    rw [List.getElem?_map, show l[j]? = some r from h]
    rfl
/-- lo, lo + c, .. -/
def rng (lo c : Int) (n : Nat) : List Int := (List.range n).map fun i : Nat => lo + (i : Int) * c
theorem rng_steps (lo c : Int) (n : Nat) : steps lo c n = (rng lo c n).map Dat.int := by
  unfold steps rng
  rw [List.map_map]
  rfl
theorem tx_map (l : List Nat) : (l.map fun k => tx [k]) = l.map chd := rfl
/-! ### == of values -/
def Eqs [DecidableEq α] (e : α → Dat) : Prop := ∀ a b, PyData.eqv (pd (e a)) (pd (e b)) = decide (a = b)
def Okn (n : Nat) (e : α → Dat) : Prop := ∀ a, okn n (e a) = true
theorem eqs_int : Eqs Dat.int := fun a b => by
  show (a == b) = decide (a = b)
  by_cases h : a = b <;> simp [h]
theorem eqs_bool : Eqs Dat.bl := fun a b => by
  show (PyData.eqv (.bool a) (.bool b)) = decide (a = b)
  cases a <;> cases b <;> rfl
theorem eqs_str : Eqs tx := fun a b => by
  show (SX.S a == SX.S b) = decide (a = b)
  by_cases h : a = b
  · subst h; simp
  · rw [decide_eq_false h]
    exact beq_eq_false_iff_ne.mpr fun q => h (SX.S_inj q)
theorem eqvAll_map [DecidableEq α] {e : α → Dat} (h : Eqs e) : ∀ a b : List α, PyData.eqvAll (pds (a.map e)) (pds (b.map e)) = decide (a = b)
  | [], [] => rfl
  | [], _ :: _ => rfl
  | _ :: _, [] => rfl
  | x :: a, y :: b => by
    show (PyData.eqv (pd (e x)) (pd (e y)) && PyData.eqvAll (pds (a.map e)) (pds (b.map e))) = _
    rw [h x y, eqvAll_map h a b]
    by_cases h1 : x = y <;> simp [h1]
theorem eqs_lst [DecidableEq α] {e : α → Dat} (h : Eqs e) : Eqs (lstd e) := fun a b => eqvAll_map h a b
theorem eqs_tpn [DecidableEq α] {e : α → Dat} (h : Eqs e) : Eqs (tpnd e) := fun a b => eqvAll_map h a b
theorem eqs_tup2 [DecidableEq α] [DecidableEq β] {ea : α → Dat} {eb : β → Dat} (h : Eqs ea) (g : Eqs eb) : Eqs (tup2 ea eb) := fun a b => by
  show (PyData.eqv (pd (ea a.1)) (pd (ea b.1)) && (PyData.eqv (pd (eb a.2)) (pd (eb b.2)) && true)) = _
  rw [h, g, Bool.and_true]
  obtain ⟨a1, a2⟩ := a
  obtain ⟨b1, b2⟩ := b
  by_cases h1 : a1 = b1 <;> simp [h1]
theorem eqs_tup3 [DecidableEq α] [DecidableEq β] [DecidableEq γ] {ea : α → Dat} {eb : β → Dat} {ec : γ → Dat} (h : Eqs ea) (g : Eqs eb) (k : Eqs ec) : Eqs (tup3 ea eb ec) := fun a b => by
  show (PyData.eqv (pd (ea a.1)) (pd (ea b.1)) && (PyData.eqv (pd (eb a.2.1)) (pd (eb b.2.1)) && (PyData.eqv (pd (ec a.2.2)) (pd (ec b.2.2)) && true))) = _
  rw [h, g, k, Bool.and_true]
  obtain ⟨a1, a2, a3⟩ := a
  obtain ⟨b1, b2, b3⟩ := b
  by_cases h1 : a1 = b1 <;> by_cases h2 : a2 = b2 <;> simp [h1, h2]
theorem okn_i {n : Nat} : Okn n Dat.int := fun a => by cases n <;> rfl
theorem okn_b {n : Nat} : Okn n Dat.bl := fun a => by cases n <;> rfl
theorem okn_lst {n : Nat} {e : α → Dat} (h : Okn n e) : Okn (n + 1) (lstd e) := fun a => by
  show (a.map e).all (okn n) = true
  rw [List.all_map]
  exact List.all_eq_true.mpr fun x _ => h x
theorem okn_tpn {n : Nat} {e : α → Dat} (h : Okn n e) : Okn (n + 1) (tpnd e) := fun a => by
  show (a.map e).all (okn n) = true
  rw [List.all_map]
  exact List.all_eq_true.mpr fun x _ => h x
theorem okn_tup2 {n : Nat} {ea : α → Dat} {eb : β → Dat} (h : Okn n ea) (g : Okn n eb) : Okn (n + 1) (tup2 ea eb) := fun a => by
  show (okn n (ea a.1) && (okn n (eb a.2) && true)) = true
  rw [h, g]; rfl
theorem okn_tup3 {n : Nat} {ea : α → Dat} {eb : β → Dat} {ec : γ → Dat} (h : Okn n ea) (g : Okn n eb) (k : Okn n ec) : Okn (n + 1) (tup3 ea eb ec) := fun a => by
  show (okn n (ea a.1) && (okn n (eb a.2.1) && (okn n (ec a.2.2) && true))) = true
  rw [h, g, k]; rfl
/-- texts that may be compared -/
@[irreducible] def txOk (l : List Nat) : Bool := okn 0 (tx l)
theorem inj_int : ∀ a b : Int, Dat.int a = Dat.int b → a = b := fun _ _ h => Dat.int.inj h
theorem inj_bool : ∀ a b : Bool, Dat.bl a = Dat.bl b → a = b := fun _ _ h => Dat.bl.inj h
theorem inj_str : ∀ a b : List Nat, tx a = tx b → a = b := fun _ _ h => SX.S_inj (Dat.str.inj h)
theorem inj_chr : ∀ a b : Nat, chd a = chd b → a = b := fun _ _ h => by
  have := inj_str _ _ h
  exact List.cons.inj this |>.1
theorem inj_dat : ∀ a b : Dat, idd a = idd b → a = b := fun _ _ h => h
theorem inj_map {e : α → Dat} (h : ∀ a b, e a = e b → a = b) : ∀ a b : List α, a.map e = b.map e → a = b
  | [], [], _ => rfl
  | [], _ :: _, q => by cases q
  | _ :: _, [], q => by cases q
  | x :: a, y :: b, q => by
    rw [List.map_cons, List.map_cons] at q
    injection q with q1 q2
    rw [h _ _ q1, inj_map h _ _ q2]
theorem inj_lst {e : α → Dat} (h : ∀ a b, e a = e b → a = b) : ∀ a b : List α, lstd e a = lstd e b → a = b := fun a b q => inj_map h a b (Dat.lst.inj q)
theorem inj_tpn {e : α → Dat} (h : ∀ a b, e a = e b → a = b) : ∀ a b : List α, tpnd e a = tpnd e b → a = b := fun a b q => inj_map h a b (Dat.tup.inj q)
theorem inj_tup2 {ea : α → Dat} {eb : β → Dat} (h : ∀ a b, ea a = ea b → a = b) (g : ∀ a b, eb a = eb b → a = b) : ∀ a b : α × β, tup2 ea eb a = tup2 ea eb b → a = b := fun a b q => by
  have q := Dat.tup.inj q
  injection q with q1 q2
  injection q2 with q2 _
  exact Prod.ext (h _ _ q1) (g _ _ q2)
end
/-! ### what is within reach -/
noncomputable def cl (p : Prop) : Bool := @decide p (Classical.propDecidable p)
theorem cl_of {p : Prop} (h : cl p = true) : p := @of_decide_eq_true p (Classical.propDecidable p) h
theorem cl_i {p : Prop} (h : p) : cl p = true := @decide_eq_true p (Classical.propDecidable p) h
instance (i j : Int) : Decidable (IntMulOk i j) := by unfold IntMulOk; infer_instance
instance (i j : Int) : Decidable (CShl i j) := by unfold CShl; infer_instance
instance (i j : Int) : Decidable (CPow i j) := by unfold CPow; infer_instance
@[irreducible] noncomputable def mulOk (i j : Int) : Bool := cl (IntMulOk i j)
theorem mulOk_ok {i j : Int} (h : mulOk i j = true) : IntMulOk i j := by unfold mulOk at h; exact cl_of h
@[irreducible] noncomputable def divOk (j : Int) : Bool := cl (0 < j ∧ j.natAbs.log2 < 9000)
theorem divOk_1 {j : Int} (h : divOk j = true) : 0 < j := by unfold divOk at h; exact (cl_of h).1
theorem divOk_2 {j : Int} (h : divOk j = true) : j.natAbs.log2 < 9000 := by unfold divOk at h; exact (cl_of h).2
@[irreducible] noncomputable def fdivOk (j : Int) : Bool := cl (j ≠ 0 ∧ j.natAbs.log2 < 9000)
theorem fdivOk_1 {j : Int} (h : fdivOk j = true) : j ≠ 0 := by unfold fdivOk at h; exact (cl_of h).1
theorem fdivOk_2 {j : Int} (h : fdivOk j = true) : j.natAbs.log2 < 9000 := by unfold fdivOk at h; exact (cl_of h).2
@[irreducible] noncomputable def shlOk (i j : Int) : Bool := cl (CShl i j)
theorem shlOk_ok {i j : Int} (h : shlOk i j = true) : CShl i j := by unfold shlOk at h; exact cl_of h
@[irreducible] noncomputable def powOk (i j : Int) : Bool := cl (CPow i j)
theorem powOk_ok {i j : Int} (h : powOk i j = true) : CPow i j := by unfold powOk at h; exact cl_of h
@[irreducible] noncomputable def lenOk {α : Type} (l : List α) : Bool := cl (l.length ≤ 16777216)
theorem sizeLine_is : sizeLine = 16777216 := by decide
theorem lenOk_ok {α : Type} {l : List α} (h : lenOk l = true) : l.length ≤ sizeLine := by unfold lenOk at h; rw [sizeLine_is]; exact cl_of h
@[irreducible] noncomputable def lenLt {α : Type} (l : List α) : Bool := cl (l.length < 16777216)
theorem lenLt_ok {α : Type} {l : List α} (h : lenLt l = true) : l.length < sizeLine := by unfold lenLt at h; rw [sizeLine_is]; exact cl_of h
theorem lenLt_m {α : Type} {l : List α} {e : α → Dat} (h : lenLt l = true) : (l.map e).length < sizeLine := by rw [List.length_map]; exact lenLt_ok h
@[irreducible] noncomputable def catOk {α : Type} (l m : List α) : Bool := cl (l.length + m.length ≤ 16777216)
theorem catOk_ok {α : Type} {l m : List α} (h : catOk l m = true) : l.length + m.length ≤ sizeLine := by unfold catOk at h; rw [sizeLine_is]; exact cl_of h
@[irreducible] noncomputable def rngOk (i j : Int) : Bool := cl (-(2 ^ 62) ≤ i ∧ i < 2 ^ 62 ∧ -(2 ^ 62) ≤ j ∧ j < 2 ^ 62)
theorem rngOk_ok {i j : Int} (h : rngOk i j = true) : -(2 ^ 62) ≤ i ∧ i < 2 ^ 62 ∧ -(2 ^ 62) ≤ j ∧ j < 2 ^ 62 := by unfold rngOk at h; exact cl_of h
@[irreducible] noncomputable def repOk {α : Type} (l : List α) (n : Int) : Bool := cl (-100000 ≤ n ∧ n ≤ 100000 ∧ l.length ≤ 100)
def repS {α : Type} (l : List α) (n : Int) : List α := (List.replicate n.toNat l).flatten
theorem repOk_S {l : List Nat} {n : Int} (h : repOk l n = true) : MulOk (SX.S l) n := by unfold repOk at h; obtain ⟨a, b, c⟩ := cl_of h; exact mulOk_small a b c
section
variable {X : Cx} {H0 : Hp} {ρ ρ0 ρ1 ρ2 : Env'} {α β γ : Type} {a b c e t : Expr} {es : List Expr} {st : Stmt} {sts rest : List Stmt} {d d1 d2 : Dat} {ds : List Dat} {p pos : Pos} {o o1 : Outc} {x n : Str} {k : Nat} {D : γ → Outc} {m : M α} {en : α → Dat}
/-! ### numbers -/
theorem ev_shlT {i j : Int} (ha : Ev X H0 ρ a (.int i)) (hb : Ev X H0 ρ b (.int j)) (h : CShl i j) : Ev X H0 ρ (.BinOp a .LShift b pos) (.int (i * 2 ^ j.toNat)) := ev_intop ha hb (g := fun i j => i * 2 ^ j.toNat) op_shlW h
theorem ev_repXm {l : List Nat} {i : Int} (ha : Ev X H0 ρ a (tx l)) (hb : Ev X H0 ρ b (.int i)) (h : repOk l i = true) : Ev X H0 ρ (.BinOp a .Mult b pos) (tx (repS l i)) := ev_repX ha hb (repOk_S h)
/-! ### lists -/
theorem ev_ixLm {l : List α} {i : Int} {r : α} (ha : Ev X H0 ρ a (lstd en l)) (hb : Ev X H0 ρ b (.int i)) (q : atI l i = some r) (hs : PlainIx b := by exact fun _ _ => rfl) : Ev X H0 ρ (.Subscript a b pos) (en r) := ev_ixL ha hb (atIm en l i q) hs
theorem eb_ixLm {l : List α} {i : Int} {r : α} (ha : EvB X H0 ρ a (lstd en l)) (hb : Ev X H0 ρ b (.int i)) (q : atI l i = some r) (hs : PlainIx b := by exact fun _ _ => rfl) : EvB X H0 ρ (.Subscript a b pos) (en r) := eb_ixL ha hb (atIm en l i q) hs
theorem ev_ixTm {l : List α} {i : Int} {r : α} (ha : Ev X H0 ρ a (tpnd en l)) (hb : Ev X H0 ρ b (.int i)) (q : atI l i = some r) (hs : PlainIx b := by exact fun _ _ => rfl) : Ev X H0 ρ (.Subscript a b pos) (en r) := ev_ixT ha hb (atIm en l i q) hs
theorem ev_lenm {l : List α} (ha : EvB X H0 ρ a (lstd en l)) (hm : X.mg "len" = none) (hg : Gl X "len" := by rfl) (he : starEach [a] X.env = (false, eval a X.env) :: starEach [] X.env := by rfl) (hpl : (backTo pos (starEach [] X.env)).any (·.1) = false := by rfl) : Ev X H0 ρ (.Call (.Name "len" p) [a] [] pos) (.int (l.length : Int)) :=
  ev_len ha (by show some (l.map en).length = _; rw [List.length_map]) hm hg he hpl
theorem ev_lenTm {l : List α} (ha : EvB X H0 ρ a (tpnd en l)) (hm : X.mg "len" = none) (hg : Gl X "len" := by rfl) (he : starEach [a] X.env = (false, eval a X.env) :: starEach [] X.env := by rfl) (hpl : (backTo pos (starEach [] X.env)).any (·.1) = false := by rfl) : Ev X H0 ρ (.Call (.Name "len" p) [a] [] pos) (.int (l.length : Int)) :=
  ev_len ha (by show some (l.map en).length = _; rw [List.length_map]) hm hg he hpl
theorem eo_slLm {l : List α} {lo hi : Option Expr} {i j : Option Int} {p2 : Pos} (f : ∀ a, flat (en a) = true) (ha : EvB X H0 ρ a (lstd en l)) (hl : EvP X H0 ρ lo i) (hh : EvP X H0 ρ hi j) : EvO X H0 ρ (.Subscript a (.Slice lo hi none p2) pos) (lstd en (cut l i j)) := by
  have := eo_slL (pos := pos) (p2 := p2) ha hl hh (flats_map f l)
  rw [cutm] at this
  exact this
theorem ev_slTm {l : List α} {lo hi : Option Expr} {i j : Option Int} {p2 : Pos} (ha : Ev X H0 ρ a (tpnd en l)) (hl : EvP X H0 ρ lo i) (hh : EvP X H0 ρ hi j) : Ev X H0 ρ (.Subscript a (.Slice lo hi none p2) pos) (tpnd en (cut l i j)) := by
  have := ev_slT (pos := pos) (p2 := p2) ha hl hh
  rw [cutm] at this
  exact this
theorem eo_listm {l : List α} (f : ∀ a, flat (en a) = true) (ha : EvB X H0 ρ a (lstd en l)) (hm : X.mg "list" = none) (hg : Gl X "list" := by rfl) (he : starEach [a] X.env = (false, eval a X.env) :: starEach [] X.env := by rfl) (hpl : (backTo pos (starEach [] X.env)).any (·.1) = false := by rfl) :
    EvO X H0 ρ (.Call (.Name "list" p) [a] [] pos) (lstd en l) := eo_list ha (flats_map f l) hm hg he hpl
theorem eo_listTm {l : List α} (f : ∀ a, flat (en a) = true) (ha : EvB X H0 ρ a (tpnd en l)) (hm : X.mg "list" = none) (hg : Gl X "list" := by rfl) (he : starEach [a] X.env = (false, eval a X.env) :: starEach [] X.env := by rfl) (hpl : (backTo pos (starEach [] X.env)).any (·.1) = false := by rfl) :
    EvO X H0 ρ (.Call (.Name "list" p) [a] [] pos) (lstd en l) := eo_listT ha (flats_map f l) hm hg he hpl
theorem eo_listRevm {l : List α} {p2 pos2 : Pos} (f : ∀ a, flat (en a) = true) (ha : EvB X H0 ρ a (lstd en l)) (hc : X.calm = true) (hm : X.mg "list" = none) (hm2 : X.mg "reversed" = none) (hg : Gl X "list" := by rfl) (hg2 : Gl X "reversed" := by rfl) (hs : starEach [a] X.env = (false, eval a X.env) :: starEach [] X.env := by rfl)
    (hs2 : starEach [.Call (.Name "reversed" p2) [a] [] pos2] X.env = (false, eval (.Call (.Name "reversed" p2) [a] [] pos2) X.env) :: starEach [] X.env := by rfl) : EvO X H0 ρ (.Call (.Name "list" p) [.Call (.Name "reversed" p2) [a] [] pos2] [] pos) (lstd en l.reverse) := by
  have := eo_listRev (p := p) (pos := pos) ha (flats_map f l) hc hm hm2 hg hg2 hs hs2
  rw [← List.map_reverse] at this
  exact this
theorem repm (f : α → β) (l : List α) (n : Nat) : (List.replicate n (l.map f)).flatten = (List.replicate n l).flatten.map f := by
  induction n with
  | zero => rfl
  | succ n ih => rw [List.replicate_succ, List.replicate_succ, List.flatten_cons, List.flatten_cons, List.map_append, ih]
theorem repOk_L {l : List α} {n : Int} (h : repOk l n = true) : -(2 ^ 63) ≤ n ∧ n < 2 ^ 63 ∧ (l.map en).length * n.toNat ≤ sizeLine := by
  unfold repOk at h
  obtain ⟨a, b, c⟩ := cl_of h
  refine ⟨by omega, by omega, ?_⟩
  rw [List.length_map, sizeLine_is]
  have : l.length * n.toNat ≤ 100 * 100000 := Nat.mul_le_mul c (by omega)
  omega
theorem eo_repOm {l : List α} {i : Int} (ha : EvO X H0 ρ a (lstd en l)) (hb : Ev X H0 ρ b (.int i)) (h : repOk l i = true) : EvO X H0 ρ (.BinOp a .Mult b pos) (lstd en (repS l i)) := by
  obtain ⟨h1, h2, h3⟩ := repOk_L (en := en) h
  have := eo_repO (pos := pos) ha hb h1 h2 h3
  rw [repm] at this
  exact this
theorem eo_repNm {l : List α} {i : Int} (j : Nat) {y : Str} {p1 : Pos} (hi : ρ[j]? = some (.ow (lstd en l))) (hb : Ev X H0 ρ b (.int i)) (h : repOk l i = true) (hN : X.N[j]? = some y := by rfl) (hv : Vis X.env.scope y := by first | exact Or.inl rfl | exact Or.inr (Or.inl rfl) | exact Or.inr (Or.inr rfl))
    (hd : (y == ("__debug__" : Str)) = false := by decide) (hcd : (y == ("__classdict__" : Str)) = false := by decide) : EvO X H0 ρ (.BinOp (.Name y p1) .Mult b pos) (lstd en (repS l i)) := by
  obtain ⟨h1, h2, h3⟩ := repOk_L (en := en) h
  have := eo_repN (pos := pos) (p1 := p1) j hi hb h1 h2 h3 hN hv hd hcd
  rw [repm] at this
  exact this
/-- the rows [e for ..] -/
theorem compM_len {f : α → M Bool} {g : α → M β} : ∀ {xs : List α} {ys : List β}, compM f g xs = .ok ys → ys.length ≤ xs.length
  | [], _, h => by cases h; exact Nat.le_refl _
  | x :: xs, ys, h => by
    unfold compM at h
    cases ef : f x with
    | ok b =>
      rw [ef] at h
      cases b with
      | false => exact Nat.le_succ_of_le (compM_len (by simpa using h))
      | true =>
        cases eg : g x with
        | ok y =>
          rw [eg] at h
          cases ec : compM f g xs with
          | ok zs =>
            rw [ec] at h
            simp at h
            subst h
            exact Nat.succ_le_succ (compM_len ec)
          | ex n => rw [ec] at h; simp at h
          | far => rw [ec] at h; simp at h
        | ex n => rw [eg] at h; simp at h
        | far => rw [eg] at h; simp at h
    | ex n => rw [ef] at h; simp at h
    | far => rw [ef] at h; simp at h
open Classical in
theorem compM_fn {ea : α → Dat} {eb : β → Dat} (inj : ∀ x y, ea x = ea y → x = y) {f : α → M Bool} {g : α → M β} : ∀ {xs : List α} {ys : List β}, compM f g xs = .ok ys →
    (∀ x ∈ xs, ∃ u, f x = .ok u) ∧ (∀ x ∈ xs, f x = .ok true → ∃ y, g x = .ok y) ∧
    ∀ (F : Dat → Bool) (G : Dat → Dat), (∀ x ∈ xs, f x = .ok (F (ea x))) → (∀ x ∈ xs, f x = .ok true → ∀ y, g x = .ok y → G (ea x) = eb y) → ((xs.map ea).filter F).map G = ys.map eb
  | [], _, h => by cases h; exact ⟨by simp, by simp, fun _ _ _ _ => rfl⟩
  | x :: xs, ys, h => by
    unfold compM at h
    cases ef : f x with
    | ok b =>
      rw [ef] at h
      cases b with
      | false =>
        obtain ⟨i1, i2, i3⟩ := compM_fn (ea := ea) (eb := eb) inj (xs := xs) (ys := ys) (by simpa using h)
        refine ⟨fun z hz => ?_, fun z hz hf => ?_, fun F G hF hG => ?_⟩
        · rcases List.mem_cons.mp hz with rfl | hz
          · exact ⟨false, ef⟩
          · exact i1 z hz
        · rcases List.mem_cons.mp hz with rfl | hz
          · rw [ef] at hf; cases hf
          · exact i2 z hz hf
        · have e1 : F (ea x) = false := by have := hF x List.mem_cons_self; rw [ef] at this; exact (M.ok.inj this).symm
          rw [List.map_cons, List.filter_cons, if_neg (by rw [e1]; decide)]
          exact i3 F G (fun z hz => hF z (List.mem_cons_of_mem _ hz)) (fun z hz => hG z (List.mem_cons_of_mem _ hz))
      | true =>
        cases eg : g x with
        | ok y =>
          rw [eg] at h
          cases ec : compM f g xs with
          | ok zs =>
            rw [ec] at h
            simp at h
            subst h
            obtain ⟨i1, i2, i3⟩ := compM_fn (ea := ea) (eb := eb) inj ec
            refine ⟨fun z hz => ?_, fun z hz hf => ?_, fun F G hF hG => ?_⟩
            · rcases List.mem_cons.mp hz with rfl | hz
              · exact ⟨true, ef⟩
              · exact i1 z hz
            · rcases List.mem_cons.mp hz with rfl | hz
              · exact ⟨y, eg⟩
              · exact i2 z hz hf
            · have e1 : F (ea x) = true := by have := hF x List.mem_cons_self; rw [ef] at this; exact (M.ok.inj this).symm
              rw [List.map_cons, List.filter_cons, if_pos e1, List.map_cons, List.map_cons, hG x List.mem_cons_self ef y eg, i3 F G (fun z hz => hF z (List.mem_cons_of_mem _ hz)) (fun z hz => hG z (List.mem_cons_of_mem _ hz))]
          | ex n => rw [ec] at h; simp at h
          | far => rw [ec] at h; simp at h
        | ex n => rw [eg] at h; simp at h
        | far => rw [eg] at h; simp at h
    | ex n => rw [ef] at h; simp at h
    | far => rw [ef] at h; simp at h
open Classical in
/-- .. as functions of the data -/
theorem compM_get {ea : α → Dat} {eb : β → Dat} (inj : ∀ x y, ea x = ea y → x = y) {f : α → M Bool} {g : α → M β} {xs : List α} {ys : List β} (h : compM f g xs = .ok ys) :
    ∃ (F : Dat → Bool) (G : Dat → Dat), ((xs.map ea).filter F).map G = ys.map eb ∧ (∀ d ∈ xs.map ea, ∃ x, d = ea x ∧ f x = .ok (F d) ∧ (F d = true → ∃ y, g x = .ok y ∧ G d = eb y)) := by
  obtain ⟨i1, i2, i3⟩ := compM_fn (ea := ea) (eb := eb) inj h
  let F : Dat → Bool := fun d => if q : ∃ x, d = ea x ∧ ∃ u, f x = .ok u then Classical.choose (Classical.choose_spec q).2 else false
  let G : Dat → Dat := fun d => if q : ∃ x, d = ea x ∧ ∃ y, g x = .ok y then eb (Classical.choose (Classical.choose_spec q).2) else .non
  have hF : ∀ x u, f x = .ok u → F (ea x) = u := fun x u hu => by
    have q : ∃ z, ea x = ea z ∧ ∃ u, f z = .ok u := ⟨x, rfl, u, hu⟩
    show (if q : ∃ z, ea x = ea z ∧ ∃ u, f z = .ok u then Classical.choose (Classical.choose_spec q).2 else false) = u
    rw [dif_pos q]
    have e := inj _ _ (Classical.choose_spec q).1
    have h2 := Classical.choose_spec (Classical.choose_spec q).2
    exact M.ok.inj (((hu.symm.trans (congrArg f e)).trans h2).symm)
  have hG : ∀ x y, g x = .ok y → G (ea x) = eb y := fun x y hy => by
    have q : ∃ z, ea x = ea z ∧ ∃ u, g z = .ok u := ⟨x, rfl, y, hy⟩
    show (if q : ∃ z, ea x = ea z ∧ ∃ u, g z = .ok u then eb (Classical.choose (Classical.choose_spec q).2) else .non) = eb y
    rw [dif_pos q]
    have e := inj _ _ (Classical.choose_spec q).1
    have h2 := Classical.choose_spec (Classical.choose_spec q).2
    exact congrArg eb (M.ok.inj (((hy.symm.trans (congrArg g e)).trans h2).symm))
  refine ⟨F, G, i3 F G (fun x hx => ?_) (fun x hx _ y hy => hG x y hy), fun d hd => ?_⟩
  · obtain ⟨u, hu⟩ := i1 x hx
    rw [hF x u hu, hu]
  · obtain ⟨x, hx, rfl⟩ := List.mem_map.mp hd
    obtain ⟨u, hu⟩ := i1 x hx
    refine ⟨x, rfl, by rw [hF x u hu, hu], fun hT => ?_⟩
    rw [hF x u hu] at hT
    subst hT
    obtain ⟨y, hy⟩ := i2 x hx hu
    exact ⟨y, hy, hG x y hy⟩
theorem eo_compM {elt tg iter : Expr} {ifs : List Expr} {scope : Scope} {xn : Str} {ea : α → Dat} {eb : β → Dat} {xs : List α} {ys : List β} {f : α → M Bool} {g : α → M β} (i : Nat) {pos : Pos} (inj : ∀ x y, ea x = ea y → x = y) (hc : X.calm = true) (nd : X.N.Nodup) (hi : Iter X H0 ρ tg iter (xs.map ea)) (ok : blkC X.N X.env.scope scope [(xn, i)] = true) (hx : ρ[i]? = some .no)
    (htg : ∀ (s : Shared) (H : Hp) (C : Addr) (cl : List (Str × Addr)) (fp : List Addr), PG (X.blk s H scope (compEnvC scope cl C X.env) fp) tg (gName i)) (h : compM f g xs = .ok ys)
    (hif : (ifs = [] ∧ ∀ x, f x = .ok true) ∨ ∃ c, ifs = [c] ∧ ∀ (H0' : Hp) (s : Shared) (H : Hp) (C : Addr) (cl : List (Str × Addr)) (fp : List Addr), ∀ x, EtM (X.blk s H scope (compEnvC scope cl C X.env) fp) H0' (ρ.set i (.im (ea x))) c (f x))
    (hel : ∀ (H0' : Hp) (s : Shared) (H : Hp) (C : Addr) (cl : List (Str × Addr)) (fp : List Addr), Same H0 H0' → ∀ x, EvM (X.blk s H scope (compEnvC scope cl C X.env) fp) H0' (ρ.set i (.im (ea x))) elt eb (g x))
    (hz : lenLt xs = true) (hs : ∀ x, foldedSetIterable iter X.env x = pure x := by intro _; rfl) : EvO X H0 ρ (.ListComp elt [⟨tg, iter, ifs, 0⟩] scope pos) (lstd eb ys) := by
  obtain ⟨F, G, e, q⟩ := compM_get (eb := eb) inj h
  have := eo_comp (X := X) (H0 := H0) (ρ := ρ) (elt := elt) (tg := tg) (iter := iter) (ifs := ifs) (scope := scope) (xn := xn) (pos := pos) i hc nd hi ok hx F G htg (by
    rcases hif with ⟨h1, h2⟩ | ⟨c, h1, h2⟩
    · refine .inl ⟨h1, fun d hd => ?_⟩
      obtain ⟨x, rfl, q1, _⟩ := q d hd
      rw [h2 x] at q1
      exact (M.ok.inj q1).symm
    · refine .inr ⟨c, h1, fun H0' s H C cl fp hs d hd => ?_⟩
      obtain ⟨x, rfl, q1, _⟩ := q d hd
      exact etm_get (h2 H0' s H C cl fp x) q1) (fun H0' s H C cl fp hs d hd hF => by
      obtain ⟨x, rfl, q1, q2⟩ := q d hd
      obtain ⟨y, q3, q4⟩ := q2 hF
      rw [q4]
      exact evm_get (hel H0' s H C cl fp hs x) q3) (lenLt_m hz) hs
  rw [e] at this
  exact this
theorem xm_setLcM {f2 : List β → M γ} {elt tg iter : Expr} {ifs : List Expr} {scope : Scope} {xn y : Str} {ea : α → Dat} {eb : β → Dat} {xs : List α} {f : α → M Bool} {g : α → M β} (j0 : Nat) (i : Nat) {pos py spos : Pos} (inj : ∀ x y, ea x = ea y → x = y) (hc : X.calm = true) (nd : X.N.Nodup) (hi : Iter X H0 ρ tg iter (xs.map ea)) (ok : blkC X.N X.env.scope scope [(xn, i)] = true) (hx : ρ[i]? = some .no)
    (htg : ∀ (s : Shared) (H : Hp) (C : Addr) (cl : List (Str × Addr)) (fp : List Addr), PG (X.blk s H scope (compEnvC scope cl C X.env) fp) tg (gName i))
    (hif : (ifs = [] ∧ ∀ x, f x = .ok true) ∨ ∃ c, ifs = [c] ∧ ∀ (H0' : Hp) (s : Shared) (H : Hp) (C : Addr) (cl : List (Str × Addr)) (fp : List Addr), ∀ x, EtM (X.blk s H scope (compEnvC scope cl C X.env) fp) H0' (ρ.set i (.im (ea x))) c (f x))
    (hel : ∀ (H0' : Hp) (s : Shared) (H : Hp) (C : Addr) (cl : List (Str × Addr)) (fp : List Addr), Same H0 H0' → ∀ x, EvM (X.blk s H scope (compEnvC scope cl C X.env) fp) H0' (ρ.set i (.im (ea x))) elt eb (g x))
    (hz : lenLt xs = true) (tt : ∀ ys, ExM X H0 (ρ.set j0 (.ow (lstd eb ys))) k rest D (f2 ys)) (hs : ∀ x, foldedSetIterable iter X.env x = pure x := by intro _; rfl) (hy : X.N[j0]? = some y := by rfl) (hyl : X.env.scope.names.lookup y = some .local := by rfl)
    (hsw : swapsWith (.ListComp elt [⟨tg, iter, ifs, 0⟩] scope pos) (some (.Name y py)) spos.line X.env = pure true := by rfl) :
    ExM X H0 ρ k (.Assign [.Name y py] (.ListComp elt [⟨tg, iter, ifs, 0⟩] scope pos) spos :: rest) D (M.bind (M.nox (compM f g xs)) f2) := by
  cases h : compM f g xs with
  | ok ys =>
    obtain ⟨F, G, e, q⟩ := compM_get (eb := eb) inj h
    have := sx_setLc (X := X) (H0 := H0) (ρ := ρ) (ρ1 := ρ.set j0 (.ow (lstd eb ys))) (elt := elt) (tg := tg) (iter := iter) (ifs := ifs) (scope := scope) (xn := xn) (pos := pos) (spos := spos) (py := py) (y := y) j0 i hc nd hi ok hx F G htg (by
      rcases hif with ⟨h1, h2⟩ | ⟨c, h1, h2⟩
      · refine .inl ⟨h1, fun d hd => ?_⟩
        obtain ⟨x, rfl, q1, _⟩ := q d hd
        rw [h2 x] at q1
        exact (M.ok.inj q1).symm
      · refine .inr ⟨c, h1, fun H0' s H C cl fp hs d hd => ?_⟩
        obtain ⟨x, rfl, q1, _⟩ := q d hd
        exact etm_get (h2 H0' s H C cl fp x) q1) (fun H0' s H C cl fp hs d hd hF => by
        obtain ⟨x, rfl, q1, q2⟩ := q d hd
        obtain ⟨y, q3, q4⟩ := q2 hF
        rw [q4]
        exact evm_get (hel H0' s H C cl fp hs x) q3) (lenLt_m hz) (by rw [e]) hs hy hyl hsw
    exact xm_then this (tt ys)
  | ex n => trivial
  | far => trivial
/-! ### assignments -/
theorem xm_set {en : β → Dat} {v : β} {f : β → M γ} (i : Nat) {x : Str} {pos' : Pos} (h : Ev X H0 ρ e (en v)) (nd : X.N.Nodup) (t : ∀ x, ExM X H0 (ρ.set i (.im (en x))) k rest D (f x)) (hi : X.N[i]? = some x := by rfl) (hx : Loc X.env.scope x := by first | exact Or.inl rfl | exact Or.inr rfl)
    (hs : swapsWith e (some (.Name x pos')) pos.line X.env = pure false := by rfl) (hf : X.fn x = true ∨ X.env.scope.names.lookup x = some .local := by first | exact .inl rfl | exact .inr rfl | assumption) : ExM X H0 ρ k (.Assign [.Name x pos'] e pos :: rest) D (M.lt v f) := xm_then (sx_set i h nd rfl hi hx hs hf) (t v)
theorem xm_setO {en : β → Dat} {v : β} {f : β → M γ} (i : Nat) {x : Str} {pos' : Pos} (h : EvO X H0 ρ e (en v)) (nd : X.N.Nodup) (t : ∀ x, ExM X H0 (ρ.set i (.ow (en x))) k rest D (f x)) (hi : X.N[i]? = some x := by rfl) (hx : Loc X.env.scope x := by first | exact Or.inl rfl | exact Or.inr rfl)
    (hs : swapsWith e (some (.Name x pos')) pos.line X.env = pure false := by rfl) (hf : X.fn x = true ∨ X.env.scope.names.lookup x = some .local := by first | exact .inl rfl | exact .inr rfl | assumption) : ExM X H0 ρ k (.Assign [.Name x pos'] e pos :: rest) D (M.lt v f) := xm_then (sx_setO i h nd rfl hi hx hs hf) (t v)
theorem xm_asg {en : β → Dat} {v : β} {f : β → M γ} {t : Expr} {ok : Dat → Prop} {bd : Dat → Env' → Env'} (h : Ev X H0 ρ e (en v)) (hg : Tgt X H0 t ok bd) (hok : ∀ r, ok (en r)) (tt : ∀ r, ExM X H0 (bd (en r) ρ) k rest D (f r)) (hs : swapsWithSole [t] e pos.line X.env = pure false := by rfl) (hw : swappedStores [t] e X.env = pure none := by rfl)
    (h1 : (assignEach [t] X.env).map (·.2) = [assign t X.env] := by rfl) : ExM X H0 ρ k (.Assign [t] e pos :: rest) D (M.lt v f) := xm_then (sx_asg h hg (hok v) rfl hs hw h1) (tt v)
theorem xm_par {ea : α → Dat} {eb : β → Dat} {v : α} {u : β} {f : α → β → M γ} (i j : Nat) {y z : Str} {px py pt : Pos} {kt k2 pt2} (ha : Ev X H0 ρ a (ea v)) (hb : Ev X H0 ρ b (eb u)) (nd : X.N.Nodup) (hc : X.calm = true) (hij : i ≠ j) (tt : ∀ v u, ExM X H0 ((ρ.set i (.im (ea v))).set j (.im (eb u))) k rest D (f v u)) (hi : X.N[i]? = some y := by rfl) (hj : X.N[j]? = some z := by rfl)
    (hx : X.env.scope.names.lookup y = some .local := by rfl) (hy : X.env.scope.names.lookup z = some .local := by rfl) (hw : swappedStores [.Tuple [.Name y px, .Name z py] kt pt] (.Tuple [a, b] k2 pt2) X.env = pure (some [y, z]) := by rfl)
    (hs : swapsWithSole [.Tuple [.Name y px, .Name z py] kt pt] (.Tuple [a, b] k2 pt2) pos.line X.env = pure false := by rfl) (h1 : starEach [a, b] X.env = (false, eval a X.env) :: starEach [b] X.env := by rfl) (h2 : starEach [b] X.env = (false, eval b X.env) :: starEach [] X.env := by rfl) :
    ExM X H0 ρ k (.Assign [.Tuple [.Name y px, .Name z py] kt pt] (.Tuple [a, b] k2 pt2) pos :: rest) D (M.lt (v, u) fun q => f q.1 q.2) := xm_then (sx_par i j ha hb nd hc hij rfl hi hj hx hy hw hs h1 h2) (tt v u)
theorem xm_append {en : β → Dat} {l : List β} {v : β} {f : List β → M γ} (i : Nat) {y : Str} {p1 p2 p3 : Pos} (hi : ρ[i]? = some (.ow (lstd en l))) (h : Ev X H0 ρ e (en v)) (hz : lenLt l = true) (tt : ∀ l, ExM X H0 (ρ.set i (.ow (lstd en l))) k rest D (f l)) (hN : X.N[i]? = some y := by rfl) (hv : Vis X.env.scope y := by first | exact Or.inl rfl | exact Or.inr (Or.inl rfl) | exact Or.inr (Or.inr rfl))
    (hd : (y == ("__debug__" : Str)) = false := by decide) (hcd : (y == ("__classdict__" : Str)) = false := by decide)
    (hpe : ∀ to t, PE X (.Name y p1) to → PA X [e] t → PE X (.Call (.Attribute (.Name y p1) "append" p2) [e] [] p3) (tBM X.K "list" rAppend to t) := by exact fun _ _ h g => pe_bm PySem.F.plainAttrs_list PySem.F.slot_list_append PySem.F.type_list_append mt_append h g)
    (he : starEach [e] X.env = (false, eval e X.env) :: starEach [] X.env := by rfl) (hs : swapsWith (.Call (.Attribute (.Name y p1) "append" p2) [e] [] p3) none pos.line X.env = pure false := by rfl) :
    ExM X H0 ρ k (.Expr (.Call (.Attribute (.Name y p1) "append" p2) [e] [] p3) pos :: rest) D (M.lt (l ++ [v]) f) := by
  have h0 := sx_append (pos := pos) (p1 := p1) (p2 := p2) (p3 := p3) i hi h (lenLt_m hz) rfl hN hv hd hcd hpe he hs
  have t1 := tt (l ++ [v])
  unfold lstd at t1
  rw [List.map_append] at t1
  exact xm_then h0 t1
theorem xm_augI {v u : Int} {f : Int → M γ} (i : Nat) {y : Str} {pos' : Pos} (hi : ρ[i]? = some (.im (.int v))) (h : Ev X H0 ρ e (.int u)) (nd : X.N.Nodup) (tt : ∀ x, ExM X H0 (ρ.set i (.im (.int x))) k rest D (f x)) (hN : X.N[i]? = some y := by rfl) (hx : Loc X.env.scope y := by first | exact Or.inl rfl | exact Or.inr rfl)
    (hp : ∀ te, PE X e te → PS X (.AugAssign (.Name y pos') .Add e pos) (tAug i te (ipI fun i j => i + j)) := by exact fun te h => ps_aug (by assumption) rfl (by first | exact Or.inl rfl | exact Or.inr rfl) h ip_add) :
    ExM X H0 ρ k (.AugAssign (.Name y pos') .Add e pos :: rest) D (M.lt (v + u) f) := xm_then (sx_augI i hi h nd rfl hN hx hp) (tt (v + u))
/-- l[i] = v -/
def setI {α : Type} (l : List α) (i : Int) (v : α) : Option (List α) := (ixN l.length i).map fun j => l.set j v
theorem xm_setIx {en : β → Dat} {l l2 : List β} {v : β} {f : List β → M γ} {u : Int} (i : Nat) {y : Str} {p1 p2 : Pos} {ix : Expr} (hi : ρ[i]? = some (.ow (lstd en l))) (hv : Ev X H0 ρ e (en v)) (hx : Ev X H0 ρ ix (.int u)) (hj : setI l u v = some l2) (tt : ∀ l, ExM X H0 (ρ.set i (.ow (lstd en l))) k rest D (f l)) (hN : X.N[i]? = some y := by rfl)
    (hvis : Vis X.env.scope y := by first | exact Or.inl rfl | exact Or.inr (Or.inl rfl) | exact Or.inr (Or.inr rfl)) (hd : (y == ("__debug__" : Str)) = false := by decide) (hcd : (y == ("__classdict__" : Str)) = false := by decide)
    (hp : ∀ te to ti, PE X e te → PE X (.Name y p1) to → PE X ix ti → PS X (.Assign [.Subscript (.Name y p1) ix p2] e pos) (tAsg te (gSub to ti rSetL)) := by exact fun te to ti h g f => ps_asg h (pg_sub g f set_list)) :
    ExM X H0 ρ k (.Assign [.Subscript (.Name y p1) ix p2] e pos :: rest) D (M.lt l2 f) := by
  unfold setI at hj
  obtain ⟨j, hj1, hj2⟩ := Option.map_eq_some_iff.mp hj
  have h0 := sx_setIx (pos := pos) (p1 := p1) (p2 := p2) i hi hv hx (by rw [List.length_map]; exact hj1) rfl hN hvis hd hcd hp
  have t1 := tt l2
  unfold lstd at t1
  rw [← hj2, List.map_set] at t1
  rw [M.lt, ← hj2]
  exact xm_then h0 t1
/-- l[i] += v -/
theorem xm_augIx {l l2 : List Int} {f : List Int → M γ} {j w u : Int} (i : Nat) {y : Str} {p1 p2 : Pos} {ix : Expr} (hi : ρ[i]? = some (.ow (lstd Dat.int l))) (hx : Ev X H0 ρ ix (.int j)) (h0 : decide (0 ≤ j) = true) (hj : atI l j = some w) (hv : Ev X H0 ρ e (.int u)) (hl : setI l j (w + u) = some l2) (tt : ∀ l, ExM X H0 (ρ.set i (.ow (lstd Dat.int l))) k rest D (f l)) (hN : X.N[i]? = some y := by rfl)
    (hvis : Vis X.env.scope y := by first | exact Or.inl rfl | exact Or.inr (Or.inl rfl) | exact Or.inr (Or.inr rfl)) (hd : (y == ("__debug__" : Str)) = false := by decide) (hcd : (y == ("__classdict__" : Str)) = false := by decide)
    (hp : ∀ te to ti, PE X e te → PE X (.Name y p1) to → PE X ix ti → PS X (.AugAssign (.Subscript (.Name y p1) ix p2) .Add e pos) (tAugS to ti te rGetL (ipI fun i j => i + j) rSetL) := by exact fun te to ti h g f => ps_augS g f get_list h ip_add set_list) :
    ExM X H0 ρ k (.AugAssign (.Subscript (.Name y p1) ix p2) .Add e pos :: rest) D (M.lt l2 f) := by
  have h0 := of_decide_eq_true h0
  obtain ⟨q, rfl⟩ := Int.eq_ofNat_of_zero_le h0
  unfold setI at hl
  obtain ⟨q2, hj1, hj2⟩ := Option.map_eq_some_iff.mp hl
  have e1 : q2 = q ∧ q < l.length := by
    unfold ixN at hj1
    rw [if_pos (by omega)] at hj1
    split at hj1
    · have := Option.some.inj hj1
      rw [Int.toNat_natCast] at this
      omega
    · cases hj1
  obtain ⟨rfl, e2⟩ := e1
  have hg : (l.map Dat.int)[q2]? = some (.int w) := by
    unfold atI at hj
    rw [hj1] at hj
    rw [List.getElem?_map, show l[q2]? = some w from hj]
    rfl
  have h1 := sx_augIx (pos := pos) (p1 := p1) (p2 := p2) i hi hx hg hv rfl hN hvis hd hcd hp
  have t1 := tt l2
  unfold lstd at t1
  rw [← hj2, List.map_set] at t1
  rw [M.lt, ← hj2]
  exact xm_then h1 t1
/-! ### walks -/
theorem itm_r1 {j : Int} {t : Expr} {p : Pos} (h : Ev X H0 ρ a (.int j)) (bb : rngOk 0 j = true) (hm : X.mg "range" = none) (hg : Gl X "range" := by rfl) (hs : starEach [a] X.env = [(false, eval a X.env)] := by rfl) : Iter X H0 ρ t (.Call (.Name "range" p) [a] [] pos) ((rng 0 1 j.toNat).map Dat.int) := by
  obtain ⟨_, _, b1, b2⟩ := rngOk_ok bb
  have := it_range1 (pos := pos) (p := p) (t := t) h b1 b2 hm hg hs
  rw [rng_steps] at this
  exact this
theorem itm_r2 {i j : Int} {t : Expr} {p : Pos} (h : Ev X H0 ρ a (.int i)) (h2 : Ev X H0 ρ b (.int j)) (bb : rngOk i j = true) (hm : X.mg "range" = none) (hg : Gl X "range" := by rfl)
    (hs : starEach [a, b] X.env = [(false, eval a X.env), (false, eval b X.env)] := by rfl) (hs2 : starEach [b] X.env = [(false, eval b X.env)] := by rfl) : Iter X H0 ρ t (.Call (.Name "range" p) [a, b] [] pos) ((rng i 1 (j - i).toNat).map Dat.int) := by
  have := it_range2 (pos := pos) (p := p) (t := t) h h2 (rngOk_ok bb) hm hg hs hs2
  rw [rng_steps] at this
  exact this
/-- range(i, j, -1) -/
theorem itm_rdn {i j : Int} {t : Expr} {p : Pos} (h : Ev X H0 ρ a (.int i)) (h2 : Ev X H0 ρ b (.int j)) (h3 : Ev X H0 ρ c (.int (-1))) (bb : rngOk i j = true) (hm : X.mg "range" = none) (hg : Gl X "range" := by rfl)
    (hs : ∀ l, PA X [a, b, c] l → PI X t (.Call (.Name "range" p) [a, b, c] [] pos) (iRng3 l)) (s1 : starEach [a, b, c] X.env = (false, eval a X.env) :: starEach [b, c] X.env := by rfl) (s2 : starEach [b, c] X.env = (false, eval b X.env) :: starEach [c] X.env := by rfl) (s3 : starEach [c] X.env = (false, eval c X.env) :: starEach [] X.env := by rfl) : Iter X H0 ρ t (.Call (.Name "range" p) [a, b, c] [] pos) ((rng i (-1) (i - j).toNat).map Dat.int) := by
  obtain ⟨b1, b2, b3, b4⟩ := rngOk_ok bb
  have := it_range3 (pos := pos) (p := p) (t := t) h h2 h3 (RgC.neg b1 b2 b3 b4) hm hg hs s1 s2 s3
  rw [rng_steps] at this
  exact this
@[irreducible] noncomputable def stepOk (i j c : Int) : Bool := cl (0 < c ∧ c < 1073741824 ∧ -(2 ^ 39) ≤ i ∧ i ≤ 2 ^ 39 ∧ -(2 ^ 39) ≤ j ∧ j ≤ 2 ^ 39)
def stepN (i j c : Int) : Nat := if i < j then ((j - i - 1) / c + 1).toNat else 0
/-- range(i, j, c), c above 0 -/
theorem itm_rup {i j c' : Int} {t : Expr} {p : Pos} (h : Ev X H0 ρ a (.int i)) (h2 : Ev X H0 ρ b (.int j)) (h3 : Ev X H0 ρ c (.int c')) (bb : stepOk i j c' = true) (hm : X.mg "range" = none) (hg : Gl X "range" := by rfl)
    (hs : ∀ l, PA X [a, b, c] l → PI X t (.Call (.Name "range" p) [a, b, c] [] pos) (iRng3 l)) (s1 : starEach [a, b, c] X.env = (false, eval a X.env) :: starEach [b, c] X.env := by rfl) (s2 : starEach [b, c] X.env = (false, eval b X.env) :: starEach [c] X.env := by rfl) (s3 : starEach [c] X.env = (false, eval c X.env) :: starEach [] X.env := by rfl) : Iter X H0 ρ t (.Call (.Name "range" p) [a, b, c] [] pos) ((rng i c' (stepN i j c')).map Dat.int) := by
  unfold stepOk at bb
  obtain ⟨b1, b2, b3, b4, b5, b6⟩ := cl_of bb
  have hn : ((stepN i j c' : Nat) : Int) = if i < j then (j - i - 1) / c' + 1 else 0 := by
    unfold stepN
    split
    · have : 0 ≤ (j - i - 1) / c' := Int.ediv_nonneg (by omega) (by omega)
      omega
    · rfl
  have := it_range3 (pos := pos) (p := p) (t := t) h h2 h3 (rgc_pos b1 b2 b3 b4 b5 b6 hn) hm hg hs s1 s2 s3
  rw [rng_steps] at this
  exact this
theorem itm_ol {l : List α} (f : ∀ a, flat (en a) = true) (i : Nat) {t : Expr} {x : Str} (h : ρ[i]? = some (.ol (lstd en l))) (hN : X.N[i]? = some x := by rfl) (hv : Vis X.env.scope x := by first | exact Or.inl rfl | exact Or.inr (Or.inl rfl) | exact Or.inr (Or.inr rfl)) (hd : (x == ("__debug__" : Str)) = false := by decide)
    (hcd : (x == ("__classdict__" : Str)) = false := by decide) : Iter X H0 ρ t (.Name x pos) (l.map en) := it_ol i h (flats_map f l) hN hv hd hcd
end
end B

namespace B
open PySem PySem.Spec PyProof.Rows L2
section
variable {S S' L R α : Type}
def M.seqN (m : M (Fl S L Empty)) (k : S → M α) : M α := match m with
  | .ok (.nx s) => k s
  | .ex n => .ex n
  | _ => .far
@[simp] theorem M.seqN_nx (s : S) (k : S → M α) : (M.ok (Fl.nx s : Fl S L Empty)).seqN k = k s := id rfl
end
/-- what data are -/
def strOf : Dat → Option (List Nat)
  | .str s => some s.cps.toList
  | _ => none
theorem strOf_ok {d : Dat} {l : List Nat} (h : strOf d = some l) : d = tx l := by
  cases d <;> simp [strOf] at h
  subst h
  rfl
@[simp] theorem strOf_tx (l : List Nat) : strOf (tx l) = some l := id rfl
def intOf : Dat → Option Int
  | .int i => some i
  | _ => none
theorem intOf_ok {d : Dat} {i : Int} (h : intOf d = some i) : d = .int i := by
  cases d <;> simp [intOf] at h
  subst h
  rfl
@[simp] theorem intOf_int (i : Int) : intOf (.int i) = some i := id rfl
def tupOf : Dat → Option (List Dat)
  | .tup ds => some ds
  | _ => none
theorem tupOf_ok {d : Dat} {l : List Dat} (h : tupOf d = some l) : d = tpnd idd l := by
  cases d <;> simp [tupOf] at h
  subst h
  simp [tpnd]
def datIx (d : Dat) (i : Int) : Option Dat := match d with
  | .tup ds => atI ds i
  | .lst ds => atI ds i
  | _ => none
abbrev fndX (l m : List Nat) : Int := Txt.find (SX.S l) (SX.S m)
abbrev cntX (l m : List Nat) : Int := Txt.count (SX.S l) (SX.S m)
theorem fndX_one {l : List Nat} {c : Nat} (h : c ∈ l) : fndX l [c] = ((l.idxOf c : Nat) : Int) := find_one h
theorem cntX_one (l : List Nat) (c : Nat) : cntX l [c] = ((l.count c : Nat) : Int) := count_one l c
@[irreducible] noncomputable def joinOk (l : List Nat) (yss : List (List Nat)) : Bool := cl ((yss.map (·.length)).sum + yss.length * l.length ≤ 16777216)
theorem joinOk_ok {l : List Nat} {yss : List (List Nat)} (h : joinOk l yss = true) : (yss.map (·.length)).sum + yss.length * l.length ≤ 16777216 := by unfold joinOk at h; exact cl_of h
/-- sep.join of signs -/
def joinC (l : List Nat) (cs : List Nat) : List Nat := TL.joinL l (cs.map fun c => [c])
noncomputable def joinOkC (l : List Nat) (cs : List Nat) : Bool := joinOk l (cs.map fun c => [c])
section
variable {X : Cx} {H0 : Hp} {ρ ρ0 ρ1 ρ2 : Env'} {α β γ S S' L L' R : Type} {a b c e t iter : Expr} {es : List Expr} {st : Stmt} {sts rest body : List Stmt} {d d1 d2 : Dat} {ds : List Dat} {p pos : Pos} {o o1 : Outc} {x n : Str} {k : Nat} {D : γ → Outc} {m : M α} {en : α → Dat}
theorem eom_get {v : α} (h : EoM X H0 ρ e en m) (q : m = .ok v) : EvO X H0 ρ e (en v) := by subst q; exact h
theorem evm_call0 {R : List Dat → Res → Prop} {kk : Nat} (G : GFn X.prog X.w X.K X.mg X.base x kk R) (hr : Room kk X.A) (q : ∀ o, Rm en m o → R [] o) (hg : Gl X x := by rfl) (hdb : (x == ("__debug__" : Str)) = false := by decide) : EvM X H0 ρ (.Call (.Name x p) [] [] pos) en m.nox := by
  cases m with
  | ok v => exact ev_call0 G hr (q _ rfl) hg hdb
  | ex n => trivial
  | far => trivial
theorem ev_datIx {v : Dat} {i : Int} (ha : Ev X H0 ρ a d) (hb : Ev X H0 ρ b (.int i)) (h : datIx d i = some v) (hs : PlainIx b := by exact fun _ _ => rfl) : Ev X H0 ρ (.Subscript a b pos) v := by
  cases d with
  | tup ds => exact ev_ixT ha hb h hs
  | lst ds => exact ev_ixL ha hb h hs
  | _ => cases h
theorem eb_datIx {v : Dat} {i : Int} (ha : EvB X H0 ρ a d) (hb : Ev X H0 ρ b (.int i)) (h : datIx d i = some v) (hs : PlainIx b := by exact fun _ _ => rfl) : EvB X H0 ρ (.Subscript a b pos) v := by
  cases d with
  | tup ds => exact eb_ixT ha hb h hs
  | lst ds => exact eb_ixL ha hb h hs
  | _ => cases h
theorem it_tupD {l : List Dat} (h : Ev X H0 ρ e d) (q : tupOf d = some l) : Iter X H0 ρ t e (l.map idd) := by
  rw [tupOf_ok q] at h
  exact it_tup h
theorem optd_isN (o : Option α) : isNon (optd en o) = isNon (optd en o) := rfl
/-! ### constants of the module -/
theorem ev_cstI {i : Int} (h : ∃ t, X.mg x = some (.int i t)) (hg : Gl X x := by rfl) (hd : (x == ("__debug__" : Str)) = false := by decide) : Ev X H0 ρ (.Name x pos) (.int i) := fun σ H N r => by
  obtain ⟨t, h⟩ := h
  exact we_of (pe_glob (v := .int i) hg h ⟨_, rfl⟩ hd) ⟨N, Same.refl _, Same.refl _, r, .int _⟩
theorem ev_cstS {l : List Nat} (h : ∃ t, X.mg x = some (.str (SX.S l) t)) (hg : Gl X x := by rfl) (hd : (x == ("__debug__" : Str)) = false := by decide) : Ev X H0 ρ (.Name x pos) (tx l) := fun σ H N r => by
  obtain ⟨t, h⟩ := h
  exact we_of (pe_glob (v := .str (SX.S l)) hg h ⟨_, rfl⟩ hd) ⟨N, Same.refl _, Same.refl _, r, .str _⟩
/-! ### flows without return -/
theorem ex_flowN {eS : S → Env'} {eL : L → Env'} {oR : Empty → Outc} {mf : M (Fl S L Empty)} {f : S → M γ} (h : ExSM X H0 ρ k st (Fl.D eS eL oR) mf) (tt : ∀ s, ExM X H0 (eS s) k rest D (f s)) : ExM X H0 ρ k (st :: rest) D (M.seqN mf f) := by
  cases mf with
  | ok v =>
    cases v with
    | nx s => exact xm_then h (tt s)
    | ct s => trivial
    | bk s => trivial
    | rt r => exact nomatch r
  | ex n => exact ex_out (o := .ex n (List.replicate k .no)) h trivial
  | far => trivial
section
variable {ea : β → Dat} {bd : Dat → Env' → Env'} {ok : Dat → Prop}
theorem xm_forN {eS : S → Env'} {xs : List β} {s0 : S} {f : β → S → M (Fl S S Empty)} {fk : S → M γ} (hp : PassesOwn (model X.prog X.w) X.A X.env X.xe) (hc : X.calm = true) (hi : Iter X H0 ρ t iter (xs.map ea)) (hg : Tgt X H0 t ok bd) (hok : ∀ d ∈ xs.map ea, ok d) (h0 : ρ = eS s0) (hb : ∀ x s, ExM X H0 (bd (ea x) (eS s)) k body (Fl.D eS eS (fun (r : Empty) => nomatch r)) (f x s)) (tt : ∀ s, ExM X H0 (eS s) k rest D (fk s))
    (hs : ∀ x, foldedSetIterable iter X.env x = pure x := by intro _; rfl) : ExM X H0 ρ k (.For t iter body [] pos :: rest) D (M.seqN (forF f xs s0 : M (Fl S S Empty)) fk) := ex_flowN (eL := eS) (sx_forM (fun r => nomatch r) hp hc hi hg hok h0 hb hs) tt
end
theorem xm_whileN {eS : S → Env'} {s0 : S} {cm : S → M Bool} {f : S → M (Fl S S Empty)} {fk : S → M γ} {fuel : Nat} (hp : PassesOwn (model X.prog X.w) X.A X.env X.xe) (h0 : ρ = eS s0) (hc : ∀ s, EtM X H0 (eS s) c (cm s)) (hb : ∀ s, ExM X H0 (eS s) k body (Fl.D eS eS (fun (r : Empty) => nomatch r)) (f s)) (tt : ∀ s, ExM X H0 (eS s) k rest D (fk s)) :
    ExM X H0 ρ k (.While c body [] pos :: rest) D (M.seqN (whileF cm f fuel s0 : M (Fl S S Empty)) fk) := ex_flowN (eL := eS) (sx_whileM (fun r => nomatch r) hp h0 hc hb) tt
theorem xm_par2 {ea : α → Dat} {eb : β → Dat} {v : α} {u : β} {f : α × β → M γ} (i j : Nat) {y z : Str} {px py pt : Pos} {kt k2 pt2} (ha : Ev X H0 ρ a (ea v)) (hb : Ev X H0 ρ b (eb u)) (nd : X.N.Nodup) (hc : X.calm = true) (hij : i ≠ j) (tt : ∀ q : α × β, ExM X H0 ((ρ.set i (.im (ea q.1))).set j (.im (eb q.2))) k rest D (f q)) (hi : X.N[i]? = some y := by rfl) (hj : X.N[j]? = some z := by rfl)
    (hx : X.env.scope.names.lookup y = some .local := by rfl) (hy : X.env.scope.names.lookup z = some .local := by rfl) (hw : swappedStores [.Tuple [.Name y px, .Name z py] kt pt] (.Tuple [a, b] k2 pt2) X.env = pure (some [y, z]) := by rfl)
    (hs : swapsWithSole [.Tuple [.Name y px, .Name z py] kt pt] (.Tuple [a, b] k2 pt2) pos.line X.env = pure false := by rfl) (h1 : starEach [a, b] X.env = (false, eval a X.env) :: starEach [b] X.env := by rfl) (h2 : starEach [b] X.env = (false, eval b X.env) :: starEach [] X.env := by rfl) :
    ExM X H0 ρ k (.Assign [.Tuple [.Name y px, .Name z py] kt pt] (.Tuple [a, b] k2 pt2) pos :: rest) D (M.lt (v, u) f) := xm_then (sx_par i j ha hb nd hc hij rfl hi hj hx hy hw hs h1 h2) (tt (v, u))
/-! ### further expressions -/
theorem ev_joinCm {l cs : List Nat} {apos : Pos} (ha : Ev X H0 ρ a (tx l)) (hb : EvB X H0 ρ b (lstd chd cs)) (hz : joinOkC l cs = true)
    (hs : starEach [b] X.env = [(false, eval b X.env)] := by rfl) (hbase : attributeBase a "join" X.env (eval a X.env) = eval a X.env := by rfl) (hline : (apos.endLine == pos.line) = true := by rfl) :
    Ev X H0 ρ (.Call (.Attribute a "join" apos) [b] [] pos) (tx (joinC l cs)) := ev_joinX ha (eb_to hb (by show Dat.lst (cs.map chd) = .lst ((cs.map fun c => [c]).map tx); rw [List.map_map]; rfl)) (joinOk_ok hz) hs hbase hline
/-- list + list, both new -/
theorem eo_catLm {l m : List α} (ha : EvO X H0 ρ a (lstd en l)) (hb : EvO X H0 ρ b (lstd en m)) (h : catOk l m = true) : EvO X H0 ρ (.BinOp a .Add b pos) (lstd en (l ++ m)) := fun σ H N rp =>
  we_of (pe_op op_cat pe_w pe_w) ((ha σ H N rp).imp fun v H1 ⟨N1, p1, e1, hp1, s1, n1, r1, np1, vs, g1, h2⟩ => (hb σ H1 N1 r1).imp fun w H2 ⟨N2, p2, e2, hp2, s2, n2, r2, np2, ws, g2, h4⟩ => by
    have hz := catOk_ok h
    refine ⟨p1, p2, vs, ws, e1, e2, s2 _ _ g1, g2, by rw [h2.length, h4.length, List.length_map, List.length_map]; exact hz, fun q hq => ?_⟩
    obtain ⟨r5, n5⟩ := eo_new (o := .lst (vs ++ ws)) r2 hq
    refine ⟨N2, q, rfl, (s1.trans s2).free hq, (s1.trans s2).trans (Same.of_none hq), n1.trans n2, r5, n5, vs ++ ws, upd_same, ?_⟩
    rw [List.map_append]
    exact (h2.mono n2).append h4)
/-- x += y of texts -/
theorem xm_augS {v u : List Nat} {f : List Nat → M γ} (i : Nat) {y : Str} {pos' : Pos} (hi : ρ[i]? = some (.im (tx v))) (h : Ev X H0 ρ e (tx u)) (hz : v.length + u.length ≤ sizeLine) (nd : X.N.Nodup) (tt : ∀ x, ExM X H0 (ρ.set i (.im (tx x))) k rest D (f x)) (hN : X.N[i]? = some y := by rfl) (hx : Loc X.env.scope y := by first | exact Or.inl rfl | exact Or.inr rfl)
    (hp : ∀ te, PE X e te → PS X (.AugAssign (.Name y pos') .Add e pos) (tAug i te (fun x y H Q => ∃ i j, x = .str i ∧ y = .str j ∧ i.length + j.length ≤ sizeLine ∧ Q (.str (i ++ j)) H)) := by exact fun te h => ps_aug (by assumption) rfl (by first | exact Or.inl rfl | exact Or.inr rfl) h iop_add_str) :
    ExM X H0 ρ k (.AugAssign (.Name y pos') .Add e pos :: rest) D (M.lt (v ++ u) f) := by
  refine xm_then (ρ1 := ρ.set i (.im (tx (v ++ u)))) (fun Dd σ H N r kk => ?_) (tt (v ++ u))
  obtain ⟨w, h1, h2⟩ := r.im i _ hi
  refine ws_of (hp _ pe_w) ⟨w, h1, (h σ H N r).imp fun w2 H' ⟨N', s, n, r', a⟩ => ⟨_, _, at_str h2, at_str a, by rw [SX.S_len, SX.S_len]; exact hz, kk _ H' N' n ?_⟩⟩
  rw [SX.S_cat]
  exact r'.setE (e := .im (tx _)) (.str _)
end
theorem FnOk_sub {P : Program} {w : World} {K : PySem.W.Frag} {mg : Str → Option Value} {base : Heap} {k : Nat} {f : Addr} {fd : FuncData} {ps : List Str} {R R' : List Dat → Res → Prop} (h : ∀ ds o, R' ds o → R ds o) (F : FnOk P w K mg base (L2.CX P w) k f fd ps (spR K mg R)) : FnOk P w K mg base (L2.CX P w) k f fd ps (spR K mg R') := F.imp fun vs H Q E ⟨ds, o, q, r⟩ => ⟨ds, o, h ds o q, r⟩
end B

namespace B
open PySem PySem.Spec PyProof.Rows L2
/-! ### plain words on mirrors -/
theorem mulOk_i {i j : Int} (m n : Nat) (h1 : i.natAbs < 2 ^ m) (h2 : j.natAbs < 2 ^ n) (h0 : 0 < m) (h0' : 0 < n) (h : m + n ≤ 1000000) : mulOk i j = true := by unfold mulOk; exact cl_i (mul_ok m n h1 h2 h0 h0' h)
theorem mulOk_l {i j : Int} (h1 : -(2 ^ 64) < i) (h2 : i < 2 ^ 64) : mulOk i j = true := by unfold mulOk; exact cl_i (mul_l h1 h2)
theorem mulOk_r {i j : Int} (h1 : -(2 ^ 64) < j) (h2 : j < 2 ^ 64) : mulOk i j = true := by unfold mulOk; exact cl_i (mul_r h1 h2)
theorem mulOk_x {i j : Int} (h : (Builtin.Int.intBits i : Int) + (Builtin.Int.intBits j : Int) ≤ 134217728) : mulOk i j = true := by unfold mulOk; exact cl_i (CMulX.ok h)
theorem divOk_i {j : Int} (h1 : 0 < j) (h2 : j.natAbs.log2 < 9000) : divOk j = true := by unfold divOk; exact cl_i ⟨h1, h2⟩
theorem fdivOk_i {j : Int} (h1 : j ≠ 0) (h2 : j.natAbs.log2 < 9000) : fdivOk j = true := by unfold fdivOk; exact cl_i ⟨h1, h2⟩
theorem shlOk_i {i j : Int} (h0 : 0 ≤ j) (h : (Builtin.Int.intBits i : Int) + j ≤ 2 ^ 27) : shlOk i j = true := by unfold shlOk; exact cl_i ⟨h0, h⟩
theorem powOk_i {i j : Int} (h : CPow i j) : powOk i j = true := by unfold powOk; exact cl_i h
theorem lenOk_i {α : Type} {l : List α} (h : l.length ≤ 16777216) : lenOk l = true := by unfold lenOk; exact cl_i h
theorem lenLt_i {α : Type} {l : List α} (h : l.length < 16777216) : lenLt l = true := by unfold lenLt; exact cl_i h
theorem catOk_i {α : Type} {l m : List α} (h : l.length + m.length ≤ 16777216) : catOk l m = true := by unfold catOk; exact cl_i h
theorem rngOk_i {i j : Int} (h1 : -(2 ^ 62) ≤ i) (h2 : i < 2 ^ 62) (h3 : -(2 ^ 62) ≤ j) (h4 : j < 2 ^ 62) : rngOk i j = true := by unfold rngOk; exact cl_i ⟨h1, h2, h3, h4⟩
theorem repOk_i {α : Type} {l : List α} {n : Int} (h1 : -100000 ≤ n) (h2 : n ≤ 100000) (h3 : l.length ≤ 100) : repOk l n = true := by unfold repOk; exact cl_i ⟨h1, h2, h3⟩
theorem log2_9000 {j : Nat} {m : Nat} (h : j < 2 ^ m) (hm : m ≤ 9000) : j.log2 < 9000 := by
  by_cases h0 : j = 0
  · rw [h0]; decide
  · have h1 : 2 ^ j.log2 ≤ j := Nat.log2_self_le h0
    have h2 : 2 ^ j.log2 < 2 ^ m := by omega
    have h4 := (Nat.pow_lt_pow_iff_right (by decide)).mp h2
    omega
section
variable {α β S S' L R : Type}
theorem forM_ix {f : α → S → M S} : ∀ {xs : List α} (st : Nat → S), (∀ i (h : i < xs.length), f xs[i] (st i) = .ok (st (i + 1))) → forM f xs (st 0) = .ok (st xs.length)
  | [], st, _ => rfl
  | x :: xs, st, h => by
    show (f x (st 0)).bind _ = _
    rw [show f x (st 0) = .ok (st 1) from h 0 (Nat.succ_pos _)]
    exact forM_ix (fun i => st (i + 1)) fun i hi => h (i + 1) (Nat.succ_lt_succ hi)
theorem forM_fold {f : α → S → M S} {g : S → α → S} {I : S → Prop} : ∀ {xs : List α} {s : S}, I s → (∀ x ∈ xs, ∀ s, I s → f x s = .ok (g s x) ∧ I (g s x)) → forM f xs s = .ok (xs.foldl g s) ∧ I (xs.foldl g s)
  | [], s, h, _ => ⟨rfl, h⟩
  | x :: xs, s, h, k => by
    obtain ⟨h1, h2⟩ := k x List.mem_cons_self s h
    show (f x s).bind _ = _ ∧ _
    rw [h1]
    exact forM_fold h2 fun y hy => k y (List.mem_cons_of_mem _ hy)
theorem rng_len (lo c : Int) (n : Nat) : (rng lo c n).length = n := by unfold rng; simp
theorem rng_get (lo c : Int) (n i : Nat) (h : i < (rng lo c n).length) : (rng lo c n)[i] = lo + (i : Int) * c := by simp only [rng, List.getElem_map, List.getElem_range]
theorem rng_mem {lo c : Int} {n : Nat} {x : Int} (h : x ∈ rng lo c n) : ∃ i : Nat, i < n ∧ x = lo + (i : Int) * c := by
  unfold rng at h
  obtain ⟨i, h1, rfl⟩ := List.mem_map.mp h
  exact ⟨i, List.mem_range.mp h1, rfl⟩
theorem forM_rng {f : Int → S → M S} {n : Nat} (st : Nat → S) (h : ∀ i : Nat, i < n → f (i : Int) (st i) = .ok (st (i + 1))) : forM f (rng 0 1 n) (st 0) = .ok (st n) := by
  have := forM_ix (f := f) (xs := rng 0 1 n) st fun i hi => by
    rw [rng_get, show (0 + (i : Int) * 1) = (i : Int) by omega]
    exact h i (by rwa [rng_len] at hi)
  rwa [rng_len] at this
theorem forM_rngS {f : Int → S → M S} {n : Nat} {s0 : S} (st : Nat → S) (h0 : st 0 = s0) (h : ∀ i : Nat, i < n → f (i : Int) (st i) = .ok (st (i + 1))) : forM f (rng 0 1 n) s0 = .ok (st n) := h0 ▸ forM_rng st h
theorem bind_rng {β : Type} {f : Int → S → M S} {n : Nat} {s0 : S} {k : S → M β} {r : M β} (st : Nat → S) (h0 : st 0 = s0) (h : ∀ i : Nat, i < n → f (i : Int) (st i) = .ok (st (i + 1))) (hk : k (st n) = r) : M.bind (forM f (rng 0 1 n) s0) k = r := by rw [forM_rngS st h0 h]; exact hk
theorem forF_ix {f : α → S → M (Fl S S R)} : ∀ {xs : List α} (st : Nat → S), (∀ i (h : i < xs.length), f xs[i] (st i) = .ok (.nx (st (i + 1))) ∨ f xs[i] (st i) = .ok (.ct (st (i + 1)))) → (forF f xs (st 0) : M (Fl S L R)) = .ok (.nx (st xs.length))
  | [], st, _ => rfl
  | x :: xs, st, h => by
    unfold forF
    rcases h 0 (Nat.succ_pos _) with h0 | h0
    · rw [show f x (st 0) = .ok (.nx (st 1)) from h0]
      exact forF_ix (fun i => st (i + 1)) fun i hi => h (i + 1) (Nat.succ_lt_succ hi)
    · rw [show f x (st 0) = .ok (.ct (st 1)) from h0]
      exact forF_ix (fun i => st (i + 1)) fun i hi => h (i + 1) (Nat.succ_lt_succ hi)
theorem forF_rng {f : Int → S → M (Fl S S R)} {n : Nat} (st : Nat → S) (h : ∀ i : Nat, i < n → f (i : Int) (st i) = .ok (.nx (st (i + 1))) ∨ f (i : Int) (st i) = .ok (.ct (st (i + 1)))) : (forF f (rng 0 1 n) (st 0) : M (Fl S L R)) = .ok (.nx (st n)) := by
  have := forF_ix (L := L) (f := f) (xs := rng 0 1 n) st fun i hi => by
    rw [rng_get, show (0 + (i : Int) * 1) = (i : Int) by omega]
    exact h i (by rwa [rng_len] at hi)
  rwa [rng_len] at this
theorem forF_rngS {f : Int → S → M (Fl S S R)} {n : Nat} {s0 : S} (st : Nat → S) (h0 : st 0 = s0) (h : ∀ i : Nat, i < n → f (i : Int) (st i) = .ok (.nx (st (i + 1))) ∨ f (i : Int) (st i) = .ok (.ct (st (i + 1)))) : (forF f (rng 0 1 n) s0 : M (Fl S L R)) = .ok (.nx (st n)) := h0 ▸ forF_rng st h
/-- each turn goes on, some state that keeps I -/
theorem forF_inv {f : α → S → M (Fl S S R)} {I : S → Prop} : ∀ {xs : List α} {s : S}, I s → (∀ x ∈ xs, ∀ s, I s → ∃ s', (f x s = .ok (.nx s') ∨ f x s = .ok (.ct s')) ∧ I s') → ∃ s', (forF f xs s : M (Fl S L R)) = .ok (.nx s') ∧ I s'
  | [], s, h, _ => ⟨s, rfl, h⟩
  | x :: xs, s, h, k => by
    obtain ⟨s1, h1, h2⟩ := k x List.mem_cons_self s h
    obtain ⟨s2, h3, h4⟩ := forF_inv (xs := xs) h2 fun y hy => k y (List.mem_cons_of_mem _ hy)
    refine ⟨s2, ?_, h4⟩
    unfold forF
    rcases h1 with h1 | h1 <;> rw [h1] <;> exact h3
theorem forM_inv {f : α → S → M S} {I : S → Prop} : ∀ {xs : List α} {s : S}, I s → (∀ x ∈ xs, ∀ s, I s → ∃ s', f x s = .ok s' ∧ I s') → ∃ s', forM f xs s = .ok s' ∧ I s'
  | [], s, h, _ => ⟨s, rfl, h⟩
  | x :: xs, s, h, k => by
    obtain ⟨s1, h1, h2⟩ := k x List.mem_cons_self s h
    obtain ⟨s2, h3, h4⟩ := forM_inv (xs := xs) h2 fun y hy => k y (List.mem_cons_of_mem _ hy)
    refine ⟨s2, ?_, h4⟩
    show (f x s).bind _ = _
    rw [h1]
    exact h3
theorem forM_invN {f : α → S → M S} : ∀ {xs : List α} {s : S} (I : Nat → S → Prop), I 0 s → (∀ (i : Nat) (x : α), xs[i]? = some x → ∀ s, I i s → ∃ s', f x s = .ok s' ∧ I (i + 1) s') → ∃ s', forM f xs s = .ok s' ∧ I xs.length s'
  | [], s, I, h, _ => ⟨s, rfl, h⟩
  | x :: xs, s, I, h, k => by
    obtain ⟨s1, h1, h2⟩ := k 0 x rfl s h
    obtain ⟨s2, h3, h4⟩ := forM_invN (xs := xs) (fun i => I (i + 1)) h2 fun i y hy => k (i + 1) y hy
    refine ⟨s2, ?_, h4⟩
    show (f x s).bind _ = _
    rw [h1]
    exact h3
theorem forF_invN {f : α → S → M (Fl S S R)} : ∀ {xs : List α} {s : S} (I : Nat → S → Prop), I 0 s → (∀ (i : Nat) (x : α), xs[i]? = some x → ∀ s, I i s → ∃ s', (f x s = .ok (.nx s') ∨ f x s = .ok (.ct s')) ∧ I (i + 1) s') → ∃ s', (forF f xs s : M (Fl S L R)) = .ok (.nx s') ∧ I xs.length s'
  | [], s, I, h, _ => ⟨s, rfl, h⟩
  | x :: xs, s, I, h, k => by
    obtain ⟨s1, h1, h2⟩ := k 0 x rfl s h
    obtain ⟨s2, h3, h4⟩ := forF_invN (xs := xs) (fun i => I (i + 1)) h2 fun i y hy => k (i + 1) y hy
    refine ⟨s2, ?_, h4⟩
    unfold forF
    rcases h1 with h1 | h1 <;> rw [h1] <;> exact h3
section
variable {Q : M β → Prop} {xs : List α} {s0 : S}
/-- loops in a goal: an invariant by the number of turns -/
theorem bind_forN {f : α → S → M S} {k : S → M β} (I : Nat → S → Prop) (h0 : I 0 s0) (h : ∀ (i : Nat) (x : α), xs[i]? = some x → ∀ s, I i s → ∃ s', f x s = .ok s' ∧ I (i + 1) s') (hk : ∀ s, I xs.length s → Q (k s)) : Q (M.bind (forM f xs s0) k) := by
  obtain ⟨s', h1, h2⟩ := forM_invN I h0 h
  rw [h1]
  exact hk s' h2
/-- .. by the state alone -/
theorem bind_forI {f : α → S → M S} {k : S → M β} (I : S → Prop) (h0 : I s0) (h : ∀ x ∈ xs, ∀ s, I s → ∃ s', f x s = .ok s' ∧ I s') (hk : ∀ s, I s → Q (k s)) : Q (M.bind (forM f xs s0) k) := by
  obtain ⟨s', h1, h2⟩ := forM_inv (I := I) h0 h
  rw [h1]
  exact hk s' h2
/-- .. as a fold -/
theorem bind_forG {f : α → S → M S} {k : S → M β} (g : S → α → S) (I : S → Prop) (h0 : I s0) (h : ∀ x ∈ xs, ∀ s, I s → f x s = .ok (g s x) ∧ I (g s x)) (hk : I (xs.foldl g s0) → Q (k (xs.foldl g s0))) : Q (M.bind (forM f xs s0) k) := by
  obtain ⟨h1, h2⟩ := forM_fold (I := I) h0 h
  rw [h1]
  exact hk h2
theorem seqT_forN {Q : M R → Prop} {f : α → S → M (Fl S S R)} {k : S → M R} (I : Nat → S → Prop) (h0 : I 0 s0) (h : ∀ (i : Nat) (x : α), xs[i]? = some x → ∀ s, I i s → ∃ s', (f x s = .ok (.nx s') ∨ f x s = .ok (.ct s')) ∧ I (i + 1) s') (hk : ∀ s, I xs.length s → Q (k s)) : Q (M.seqT (forF f xs s0 : M (Fl S L R)) k) := by
  obtain ⟨s', h1, h2⟩ := forF_invN (L := L) I h0 h
  rw [h1]
  exact hk s' h2
theorem seqT_forI {Q : M R → Prop} {f : α → S → M (Fl S S R)} {k : S → M R} (I : S → Prop) (h0 : I s0) (h : ∀ x ∈ xs, ∀ s, I s → ∃ s', (f x s = .ok (.nx s') ∨ f x s = .ok (.ct s')) ∧ I s') (hk : ∀ s, I s → Q (k s)) : Q (M.seqT (forF f xs s0 : M (Fl S L R)) k) := by
  obtain ⟨s', h1, h2⟩ := forF_inv (L := L) (I := I) h0 h
  rw [h1]
  exact hk s' h2
theorem seq_forI {L' S' : Type} {Q : M (Fl S' L R) → Prop} {f : α → S → M (Fl S S R)} {k : S → M (Fl S' L R)} (I : S → Prop) (h0 : I s0) (h : ∀ x ∈ xs, ∀ s, I s → ∃ s', (f x s = .ok (.nx s') ∨ f x s = .ok (.ct s')) ∧ I s') (hk : ∀ s, I s → Q (k s)) : Q (M.seq (forF f xs s0 : M (Fl S L R)) k) := by
  obtain ⟨s', h1, h2⟩ := forF_inv (L := L) (I := I) h0 h
  rw [h1]
  exact hk s' h2
end
/-- the first turn that leaves the def -/
theorem forF_rt {f : α → S → M (Fl S S R)} {r : R} : ∀ (pre : List α) {x : α} {suf : List α} (st : Nat → S), (∀ i (h : i < pre.length), f pre[i] (st i) = .ok (.nx (st (i + 1)))) → f x (st pre.length) = .ok (.rt r) → (forF f (pre ++ x :: suf) (st 0) : M (Fl S L R)) = .ok (.rt r)
  | [], x, suf, st, _, h => by
    show (forF f (x :: suf) (st 0) : M (Fl S L R)) = _
    unfold forF
    rw [show f x (st 0) = _ from h]
  | y :: pre, x, suf, st, k, h => by
    show (forF f (y :: (pre ++ x :: suf)) (st 0) : M (Fl S L R)) = _
    unfold forF
    rw [show f y (st 0) = .ok (.nx (st 1)) from k 0 (Nat.succ_pos _)]
    exact forF_rt pre (fun i => st (i + 1)) (fun i hi => k (i + 1) (Nat.succ_lt_succ hi)) h
theorem whileM_le {c : S → M Bool} {f : S → M S} : ∀ {n m : Nat} {s s' : S}, whileM c f n s = .ok s' → n ≤ m → whileM c f m s = .ok s'
  | 0, _, _, _, h, _ => by unfold whileM at h; cases h
  | n + 1, 0, _, _, _, hm => by omega
  | n + 1, m + 1, s, s', h, hm => by
    unfold whileM at h ⊢
    cases ec : c s with
    | ok b =>
      rw [ec] at h
      cases b with
      | false => exact h
      | true =>
        cases ef : f s with
        | ok s1 =>
          simp only [M.bind_ok, ↓reduceIte, ef] at h ⊢
          exact whileM_le h (Nat.le_of_succ_le_succ hm)
        | ex n => simp [ef] at h
        | far => simp [ef] at h
    | ex n => rw [ec] at h; cases h
    | far => rw [ec] at h; cases h
theorem whileM_done {c : S → M Bool} {f : S → M S} {n : Nat} {s : S} (h : c s = .ok false) : whileM c f (n + 1) s = .ok s := by unfold whileM; rw [h]; rfl
theorem whileM_turn {c : S → M Bool} {f : S → M S} {n : Nat} {s s' : S} (h : c s = .ok true) (h2 : f s = .ok s') : whileM c f (n + 1) s = whileM c f n s' := by
  conv => lhs; unfold whileM
  rw [h, M.bind_ok, if_pos rfl, h2, M.bind_ok]
/-- a while by a measure -/
theorem whileM_by {c : S → M Bool} {f : S → M S} {I : S → Prop} (μ : S → Nat) (h : ∀ s, I s → (c s = .ok false) ∨ (c s = .ok true ∧ ∃ s', f s = .ok s' ∧ I s' ∧ μ s' < μ s)) : ∀ (n : Nat) {s : S}, I s → μ s < n → ∃ s', whileM c f n s = .ok s' ∧ I s' ∧ c s' = .ok false
  | 0, _, _, hn => by omega
  | n + 1, s, hI, hn => by
    rcases h s hI with h0 | ⟨h1, s1, h2, h3, h4⟩
    · exact ⟨s, whileM_done h0, hI, h0⟩
    · rw [whileM_turn h1 h2]
      exact whileM_by μ h n h3 (by omega)
variable {Q : M β → Prop} {s0 : S}
theorem bind_while {c : S → M Bool} {f : S → M S} {n : Nat} {k : S → M β} (I : S → Prop) (μ : S → Nat) (h0 : I s0) (hn : μ s0 < n) (h : ∀ s, I s → (c s = .ok false) ∨ (c s = .ok true ∧ ∃ s', f s = .ok s' ∧ I s' ∧ μ s' < μ s)) (hk : ∀ s, I s → c s = .ok false → Q (k s)) : Q (M.bind (whileM c f n s0) k) := by
  obtain ⟨s', h1, h2, h3⟩ := whileM_by (I := I) μ h n h0 hn
  rw [h1]
  exact hk s' h2 h3
theorem compM_map {f : α → M Bool} {g : α → M β} {k : α → β} : ∀ {xs : List α}, (∀ x ∈ xs, f x = .ok true) → (∀ x ∈ xs, g x = .ok (k x)) → compM f g xs = .ok (xs.map k)
  | [], _, _ => rfl
  | x :: xs, h1, h2 => by
    unfold compM
    rw [h1 x List.mem_cons_self, M.bind_ok, if_pos rfl, h2 x List.mem_cons_self, M.bind_ok, compM_map (fun y hy => h1 y (List.mem_cons_of_mem _ hy)) (fun y hy => h2 y (List.mem_cons_of_mem _ hy))]
    rfl
theorem compM_filter {f : α → M Bool} {g : α → M β} {p : α → Bool} {k : α → β} : ∀ {xs : List α}, (∀ x ∈ xs, f x = .ok (p x)) → (∀ x ∈ xs, p x = true → g x = .ok (k x)) → compM f g xs = .ok ((xs.filter p).map k)
  | [], _, _ => rfl
  | x :: xs, h1, h2 => by
    unfold compM
    have ih := compM_filter (f := f) (g := g) (p := p) (k := k) (xs := xs) (fun y hy => h1 y (List.mem_cons_of_mem _ hy)) (fun y hy => h2 y (List.mem_cons_of_mem _ hy))
    rw [h1 x List.mem_cons_self, M.bind_ok]
    cases e : p x with
    | true => rw [if_pos rfl, h2 x List.mem_cons_self e, M.bind_ok, ih, List.filter_cons, if_pos e]; rfl
    | false => rw [if_neg (by decide), ih, List.filter_cons, if_neg (by rw [e]; decide)]
end
/-! ### items -/
theorem atI_n {α : Type} {l : List α} {i : Nat} (h : i < l.length) : atI l (i : Int) = some l[i] := by
  have := atI_nat (xs := l) (j := i) (v := l[i]) (by rw [List.getElem?_eq_getElem h])
  exact this
theorem atI_i {α : Type} {l : List α} {i : Int} (h0 : 0 ≤ i) (h : i.toNat < l.length) : atI l i = some l[i.toNat] := by
  have := atI_n h
  rwa [Int.toNat_of_nonneg h0] at this
theorem atI_neg {α : Type} {l : List α} {k : Nat} (h0 : 0 < k) (h : k ≤ l.length) : atI l (-(k : Int)) = some (l[l.length - k]'(by omega)) := by
  unfold atI ixN
  rw [if_neg (by omega), if_pos (by omega)]
  show l[(-(k : Int) + (l.length : Int)).toNat]? = _
  rw [show (-(k : Int) + (l.length : Int)).toNat = l.length - k by omega, List.getElem?_eq_getElem]
theorem setI_n {α : Type} {l : List α} {i : Nat} {v : α} (h : i < l.length) : setI l (i : Int) v = some (l.set i v) := by
  unfold setI ixN
  rw [if_pos (by omega), if_pos (by omega), Int.toNat_natCast]
  rfl
theorem cut_map2 {α β : Type} (f : α → β) (l : List α) (lo hi : Option Int) : cut (l.map f) lo hi = (cut l lo hi).map f := cutm f l lo hi
theorem cut_len2 {α : Type} (l : List α) (lo hi : Option Int) : (cut l lo hi).length ≤ l.length := by
  unfold cut
  rw [List.length_take, List.length_drop]; omega
theorem cut_len3 {α : Type} (l : List α) {i j : Nat} : (cut l (some (i : Int)) (some (j : Int))).length ≤ j - i := by
  have := cut_mid (l := l) (i := (i : Int)) (j := (j : Int)) (by omega) (by omega)
  rw [this]
  simp
  omega
theorem cut_mem {α : Type} {l : List α} {lo hi : Option Int} {x : α} (h : x ∈ cut l lo hi) : x ∈ l := List.mem_of_mem_drop (List.mem_of_mem_take h)
end B

namespace B
open PySem PySem.Spec PyProof.Rows L2
/-! ### try: f(..) except C as e: suite -/
def lookM {S : Type} (n : Str) : List (Str × M S) → M S
  | [] => .far
  | p :: r => if n = p.1 then p.2.nox else lookM n r
def tryM {β S : Type} (mb : M β) (s0 : S) (hs : List (Str × M S)) : M S := match mb with
  | .ok _ => .ok s0
  | .ex n => lookM n hs
  | .far => .far
@[simp] theorem tryM_ok {β S : Type} (b : β) (s0 : S) (hs : List (Str × M S)) : tryM (M.ok b) s0 hs = .ok s0 := id rfl
@[simp] theorem tryM_ex {β S : Type} (n : Str) (s0 : S) (hs : List (Str × M S)) : tryM (M.ex n : M β) s0 hs = lookM n hs := id rfl
theorem lookM_here {S : Type} {n : Str} {h : M S} {r : List (Str × M S)} : lookM n ((n, h) :: r) = h.nox := if_pos rfl
theorem lookM_next {S : Type} {n n' : Str} {h : M S} {r : List (Str × M S)} (q : n ≠ n') : lookM n ((n', h) :: r) = lookM n r := if_neg q
def AllH {S : Type} (P : Str → M S → Prop) : List (Str × M S) → Prop
  | [] => True
  | p :: r => P p.1 p.2 ∧ AllH P r
section
variable {X : Cx} {H0 : Hp} {ρ ρ0 ρ1 ρ2 : Env'} {α β γ S S' L R : Type} {a b c e call : Expr} {es : List Expr} {st : Stmt} {sts rest body : List Stmt} {d d1 d2 : Dat} {ds : List Dat} {p pos : Pos} {o o1 : Outc} {x n : Str} {k : Nat} {D : γ → Outc} {m : M α} {en : α → Dat}
theorem xm_try1 {mb : M β} {eb : β → Dat} {s0 : S} {hs : List (Str × M S)} {eS : S → Env'} {f : S → M γ} {c : Value} {suite : List Stmt} {b₀ : Stmt} {np pos pos' pos'' : Pos} (i : Nat) (is : List Nat)
    (hst : X.stack = X.env :: X.outer) (hfr : X.env.frame = some X.env.locals) (nd : X.N.Nodup) (hc : Names X x c)
    (hb : ∀ (pn : List (Addr × Obj)) (xe : Value → Shared → Prop), PassesOwn (model X.prog X.w) X.A X.env xe → EvM (X.tr pn xe) H0 ρ call eb mb)
    (hok : eS s0 = drops ρ is)
    (hh : AllH (fun n h => (∀ C, X.mg n = some (.ref C) → PySem.W.exmOne X.K (.ref C) c = some true) ∧ ∀ (a C : Addr) (oe : Obj) (pn : List (Addr × Obj)), X.mg n = some (.ref C) → Zc (.ref C) none oe → (∃ vs, oe.data = .fields vs) → ExM (X.suite a ((a, oe) :: pn)) H0 (ρ.set i (.rf a)) k (b₀ :: suite) (fun s => .nx (eS s)) h) hs)
    (hno : ∀ s, (eS s).set i .no = eS s) (tt : ∀ s, ExM X H0 (eS s) k rest D (f s)) (hi : X.N[i]? = some n := by rfl) (hln : X.env.kindOf n = some .local := by rfl)
    (hsw : ∀ pn xe, swapsWith call none pos.line (X.tr pn xe).env = pure false := by intro _ _; rfl) :
    ExM X H0 ρ k (.Try [.Expr call pos] [.ExceptHandler (some (.Name x np)) (some n) (b₀ :: suite) pos'] [] [] pos'' :: rest) D (M.bind (tryM mb s0 hs) f) := by
  cases mb with
  | ok r =>
    have h1 : ExS X H0 ρ (.Try [.Expr call pos] [.ExceptHandler (some (.Name x np)) (some n) (b₀ :: suite) pos'] [] [] pos'') (.nx (eS s0)) :=
      sx_tryN (i := i) hst hfr nd hc (fun pn xe hp => ex_then (sx_expr (hb pn xe hp) (hsw pn xe)) (hok ▸ ex_drops is ex_nil)) (ho := trivial) (hi := hi) (hln := hln)
    exact xm_then h1 (tt s0)
  | ex n' =>
    show ExM X H0 ρ k _ D (M.bind (lookM n' hs) f)
    induction hs with
    | nil => trivial
    | cons q r ih =>
      obtain ⟨⟨he, h1⟩, h2⟩ := hh
      unfold lookM
      by_cases e : n' = q.1
      · rw [if_pos e]
        subst e
        cases eh : q.2 with
        | ok s =>
          have h3 : ExS X H0 ρ (.Try [.Expr call pos] [.ExceptHandler (some (.Name x np)) (some n) (b₀ :: suite) pos'] [] [] pos'') (Outc.un i (.nx (eS s))) :=
            sx_try (i := i) (m := q.1) (ρ1 := ρ) hst hfr nd hc he (fun pn xe hp => ex_one (sx_exprX (hb pn xe hp) (hsw pn xe))) (fun a C oe pn hC hz hf => by
              have := h1 a C oe pn hC hz hf
              rw [eh] at this
              exact this) trivial hi hln
          have h4 : Outc.un i (.nx (eS s)) = .nx (eS s) := by
            show Outc.nx ((eS s).set i .no) = _
            rw [hno s]
          rw [h4] at h3
          exact xm_then h3 (tt s)
        | ex _ => trivial
        | far => trivial
      · rw [if_neg e]
        exact ih h2
  | far => trivial
/-! ### an item of an owned list -/
theorem ev_ixLw {l : List α} {i : Int} {r : α} (j : Nat) {y : Str} {p1 : Pos} (hi : ρ[j]? = some (.ow (lstd en l))) (hb : Ev X H0 ρ b (.int i)) (q : atI l i = some r) (hs : PlainIx b := by exact fun _ _ => rfl) (hN : X.N[j]? = some y := by rfl) (hv : Vis X.env.scope y := by first | exact Or.inl rfl | exact Or.inr (Or.inl rfl) | exact Or.inr (Or.inr rfl))
    (hd : (y == ("__debug__" : Str)) = false := by decide) (hcd : (y == ("__classdict__" : Str)) = false := by decide) : Ev X H0 ρ (.Subscript (.Name y p1) b pos) (en r) := fun σ H N rp => by
  obtain ⟨q0, g1, g2, g3, us, g4, g5⟩ := rp.ow j _ hi
  refine we_of (pe_ix ix_list (pv j hN hv hd hcd) pe_w hs) ⟨_, g1, (hb σ H N rp).imp fun w H2 ⟨N2, s2, n2, r2, a2⟩ => ?_⟩
  obtain ⟨v, e1, e2⟩ := atI_ats (g5.mono n2) (atIm en l i q)
  exact ⟨q0, us, i, v, rfl, at_int a2, .inl (.inl (s2 _ _ g4)), e1, N2, s2, n2, r2, e2⟩
/-! ### is of truths -/
theorem ev_isB {u v : Bool} (ha : Ev X H0 ρ a (.bl u)) (hb : Ev X H0 ρ b (.bl v)) : Ev X H0 ρ (.Compare a [.Is] [b] pos) (.bl (decide (u = v))) :=
  ev_bin (fun _ _ h k => pe_cmpR op_isBl h k (nomark _)) ha.toB hb.toB fun x y σ H N Q r p q g => ⟨u, v, at_bl p, at_bl q, goes_self g r (.bl _)⟩
theorem ev_isnotB {u v : Bool} (ha : Ev X H0 ρ a (.bl u)) (hb : Ev X H0 ρ b (.bl v)) : Ev X H0 ρ (.Compare a [.IsNot] [b] pos) (.bl (!decide (u = v))) :=
  ev_bin (fun _ _ h k => pe_cmpR op_notBl h k (nomark _)) ha.toB hb.toB fun x y σ H N Q r p q g => ⟨u, v, at_bl p, at_bl q, goes_self g r (.bl _)⟩
theorem et_isB {u v : Bool} (ha : Ev X H0 ρ a (.bl u)) (hb : Ev X H0 ρ b (.bl v)) : EvT X H0 ρ (.Compare a [.Is] [b] pos) (decide (u = v)) :=
  evt_bin (fun _ _ h k => pt_cmpR op_isBl h k (nomark _)) ha.toB hb.toB fun x y σ H N Q r p q g => ⟨u, v, at_bl p, at_bl q, goes_self g r (.bl _)⟩
theorem et_isnotB {u v : Bool} (ha : Ev X H0 ρ a (.bl u)) (hb : Ev X H0 ρ b (.bl v)) : EvT X H0 ρ (.Compare a [.IsNot] [b] pos) (!decide (u = v)) :=
  evt_bin (fun _ _ h k => pt_cmpR op_notBl h k (nomark _)) ha.toB hb.toB fun x y σ H N Q r p q g => ⟨u, v, at_bl p, at_bl q, goes_self g r (.bl _)⟩
/-! ### list of a text; tuples of lists -/
end
end B

namespace B
open PySem PySem.Spec PyProof.Rows L2
section
variable {α : Type}
/-! ### dicts whose keys are texts -/
def dget (l : List (List Nat × α)) (k : List Nat) : Option α := (l.find? fun p => decide (p.1 = k)).map (·.2)
def dhas (l : List (List Nat × α)) (k : List Nat) : Bool := (dget l k).isSome
def dput (l : List (List Nat × α)) (k : List Nat) (v : α) : List (List Nat × α) := if (l.any fun p => decide (p.1 = k)) = true then l.map (fun p => if p.1 = k then (p.1, v) else p) else l ++ [(k, v)]
abbrev dm (e : α → Dat) (l : List (List Nat × α)) : List (Key × Dat) := l.map fun p => (Sum.inr (SX.S p.1), e p.2)
theorem keq {a b : List Nat} : ((Sum.inr (SX.S a) : Key) = Sum.inr (SX.S b)) ↔ a = b := ⟨fun h => SX.S_inj (Sum.inr.inj h), fun h => by rw [h]⟩
theorem dget_cons {p : List Nat × α} {l : List (List Nat × α)} {k : List Nat} : dget (p :: l) k = if p.1 = k then some p.2 else dget l k := by
  unfold dget
  rw [List.find?_cons]
  by_cases h : p.1 = k <;> simp [h]
theorem atk_get {K : PySem.W.Frag} {H : Hp} {e : α → Dat} : ∀ {l : List (List Nat × α)} {vs : List (Key × V)}, Atk K H vs (dm e l) → ∀ k : List Nat, (∀ v, dget l k = some v → ∃ w, valV vs (Sum.inr (SX.S k) : Key) = some w ∧ At K H w (e v)) ∧ (dget l k = none → valV vs (Sum.inr (SX.S k) : Key) = none)
  | [], vs, h, k => by
    cases h
    exact ⟨fun v q => (by cases q), fun _ => rfl⟩
  | p :: l, vs, h, k => by
    cases h with
    | @cons _ v _ vs _ ha ht =>
      obtain ⟨i1, i2⟩ := atk_get ht k
      rw [dget_cons]
      by_cases e1 : p.1 = k
      · rw [if_pos e1]
        refine ⟨fun v q => ?_, fun q => (by cases q)⟩
        cases q
        exact ⟨_, valV_pos (by exact keq.mpr e1), ha⟩
      · rw [if_neg e1]
        have n1 : ¬ (Sum.inr (SX.S p.1) : Key) = Sum.inr (SX.S k) := fun z => e1 (keq.mp z)
        refine ⟨fun v q => ?_, fun q => ?_⟩
        · rw [valV_neg (by exact n1)]; exact i1 v q
        · rw [valV_neg (by exact n1)]; exact i2 q
theorem atk_any {K : PySem.W.Frag} {H : Hp} {e : α → Dat} : ∀ {l : List (List Nat × α)} {vs : List (Key × V)}, Atk K H vs (dm e l) → ∀ k : List Nat, (vs.any fun kv => decide (kv.1 = (Sum.inr (SX.S k) : Key))) = l.any fun p => decide (p.1 = k)
  | [], vs, h, k => by cases h; rfl
  | p :: l, vs, h, k => by
    cases h with
    | cons ha ht =>
      rw [List.any_cons, List.any_cons, atk_any ht k]
      congr 1
      exact decide_eq_decide.mpr keq
theorem atk_len {K : PySem.W.Frag} {H : Hp} : ∀ {ds : List (Key × Dat)} {vs : List (Key × V)}, Atk K H vs ds → vs.length = ds.length
  | _, _, .nil => rfl
  | _, _, .cons _ t => congrArg (· + 1) (atk_len t)
theorem atk_append {K : PySem.W.Frag} {H : Hp} : ∀ {ds es : List (Key × Dat)} {vs us : List (Key × V)}, Atk K H vs ds → Atk K H us es → Atk K H (vs ++ us) (ds ++ es)
  | _, _, _, _, .nil, h => h
  | _, _, _, _, .cons a t, h => .cons a (atk_append t h)
theorem atk_repl {K : PySem.W.Frag} {H : Hp} {e : α → Dat} {k : List Nat} {w : V} {v : α} (hw : At K H w (e v)) : ∀ {l : List (List Nat × α)} {vs : List (Key × V)}, Atk K H vs (dm e l) → Atk K H (vs.map fun kv => if kv.1 = (Sum.inr (SX.S k) : Key) then (kv.1, w) else kv) (dm e (l.map fun p => if p.1 = k then (p.1, v) else p))
  | [], vs, h => by cases h; exact .nil
  | p :: l, vs, h => by
    cases h with
    | @cons _ u _ vs _ ha ht =>
      have ih := atk_repl (k := k) hw ht
      show Atk K H ((if (Sum.inr (SX.S p.1) : Key) = Sum.inr (SX.S k) then ((Sum.inr (SX.S p.1) : Key), w) else (Sum.inr (SX.S p.1), u)) :: _) ((Sum.inr (SX.S (if p.1 = k then (p.1, v) else p).1), e (if p.1 = k then (p.1, v) else p).2) :: dm e (l.map fun p => if p.1 = k then (p.1, v) else p))
      by_cases e1 : p.1 = k
      · rw [if_pos (keq.mpr e1), if_pos e1]
        exact .cons hw ih
      · rw [if_neg (fun z => e1 (keq.mp z)), if_neg e1]
        exact .cons ha ih
theorem atk_put {K : PySem.W.Frag} {H : Hp} {e : α → Dat} {l : List (List Nat × α)} {vs : List (Key × V)} (h : Atk K H vs (dm e l)) (k : List Nat) {w : V} {v : α} (hw : At K H w (e v)) : Atk K H (putK vs (Sum.inr (SX.S k) : Key) w) (dm e (dput l k v)) := by
  unfold putK dput
  rw [atk_any h k]
  split
  · exact atk_repl hw h
  · rw [dm, List.map_append]
    exact atk_append h (.cons hw .nil)
end
section
variable {X : Cx} {H0 : Hp} {ρ ρ0 ρ1 ρ2 : Env'} {α β γ S S' L R : Type} {a b c e call : Expr} {es : List Expr} {st : Stmt} {sts rest body : List Stmt} {d d1 d2 : Dat} {ds : List Dat} {p pos : Pos} {o o1 : Outc} {x n : Str} {k : Nat} {D : γ → Outc} {m : M α} {en : α → Dat} {l : List (List Nat × α)} {key : List Nat}
theorem at_dic {K : PySem.W.Frag} {H : Hp} {v : V} {ds : List (Key × Dat)} (h : At K H v (.dic ds)) : ∃ p vs, v = .ref p ∧ Rd H p (.dK vs) ∧ Atk K H vs ds := by cases h with | dic a b => exact ⟨_, _, rfl, a, b⟩
theorem rd_mono {H H' : Hp} {p : Addr} {u : HO} (s : Same H H') (h : Rd H p u) : Rd H' p u := rd_same s h
theorem dget_of {K : PySem.W.Frag} {H : Hp} {q : Addr} {vs : List (Key × V)} {y : V} (hr : Rd H q (.dK vs)) (ha : Atk K H vs (dm en l)) (hy : y = .str (SX.S key)) : ∃ o, DGet H q y o ∧ (∀ v, dget l key = some v → ∃ w, o = some w ∧ At K H w (en v)) ∧ (dget l key = none → o = none) := by
  subst hy
  obtain ⟨i1, i2⟩ := atk_get ha key
  exact ⟨_, .inl ⟨vs, Sum.inr (SX.S key), hr, rfl, rfl⟩, i1, i2⟩
theorem eb_dgetm {v : α} (ha : EvB X H0 ρ a (dicd en l)) (hb : Ev X H0 ρ b (tx key)) (h : dget l key = some v) (hu : X.A.units + 1 < cLine) (hs : NoSl b := by exact fun _ _ => rfl) : EvB X H0 ρ (.Subscript a b pos) (en v) := fun σ H N rp =>
  we_of (pe_dget hu pe_w pe_w hs) ((ha σ H N rp).imp fun u H1 ⟨N1, s1, n1, r1, a1⟩ => (hb σ H1 N1 r1).imp fun y H2 ⟨N2, s2, n2, r2, a2⟩ => by
    obtain ⟨q, vs, e1, h1, h2⟩ := at_dic (a1.mono s2)
    obtain ⟨o, g1, g2, _⟩ := dget_of h1 h2 (at_str a2)
    obtain ⟨w, rfl, g3⟩ := g2 v h
    exact ⟨q, w, e1, g1, N2, s1.trans s2, n1.trans n2, r2, g3⟩)
theorem ev_dgetm {v : α} (ha : Ev X H0 ρ a (dicd en l)) (hb : Ev X H0 ρ b (tx key)) (h : dget l key = some v) (hu : X.A.units + 1 < cLine) (hs : NoSl b := by exact fun _ _ => rfl) : Ev X H0 ρ (.Subscript a b pos) (en v) := fun σ H N rp =>
  we_of (pe_dget hu pe_w pe_w hs) ((ha σ H N rp).imp fun u H1 ⟨N1, s1, n1, r1, a1⟩ => (hb σ H1 N1 r1).imp fun y H2 ⟨N2, s2, n2, r2, a2⟩ => by
    obtain ⟨q, vs, e1, h1, h2⟩ := at_dic (a1.mono n2)
    obtain ⟨o, g1, g2, _⟩ := dget_of h1 h2 (at_str a2)
    obtain ⟨w, rfl, g3⟩ := g2 v h
    refine ⟨q, w, e1, ?_, N2, s1.trans s2, n1.trans n2, r2, g3⟩
    rcases g1 with ⟨kvs, k', q1, q2⟩ | ⟨kvs, k', b', q1, q2, q3, q4⟩
    · exact .inl ⟨kvs, k', rd_mono r2.sub q1, q2⟩
    · exact .inr ⟨kvs, k', b', rd_mono r2.sub q1, q2, r2.sub _ _ q3, q4⟩)
section
variable (i : Nat) {y : Str} {p1 : Pos} (hi : ρ[i]? = some (.ow (dicd en l)))
theorem ev_dgetw {v : α} (hb : Ev X H0 ρ b (tx key)) (h : dget l key = some v) (hu : X.A.units + 1 < cLine) (hs : NoSl b := by exact fun _ _ => rfl) (hN : X.N[i]? = some y := by rfl) (hv : Vis X.env.scope y := by first | exact Or.inl rfl | exact Or.inr (Or.inl rfl) | exact Or.inr (Or.inr rfl))
    (hd : (y == ("__debug__" : Str)) = false := by decide) (hcd : (y == ("__classdict__" : Str)) = false := by decide) (hi : ρ[i]? = some (.ow (dicd en l)) := by rfl) : Ev X H0 ρ (.Subscript (.Name y p1) b pos) (en v) := fun σ H N rp => by
  obtain ⟨q, g1, g2, g3, vs, g4, g5⟩ := rp.ow i _ hi
  refine we_of (pe_dget hu (pv i hN hv hd hcd) pe_w hs) ⟨_, g1, (hb σ H N rp).imp fun w H2 ⟨N2, s2, n2, r2, a2⟩ => ?_⟩
  obtain ⟨q', f1, f2, f3, us, f4, f5⟩ := r2.ow i _ hi
  rw [g1] at f1
  cases f1
  have h5 := at_str a2
  subst h5
  obtain ⟨i1, _⟩ := atk_get f5 key
  obtain ⟨z, z1, z2⟩ := i1 v h
  exact ⟨q, z, rfl, .inl ⟨us, Sum.inr (SX.S key), .inl f4, rfl, z1.symm⟩, N2, s2, n2, r2, z2⟩
theorem ev_dget2w {u : α} (hb : Ev X H0 ρ b (tx key)) (hc : Ev X H0 ρ c (en u)) (hu : X.A.units + 1 < cLine) {apos : Pos} (hm : M2 X (.Name y p1) "get" apos b c pos := by exact ⟨rfl, rfl, rfl, rfl⟩) (hN : X.N[i]? = some y := by rfl) (hv : Vis X.env.scope y := by first | exact Or.inl rfl | exact Or.inr (Or.inl rfl) | exact Or.inr (Or.inr rfl))
    (hd : (y == ("__debug__" : Str)) = false := by decide) (hcd : (y == ("__classdict__" : Str)) = false := by decide) (hi : ρ[i]? = some (.ow (dicd en l)) := by rfl) : Ev X H0 ρ (.Call (.Attribute (.Name y p1) "get" apos) [b, c] [] pos) (en ((dget l key).getD u)) := fun σ H N rp => by
  obtain ⟨q, g1, g2, g3, vs, g4, g5⟩ := rp.ow i _ hi
  refine we_of (pe_dget2 hu (pv i hN hv hd hcd) pe_w pe_w hm) ⟨_, g1, q, rfl, .inl ⟨vs, .inl g4⟩, (hb σ H N rp).imp fun w H2 ⟨N2, s2, n2, r2, a2⟩ => (hc σ H2 N2 r2).imp fun z H3 ⟨N3, s3, n3, r3, a3⟩ => ?_⟩
  obtain ⟨q', f1, f2, f3, us, f4, f5⟩ := r3.ow i _ hi
  rw [g1] at f1
  cases f1
  have h5 := at_str a2
  subst h5
  obtain ⟨i1, i2⟩ := atk_get f5 key
  refine ⟨_, .inl ⟨us, Sum.inr (SX.S key), .inl f4, rfl, rfl⟩, N3, s2.trans s3, n2.trans n3, r3, ?_⟩
  cases e : dget l key with
  | none => rw [i2 e]; exact a3
  | some v =>
    obtain ⟨z, z1, z2⟩ := i1 v e
    rw [z1]; exact z2
theorem xm_dput {v : α} {f : List (List Nat × α) → M γ} {p2 : Pos} (he : Ev X H0 ρ e (en v)) (hb : Ev X H0 ρ b (tx key)) (hz : lenLt l = true) (hu : X.A.units + 1 < cLine) (tt : ∀ l, ExM X H0 (ρ.set i (.ow (dicd en l))) k rest D (f l)) (hN : X.N[i]? = some y := by rfl) (hv : Vis X.env.scope y := by first | exact Or.inl rfl | exact Or.inr (Or.inl rfl) | exact Or.inr (Or.inr rfl))
    (hd : (y == ("__debug__" : Str)) = false := by decide) (hcd : (y == ("__classdict__" : Str)) = false := by decide) (hi : ρ[i]? = some (.ow (dicd en l)) := by rfl)
    (hs : swapsWith e (some (.Subscript (.Name y p1) b p2)) pos.line X.env = pure false := by rfl) : ExM X H0 ρ k (.Assign [.Subscript (.Name y p1) b p2] e pos :: rest) D (M.lt (dput l key v) f) := by
  refine xm_then (ρ1 := ρ.set i (.ow (dicd en (dput l key v)))) (fun Dd σ H N r kk => ?_) (tt (dput l key v))
  refine ws_of (ps_dput hu (pv i hN hv hd hcd) pe_w pe_w hs) ((he σ H N r).imp fun w H1 ⟨N1, s1, n1, r1, a1⟩ => ?_)
  obtain ⟨q, g1, g2, g3, vs, g4, g5⟩ := r1.ow i _ hi
  refine ⟨_, g1, (hb σ H1 N1 r1).imp fun z H2 ⟨N2, s2, n2, r2, a2⟩ => ?_⟩
  obtain ⟨q', f1, f2, f3, us, f4, f5⟩ := r2.ow i _ hi
  rw [g1] at f1
  cases f1
  have h5 := at_str a2
  subst h5
  refine ⟨q, _, rfl, .inl ⟨us, Sum.inr (SX.S key), f4, rfl, ?_, rfl⟩, kk σ _ N2 (n1.trans n2) ?_⟩
  · rw [atk_len f5, List.length_map]; exact lenLt_ok hz
  · exact r2.write hi g1 ⟨_, upd_same, atk_put f5 key (a1.mono n2)⟩
end
theorem ev_inKm (hb : Ev X H0 ρ b (tx key)) (ha : EvB X H0 ρ a (dicd en l)) (hu : X.A.units + 1 < cLine) (hm : behindInMarks .In a = false := by rfl) : Ev X H0 ρ (.Compare b [.In] [a] pos) (.bl (dhas l key)) := fun σ H N rp =>
  we_of (pe_cmp (pc_din hu pe_w pe_w) hm) ((hb σ H N rp).imp fun y H1 ⟨N1, s1, n1, r1, a1⟩ => (ha σ H1 N1 r1).imp fun u H2 ⟨N2, s2, n2, r2, a2⟩ => by
    obtain ⟨q, vs, e1, h1, h2⟩ := at_dic a2
    obtain ⟨o, g1, g2, g3⟩ := dget_of h1 h2 (at_str a1)
    refine ⟨q, o, e1, g1, N2, s1.trans s2, n1.trans n2, r2, ?_⟩
    have : o.isSome = dhas l key := by
      unfold dhas
      cases e : dget l key with
      | none => rw [g3 e]; rfl
      | some v => obtain ⟨w, rfl, _⟩ := g2 v e; rfl
    rw [this]
    exact .bl _)
theorem ev_ninKm (hb : Ev X H0 ρ b (tx key)) (ha : EvB X H0 ρ a (dicd en l)) (hu : X.A.units + 1 < cLine) (hm : behindInMarks .NotIn a = false := by rfl) : Ev X H0 ρ (.Compare b [.NotIn] [a] pos) (.bl (!dhas l key)) := fun σ H N rp =>
  we_of (pe_cmp (pc_dnotin hu pe_w pe_w) hm) ((hb σ H N rp).imp fun y H1 ⟨N1, s1, n1, r1, a1⟩ => (ha σ H1 N1 r1).imp fun u H2 ⟨N2, s2, n2, r2, a2⟩ => by
    obtain ⟨q, vs, e1, h1, h2⟩ := at_dic a2
    obtain ⟨o, g1, g2, g3⟩ := dget_of h1 h2 (at_str a1)
    refine ⟨q, o, e1, g1, N2, s1.trans s2, n1.trans n2, r2, ?_⟩
    have : o.isSome = dhas l key := by
      unfold dhas
      cases e : dget l key with
      | none => rw [g3 e]; rfl
      | some v => obtain ⟨w, rfl, _⟩ := g2 v e; rfl
    rw [this]
    exact .bl _)
theorem et_inKm (hb : Ev X H0 ρ b (tx key)) (ha : EvB X H0 ρ a (dicd en l)) (hu : X.A.units + 1 < cLine) (hm : behindInMarks .In a = false := by rfl) : EvT X H0 ρ (.Compare b [.In] [a] pos) (dhas l key) := fun σ H N rp =>
  wt_of (pt_cmp (pc_din hu pe_w pe_w) hm) ((hb σ H N rp).imp fun y H1 ⟨N1, s1, n1, r1, a1⟩ => (ha σ H1 N1 r1).imp fun u H2 ⟨N2, s2, n2, r2, a2⟩ => by
    obtain ⟨q, vs, e1, h1, h2⟩ := at_dic a2
    obtain ⟨o, g1, g2, g3⟩ := dget_of h1 h2 (at_str a1)
    have : o.isSome = dhas l key := by
      unfold dhas
      cases e : dget l key with
      | none => rw [g3 e]; rfl
      | some v => obtain ⟨w, rfl, _⟩ := g2 v e; rfl
    exact ⟨q, o, e1, g1, _, rfl, by rw [this], N2, s1.trans s2, n1.trans n2, r2⟩)
theorem et_ninKm (hb : Ev X H0 ρ b (tx key)) (ha : EvB X H0 ρ a (dicd en l)) (hu : X.A.units + 1 < cLine) (hm : behindInMarks .NotIn a = false := by rfl) : EvT X H0 ρ (.Compare b [.NotIn] [a] pos) (!dhas l key) := fun σ H N rp =>
  wt_of (pt_cmp (pc_dnotin hu pe_w pe_w) hm) ((hb σ H N rp).imp fun y H1 ⟨N1, s1, n1, r1, a1⟩ => (ha σ H1 N1 r1).imp fun u H2 ⟨N2, s2, n2, r2, a2⟩ => by
    obtain ⟨q, vs, e1, h1, h2⟩ := at_dic a2
    obtain ⟨o, g1, g2, g3⟩ := dget_of h1 h2 (at_str a1)
    have : o.isSome = dhas l key := by
      unfold dhas
      cases e : dget l key with
      | none => rw [g3 e]; rfl
      | some v => obtain ⟨w, rfl, _⟩ := g2 v e; rfl
    exact ⟨q, o, e1, g1, _, rfl, by rw [this], N2, s1.trans s2, n1.trans n2, r2⟩)
/-- list(d): the keys -/
theorem atk_keys {K : PySem.W.Frag} {H N : Hp} : ∀ {l : List (List Nat × α)} {vs : List (Key × V)}, Atk K H vs (dm en l) → Ats K N (vs.map fun kv => kV kv.1) ((l.map (·.1)).map tx)
  | [], _, h => by cases h; exact .nil
  | p :: l, _, h => by
    cases h with
    | cons a t => exact .cons (.str _) (atk_keys t)
theorem eo_listDm (ha : EvB X H0 ρ a (dicd en l)) (hc : X.calm = true) (hm : X.mg "list" = none) (hg : Gl X "list" := by rfl) (he : starEach [a] X.env = (false, eval a X.env) :: starEach [] X.env := by rfl) (hpl : (backTo pos (starEach [] X.env)).any (·.1) = false := by rfl) :
    EvO X H0 ρ (.Call (.Name "list" p) [a] [] pos) (lstd tx (l.map (·.1))) := fun σ H N rp =>
  we_of (pe_callTy (call_listD hc) hg hm (by decide +kernel) pa_w (by decide) (by decide) he hpl) ((eab1 ha he σ H N rp).imp fun vs H1 ⟨N1, s1, n1, r1, a1⟩ => by
    obtain ⟨v, e1, e2⟩ := ats_one a1
    obtain ⟨q, us, e3, h1, h2⟩ := at_dic e2
    refine ⟨q, us, by rw [e1, e3], h1, fun q2 hq => ?_⟩
    obtain ⟨r3, n3⟩ := eo_new (o := .lst (us.map fun kv => kV kv.1)) r1 hq
    exact ⟨N1, q2, rfl, s1.free hq, s1.trans (Same.of_none hq), n1, r3, n3, _, upd_same, atk_keys h2⟩)
/-- list(text) -/
theorem call_listS (hc : X.calm = true) : CallR X (.type "list") (fun xs H Q => ∃ l : List Nat, xs = [.str (SX.S l)] ∧ l.length ≤ sizeLine ∧ ∀ q, H q = none → Q (.ref q) (upd H q (.lst (l.map fun c => .str (SX.S [c]))))) := by
  intro pins s σ H xs us Q I r h
  obtain ⟨l, e, hz, q⟩ := h
  subst e
  obtain ⟨u, eu, rx⟩ := vals1 r
  subst eu
  obtain ⟨t, rfl⟩ := (show ∃ t, u = Value.str (SX.S l) t from rx)
  refine call_list_str (I.ok.hd hc) (SX.S l) t (fun h' tk acc' c' hkeep hS hacc => ?_) (by simpa using hz)
  have hsz : acc'.toList.length = l.length := by
    have := hacc.1
    simpa using this
  refine ⟨.ref s.heap.objs.size, upd H s.heap.objs.size (.lst (l.map fun c => .str (SX.S [c]))), I.laid hkeep (Nat.le_refl _) (show ObjOk X.prog X.w _ _ _ (.lst (l.map fun c => V.str (SX.S [c]))) from ⟨by rw [List.length_map]; exact hz, acc'.toList, c', ?_, ?_⟩), rfl, q _ (I.hok.fresh (Nat.le_refl _))⟩
  · refine vals_of_at (by rw [List.length_map, hsz]) fun j x w h1 h2 => ?_
    obtain ⟨c, t', g1, g2⟩ := hacc.2 j w (by rw [← Array.getElem?_toList]; exact h2)
    rw [List.getElem?_map] at h1
    have g3 : l[j]? = some c := by simpa using g1
    rw [g3] at h1
    cases h1
    exact ⟨t', g2⟩
  · rw [Array.toArray_toList]; exact hS
theorem ats_chd {K : PySem.W.Frag} {N : Hp} : ∀ l : List Nat, Ats K N (l.map fun c => V.str (SX.S [c])) (l.map chd)
  | [] => .nil
  | c :: l => .cons (.str _) (ats_chd l)
theorem eo_listSm {l : List Nat} (ha : Ev X H0 ρ a (tx l)) (hz : lenOk l = true) (hc : X.calm = true) (hm : X.mg "list" = none) (hg : Gl X "list" := by rfl) (he : starEach [a] X.env = (false, eval a X.env) :: starEach [] X.env := by rfl) (hpl : (backTo pos (starEach [] X.env)).any (·.1) = false := by rfl) :
    EvO X H0 ρ (.Call (.Name "list" p) [a] [] pos) (lstd chd l) := fun σ H N rp =>
  we_of (pe_callTy (call_listS hc) hg hm (by decide +kernel) pa_w (by decide) (by decide) he hpl) ((eab1 ha.toB he σ H N rp).imp fun vs H1 ⟨N1, s1, n1, r1, a1⟩ => by
    obtain ⟨v, e1, e2⟩ := ats_one a1
    refine ⟨l, by rw [e1, at_str e2], lenOk_ok hz, fun q2 hq => ?_⟩
    obtain ⟨r3, n3⟩ := eo_new (o := .lst (l.map fun c => .str (SX.S [c]))) r1 hq
    refine ⟨N1, q2, rfl, s1.free hq, s1.trans (Same.of_none hq), n1, r3, n3, _, upd_same, ?_⟩
    exact ats_chd l)
/-- tuple(list) -/
theorem ev_tupleLm {l : List α} (f : ∀ a, flat (en a) = true) (ha : EvB X H0 ρ a (lstd en l)) (hm : X.mg "tuple" = none) (hg : Gl X "tuple" := by rfl) (na : starEach [a] X.env = (false, eval a X.env) :: starEach [] X.env := by rfl) : Ev X H0 ρ (.Call (.Name "tuple" p) [a] [] pos) (tpnd en l) := fun σ H N rp =>
  we_of (pe_tupleOf hg hm pe_w na) ((ha σ H N rp).imp fun v H1 ⟨N1, s1, n1, r1, a1⟩ => by
    obtain ⟨q, us, e3, h1, h2⟩ := at_lst a1
    obtain ⟨N2, n2, r2, kp⟩ := r1.keep
    refine .inl ⟨q, us, e3, h1, fun q2 hq => ?_⟩
    obtain ⟨r3, n3⟩ := r2.new (o := .tup us) hq
    exact ⟨_, s1.trans (Same.of_none hq), (n1.trans n2).trans n3, r3, .tup (.inl (.inl upd_same)) ((h2.imm (flats_map f l)).mono (kp.trans n3))⟩)
end
end B

namespace B
open PySem PySem.Spec PyProof.Rows L2
/-! ### sum of a tuple of ints -/
section
variable {prog : Program} {w : World} {A : Around} {E : Value → Shared → Prop} {s : Shared} {l : Addr} {xs : Array (Int × Tok)} {its : List Value} {ns : List Int}
theorem sum_intTupG {Q : Value → Shared → Prop} (hh : A.handled = none) (hl : s.heap.IsTuple l (intItems xs))
    (h : ∀ h' tk t', (∀ b o, s.heap.get? b = some o → h'.get? b = some o) → Q (.int (preSum (numAt xs) xs.size) t') { s with heap := h', toks := tk }) :
    wpAny (model prog w) A (call (.builtin "sum") [.ref l]) Q E s := by
  have hlt : l < s.heap.objs.size := by obtain ⟨_, e, _⟩ := id hl; exact Heap.lt_size e
  refine call_sum_walkG (wpAny_pyIter_tuple hl ?_)
  refine ⟨_, [_, l], [_], _, _, _, numAt xs, rfl, Walks.tuple (A := A.in1) hh _ l (Nat.ne_of_lt hlt) (intItems xs), ⟨⟨_, Heap.get?_push_size _ rfl, rfl, rfl⟩, hl.push _⟩, fun b hb => ?_, (fun _ _ => intItems_at), fun h' tk t' hk => ?_⟩
  · show b < (s.heap.push _).objs.size
    rw [Heap.size_push]
    rcases List.mem_cons.mp hb with rfl | hb
    · exact Nat.lt_succ_self _
    · rcases List.mem_cons.mp hb with rfl | hb
      · exact Nat.lt_succ_of_lt hlt
      · cases hb
  · have := h h' tk t' (fun b o e => hk b o (by simp; exact Nat.ne_of_lt (Heap.lt_size e)) (Heap.get?_push_of_some _ e))
    simpa [intItems] using this
theorem sum_rawT {Q : Value → Shared → Prop} (hh : A.handled = none) (hl : s.heap.IsTuple l its.toArray) (hi : IntsAre its ns)
    (h : ∀ h' tk t', (∀ b o, s.heap.get? b = some o → h'.get? b = some o) → Q (.int ns.sum t') { s with heap := h', toks := tk }) : wpAny (model prog w) A (call (.builtin "sum") [.ref l]) Q E s := by
  obtain ⟨xs, e⟩ := hi.allInts.items
  have hn : numsOf (intItems xs).toList = ns := by rw [← e]; exact hi.numsOf
  rw [nums_intItems] at hn
  rw [e] at hl
  refine sum_intTupG hh hl fun h' tk t' hk => ?_
  have := h h' tk t' hk
  rw [preSum_eq, List.take_of_length_le (by simp), hn]; exact this
end
theorem cr_sumT {X : Cx} (hc : X.calm = true) : CallR X (.builtin "sum") (fun vs H Q => ∃ (a : Addr) (ns : List Int), vs = [V.ref a] ∧ SqT X.K H a (ns.map V.int) ∧ Q (.int ns.sum) H) := by
  intro pins s σ H vs us Q I r h
  obtain ⟨a, ns, rfl, hs, q⟩ := h
  obtain ⟨its, rv, hl, _⟩ := I.tuple hs
  rw [Vals.ref1 r]
  exact sum_rawT (I.ok.hd hc) (show s.heap.IsTuple a its.toArray from hl) rv.ints fun h' tk t' hk => ⟨.int _, H, I.kept hk, ⟨_, rfl⟩, q⟩
/-! ### d.update(d2) -/
theorem KV.merge {kvs : List (Key × V)} {vs : List (Key × Value)} (r : KV kvs vs) : ∀ {more : List (Key × V)} {ms : List (Key × Value)}, KV more ms → KV (more.foldl (fun acc p => putK acc p.1 p.2) kvs) (merged vs ms) := fun {more ms} h => by
  unfold KV at h
  induction h generalizing kvs vs with
  | nil => exact r
  | @cons p q ps qs h t ih =>
    obtain ⟨h1, h2⟩ := h
    have := ih (KV.put r p.1 h2)
    rw [List.foldl_cons]
    show KV _ (List.foldl _ (stored vs q.1 q.2) qs)
    rw [← h1]
    exact this
theorem len_mergeK : ∀ (more kvs : List (Key × V)), (more.foldl (fun acc p => putK acc p.1 p.2) kvs).length ≤ kvs.length + more.length
  | [], kvs => Nat.le_refl _
  | p :: more, kvs => by
    have h1 := len_mergeK more (putK kvs p.1 p.2)
    have h2 := length_putK kvs p.1 p.2
    rw [List.foldl_cons, List.length_cons]
    omega
def rUpd : V → List V → Hp → VK → Prop := fun x xs H Q => ∃ (a b : Addr) (kvs more : List (Key × V)), x = .ref a ∧ xs = [.ref b] ∧ H a = some (.dK kvs) ∧ Rd H b (.dK more) ∧ a ≠ b ∧ kvs.length + more.length ≤ sizeLine ∧ Q .non (upd H a (.dK (more.foldl (fun acc p => putK acc p.1 p.2) kvs)))
theorem mt_update {X : Cx} : MtM X "dict.update" rUpd := by
  intro pins s σ H x vs v us Q I rx rv h
  obtain ⟨a, b, kvs, more, rfl, rfl, ha, hb, hne, hz, q⟩ := h
  cases rx
  obtain ⟨u, rfl, ru⟩ := rv.one
  cases (show u = Value.ref b from ru)
  obtain ⟨z1, hd1, ks, rel1, dd1⟩ := dk_of I.hok ha
  obtain ⟨z2, hd2, ms, rel2, dd2⟩ := dk_rd I.hok hb
  refine call_meetsIn PySem.F.slot_dict_update dd1.typeIs PySem.F.entry_dict_update (PySem.F.args_dict_update_2 _ _) (meets_dict_update (mixKind X.prog X.w) a b hne hd2) ⟨ks, ms, dd1, dd2, by rw [← rel1.length, ← rel2.length]; exact hz, fun h' dd' _ hs => ?_⟩
  have he : ∃ q, h'.get? a = some q := let ⟨q, _, _, hq, _⟩ := dd'; ⟨q, hq⟩
  exact ⟨.non, _, d_write I (by rw [ha]; exact True.intro) hs he (dk_new (Nat.le_trans (len_mergeK more kvs) hz) hd1 (KV.merge rel1 rel2) dd'), rfl, q⟩
/-- one dict put into another -/
def dmerge {α : Type} (l m : List (List Nat × α)) : List (List Nat × α) := m.foldl (fun acc p => dput acc p.1 p.2) l
theorem atk_merge {α : Type} {K : PySem.W.Frag} {H : Hp} {e : α → Dat} : ∀ {m l : List (List Nat × α)} {vs ws : List (Key × V)}, Atk K H vs (dm e l) → Atk K H ws (dm e m) → Atk K H (ws.foldl (fun acc p => putK acc p.1 p.2) vs) (dm e (dmerge l m))
  | [], l, vs, ws, h, g => by cases g; exact h
  | p :: m, l, vs, ws, h, g => by
    cases g with
    | @cons _ v _ ws _ ha ht => exact atk_merge (m := m) (l := dput l p.1 p.2) (vs := putK vs (Sum.inr (SX.S p.1)) v) (ws := ws) (atk_put h p.1 ha) ht
section
variable {X : Cx} {H0 : Hp} {ρ ρ0 ρ1 ρ2 : Env'} {α β γ S S' L R : Type} {a b c e call : Expr} {es : List Expr} {st : Stmt} {sts rest body : List Stmt} {d d1 d2 : Dat} {ds : List Dat} {p pos : Pos} {o o1 : Outc} {x n : Str} {k : Nat} {D : γ → Outc} {m : M α} {en : α → Dat}
theorem ev_sumT {ns : List Int} (ha : EvB X H0 ρ a (tpnd Dat.int ns)) (hc : X.calm = true) (hm : X.mg "sum" = none) (hg : Gl X "sum" := by rfl) (he : starEach [a] X.env = (false, eval a X.env) :: starEach [] X.env := by rfl) (hpl : (backTo pos (starEach [] X.env)).any (·.1) = false := by rfl) :
    Ev X H0 ρ (.Call (.Name "sum" p) [a] [] pos) (.int ns.sum) := ev_blt (cr_sumT hc) hm (by decide +kernel) (eab1 ha he) (fun vs σ H N Q r q g => by
    obtain ⟨v, e1, e2⟩ := ats_one q
    obtain ⟨pp, us, e3, h1, h2⟩ := at_seq e2
    rw [h2.ints] at h1
    exact ⟨pp, ns, by rw [e1, e3], h1, goes_self g r (.int _)⟩) hg (by decide) (by decide) he hpl
/-- tuple + tuple -/
theorem ev_catTm {l m : List α} (ha : Ev X H0 ρ a (tpnd en l)) (hb : Ev X H0 ρ b (tpnd en m)) (h : catOk l m = true) : Ev X H0 ρ (.BinOp a .Add b pos) (tpnd en (l ++ m)) := fun σ H N rp =>
  we_of (pe_op op_catA pe_w pe_w) ((ha σ H N rp).imp fun v H1 ⟨N1, s1, n1, r1, a1⟩ => (hb σ H1 N1 r1).imp fun w H2 ⟨N2, s2, n2, r2, a2⟩ => by
    have a1' := a1.mono n2
    obtain ⟨p1, vs, e1, h1, h2⟩ := at_seq a1'
    obtain ⟨p2, ws, e2, h3, h4⟩ := at_seq a2
    have hz := catOk_ok h
    refine ⟨p1, p2, vs, ws, e1, e2, sqt_same r2.sub h1, sqt_same r2.sub h3, by rw [h2.length, h4.length, List.length_map, List.length_map]; exact hz, fun q => ?_, fun q1 q2 => ?_, fun q1 q2 q hq => ?_⟩
    · have : l = [] := by
        have := h2.length
        rw [q, List.length_map] at this
        exact List.length_eq_zero_iff.mp this.symm
      subst this
      rw [← e2]
      exact ⟨N2, s1.trans s2, n1.trans n2, r2, a2⟩
    · have : m = [] := by
        have := h4.length
        rw [q2, List.length_map] at this
        exact List.length_eq_zero_iff.mp this.symm
      subst this
      rw [← e1, List.append_nil]
      exact ⟨N2, s1.trans s2, n1.trans n2, r2, a1'⟩
    · obtain ⟨r5, n5⟩ := r2.new (o := .tup (vs ++ ws)) hq
      refine ⟨_, (s1.trans s2).trans (Same.of_none hq), (n1.trans n2).trans n5, r5, .tup (.inl (.inl upd_same)) ?_⟩
      rw [List.map_append]
      exact (h2.mono n5).append (h4.mono n5))
theorem xm_dupd {l m : List (List Nat × α)} {f : List (List Nat × α) → M γ} (i : Nat) {y : Str} {p1 p2 p3 : Pos} (hi : ρ[i]? = some (.ow (dicd en l))) (h : Ev X H0 ρ e (dicd en m)) (hz : catOk l m = true) (tt : ∀ l, ExM X H0 (ρ.set i (.ow (dicd en l))) k rest D (f l)) (hN : X.N[i]? = some y := by rfl) (hv : Vis X.env.scope y := by first | exact Or.inl rfl | exact Or.inr (Or.inl rfl) | exact Or.inr (Or.inr rfl))
    (hd : (y == ("__debug__" : Str)) = false := by decide) (hcd : (y == ("__classdict__" : Str)) = false := by decide)
    (hpe : ∀ to t, PE X (.Name y p1) to → PA X [e] t → PE X (.Call (.Attribute (.Name y p1) "update" p2) [e] [] p3) (tBM X.K "dict" rUpd to t) := by exact fun _ _ h g => pe_bm PySem.F.plainAttrs_dict PySem.F.slot_dict_update PySem.F.type_dict_update mt_update h g)
    (he : starEach [e] X.env = (false, eval e X.env) :: starEach [] X.env := by rfl) (hs : swapsWith (.Call (.Attribute (.Name y p1) "update" p2) [e] [] p3) none pos.line X.env = pure false := by rfl) :
    ExM X H0 ρ k (.Expr (.Call (.Attribute (.Name y p1) "update" p2) [e] [] p3) pos :: rest) D (M.lt (dmerge l m) f) := by
  refine xm_then (ρ1 := ρ.set i (.ow (dicd en (dmerge l m)))) (fun Dd σ H N r kk => ?_) (tt (dmerge l m))
  obtain ⟨q, g1, g2, g3, vs, g4, g5⟩ := r.ow i _ hi
  refine ws_of (ps_expr (hpe _ _ (pv i hN hv hd hcd) (pa_cons pe_w pa_nil he)) hs) ⟨_, g1, ?_, (h σ H N r).imp fun v H1 ⟨N1, s1, n1, r1, a1⟩ => ?_⟩
  · exact .inr (.inr (.inl ⟨rfl, .inl ⟨_, g4⟩⟩))
  obtain ⟨q', f1, f2, f3, us, f4, f5⟩ := r1.ow i _ hi
  rw [g1] at f1
  cases f1
  obtain ⟨b, ws, e1, h1, h2⟩ := at_dic a1
  have hne : q ≠ b := fun z => by
    subst z
    rcases h1 with h1 | ⟨_, h1⟩ <;> (rw [f3] at h1; cases h1)
  refine ⟨q, b, us, ws, rfl, by rw [e1], f4, rd_mono r1.sub h1, hne, by rw [atk_len f5, atk_len h2, List.length_map, List.length_map]; exact catOk_ok hz, kk σ _ N1 n1 ?_⟩
  exact r1.write hi g1 ⟨_, upd_same, atk_merge f5 h2⟩
/-- s.index(a sign that is there) -/
theorem index_one {L : List Nat} {c : Nat} (h : c ∈ L) : Txt.index0 (SX.S L) (SX.S [c]) = some (L.idxOf c) := by
  have hlt : L.idxOf c < L.length := List.idxOf_lt_length_iff.mpr h
  have hg : L[L.idxOf c]? = some c := by rw [List.getElem?_eq_getElem hlt, List.getElem_idxOf hlt]
  have ho : Builtin.Str.occurrences (SX.S L) (SX.S [c]) 0 (SX.S L).length 1 = [L.idxOf c] := by
    rw [StrLaws.occ_eq]
    refine occ_at L c _ hg _ 0 0 (Nat.le_refl _) (Nat.zero_le _) (by rw [SX.S_len]; omega) (fun i _ hi e => ?_)
    have hil : i < L.length := by omega
    rw [List.getElem?_eq_getElem hil] at e
    have q := List.not_of_lt_findIdx (p := (· == c)) (xs := L) hi
    have e2 := Option.some.inj e
    simp [e2] at q
  unfold Txt.index0
  rw [ho]
  rfl
theorem ev_indexX {l : List Nat} {c : Nat} {apos : Pos} (ha : Ev X H0 ρ a (tx l)) (hb : Ev X H0 ρ b (tx [c])) (h : c ∈ l) (hc : X.calm = true := by rfl)
    (hpe : ∀ to t, PE X a to → PA X [b] t → PE X (.Call (.Attribute a "index" apos) [b] [] pos) (tBMS X.K "str" (rIndexX (fun _ _ _ _ => False)) to t) := by exact fun _ _ h g => pe_bmS PySem.F.plainAttrs_str PySem.F.slot_str_index PySem.F.type_str_index (mt_indexX rfl takes0) h g)
    (he : starEach [b] X.env = (false, eval b X.env) :: starEach [] X.env := by rfl) : Ev X H0 ρ (.Call (.Attribute a "index" apos) [b] [] pos) (.int ((l.idxOf c : Nat) : Int)) := fun σ H N rp =>
  we_of (hpe _ _ pe_w (pa_cons pe_w pa_nil he)) ((ha σ H N rp).imp fun v H1 ⟨N1, s1, n1, r1, a1⟩ => by
    rw [at_str a1]
    refine ⟨rfl, (hb σ H1 N1 r1).imp fun w H2 ⟨N2, s2, n2, r2, a2⟩ => ?_⟩
    rw [at_str a2]
    refine ⟨_, _, rfl, rfl, fun k hk => ?_, fun hk => ?_⟩
    · rw [index_one h] at hk
      cases hk
      exact ⟨N2, s1.trans s2, n1.trans n2, r2, .int _⟩
    · rw [index_one h] at hk
      cases hk)
end
/-! ### defs whose last parameter has a default -/
/-- such a def of the text as it stands behind the top -/
def DfD (K : PySem.W.Frag) (mg : Str → Option Value) (x : Str) (st : Stmt) (ps : List Str) (v : V) : Prop := ∃ f fd, FunD K x x (defArgs st) (defBody st) (defScope st) [v] [] f fd ∧ mg x = some (.ref f) ∧ Binds K fd ps [] ∧ ∃ d, Vals [v] [d] ∧ Binds K fd ps [d]
def GFnD (P : Program) (w : World) (K : PySem.W.Frag) (mg : Str → Option Value) (base : Heap) (x : Str) (k : Nat) (v : V) (R : List Dat → Res → Prop) : Prop :=
  ∃ f fd ps, FnOk P w K mg base (L2.CX P w) k f fd ps (spR K mg R) ∧ mg x = some (.ref f) ∧ PySem.W.keepIn K (.ref f) = true ∧ Binds K fd ps [] ∧ ∃ d, Vals [v] [d] ∧ Binds K fd ps [d]
theorem GFnD.all {P : Program} {w : World} {K : PySem.W.Frag} {mg : Str → Option Value} {base : Heap} {x : Str} {k : Nat} {v : V} {R : List Dat → Res → Prop} (G : GFnD P w K mg base x k v R) : GFn P w K mg base x k R := by
  obtain ⟨f, fd, ps, h1, h2, h3, h4, _⟩ := G
  exact ⟨f, fd, ps, h1, h2, h3, h4⟩
section
variable {P : Program} {w : World} {K : PySem.W.Frag} {mg : Str → Option Value} {base : Heap} {x : Str} {st : Stmt} {ps N : List Str} {k : Nat} {R : List Dat → Res → Prop} {v : V}
theorem GFnD.mk2 (D : DfD K mg x st ps v) (S : FnScope N ps (defScope st)) (hl : ∀ ds o, R ds o → ds.length = ps.length)
    (body : ∀ (f : Addr) (cdv : Value) (A : Around) (outer : List PySem.Env) (s : Shared) (H : Hp) (E : XK), Room k (XX P w K mg base N x st f cdv A outer s H E).A → ∀ ds o, R ds o → ∃ es, Ents es ds ∧ ∀ H0, Ends' (XX P w K mg base N x st f cdv A outer s H E) H0 (es ++ List.replicate (N.length - ps.length) .no) (defBody st) o) : GFnD P w K mg base x (k + 1) v R := by
  obtain ⟨f, fd, F, hm, hb, hd⟩ := D
  refine ⟨f, fd, ps, ?_, hm, F.kp, hb, hd⟩
  refine F.ok S (fun vs H Q E ⟨ds, o, hr, a, _⟩ => by rw [a.length]; exact hl ds o hr) fun cdv A outer s H vs Q E hr hsp => ?_
  obtain ⟨ds, o, hR, a, q⟩ := hsp
  obtain ⟨es, he, hbody⟩ := body f cdv A outer s H E hr ds o hR
  have hlen : vs.length = ps.length := by rw [a.length]; exact hl ds o hR
  have r : Rep K H (es ++ List.replicate (N.length - ps.length) .no) (L2.start N vs) H (Imm H) := hlen ▸ rep_start he a
  have hb := hbody H
  refine ⟨_, pb_w, ?_⟩
  cases hb with
  | ret h => exact h { nx := fun _ H' => Q .non H', rt := Q } _ _ _ r fun v H' s rt => q v H' s rt
  | non h => exact h { nx := fun _ H' => Q .non H', rt := Q } _ _ _ r fun σ H' N' s r' => q .non H' r'.old ⟨N', r'.sub, r'.fresh, .non⟩
  | own h => exact h { nx := fun _ H' => Q .non H', rt := Q } _ _ _ r fun p H' N' s1 s2 s3 s4 s5 s6 => q p H' N' s1 s2 s3 s4 s5 s6
  | exc h => exact h { nx := fun _ H' => Q .non H', rt := Q } _ _ _ r ⟨_, takes_of rfl rfl rfl rfl, fun C σ H' N' hm s r' => q C H' hm r'.old⟩
end
section
variable {X : Cx} {H0 : Hp} {ρ : Env'} {α : Type} {e : Expr} {es : List Expr} {ds : List Dat} {p pos : Pos} {x : Str} {m : M α} {en : α → Dat}
/-- a call that leaves the last one to its default, a text -/
theorem evm_callD {R : List Dat → Res → Prop} {kk : Nat} {z : Str} (G : GFnD X.prog X.w X.K X.mg X.base x kk (.str z) R) (hr : Room kk X.A) (ha : EvAB X H0 ρ (e :: es) ds) (q : ∀ o, Rm en m o → R (ds ++ [.str z]) o) (hg : Gl X x := by rfl) (hdb : (x == ("__debug__" : Str)) = false := by decide)
    (he : starEach (e :: es) X.env = (false, eval e X.env) :: starEach es X.env := by rfl) (hpl : (backTo pos (starEach es X.env)).any (·.1) = false := by rfl) : EvM X H0 ρ (.Call (.Name x p) (e :: es) [] pos) en m.nox := by
  cases m with
  | ok v =>
    intro σ H N r
    obtain ⟨f, fd, ps, F, hm, hk, _, d, hv, hb⟩ := G
    refine we_of (pe_call F hr hg hm hk hb hv passL pa_w hdb he hpl) ((ha σ H N r).imp fun vs H1 ⟨N1, s1, n1, r1, a1⟩ => ⟨ds ++ [.str z], .val (en v), q _ rfl, a1.append (.cons (.str z) .nil), fun v H' s' rt => ?_⟩)
    obtain ⟨N2, n2, r2, a2⟩ := r1.ret s' rt
    exact ⟨N2, s1.trans s', n1.trans n2, r2, a2⟩
  | ex n => trivial
  | far => trivial
end
end B

namespace B
open PySem PySem.Spec PyProof.Rows L2
section
variable {α : Type} {X : Cx} {H0 : Hp} {ρ : Env'} {e : Expr}
/-- what may be None and is not -/
theorem ev_optS {en : α → Dat} {o : Option α} {r : α} (h : o = some r) (p : Ev X H0 ρ e (optd en o)) : Ev X H0 ρ e (en r) := by subst h; exact p
end
/-! ### l.extend(a new list) -/
section
variable {X : Cx} {H0 : Hp} {ρ ρ1 : Env'} {α β γ S S' L R : Type} {e : Expr} {st : Stmt} {rest body : List Stmt} {d : Dat} {ds : List Dat} {pos : Pos} {k : Nat} {D : γ → Outc}
theorem xm_extend {en : β → Dat} {l m : List β} {f : List β → M γ} (i : Nat) {y : Str} {p1 p2 p3 : Pos} (hi : ρ[i]? = some (.ow (lstd en l))) (h : EvO X H0 ρ e (lstd en m)) (hz : catOk l m = true) (tt : ∀ l, ExM X H0 (ρ.set i (.ow (lstd en l))) k rest D (f l)) (hN : X.N[i]? = some y := by rfl) (hv : Vis X.env.scope y := by first | exact Or.inl rfl | exact Or.inr (Or.inl rfl) | exact Or.inr (Or.inr rfl))
    (hd : (y == ("__debug__" : Str)) = false := by decide) (hcd : (y == ("__classdict__" : Str)) = false := by decide)
    (hpe : ∀ to t, PE X (.Name y p1) to → PA X [e] t → PE X (.Call (.Attribute (.Name y p1) "extend" p2) [e] [] p3) (tBM X.K "list" rExtend to t) := by exact fun _ _ h g => pe_bm PySem.F.plainAttrs_list PySem.F.slot_list_extend PySem.F.type_list_extend mt_extend h g)
    (he : starEach [e] X.env = (false, eval e X.env) :: starEach [] X.env := by rfl) (hs : swapsWith (.Call (.Attribute (.Name y p1) "extend" p2) [e] [] p3) none pos.line X.env = pure false := by rfl) :
    ExM X H0 ρ k (.Expr (.Call (.Attribute (.Name y p1) "extend" p2) [e] [] p3) pos :: rest) D (M.lt (l ++ m) f) := by
  refine xm_then (ρ1 := ρ.set i (.ow (lstd en (l ++ m)))) (fun Dd σ H N r kk => ?_) (tt (l ++ m))
  obtain ⟨q, g1, g2, g3, vs, g4, g5⟩ := r.ow i _ hi
  refine ws_of (ps_expr (hpe _ _ (pv i hN hv hd hcd) (pa_cons pe_w pa_nil he)) hs) ⟨_, g1, .inl ⟨rfl, _, .inl (.inl g4)⟩, (h σ H N r).imp fun v H1 ⟨N1, p, e1, hp0, s1, n1, r1, np, ws, w1, w2⟩ => ?_⟩
  obtain ⟨q', f1, f2, f3, us, f4, f5⟩ := r1.ow i _ hi
  rw [g1] at f1
  cases f1
  refine ⟨q, p, us, ws, rfl, by rw [e1], f4, w1, by rw [f5.length, w2.length, List.length_map, List.length_map]; exact catOk_ok hz, kk σ _ N1 n1 ?_⟩
  refine r1.write hi g1 ⟨us ++ ws, upd_same, ?_⟩
  rw [List.map_append]
  exact f5.append w2
/-! ### an owned list that is only read for a while -/
/-- nothing that was handed in is held -/
def noOl (ρ : Env') : Prop := ∀ (j : Nat) (d : Dat), ρ[j]? ≠ some (Ent.ol d)
open Classical in
/-- what was there ahead, with an owned list and all that no one can change -/
noncomputable def Hb (H0 N : Hp) (p : Addr) (o : HO) : Hp := fun a => if a = p then some o else match H0 a with | some u => some u | none => Imm N a
theorem hb_p {H0 N : Hp} {p : Addr} {o : HO} : Hb H0 N p o p = some o := by unfold Hb; rw [if_pos rfl]
theorem hb_old {H0 N : Hp} {p : Addr} {o : HO} (h : H0 p = none) : Same H0 (Hb H0 N p o) := fun a u e => by
  unfold Hb
  have : a ≠ p := fun q => by rw [q, h] at e; cases e
  rw [if_neg this, e]
theorem hb_cs {H0 N : Hp} {p a : Addr} {o u : HO} (h : Hb H0 N p o a = some u) : (a = p ∧ u = o) ∨ (a ≠ p ∧ (H0 a = some u ∨ Imm N a = some u)) := by
  unfold Hb at h
  by_cases q : a = p
  · rw [if_pos q] at h
    exact .inl ⟨q, (Option.some.inj h).symm⟩
  · rw [if_neg q] at h
    refine .inr ⟨q, ?_⟩
    cases e : H0 a with
    | some w => rw [e] at h; exact .inl h
    | none => rw [e] at h; exact .inr h
theorem hb_none {H0 N : Hp} {p a : Addr} {o : HO} (h1 : a ≠ p) (h2 : H0 a = none) (h3 : Imm N a = none) : Hb H0 N p o a = none := by
  unfold Hb
  rw [if_neg h1, h2]
  exact h3
theorem Rep.borrow {K : PySem.W.Frag} {H0 H N : Hp} {ρ : Env'} {σ : L2.St} (r : Rep K H0 ρ σ H N) {i : Nat} {p : Addr} {vs : List V} {ds : List Dat} (hi : ρ[i]? = some (.ow (.lst ds))) (hn : noOl ρ) (hp : σ[i]? = some (some (V.ref p))) (h0 : H0 p = none) (np : N p = none) (hh : H p = some (.lst vs)) (ha : Ats K N vs ds) (f : flats ds = true) :
    Rep K (Hb H0 N p (.lst vs)) (ρ.set i (.rf p)) σ H N ∧ Ats K (Imm (Hb H0 N p (.lst vs))) vs ds := by
  have m : Mut (some (HO.lst vs)) := trivial
  refine ⟨⟨fun a u e => ?_, r.sub, fun a u e => ?_, fun a u e mu => ?_, by rw [List.length_set]; exact r.len, fun j d e => ?_, fun j d e => ?_, fun j d e => ?_, fun j a e => ?_, fun j k d d' q ne a b c => ?_⟩, (ha.imm f).mono fun a u e => ?_⟩
  · rcases hb_cs e with ⟨rfl, rfl⟩ | ⟨_, e | e⟩
    · exact hh
    · exact r.old a u e
    · exact r.sub a u (imm_sub _ _ _ e)
  · have mu := imm_not e
    rcases hb_cs (imm_sub _ _ _ e) with ⟨rfl, rfl⟩ | ⟨_, e | e⟩
    · exact absurd m mu
    · exact r.imm a u (imm_of e mu)
    · exact imm_sub _ _ _ e
  · refine hb_none (fun q => by rw [q, np] at e; cases e) (r.fresh a u e mu) ?_
    cases q : Imm N a with
    | none => rfl
    | some w =>
      have := imm_sub _ _ _ q
      rw [e] at this
      cases this
      exact absurd mu (imm_not q)
  · rcases get_set e with ⟨_, z⟩ | ⟨_, e⟩
    · cases z
    · exact r.im j d e
  · rcases get_set e with ⟨_, z⟩ | ⟨_, e⟩
    · cases z
    · exact absurd e (hn j d)
  · rcases get_set e with ⟨_, z⟩ | ⟨ne, e2⟩
    · cases z
    · obtain ⟨p', a1, a2, a3, a4⟩ := r.ow j d e2
      refine ⟨p', a1, hb_none (fun q => ?_) a2 ?_, a3, a4⟩
      · subst q
        exact r.apart j i _ _ _ ne e2 hi a1 hp
      · cases q : Imm N p' with
        | none => rfl
        | some w => have := imm_sub _ _ _ q; rw [a3] at this; cases this
  · rcases get_set e with ⟨rfl, z⟩ | ⟨_, e⟩
    · cases z; exact hp
    · exact r.rf j a e
  · rcases get_set a with ⟨_, z⟩ | ⟨_, a⟩
    · cases z
    rcases get_set b with ⟨_, z⟩ | ⟨_, b⟩
    · cases z
    exact r.apart j k d d' q ne a b c
  · have mu := imm_not e
    have e1 := imm_sub _ _ _ e
    refine imm_of ?_ mu
    unfold Hb
    rw [if_neg (fun q => by rw [q, np] at e1; cases e1)]
    cases q : H0 a with
    | none => exact e
    | some w =>
      have z1 := r.old a w q
      rw [r.sub a u e1] at z1
      cases z1
      rfl
/-- what was lent comes back: nothing of what was there ahead is asked -/
theorem Rep.lower {K : PySem.W.Frag} {H0 H N N0 : Hp} {ρ : Env'} {σ : L2.St} {p : Addr} {vs : List V} (r : Rep K (Hb H0 N0 p (.lst vs)) ρ σ H N) (h0 : H0 p = none) (hn : noOl ρ) : Rep K H0 ρ σ H N := by
  have so := hb_old (N := N0) (o := HO.lst vs) h0
  have none0 : ∀ {a : Addr}, Hb H0 N0 p (.lst vs) a = none → H0 a = none := fun {a} e => by
    cases q : H0 a with
    | none => rfl
    | some u => rw [so a u q] at e; cases e
  refine ⟨so.trans r.old, r.sub, (imm_same so).trans r.imm, fun a o e m => none0 (r.fresh a o e m), r.len, r.im, fun j d e => absurd e (hn j d), fun j d e => ?_, r.rf, r.apart⟩
  obtain ⟨q, a1, a2, a3, a4⟩ := r.ow j d e
  exact ⟨q, a1, none0 a2, a3, a4⟩
theorem Rep.regain {K : PySem.W.Frag} {H0 H N N0 : Hp} {ρ : Env'} {σ : L2.St} {i : Nat} {p : Addr} {vs : List V} {ds : List Dat} (r : Rep K (Hb H0 N0 p (.lst vs)) ρ σ H N) (h0 : H0 p = none) (hn : noOl ρ) (hi : ρ[i]? = some (.rf p)) (ha : Ats K N vs ds) : Rep K H0 (ρ.set i (.ow (.lst ds))) σ H N := by
  have m : Mut (some (HO.lst vs)) := trivial
  have hh := r.old p _ hb_p
  have np : N p = none := by
    cases q : N p with
    | none => rfl
    | some u =>
      have e1 := r.sub p u q
      rw [hh] at e1
      cases e1
      have := r.fresh p _ q m
      rw [hb_p] at this
      cases this
  have hs := r.rf i p hi
  have b := r.lower h0 hn
  have ne : ∀ {j : Nat} {d : Dat} {q : Addr}, ρ[j]? = some (.ow d) → σ[j]? = some (some (V.ref q)) → q ≠ p := fun {j d q} e z y => by
    subst y
    obtain ⟨q', a1, a2, a3, a4⟩ := r.ow j d e
    rw [z] at a1
    cases a1
    rw [hb_p] at a2
    cases a2
  refine ⟨b.old, b.sub, b.imm, b.fresh, by rw [List.length_set]; exact b.len, fun j d e => ?_, fun j d e => ?_, fun j d e => ?_, fun j a e => ?_, fun j k d d' q jk a c z y => ?_⟩
  · rcases get_set e with ⟨_, z⟩ | ⟨_, e⟩
    · cases z
    · exact b.im j d e
  · rcases get_set e with ⟨_, z⟩ | ⟨_, e⟩
    · cases z
    · exact b.ol j d e
  · rcases get_set e with ⟨rfl, z⟩ | ⟨_, e⟩
    · cases z
      exact ⟨p, hs, h0, np, vs, hh, ha⟩
    · exact b.ow j d e
  · rcases get_set e with ⟨_, z⟩ | ⟨_, e⟩
    · cases z
    · exact b.rf j a e
  · rcases get_set a with ⟨rfl, _⟩ | ⟨nj, a⟩
    · rw [hs] at z
      cases z
      rcases get_set c with ⟨rfl, _⟩ | ⟨_, c⟩
      · exact jk rfl
      · exact ne c y rfl
    · rcases get_set c with ⟨ek, _⟩ | ⟨_, c⟩
      · rw [ek, hs] at y
        cases y
        exact ne a z rfl
      · exact b.apart j k d d' q jk a c z y
/-- how the statement's end looks behind the loan -/
def Bk (i : Nat) (ds : List Dat) (p : Addr) : Outc → Outc → Prop
  | .nx ρ', .nx ρ => ρ'[i]? = some (.rf p) ∧ noOl ρ' ∧ ρ = ρ'.set i (.ow (.lst ds))
  | .rt d, .rt d' => d = d'
  | .ro d, .ro d' => d = d'
  | .ex n ρ', .ex n' ρ => n = n' ∧ ρ = ρ' ∧ noOl ρ'
  | _, _ => False
theorem sx_borrow {i : Nat} {o : Outc} (o' : Addr → Outc) (hi : ρ[i]? = some (.ow (.lst ds))) (hn : noOl ρ) (f : flats ds = true) (h : ∀ (H0' : Hp) (p : Addr) (vs : List V), H0' p = some (.lst vs) → Ats X.K (Imm H0') vs ds → ExS X H0' (ρ.set i (.rf p)) st (o' p)) (hb : ∀ p, Bk i ds p (o' p) o) : ExS X H0 ρ st o := fun D σ H N r c => by
  obtain ⟨p, e1, h0, np, vs, hh, ha⟩ := r.ow i _ hi
  obtain ⟨r1, a1⟩ := r.borrow hi hn e1 h0 np hh ha f
  refine h _ p vs hb_p a1 D σ H N r1 ?_
  have so := hb_old (N := N) (o := HO.lst vs) h0
  have none0 : ∀ {a : Addr}, Hb H0 N p (.lst vs) a = none → H0 a = none := fun {a} e => by
    cases q : H0 a with
    | none => rfl
    | some u => rw [so a u q] at e; cases e
  have hb := hb p
  cases e : o' p with
  | nx ρ' =>
    rw [e] at hb
    cases o with
    | nx ρ2 =>
      obtain ⟨b1, b2, rfl⟩ := hb
      exact fun σ' H' N' s r' => c σ' H' N' s (r'.regain h0 b2 b1 (ha.mono s))
    | _ => exact hb.elim
  | rt d =>
    rw [e] at hb
    cases o with
    | rt d' =>
      cases (show d = d' from hb)
      exact fun v H' s ⟨N', q1, q2, q3⟩ => c v H' (so.trans s) ⟨N', q1, fun a u z m => none0 (q2 a u z m), q3⟩
    | _ => exact hb.elim
  | ro d =>
    rw [e] at hb
    cases o with
    | ro d' =>
      cases (show d = d' from hb)
      exact fun q H' N' s1 s2 s3 s4 s5 s6 => c q H' N' (so.trans s1) s2 (fun a u z m => none0 (s3 a u z m)) (none0 s4) s5 s6
    | _ => exact hb.elim
  | ex n ρ' =>
    rw [e] at hb
    cases o with
    | ex n' ρ2 =>
      obtain ⟨rfl, rfl, b2⟩ := hb
      obtain ⟨W, t, k⟩ := c
      exact ⟨W, t, fun C σ' H' N' m s r' => k C σ' H' N' m s (r'.lower h0 b2)⟩
    | _ => exact hb.elim
  | bk ρ' => rw [e] at hb; cases o <;> exact hb.elim
  | ct ρ' => rw [e] at hb; cases o <;> exact hb.elim
/-- a walk of what lies at an address that no one changes -/
theorem itm_rf {en : β → Dat} {l : List β} {p : Addr} {vs : List V} (i : Nat) {t : Expr} {x : Str} (h : ρ[i]? = some (.rf p)) (h1 : H0 p = some (.lst vs)) (h2 : Ats X.K (Imm H0) vs (l.map en)) (hN : X.N[i]? = some x := by rfl) (hv : Vis X.env.scope x := by first | exact Or.inl rfl | exact Or.inr (Or.inl rfl) | exact Or.inr (Or.inr rfl)) (hd : (x == ("__debug__" : Str)) = false := by decide)
    (hcd : (x == ("__classdict__" : Str)) = false := by decide) : Iter X H0 ρ t (.Name x pos) (l.map en) := ⟨_, pi_list (pv i hN hv hd hcd), fun σ H N r R k => by
  have h1' : SqL X.K H0 p vs := .inl (.inl h1)
  refine ⟨_, r.rf i _ h, p, rfl, ⟨vs, sql_same r.old h1'⟩, k _ H N (Same.refl _) (Same.refl _) r fun H02 ρ2 σ2 H2 N2 j s02 s2 r2 => ⟨fun hi => ?_, fun hi => ⟨vs, sql_same (s02.trans r2.old) h1', by rw [h2.length]; exact Nat.le_of_eq hi.symm⟩⟩⟩
  have hv : j < vs.length := by rw [h2.length]; exact hi
  refine ⟨⟨vs, vs[j], sql_same (s02.trans r2.old) h1', by simp [hv]⟩, fun x H3 y => ?_⟩
  obtain ⟨rfl, y⟩ := y
  obtain ⟨d, e2, e3⟩ := h2.getV (y vs (sql_same (s02.trans r2.old) h1'))
  exact ⟨N2, d, Same.refl _, Same.refl _, r2, e2, (e3.mono (imm_same s02)).mono r2.imm⟩⟩
theorem forF_no {α S L R : Type} {f : α → S → M (Fl S S R)} : ∀ (xs : List α) (s : S) (z : L), (forF f xs s : M (Fl S L R)) ≠ .ok (.ct z) ∧ (forF f xs s : M (Fl S L R)) ≠ .ok (.bk z)
  | [], s, z => ⟨(fun h => by cases h), (fun h => by cases h)⟩
  | x :: xs, s, z => by
    unfold forF
    cases f x s with
    | ok v =>
      cases v with
      | nx s' => exact forF_no xs s' z
      | ct s' => exact forF_no xs s' z
      | bk s' => exact ⟨(fun h => by cases h), (fun h => by cases h)⟩
      | rt r => exact ⟨(fun h => by cases h), (fun h => by cases h)⟩
    | ex n => exact ⟨(fun h => by cases h), (fun h => by cases h)⟩
    | far => exact ⟨(fun h => by cases h), (fun h => by cases h)⟩
theorem noOl_no (k : Nat) : noOl (List.replicate k .no) := fun j d e => by
  have := List.eq_of_mem_replicate (List.mem_of_getElem? e)
  cases this
theorem noOl_set {ρ : Env'} {i : Nat} {p : Addr} (h : noOl ρ) : noOl (ρ.set i (.rf p)) := fun j d e => by
  rcases get_set e with ⟨_, z⟩ | ⟨_, e⟩
  · cases z
  · exact h j d e
/-- .. as reckoned -/
def noOlB (ρ : Env') : Bool := ρ.all fun e => match e with
  | .ol _ => false
  | _ => true
theorem noOl_of {ρ : Env'} (h : noOlB ρ = true) : noOl ρ := fun j d e => by
  have := List.all_eq_true.mp h _ (List.mem_of_getElem? e)
  cases this
/-- for x in an owned list that stays one's own -/
theorem xm_forJB {en : β → Dat} {t : Expr} {bd : Dat → Env' → Env'} {ok : Dat → Prop} {eS : S → Env'} {eL : L → Env'} {eS' : S' → Env'} {oR : R → Outc} {xs : List β} {s0 : S} {f : β → S → M (Fl S S R)} {fk : S → M (Fl S' L R)} (i : Nat) {y : Str} {p1 : Pos} (hR : ∀ r, ∃ d, oR r = .rt d ∨ oR r = .ro d) (hp : PassesOwn (model X.prog X.w) X.A X.env X.xe) (hc : X.calm = true) (fl : ∀ a, flat (en a) = true) (hg : ∀ H0, Tgt X H0 t ok bd) (hok : ∀ d ∈ xs.map en, ok d) (h0 : ρ = eS s0)
    (hs : ∀ s, (eS s)[i]? = some (.ow (lstd en xs))) (hn : ∀ s, noOl (eS s)) (hb : ∀ H0 p x s, ExM X H0 (bd (en x) ((eS s).set i (.rf p))) k body (Fl.D (fun s => (eS s).set i (.rf p)) (fun s => (eS s).set i (.rf p)) oR) (f x s)) (tt : ∀ s, ExM X H0 (eS s) k rest (Fl.D eS' eL oR) (fk s))
    (hN : X.N[i]? = some y := by rfl) (hv : Vis X.env.scope y := by first | exact Or.inl rfl | exact Or.inr (Or.inl rfl) | exact Or.inr (Or.inr rfl)) (hd : (y == ("__debug__" : Str)) = false := by decide) (hcd : (y == ("__classdict__" : Str)) = false := by decide)
    (hsf : ∀ x, foldedSetIterable (.Name y p1) X.env x = pure x := by intro _; rfl) : ExM X H0 ρ k (.For t (.Name y p1) body [] pos :: rest) (Fl.D eS' eL oR) (M.seq (forF f xs s0) fk) := by
  refine ex_flow (fun r => out_of (hR r)) ?_ tt
  subst h0
  have back : ∀ (s : S) (p : Addr), (((eS s).set i (.rf p))[i]? = some (.rf p)) ∧ eS s = ((eS s).set i (.rf p)).set i (.ow (lstd en xs)) := fun s p => by
    have hl := lt_of_get (hs s)
    refine ⟨List.getElem?_set_self hl, ?_⟩
    rw [List.set_set]
    have e := hs s
    rw [List.getElem?_eq_getElem hl] at e
    rw [← Option.some.inj e, List.set_getElem_self]
  have go : ∀ (H0' : Hp) (p : Addr) (vs : List V), H0' p = some (.lst vs) → Ats X.K (Imm H0') vs (xs.map en) → ExSM X H0' ((eS s0).set i (.rf p)) k (.For t (.Name y p1) body [] pos) (Fl.D (fun s => (eS s).set i (.rf p)) eL oR) (forF f xs s0 : M (Fl S L R)) := fun H0' p vs e1 e2 =>
    sx_forM hR hp hc (itm_rf i (back s0 p).1 e1 e2 hN hv hd hcd) (hg H0') hok rfl (fun x s => hb H0' p x s) hsf
  have fls := flats_map fl xs
  cases e : (forF f xs s0 : M (Fl S L R)) with
  | ok v =>
    rw [e] at go
    refine sx_borrow (fun p => Fl.D (fun s => (eS s).set i (.rf p)) eL oR v) (hs s0) (hn s0) fls go fun p => ?_
    cases v with
    | nx s => exact ⟨(back s p).1, noOl_set (hn s), (back s p).2⟩
    | ct s => exact absurd e (forF_no xs s0 s).1
    | bk s => exact absurd e (forF_no xs s0 s).2
    | rt r =>
      obtain ⟨d, q | q⟩ := hR r
      · show Bk i _ p (oR r) (oR r)
        rw [q]
        exact rfl
      · show Bk i _ p (oR r) (oR r)
        rw [q]
        exact rfl
  | ex n =>
    rw [e] at go
    exact sx_borrow (fun p => .ex n (List.replicate k .no)) (hs s0) (hn s0) fls go fun p => ⟨rfl, rfl, noOl_no k⟩
  | far => trivial
end
/-! ### try: y = f(..) except C as e: suite -/
def tryA {β S : Type} (mb : M β) (g : β → S) (hs : List (Str × M S)) : M S := match mb with
  | .ok r => .ok (g r)
  | .ex n => lookM n hs
  | .far => .far
@[simp] theorem tryA_ok {β S : Type} (b : β) (g : β → S) (hs : List (Str × M S)) : tryA (M.ok b) g hs = .ok (g b) := id rfl
@[simp] theorem tryA_ex {β S : Type} (n : Str) (g : β → S) (hs : List (Str × M S)) : tryA (M.ex n : M β) g hs = lookM n hs := id rfl
section
variable {X : Cx} {H0 : Hp} {ρ : Env'} {β γ S : Type} {call : Expr} {rest : List Stmt} {x n : Str} {k : Nat} {D : γ → Outc}
theorem xm_tryA {mb : M β} {eb : β → Dat} {g : β → S} {hs : List (Str × M S)} {eS : S → Env'} {f : S → M γ} {c : Value} {suite : List Stmt} {b₀ : Stmt} {np py pos pos' pos'' : Pos} {y : Str} (j i : Nat) (is : List Nat)
    (hst : X.stack = X.env :: X.outer) (hfr : X.env.frame = some X.env.locals) (nd : X.N.Nodup) (hc : Names X x c)
    (hb : ∀ (pn : List (Addr × Obj)) (xe : Value → Shared → Prop), PassesOwn (model X.prog X.w) X.A X.env xe → EvM (X.tr pn xe) H0 ρ call eb mb)
    (hok : ∀ r, eS (g r) = drops (ρ.set j (.im (eb r))) is)
    (hh : AllH (fun n h => (∀ C, X.mg n = some (.ref C) → PySem.W.exmOne X.K (.ref C) c = some true) ∧ ∀ (a C : Addr) (oe : Obj) (pn : List (Addr × Obj)), X.mg n = some (.ref C) → Zc (.ref C) none oe → (∃ vs, oe.data = .fields vs) → ExM (X.suite a ((a, oe) :: pn)) H0 (ρ.set i (.rf a)) k (b₀ :: suite) (fun s => .nx (eS s)) h) hs)
    (hno : ∀ s, (eS s).set i .no = eS s) (tt : ∀ s, ExM X H0 (eS s) k rest D (f s)) (hi : X.N[i]? = some n := by rfl) (hln : X.env.kindOf n = some .local := by rfl)
    (hj : X.N[j]? = some y := by rfl) (hy : Loc X.env.scope y := by first | exact Or.inl rfl | exact Or.inr rfl)
    (hsw : ∀ pn xe, swapsWith call (some (.Name y py)) pos.line (X.tr pn xe).env = pure false := by intro _ _; rfl) (hf : X.fn y = true ∨ X.env.scope.names.lookup y = some .local := by first | exact .inl rfl | exact .inr rfl | assumption) :
    ExM X H0 ρ k (.Try [.Assign [.Name y py] call pos] [.ExceptHandler (some (.Name x np)) (some n) (b₀ :: suite) pos'] [] [] pos'' :: rest) D (M.bind (tryA mb g hs) f) := by
  cases mb with
  | ok r =>
    have h1 : ExS X H0 ρ (.Try [.Assign [.Name y py] call pos] [.ExceptHandler (some (.Name x np)) (some n) (b₀ :: suite) pos'] [] [] pos'') (.nx (eS (g r))) :=
      sx_tryN (i := i) hst hfr nd hc (fun pn xe hp => ex_then (sx_set (X := X.tr pn xe) j (hb pn xe hp) nd rfl hj hy (hsw pn xe) hf) (hok r ▸ ex_drops is ex_nil)) (ho := trivial) (hi := hi) (hln := hln)
    exact xm_then h1 (tt (g r))
  | ex n' =>
    show ExM X H0 ρ k _ D (M.bind (lookM n' hs) f)
    induction hs with
    | nil => trivial
    | cons q r ih =>
      obtain ⟨⟨he, h1⟩, h2⟩ := hh
      unfold lookM
      by_cases e : n' = q.1
      · rw [if_pos e]
        subst e
        cases eh : q.2 with
        | ok s =>
          have h3 : ExS X H0 ρ (.Try [.Assign [.Name y py] call pos] [.ExceptHandler (some (.Name x np)) (some n) (b₀ :: suite) pos'] [] [] pos'') (Outc.un i (.nx (eS s))) :=
            sx_try (i := i) (m := q.1) (ρ1 := ρ) hst hfr nd hc he (fun pn xe hp => ex_one (sx_setX (X := X.tr pn xe) (hb pn xe hp) nd hj hy (hsw pn xe) hf)) (fun a C oe pn hC hz hf => by
              have := h1 a C oe pn hC hz hf
              rw [eh] at this
              exact this) trivial hi hln
          have h4 : Outc.un i (.nx (eS s)) = .nx (eS s) := by
            show Outc.nx ((eS s).set i .no) = _
            rw [hno s]
          rw [h4] at h3
          exact xm_then h3 (tt s)
        | ex _ => trivial
        | far => trivial
      · rw [if_neg e]
        exact ih h2
  | far => trivial
end
/-! ### == of texts that may be None -/
theorem eqs_optS : ∀ x y : Option (List Nat), PyData.eqv (pd (optd tx x)) (pd (optd tx y)) = decide (x = y)
  | none, none => by rfl
  | none, some l => by rfl
  | some l, none => by rfl
  | some l, some m => by
    have := eqs_str l m
    show PyData.eqv (pd (tx l)) (pd (tx m)) = _
    rw [this]
    by_cases h : l = m
    · subst h; simp
    · rw [decide_eq_false h, decide_eq_false (fun q => h (Option.some.inj q))]
end B

namespace L2
open PySem PySem.Spec PyProof.Rows
/-! ### enumerate(text) -/
def ItS (x : Str) : It := ⟨fun i _ => i < x.cps.size, fun i H v H' => ∃ T c, v = .ref T ∧ H T = none ∧ H' = upd H T (.tup [.int (i : Nat), .str ⟨#[c]⟩]) ∧ x.cps[i]? = some c, fun i _ => i = x.cps.size⟩
theorem turn_enumS {P : Program} {w : World} {K : PySem.W.Frag} {elts : List Expr} {kk : Nat} {tpos : Pos} (e it : Addr) (x : Str) (t : Tok) (ty : String) (hty : ty = "str_ascii_iterator" ∨ ty = "str_iterator") :
    Turn P w K (.Tuple elts kk tpos) (ItS x) [e, it] e (fun i h => (∃ old, IsEnum h e it ((i : Nat) : Int) old) ∧ h.IsStrIter it ty x t i ∧ e ≠ it) where
  mem := by simp
  obj := fun i h st b hb => by
    obtain ⟨⟨old, he⟩, ⟨o, ho, hc, hd⟩, _⟩ := st
    have e' : b = e ∨ b = it := by simpa using hb
    rcases e' with z | z
    · rw [z]; exact ⟨_, he, fun v q => nomatch q⟩
    · rw [z]; exact ⟨o, ho, fun v q => by rw [hd] at q; cases q⟩
  keep := fun i h h' st k => let ⟨⟨old, he⟩, ⟨o, ho, r⟩, hne⟩ := st; ⟨⟨old, k e (by simp) _ he⟩, ⟨o, k it (by simp) o ho, r⟩, hne⟩
  item := by
    intro X hP hw hK hc i pins s σ H E I hf st hg
    subst hP hw hK
    obtain ⟨⟨old, he⟩, hit, hne⟩ := st
    have hel : e < s.heap.objs.size := Heap.lt_size he
    have hil : it < s.heap.objs.size := by obtain ⟨_, q, _⟩ := hit; exact Heap.lt_size q
    have D : Draws X.prog X.w X.A.in1 it [it] x.cps.size (fun i v => ∃ c u, x.cps[i]? = some c ∧ v = .str ⟨#[c]⟩ u) (fun i h => h.IsStrIter it ty x t i) := by
      rcases hty with z | z
      · rw [z]; exact Draws.strAscii (A := X.A.in1) (I.ok.hd hc) it x t
      · rw [z]; exact Draws.strWide (A := X.A.in1) (I.ok.hd hc) it x t
    refine wpAny_pyNext_enum_itemD D he hit hg hne (by simp [hne]) fun v h' tk hv ho hit' hT hsz hk => ?_
    obtain ⟨c, u, hcx, rfl⟩ := hv
    refine ⟨_, rfl, wpAny_letOwnedTupleGo_enum (s := { s with heap := h', toks := tk + 1 }) ho fun h'' he' sb => ?_⟩
    have hT2 : h''.get? s.heap.objs.size = some { cls := .type "tuple", data := .seq #[.int i tk, .str ⟨#[c]⟩ u] } := (sb.2 _ (Nat.ne_of_gt hel)).trans hT
    have new : ObjOk X.prog X.w (upd H s.heap.objs.size (.tup [.int (i : Nat), .str ⟨#[c]⟩])) h'' s.heap.objs.size (.tup [.int (i : Nat), .str ⟨#[c]⟩]) :=
      ⟨by show 2 ≤ sizeLine; decide, [.int i tk, .str ⟨#[c]⟩ u], .cons ⟨_, rfl⟩ (.cons ⟨_, rfl⟩ .nil), ⟨_, hT2, rfl, _, rfl⟩⟩
    have I1 : Inv X pins σ (upd H s.heap.objs.size (.tup [.int (i : Nat), .str ⟨#[c]⟩])) { s with heap := h'', toks := tk + 1 } :=
      I.turnedNew (ch := [e, it]) (fun b ob hb q => (sb.2 b (fun z => hb (by simp [z]))).trans (hk b ob (fun z => hb (by simp [z])) (fun z => hb (by simp [z])) q)) hf (Nat.le_refl _) new
    refine ⟨.ref s.heap.objs.size, _, I1, rfl, ⟨_, c, rfl, I.hok.fresh (Nat.le_refl _), rfl, hcx⟩, ⟨⟨.str ⟨#[c]⟩ u, ?_⟩, ?_, hne⟩, fun b hb => ?_⟩
    · have e1 : ((i + 1 : Nat) : Int) = (i : Int) + 1 := by omega
      rw [e1]; exact he'
    · obtain ⟨o, ho', r⟩ := hit'
      exact ⟨o, (sb.2 it (Ne.symm hne)).trans ho', r⟩
    · have hb' : b < s.heap.objs.size := by
        have e' : b = e ∨ b = it := by simpa using hb
        rcases e' with z | z
        · rw [z]; exact hel
        · rw [z]; exact hil
      rw [upd_ne (Nat.ne_of_lt hb')]
      exact (hf b hb).1
  done := by
    intro X hP hw hK hc i pins s σ H E I hf st hg
    subst hP hw hK
    obtain ⟨⟨old, he⟩, hit, hne⟩ := st
    have hg' : i = x.cps.size := hg
    subst hg'
    obtain ⟨f0, f1, f2, f3, f4, f5⟩ := hf it (by simp)
    have D : Draws X.prog X.w X.A.in1 it [it] x.cps.size (fun i v => ∃ c u, x.cps[i]? = some c ∧ v = .str ⟨#[c]⟩ u) (fun i h => h.IsStrIter it ty x t i) := by
      rcases hty with z | z
      · rw [z]; exact Draws.strAscii (A := X.A.in1) (I.ok.hd hc) it x t
      · rw [z]; exact Draws.strWide (A := X.A.in1) (I.ok.hd hc) it x t
    exact wpAny_pyNext_enum_endD D he hit fun h' eb => ⟨rfl, I.turned (t' := s.toks) (fun b o hb q => eb b o hb q) f0 f1 f3 f4 f5⟩
  self := fun A i s Q E st h => let ⟨⟨_, he⟩, _⟩ := st; wpAny_pyIter_enum he h
def iEnumS (ta : TA) : TI := fun σ H R => ta σ H fun vs H1 => ∃ x, vs = [.str x] ∧ R (ItS x) H1
theorem pi_enumS {X : Cx} {e : Expr} {ta : TA} {p pos tpos : Pos} {elts : List Expr} {kk : Nat} (hg : Gl X "enumerate") (hm : X.mg "enumerate" = none) (ha : PA X [e] ta) (hs : starEach [e] X.env = [(false, eval e X.env)] := by rfl) :
    PI X (.Tuple elts kk tpos) (.Call (.Name "enumerate" p) [e] [] pos) (iEnumS ta) := by
  refine ⟨fun pins s σ H R I h => ?_⟩
  refine Call_ (ld_blt I hg hm boot_enumerate (PyProof.Rows.callWith_type1 (thn (ha.run pos pins s σ H _ I h) fun us s1 ⟨vs, H1, I1, r1, q1⟩ => ?_) hs rfl))
  obtain ⟨x, ex, q⟩ := q1
  subst ex
  cases r1 with
  | cons r rr =>
    cases rr
    obtain ⟨t, rfl⟩ := r
    refine call_enumerate_str fun h' he hit hsz hk => wpAny_pyIter_enum he ?_
    have I2 : Inv X pins σ H1 { s1 with heap := h' } := I1.kept (t' := s1.toks) hk
    have hty : strIterType x = "str_ascii_iterator" ∨ strIterType x = "str_iterator" := by
      unfold strIterType
      split
      · exact .inl rfl
      · exact .inr rfl
    refine ⟨s1.heap.objs.size + 1, [s1.heap.objs.size + 1, s1.heap.objs.size], _, _, H1, rfl, I2, turn_enumS (s1.heap.objs.size + 1) s1.heap.objs.size x t _ hty, ⟨⟨.none, he⟩, hit, Nat.succ_ne_self _⟩, fun b hb => ?_, q⟩
    have e' : b = s1.heap.objs.size + 1 ∨ b = s1.heap.objs.size := by simpa using hb
    have hle : s1.heap.objs.size ≤ b := by
      rcases e' with z | z
      · rw [z]; exact Nat.le_add_right _ _
      · rw [z]; exact Nat.le_refl _
    exact I1.fpOk hle (I1.hok.fresh hle)
end L2
namespace B
open PySem PySem.Spec PyProof.Rows L2 PySem.Builtin.Str PySem.Builtin
/-- the signs of a text, each with its place -/
def enumL (l : List Nat) : List (Int × Nat) := (rng 0 1 l.length).zip l
section
variable {X : Cx} {H0 : Hp} {ρ ρ1 : Env'} {α β γ S S' L R : Type} {a b c e call : Expr} {st : Stmt} {rest body : List Stmt} {d : Dat} {ds : List Dat} {p pos apos : Pos} {k : Nat} {D : γ → Outc}
theorem it_enumS {l : List Nat} {elts : List Expr} {kk : Nat} {tpos : Pos} (h : Ev X H0 ρ e (tx l)) (hm : X.mg "enumerate" = none) (hg : Gl X "enumerate" := by rfl) (hs : starEach [e] X.env = [(false, eval e X.env)] := by rfl) :
    Iter X H0 ρ (.Tuple elts kk tpos) (.Call (.Name "enumerate" p) [e] [] pos) ((enumL l).map (tup2 Dat.int chd)) := ⟨_, pi_enumS hg hm pa_w hs, fun σ H N r R k => (ea_cons h ea_nil (hs := hs) σ H N r).imp fun vs H' ⟨N', s, n, r', q⟩ => by
  have hv : vs = [.str (SX.S l)] := by
    cases q with
    | cons a t => cases t; rw [at_str a]
  refine ⟨SX.S l, hv, k _ H' N' n s r' fun H02 ρ2 σ2 H2 N2 i s02 s2 r2 => ?_⟩
  have hsz : (SX.S l).cps.size = l.length := by simp [SX.S]
  have hll : (enumL l).length = l.length := by unfold enumL; rw [List.length_zip]; unfold rng; simp
  refine ⟨fun hi => ?_, fun hi => ?_⟩
  · rw [List.length_map, hll] at hi
    refine ⟨by show i < (SX.S l).cps.size; rw [hsz]; exact hi, fun x H3 y => ?_⟩
    obtain ⟨T, c, rfl, hT, rfl, hc⟩ := y
    obtain ⟨r3, n3⟩ := r2.new (o := .tup [.int (i : Nat), .str ⟨#[c]⟩]) hT
    have hc2 : l[i]? = some c := by
      have : (SX.S l).cps[i]? = l[i]? := by simp [SX.S]
      rw [← this]; exact hc
    have hr : (rng 0 1 l.length)[i]? = some ((i : Nat) : Int) := by
      unfold rng
      rw [List.getElem?_map, List.getElem?_range hi]
      simp
    refine ⟨_, .tup [.int (i : Nat), .str ⟨#[c]⟩], n3, Same.of_none hT, r3, ?_, .tup (.inl (.inl upd_same)) (.cons (.int _) (.cons (.str _) .nil))⟩
    rw [List.getElem?_map]
    have hz : (enumL l)[i]? = some (((i : Nat) : Int), c) := by
      unfold enumL
      rw [List.getElem?_zip_eq_some]
      exact ⟨hr, hc2⟩
    rw [hz]
    rfl
  · rw [List.length_map, hll] at hi
    show i = (SX.S l).cps.size
    rw [hsz]; exact hi⟩
/-- divmod -/
theorem ev_divmod {i j : Int} (ha : Ev X H0 ρ a (.int i)) (hb : Ev X H0 ρ b (.int j)) (hj : 0 < j ∧ j < 1073741824) (hm : X.mg "divmod" = none) (hg : Gl X "divmod" := by rfl) (he : starEach [a, b] X.env = (false, eval a X.env) :: starEach [b] X.env := by rfl) (he2 : starEach [b] X.env = (false, eval b X.env) :: starEach [] X.env := by rfl) (hpl : (backTo pos (starEach [b] X.env)).any (·.1) = false := by rfl) :
    Ev X H0 ρ (.Call (.Name "divmod" p) [a, b] [] pos) (tup2 Dat.int Dat.int (i / j, i % j)) := ev_blt call_divmod hm (by decide +kernel) (eab_cons ha.toB (eab_cons hb.toB eab_nil he2) he) (fun vs σ H N Q r q g => by
    obtain ⟨v, w, rfl, a1, a2⟩ := ats_two q
    rw [at_int a1, at_int a2]
    refine ⟨i, j, rfl, hj, fun T hT => ?_⟩
    obtain ⟨r3, n3⟩ := r.new (o := .tup [.int (i / j), .int (i % j)]) hT
    exact g _ _ _ (Same.of_none hT) n3 r3 (.tup (.inl (.inl upd_same)) (.cons (.int _) (.cons (.int _) .nil)))) hg (by decide) (by decide) he hpl
/-- s.zfill(n) -/
def zfl (l : List Nat) (n : Int) : List Nat := List.replicate (n.toNat - l.length) 48 ++ l
@[irreducible] noncomputable def padOk (n : Int) : Bool := cl (PadOk n = true)
@[irreducible] noncomputable def zflOk (l : List Nat) (n : Int) : Bool := cl (PadOk n = true ∧ l[0]? ≠ some 43 ∧ l[0]? ≠ some 45)
theorem tl_zfill {l : List Nat} {n : Int} (h1 : l[0]? ≠ some 43) (h2 : l[0]? ≠ some 45) : Txt.zfill (SX.S l) n = SX.S (zfl l n) := by
  unfold Txt.zfill
  have hlen : (SX.S l).length = l.length := SX.S_len l
  by_cases c : n ≤ (SX.S l).length
  · rw [if_pos c]
    rw [hlen] at c
    unfold zfl
    rw [show n.toNat - l.length = 0 by omega]
    rfl
  · rw [if_neg c]
    rw [hlen] at c ⊢
    have e0 : (SX.S l).cps[0]? = l[0]? := by simp [SX.S]
    unfold zfilled
    rw [e0]
    split
    · rename_i h; exact absurd h h1
    · rename_i h; exact absurd h h2
    · apply TL.ext_tl
      unfold zfl padded
      simp [TL.tl, SX.S]
theorem ev_zfill {l : List Nat} {n : Int} (ha : Ev X H0 ρ a (tx l)) (hb : Ev X H0 ρ b (.int n)) (hz : zflOk l n = true) (hs : starEach [b] X.env = [(false, eval b X.env)] := by rfl) (hbase : attributeBase a "zfill" X.env (eval a X.env) = eval a X.env := by rfl) (hline : (apos.endLine == pos.line) = true := by rfl) :
    Ev X H0 ρ (.Call (.Attribute a "zfill" apos) [b] [] pos) (tx (zfl l n)) := by
  unfold zflOk at hz
  obtain ⟨h0, h1, h2⟩ := cl_of hz
  exact ev_m1 F.slot_str_zfill F.type_str_zfill mt_zfill ha hb.toB (fun v σ H N Q r q g => by
    rw [at_int q]
    exact ⟨SX.S l, n, rfl, rfl, h0, by rw [tl_zfill h1 h2]; exact goes_self g r (.str _)⟩) hs hbase hline
/-- s.ljust(n, c) -/
def ljs (l : List Nat) (n : Int) (c : Nat) : List Nat := l ++ List.replicate (n.toNat - l.length) c
theorem mt_ljust2 {X : Cx} : MtR X "str.ljust" (fun x xs H Q => ∃ (a : Str) (i : Int) (c : Nat), x = .str a ∧ xs = [.int i, .str ⟨#[c]⟩] ∧ PadOk i = true ∧ Q (.str (Txt.ljustF a i c)) H) := by
  intro pins s σ H x xs v us Q I rx rs h
  obtain ⟨a, i, c, rfl, rfl, hc, q⟩ := h
  obtain ⟨t, rfl⟩ := rx
  cases rs with
  | cons r1 rs =>
    cases rs with
    | cons r2 rs =>
      cases rs
      obtain ⟨u, rfl⟩ := r1
      obtain ⟨z, rfl⟩ := r2
      exact ljust_fill hc rfl fun t' k => ⟨.str (Txt.ljustF a i c), H, I.tok k, ⟨t', rfl⟩, q⟩
theorem tl_ljust {l : List Nat} {n : Int} {c : Nat} : Txt.ljustF (SX.S l) n c = SX.S (ljs l n c) := by
  have h := ljustF_list (SX.S l) n c
  have e : (SX.S l).length = l.length := SX.S_len l
  apply TL.ext_tl
  show (Txt.ljustF (SX.S l) n c).cps.toList = (SX.S (ljs l n c)).cps.toList
  rw [h, e]
  simp [SX.S, ljs]
theorem ev_ljust2 {l : List Nat} {n : Int} {q : Nat} (ha : Ev X H0 ρ a (tx l)) (hb : Ev X H0 ρ b (.int n)) (hq : Ev X H0 ρ c (tx [q])) (hz : padOk n = true)
    (hpe : ∀ to t, PE X a to → PA X [b, c] t → PE X (.Call (.Attribute a "ljust" apos) [b, c] [] pos) (tBMS X.K "str" (fun _ x xs H Q => ∃ (a : Str) (i : Int) (c : Nat), x = .str a ∧ xs = [.int i, .str ⟨#[c]⟩] ∧ PadOk i = true ∧ Q (.str (Txt.ljustF a i c)) H) to t) := by exact fun _ _ h g => pe_bmS PySem.F.plainAttrs_str PySem.F.slot_str_ljust PySem.F.type_str_ljust mt_ljust2.toS h g)
    (he : starEach [b, c] X.env = (false, eval b X.env) :: starEach [c] X.env := by rfl) (he2 : starEach [c] X.env = (false, eval c X.env) :: starEach [] X.env := by rfl) : Ev X H0 ρ (.Call (.Attribute a "ljust" apos) [b, c] [] pos) (tx (ljs l n q)) := fun σ H N rp =>
  we_of (hpe _ _ pe_w (pa_cons pe_w (pa_cons pe_w pa_nil he2) he)) ((ha σ H N rp).imp fun v H1 ⟨N1, s1, n1, r1, a1⟩ => by
    unfold padOk at hz
    rw [at_str a1]
    refine ⟨rfl, (hb σ H1 N1 r1).imp fun w H2 ⟨N2, s2, n2, r2, a2⟩ => ?_⟩
    rw [at_int a2]
    refine (hq σ H2 N2 r2).imp fun w3 H3 ⟨N3, s3, n3, r3, a3⟩ => ?_
    rw [at_str a3]
    exact ⟨SX.S l, n, q, rfl, rfl, cl_of hz, N3, (s1.trans s2).trans s3, (n1.trans n2).trans n3, r3, by rw [tl_ljust]; exact .str _⟩)
/-- str(a whole number) -/
def strN (i : Int) : List Nat := (PySem.Str.ofString (toString i)).cps.toList
@[irreducible] noncomputable def strNOk (i : Int) : Bool := cl (i.natAbs.log2 < 1920)
theorem strN_S (i : Int) : SX.S (strN i) = PySem.Str.ofString (toString i) := by
  apply TL.ext_tl
  simp [TL.tl, SX.S, strN]
theorem ev_strN {i : Int} (ha : Ev X H0 ρ a (.int i)) (h : strNOk i = true) (hm : X.mg "str" = none) (hg : Gl X "str" := by rfl) (he : starEach [a] X.env = (false, eval a X.env) :: starEach [] X.env := by rfl) (hpl : (backTo pos (starEach [] X.env)).any (·.1) = false := by rfl) : Ev X H0 ρ (.Call (.Name "str" p) [a] [] pos) (tx (strN i)) := ev_ty call_str_int hm (by decide +kernel) (eab1 ha.toB he) (fun vs σ H N Q r q g => by
    unfold strNOk at h
    obtain ⟨v, e1, e2⟩ := ats_one q
    rw [at_int e2] at e1
    exact ⟨i, e1, cl_of h, by
      have := goes_self g r (.str (SX.S (strN i)))
      rw [strN_S] at this
      exact this⟩) hg (by decide) (by decide) he hpl
/-! ### try: y = f(..) / except ..: .. / else: .., where f raises nothing -/
theorem xm_tryE {mb : M β} {eb : β → Dat} {f : β → M γ} {h₀ : ExceptHandler} {hs : List ExceptHandler} {orelse : List Stmt} {py pos pos'' : Pos} {y : Str} (j : Nat) (hD : ∀ g, (D g).out) (nd : X.N.Nodup)
    (hb : EvM X.nox H0 ρ call eb mb) (te : ∀ r, ExM X H0 (ρ.set j (.im (eb r))) k orelse D (f r))
    (hj : X.N[j]? = some y := by rfl) (hy : Loc X.env.scope y := by first | exact Or.inl rfl | exact Or.inr rfl)
    (hsw : swapsWith call (some (.Name y py)) pos.line X.env = pure false := by rfl) (hf : X.fn y = true ∨ X.env.scope.names.lookup y = some .local := by first | exact .inl rfl | exact .inr rfl | assumption) :
    ExM X H0 ρ k (.Try [.Assign [.Name y py] call pos] (h₀ :: hs) orelse [] pos'' :: rest) D (M.bind (M.nox mb) f) := by
  cases mb with
  | ok r =>
    have go : ∀ {o : Outc}, Exec X H0 (ρ.set j (.im (eb r))) orelse o → ExS X H0 ρ (.Try [.Assign [.Name y py] call pos] (h₀ :: hs) orelse [] pos'') o := fun {o} h DD σ H N rp c => by
      refine ws_of (ps_try_thru (t := WB X.nox [.Assign [.Name y py] call pos]) (u := WB X orelse) pb_w pb_w) ?_
      have h1 : Exec X.nox H0 ρ [.Assign [.Name y py] call pos] (.nx (ρ.set j (.im (eb r)))) := ex_one (sx_set (X := X.nox) j hb nd rfl hj hy hsw hf)
      exact h1 { DD with nx := WB X orelse DD } σ H N rp fun σ' H' N' s r' => h DD σ' H' N' r' (c.mono s)
    have h2 := te r
    show ExM X H0 ρ k _ D (f r)
    cases e : f r with
    | ok v => rw [e] at h2; exact ex_out (go h2) (hD v)
    | ex n => rw [e] at h2; exact ex_out (go h2) trivial
    | far => trivial
  | ex n => trivial
  | far => trivial
end
section
variable {X : Cx} {H0 : Hp} {ρ : Env'} {α : Type} {e : Expr} {es : List Expr} {ds : List Dat} {p pos : Pos} {x : Str} {m : M α} {en : α → Dat}
/-- a call that leaves the last one to its default, a text; it may raise -/
theorem evm_callDX {R : List Dat → Res → Prop} {kk : Nat} {z : Str} (G : GFnD X.prog X.w X.K X.mg X.base x kk (.str z) R) (hr : Room kk X.A) (ha : EvAB X H0 ρ (e :: es) ds) (q : ∀ o, Rm en m o → R (ds ++ [.str z]) o) (hg : Gl X x := by rfl) (hdb : (x == ("__debug__" : Str)) = false := by decide)
    (he : starEach (e :: es) X.env = (false, eval e X.env) :: starEach es X.env := by rfl) (hpl : (backTo pos (starEach es X.env)).any (·.1) = false := by rfl) : EvM X H0 ρ (.Call (.Name x p) (e :: es) [] pos) en m := by
  cases m with
  | ok v => exact evm_callD (m := .ok v) G hr ha q hg hdb he hpl
  | ex n =>
    intro σ H N r W tk kw Q
    obtain ⟨f, fd, ps, F, hm, hk, _, d, hv, hb⟩ := G
    refine we_of (pe_callSD F hr hg hm hk hb hv (fun σ => passAt tk σ) pa_w hdb he hpl) ((ha σ H N r).imp fun vs H1 ⟨N1, s1, n1, r1, a1⟩ => ⟨ds ++ [.str z], .exc n, q _ rfl, a1.append (.cons (.str z) .nil), fun C H' hC s' => ?_⟩)
    exact kw C H' N1 hC n1 (r1.grow s')
  | far => trivial
end
theorem eqs_chr : ∀ x y : Nat, PyData.eqv (pd (chd x)) (pd (chd y)) = decide (x = y) := fun x y => by
  have := eqs_str [x] [y]
  show PyData.eqv (pd (tx [x])) (pd (tx [y])) = _
  rw [this]
  by_cases h : x = y
  · subst h; simp
  · rw [decide_eq_false h, decide_eq_false (fun q => h (by cases q; rfl))]
end B

namespace B
open PySem PySem.Spec PyProof.Rows L2
theorem execs_one (st : Stmt) (env : PySem.Env) : execs [st] env = exec st env := by
  have h : execs [st] env = (exec st env >>= fun f => pure f) := by
    show (exec st env >>= fun f => match f with | .next => execs [] env | f => pure f) = _
    congr 1
    funext f
    cases f <;> rfl
  rw [h]
  exact bind_pure _
/-! ### a dict of one's own whose values are lists of one's own -/
theorem own_ne {K : PySem.W.Frag} {H0 H N : Hp} {ρ : Env'} {σ : L2.St} (r : Rep K H0 ρ σ H N) {a : Addr} {u : HO} (h : H0 a = some u) (j : Nat) (d' : Dat) (e : ρ[j]? = some (Ent.ow d')) : σ[j]? ≠ some (some (V.ref a)) := fun z => by
  obtain ⟨p, a1, a2, _⟩ := r.ow j d' e
  rw [a1] at z
  cases z
  rw [a2] at h
  cases h
theorem n_of {K : PySem.W.Frag} {H0 H N : Hp} {ρ : Env'} {σ : L2.St} (r : Rep K H0 ρ σ H N) {a : Addr} {u : HO} (h : H0 a = some u) (m : Mut (some u)) : N a = none := by
  cases q : N a with
  | none => rfl
  | some w =>
    have e1 := r.sub a w q
    rw [r.old a u h] at e1
    cases e1
    have := r.fresh a u q m
    rw [h] at this
    cases this
/-- what was there ahead is changed at an address, or grows by one: nobody here holds on to it -/
theorem Rep.upd0 {K : PySem.W.Frag} {H0 H N : Hp} {ρ : Env'} {σ : L2.St} (r : Rep K H0 ρ σ H N) (hn : noOl ρ) {a : Addr} {o : HO} (m : Mut (some o)) (na : N a = none) (ho : ∀ (j : Nat) (d' : Dat), ρ[j]? = some (Ent.ow d') → σ[j]? ≠ some (some (V.ref a))) : Rep K (upd H0 a o) ρ σ (upd H a o) N := by
  refine ⟨fun b u e => ?_, fun b u e => ?_, fun b u e => ?_, fun b u e mu => ?_, r.len, r.im, fun j d e => absurd e (hn j d), fun j d e => ?_, r.rf, r.apart⟩
  · by_cases q : b = a
    · subst q; rw [upd_same] at e ⊢; exact e
    · rw [upd_ne q] at e ⊢; exact r.old b u e
  · have q : b ≠ a := fun q => by rw [q, na] at e; cases e
    rw [upd_ne q]; exact r.sub b u e
  · have mu := imm_not e
    have e1 := imm_sub _ _ _ e
    by_cases q : b = a
    · subst q; rw [upd_same] at e1; cases e1; exact absurd m mu
    · rw [upd_ne q] at e1; exact r.imm b u (imm_of e1 mu)
  · have q : b ≠ a := fun q => by rw [q, na] at e; cases e
    rw [upd_ne q]; exact r.fresh b u e mu
  · obtain ⟨p, a1, a2, a3, a4⟩ := r.ow j d e
    have q : p ≠ a := fun q => ho j d e (q ▸ a1)
    refine ⟨p, a1, by rw [upd_ne q]; exact a2, a3, ?_⟩
    cases d with
    | lst ds => obtain ⟨vs, b1, b2⟩ := a4; exact ⟨vs, by rw [upd_ne q]; exact b1, b2⟩
    | dic ds => obtain ⟨vs, b1, b2⟩ := a4; exact ⟨vs, by rw [upd_ne q]; exact b1, b2⟩
    | non => exact a4.elim
    | bl _ => exact a4.elim
    | int _ => exact a4.elim
    | str _ => exact a4.elim
    | tup _ => exact a4.elim
noncomputable def Un (H0 Hs : Hp) : Hp := fun a => match Hs a with
  | some u => some u
  | none => H0 a
theorem un_some {H0 Hs : Hp} {a : Addr} {u : HO} (h : Hs a = some u) : Un H0 Hs a = some u := by unfold Un; rw [h]
theorem un_none {H0 Hs : Hp} {a : Addr} (h : Un H0 Hs a = none) : Hs a = none ∧ H0 a = none := by
  unfold Un at h
  cases e : Hs a with
  | some u => rw [e] at h; cases h
  | none => rw [e] at h; exact ⟨rfl, h⟩
theorem un_upd {H0 Hs : Hp} {a : Addr} {o : HO} : Un H0 (upd Hs a o) = upd (Un H0 Hs) a o := by
  funext b
  by_cases q : b = a
  · subst q
    rw [upd_same]
    exact un_some upd_same
  · rw [upd_ne q]
    unfold Un
    rw [upd_ne q]
theorem upd_id {H : Hp} {a : Addr} {o : HO} (h : H a = some o) : upd H a o = H := by
  funext b
  by_cases q : b = a
  · subst q; rw [upd_same, h]
  · rw [upd_ne q]
section
variable {α : Type} {K : PySem.W.Frag} {en : α → Dat}
inductive Rws (K : PySem.W.Frag) (N Hs : Hp) (en : α → Dat) : List (List Nat × List α) → List Addr → List (Key × V) → Prop where
  | nil : Rws K N Hs en [] [] []
  | cons {k : List Nat} {l : List α} {T : List (List Nat × List α)} {q : Addr} {qs : List Addr} {ws : List V} {kvs : List (Key × V)} : Hs q = some (.lst ws) → Ats K N ws (l.map en) → Rws K N Hs en T qs kvs → Rws K N Hs en ((k, l) :: T) (q :: qs) (((Sum.inr (SX.S k) : Key), .ref q) :: kvs)
theorem Rws.mono {N N' Hs : Hp} (s : Same N N') {T : List (List Nat × List α)} {qs : List Addr} {kvs : List (Key × V)} (h : Rws K N Hs en T qs kvs) : Rws K N' Hs en T qs kvs := by
  induction h with
  | nil => exact .nil
  | cons a b _ ih => exact .cons a (b.mono s) ih
theorem Rws.updH {N Hs : Hp} {a : Addr} {o : HO} {T : List (List Nat × List α)} {qs : List Addr} {kvs : List (Key × V)} (h : Rws K N Hs en T qs kvs) (ha : a ∉ qs) : Rws K N (upd Hs a o) en T qs kvs := by
  induction h with
  | nil => exact .nil
  | cons e b _ ih =>
    rw [List.mem_cons, not_or] at ha
    exact .cons (by rw [upd_ne (Ne.symm ha.1)]; exact e) b (ih ha.2)
theorem Rws.snoc {N Hs : Hp} {k : List Nat} {l : List α} {q : Addr} {ws : List V} (e : Hs q = some (.lst ws)) (b : Ats K N ws (l.map en)) {T : List (List Nat × List α)} {qs : List Addr} {kvs : List (Key × V)} (h : Rws K N Hs en T qs kvs) : Rws K N Hs en (T ++ [(k, l)]) (qs ++ [q]) (kvs ++ [((Sum.inr (SX.S k) : Key), .ref q)]) := by
  induction h with
  | nil => exact .cons e b .nil
  | cons e' b' _ ih => exact .cons e' b' ih
theorem Rws.len {N Hs : Hp} {T : List (List Nat × List α)} {qs : List Addr} {kvs : List (Key × V)} (h : Rws K N Hs en T qs kvs) : kvs.length = T.length := by
  induction h with
  | nil => rfl
  | cons _ _ _ ih => rw [List.length_cons, List.length_cons, ih]
theorem Rws.mem {N Hs : Hp} {T : List (List Nat × List α)} {qs : List Addr} {kvs : List (Key × V)} (h : Rws K N Hs en T qs kvs) : ∀ q ∈ qs, ∃ ws, Hs q = some (.lst ws) := by
  induction h with
  | nil => intro q hq; cases hq
  | cons e b _ ih =>
    intro q hq
    rcases List.mem_cons.mp hq with rfl | hq
    · exact ⟨_, e⟩
    · exact ih q hq
theorem Rws.any {N Hs : Hp} {T : List (List Nat × List α)} {qs : List Addr} {kvs : List (Key × V)} (h : Rws K N Hs en T qs kvs) (k : List Nat) : (kvs.any fun kv => decide (kv.1 = (Sum.inr (SX.S k) : Key))) = T.any fun p => decide (p.1 = k) := by
  induction h with
  | nil => rfl
  | @cons k' l T q qs ws kvs _ _ _ ih =>
    rw [List.any_cons, List.any_cons, ih]
    congr 1
    by_cases e : k' = k
    · subst e; simp
    · have : ¬ ((Sum.inr (SX.S k') : Key) = Sum.inr (SX.S k)) := fun z => e (SX.S_inj (Sum.inr.inj z))
      rw [decide_eq_false this, decide_eq_false e]
/-- the dict as data -/
theorem Rws.atk {N Hs : Hp} (hs : Same N Hs) {T : List (List Nat × List α)} {qs : List Addr} {kvs : List (Key × V)} (h : Rws K N Hs en T qs kvs) : Atk K Hs kvs (dm (lstd en) T) := by
  induction h with
  | nil => exact .nil
  | cons e b _ ih => exact .cons (.lst (.inl (.inl e)) (b.mono hs)) ih
theorem Rws.atk2 {N Hs G : Hp} (hs : Same N G) (hg : Same Hs G) {T : List (List Nat × List α)} {qs : List Addr} {kvs : List (Key × V)} (h : Rws K N Hs en T qs kvs) : Atk K G kvs (dm (lstd en) T) := by
  induction h with
  | nil => exact .nil
  | cons e b _ ih => exact .cons (.lst (.inl (.inl (hg _ _ e))) (b.mono hs)) ih
theorem Rws.flat {N Hs G : Hp} (f : ∀ a, flat (en a) = true) (hs : Same (Imm N) G) (hg : Same Hs G) {T : List (List Nat × List α)} {qs : List Addr} {kvs : List (Key × V)} (h : Rws K N Hs en T qs kvs) : Atk K G kvs (dm (lstd en) T) := by
  induction h with
  | nil => exact .nil
  | @cons k l T q qs ws kvs e b _ ih => exact .cons (.lst (.inl (.inl (hg _ _ e))) ((b.imm (flats_map f l)).mono hs)) ih
/-- the value of a key put otherwise -/
def dset (T : List (List Nat × List α)) (k : List Nat) (l' : List α) : List (List Nat × List α) := match T with
  | [] => []
  | p :: T => if p.1 = k then (p.1, l') :: T else p :: dset T k l'
theorem Rws.at_ {N Hs : Hp} {k : List Nat} {l : List α} {T : List (List Nat × List α)} {qs : List Addr} {kvs : List (Key × V)} (h : Rws K N Hs en T qs kvs) (hq : qs.Nodup) (hl : dget T k = some l) :
    ∃ q ws, q ∈ qs ∧ Hs q = some (.lst ws) ∧ Ats K N ws (l.map en) ∧ valV kvs (Sum.inr (SX.S k) : Key) = some (.ref q) ∧ ∀ N' ws' l', Same N N' → Ats K N' ws' (l'.map en) → Rws K N' (upd Hs q (.lst ws')) en (dset T k l') qs kvs := by
  induction h with
  | nil => cases hl
  | @cons k' l0 T q qs ws kvs e b h ih =>
    rw [List.nodup_cons] at hq
    rw [dget_cons] at hl
    by_cases c : k' = k
    · rw [if_pos c] at hl
      cases hl
      subst c
      refine ⟨q, ws, List.mem_cons_self, e, b, valV_pos rfl, fun N' ws' l' s a => ?_⟩
      unfold dset
      rw [if_pos rfl]
      exact .cons upd_same a ((h.mono s).updH hq.1)
    · rw [if_neg c] at hl
      obtain ⟨q', ws', a1, a2, a3, a4, a5⟩ := ih hq.2 hl
      have ne : ¬ ((Sum.inr (SX.S k') : Key) = Sum.inr (SX.S k)) := fun z => c (SX.S_inj (Sum.inr.inj z))
      refine ⟨q', ws', List.mem_cons_of_mem _ a1, a2, a3, by rw [valV_neg ne]; exact a4, fun N' ws2 l' s a => ?_⟩
      unfold dset
      rw [if_neg c]
      have nq : q ≠ q' := fun z => hq.1 (z ▸ a1)
      exact .cons (by rw [upd_ne nq]; exact e) (b.mono s) (a5 N' ws2 l' s a)
structure Nst (K : PySem.W.Frag) (N Hs : Hp) (p : Addr) (en : α → Dat) (T : List (List Nat × List α)) (qs : List Addr) (kvs : List (Key × V)) : Prop where
  r : Rws K N Hs en T qs kvs
  top : Hs p = some (.dK kvs)
  nd : (p :: qs).Nodup
  dom : ∀ a u, Hs a = some u → a ∈ p :: qs
theorem Nst.mut {N Hs : Hp} {p : Addr} {T : List (List Nat × List α)} {qs : List Addr} {kvs : List (Key × V)} (h : Nst K N Hs p en T qs kvs) {a : Addr} {u : HO} (e : Hs a = some u) : Mut (some u) := by
  rcases List.mem_cons.mp (h.dom a u e) with rfl | m
  · rw [h.top] at e; cases e; exact True.intro
  · obtain ⟨ws, e2⟩ := h.r.mem a m
    rw [e2] at e; cases e; exact True.intro
theorem Nst.mono {N N' Hs : Hp} (s : Same N N') {p : Addr} {T : List (List Nat × List α)} {qs : List Addr} {kvs : List (Key × V)} (h : Nst K N Hs p en T qs kvs) : Nst K N' Hs p en T qs kvs := ⟨h.r.mono s, h.top, h.nd, h.dom⟩
def St2 (K : PySem.W.Frag) (H0 : Hp) (i : Nat) (en : α → Dat) (ρ : Env') (T : List (List Nat × List α)) (σ : L2.St) (H N : Hp) : Prop := ∃ p Hs qs kvs, Nst K N Hs p en T qs kvs ∧ (∀ a u, Hs a = some u → H0 a = none) ∧ Rep K (Un H0 Hs) (ρ.set i (.rf p)) σ H N
end
/-- .. ends: on to what follows, or by an error or a value, when the dict is one's own no more -/
inductive Oc2 (α : Type) where
  | nx (ρ : Env') (T : List (List Nat × List α))
  | ex (n : Str) (ρ : Env')
  | rt (d : Dat)
def Cont2 {α : Type} (X : Cx) (H0 N : Hp) (i : Nat) (en : α → Dat) (D : Ends) : Oc2 α → Prop
  | .nx ρ T => ∀ σ H N', Same N N' → St2 X.K H0 i en ρ T σ H N' → D.nx σ H
  | .ex n ρ => ∃ W, Takes X W ∧ ∀ C σ H N', X.mg n = some (.ref C) → Same N N' → Rep X.K H0 ρ σ H N' → W (.ref C) none σ H
  | .rt d => ∀ v H, Same H0 H → Ret X.K H0 v d H → D.rt v H
section
variable {α β γ S R : Type} {X : Cx} {H0 : Hp} {i k : Nat} {en : α → Dat} {ρ ρ1 : Env'} {T T1 : List (List Nat × List α)} {st : Stmt} {sts rest body as bs : List Stmt} {b c e : Expr} {p1 pos : Pos} {o : Oc2 α} {D : γ → Oc2 α}
theorem Cont2.mono {N N' : Hp} {DD : Ends} (c : Cont2 X H0 N i en DD o) (s : Same N N') : Cont2 X H0 N' i en DD o := by
  cases o with
  | nx ρ T => exact fun σ H N2 s2 r => c σ H N2 (s.trans s2) r
  | ex n ρ =>
    obtain ⟨W, t, k⟩ := c
    exact ⟨W, t, fun C σ H N2 m s2 r => k C σ H N2 m (s.trans s2) r⟩
  | rt d => exact c
def Exec2 (X : Cx) (H0 : Hp) (i : Nat) (en : α → Dat) (ρ : Env') (T : List (List Nat × List α)) (sts : List Stmt) (o : Oc2 α) : Prop := ∀ D σ H N, St2 X.K H0 i en ρ T σ H N → Cont2 X H0 N i en D o → WB X sts D σ H
def ExS2 (X : Cx) (H0 : Hp) (i : Nat) (en : α → Dat) (ρ : Env') (T : List (List Nat × List α)) (st : Stmt) (o : Oc2 α) : Prop := ∀ D σ H N, St2 X.K H0 i en ρ T σ H N → Cont2 X H0 N i en D o → WS X st D σ H
def ExM2 (X : Cx) (H0 : Hp) (i : Nat) (en : α → Dat) (ρ : Env') (T : List (List Nat × List α)) (k : Nat) (sts : List Stmt) (D : γ → Oc2 α) (m : M γ) : Prop := match m with
  | .ok v => Exec2 X H0 i en ρ T sts (D v)
  | .ex n => Exec2 X H0 i en ρ T sts (.ex n (List.replicate k .no))
  | .far => True
theorem ex2_nil : Exec2 X H0 i en ρ T [] (.nx ρ T) := fun D σ H N r k => wb_of pss_nil (k σ H N (Same.refl _) r)
theorem ex2_then (h : ExS2 X H0 i en ρ T st (.nx ρ1 T1)) (t : Exec2 X H0 i en ρ1 T1 rest o) : Exec2 X H0 i en ρ T (st :: rest) o := fun D σ H N r c => by
  refine wb_of (pss_cons ps_w pb_w) ?_
  show WS X st { D with nx := WB X rest D } σ H
  exact h _ σ H N r fun σ' H' N' s r' => t D σ' H' N' r' (c.mono s)
theorem ex2_ex {n : Str} {ρ' : Env'} (h : ExS2 X H0 i en ρ T st (.ex n ρ')) : Exec2 X H0 i en ρ T (st :: rest) (.ex n ρ') := fun D σ H N r c => by
  refine wb_of (pss_cons ps_w pb_w) ?_
  show WS X st { D with nx := WB X rest D } σ H
  exact h _ σ H N r c
theorem xm2_then {m : M γ} (h : ExS2 X H0 i en ρ T st (.nx ρ1 T1)) (t : ExM2 X H0 i en ρ1 T1 k rest D m) : ExM2 X H0 i en ρ T k (st :: rest) D m := by
  cases m with
  | ok v => exact ex2_then h t
  | ex n => exact ex2_then h t
  | far => trivial
theorem xm2_gd {m : M γ} {g : Bool} (h : g = true → ExM2 X H0 i en ρ T k sts D m) : ExM2 X H0 i en ρ T k sts D (M.gd g m) := by
  cases g with
  | true => exact h rfl
  | false => trivial
theorem xm2_ofO {ob : Option β} {f : β → M γ} (h : ∀ r, ob = some r → ExM2 X H0 i en ρ T k sts D (f r)) : ExM2 X H0 i en ρ T k sts D (M.bind (M.ofO ob) f) := by
  cases ob with
  | some r => exact h r rfl
  | none => trivial
theorem xm2_bind {mb : M β} {f : β → M γ} (h : ∀ r, mb = .ok r → ExM2 X H0 i en ρ T k sts D (f r)) : ExM2 X H0 i en ρ T k sts D (M.bind (M.nox mb) f) := by
  cases mb with
  | ok r => exact h r rfl
  | ex _ => trivial
  | far => trivial
/-- the end of a block; names that are let go -/
theorem St2.drop {σ : L2.St} {H N : Hp} {K : PySem.W.Frag} (j : Nat) (hj : j ≠ i) (h : St2 K H0 i en ρ T σ H N) : St2 K H0 i en (ρ.set j .no) T σ H N := by
  obtain ⟨p, Hs, qs, kvs, n, d, r⟩ := h
  refine ⟨p, Hs, qs, kvs, n, d, ?_⟩
  rw [List.set_comm _ _ hj]
  exact r.drop j
theorem xm2_end {v : γ} (hD : D v = .nx ρ T := by rfl) : ExM2 X H0 i en ρ T k [] D (.ok v) := by
  show Exec2 X H0 i en ρ T [] (D v)
  rw [hD]
  exact ex2_nil
theorem xm2_drop {m : M γ} (j : Nat) (hj : j ≠ i) (h : ExM2 X H0 i en (ρ.set j .no) T k sts D m) : ExM2 X H0 i en ρ T k sts D m := by
  cases m with
  | ok v => exact fun DD σ H N r c => h DD σ H N (r.drop j hj) c
  | ex n => exact fun DD σ H N r c => h DD σ H N (r.drop j hj) c
  | far => trivial
/-- a statement that doesn't touch the dict -/
theorem sx2_plain (h : ∀ H0' p, ExS X H0' (ρ.set i (.rf p)) st (.nx (ρ1.set i (.rf p)))) : ExS2 X H0 i en ρ T st (.nx ρ1 T) := fun D σ H N ⟨p, Hs, qs, kvs, n, d, r⟩ c =>
  h (Un H0 Hs) p D σ H N r fun σ' H' N' s r' => c σ' H' N' s ⟨p, Hs, qs, kvs, n.mono s, d, r'⟩
theorem Rep.low2 {K : PySem.W.Frag} {Hs H N : Hp} {σ : L2.St} (d : ∀ a u, Hs a = some u → H0 a = none) (hn : noOl ρ) (r : Rep K (Un H0 Hs) ρ σ H N) : Rep K H0 ρ σ H N := by
  have so : Same H0 (Un H0 Hs) := fun a u e => by
    unfold Un
    cases q : Hs a with
    | none => exact e
    | some w => rw [d a w q] at e; cases e
  refine ⟨so.trans r.old, r.sub, (imm_same so).trans r.imm, fun a o e m => (un_none (r.fresh a o e m)).2, r.len, r.im, fun j x e => absurd e (hn j x), fun j x e => ?_, r.rf, r.apart⟩
  obtain ⟨q, a1, a2, a3, a4⟩ := r.ow j x e
  exact ⟨q, a1, (un_none a2).2, a3, a4⟩
theorem sx2_plainX {n : Str} {k : Nat} (h : ∀ H0' p, ExS X H0' (ρ.set i (.rf p)) st (.ex n (List.replicate k .no))) : ExS2 X H0 i en ρ T st (.ex n (List.replicate k .no)) := fun D σ H N ⟨p, Hs, qs, kvs, nn, d, r⟩ ⟨W, t, c⟩ =>
  h (Un H0 Hs) p D σ H N r ⟨W, t, fun C σ' H' N' m s r' => c C σ' H' N' m s (r'.low2 d (noOl_no k))⟩
theorem ws_one {DD : Ends} {σ : L2.St} {H : Hp} (h : WB X [st] DD σ H) : WS X st DD σ H := fun pins s I => by
  have := h pins s I
  rw [execs_one] at this
  exact this
theorem xm2_one {m : M β} {f : β → M γ} (eS : β → Env') (h : ∀ H0' p, ExM X H0' (ρ.set i (.rf p)) k [st] (fun r => .nx ((eS r).set i (.rf p))) m) (tt : ∀ r, ExM2 X H0 i en (eS r) T k rest D (f r)) : ExM2 X H0 i en ρ T k (st :: rest) D (M.bind m f) := by
  cases m with
  | ok r => exact xm2_then (sx2_plain fun H0' p => fun DD σ H N rp c => ws_one (h H0' p DD σ H N rp c)) (tt r)
  | ex n => exact ex2_ex (sx2_plainX fun H0' p => fun DD σ H N rp c => ws_one (h H0' p DD σ H N rp c))
  | far => trivial
/-! what is read of the dict while it grows -/
noncomputable def Un3 (H0 Hs N : Hp) : Hp := fun a => match Un H0 Hs a with
  | some u => some u
  | none => Imm N a
theorem un3_some {Hs N : Hp} {a : Addr} {u : HO} (h : Un H0 Hs a = some u) : Un3 H0 Hs N a = some u := by unfold Un3; rw [h]
theorem un3_cs {Hs N : Hp} {a : Addr} {u : HO} (h : Un3 H0 Hs N a = some u) : Un H0 Hs a = some u ∨ (Un H0 Hs a = none ∧ Imm N a = some u) := by
  unfold Un3 at h
  cases e : Un H0 Hs a with
  | some w => rw [e] at h; exact .inl h
  | none => rw [e] at h; exact .inr ⟨rfl, h⟩
theorem un3_none {Hs N : Hp} {a : Addr} (h : Un3 H0 Hs N a = none) : Un H0 Hs a = none := by
  cases e : Un H0 Hs a with
  | none => rfl
  | some u => rw [un3_some e] at h; cases h
/-- the dict seen as a thing that was handed in -/
theorem Rep.see {K : PySem.W.Frag} {Hs H N : Hp} {σ : L2.St} {p : Addr} {qs : List Addr} {kvs : List (Key × V)} (f : ∀ a, flat (en a) = true) (hn : noOl ρ) (hi : i < ρ.length) (n : Nst K N Hs p en T qs kvs) (r : Rep K (Un H0 Hs) (ρ.set i (.rf p)) σ H N) : Rep K (Un3 H0 Hs N) (ρ.set i (.ol (dicd (lstd en) T))) σ H N := by
  have hp : σ[i]? = some (some (V.ref p)) := r.rf i p (List.getElem?_set_self hi)
  have i3 : Same (Imm N) (Un3 H0 Hs N) := fun a u e => by
    unfold Un3
    cases q : Un H0 Hs a with
    | none => exact e
    | some w =>
      have e1 := r.old a w q
      rw [r.sub a u (imm_sub _ _ _ e)] at e1
      exact e1.symm
  have s3 : Same Hs (Un3 H0 Hs N) := fun a u e => un3_some (un_some e)
  refine ⟨fun a u e => ?_, r.sub, fun a u e => ?_, fun a u e mu => ?_, by rw [List.length_set]; have := r.len; rw [List.length_set] at this; exact this, fun j d e => ?_, fun j d e => ?_, fun j d e => ?_, fun j a e => ?_, fun j k d d' q ne a b c => ?_⟩
  · rcases un3_cs e with e | ⟨_, e⟩
    · exact r.old a u e
    · exact r.sub a u (imm_sub _ _ _ e)
  · have mu := imm_not e
    rcases un3_cs (imm_sub _ _ _ e) with e | ⟨_, e⟩
    · exact r.imm a u (imm_of e mu)
    · exact imm_sub _ _ _ e
  · unfold Un3
    rw [r.fresh a u e mu]
    cases q : Imm N a with
    | none => rfl
    | some w =>
      have := imm_sub _ _ _ q
      rw [e] at this
      cases this
      exact absurd mu (imm_not q)
  · rcases get_set e with ⟨_, z⟩ | ⟨ne, e⟩
    · cases z
    · exact r.im j d (by rw [List.getElem?_set_ne (Ne.symm ne)]; exact e)
  · rcases get_set e with ⟨rfl, z⟩ | ⟨_, e⟩
    · cases z
      exact ⟨_, hp, .dic (.inl (un3_some (un_some n.top))) (n.r.flat f i3 s3)⟩
    · exact absurd e (hn j d)
  · rcases get_set e with ⟨_, z⟩ | ⟨ne, e⟩
    · cases z
    · obtain ⟨q, a1, a2, a3, a4⟩ := r.ow j d (by rw [List.getElem?_set_ne (Ne.symm ne)]; exact e)
      refine ⟨q, a1, ?_, a3, a4⟩
      unfold Un3
      rw [a2]
      cases z : Imm N q with
      | none => rfl
      | some w => have := imm_sub _ _ _ z; rw [a3] at this; cases this
  · rcases get_set e with ⟨_, z⟩ | ⟨ne, e⟩
    · cases z
    · exact r.rf j a (by rw [List.getElem?_set_ne (Ne.symm ne)]; exact e)
  · rcases get_set a with ⟨_, z⟩ | ⟨n1, a⟩
    · cases z
    rcases get_set b with ⟨_, z⟩ | ⟨n2, b⟩
    · cases z
    exact r.apart j k d d' q ne (by rw [List.getElem?_set_ne (Ne.symm n1)]; exact a) (by rw [List.getElem?_set_ne (Ne.symm n2)]; exact b) c
theorem Rep.unsee {K : PySem.W.Frag} {Hs H N N' : Hp} {σ : L2.St} {p : Addr} {d : Dat} (hn : noOl ρ) (hp : σ[i]? = some (some (V.ref p))) (r : Rep K (Un3 H0 Hs N) (ρ.set i (.ol d)) σ H N') : Rep K (Un H0 Hs) (ρ.set i (.rf p)) σ H N' := by
  have so : Same (Un H0 Hs) (Un3 H0 Hs N) := fun a u e => un3_some e
  refine ⟨so.trans r.old, r.sub, (imm_same so).trans r.imm, fun a o e m => un3_none (r.fresh a o e m), by rw [List.length_set]; have := r.len; rw [List.length_set] at this; exact this, fun j x e => ?_, fun j x e => ?_, fun j x e => ?_, fun j a e => ?_, fun j k x x' q ne a b c => ?_⟩
  · rcases get_set e with ⟨_, z⟩ | ⟨n1, e⟩
    · cases z
    · exact r.im j x (by rw [List.getElem?_set_ne (Ne.symm n1)]; exact e)
  · rcases get_set e with ⟨_, z⟩ | ⟨n1, e⟩
    · cases z
    · exact absurd e (hn j x)
  · rcases get_set e with ⟨_, z⟩ | ⟨n1, e⟩
    · cases z
    · obtain ⟨q, a1, a2, a3, a4⟩ := r.ow j x (by rw [List.getElem?_set_ne (Ne.symm n1)]; exact e)
      exact ⟨q, a1, un3_none a2, a3, a4⟩
  · rcases get_set e with ⟨rfl, z⟩ | ⟨n1, e⟩
    · cases z; exact hp
    · exact r.rf j a (by rw [List.getElem?_set_ne (Ne.symm n1)]; exact e)
  · rcases get_set a with ⟨_, z⟩ | ⟨n1, a⟩
    · cases z
    rcases get_set b with ⟨_, z⟩ | ⟨n2, b⟩
    · cases z
    exact r.apart j k x x' q ne (by rw [List.getElem?_set_ne (Ne.symm n1)]; exact a) (by rw [List.getElem?_set_ne (Ne.symm n2)]; exact b) c
/-- if; the test may read the dict -/
theorem xm2_if {S : Type} {eS : S → Env'} {tS : S → List (List Nat × List α)} {g : Bool} {m1 m2 : M S} {f : S → M γ} (fl : ∀ a, flat (en a) = true) (hn : noOl ρ) (hi : i < ρ.length) (hc : ∀ H0', EvT X H0' (ρ.set i (.ol (dicd (lstd en) T))) c g) (h1 : g = true → ExM2 X H0 i en ρ T k as (fun s => .nx (eS s) (tS s)) m1) (h2 : g = false → ExM2 X H0 i en ρ T k bs (fun s => .nx (eS s) (tS s)) m2) (tt : ∀ s, ExM2 X H0 i en (eS s) (tS s) k rest D (f s)) :
    ExM2 X H0 i en ρ T k (.If c as bs pos :: rest) D (M.bind (if g = true then m1 else m2) f) := by
  have go : ∀ {o : Oc2 α}, (g = true → Exec2 X H0 i en ρ T as o) → (g = false → Exec2 X H0 i en ρ T bs o) → ExS2 X H0 i en ρ T (.If c as bs pos) o := fun {o} k1 k2 DD σ H N ⟨p, Hs, qs, kvs, n, d, r⟩ cc => by
    have hp : σ[i]? = some (some (V.ref p)) := r.rf i p (List.getElem?_set_self hi)
    refine ws_of (ps_if pt_w pb_w pb_w) ((hc _ σ H N (r.see fl hn hi n)).imp fun v H' ⟨e1, N', s, s2, r'⟩ => ?_)
    subst e1
    have st : St2 X.K H0 i en ρ T σ H' N' := ⟨p, Hs, qs, kvs, n.mono s2, d, r'.unsee hn hp⟩
    cases v with
    | true => exact iteT (k1 rfl DD σ H' N' st (cc.mono s2))
    | false => exact iteF (k2 rfl DD σ H' N' st (cc.mono s2))
  cases g with
  | true =>
    rw [if_pos rfl]
    have h1 := h1 rfl
    cases m1 with
    | ok v => exact xm2_then (go (fun _ => h1) (fun z => nomatch z)) (tt v)
    | ex n => exact ex2_ex (go (fun _ => h1) (fun z => nomatch z))
    | far => trivial
  | false =>
    rw [if_neg (by decide)]
    have h2 := h2 rfl
    cases m2 with
    | ok v => exact xm2_then (go (fun z => nomatch z) (fun _ => h2)) (tt v)
    | ex n => exact ex2_ex (go (fun z => nomatch z) (fun _ => h2))
    | far => trivial
/-! for -/
inductive ForT2 (X : Cx) (H0 : Hp) (i : Nat) (en : α → Dat) (j : Nat) (body : List Stmt) : List Dat → Env' → List (List Nat × List α) → Oc2 α → Prop where
  | nil {ρ : Env'} {T : List (List Nat × List α)} : ForT2 X H0 i en j body [] ρ T (.nx ρ T)
  | turn {ρ ρ1 : Env'} {T T1 : List (List Nat × List α)} {d : Dat} {ds : List Dat} {o : Oc2 α} : Exec2 X H0 i en (ρ.set j (.im d)) T body (.nx ρ1 T1) → ForT2 X H0 i en j body ds ρ1 T1 o → ForT2 X H0 i en j body (d :: ds) ρ T o
  | exc {ρ ρ1 : Env'} {T : List (List Nat × List α)} {d : Dat} {ds : List Dat} {n : Str} : Exec2 X H0 i en (ρ.set j (.im d)) T body (.ex n ρ1) → ForT2 X H0 i en j body (d :: ds) ρ T (.ex n ρ1)
/-- what is walked, whatever was there ahead -/
def IterA (X : Cx) (i : Nat) (ρ : Env') (t e : Expr) (ds : List Dat) : Prop := ∃ wi, PI X t e wi ∧ ∀ H0' p σ H N, Rep X.K H0' (ρ.set i (.rf p)) σ H N → ∀ R, (∀ J H1 N1, Same N N1 → Same H H1 → Rep X.K H0' (ρ.set i (.rf p)) σ H1 N1 → (∀ G, Walks X.K G J N1 ds) → R J H1) → wi σ H R
theorem itA_r1 {t a : Expr} {p : Pos} {z : Int} (h : ∀ H0' p, Ev X H0' (ρ.set i (.rf p)) a (.int z)) (hb : rngOk 0 z = true) (hm : X.mg "range" = none) (hg : Gl X "range" := by rfl) (hs : starEach [a] X.env = [(false, eval a X.env)] := by rfl) :
    IterA X i ρ t (.Call (.Name "range" p) [a] [] pos) ((rng 0 1 z.toNat).map Dat.int) := ⟨_, pi_range1 hg hm pa_w hs, fun H0' q σ H N r R k => (ea_cons (h H0' q) ea_nil (hs := hs) σ H N r).imp fun vs H' ⟨N', s, n, r', g⟩ => by
  have hb' := rngOk_ok hb
  exact ⟨z, ats1 g, hb'.2.2.1, hb'.2.2.2, k _ H' N' n s r' fun G => by rw [← rng_steps]; exact wlk_r⟩⟩
theorem sx2_for {t iter : Expr} {ds : List Dat} {j : Nat} {x : Str} {p0 : Pos} (hp : PassesOwn (model X.prog X.w) X.A X.env X.xe) (hc : X.calm = true) (hi : IterA X i ρ (.Name x p0) iter ds) (nd : X.N.Nodup) (hij : j ≠ i) (h : ForT2 X H0 i en j body ds ρ T o)
    (hs : ∀ x, foldedSetIterable iter X.env x = pure x := by intro _; rfl) (hj : X.N[j]? = some x := by rfl) (hx : Loc X.env.scope x := by first | exact Or.inl rfl | exact Or.inr rfl) (hf : X.fn x = true ∨ X.env.scope.names.lookup x = some .local := by first | exact .inl rfl | exact .inr rfl | assumption) : ExS2 X H0 i en ρ T (.For (.Name x p0) iter body [] pos) o := fun D σ H N ⟨p, Hs, qs, kvs, n, d, r⟩ k => by
  obtain ⟨wi, pi, hw⟩ := hi
  refine ws_of (ps_for hp hc pi (pg_name nd hj hx hf) pb_w hs) (hw (Un H0 Hs) p σ H N r _ fun J H1 N1 n1 s1 r1 w => ?_)
  refine ⟨fun a m σ' H' => m = ds.length - a ∧ a ≤ ds.length ∧ ∃ ρ' T' N', Same N1 N' ∧ St2 X.K H0 i en ρ' T' σ' H' N' ∧ ForT2 X H0 i en j body (ds.drop a) ρ' T' o, ⟨_, rfl, Nat.zero_le _, ρ, T, N1, Same.refl _, ⟨p, Hs, qs, kvs, n.mono n1, d, r1⟩, h⟩, ?_⟩
  rintro a m σ' H' ⟨rfl, ha, ρ', T', N', s', st', f⟩
  obtain ⟨p', Hs', qs', kvs', n', d', r'⟩ := id st'
  obtain ⟨wg, wst⟩ := w (Un H0 Hs') (Un H0 Hs') _ σ' H' N' a (Same.refl _) s' r'
  by_cases hlt : a < ds.length
  · obtain ⟨go, yl⟩ := wg hlt
    have e1 : ds.drop a = ds[a] :: ds.drop (a + 1) := List.drop_eq_getElem_cons hlt
    rw [e1] at f
    have base : ∀ (O : Oc2 α) (Dx : Ends), Exec2 X H0 i en (ρ'.set j (.im ds[a])) T' body O → (∀ N3, Same N1 N3 → Cont2 X H0 N3 i en Dx O) → ∀ x H2, J.yld a H' x H2 → gName j x σ' H2 fun σ3 H3 => WB X body Dx σ3 H3 := fun O Dx ex kk x H2 y => by
      obtain ⟨N3, dd, n3, s3, r3, e3, a3⟩ := yl x H2 y
      have ed : dd = ds[a] := by
        rw [List.getElem?_eq_getElem hlt] at e3
        exact (Option.some.inj e3).symm
      subst ed
      have r4 := r3.setE (i := j) (e := .im ds[a]) a3
      rw [List.set_comm _ _ (Ne.symm hij)] at r4
      exact ex Dx _ H2 N3 ⟨p', Hs', qs', kvs', n'.mono n3, d', r4⟩ (kk N3 (s'.trans n3))
    have again : ∀ ρ1 T1, ForT2 X H0 i en j body (ds.drop (a + 1)) ρ1 T1 o → ∀ σ3 H3, (∃ N3, Same N1 N3 ∧ St2 X.K H0 i en ρ1 T1 σ3 H3 N3) → ∃ m', m' < ds.length - a ∧ m' = ds.length - (a + 1) ∧ a + 1 ≤ ds.length ∧ ∃ ρ' T' N', Same N1 N' ∧ St2 X.K H0 i en ρ' T' σ3 H3 N' ∧ ForT2 X H0 i en j body (ds.drop (a + 1)) ρ' T' o :=
      fun ρ1 T1 ff σ3 H3 ⟨N3, q1, q2⟩ => ⟨ds.length - (a + 1), by omega, rfl, hlt, ρ1, T1, N3, q1, q2, ff⟩
    cases f with
    | @turn _ ρ1 _ T1 _ _ _ ex ff => exact .inr ⟨go, fun σ3 H3 => ∃ N3, Same N1 N3 ∧ St2 X.K H0 i en ρ1 T1 σ3 H3 N3, again ρ1 T1 ff, base (.nx ρ1 T1) _ ex fun N3 q3 σ3 H3 N4 q4 r4 => ⟨N4, q3.trans q4, r4⟩⟩
    | @exc _ ρ1 _ _ _ nn ex => exact .inr ⟨go, fun _ _ => False, fun _ _ z => z.elim, base (.ex nn ρ1) _ ex fun N3 q3 => Cont2.mono (o := .ex nn ρ1) k (n1.trans q3)⟩
  · have e1 : a = ds.length := by omega
    subst e1
    rw [List.drop_length] at f
    cases f
    exact .inl ⟨wst rfl, k σ' H' N' (n1.trans s') st'⟩
theorem forM2_T {S : Type} {ea : β → Dat} {j : Nat} {eS : S → Env'} {tS : S → List (List Nat × List α)} {f : β → S → M S} (hb : ∀ x s, ExM2 X H0 i en ((eS s).set j (.im (ea x))) (tS s) k body (fun s => .nx (eS s) (tS s)) (f x s)) : ∀ (xs : List β) (s : S), match forM f xs s with | .ok s' => ForT2 X H0 i en j body (xs.map ea) (eS s) (tS s) (.nx (eS s') (tS s')) | .ex n => ForT2 X H0 i en j body (xs.map ea) (eS s) (tS s) (.ex n (List.replicate k .no)) | .far => True
  | [], s => .nil
  | x :: xs, s => by
    have h := hb x s
    unfold forM
    cases e : f x s with
    | ok s1 =>
      rw [e] at h
      have ih := forM2_T hb xs s1
      show match forM f xs s1 with | .ok s' => _ | .ex n => _ | .far => True
      cases e2 : forM f xs s1 with
      | ok s2 => rw [e2] at ih; exact .turn h ih
      | ex n => rw [e2] at ih; exact .turn h ih
      | far => trivial
    | ex n => rw [e] at h; exact .exc h
    | far => trivial
theorem xm2_for {S : Type} {ea : β → Dat} {iter : Expr} {x : Str} {p0 : Pos} {eS : S → Env'} {tS : S → List (List Nat × List α)} {xs : List β} {s0 : S} {f : β → S → M S} {fk : S → M γ} (j : Nat) (hp : PassesOwn (model X.prog X.w) X.A X.env X.xe) (hc : X.calm = true) (hi : IterA X i ρ (.Name x p0) iter (xs.map ea)) (nd : X.N.Nodup) (hij : j ≠ i) (h0 : ρ = eS s0) (ht : T = tS s0) (hb : ∀ x s, ExM2 X H0 i en ((eS s).set j (.im (ea x))) (tS s) k body (fun s => .nx (eS s) (tS s)) (f x s)) (tt : ∀ s, ExM2 X H0 i en (eS s) (tS s) k rest D (fk s))
    (hs : ∀ x, foldedSetIterable iter X.env x = pure x := by intro _; rfl) (hj : X.N[j]? = some x := by rfl) (hx : Loc X.env.scope x := by first | exact Or.inl rfl | exact Or.inr rfl) (hf : X.fn x = true ∨ X.env.scope.names.lookup x = some .local := by first | exact .inl rfl | exact .inr rfl | assumption) : ExM2 X H0 i en ρ T k (.For (.Name x p0) iter body [] pos :: rest) D (M.bind (forM f xs s0) fk) := by
  have h := forM2_T hb xs s0
  subst h0
  subst ht
  cases e : forM f xs s0 with
  | ok s => rw [e] at h; exact xm2_then (sx2_for (t := iter) hp hc hi nd hij h hs hj hx hf) (tt s)
  | ex n => rw [e] at h; exact ex2_ex (sx2_for (t := iter) hp hc hi nd hij h hs hj hx hf)
  | far => trivial
/-! the begin and the end -/
theorem Rep.toRf {K : PySem.W.Frag} {H N : Hp} {σ : L2.St} {p : Addr} (hp : σ[i]? = some (some (V.ref p))) (r : Rep K H0 (ρ.set i .no) σ H N) : Rep K H0 (ρ.set i (.rf p)) σ H N := by
  refine ⟨r.old, r.sub, r.imm, r.fresh, by rw [List.length_set]; have := r.len; rw [List.length_set] at this; exact this, fun j d e => ?_, fun j d e => ?_, fun j d e => ?_, fun j a e => ?_, fun j k d d' q ne a b c => ?_⟩
  · rcases get_set e with ⟨_, z⟩ | ⟨n1, e⟩
    · cases z
    · exact r.im j d (by rw [List.getElem?_set_ne (Ne.symm n1)]; exact e)
  · rcases get_set e with ⟨_, z⟩ | ⟨n1, e⟩
    · cases z
    · exact r.ol j d (by rw [List.getElem?_set_ne (Ne.symm n1)]; exact e)
  · rcases get_set e with ⟨_, z⟩ | ⟨n1, e⟩
    · cases z
    · exact r.ow j d (by rw [List.getElem?_set_ne (Ne.symm n1)]; exact e)
  · rcases get_set e with ⟨rfl, z⟩ | ⟨n1, e⟩
    · cases z; exact hp
    · exact r.rf j a (by rw [List.getElem?_set_ne (Ne.symm n1)]; exact e)
  · rcases get_set a with ⟨_, z⟩ | ⟨n1, a⟩
    · cases z
    rcases get_set b with ⟨_, z⟩ | ⟨n2, b⟩
    · cases z
    exact r.apart j k d d' q ne (by rw [List.getElem?_set_ne (Ne.symm n1)]; exact a) (by rw [List.getElem?_set_ne (Ne.symm n2)]; exact b) c
theorem noOl_set' {e : Ent} (h : noOl ρ) (he : ∀ d, e ≠ .ol d) : noOl (ρ.set i e) := fun j d q => by
  rcases get_set q with ⟨_, z⟩ | ⟨_, q⟩
  · exact he d z.symm
  · exact h j d q
theorem xm2_start {en0 : List α → Dat} {eR : γ → Dat} {m : M γ} (hi : ρ[i]? = some (.ow (dicd en0 []))) (hn : noOl ρ) (h : ExM2 X H0 i en (ρ.set i .no) [] k sts (fun r => .rt (eR r)) m) : ExM X H0 ρ k sts (fun r => .rt (eR r)) m := by
  have go : ∀ {o : Oc2 α} {o' : Outc}, Exec2 X H0 i en (ρ.set i .no) [] sts o → (∀ N DD, Cont X H0 N DD o' → Cont2 X H0 N i en DD o) → Exec X H0 ρ sts o' := fun {o o'} h hc DD σ H N r c => by
    obtain ⟨p, e1, h0, np, vs, e2, e3⟩ := r.ow i _ hi
    cases e3
    refine h DD σ H N ⟨p, upd (fun _ => none) p (.dK []), [], [], ⟨.nil, upd_same, by simp, fun a u e => ?_⟩, fun a u e => ?_, ?_⟩ (hc N DD c)
    · by_cases q : a = p
      · exact List.mem_singleton.mpr q
      · rw [upd_ne q] at e; cases e
    · by_cases q : a = p
      · rw [q]; exact h0
      · rw [upd_ne q] at e; cases e
    · have r1 := (r.drop i).upd0 (noOl_set' hn fun d z => by cases z) (a := p) (o := .dK []) True.intro np (fun j d' e z => by
        rcases get_set e with ⟨_, w⟩ | ⟨n1, e⟩
        · cases w
        · exact r.apart j i _ _ _ n1 e hi z e1)
      rw [upd_id e2] at r1
      have e0 : Un H0 (fun _ => none) = H0 := rfl
      rw [un_upd, e0, List.set_set] at *
      exact r1.toRf e1
  cases m with
  | ok r => exact go h fun N DD c => c
  | ex n => exact go h fun N DD c => c
  | far => trivial
theorem xm_setOV {en0 : β → Dat} {v : β} {f : β → M γ} {Dx : γ → Outc} {x : Str} {pos' : Pos} (i : Nat) (h : EvO X H0 ρ e (en0 v)) (nd : X.N.Nodup) (t : ExM X H0 (ρ.set i (.ow (en0 v))) k rest Dx (f v)) (hi : X.N[i]? = some x := by rfl) (hx : Loc X.env.scope x := by first | exact Or.inl rfl | exact Or.inr rfl)
    (hs : swapsWith e (some (.Name x pos')) pos.line X.env = pure false := by rfl) (hf : X.fn x = true ∨ X.env.scope.names.lookup x = some .local := by first | exact .inl rfl | exact .inr rfl | assumption) : ExM X H0 ρ k (.Assign [.Name x pos'] e pos :: rest) Dx (M.lt v f) := xm_then (sx_setO i h nd rfl hi hx hs hf) t
theorem xm2_freeze {eR : γ → Dat} {m : M γ} (hn : noOl ρ) (hi : i < ρ.length) (h : ExM X H0 (ρ.set i (.im (dicd (lstd en) T))) k sts (fun r => .rt (eR r)) m) : ExM2 X H0 i en ρ T k sts (fun r => .rt (eR r)) m := by
  have go : ∀ {o : Oc2 α} {o' : Outc}, Exec X H0 (ρ.set i (.im (dicd (lstd en) T))) sts o' → (∀ N N' DD, Same N N' → Cont2 X H0 N i en DD o → Cont X H0 N' DD o') → Exec2 X H0 i en ρ T sts o := fun {o o'} h hc DD σ H N ⟨p, Hs, qs, kvs, n, d, r⟩ c => by
    have hp : σ[i]? = some (some (V.ref p)) := r.rf i p (List.getElem?_set_self hi)
    have nn : ∀ a u, Hs a = some u → N a = none := fun a u e => n_of r (un_some e) (n.mut e)
    have sN : Same N (Un N Hs) := fun a u e => by
      unfold Un
      cases q : Hs a with
      | none => exact e
      | some w => rw [nn a w q] at e; cases e
    have sH : Same Hs (Un N Hs) := fun a u e => un_some e
    refine h DD σ H (Un N Hs) ?_ (hc N _ DD sN c)
    have so : Same H0 (Un H0 Hs) := fun a u e => by
      unfold Un
      cases q : Hs a with
      | none => exact e
      | some w => rw [d a w q] at e; cases e
    refine ⟨so.trans r.old, fun a u e => ?_, ((imm_same so).trans r.imm).trans sN, fun a u e m => ?_, by rw [List.length_set]; have := r.len; rw [List.length_set] at this; exact this, fun j x e => ?_, fun j x e => ?_, fun j x e => ?_, fun j a e => ?_, fun j k x x' q ne a b c => ?_⟩
    · unfold Un at e
      cases q : Hs a with
      | none => rw [q] at e; exact r.sub a u e
      | some w => rw [q] at e; cases e; exact r.old a _ (un_some q)
    · unfold Un at e
      cases q : Hs a with
      | none => rw [q] at e; exact (un_none (r.fresh a u e m)).2
      | some w => exact d a w q
    · rcases get_set e with ⟨rfl, z⟩ | ⟨n1, e⟩
      · cases z
        exact ⟨_, hp, .dic (.inl (sH _ _ n.top)) (n.r.atk2 sN sH)⟩
      · obtain ⟨v, a1, a2⟩ := r.im j x (by rw [List.getElem?_set_ne (Ne.symm n1)]; exact e)
        exact ⟨v, a1, a2.mono sN⟩
    · rcases get_set e with ⟨_, z⟩ | ⟨n1, e⟩
      · cases z
      · exact absurd e (hn j x)
    · rcases get_set e with ⟨_, z⟩ | ⟨n1, e⟩
      · cases z
      · obtain ⟨q, a1, a2, a3, a4⟩ := r.ow j x (by rw [List.getElem?_set_ne (Ne.symm n1)]; exact e)
        obtain ⟨z1, z2⟩ := un_none a2
        refine ⟨q, a1, z2, by unfold Un; rw [z1]; exact a3, ?_⟩
        cases x with
        | lst ds => obtain ⟨vs, b1, b2⟩ := a4; exact ⟨vs, b1, b2.mono sN⟩
        | dic ds => obtain ⟨vs, b1, b2⟩ := a4; exact ⟨vs, b1, b2.mono sN⟩
        | non => exact a4.elim
        | bl _ => exact a4.elim
        | int _ => exact a4.elim
        | str _ => exact a4.elim
        | tup _ => exact a4.elim
    · rcases get_set e with ⟨_, z⟩ | ⟨n1, e⟩
      · cases z
      · exact r.rf j a (by rw [List.getElem?_set_ne (Ne.symm n1)]; exact e)
    · rcases get_set a with ⟨_, z⟩ | ⟨n1, a⟩
      · cases z
      rcases get_set b with ⟨_, z⟩ | ⟨n2, b⟩
      · cases z
      exact r.apart j k x x' q ne (by rw [List.getElem?_set_ne (Ne.symm n1)]; exact a) (by rw [List.getElem?_set_ne (Ne.symm n2)]; exact b) c
  cases m with
  | ok r => exact go h fun N N' DD s c => c
  | ex n => exact go h fun N N' DD s ⟨W, t, c⟩ => ⟨W, t, fun C σ H N2 m s2 r => c C σ H N2 m (s.trans s2) r⟩
  | far => trivial
/-! what is put and changed -/
theorem nst_noq {K : PySem.W.Frag} {N Hs : Hp} {p q : Addr} {qs : List Addr} {kvs : List (Key × V)} (n : Nst K N Hs p en T qs kvs) (h : Hs q = none) : q ∉ p :: qs := fun m => by
  rcases List.mem_cons.mp m with rfl | m
  · rw [n.top] at h; cases h
  · obtain ⟨ws, e⟩ := n.r.mem q m
    rw [e] at h; cases h
/-- d[key] = a new list, where the key is none of d's -/
theorem xm2_put {l : List α} {key : List Nat} {y : Str} {p2 : Pos} {f : List (List Nat × List α) → M γ} (hn : noOl ρ) (hi : i < ρ.length) (he : ∀ H0' p, EvO X H0' (ρ.set i (.rf p)) e (lstd en l)) (hb : ∀ H0' p, Ev X H0' (ρ.set i (.rf p)) b (tx key)) (hz : lenLt T = true) (hk : (!dhas T key) = true) (hu : X.A.units + 1 < cLine) (tt : ∀ T, ExM2 X H0 i en ρ T k rest D (f T)) (hN : X.N[i]? = some y := by rfl) (hv : Vis X.env.scope y := by first | exact Or.inl rfl | exact Or.inr (Or.inl rfl) | exact Or.inr (Or.inr rfl))
    (hd : (y == ("__debug__" : Str)) = false := by decide) (hcd : (y == ("__classdict__" : Str)) = false := by decide) (hs : swapsWith e (some (.Subscript (.Name y p1) b p2)) pos.line X.env = pure false := by rfl) :
    ExM2 X H0 i en ρ T k (.Assign [.Subscript (.Name y p1) b p2] e pos :: rest) D (M.lt (T ++ [(key, l)]) f) := by
  refine xm2_then (ρ1 := ρ) (T1 := T ++ [(key, l)]) (fun DD σ H N ⟨p, Hs, qs, kvs, n, d, r⟩ kk => ?_) (tt _)
  have hp : σ[i]? = some (some (V.ref p)) := r.rf i p (List.getElem?_set_self hi)
  have hn' : noOl (ρ.set i (.rf p)) := noOl_set hn
  refine ws_of (ps_dput hu (pv i hN hv hd hcd) pe_w pe_w hs) ((he _ p σ H N r).imp fun v H1 ⟨N1, q, e1, hq, s1, n1, r1, nq, ws, w1, w2⟩ => ?_)
  have uq : Un H0 Hs q = none := by
    cases z : Un H0 Hs q with
    | none => rfl
    | some u => rw [r.old q u z] at hq; cases hq
  obtain ⟨hsq, h0q⟩ := un_none uq
  have notin := nst_noq n hsq
  have npq : p ≠ q := fun z => notin (by rw [← z]; exact List.mem_cons_self)
  have r1' := r1.upd0 hn' (a := q) (o := .lst ws) True.intro nq (fun j d' e => no_own r hq j d' e)
  rw [upd_id w1, ← un_upd] at r1'
  refine ⟨_, hp, (hb _ p σ H1 N1 r1').imp fun z H2 ⟨N2, s2, n2, r2, a2⟩ => ?_⟩
  have h5 := at_str a2
  subst h5
  subst e1
  have top2 : H2 p = some (.dK kvs) := r2.old p _ (un_some (by rw [upd_ne npq]; exact n.top))
  have any0 : (kvs.any fun kv => decide (kv.1 = (Sum.inr (SX.S key) : Key))) = false := by
    rw [n.r.any key]
    have hk' : dhas T key = false := by simpa using hk
    cases z : (T.any fun p => decide (p.1 = key)) with
    | false => rfl
    | true =>
      exfalso
      have : ∀ T : List (List Nat × List α), (T.any fun p => decide (p.1 = key)) = true → (dget T key).isSome = true := by
        intro T
        induction T with
        | nil => intro h; cases h
        | cons a T ih =>
          intro h
          rw [dget_cons]
          by_cases c : a.1 = key
          · rw [if_pos c]; rfl
          · rw [if_neg c]
            rw [List.any_cons, decide_eq_false c, Bool.false_or] at h
            exact ih h
      have h3 := this T z
      have h4 : dhas T key = (dget T key).isSome := rfl
      rw [← h4, hk'] at h3
      cases h3
  have hput : putK kvs (Sum.inr (SX.S key) : Key) (V.ref q) = kvs ++ [((Sum.inr (SX.S key) : Key), V.ref q)] := by
    unfold putK
    rw [any0, if_neg (by decide)]
  refine ⟨p, _, rfl, .inl ⟨kvs, Sum.inr (SX.S key), top2, rfl, ?_, rfl⟩, kk σ _ N2 (n1.trans n2) ?_⟩
  · rw [n.r.len]; exact lenLt_ok hz
  rw [hput]
  have up : Un H0 (upd Hs q (.lst ws)) p = some (.dK kvs) := un_some (by rw [upd_ne npq]; exact n.top)
  have np2 := n_of r2 up True.intro
  have r3 := r2.upd0 hn' (a := p) (o := .dK (kvs ++ [((Sum.inr (SX.S key) : Key), V.ref q)])) True.intro np2 (own_ne r2 up)
  rw [← un_upd] at r3
  rw [List.mem_cons, not_or] at notin
  have pq : p ∉ qs := (List.nodup_cons.mp n.nd).1
  refine ⟨p, _, qs ++ [q], _, ⟨?_, upd_same, ?_, fun a u z => ?_⟩, fun a u z => ?_, r3⟩
  · refine Rws.updH (Rws.snoc (q := q) (ws := ws) upd_same (w2.mono n2) ((n.r.mono (n1.trans n2)).updH notin.2)) ?_
    rw [List.mem_append, not_or]
    exact ⟨pq, fun m => notin.1 (List.mem_singleton.mp m).symm⟩
  · rw [show p :: (qs ++ [q]) = (p :: qs) ++ [q] from rfl, List.nodup_append]
    refine ⟨n.nd, by simp, fun a ha b hb z => ?_⟩
    rw [List.mem_singleton.mp hb] at z
    subst z
    rcases List.mem_cons.mp ha with m | m
    · exact notin.1 m
    · exact notin.2 m
  · by_cases c : a = p
    · subst c; exact List.mem_cons_self
    · rw [upd_ne c] at z
      by_cases c2 : a = q
      · subst c2; simp
      · rw [upd_ne c2] at z
        rcases List.mem_cons.mp (n.dom a u z) with m | m
        · exact absurd m c
        · exact List.mem_cons_of_mem _ (List.mem_append_left _ m)
  · by_cases c : a = p
    · subst c; exact d _ _ n.top
    · rw [upd_ne c] at z
      by_cases c2 : a = q
      · subst c2; exact h0q
      · rw [upd_ne c2] at z
        exact d a u z
/-- d[key][j] += u -/
theorem xm2_aug {T : List (List Nat × List Int)} {D : γ → Oc2 Int} {l l2 : List Int} {j w u : Int} {key : List Nat} {y : Str} {p2 p3 : Pos} {ix : Expr} {f : List (List Nat × List Int) → M γ} (hn : noOl ρ) (hi : i < ρ.length) (hb : ∀ H0' p, Ev X H0' (ρ.set i (.rf p)) b (tx key)) (hl : dget T key = some l) (hx : ∀ H0' p, Ev X H0' (ρ.set i (.rf p)) ix (.int j)) (h0 : decide (0 ≤ j) = true) (hj : atI l j = some w) (hv : ∀ H0' p, Ev X H0' (ρ.set i (.rf p)) e (.int u)) (hl2 : setI l j (w + u) = some l2) (hu : X.A.units + 1 < cLine) (tt : ∀ T, ExM2 X H0 i Dat.int ρ T k rest D (f T)) (hN : X.N[i]? = some y := by rfl) (hvis : Vis X.env.scope y := by first | exact Or.inl rfl | exact Or.inr (Or.inl rfl) | exact Or.inr (Or.inr rfl))
    (hd : (y == ("__debug__" : Str)) = false := by decide) (hcd : (y == ("__classdict__" : Str)) = false := by decide) (hsl : NoSl b := by exact fun _ _ => rfl)
    (hp : ∀ te to ti, PE X e te → PE X (.Subscript (.Name y p1) b p2) to → PE X ix ti → PS X (.AugAssign (.Subscript (.Subscript (.Name y p1) b p2) ix p3) .Add e pos) (tAugS to ti te rGetL (ipI fun i j => i + j) rSetL) := by exact fun te to ti h g f => ps_augS g f get_list h ip_add set_list) :
    ExM2 X H0 i Dat.int ρ T k (.AugAssign (.Subscript (.Subscript (.Name y p1) b p2) ix p3) .Add e pos :: rest) D (M.lt (dset T key l2) f) := by
  have h0 := of_decide_eq_true h0
  obtain ⟨q0, rfl⟩ := Int.eq_ofNat_of_zero_le h0
  unfold setI at hl2
  obtain ⟨q2, hj1, hj2⟩ := Option.map_eq_some_iff.mp hl2
  have e1 : q2 = q0 ∧ q0 < l.length := by
    unfold ixN at hj1
    rw [if_pos (by omega)] at hj1
    split at hj1
    · have := Option.some.inj hj1
      rw [Int.toNat_natCast] at this
      omega
    · cases hj1
  obtain ⟨rfl, hlt⟩ := e1
  have hg : (l.map Dat.int)[q2]? = some (.int w) := by
    unfold atI at hj
    rw [hj1] at hj
    rw [List.getElem?_map, show l[q2]? = some w from hj]
    rfl
  refine xm2_then (ρ1 := ρ) (T1 := dset T key l2) (fun DD σ H N ⟨p, Hs, qs, kvs, n, d, r⟩ kk => ?_) (tt _)
  have hpp : σ[i]? = some (some (V.ref p)) := r.rf i p (List.getElem?_set_self hi)
  have hn' : noOl (ρ.set i (.rf p)) := noOl_set hn
  obtain ⟨q, ws, m1, m2, m3, m4, m5⟩ := n.r.at_ (List.nodup_cons.mp n.nd).2 hl
  have wl : ws.length = l.length := by rw [m3.length, List.length_map]
  refine ws_of (hp _ _ _ pe_w (pe_dget hu (pv i hN hvis hd hcd) pe_w hsl) pe_w) ⟨_, hpp, (hb _ p σ H N r).imp fun v H1 ⟨N1, s1, n1, r1, a1⟩ => ?_⟩
  have h5 := at_str a1
  subst h5
  refine ⟨p, V.ref q, rfl, .inl ⟨kvs, Sum.inr (SX.S key), .inl (r1.old p _ (un_some n.top)), rfl, m4.symm⟩, (hx _ p σ H1 N1 r1).imp fun v2 H2 ⟨N2, s2, n2, r2, a2⟩ => ?_⟩
  obtain ⟨z, z1, z2⟩ := m3.get hg
  refine ⟨q, ws, q2, z, rfl, at_int a2, r2.old q _ (un_some m2), z1, (hv _ p σ H2 N2 r2).imp fun v3 H3 ⟨N3, s3, n3, r3, a3⟩ => ⟨w, u, at_int z2, at_int a3, ?_⟩⟩
  have uq : Un H0 Hs q = some (.lst ws) := un_some m2
  refine ⟨q, ws, q2, q2, rfl, at_int a2, r3.old q _ uq, ?_, kk σ _ N3 ((n1.trans n2).trans n3) ?_⟩
  · unfold ixN
    rw [if_pos (by omega), if_pos (by omega), Int.toNat_natCast]
  have nq := n_of r3 uq True.intro
  have r4 := r3.upd0 hn' (a := q) (o := .lst (ws.set q2 (.int (w + u)))) True.intro nq (own_ne r3 uq)
  rw [← un_upd] at r4
  have pq : p ≠ q := fun z => (List.nodup_cons.mp n.nd).1 (z ▸ m1)
  refine ⟨p, _, qs, kvs, ⟨?_, by rw [upd_ne pq]; exact n.top, n.nd, fun a u z => ?_⟩, fun a u z => ?_, r4⟩
  · refine m5 N3 _ l2 ((n1.trans n2).trans n3) ?_
    have := (m3.mono ((n1.trans n2).trans n3)).set (.int (w + u)) q2
    rw [← hj2, List.map_set]
    exact this
  · by_cases c : a = q
    · subst c; exact List.mem_cons_of_mem _ m1
    · rw [upd_ne c] at z; exact n.dom a u z
  · by_cases c : a = q
    · subst c; exact d _ _ m2
    · rw [upd_ne c] at z; exact d a u z
end
end B

namespace B
open PySem PySem.Spec PyProof.Rows L2
/-! ### for key in dict -/
/-- what reads the same there -/
def RdS (N G : Hp) : Prop := ∀ a, (∀ xs, Rd N a (.tup xs) → Rd G a (.tup xs)) ∧ (∀ xs, Rd N a (.lst xs) → Rd G a (.lst xs)) ∧ ∀ kvs, Rd N a (.dK kvs) → Rd G a (.dK kvs)
mutual
theorem At.rds {K : PySem.W.Frag} {N G : Hp} (e : RdS N G) : ∀ {v : V} {d : Dat}, At K N v d → At K G v d
  | _, _, .non => .non
  | _, _, .bl b => .bl b
  | _, _, .int i => .int i
  | _, _, .str s => .str s
  | _, _, .tup h t => .tup (h.imp ((e _).1 _) id) (Ats.rds e t)
  | _, _, .lst h t => .lst (h.imp ((e _).2.1 _) id) (Ats.rds e t)
  | _, _, .dic h t => .dic ((e _).2.2 _ h) (Atk.rds e t)
theorem Ats.rds {K : PySem.W.Frag} {N G : Hp} (e : RdS N G) : ∀ {vs : List V} {ds : List Dat}, Ats K N vs ds → Ats K G vs ds
  | _, _, .nil => .nil
  | _, _, .cons a t => .cons (At.rds e a) (Ats.rds e t)
theorem Atk.rds {K : PySem.W.Frag} {N G : Hp} (e : RdS N G) : ∀ {vs : List (Key × V)} {ds : List (Key × Dat)}, Atk K N vs ds → Atk K G vs ds
  | _, _, .nil => .nil
  | _, _, .cons a t => .cons (At.rds e a) (Atk.rds e t)
end
theorem rds_lock {N : Hp} {d : Addr} {kvs : List (Key × V)} {od : Obj} (h : N d = some (.dK kvs)) : RdS N (upd N d (.frz od (.dK kvs))) := fun a => by
  have go : ∀ u, Rd N a u → (∀ o u', u ≠ .frz o u') → Rd (upd N d (.frz od (.dK kvs))) a u := fun u r hu => by
    by_cases q : a = d
    · subst q
      rcases r with r | ⟨o, r⟩
      · rw [h] at r; cases r; exact .inr ⟨od, upd_same⟩
      · rw [h] at r; cases r
    · rcases r with r | ⟨o, r⟩
      · exact .inl (by rw [upd_ne q]; exact r)
      · exact .inr ⟨o, by rw [upd_ne q]; exact r⟩
  exact ⟨fun xs r => go _ r (fun o u' z => by cases z), fun xs r => go _ r (fun o u' z => by cases z), fun ks r => go _ r (fun o u' z => by cases z)⟩
theorem rds_unlock {N : Hp} {d : Addr} {kvs : List (Key × V)} {od : Obj} (h : N d = some (.frz od (.dK kvs))) : RdS N (upd N d (.dK kvs)) := fun a => by
  have go : ∀ u, Rd N a u → (∀ o u', u ≠ .frz o u') → Rd (upd N d (.dK kvs)) a u := fun u r hu => by
    by_cases q : a = d
    · subst q
      rcases r with r | ⟨o, r⟩
      · rw [h] at r; cases r; exact absurd rfl (hu _ _)
      · rw [h] at r; cases r; exact .inl upd_same
    · rcases r with r | ⟨o, r⟩
      · exact .inl (by rw [upd_ne q]; exact r)
      · exact .inr ⟨o, by rw [upd_ne q]; exact r⟩
  exact ⟨fun xs r => go _ r (fun o u' z => by cases z), fun xs r => go _ r (fun o u' z => by cases z), fun ks r => go _ r (fun o u' z => by cases z)⟩
theorem Own.rds {K : PySem.W.Frag} {H H' N G : Hp} {p : Addr} {d : Dat} (e : RdS N G) (hp : H' p = H p) (h : Own K H N p d) : Own K H' G p d := by
  cases d with
  | lst ds => obtain ⟨vs, b1, b2⟩ := h; exact ⟨vs, by rw [hp]; exact b1, b2.rds e⟩
  | dic ds => obtain ⟨vs, b1, b2⟩ := h; exact ⟨vs, by rw [hp]; exact b1, b2.rds e⟩
  | non => exact h.elim
  | bl _ => exact h.elim
  | int _ => exact h.elim
  | str _ => exact h.elim
  | tup _ => exact h.elim
theorem Rep.lockN {K : PySem.W.Frag} {H0 H N : Hp} {ρ : Env'} {σ : L2.St} {d : Addr} {kvs : List (Key × V)} (r : Rep K H0 ρ σ H N) (h : N d = some (.dK kvs)) (od : Obj) : Rep K H0 ρ σ (upd H d (.frz od (.dK kvs))) (upd N d (.frz od (.dK kvs))) := by
  have h0 : H0 d = none := r.fresh d _ h True.intro
  have ne : ∀ {a : Addr} {u : HO}, H0 a = some u → a ≠ d := fun {a u} e q => by rw [q, h0] at e; cases e
  have rd := rds_lock (od := od) h
  refine ⟨fun a u e => by rw [upd_ne (ne e)]; exact r.old a u e, fun a u e => ?_, fun a u e => by rw [upd_ne (ne (imm_sub _ _ _ e))]; exact r.imm a u e, fun a u e m => ?_, r.len, fun j x e => ?_, r.ol, fun j x e => ?_, r.rf, r.apart⟩
  · by_cases q : a = d
    · subst q; rw [upd_same] at e ⊢; exact e
    · rw [upd_ne q] at e ⊢; exact r.sub a u e
  · by_cases q : a = d
    · subst q; rw [upd_same] at e; cases e; exact m.elim
    · rw [upd_ne q] at e; exact r.fresh a u e m
  · obtain ⟨v, a1, a2⟩ := r.im j x e
    exact ⟨v, a1, a2.rds rd⟩
  · obtain ⟨p, a1, a2, a3, a4⟩ := r.ow j x e
    have q : p ≠ d := fun q => by rw [q, h] at a3; cases a3
    exact ⟨p, a1, a2, by rw [upd_ne q]; exact a3, a4.rds rd (upd_ne q)⟩
theorem Rep.unlockN {K : PySem.W.Frag} {H0 H N : Hp} {ρ : Env'} {σ : L2.St} {d : Addr} {kvs : List (Key × V)} {od : Obj} (r : Rep K H0 ρ σ H N) (h : N d = some (.frz od (.dK kvs))) (h0 : H0 d = none) : Rep K H0 ρ σ (upd H d (.dK kvs)) (upd N d (.dK kvs)) := by
  have ne : ∀ {a : Addr} {u : HO}, H0 a = some u → a ≠ d := fun {a u} e q => by rw [q, h0] at e; cases e
  have rd := rds_unlock h
  refine ⟨fun a u e => by rw [upd_ne (ne e)]; exact r.old a u e, fun a u e => ?_, fun a u e => by rw [upd_ne (ne (imm_sub _ _ _ e))]; exact r.imm a u e, fun a u e m => ?_, r.len, fun j x e => ?_, r.ol, fun j x e => ?_, r.rf, r.apart⟩
  · by_cases q : a = d
    · subst q; rw [upd_same] at e ⊢; exact e
    · rw [upd_ne q] at e ⊢; exact r.sub a u e
  · by_cases q : a = d
    · subst q; exact h0
    · rw [upd_ne q] at e; exact r.fresh a u e m
  · obtain ⟨v, a1, a2⟩ := r.im j x e
    exact ⟨v, a1, a2.rds rd⟩
  · obtain ⟨p, a1, a2, a3, a4⟩ := r.ow j x e
    have q : p ≠ d := fun q => by rw [q, h] at a3; cases a3
    exact ⟨p, a1, a2, by rw [upd_ne q]; exact a3, a4.rds rd (upd_ne q)⟩
section
variable {α β γ S : Type} {X : Cx} {H0 : Hp} {k : Nat} {en : α → Dat} {ρ ρ1 : Env'} {st : Stmt} {sts rest body : List Stmt} {b c e : Expr} {p1 pos : Pos} {o : Outc} {D : γ → Outc}
/-- a for in one state -/
theorem ws_for {t iter : Expr} {wi : TI} {bd : Dat → Env' → Env'} {ok : Dat → Prop} {ds : List Dat} {DD : Ends} {σ : L2.St} {H N : Hp} (hp : PassesOwn (model X.prog X.w) X.A X.env X.xe) (hc : X.calm = true) (pi : PI X t iter wi) (hw : ∀ R, (∀ J H1 N1, Same N N1 → Same H H1 → Rep X.K H0 ρ σ H1 N1 → Walks X.K H0 J N1 ds → R J H1) → wi σ H R) (hg : Tgt X H0 t ok bd) (hk : ∀ d ∈ ds, ok d) (h : ForT X H0 bd body ds ρ o) (k : Cont X H0 N DD o)
    (hs : ∀ x, foldedSetIterable iter X.env x = pure x) : WS X (.For t iter body [] pos) DD σ H := by
  obtain ⟨g, pg, hgg⟩ := hg.pg
  refine ws_of (ps_for hp hc pi pg pb_w hs) (hw _ fun J H1 N1 n1 s1 r1 w => ?_)
  refine ⟨fun i m σ' H' => m = ds.length - i ∧ i ≤ ds.length ∧ ∃ ρ' N', Same N1 N' ∧ Rep X.K H0 ρ' σ' H' N' ∧ ForT X H0 bd body (ds.drop i) ρ' o, ⟨_, rfl, Nat.zero_le _, ρ, N1, Same.refl _, r1, h⟩, ?_⟩
  rintro i m σ' H' ⟨rfl, hi, ρ', N', s', r', f⟩
  obtain ⟨wg, wst⟩ := w H0 ρ' σ' H' N' i (Same.refl _) s' r'
  by_cases hlt : i < ds.length
  · obtain ⟨go, yl⟩ := wg hlt
    have e1 : ds.drop i = ds[i] :: ds.drop (i + 1) := List.drop_eq_getElem_cons hlt
    rw [e1] at f
    have base : ∀ (O : Outc) (Dx : Ends), Exec X H0 (bd ds[i] ρ') body O → (∀ N3, Same N1 N3 → Cont X H0 N3 Dx O) → ∀ x H2, J.yld i H' x H2 → g x σ' H2 fun σ3 H3 => WB X body Dx σ3 H3 := fun O Dx ex kk x H2 y => by
      obtain ⟨N3, d, n3, s3, r3, e3, a3⟩ := yl x H2 y
      have ed : d = ds[i] := by
        rw [List.getElem?_eq_getElem hlt] at e3
        exact (Option.some.inj e3).symm
      subst ed
      exact hgg ρ' σ' H2 N3 x _ r3 a3 (hk _ (List.getElem_mem hlt)) _ fun σ4 H4 N4 n4 r4 => ex Dx σ4 H4 N4 r4 (kk N4 ((s'.trans n3).trans n4))
    have again : ∀ ρ1, ForT X H0 bd body (ds.drop (i + 1)) ρ1 o → ∀ σ3 H3, (∃ N3, Same N1 N3 ∧ Rep X.K H0 ρ1 σ3 H3 N3) → ∃ m', m' < ds.length - i ∧ m' = ds.length - (i + 1) ∧ i + 1 ≤ ds.length ∧ ∃ ρ' N', Same N1 N' ∧ Rep X.K H0 ρ' σ3 H3 N' ∧ ForT X H0 bd body (ds.drop (i + 1)) ρ' o :=
      fun ρ1 ff σ3 H3 ⟨N3, q1, q2⟩ => ⟨ds.length - (i + 1), by omega, rfl, hlt, ρ1, N3, q1, q2, ff⟩
    cases f with
    | @turn _ ρ1 _ _ _ ex ff => exact .inr ⟨go, fun σ3 H3 => ∃ N3, Same N1 N3 ∧ Rep X.K H0 ρ1 σ3 H3 N3, again ρ1 ff, base (.nx ρ1) _ ex fun N3 q3 σ3 H3 N4 q4 r4 => ⟨N4, q3.trans q4, r4⟩⟩
    | @turnC _ ρ1 _ _ _ ex ff => exact .inr ⟨go, fun σ3 H3 => ∃ N3, Same N1 N3 ∧ Rep X.K H0 ρ1 σ3 H3 N3, again ρ1 ff, base (.ct ρ1) _ ex fun N3 q3 σ3 H3 N4 q4 r4 => ⟨N4, q3.trans q4, r4⟩⟩
    | @brk _ ρ1 _ _ ex => exact .inr ⟨go, fun _ _ => False, fun _ _ z => z.elim, base (.bk ρ1) _ ex fun N3 q3 σ3 H3 N4 q4 r4 => k σ3 H3 N4 ((n1.trans q3).trans q4) r4⟩
    | ret ex => exact .inr ⟨go, fun _ _ => False, fun _ _ z => z.elim, base _ _ ex fun N3 q3 => k⟩
    | retO ex => exact .inr ⟨go, fun _ _ => False, fun _ _ z => z.elim, base _ _ ex fun N3 q3 => k⟩
    | @exc _ ρ1 _ _ n ex => exact .inr ⟨go, fun _ _ => False, fun _ _ z => z.elim, base (.ex n ρ1) _ ex fun N3 q3 => Cont.mono (o := .ex n ρ1) k (n1.trans q3)⟩
  · have e1 : i = ds.length := by omega
    subst e1
    rw [List.drop_length] at f
    cases f
    exact .inl ⟨wst rfl, k σ' H' N' (n1.trans s') r'⟩
theorem atk_ks {K : PySem.W.Frag} {H : Hp} : ∀ {l : List (List Nat × α)} {vs : List (Key × V)}, Atk K H vs (dm en l) → vs.length = l.length ∧ ∀ (i : Nat) (k : Key) (v : V), vs[i]? = some (k, v) → ∃ x, l[i]? = some x ∧ kV k = .str (SX.S x.1)
  | [], vs, h => by cases h; exact ⟨rfl, fun i k v e => by cases e⟩
  | p :: l, vs, h => by
    cases h with
    | cons ha ht =>
      obtain ⟨h1, h2⟩ := atk_ks ht
      refine ⟨by rw [List.length_cons, List.length_cons, h1], fun i k v e => ?_⟩
      cases i with
      | zero => cases e; exact ⟨p, rfl, rfl⟩
      | succ i => exact h2 i k v e
theorem wlk_k {K : PySem.W.Frag} {G N1 : Hp} {d : Addr} {od : Obj} {kvs : List (Key × V)} {l : List (List Nat × α)} (hd : N1 d = some (.frz od (.dK kvs)) ∨ G d = some (.frz od (.dK kvs))) (hl : kvs.length = l.length ∧ ∀ (i : Nat) (k : Key) (v : V), kvs[i]? = some (k, v) → ∃ x, l[i]? = some x ∧ kV k = .str (SX.S x.1)) : Walks K G (Itk d od kvs) N1 (l.map fun p => tx p.1) := fun H02 ρ2 σ2 H2 N2 i s02 s2 r2 => by
  have h2 : H2 d = some (.frz od (.dK kvs)) := by
    rcases hd with hd | hd
    · exact r2.sub _ _ (s2 _ _ hd)
    · exact r2.old _ _ (s02 _ _ hd)
  refine ⟨fun hi => ⟨⟨h2, by rw [hl.1]; rwa [List.length_map] at hi⟩, fun x H3 y => ?_⟩, fun hi => ⟨h2, by rw [hl.1]; rw [List.length_map] at hi; omega⟩⟩
  obtain ⟨rfl, k, v, e1, rfl⟩ := y
  obtain ⟨z, z1, z2⟩ := hl.2 i k v e1
  refine ⟨N2, tx z.1, Same.refl _, Same.refl _, r2, by rw [List.getElem?_map, z1]; rfl, ?_⟩
  rw [z2]
  exact .str _
/-- for key in d, d a thing of ours that no one changes any more -/
theorem sx_forK {t : Expr} {bd : Dat → Env' → Env'} {ok : Dat → Prop} {l : List (List Nat × α)} (i : Nat) {y : Str} (hp : PassesOwn (model X.prog X.w) X.A X.env X.xe) (hc : X.calm = true) (hi : ρ[i]? = some (.im (dicd en l))) (hg : Tgt X H0 t ok bd) (hok : ∀ d ∈ (l.map fun p => tx p.1), ok d) (h : ForT X H0 bd body (l.map fun p => tx p.1) ρ (.nx ρ1))
    (hN : X.N[i]? = some y := by rfl) (hv : Vis X.env.scope y := by first | exact Or.inl rfl | exact Or.inr (Or.inl rfl) | exact Or.inr (Or.inr rfl)) (hd : (y == ("__debug__" : Str)) = false := by decide) (hcd : (y == ("__classdict__" : Str)) = false := by decide)
    (hs : ∀ x, foldedSetIterable (.Name y p1) X.env x = pure x := by intro _; rfl) : ExS X H0 ρ (.For t (.Name y p1) body [] pos) (.nx ρ1) := fun DD σ H N r c => by
  obtain ⟨v, e1, a⟩ := r.im i _ hi
  obtain ⟨d, kvs, rfl, rd, ak⟩ := at_dic a
  have hk := atk_ks ak
  rcases rd with e2 | ⟨od, e2⟩
  · refine ws_of (ps_lock ps_w) ⟨d, .dK kvs, r.sub _ _ e2, True.intro, fun od => ?_⟩
    have h0 : H0 d = none := r.fresh d _ e2 True.intro
    have rl := r.lockN e2 od
    refine ws_for (H0 := H0) (ρ := ρ) hp hc (pi_keys (pv i hN hv hd hcd)) (fun R kk => ⟨_, e1, d, od, rfl, .inl ⟨kvs, upd_same, kk _ _ _ (Same.refl _) (Same.refl _) rl (wlk_k (.inl upd_same) hk)⟩⟩) hg hok h (fun σ' H' N' s r' => ⟨r'.sub _ _ (s _ _ upd_same), ?_⟩) hs
    have nd := s _ _ upd_same
    refine c σ' _ _ (fun a u e => ?_) (r'.unlockN nd h0)
    by_cases q : a = d
    · subst q; rw [e2] at e; rw [upd_same]; exact e
    · rw [upd_ne q]; exact s a u (by rw [upd_ne q]; exact e)
  · exact ws_for (H0 := H0) (ρ := ρ) hp hc (pi_keys (pv i hN hv hd hcd)) (fun R kk => ⟨_, e1, d, od, rfl, .inl ⟨kvs, r.sub _ _ e2, kk _ _ _ (Same.refl _) (Same.refl _) r (wlk_k (.inl e2) hk)⟩⟩) hg hok h c hs
theorem xm_forK {eS : S → Env'} {l : List (List Nat × α)} {s0 : S} {t : Expr} {bd : Dat → Env' → Env'} {ok : Dat → Prop} {f : List Nat → S → M S} {fk : S → M γ} (i : Nat) {y : Str} (hp : PassesOwn (model X.prog X.w) X.A X.env X.xe) (hc : X.calm = true) (hi : ρ[i]? = some (.im (dicd en l))) (hg : Tgt X H0 t ok bd) (hok : ∀ d ∈ (l.map fun p => tx p.1), ok d) (h0 : ρ = eS s0) (hb : ∀ x s, ExM X H0 (bd (tx x) (eS s)) k body (fun s => .nx (eS s)) (f x s)) (tt : ∀ s, ExM X H0 (eS s) k rest D (fk s))
    (hN : X.N[i]? = some y := by rfl) (hv : Vis X.env.scope y := by first | exact Or.inl rfl | exact Or.inr (Or.inl rfl) | exact Or.inr (Or.inr rfl)) (hd : (y == ("__debug__" : Str)) = false := by decide) (hcd : (y == ("__classdict__" : Str)) = false := by decide)
    (hs : ∀ x, foldedSetIterable (.Name y p1) X.env x = pure x := by intro _; rfl) : ExM X H0 ρ k (.For t (.Name y p1) body [] pos :: rest) D (M.bind (M.nox (forM f (l.map (·.1)) s0)) fk) := by
  have h := forM_T hb (l.map (·.1)) s0
  subst h0
  rw [List.map_map] at h
  cases e : forM f (l.map (·.1)) s0 with
  | ok s =>
    rw [e] at h
    exact xm_then (sx_forK i hp hc hi hg hok h hN hv hd hcd hs) (tt s)
  | ex n => trivial
  | far => trivial
/-! .. d handed in -/
/-- all that is held is flat, lists and dicts of one's own hold flat things -/
def FlatE (ρ : Env') : Prop := (∀ (j : Nat) (d : Dat), ρ[j]? = some (Ent.im d) → flat d = true) ∧ (∀ (j : Nat) (ds : List Dat), ρ[j]? = some (Ent.ow (.lst ds)) → ∀ d ∈ ds, flat d = true) ∧ ∀ (j : Nat) (ds : List (Key × Dat)), ρ[j]? = some (Ent.ow (.dic ds)) → ∀ d ∈ ds, flat d.2 = true
mutual
theorem At.flat2 {K : PySem.W.Frag} {N G : Hp} (e : ∀ a xs, SqT K N a xs → SqT K G a xs) : ∀ {v : V} {d : Dat}, At K N v d → flat d = true → At K G v d
  | _, _, .non, _ => .non
  | _, _, .bl b, _ => .bl b
  | _, _, .int i, _ => .int i
  | _, _, .str s, _ => .str s
  | _, _, .tup h t, f => .tup (e _ _ h) (Ats.flat2 e t f)
  | _, _, .lst _ _, f => by cases f
  | _, _, .dic _ _, f => by cases f
theorem Ats.flat2 {K : PySem.W.Frag} {N G : Hp} (e : ∀ a xs, SqT K N a xs → SqT K G a xs) : ∀ {vs : List V} {ds : List Dat}, Ats K N vs ds → flats ds = true → Ats K G vs ds
  | _, _, .nil, _ => .nil
  | _, _, .cons a t, f => by
    simp only [flats, Bool.and_eq_true] at f
    exact .cons (At.flat2 e a f.1) (Ats.flat2 e t f.2)
end
theorem Ats.flat3 {K : PySem.W.Frag} {N G : Hp} (e : ∀ a xs, SqT K N a xs → SqT K G a xs) : ∀ {vs : List V} {ds : List Dat}, Ats K N vs ds → (∀ d ∈ ds, flat d = true) → Ats K G vs ds
  | _, _, .nil, _ => .nil
  | _, _, .cons a t, f => .cons (a.flat2 e (f _ List.mem_cons_self)) (Ats.flat3 e t fun d hd => f d (List.mem_cons_of_mem _ hd))
theorem Atk.flat3 {K : PySem.W.Frag} {N G : Hp} (e : ∀ a xs, SqT K N a xs → SqT K G a xs) : ∀ {vs : List (Key × V)} {ds : List (Key × Dat)}, Atk K N vs ds → (∀ d ∈ ds, flat d.2 = true) → Atk K G vs ds
  | _, _, .nil, _ => .nil
  | _, _, .cons a t, f => .cons (a.flat2 e (f _ List.mem_cons_self)) (Atk.flat3 e t fun d hd => f d (List.mem_cons_of_mem _ hd))
open Classical in
noncomputable def wo (N : Hp) (d : Addr) : Hp := fun a => if a = d then none else N a
theorem wo_ne {N : Hp} {a d : Addr} (h : a ≠ d) : wo N d a = N a := by unfold wo; rw [if_neg h]
theorem wo_some {N : Hp} {a d : Addr} {u : HO} (h : wo N d a = some u) : a ≠ d ∧ N a = some u := by
  unfold wo at h
  by_cases q : a = d
  · rw [if_pos q] at h; cases h
  · rw [if_neg q] at h; exact ⟨q, h⟩
theorem Rep.lock0 {K : PySem.W.Frag} {H N : Hp} {σ : L2.St} {d : Addr} {kvs : List (Key × V)} (r : Rep K H0 ρ σ H N) (h : H0 d = some (.dK kvs)) (od : Obj) : Rep K (upd H0 d (.frz od (.dK kvs))) ρ σ (upd H d (.frz od (.dK kvs))) (upd N d (.frz od (.dK kvs))) := by
  have nd := n_of r h True.intro
  have sN : Same N (upd N d (.frz od (.dK kvs))) := Same.of_none nd
  have rd := rds_lock (od := od) h
  refine ⟨fun a u e => ?_, fun a u e => ?_, fun a u e => ?_, fun a u e m => ?_, r.len, fun j x e => ?_, fun j x e => ?_, fun j x e => ?_, r.rf, r.apart⟩
  · by_cases q : a = d
    · subst q; rw [upd_same] at e ⊢; exact e
    · rw [upd_ne q] at e ⊢; exact r.old a u e
  · by_cases q : a = d
    · subst q; rw [upd_same] at e ⊢; exact e
    · rw [upd_ne q] at e ⊢; exact r.sub a u e
  · have mu := imm_not e
    have e1 := imm_sub _ _ _ e
    by_cases q : a = d
    · subst q; rw [upd_same] at e1 ⊢; exact e1
    · rw [upd_ne q] at e1 ⊢; exact r.imm a u (imm_of e1 mu)
  · by_cases q : a = d
    · subst q; rw [upd_same] at e; cases e; exact m.elim
    · rw [upd_ne q] at e ⊢; exact r.fresh a u e m
  · obtain ⟨v, a1, a2⟩ := r.im j x e
    exact ⟨v, a1, a2.mono sN⟩
  · obtain ⟨v, a1, a2⟩ := r.ol j x e
    exact ⟨v, a1, a2.rds rd⟩
  · obtain ⟨p, a1, a2, a3, a4⟩ := r.ow j x e
    have q : p ≠ d := fun q => by rw [q, h] at a2; cases a2
    refine ⟨p, a1, by rw [upd_ne q]; exact a2, by rw [upd_ne q]; exact a3, ?_⟩
    cases x with
    | lst ds => obtain ⟨vs, b1, b2⟩ := a4; exact ⟨vs, by rw [upd_ne q]; exact b1, b2.mono sN⟩
    | dic ds => obtain ⟨vs, b1, b2⟩ := a4; exact ⟨vs, by rw [upd_ne q]; exact b1, b2.mono sN⟩
    | non => exact a4.elim
    | bl _ => exact a4.elim
    | int _ => exact a4.elim
    | str _ => exact a4.elim
    | tup _ => exact a4.elim
theorem Rep.unlock0 {K : PySem.W.Frag} {H N : Hp} {σ : L2.St} {d : Addr} {kvs : List (Key × V)} {od : Obj} (r : Rep K (upd H0 d (.frz od (.dK kvs))) ρ σ H N) (h : H0 d = some (.dK kvs)) (f : FlatE ρ) : Rep K H0 ρ σ (upd H d (.dK kvs)) (wo N d) := by
  have hd : H d = some (.frz od (.dK kvs)) := r.old _ _ upd_same
  have sq : ∀ a xs, SqT K N a xs → SqT K (wo N d) a xs := fun a xs e => by
    have ne : ∀ {u : HO}, N a = some u → (u = .tup xs ∨ ∃ o, u = .frz o (.tup xs)) → a ≠ d := fun {u} e1 e2 q => by
      have := r.sub a u e1
      rw [q, hd] at this
      cases this
      rcases e2 with e2 | ⟨o, e2⟩ <;> cases e2
    rcases e with (e | ⟨o, e⟩) | e
    · exact .inl (.inl (by rw [wo_ne (ne e (.inl rfl))]; exact e))
    · exact .inl (.inr ⟨o, by rw [wo_ne (ne e (.inr ⟨o, rfl⟩))]; exact e⟩)
    · exact .inr e
  have rd : RdS (upd H0 d (.frz od (.dK kvs))) H0 := by
    have := rds_unlock (N := upd H0 d (.frz od (.dK kvs))) (d := d) (kvs := kvs) (od := od) upd_same
    have e : upd (upd H0 d (.frz od (.dK kvs))) d (.dK kvs) = H0 := by
      funext a
      by_cases q : a = d
      · subst q; rw [upd_same, h]
      · rw [upd_ne q, upd_ne q]
    rwa [e] at this
  refine ⟨fun a u e => ?_, fun a u e => ?_, fun a u e => ?_, fun a u e m => ?_, r.len, fun j x e => ?_, fun j x e => ?_, fun j x e => ?_, r.rf, r.apart⟩
  · by_cases q : a = d
    · subst q; rw [h] at e; rw [upd_same]; exact e
    · rw [upd_ne q]; exact r.old a u (by rw [upd_ne q]; exact e)
  · obtain ⟨q, e⟩ := wo_some e
    rw [upd_ne q]; exact r.sub a u e
  · have mu := imm_not e
    have e1 := imm_sub _ _ _ e
    have q : a ≠ d := fun q => by rw [q, h] at e1; cases e1; exact mu True.intro
    rw [wo_ne q]
    exact r.imm a u (imm_of (by rw [upd_ne q]; exact e1) mu)
  · obtain ⟨q, e⟩ := wo_some e
    have := r.fresh a u e m
    rwa [upd_ne q] at this
  · obtain ⟨v, a1, a2⟩ := r.im j x e
    exact ⟨v, a1, a2.flat2 sq (f.1 j x e)⟩
  · obtain ⟨v, a1, a2⟩ := r.ol j x e
    exact ⟨v, a1, a2.rds rd⟩
  · obtain ⟨p, a1, a2, a3, a4⟩ := r.ow j x e
    have q : p ≠ d := fun q => by rw [q, upd_same] at a2; cases a2
    rw [upd_ne q] at a2
    refine ⟨p, a1, a2, by rw [wo_ne q]; exact a3, ?_⟩
    cases x with
    | lst ds => obtain ⟨vs, b1, b2⟩ := a4; exact ⟨vs, by rw [upd_ne q]; exact b1, b2.flat3 sq (f.2.1 j ds e)⟩
    | dic ds => obtain ⟨vs, b1, b2⟩ := a4; exact ⟨vs, by rw [upd_ne q]; exact b1, b2.flat3 sq (f.2.2 j ds e)⟩
    | non => exact a4.elim
    | bl _ => exact a4.elim
    | int _ => exact a4.elim
    | str _ => exact a4.elim
    | tup _ => exact a4.elim
theorem sx_forK0 {t : Expr} {bd : Dat → Env' → Env'} {ok : Dat → Prop} {l : List (List Nat × α)} (i : Nat) {y : Str} (hp : PassesOwn (model X.prog X.w) X.A X.env X.xe) (hc : X.calm = true) (hi : ρ[i]? = some (.ol (dicd en l))) (hf : FlatE ρ1) (hg : ∀ H0, Tgt X H0 t ok bd) (hok : ∀ d ∈ (l.map fun p => tx p.1), ok d) (h : ∀ H0, ForT X H0 bd body (l.map fun p => tx p.1) ρ (.nx ρ1))
    (hN : X.N[i]? = some y := by rfl) (hv : Vis X.env.scope y := by first | exact Or.inl rfl | exact Or.inr (Or.inl rfl) | exact Or.inr (Or.inr rfl)) (hd : (y == ("__debug__" : Str)) = false := by decide) (hcd : (y == ("__classdict__" : Str)) = false := by decide)
    (hs : ∀ x, foldedSetIterable (.Name y p1) X.env x = pure x := by intro _; rfl) : ExS X H0 ρ (.For t (.Name y p1) body [] pos) (.nx ρ1) := fun DD σ H N r c => by
  obtain ⟨v, e1, a⟩ := r.ol i _ hi
  obtain ⟨d, kvs, rfl, rd, ak⟩ := at_dic a
  have hk := atk_ks ak
  rcases rd with e2 | ⟨od, e2⟩
  · refine ws_of (ps_lock ps_w) ⟨d, .dK kvs, r.old _ _ e2, True.intro, fun od => ?_⟩
    have nd := n_of r e2 True.intro
    have rl := r.lock0 e2 od
    refine ws_for (H0 := upd H0 d (.frz od (.dK kvs))) (ρ := ρ) hp hc (pi_keys (pv i hN hv hd hcd)) (fun R kk => ⟨_, e1, d, od, rfl, .inl ⟨kvs, upd_same, kk _ _ _ (Same.refl _) (Same.refl _) rl (wlk_k (.inl upd_same) hk)⟩⟩) (hg _) hok (h _) (fun σ' H' N' s r' => ⟨r'.old _ _ upd_same, ?_⟩) hs
    refine c σ' _ _ (fun a u e => ?_) (r'.unlock0 e2 hf)
    have q : a ≠ d := fun q => by rw [q, nd] at e; cases e
    rw [wo_ne q]; exact s a u (by rw [upd_ne q]; exact e)
  · exact ws_for (H0 := H0) (ρ := ρ) hp hc (pi_keys (pv i hN hv hd hcd)) (fun R kk => ⟨_, e1, d, od, rfl, .inl ⟨kvs, r.old _ _ e2, kk _ _ _ (Same.refl _) (Same.refl _) r (wlk_k (.inr e2) hk)⟩⟩) (hg _) hok (h _) c hs
theorem xm_forK0 {eS : S → Env'} {l : List (List Nat × α)} {s0 : S} {t : Expr} {bd : Dat → Env' → Env'} {ok : Dat → Prop} {f : List Nat → S → M S} {fk : S → M γ} (i : Nat) {y : Str} (hp : PassesOwn (model X.prog X.w) X.A X.env X.xe) (hc : X.calm = true) (hi : ρ[i]? = some (.ol (dicd en l))) (hf : ∀ s, FlatE (eS s)) (hg : ∀ H0, Tgt X H0 t ok bd) (hok : ∀ d ∈ (l.map fun p => tx p.1), ok d) (h0 : ρ = eS s0) (hb : ∀ H0 x s, ExM X H0 (bd (tx x) (eS s)) k body (fun s => .nx (eS s)) (f x s)) (tt : ∀ s, ExM X H0 (eS s) k rest D (fk s))
    (hN : X.N[i]? = some y := by rfl) (hv : Vis X.env.scope y := by first | exact Or.inl rfl | exact Or.inr (Or.inl rfl) | exact Or.inr (Or.inr rfl)) (hd : (y == ("__debug__" : Str)) = false := by decide) (hcd : (y == ("__classdict__" : Str)) = false := by decide)
    (hs : ∀ x, foldedSetIterable (.Name y p1) X.env x = pure x := by intro _; rfl) : ExM X H0 ρ k (.For t (.Name y p1) body [] pos :: rest) D (M.bind (M.nox (forM f (l.map (·.1)) s0)) fk) := by
  have h := fun H0 => forM_T (H0 := H0) (hb H0) (l.map (·.1)) s0
  subst h0
  simp only [List.map_map] at h
  cases e : forM f (l.map (·.1)) s0 with
  | ok s =>
    rw [e] at h
    exact xm_then (sx_forK0 i hp hc hi (hf s) hg hok h hN hv hd hcd hs) (tt s)
  | ex n => trivial
  | far => trivial
end
/-! flatness, entry by entry -/
inductive FlE : Env' → Prop where
  | nil : FlE []
  | im {d : Dat} {r : Env'} : flat d = true → FlE r → FlE (.im d :: r)
  | owd {β : Type} {en : β → Dat} {l : List (List Nat × β)} {r : Env'} : (∀ a, flat (en a) = true) → FlE r → FlE (.ow (dicd en l) :: r)
  | owl {β : Type} {en : β → Dat} {l : List β} {r : Env'} : (∀ a, flat (en a) = true) → FlE r → FlE (.ow (lstd en l) :: r)
  | no {r : Env'} : FlE r → FlE (.no :: r)
  | ol {d : Dat} {r : Env'} : FlE r → FlE (.ol d :: r)
  | rf {a : Addr} {r : Env'} : FlE r → FlE (.rf a :: r)
theorem FlE.to {ρ : Env'} (h : FlE ρ) : FlatE ρ := by
  have cons : ∀ {e : Ent} {r : Env'}, FlatE r → (∀ d, e = .im d → flat d = true) → (∀ ds, e = .ow (.lst ds) → ∀ d ∈ ds, flat d = true) → (∀ ds, e = .ow (.dic ds) → ∀ d ∈ ds, flat d.2 = true) → FlatE (e :: r) := fun {e r} ih h1 h2 h3 => by
    obtain ⟨i1, i2, i3⟩ := ih
    refine ⟨fun j d q => ?_, fun j d q => ?_, fun j d q => ?_⟩
    · cases j with
      | zero => exact h1 d (Option.some.inj q)
      | succ j => exact i1 j d q
    · cases j with
      | zero => exact h2 d (Option.some.inj q)
      | succ j => exact i2 j d q
    · cases j with
      | zero => exact h3 d (Option.some.inj q)
      | succ j => exact i3 j d q
  induction h with
  | nil => exact ⟨fun j d e => by (cases j <;> cases e), fun j d e => by (cases j <;> cases e), fun j d e => by (cases j <;> cases e)⟩
  | im f _ ih => exact cons ih (fun d e => by cases e; exact f) (fun d e => by cases e) (fun d e => by cases e)
  | @owd β en l r f _ ih =>
    refine cons ih (fun d e => by cases e) (fun d e => by cases e) (fun ds e d hd => ?_)
    have e2 : dm en l = ds := by cases e; rfl
    rw [← e2] at hd
    obtain ⟨p, _, rfl⟩ := List.mem_map.mp hd
    exact f p.2
  | @owl β en l r f _ ih =>
    refine cons ih (fun d e => by cases e) (fun ds e d hd => ?_) (fun d e => by cases e)
    have e2 : l.map en = ds := by cases e; rfl
    rw [← e2] at hd
    obtain ⟨p, _, rfl⟩ := List.mem_map.mp hd
    exact f p
  | no _ ih => exact cons ih (fun d e => by cases e) (fun d e => by cases e) (fun d e => by cases e)
  | ol _ ih => exact cons ih (fun d e => by cases e) (fun d e => by cases e) (fun d e => by cases e)
  | rf _ ih => exact cons ih (fun d e => by cases e) (fun d e => by cases e) (fun d e => by cases e)
end B

namespace B
open PySem PySem.Spec PyProof.Rows L2
section
variable {X : Cx} {H0 : Hp} {ρ : Env'} {α : Type} {a b c : Expr} {pos : Pos} {en : α → Dat} {l : List (List Nat × α)} {key : List Nat}
/-- d.get(key, u), d a thing that nobody changes -/
theorem ev_dget2v {u : α} (ha : Ev X H0 ρ a (dicd en l)) (hb : Ev X H0 ρ b (tx key)) (hc : Ev X H0 ρ c (en u)) (hu : X.A.units + 1 < cLine) {apos : Pos} (hm : M2 X a "get" apos b c pos := by exact ⟨rfl, rfl, rfl, rfl⟩) :
    Ev X H0 ρ (.Call (.Attribute a "get" apos) [b, c] [] pos) (en ((dget l key).getD u)) := fun σ H N rp => by
  refine we_of (pe_dget2 hu pe_w pe_w pe_w hm) ((ha σ H N rp).imp fun v0 H1 ⟨N1, s1, n1, r1, a1⟩ => ?_)
  obtain ⟨q, vs, e1, g1, g2⟩ := at_dic a1
  subst e1
  have rd1 : Rd H1 q (.dK vs) := rd_same r1.sub g1
  refine ⟨q, rfl, .inl ⟨vs, rd1⟩, (hb σ H1 N1 r1).imp fun w H2 ⟨N2, s2, n2, r2, a2⟩ => (hc σ H2 N2 r2).imp fun z H3 ⟨N3, s3, n3, r3, a3⟩ => ?_⟩
  have h5 := at_str a2
  subst h5
  have g3 : Atk X.K N3 vs (dm en l) := Atk.mono (n2.trans n3) g2
  obtain ⟨i1, i2⟩ := atk_get g3 key
  refine ⟨_, .inl ⟨vs, Sum.inr (SX.S key), rd_same (s2.trans s3) rd1, rfl, rfl⟩, N3, (s1.trans s2).trans s3, (n1.trans n2).trans n3, r3, ?_⟩
  cases e : dget l key with
  | none => rw [i2 e]; exact a3
  | some v =>
    obtain ⟨z, z1, z2⟩ := i1 v e
    rw [z1]
    exact z2
/-- .. d handed in; what it holds is flat -/
theorem ev_dget2b {u : α} (hf : ∀ x, flat (en x) = true) (ha : EvB X H0 ρ a (dicd en l)) (hb : Ev X H0 ρ b (tx key)) (hc : Ev X H0 ρ c (en u)) (hu : X.A.units + 1 < cLine) {apos : Pos} (hm : M2 X a "get" apos b c pos := by exact ⟨rfl, rfl, rfl, rfl⟩) :
    Ev X H0 ρ (.Call (.Attribute a "get" apos) [b, c] [] pos) (en ((dget l key).getD u)) := EvB.flat (fun σ H N rp => by
  refine we_of (pe_dget2 hu pe_w pe_w pe_w hm) ((ha σ H N rp).imp fun v0 H1 ⟨N1, s1, n1, r1, a1⟩ => ?_)
  obtain ⟨q, vs, e1, g1, g2⟩ := at_dic a1
  subst e1
  refine ⟨q, rfl, .inl ⟨vs, g1⟩, (hb σ H1 N1 r1).imp fun w H2 ⟨N2, s2, n2, r2, a2⟩ => (hc σ H2 N2 r2).imp fun z H3 ⟨N3, s3, n3, r3, a3⟩ => ?_⟩
  have h5 := at_str a2
  subst h5
  have g3 : Atk X.K H3 vs (dm en l) := Atk.mono (s2.trans s3) g2
  obtain ⟨i1, i2⟩ := atk_get g3 key
  refine ⟨_, .inl ⟨vs, Sum.inr (SX.S key), rd_same (s2.trans s3) g1, rfl, rfl⟩, N3, (s1.trans s2).trans s3, (n1.trans n2).trans n3, r3, ?_⟩
  cases e : dget l key with
  | none => rw [i2 e]; exact a3.mono r3.sub
  | some v =>
    obtain ⟨z, z1, z2⟩ := i1 v e
    rw [z1]
    exact z2) (hf _)
end
theorem cut_nn {α : Type} {l : List α} {a b : Nat} (h : a ≤ b) : cut l (some (a : Int)) (some (b : Int)) = (l.drop a).take (b - a) := by
  show (l.drop (HT.sIx l.length 0 (some ((a : Nat) : Int)))).take (HT.sIx l.length l.length (some ((b : Nat) : Int)) - HT.sIx l.length 0 (some ((a : Nat) : Int))) = _
  rw [HT.sIx_nat, HT.sIx_nat]
  by_cases h1 : a ≤ l.length
  · rw [Nat.min_eq_left h1]
    by_cases h2 : b ≤ l.length
    · rw [Nat.min_eq_left h2]
    · rw [Nat.min_eq_right (by omega), List.take_of_length_le (by rw [List.length_drop]; exact Nat.le_refl _), List.take_of_length_le (by rw [List.length_drop]; omega)]
  · rw [List.drop_of_length_le (by omega), List.drop_of_length_le (by omega)]
    simp
/-! ### sorted: ints -/
def srtI (l : List Int) : List Int := l.mergeSort fun a b => decide (a ≤ b)
theorem srtI_perm (l : List Int) : (srtI l).Perm l := List.mergeSort_perm _ _
theorem srtI_pw (l : List Int) : (srtI l).Pairwise (· ≤ ·) := by
  have h := List.pairwise_mergeSort (le := fun a b : Int => decide (a ≤ b)) (fun a b c h1 h2 => by simp at *; omega) (fun a b => by simp; omega) l
  exact h.imp fun q => of_decide_eq_true q
theorem srtI_of {l m : List Int} (h1 : m.Perm l) (h2 : m.Pairwise (· ≤ ·)) : m = srtI l :=
  List.Perm.eq_of_pairwise (le := (· ≤ ·)) (fun a b _ _ p q => Int.le_antisymm p q) h2 (srtI_pw l) (h1.trans (srtI_perm l).symm)
section
variable {X : Cx} {H0 : Hp} {ρ : Env'} {α : Type} {a b c : Expr} {p pos : Pos} {en : α → Dat}
theorem eo_sortedI {l : List Int} (ha : EvB X H0 ρ a (lstd Dat.int l)) (hm : X.mg "sorted" = none) (hg : Gl X "sorted" := by rfl) (he : starEach [a] X.env = (false, eval a X.env) :: starEach [] X.env := by rfl) (hpl : (backTo pos (starEach [] X.env)).any (·.1) = false := by rfl) :
    EvO X H0 ρ (.Call (.Name "sorted" p) [a] [] pos) (lstd Dat.int (srtI l)) := fun σ H N rp =>
  we_of (pe_callB cr_sortedI hg hm (by decide +kernel) pa_w (by decide) (by decide) he hpl) ((eab1 ha he σ H N rp).imp fun vs H1 ⟨N1, s1, n1, r1, a1⟩ => by
    obtain ⟨v, e1, e2⟩ := ats_one a1
    obtain ⟨pp, us, e3, h1, h2⟩ := at_lst e2
    rw [h2.ints] at h1
    refine ⟨pp, l, by rw [e1, e3], h1, fun ms q hp hw hq => ?_⟩
    rw [srtI_of hp hw]
    obtain ⟨r3, n3⟩ := eo_new (o := .lst ((srtI l).map V.int)) r1 hq
    exact ⟨N1, q, rfl, s1.free hq, s1.trans (Same.of_none hq), n1, r3, n3, _, upd_same, Ats.ofInts _⟩)
/-- list + list, the first one a list of one's own -/
theorem eo_catWm {l m : List α} (i : Nat) {y : Str} {p1 : Pos} (hi : ρ[i]? = some (.ow (lstd en l))) (hb : EvO X H0 ρ b (lstd en m)) (h : catOk l m = true) (hN : X.N[i]? = some y := by rfl) (hv : Vis X.env.scope y := by first | exact Or.inl rfl | exact Or.inr (Or.inl rfl) | exact Or.inr (Or.inr rfl))
    (hd : (y == ("__debug__" : Str)) = false := by decide) (hcd : (y == ("__classdict__" : Str)) = false := by decide) : EvO X H0 ρ (.BinOp (.Name y p1) .Add b pos) (lstd en (l ++ m)) := fun σ H N rp => by
  obtain ⟨q0, g1, g2, g3, us, g4, g5⟩ := rp.ow i _ hi
  refine we_of (pe_op op_cat (pv i hN hv hd hcd) pe_w) ⟨_, g1, (hb σ H N rp).imp fun w H2 ⟨N2, p2, e2, hp2, s2, n2, r2, np2, ws, k2, h4⟩ => ?_⟩
  have hz := catOk_ok h
  have hl : us.length = l.length := by rw [g5.length, List.length_map]
  refine ⟨q0, p2, us, ws, rfl, e2, s2 _ _ g4, k2, by rw [hl, h4.length, List.length_map]; exact hz, fun q hq => ?_⟩
  obtain ⟨r5, n5⟩ := eo_new (o := .lst (us ++ ws)) r2 hq
  refine ⟨N2, q, rfl, s2.free hq, s2.trans (Same.of_none hq), n2, r5, n5, us ++ ws, upd_same, ?_⟩
  show Ats X.K N2 (us ++ ws) ((l ++ m).map en)
  rw [List.map_append]
  exact (g5.mono n2).append h4
/-- .. the second one -/
theorem eo_catVm {l m : List α} (i : Nat) {y : Str} {p1 : Pos} (ha : EvO X H0 ρ a (lstd en l)) (hi : ρ[i]? = some (.ow (lstd en m))) (h : catOk l m = true) (hN : X.N[i]? = some y := by rfl) (hv : Vis X.env.scope y := by first | exact Or.inl rfl | exact Or.inr (Or.inl rfl) | exact Or.inr (Or.inr rfl))
    (hd : (y == ("__debug__" : Str)) = false := by decide) (hcd : (y == ("__classdict__" : Str)) = false := by decide) : EvO X H0 ρ (.BinOp a .Add (.Name y p1) pos) (lstd en (l ++ m)) := fun σ H N rp => by
  refine we_of (pe_op op_cat pe_w (pv i hN hv hd hcd)) ((ha σ H N rp).imp fun w H2 ⟨N2, p2, e2, hp2, s2, n2, r2, np2, ws, k2, h4⟩ => ?_)
  obtain ⟨q0, g1, g2, g3, us, g4, g5⟩ := r2.ow i _ hi
  have hz := catOk_ok h
  have hl : us.length = m.length := by rw [g5.length, List.length_map]
  refine ⟨_, g1, p2, q0, ws, us, e2, rfl, k2, g4, by rw [hl, h4.length, List.length_map]; exact hz, fun q hq => ?_⟩
  obtain ⟨r5, n5⟩ := eo_new (o := .lst (ws ++ us)) r2 hq
  refine ⟨N2, q, rfl, s2.free hq, s2.trans (Same.of_none hq), n2, r5, n5, ws ++ us, upd_same, ?_⟩
  show Ats X.K N2 (ws ++ us) ((l ++ m).map en)
  rw [List.map_append]
  exact h4.append g5
end
/-! ### is None, as a value -/
section
variable {X : Cx} {H0 : Hp} {ρ : Env'} {a : Expr} {pos : Pos} {d : Dat}
theorem ev_isN {j pos'} (ha : EvB X H0 ρ a d) : Ev X H0 ρ (.Compare a [.Is] [.Constant .none j pos'] pos) (.bl (isNon d)) :=
  ev_bin (d2 := .non) (fun _ _ h k => pe_cmpR op_isN h k (nomark _)) ha ev_non.toB fun x y σ H N Q r p q g => ⟨at_non q, by rw [at_isNon p]; exact goes_self (Q := Q) g r (.bl _)⟩
theorem ev_notN {j pos'} (ha : EvB X H0 ρ a d) : Ev X H0 ρ (.Compare a [.IsNot] [.Constant .none j pos'] pos) (.bl (!isNon d)) :=
  ev_bin (d2 := .non) (fun _ _ h k => pe_cmpR op_notN h k (nomark _)) ha ev_non.toB fun x y σ H N Q r p q g => ⟨at_non q, by rw [at_isNon p]; exact goes_self (Q := Q) g r (.bl _)⟩
end
end B

namespace B
open PySem PySem.Spec PyProof.Rows L2


def top (i : Nat) : Stmt := PySem.Challenge.pw_boughpress_k82_whole_pressed_behind.main.body.getD i (.Pass ⟨0, 0, 0, 0⟩)
abbrev s_is_whole : Stmt := top 11
abbrev n_is_whole : List Str := ["thing"]
theorem sc_is_whole : FnScope n_is_whole ["thing"] (defScope s_is_whole) := ⟨rfl, rfl, rfl, by decide +kernel, rfl, by decide +kernel, by decide +kernel⟩
abbrev s_are_letters : Stmt := top 12
abbrev n_are_letters : List Str := ["thing", "sign"]
theorem sc_are_letters : FnScope n_are_letters ["thing"] (defScope s_are_letters) := ⟨rfl, rfl, rfl, by decide +kernel, rfl, by decide +kernel, by decide +kernel⟩
abbrev s_make_frame : Stmt := top 13
abbrev n_make_frame : List Str := ["letters", "depth"]
theorem sc_make_frame : FnScope n_make_frame ["letters", "depth"] (defScope s_make_frame) := ⟨rfl, rfl, rfl, by decide +kernel, rfl, by decide +kernel, by decide +kernel⟩
abbrev s_checked : Stmt := top 14
abbrev n_checked : List Str := ["frame", "text", "sign"]
theorem sc_checked : FnScope n_checked ["frame", "text"] (defScope s_checked) := ⟨rfl, rfl, rfl, by decide +kernel, rfl, by decide +kernel, by decide +kernel⟩
abbrev s_signs_ahead : Stmt := top 16
abbrev n_signs_ahead : List Str := ["frame", "text", "at", "letters", "depth", "behind"]
theorem sc_signs_ahead : FnScope n_signs_ahead ["frame", "text", "at"] (defScope s_signs_ahead) := ⟨rfl, rfl, rfl, by decide +kernel, rfl, by decide +kernel, by decide +kernel⟩
abbrev s_elders : Stmt := top 17
abbrev n_elders : List Str := ["frame", "text", "at"]
theorem sc_elders : FnScope n_elders ["frame", "text", "at"] (defScope s_elders) := ⟨rfl, rfl, rfl, by decide +kernel, rfl, by decide +kernel, by decide +kernel⟩
abbrev s_path_knots : Stmt := top 19
abbrev n_path_knots : List Str := ["frame", "text", "end", "near", "deep"]
theorem sc_path_knots : FnScope n_path_knots ["frame", "text"] (defScope s_path_knots) := ⟨rfl, rfl, rfl, by decide +kernel, rfl, by decide +kernel, by decide +kernel⟩
abbrev s_entry_of : Stmt := top 20
abbrev n_entry_of : List Str := ["frame", "known", "knot"]
theorem sc_entry_of : FnScope n_entry_of ["frame", "known", "knot"] (defScope s_entry_of) := ⟨rfl, rfl, rfl, by decide +kernel, rfl, by decide +kernel, by decide +kernel⟩
abbrev s_halved_sum : Stmt := top 21
abbrev n_halved_sum : List Str := ["frame", "known", "path", "knot", "own", "top", "bottom", "letter", "branch", "pair"]
theorem sc_halved_sum : FnScope n_halved_sum ["frame", "known", "path", "knot", "own"] (defScope s_halved_sum) := ⟨rfl, rfl, rfl, by decide +kernel, rfl, by decide +kernel, by decide +kernel⟩
abbrev s_grown_path : Stmt := top 22
abbrev n_grown_path : List Str := ["frame", "known", "text", "place", "path", "knot", "some", "own", "pair"]
theorem sc_grown_path : FnScope n_grown_path ["frame", "known", "text", "place"] (defScope s_grown_path) := ⟨rfl, rfl, rfl, by decide +kernel, rfl, by decide +kernel, by decide +kernel⟩
abbrev s_weight_pair : Stmt := top 23
abbrev n_weight_pair : List Str := ["frame", "known"]
theorem sc_weight_pair : FnScope n_weight_pair ["frame", "known"] (defScope s_weight_pair) := ⟨rfl, rfl, rfl, by decide +kernel, rfl, by decide +kernel, by decide +kernel⟩
abbrev s_known_of : Stmt := top 24
abbrev n_known_of : List Str := ["frame", "text", "known", "at"]
theorem sc_known_of : FnScope n_known_of ["frame", "text"] (defScope s_known_of) := ⟨rfl, rfl, rfl, by decide +kernel, rfl, by decide +kernel, by decide +kernel⟩
abbrev s_greatest_divisor : Stmt := top 26
abbrev n_greatest_divisor : List Str := ["one", "other"]
theorem sc_greatest_divisor : FnScope n_greatest_divisor ["one", "other"] (defScope s_greatest_divisor) := ⟨rfl, rfl, rfl, by decide +kernel, rfl, by decide +kernel, by decide +kernel⟩
abbrev s_fraction : Stmt := top 27
abbrev n_fraction : List Str := ["top", "bottom", "many"]
theorem sc_fraction : FnScope n_fraction ["top", "bottom"] (defScope s_fraction) := ⟨rfl, rfl, rfl, by decide +kernel, rfl, by decide +kernel, by decide +kernel⟩
abbrev s_plus : Stmt := top 28
abbrev n_plus : List Str := ["one", "other"]
theorem sc_plus : FnScope n_plus ["one", "other"] (defScope s_plus) := ⟨rfl, rfl, rfl, by decide +kernel, rfl, by decide +kernel, by decide +kernel⟩
abbrev s_times : Stmt := top 29
abbrev n_times : List Str := ["one", "other"]
theorem sc_times : FnScope n_times ["one", "other"] (defScope s_times) := ⟨rfl, rfl, rfl, by decide +kernel, rfl, by decide +kernel, by decide +kernel⟩
abbrev s_half : Stmt := top 30
abbrev n_half : List Str := ["one"]
theorem sc_half : FnScope n_half ["one"] (defScope s_half) := ⟨rfl, rfl, rfl, by decide +kernel, rfl, by decide +kernel, by decide +kernel⟩
abbrev s_lesser_tops : Stmt := top 32
abbrev n_lesser_tops : List Str := ["frame", "known", "text", "place", "found", "k"]
theorem sc_lesser_tops : FnScope n_lesser_tops ["frame", "known", "text", "place"] (defScope s_lesser_tops) := ⟨rfl, rfl, rfl, by decide +kernel, rfl, by decide +kernel, by decide +kernel⟩
abbrev s_span : Stmt := top 33
abbrev n_span : List Str := ["frame", "text", "ahead", "known", "first", "low", "there", "sign", "place", "lesser", "elder", "top", "bottom", "whole"]
theorem sc_span : FnScope n_span ["frame", "text", "ahead"] (defScope s_span) := ⟨rfl, rfl, rfl, by decide +kernel, rfl, by decide +kernel, by decide +kernel⟩
abbrev s_odd_product : Stmt := top 35
abbrev n_odd_product : List Str := ["many", "found", "k"]
theorem sc_odd_product : FnScope n_odd_product ["many"] (defScope s_odd_product) := ⟨rfl, rfl, rfl, by decide +kernel, rfl, by decide +kernel, by decide +kernel⟩
abbrev s_worth : Stmt := top 36
abbrev n_worth : List Str := ["counts", "top", "many", "bottom", "k"]
theorem sc_worth : FnScope n_worth ["counts"] (defScope s_worth) := ⟨rfl, rfl, rfl, by decide +kernel, rfl, by decide +kernel, by decide +kernel⟩
abbrev s_all_counts : Stmt := top 38
abbrev n_all_counts : List Str := ["frame", "text", "found", "at", "row", "size", "letter"]
theorem sc_all_counts : FnScope n_all_counts ["frame", "text"] (defScope s_all_counts) := ⟨rfl, rfl, rfl, by decide +kernel, rfl, by decide +kernel, by decide +kernel⟩
abbrev s_all_worths : Stmt := top 39
abbrev n_all_worths : List Str := ["frame", "text", "some", "found", "knot"]
theorem sc_all_worths : FnScope n_all_worths ["frame", "text"] (defScope s_all_worths) := ⟨rfl, rfl, rfl, by decide +kernel, rfl, by decide +kernel, by decide +kernel⟩
abbrev s_branch_weight : Stmt := top 40
abbrev n_branch_weight : List Str := ["frame", "weights", "knot", "found", "letter"]
theorem sc_branch_weight : FnScope n_branch_weight ["frame", "weights", "knot"] (defScope s_branch_weight) := ⟨rfl, rfl, rfl, by decide +kernel, rfl, by decide +kernel, by decide +kernel⟩
abbrev s_all_weights : Stmt := top 41
abbrev n_all_weights : List Str := ["frame", "worths", "weights", "size", "knot"]
theorem sc_all_weights : FnScope n_all_weights ["frame", "worths"] (defScope s_all_weights) := ⟨rfl, rfl, rfl, by decide +kernel, rfl, by decide +kernel, by decide +kernel⟩
abbrev s_weight : Stmt := top 42
abbrev n_weight : List Str := ["frame", "text"]
theorem sc_weight : FnScope n_weight ["frame", "text"] (defScope s_weight) := ⟨rfl, rfl, rfl, by decide +kernel, rfl, by decide +kernel, by decide +kernel⟩
abbrev s_stretch : Stmt := top 44
abbrev n_stretch : List Str := ["bits", "low", "sign"]
theorem sc_stretch : FnScope n_stretch ["bits"] (defScope s_stretch) := ⟨rfl, rfl, rfl, by decide +kernel, rfl, by decide +kernel, by decide +kernel⟩
abbrev s_in_twos : Stmt := top 45
abbrev n_in_twos : List Str := ["number", "many", "signs", "k"]
theorem sc_in_twos : FnScope n_in_twos ["number", "many"] (defScope s_in_twos) := ⟨rfl, rfl, rfl, by decide +kernel, rfl, by decide +kernel, by decide +kernel⟩
abbrev s_bits_of : Stmt := top 46
abbrev n_bits_of : List Str := ["low", "width", "high", "many", "number"]
theorem sc_bits_of : FnScope n_bits_of ["low", "width"] (defScope s_bits_of) := ⟨rfl, rfl, rfl, by decide +kernel, rfl, by decide +kernel, by decide +kernel⟩
abbrev s_press : Stmt := top 49
abbrev n_press : List Str := ["frame", "text", "ahead", "low", "width"]
theorem sc_press : FnScope n_press ["frame", "text", "ahead"] (defScope s_press) := ⟨rfl, rfl, rfl, by decide +kernel, rfl, by decide +kernel, by decide +kernel⟩
abbrev s_letter_there : Stmt := top 50
abbrev n_letter_there : List Str := ["frame", "known", "text", "gone", "first", "ends", "low", "high", "elder", "under", "whole", "place", "path", "behind"]
theorem sc_letter_there : FnScope n_letter_there ["frame", "known", "text", "gone", "first", "ends"] (defScope s_letter_there) := ⟨rfl, rfl, rfl, by decide +kernel, rfl, by decide +kernel, by decide +kernel⟩
abbrev s_found_text : Stmt := top 51
abbrev n_found_text : List Str := ["frame", "many", "low", "width", "ahead", "known", "first", "ends", "text", "gone", "k", "told", "sign", "path"]
theorem sc_found_text : FnScope n_found_text ["frame", "many", "low", "width", "ahead"] (defScope s_found_text) := ⟨rfl, rfl, rfl, by decide +kernel, rfl, by decide +kernel, by decide +kernel⟩
abbrev s_read : Stmt := top 52
abbrev n_read : List Str := ["frame", "many", "bits", "ahead", "low", "width", "text"]
theorem sc_read : FnScope n_read ["frame", "many", "bits", "ahead"] (defScope s_read) := ⟨rfl, rfl, rfl, by decide +kernel, rfl, by decide +kernel, by decide +kernel⟩
abbrev s_law_cell_at : Stmt := top 54
abbrev n_law_cell_at : List Str := ["script", "k"]
theorem sc_law_cell_at : FnScope n_law_cell_at ["script", "k"] (defScope s_law_cell_at) := ⟨rfl, rfl, rfl, by decide +kernel, rfl, by decide +kernel, by decide +kernel⟩
abbrev s_law_mixed : Stmt := top 55
abbrev n_law_mixed : List Str := ["cell", "k"]
theorem sc_law_mixed : FnScope n_law_mixed ["cell", "k"] (defScope s_law_mixed) := ⟨rfl, rfl, rfl, by decide +kernel, rfl, by decide +kernel, by decide +kernel⟩
abbrev s_law_letters_by : Stmt := top 56
abbrev n_law_letters_by : List Str := ["cell", "some", "at", "letters", "k", "sign", "place"]
theorem sc_law_letters_by : FnScope n_law_letters_by ["cell"] (defScope s_law_letters_by) := ⟨rfl, rfl, rfl, by decide +kernel, rfl, by decide +kernel, by decide +kernel⟩
abbrev s_law_text_by : Stmt := top 57
abbrev n_law_text_by : List Str := ["script", "letters", "way", "most", "text", "k", "at"]
theorem sc_law_text_by : FnScope n_law_text_by ["script", "letters", "way", "most"] (defScope s_law_text_by) := ⟨rfl, rfl, rfl, by decide +kernel, rfl, by decide +kernel, by decide +kernel⟩
abbrev s_law_whole : Stmt := top 58
abbrev n_law_whole : List Str := ["found"]
theorem sc_law_whole : FnScope n_law_whole ["found"] (defScope s_law_whole) := ⟨rfl, rfl, rfl, by decide +kernel, rfl, by decide +kernel, by decide +kernel⟩
abbrev s_law_is_ratio : Stmt := top 59
abbrev n_law_is_ratio : List Str := ["found"]
theorem sc_law_is_ratio : FnScope n_law_is_ratio ["found"] (defScope s_law_is_ratio) := ⟨rfl, rfl, rfl, by decide +kernel, rfl, by decide +kernel, by decide +kernel⟩
abbrev s_law_part_good : Stmt := top 60
abbrev n_law_part_good : List Str := ["frame", "part", "ahead", "bits", "found", "low", "width"]
theorem sc_law_part_good : FnScope n_law_part_good ["frame", "part", "ahead"] (defScope s_law_part_good) := ⟨rfl, rfl, rfl, by decide +kernel, rfl, by decide +kernel, by decide +kernel⟩
abbrev s_law : Stmt := top 61
abbrev n_law : List Str := ["script", "head", "letters", "depth", "text", "frame", "cuts", "top", "bottom", "k", "width", "due"]
theorem sc_law : FnScope n_law ["script"] (defScope s_law) := ⟨rfl, rfl, rfl, by decide +kernel, rfl, by decide +kernel, by decide +kernel⟩
/-- what the top has left: the built-ins are what they were, the classes of errors stand -/
structure Txt (K : PySem.W.Frag) (mg : Str → Option Value) : Prop where
  b_ValueError : mg "ValueError" = none
  b_abs : mg "abs" = none
  b_bool : mg "bool" = none
  b_int : mg "int" = none
  b_isinstance : mg "isinstance" = none
  b_len : mg "len" = none
  b_max : mg "max" = none
  b_min : mg "min" = none
  b_ord : mg "ord" = none
  b_range : mg "range" = none
  b_sorted : mg "sorted" = none
  b_str : mg "str" = none
  b_sum : mg "sum" = none
  b_tuple : mg "tuple" = none
  e_NoFrame : Exc K mg "NoFrame"
  e_NoPlace : Exc K mg "NoPlace"
  e_NoFraction : Exc K mg "NoFraction"
  e_NoBits : Exc K mg "NoBits"
  e_NoPress : Exc K mg "NoPress"
  e_NoText : Exc K mg "NoText"
  c_MOST_LETTERS : ∃ t, mg "MOST_LETTERS" = some (.int 6 t)
  c_DEEPEST : ∃ t, mg "DEEPEST" = some (.int 6 t)
  c_MOST_SIGNS : ∃ t, mg "MOST_SIGNS" = some (.int 100 t)
noncomputable def m_is_whole (thing_ : Dat) : M Bool :=
  .ok ((isInt (idd thing_)) && (!(isBool (idd thing_))))
noncomputable def m_are_letters (thing_ : Dat) : M Bool :=
  M.bind (M.nox (if (!(isStr (idd thing_))) = true then M.ok true else (M.bind (M.ofO (dlen thing_)) fun r1 => M.bind (M.nox (if (decide ((r1 : Int) < (2 : Int))) = true then M.ok true else (M.bind (M.ofO (dlen thing_)) fun r3 => .ok (decide ((6 : Int) < (r3 : Int)))))) fun r5 => .ok r5))) fun r7 =>
  if r7 = true then (
    .ok false
  ) else
  M.bind (M.ofO (strOf thing_)) fun r12 =>
  M.seqT (forF 
  (fun (x11 : Nat) (s14 : Unit) => (
    M.bind (M.nox (if (decide ((x11 : Int) < (32 : Int))) = true then M.ok true else (M.bind (M.nox (if (decide ((126 : Int) < (x11 : Int))) = true then M.ok true else (M.bind (M.nox (if (decide ((x11 : Int) = (37 : Int))) = true then M.ok true else (M.bind (M.ofO (strOf thing_)) fun r15 => .ok (decide ((1 : Int) < (cntX r15 [x11])))))) fun r17 => .ok r17))) fun r19 => .ok r19))) fun r21 =>
    M.seq (if r21 = true then (
      .ok (.rt false)
    ) else (
      .ok (.nx ())
    ) : M (Fl Unit Unit Bool)) fun (s23 : Unit) =>
    .ok (.nx ())
  )) r12 () : M (Fl Unit Unit Bool)) fun (s14 : Unit) =>
  .ok true
noncomputable def m_make_frame (letters_ : Dat) (depth_ : Dat) : M ((List Nat) × Int) :=
  M.bind (M.nox (m_are_letters letters_)) fun r1 =>
  if (!r1) = true then (
    .ex "NoFrame"
  ) else
  M.bind (M.nox (m_is_whole depth_)) fun r3 =>
  M.bind (M.nox (if (!r3) = true then M.ok true else (M.bind (M.ofO (intOf depth_)) fun r5 => M.bind (M.nox (if (decide (r5 < (0 : Int))) = true then M.ok true else (M.bind (M.ofO (intOf depth_)) fun r7 => .ok (decide ((6 : Int) < r7))))) fun r9 => .ok r9))) fun r11 =>
  if r11 = true then (
    .ex "NoFrame"
  ) else
  M.gd (flat depth_) <|
  M.gd (flat letters_) <|
  M.bind (M.ofO (strOf letters_)) fun r15 =>
  M.bind (M.ofO (intOf depth_)) fun r17 =>
  .ok (r15, r17)
noncomputable def m_checked (frame_ : ((List Nat) × Int)) (text_ : List Nat) : M (List Nat) :=
  M.bind (forM (fun (x1 : Nat) (s2 : Unit) => (
    M.bind (if (!(decide (x1 ∈ frame_.1))) = true then (
      .ex "NoText"
    ) else (
      .ok ()
    )) fun (s3 : Unit) =>
    .ok ()
  )) text_ ()) fun (s2 : Unit) =>
  .ok text_
noncomputable def m_signs_ahead (frame_ : ((List Nat) × Int)) (text_ : List Nat) (at_ : Int) : M (List Nat) :=
  M.lt (frame_ : ((List Nat) × Int)) fun q1 =>
  M.gd (lenOk q1.1) <|
  M.bind (M.ofO (atI q1.1 (0 : Int))) fun r3 =>
  M.gd (repOk [r3] q1.2) <|
  M.gd (lenOk text_) <|
  M.gd (catOk (repS [r3] q1.2) (cut text_ (some (max (0 : Int) (at_ - q1.2))) (some at_))) <|
  M.lt (((repS [r3] q1.2) ++ (cut text_ (some (max (0 : Int) (at_ - q1.2))) (some at_))) : List Nat) fun behind_ =>
  M.gd (lenOk behind_) <|
  M.gd (lenOk (behind_).reverse) <|
  .ok (cut (behind_).reverse none (some q1.2))
noncomputable def m_elders (frame_ : ((List Nat) × Int)) (text_ : List Nat) (at_ : Int) : M (List Nat) :=
  M.bind (m_checked frame_ text_) fun _ =>
  M.bind (M.nox (if (decide (at_ < (0 : Int))) = true then M.ok true else (M.gd (lenOk text_) <| .ok (decide (((text_).length : Int) < at_))))) fun r2 =>
  if r2 = true then (
    .ex "NoPlace"
  ) else
  M.bind (m_signs_ahead frame_ text_ at_) fun r => .ok r
noncomputable def m_path_knots (frame_ : ((List Nat) × Int)) (text_ : List Nat) : M (List (List Nat)) :=
  M.gd (lenOk text_) <|
  M.gd (lenOk text_) <|
  M.lt ((cut text_ (some (max (0 : Int) (((text_).length : Int) - frame_.2))) none) : List Nat) fun end_ =>
  M.gd (lenOk end_) <|
  M.bind (m_elders frame_ end_ ((end_).length : Int)) fun near_ =>
  M.gd (rngOk frame_.2 (-1 : Int)) <|
  M.gd (lenLt (rng frame_.2 (-1) (frame_.2 - (-1 : Int)).toNat)) <|
  M.bind (M.nox (compM (fun _ => .ok true) (fun deep_ => M.gd (lenOk near_) <| .ok ((cut near_ none (some deep_)))) (rng frame_.2 (-1) (frame_.2 - (-1 : Int)).toNat))) fun r7 =>
  .ok r7
noncomputable def m_entry_of (frame_ : ((List Nat) × Int)) (known_ : (List (List Nat × ((List Int) × (Int × Int) × (Int × Int))))) (knot_ : List Nat) : M ((List Int) × (Int × Int) × (Int × Int)) :=
  if (dhas known_ knot_) = true then (
    M.bind (M.ofO (dget known_ knot_)) fun r1 =>
    .ok r1
  ) else
  M.gd (lenOk frame_.1) <|
  M.gd (repOk [(0 : Int)] ((frame_.1).length : Int)) <|
  .ok ((repS [(0 : Int)] ((frame_.1).length : Int)), ((1 : Int), (1 : Int)), ((1 : Int), (1 : Int)))
noncomputable def m_halved_sum (frame_ : ((List Nat) × Int)) (known_ : (List (List Nat × ((List Int) × (Int × Int) × (Int × Int))))) (path_ : (List (List Nat × ((List Int) × (Int × Int) × (Int × Int))))) (knot_ : List Nat) (own_ : (Int × Int)) : M (Int × Int) :=
  M.lt ((1 : Int) : Int) fun top_ =>
  M.lt ((1 : Int) : Int) fun bottom_ =>
  M.bind (forM (fun (x1 : Nat) (s2 : Int × Int) => (
    M.gd (catOk knot_ [x1]) <|
    M.lt ((knot_ ++ [x1]) : List Nat) fun branch_ =>
    M.bind (if (dhas path_ branch_) = true then (
      M.bind (M.ofO (dget path_ branch_)) fun r5 =>
      M.lt (r5.2.2 : (Int × Int)) fun pair_ =>
      .ok pair_
    ) else (
      M.bind (M.nox (m_entry_of frame_ known_ branch_)) fun r7 =>
      M.lt (r7.2.2 : (Int × Int)) fun pair_ =>
      .ok pair_
    )) fun (s4 : (Int × Int)) =>
    M.gd (mulOk s2.1 s4.1) <|
    M.lt ((s2.1 * s4.1) : Int) fun top_ =>
    M.gd (mulOk s2.2 s4.2) <|
    M.lt ((s2.2 * s4.2) : Int) fun bottom_ =>
    .ok (top_, bottom_)
  )) frame_.1 (top_, bottom_)) fun (s2 : Int × Int) =>
  M.gd (mulOk own_.1 s2.2) <|
  M.gd (mulOk s2.1 own_.2) <|
  M.gd (mulOk ((2 : Int) * own_.2) s2.2) <|
  .ok (((own_.1 * s2.2) + (s2.1 * own_.2)), (((2 : Int) * own_.2) * s2.2))
noncomputable def m_grown_path (frame_ : ((List Nat) × Int)) (known_ : (List (List Nat × ((List Int) × (Int × Int) × (Int × Int))))) (text_ : List Nat) (place_ : Int) : M (List (List Nat × ((List Int) × (Int × Int) × (Int × Int)))) :=
  M.lt ([] : (List (List Nat × ((List Int) × (Int × Int) × (Int × Int))))) fun path_ =>
  M.bind (M.nox (m_path_knots frame_ text_)) fun r4 =>
  M.bind (forM (fun (x3 : List Nat) (s6 : (List (List Nat × ((List Int) × (Int × Int) × (Int × Int))))) => (
    M.bind (m_entry_of frame_ known_ x3) fun q7 =>
    M.bind (M.ofO (atI q7.1 place_)) fun r8 =>
    M.gd (mulOk q7.2.1.1 (((2 : Int) * r8) + (1 : Int))) <|
    M.gd (mulOk q7.2.1.2 (((2 : Int) * (q7.1).sum) + ((q7.1).length : Int))) <|
    M.lt (((q7.2.1.1 * (((2 : Int) * r8) + (1 : Int))), (q7.2.1.2 * (((2 : Int) * (q7.1).sum) + ((q7.1).length : Int)))) : (Int × Int)) fun own_ =>
    M.bind (M.ofO (atI q7.1 place_)) fun r12 =>
    M.bind (M.ofO (atI q7.1 place_)) fun r14 =>
    M.gd (catOk (cut q7.1 none (some place_)) [(r14 + (1 : Int))]) <|
    M.gd (catOk ((cut q7.1 none (some place_)) ++ [(r14 + (1 : Int))]) (cut q7.1 (some (place_ + (1 : Int))) none)) <|
    M.lt ((((cut q7.1 none (some place_)) ++ [(r14 + (1 : Int))]) ++ (cut q7.1 (some (place_ + (1 : Int))) none)) : (List Int)) fun some_ =>
    M.lt (own_ : (Int × Int)) fun pair_ =>
    M.gd (lenOk x3) <|
    M.bind (if (decide (((x3).length : Int) < frame_.2)) = true then (
      M.bind (m_halved_sum frame_ known_ s6 x3 own_) fun pair_ =>
      .ok pair_
    ) else (
      .ok pair_
    )) fun (s19 : (Int × Int)) =>
    M.gd (lenLt s6) <|
    M.lt (dput s6 x3 (some_, own_, s19)) fun path_ =>
    .ok path_
  )) r4 path_) fun (s6 : (List (List Nat × ((List Int) × (Int × Int) × (Int × Int))))) =>
  .ok s6
noncomputable def m_weight_pair (frame_ : ((List Nat) × Int)) (known_ : (List (List Nat × ((List Int) × (Int × Int) × (Int × Int))))) : M (Int × Int) :=
  M.bind (M.nox (m_entry_of frame_ known_ ([] : List Nat))) fun r1 =>
  .ok r1.2.2
noncomputable def m_known_of (frame_ : ((List Nat) × Int)) (text_ : List Nat) : M (List (List Nat × ((List Int) × (Int × Int) × (Int × Int)))) :=
  M.lt ([] : (List (List Nat × ((List Int) × (Int × Int) × (Int × Int))))) fun known_ =>
  M.gd (lenOk text_) <|
  M.gd (rngOk 0 ((text_).length : Int)) <|
  M.bind (forM (fun (x3 : Int) (s6 : (List (List Nat × ((List Int) × (Int × Int) × (Int × Int))))) => (
    M.gd (lenOk text_) <|
    M.gd (lenOk text_) <|
    M.bind (M.ofO (atI text_ x3)) fun r9 =>
    M.gd (decide (r9 ∈ frame_.1)) <|
    M.bind (M.nox (m_grown_path frame_ s6 (cut text_ none (some x3)) ((frame_.1).idxOf r9 : Int))) fun r12 =>
    M.gd (catOk s6 r12) <|
    M.lt (dmerge s6 r12) fun known_ =>
    .ok known_
  )) (rng 0 1 (((text_).length : Int)).toNat) known_) fun (s6 : (List (List Nat × ((List Int) × (Int × Int) × (Int × Int))))) =>
  .ok s6
noncomputable def m_greatest_divisor (one_ : Int) (other_ : Int) : M Int :=
  M.lt (((one_).natAbs : Int) : Int) fun one_ =>
  M.lt (((other_).natAbs : Int) : Int) fun other_ =>
  M.bind (whileM (fun (s1 : Int × Int) => .ok ((!decide (s1.2 = (0 : Int))))) (fun (s1 : Int × Int) => (
    M.gd (decide (0 < s1.2)) <|
    M.lt ((s1.2, (s1.1 % s1.2)) : Int × Int) fun q3 =>
    .ok (q3.1, q3.2)
  )) ((other_).natAbs + 2) (one_, other_)) fun (s1 : Int × Int) =>
  .ok s1.1
noncomputable def m_fraction (top_ : Int) (bottom_ : Int) : M (Int × Int) :=
  if (decide (bottom_ = (0 : Int))) = true then (
    .ex "NoFraction"
  ) else
  M.bind (m_greatest_divisor top_ bottom_) fun many_ =>
  M.bind (if (decide (bottom_ < (0 : Int))) = true then (
    M.lt ((-many_) : Int) fun many_ =>
    .ok many_
  ) else (
    .ok many_
  )) fun (s1 : Int) =>
  M.gd (fdivOk s1) <|
  M.gd (fdivOk s1) <|
  .ok ((Int.fdiv top_ s1), (Int.fdiv bottom_ s1))
noncomputable def m_plus (one_ : (Int × Int)) (other_ : (Int × Int)) : M (Int × Int) :=
  M.gd (mulOk one_.1 other_.2) <|
  M.gd (mulOk other_.1 one_.2) <|
  M.gd (mulOk one_.2 other_.2) <|
  M.bind (m_fraction ((one_.1 * other_.2) + (other_.1 * one_.2)) (one_.2 * other_.2)) fun r => .ok r
noncomputable def m_times (one_ : (Int × Int)) (other_ : (Int × Int)) : M (Int × Int) :=
  M.gd (mulOk one_.1 other_.1) <|
  M.gd (mulOk one_.2 other_.2) <|
  M.bind (m_fraction (one_.1 * other_.1) (one_.2 * other_.2)) fun r => .ok r
noncomputable def m_half (one_ : (Int × Int)) : M (Int × Int) :=
  M.bind (m_fraction one_.1 ((2 : Int) * one_.2)) fun r => .ok r
noncomputable def m_lesser_tops (frame_ : ((List Nat) × Int)) (known_ : (List (List Nat × ((List Int) × (Int × Int) × (Int × Int))))) (text_ : List Nat) (place_ : Int) : M Int :=
  M.lt ((0 : Int) : Int) fun found_ =>
  M.gd (rngOk 0 place_) <|
  M.bind (forM (fun (x2 : Int) (s4 : Int) => (
    M.bind (M.nox (m_grown_path frame_ known_ text_ x2)) fun r5 =>
    M.bind (M.ofO (dget r5 ([] : List Nat))) fun r7 =>
    M.lt ((s4 + r7.2.2.1) : Int) fun found_ =>
    .ok found_
  )) (rng 0 1 (place_).toNat) found_) fun (s4 : Int) =>
  .ok s4
noncomputable def m_span (frame_ : ((List Nat) × Int)) (text_ : List Nat) (ahead_ : List Nat) : M ((Int × Int) × (Int × Int)) :=
  M.bind (m_checked frame_ ahead_) fun _ =>
  M.bind (m_checked frame_ text_) fun _ =>
  M.bind (m_known_of frame_ ahead_) fun known_ =>
  M.bind (m_weight_pair frame_ known_) fun first_ =>
  M.lt ((0 : Int) : Int) fun low_ =>
  M.lt (ahead_ : List Nat) fun there_ =>
  M.bind (forM (fun (x1 : Nat) (s2 : (List (List Nat × ((List Int) × (Int × Int) × (Int × Int)))) × Int × (List Nat)) => (
    M.gd (decide (x1 ∈ frame_.1)) <|
    M.lt (((frame_.1).idxOf x1 : Int) : Int) fun place_ =>
    M.bind (m_lesser_tops frame_ s2.1 s2.2.2 place_) fun lesser_ =>
    M.bind (M.nox (m_weight_pair frame_ s2.1)) fun r4 =>
    M.lt (r4.2 : Int) fun elder_ =>
    M.bind (M.nox (m_grown_path frame_ s2.1 s2.2.2 place_)) fun r6 =>
    M.gd (catOk s2.1 r6) <|
    M.lt (dmerge s2.1 r6) fun known_ =>
    M.bind (M.nox (m_weight_pair frame_ known_)) fun r9 =>
    M.gd (divOk elder_) <|
    M.gd (mulOk s2.2.1 (r9.2 / elder_)) <|
    M.lt (((s2.2.1 * (r9.2 / elder_)) + lesser_) : Int) fun low_ =>
    M.gd (catOk s2.2.2 [x1]) <|
    M.lt ((s2.2.2 ++ [x1]) : List Nat) fun there_ =>
    .ok (known_, low_, there_)
  )) text_ (known_, low_, there_)) fun (s2 : (List (List Nat × ((List Int) × (Int × Int) × (Int × Int)))) × Int × (List Nat)) =>
  M.bind (m_weight_pair frame_ s2.1) fun q14 =>
  M.gd (divOk first_.2) <|
  M.gd (mulOk (q14.2 / first_.2) first_.1) <|
  M.lt (((q14.2 / first_.2) * first_.1) : Int) fun whole_ =>
  M.bind (M.nox (m_fraction s2.2.1 whole_)) fun r17 =>
  M.bind (M.nox (m_fraction q14.1 whole_)) fun r19 =>
  .ok (r17, r19)
noncomputable def m_odd_product (many_ : Int) : M Int :=
  M.lt ((1 : Int) : Int) fun found_ =>
  M.gd (rngOk 0 many_) <|
  M.bind (forM (fun (x2 : Int) (s4 : Int) => (
    M.gd (mulOk s4 (((2 : Int) * x2) + (1 : Int))) <|
    M.lt ((s4 * (((2 : Int) * x2) + (1 : Int))) : Int) fun found_ =>
    .ok found_
  )) (rng 0 1 (many_).toNat) found_) fun (s4 : Int) =>
  .ok s4
noncomputable def m_worth (counts_ : (List Int)) : M (Int × Int) :=
  M.lt ((1 : Int) : Int) fun top_ =>
  M.bind (forM (fun (x1 : Int) (s2 : Int) => (
    M.bind (M.nox (m_odd_product x1)) fun r3 =>
    M.gd (mulOk s2 r3) <|
    M.lt ((s2 * r3) : Int) fun top_ =>
    .ok top_
  )) counts_ top_) fun (s2 : Int) =>
  M.lt ((1 : Int) : Int) fun bottom_ =>
  M.gd (rngOk 0 (counts_).sum) <|
  M.bind (forM (fun (x7 : Int) (s9 : Int) => (
    M.gd (mulOk s9 (((2 : Int) * x7) + ((counts_).length : Int))) <|
    M.lt ((s9 * (((2 : Int) * x7) + ((counts_).length : Int))) : Int) fun bottom_ =>
    .ok bottom_
  )) (rng 0 1 ((counts_).sum).toNat) bottom_) fun (s9 : Int) =>
  M.bind (m_fraction s2 s9) fun r => .ok r
noncomputable def m_all_counts (frame_ : ((List Nat) × Int)) (text_ : List Nat) : M (List (List Nat × (List Int))) :=
  M.lt ([] : (List (List Nat × (List Int)))) fun _ =>
  M.gd (lenOk text_) <|
  M.gd (rngOk 0 ((text_).length : Int)) <|
  M.bind (forM (fun (x3 : Int) (s4 : (List (List Nat × (List Int)))) => (
    M.bind (M.bind (m_elders frame_ text_ x3) fun row_ => .ok row_) fun row_ =>
    M.gd (rngOk 0 (frame_.2 + (1 : Int))) <|
    M.bind (forM (fun (x6 : Int) (s7 : (List (List Nat × (List Int)))) => (
      M.gd (lenOk row_) <|
      M.bind (if (!dhas s7 (cut row_ none (some x6))) = true then (
        M.gd (lenLt frame_.1) <|
        M.bind (M.nox (compM (fun _ => .ok true) (fun letter_ => .ok ((0 : Int))) frame_.1)) fun r11 =>
        M.gd (lenOk row_) <|
        M.gd (lenLt s7) <|
        M.gd (!dhas s7 (cut row_ none (some x6))) <|
        M.lt (s7 ++ [((cut row_ none (some x6)), r11)]) fun found_ =>
        .ok found_
      ) else (
        .ok s7
      )) fun (s9 : (List (List Nat × (List Int)))) =>
      M.gd (lenOk row_) <|
      M.bind (M.ofO (dget s9 (cut row_ none (some x6)))) fun r17 =>
      M.gd (lenOk text_) <|
      M.bind (M.ofO (atI text_ x3)) fun r20 =>
      M.gd (decide (0 ≤ (fndX frame_.1 [r20]))) <|
      M.bind (M.ofO (atI r17 (fndX frame_.1 [r20]))) fun r23 =>
      M.bind (M.ofO (setI r17 (fndX frame_.1 [r20]) (r23 + (1 : Int)))) fun r25 =>
      M.lt (dset s9 (cut row_ none (some x6)) r25) fun found_ =>
      .ok found_
    )) (rng 0 1 ((frame_.2 + (1 : Int))).toNat) s4) fun (s7 : (List (List Nat × (List Int)))) =>
    .ok s7
  )) (rng 0 1 (((text_).length : Int)).toNat) ([] : (List (List Nat × (List Int))))) fun (s4 : (List (List Nat × (List Int)))) =>
  .ok s4
noncomputable def m_all_worths (frame_ : ((List Nat) × Int)) (text_ : List Nat) : M (List (List Nat × (Int × Int))) :=
  M.bind (m_all_counts frame_ text_) fun some_ =>
  M.lt ([] : (List (List Nat × (Int × Int)))) fun found_ =>
  M.bind (M.nox (forM (fun (x1 : List Nat) (s2 : (List (List Nat × (Int × Int)))) => (
    M.bind (M.ofO (dget some_ x1)) fun r3 =>
    M.bind (M.nox (m_worth r3)) fun r5 =>
    M.gd (lenLt s2) <|
    M.lt (dput s2 x1 r5) fun found_ =>
    .ok found_
  )) ((some_).map (·.1)) found_)) fun (s2 : (List (List Nat × (Int × Int)))) =>
  .ok s2
noncomputable def m_branch_weight (frame_ : ((List Nat) × Int)) (weights_ : (List (List Nat × (Int × Int)))) (knot_ : List Nat) : M (Int × Int) :=
  M.lt (((1 : Int), (1 : Int)) : (Int × Int)) fun found_ =>
  M.bind (forM (fun (x1 : Nat) (s2 : (Int × Int)) => (
    M.gd (catOk knot_ [x1]) <|
    M.bind (if (dhas weights_ (knot_ ++ [x1])) = true then (
      M.gd (catOk knot_ [x1]) <|
      M.bind (M.ofO (dget weights_ (knot_ ++ [x1]))) fun r6 =>
      M.bind (m_times s2 r6) fun found_ =>
      .ok found_
    ) else (
      .ok s2
    )) fun (s4 : (Int × Int)) =>
    .ok s4
  )) frame_.1 found_) fun (s2 : (Int × Int)) =>
  .ok s2
noncomputable def m_all_weights (frame_ : ((List Nat) × Int)) (worths_ : (List (List Nat × (Int × Int)))) : M (List (List Nat × (Int × Int))) :=
  M.lt ([] : (List (List Nat × (Int × Int)))) fun weights_ =>
  M.gd (rngOk frame_.2 (-1 : Int)) <|
  M.bind (forM (fun (x2 : Int) (s4 : (List (List Nat × (Int × Int)))) => (
    M.bind (M.nox (forM (fun (x5 : List Nat) (s6 : (List (List Nat × (Int × Int)))) => (
      M.gd (lenOk x5) <|
      M.bind (if (decide (((x5).length : Int) = x2)) = true then (
        M.bind (M.ofO (dget worths_ x5)) fun r9 =>
        M.gd (lenLt s6) <|
        M.lt (dput s6 x5 r9) fun weights_ =>
        M.bind (if (decide (x2 < frame_.2)) = true then (
          M.bind (M.ofO (dget worths_ x5)) fun r13 =>
          M.bind (M.nox (m_branch_weight frame_ weights_ x5)) fun r15 =>
          M.bind (M.nox (m_plus r13 r15)) fun r17 =>
          M.bind (M.nox (m_half r17)) fun r19 =>
          M.gd (lenLt weights_) <|
          M.lt (dput weights_ x5 r19) fun weights_ =>
          .ok weights_
        ) else (
          .ok weights_
        )) fun (s12 : (List (List Nat × (Int × Int)))) =>
        .ok s12
      ) else (
        .ok s6
      )) fun (s8 : (List (List Nat × (Int × Int)))) =>
      .ok s8
    )) ((worths_).map (·.1)) s4)) fun (s6 : (List (List Nat × (Int × Int)))) =>
    .ok s6
  )) (rng frame_.2 (-1) (frame_.2 - (-1 : Int)).toNat) weights_) fun (s4 : (List (List Nat × (Int × Int)))) =>
  .ok s4
noncomputable def m_weight (frame_ : ((List Nat) × Int)) (text_ : List Nat) : M (Int × Int) :=
  M.bind (m_checked frame_ text_) fun _ =>
  M.bind (M.nox (m_all_worths frame_ text_)) fun r1 =>
  M.bind (M.nox (m_all_weights frame_ r1)) fun r3 =>
  .ok ((dget r3 ([] : List Nat)).getD ((1 : Int), (1 : Int)))
noncomputable def m_stretch (bits_ : Dat) : M ((Int × Int) × (Int × Int)) :=
  if (!(isStr (idd bits_))) = true then (
    .ex "NoBits"
  ) else
  M.lt ((0 : Int) : Int) fun low_ =>
  M.bind (M.ofO (strOf bits_)) fun r4 =>
  M.bind (forM (fun (x3 : Nat) (s6 : Int) => (
    M.bind (if ((!decide ([x3] = ([48] : List Nat))) && (!decide ([x3] = ([49] : List Nat)))) = true then (
      .ex "NoBits"
    ) else (
      .ok ()
    )) fun (s7 : Unit) =>
    M.lt ((((2 : Int) * s6) + (if (decide ([x3] = ([49] : List Nat))) = true then (1 : Int) else 0)) : Int) fun low_ =>
    .ok low_
  )) r4 low_) fun (s6 : Int) =>
  M.bind (M.ofO (dlen bits_)) fun r8 =>
  M.gd (shlOk (1 : Int) (r8 : Int)) <|
  M.bind (M.nox (m_fraction s6 ((1 : Int) * 2 ^ ((r8 : Int)).toNat))) fun r11 =>
  M.bind (M.ofO (dlen bits_)) fun r13 =>
  M.gd (shlOk (1 : Int) (r13 : Int)) <|
  M.bind (M.nox (m_fraction (1 : Int) ((1 : Int) * 2 ^ ((r13 : Int)).toNat))) fun r16 =>
  .ok (r11, r16)
noncomputable def m_in_twos (number_ : Int) (many_ : Int) : M (List Nat) :=
  M.lt ([] : (List Nat)) fun signs_ =>
  M.gd (rngOk (many_ - (1 : Int)) (-1 : Int)) <|
  M.bind (forM (fun (x2 : Int) (s4 : (List Nat)) => (
    M.gd (decide (0 ≤ x2)) <|
    M.gd (lenOk ([48, 49] : List Nat)) <|
    M.bind (M.ofO (atI ([48, 49] : List Nat) (Builtin.bitAnd (number_ / 2 ^ (x2).toNat) (1 : Int)))) fun r7 =>
    M.gd (lenLt s4) <|
    M.lt (s4 ++ [r7]) fun signs_ =>
    .ok signs_
  )) (rng (many_ - (1 : Int)) (-1) ((many_ - (1 : Int)) - (-1 : Int)).toNat) signs_) fun (s4 : (List Nat)) =>
  M.gd (joinOkC ([] : List Nat) s4) <|
  .ok (joinC ([] : List Nat) s4)
noncomputable def m_bits_of (low_ : (Int × Int)) (width_ : (Int × Int)) : M (List Nat) :=
  M.gd (mulOk low_.1 width_.2) <|
  M.gd (mulOk width_.1 low_.2) <|
  M.gd (mulOk low_.2 width_.2) <|
  M.lt ((((low_.1 * width_.2) + (width_.1 * low_.2)), (low_.2 * width_.2)) : (Int × Int)) fun high_ =>
  M.lt ((0 : Int) : Int) fun many_ =>
  M.lt ((if (decide (low_.1 = (0 : Int))) = true then (0 : Int) else (1 : Int)) : Int) fun number_ =>
  M.bind (whileM (fun (s4 : Int × Int) => M.gd (mulOk (s4.2 + (1 : Int)) high_.2) <| M.gd (shlOk high_.1 s4.1) <| .ok ((decide ((high_.1 * 2 ^ (s4.1).toNat) < ((s4.2 + (1 : Int)) * high_.2))))) (fun (s4 : Int × Int) => (
    M.lt ((s4.1 + (1 : Int)) : Int) fun many_ =>
    M.gd (shlOk low_.1 many_) <|
    M.gd (divOk low_.2) <|
    M.lt (((((low_.1 * 2 ^ (many_).toNat) + low_.2) - (1 : Int)) / low_.2) : Int) fun number_ =>
    .ok (many_, number_)
  )) (100000) (many_, number_)) fun (s4 : Int × Int) =>
  M.bind (m_in_twos s4.2 s4.1) fun r => .ok r
noncomputable def m_press (frame_ : ((List Nat) × Int)) (text_ : List Nat) (ahead_ : List Nat) : M (List Nat) :=
  M.bind (m_span frame_ text_ ahead_) fun q1 =>
  M.bind (m_bits_of q1.1 q1.2) fun r => .ok r
noncomputable def m_letter_there (frame_ : ((List Nat) × Int)) (known_ : (List (List Nat × ((List Int) × (Int × Int) × (Int × Int))))) (text_ : List Nat) (gone_ : Int) (first_ : (Int × Int)) (ends_ : ((Int × Int) × (Int × Int))) : M (Option (Nat × Int × (List (List Nat × ((List Int) × (Int × Int) × (Int × Int)))))) :=
  M.lt (ends_ : ((Int × Int) × (Int × Int))) fun q1 =>
  M.bind (M.nox (m_weight_pair frame_ known_)) fun r2 =>
  M.lt (r2.2 : Int) fun elder_ =>
  M.bind (M.nox (m_grown_path frame_ known_ text_ (0 : Int))) fun r4 =>
  M.bind (M.nox (m_weight_pair frame_ r4)) fun r6 =>
  M.lt (r6.2 : Int) fun under_ =>
  M.gd (divOk elder_) <|
  M.gd (mulOk gone_ (under_ / elder_)) <|
  M.lt ((gone_ * (under_ / elder_)) : Int) fun gone_ =>
  M.gd (divOk first_.2) <|
  M.gd (mulOk (under_ / first_.2) first_.1) <|
  M.lt (((under_ / first_.2) * first_.1) : Int) fun whole_ =>
  M.gd (lenOk frame_.1) <|
  M.gd (rngOk 0 ((frame_.1).length : Int)) <|
  M.seqT (forF 
  (fun (x14 : Int) (s17 : Int) => (
    M.bind (m_grown_path frame_ known_ text_ x14) fun path_ =>
    M.bind (M.ofO (dget path_ ([] : List Nat))) fun r18 =>
    M.lt ((s17 + r18.2.2.1) : Int) fun behind_ =>
    M.gd (mulOk behind_ q1.2.2) <|
    M.gd (mulOk q1.2.1 whole_) <|
    M.seq (if (decide ((q1.2.1 * whole_) ≤ (behind_ * q1.2.2))) = true then (
      M.gd (mulOk s17 q1.1.2) <|
      M.gd (mulOk q1.1.1 whole_) <|
      M.seq (if (decide ((q1.1.1 * whole_) < (s17 * q1.1.2))) = true then (
        .ok (.rt none)
      ) else (
        .ok (.nx ())
      ) : M (Fl Unit Int (Option (Nat × Int × (List (List Nat × ((List Int) × (Int × Int) × (Int × Int)))))))) fun (s25 : Unit) =>
      M.gd (lenOk frame_.1) <|
      M.bind (M.ofO (atI frame_.1 x14)) fun r27 =>
      .ok (.rt (some (r27, s17, path_)))
    ) else (
      .ok (.nx ())
    ) : M (Fl Unit Int (Option (Nat × Int × (List (List Nat × ((List Int) × (Int × Int) × (Int × Int)))))))) fun (s22 : Unit) =>
    M.lt (behind_ : Int) fun gone_ =>
    .ok (.nx gone_)
  )) (rng 0 1 (((frame_.1).length : Int)).toNat) gone_ : M (Fl Int Int (Option (Nat × Int × (List (List Nat × ((List Int) × (Int × Int) × (Int × Int)))))))) fun (s17 : Int) =>
  .ok none
noncomputable def m_found_text (frame_ : ((List Nat) × Int)) (many_ : Int) (low_ : (Int × Int)) (width_ : (Int × Int)) (ahead_ : List Nat) : M (Option (List Nat)) :=
  M.bind (m_known_of frame_ ahead_) fun known_ =>
  M.bind (m_weight_pair frame_ known_) fun first_ =>
  M.bind (M.nox (m_plus low_ width_)) fun r1 =>
  M.lt ((low_, r1) : ((Int × Int) × (Int × Int))) fun ends_ =>
  M.lt (([] : List Nat) : List Nat) fun text_ =>
  M.lt ((0 : Int) : Int) fun gone_ =>
  M.gd (rngOk 0 many_) <|
  M.seqT (forF 
  (fun (x4 : Int) (s6 : (List (List Nat × ((List Int) × (Int × Int) × (Int × Int)))) × (List Nat) × Int) => (
    M.gd (catOk ahead_ s6.2.1) <|
    M.bind (m_letter_there frame_ s6.1 (ahead_ ++ s6.2.1) s6.2.2 first_ ends_) fun told_ =>
    M.seq (if (Option.isNone told_) = true then (
      .ok (.rt none)
    ) else (
      .ok (.nx ())
    ) : M (Fl Unit ((List (List Nat × ((List Int) × (Int × Int) × (Int × Int)))) × (List Nat) × Int) (Option (List Nat)))) fun (s8 : Unit) =>
    M.bind (M.ofO (told_)) fun r9 =>
    M.lt (r9 : (Nat × Int × (List (List Nat × ((List Int) × (Int × Int) × (Int × Int)))))) fun q11 =>
    M.gd (catOk s6.1 q11.2.2) <|
    M.lt (dmerge s6.1 q11.2.2) fun known_ =>
    M.gd (catOk s6.2.1 [q11.1]) <|
    M.lt ((s6.2.1 ++ [q11.1]) : List Nat) fun text_ =>
    .ok (.nx (known_, text_, q11.2.1))
  )) (rng 0 1 (many_).toNat) (known_, text_, gone_) : M (Fl ((List (List Nat × ((List Int) × (Int × Int) × (Int × Int)))) × (List Nat) × Int) ((List (List Nat × ((List Int) × (Int × Int) × (Int × Int)))) × (List Nat) × Int) (Option (List Nat)))) fun (s6 : (List (List Nat × ((List Int) × (Int × Int) × (Int × Int)))) × (List Nat) × Int) =>
  .ok (some s6.2.1)
noncomputable def m_read (frame_ : ((List Nat) × Int)) (many_ : Int) (bits_ : List Nat) (ahead_ : List Nat) : M (List Nat) :=
  M.bind (m_checked frame_ ahead_) fun _ =>
  M.bind (m_stretch (tx bits_)) fun q1 =>
  M.gd (lenOk ahead_) <|
  if (decide ((100 : Int) < (many_ + ((ahead_).length : Int)))) = true then (
    .ex "NoPress"
  ) else
  M.bind (m_found_text frame_ many_ q1.1 q1.2 ahead_) fun text_ =>
  M.bind (M.nox (if (Option.isNone text_) = true then M.ok true else (M.bind (M.ofO (text_)) fun r3 => M.bind (M.nox (m_press frame_ r3 ahead_)) fun r5 => .ok (!decide (r5 = bits_))))) fun r7 =>
  if r7 = true then (
    .ex "NoPress"
  ) else
  M.bind (M.ofO (text_)) fun r9 =>
  .ok r9
noncomputable def m_law_cell_at (script_ : (List Int)) (k_ : Int) : M Int :=
  if (decide (k_ < ((script_).length : Int))) = true then (
    M.bind (M.ofO (atI script_ k_)) fun r1 =>
    .ok r1
  ) else
  .ok (0 : Int)
noncomputable def m_law_mixed (cell_ : Int) (k_ : Int) : M Int :=
  M.gd (mulOk (cell_ % (998244353 : Int)) ((40692 : Int) + ((3 : Int) * k_))) <|
  M.gd (mulOk ((31 : Int) * k_) k_) <|
  .ok ((((((cell_ % (998244353 : Int)) * ((40692 : Int) + ((3 : Int) * k_))) + (((31 : Int) * k_) * k_)) + (7 : Int)) * (52774 : Int)) % (2147483249 : Int))
def txt0 : List Nat := [33, 34, 35, 36, 38, 39, 40, 41, 42, 43, 44, 45, 46, 47, 48, 49, 50, 51, 52, 53, 54, 55, 56, 57, 58, 59, 60, 61, 62, 63, 64, 65, 66, 67, 68, 69, 70, 71, 72, 73, 74, 75, 76, 77, 78, 79, 80, 81, 82, 83, 84, 85, 86, 87, 88, 89, 90, 91, 92, 93, 94, 95, 96, 97, 98, 99, 100, 101, 102, 103, 104, 105, 106, 107, 108, 109, 110, 111, 112, 113, 114, 115, 116, 117, 118, 119, 120, 121, 122, 123, 124, 125, 126]
noncomputable def m_law_letters_by (cell_ : Int) : M (List Nat) :=
  M.lt (txt0 : List Nat) fun some_ =>
  M.lt ((cell_ % (93 : Int)) : Int) fun at_ =>
  M.lt (([] : List Nat) : List Nat) fun letters_ =>
  M.bind (M.nox (m_law_mixed cell_ (1 : Int))) fun r5 =>
  M.gd (rngOk 0 ((2 : Int) + (r5 % (5 : Int)))) <|
  M.bind (forM (fun (x4 : Int) (s8 : Int × (List Nat)) => (
    M.gd (lenOk some_) <|
    M.bind (M.ofO (atI some_ s8.1)) fun r10 =>
    M.lt (r10 : Nat) fun sign_ =>
    M.bind (M.nox (m_law_mixed cell_ ((10 : Int) + x4))) fun r12 =>
    M.gd (lenOk s8.2) <|
    M.gd (decide (0 < (((s8.2).length : Int) + (1 : Int)))) <|
    M.lt ((r12 % (((s8.2).length : Int) + (1 : Int))) : Int) fun place_ =>
    M.gd (lenOk s8.2) <|
    M.gd (catOk (cut s8.2 none (some place_)) [sign_]) <|
    M.gd (lenOk s8.2) <|
    M.gd (catOk ((cut s8.2 none (some place_)) ++ [sign_]) (cut s8.2 (some place_) none)) <|
    M.lt ((((cut s8.2 none (some place_)) ++ [sign_]) ++ (cut s8.2 (some place_) none)) : List Nat) fun letters_ =>
    M.bind (M.nox (m_law_mixed cell_ ((20 : Int) + x4))) fun r20 =>
    M.lt ((((s8.1 + (1 : Int)) + (r20 % (15 : Int))) % (93 : Int)) : Int) fun at_ =>
    .ok (at_, letters_)
  )) (rng 0 1 (((2 : Int) + (r5 % (5 : Int)))).toNat) (at_, letters_)) fun (s8 : Int × (List Nat)) =>
  .ok s8.2
noncomputable def m_law_text_by (script_ : (List Int)) (letters_ : List Nat) (way_ : Int) (most_ : Int) : M (List Nat) :=
  M.lt (([] : List Nat) : List Nat) fun text_ =>
  M.gd (rngOk (4 : Int) (min ((script_).length : Int) ((4 : Int) + most_))) <|
  M.bind (forM (fun (x2 : Int) (s4 : List Nat) => (
    M.bind (M.ofO (atI script_ x2)) fun r5 =>
    M.bind (M.nox (m_law_mixed r5 (30 : Int))) fun r7 =>
    M.gd (lenOk letters_) <|
    M.gd (decide (0 < ((letters_).length : Int))) <|
    M.lt ((r7 % ((letters_).length : Int)) : Int) fun at_ =>
    M.bind (M.nox (if (decide ((0 : Int) < way_)) = true then (M.bind (M.nox (if (!decide (s4 = ([] : List Nat))) = true then (M.bind (M.ofO (atI script_ x2)) fun r11 => M.bind (M.nox (m_law_mixed r11 (31 : Int))) fun r13 => .ok (decide ((0 : Int) < (r13 % (4 : Int))))) else M.ok false)) fun r15 => .ok r15) else M.ok false)) fun r17 =>
    M.bind (if r17 = true then (
      M.gd (lenOk s4) <|
      M.bind (M.ofO (atI s4 (-1 : Int))) fun r21 =>
      M.gd (decide (r21 ∈ letters_)) <|
      M.lt (((letters_).idxOf r21 : Int) : Int) fun at_ =>
      .ok at_
    ) else (
      .ok at_
    )) fun (s19 : Int) =>
    M.gd (lenOk letters_) <|
    M.bind (M.ofO (atI letters_ s19)) fun r25 =>
    M.gd (catOk s4 [r25]) <|
    M.lt ((s4 ++ [r25]) : List Nat) fun text_ =>
    .ok text_
  )) (rng (4 : Int) 1 ((min ((script_).length : Int) ((4 : Int) + most_)) - (4 : Int)).toNat) text_) fun (s4 : List Nat) =>
  .ok s4
noncomputable def m_law_whole (found_ : Int) : M Bool :=
  .ok (true && (!false))
noncomputable def m_law_is_ratio (found_ : (Int × Int)) : M Bool :=
  if ((!true) || (!decide ((2 : Int) = (2 : Int)))) = true then (
    .ok false
  ) else
  M.bind (M.nox (m_law_whole found_.1)) fun r1 =>
  M.bind (M.nox (if r1 = true then M.nox (M.bind (M.nox (m_law_whole found_.2)) fun r3 => .ok (r3 && (decide ((0 : Int) < found_.2)))) else M.ok false)) fun r5 =>
  .ok r5
noncomputable def m_law_part_good (frame_ : ((List Nat) × Int)) (part_ : List Nat) (ahead_ : List Nat) : M (Option (Int × Int)) :=
  M.bind (m_press frame_ part_ ahead_) fun bits_ =>
  M.bind (M.nox (if (!true) = true then M.ok true else (M.gd (lenOk part_) <| M.bind (M.nox (m_read frame_ ((part_).length : Int) bits_ ahead_)) fun r2 => .ok (!decide (r2 = part_))))) fun r4 =>
  if r4 = true then (
    .ok none
  ) else
  M.bind (m_span frame_ part_ ahead_) fun found_ =>
  if ((!true) || (!decide ((2 : Int) = (2 : Int)))) = true then (
    .ok none
  ) else
  M.lt (found_ : ((Int × Int) × (Int × Int))) fun q6 =>
  M.bind (M.nox (m_law_is_ratio q6.1)) fun r7 =>
  M.bind (M.nox (if (!r7) = true then M.ok true else (M.bind (M.nox (m_law_is_ratio q6.2)) fun r9 => .ok ((!r9) || ((decide (q6.1.1 < (0 : Int))) || (decide (q6.2.1 < (1 : Int)))))))) fun r11 =>
  if r11 = true then (
    .ok none
  ) else
  M.gd (mulOk q6.1.1 q6.2.2) <|
  M.gd (mulOk q6.2.1 q6.1.2) <|
  M.gd (mulOk q6.1.2 q6.2.2) <|
  if (decide ((q6.1.2 * q6.2.2) < ((q6.1.1 * q6.2.2) + (q6.2.1 * q6.1.2)))) = true then (
    .ok none
  ) else
  M.gd (lenOk bits_) <|
  M.gd (shlOk (1 : Int) ((bits_).length : Int)) <|
  M.gd (mulOk ((1 : Int) * 2 ^ (((bits_).length : Int)).toNat) q6.2.1) <|
  if (decide (((4 : Int) * q6.2.2) ≤ (((1 : Int) * 2 ^ (((bits_).length : Int)).toNat) * q6.2.1))) = true then (
    .ok none
  ) else
  .ok (some q6.2)
noncomputable def m_law (script_ : (List Int)) : M Bool :=
  M.bind (m_law_cell_at script_ (0 : Int)) fun head_ =>
  M.bind (M.nox (m_law_cell_at script_ (1 : Int))) fun r1 =>
  M.bind (m_law_letters_by r1) fun letters_ =>
  M.lt ((head_ % (4 : Int)) : Int) fun depth_ =>
  M.bind (M.nox (m_law_mixed head_ (2 : Int))) fun r3 =>
  M.bind (if (decide ((r3 % (6 : Int)) = (0 : Int))) = true then (
    M.lt ((head_ % (7 : Int)) : Int) fun depth_ =>
    .ok depth_
  ) else (
    .ok depth_
  )) fun (s5 : Int) =>
  M.bind (M.nox (m_law_mixed head_ (3 : Int))) fun r6 =>
  M.bind (M.ofO (atI [(40 : Int), (40 : Int), (30 : Int), (20 : Int), (14 : Int), (10 : Int), (8 : Int)] s5)) fun r8 =>
  M.bind (m_law_text_by script_ letters_ (r6 % (2 : Int)) r8) fun text_ =>
  M.bind (m_make_frame (tx letters_) (Dat.int s5)) fun frame_ =>
  M.gd (rngOk 0 (3 : Int)) <|
  M.gd (lenLt (rng 0 1 ((3 : Int)).toNat)) <|
  M.bind (M.nox (compM (fun _ => .ok true) (fun k_ => M.bind (M.nox (m_law_cell_at script_ (2 : Int))) fun r12 => M.bind (M.nox (m_law_mixed r12 k_)) fun r14 => M.gd (lenOk text_) <| M.gd (decide (0 < (((text_).length : Int) + (1 : Int)))) <| .ok ((r14 % (((text_).length : Int) + (1 : Int))))) (rng 0 1 ((3 : Int)).toNat))) fun r18 =>
  M.lt ((srtI r18) : (List Int)) fun cuts_ =>
  M.gd (catOk [(0 : Int)] cuts_) <|
  M.gd (lenOk text_) <|
  M.gd (catOk ([(0 : Int)] ++ cuts_) [((text_).length : Int)]) <|
  M.lt ((([(0 : Int)] ++ cuts_) ++ [((text_).length : Int)]) : (List Int)) fun cuts_ =>
  M.lt ((1 : Int) : Int) fun top_ =>
  M.lt ((1 : Int) : Int) fun bottom_ =>
  M.gd (rngOk 0 (4 : Int)) <|
  M.seqT (forF 
  (fun (x24 : Int) (s26 : Int × Int) => (
    M.bind (M.ofO (atI cuts_ x24)) fun r27 =>
    M.bind (M.ofO (atI cuts_ (x24 + (1 : Int)))) fun r29 =>
    M.gd (lenOk text_) <|
    M.bind (M.ofO (atI cuts_ x24)) fun r32 =>
    M.gd (lenOk text_) <|
    M.bind (m_law_part_good frame_ (cut text_ (some r27) (some r29)) (cut text_ none (some r32))) fun width_ =>
    M.seq (if (Option.isNone width_) = true then (
      .ok (.rt false)
    ) else (
      .ok (.nx ())
    ) : M (Fl Unit (Int × Int) Bool)) fun (s35 : Unit) =>
    M.bind (M.ofO (width_)) fun r36 =>
    M.gd (mulOk s26.1 r36.1) <|
    M.lt ((s26.1 * r36.1) : Int) fun top_ =>
    M.bind (M.ofO (width_)) fun r39 =>
    M.gd (mulOk s26.2 r39.2) <|
    M.lt ((s26.2 * r39.2) : Int) fun bottom_ =>
    .ok (.nx (top_, bottom_))
  )) (rng 0 1 ((4 : Int)).toNat) (top_, bottom_) : M (Fl (Int × Int) (Int × Int) Bool)) fun (s26 : Int × Int) =>
  M.bind (m_weight frame_ text_) fun due_ =>
  M.bind (M.nox (m_law_is_ratio due_)) fun r42 =>
  M.bind (M.nox (if r42 = true then M.nox (M.gd (mulOk s26.1 due_.2) <| M.gd (mulOk due_.1 s26.2) <| .ok (decide ((s26.1 * due_.2) = (due_.1 * s26.2)))) else M.ok false)) fun r46 =>
  .ok r46
end B
namespace B
open PySem PySem.Spec PyProof.Rows L2
section
variable {P : Program} {w : World} {K : PySem.W.Frag} {mg : Str → Option Value} {base : Heap}
def R_is_whole : List Dat → Res → Prop := fun ds o => ∃ (thing_ : Dat), ds = [idd thing_] ∧ Rm Dat.bl (m_is_whole thing_) o
theorem ok_is_whole (T : Txt K mg)  (D : Df K mg "is_whole" s_is_whole ["thing"]) : GFn P w K mg base "is_whole" 1 R_is_whole := by
  refine GFn.mk2 D sc_is_whole (fun ds o h => by obtain ⟨_, rfl, _⟩ := h; rfl) fun f cdv A outer s H E hr ds o hR => ?_
  obtain ⟨thing_, rfl, hm⟩ := hR
  refine ⟨_, (.ol .nil), fun H0 => ends_m (k := 1) (en := Dat.bl) ?_ o hm⟩
  unfold m_is_whole
  exact xm_ret (ev_andB (ev_isi_int (eb_name_ol 0 rfl) T.b_isinstance T.b_int) fun hq => (ev_one (ev_not (ev_isi_bool (eb_name_ol 0 rfl) T.b_isinstance T.b_bool))))
def R_are_letters : List Dat → Res → Prop := fun ds o => ∃ (thing_ : Dat), ds = [idd thing_] ∧ Rm Dat.bl (m_are_letters thing_) o
theorem ok_are_letters (T : Txt K mg)  (D : Df K mg "are_letters" s_are_letters ["thing"]) : GFn P w K mg base "are_letters" 1 R_are_letters := by
  refine GFn.mk2 D sc_are_letters (fun ds o h => by obtain ⟨_, rfl, _⟩ := h; rfl) fun f cdv A outer s H E hr ds o hR => ?_
  obtain ⟨thing_, rfl, hm⟩ := hR
  refine ⟨_, (.ol .nil), fun H0 => ends_m (k := 2) (en := Dat.bl) ?_ o hm⟩
  unfold m_are_letters
  refine xm_bind fun r7 h8 => ?_
  refine xm_ifX (fun _ => trivial) (EvW.t (ewm_get (ewm_or (et_not (et_val (ev_isi_str (eb_name_ol 0 rfl) T.b_isinstance T.b_str))) (fun hq => (ewm_ofO fun r1 h2 => (ewm_bind fun r5 h6 => (ewm_ok (ewm_get (ewm_or (et_lt (ev_len (eb_name_ol 0 rfl) h2 T.b_len) ev_int) (fun hq => (ewm_ofO fun r3 h4 => (ewm_ok (ew_or1 (et_gt (ev_len (eb_name_ol 0 rfl) h4 T.b_len) (ev_cstI T.c_MOST_LETTERS))))))) h6)))))) h8)) (fun hc => ?_) (fun hc => ?_)
  · -- return False
    exact xm_ret ev_bl
  refine xm_ofO fun r12 h13 => ?_
  refine xm_forJT (ea := chd) (eS := (fun (s : Unit) => [.ol (idd thing_), .no])) (oR := (fun r => Outc.rt (Dat.bl r))) (fun r => ⟨_, .inl rfl⟩) (passes_of rfl) rfl (it_tx (EvB.flat (eb_to (eb_name_ol 0 rfl) (strOf_ok h13)) ((fun _ => rfl) _))) (tg_name 1 sc_are_letters.nd) (fun _ _ => trivial) rfl (fun x11 s14 => ?_) (fun s14 => ?_)
  · refine xm_bind fun r21 h22 => ?_
    refine xm_ifJ (eS := (fun (s : Unit) => [.ol (idd thing_), .no])) (eL := (fun (s : Unit) => [.ol (idd thing_), .no])) (oR := (fun r => Outc.rt (Dat.bl r))) (fun _ => trivial) (EvW.t (ewm_get (ewm_or (et_lt (ev_ord (ev_name 1 rfl) T.b_ord) ev_int) (fun hq => (ewm_bind fun r19 h20 => (ewm_ok (ewm_get (ewm_or (et_gt (ev_ord (ev_name 1 rfl) T.b_ord) ev_int) (fun hq => (ewm_bind fun r17 h18 => (ewm_ok (ewm_get (ewm_or (et_eq (ev_ord (ev_name 1 rfl) T.b_ord) ev_int) (fun hq => (ewm_ofO fun r15 h16 => (ewm_ok (ew_or1 (et_gt (ev_count0 (EvB.flat (eb_to (eb_name_ol 0 rfl) (strOf_ok h16)) ((fun _ => rfl) _)) (ev_name 1 rfl) rfl rfl rfl) ev_int)))))) h18))))) h20))))) h22)) (fun hc => ?_) (fun hc => ?_) (fun s23 => ?_)
    · -- return False
      exact xm_ret ev_bl
    · exact xm_end [1]
    exact xm_end []
  exact xm_ret ev_bl
def R_make_frame : List Dat → Res → Prop := fun ds o => ∃ (letters_ : Dat) (depth_ : Dat), ds = [idd letters_, idd depth_] ∧ Rm (tup2 tx Dat.int) (m_make_frame letters_ depth_) o
theorem ok_make_frame (T : Txt K mg) (G_are_letters : GFn P w K mg base "are_letters" 1 R_are_letters) (G_is_whole : GFn P w K mg base "is_whole" 1 R_is_whole) (D : Df K mg "make_frame" s_make_frame ["letters", "depth"]) : GFn P w K mg base "make_frame" 2 R_make_frame := by
  refine GFn.mk2 D sc_make_frame (fun ds o h => by obtain ⟨_, _, rfl, _⟩ := h; rfl) fun f cdv A outer s H E hr ds o hR => ?_
  obtain ⟨letters_, depth_, rfl, hm⟩ := hR
  refine ⟨_, (.ol (.ol .nil)), fun H0 => ends_m (k := 2) (en := (tup2 tx Dat.int)) ?_ o hm⟩
  unfold m_make_frame
  refine xm_bind fun r1 h2 => ?_
  refine xm_ifX (fun _ => trivial) (et_not (et_val (by exact evm_get (en := Dat.bl) (v := r1) (evm_call (en := Dat.bl) G_are_letters (by exact hr.mono (by first | decide | omega)) (eab_cons (eb_name_ol 0 rfl) eab_nil) (fun o q => ⟨letters_, rfl, q⟩)) h2))) (fun hc => ?_) (fun hc => ?_)
  · -- raise NoFrame('letters that are none')
    exact xm_raise T.e_NoFrame rfl
  refine xm_bind fun r3 h4 => ?_
  refine xm_bind fun r11 h12 => ?_
  refine xm_ifX (fun _ => trivial) (EvW.t (ewm_get (ewm_or (et_not (et_val (by exact evm_get (en := Dat.bl) (v := r3) (evm_call (en := Dat.bl) G_is_whole (by exact hr.mono (by first | decide | omega)) (eab_cons (eb_name_ol 1 rfl) eab_nil) (fun o q => ⟨depth_, rfl, q⟩)) h4))) (fun hq => (ewm_ofO fun r5 h6 => (ewm_bind fun r9 h10 => (ewm_ok (ewm_get (ewm_or (et_lt (EvB.flat (eb_to (eb_name_ol 1 rfl) (intOf_ok h6)) ((fun _ => rfl) _)) ev_int) (fun hq => (ewm_ofO fun r7 h8 => (ewm_ok (ew_or1 (et_gt (EvB.flat (eb_to (eb_name_ol 1 rfl) (intOf_ok h8)) ((fun _ => rfl) _)) (ev_cstI T.c_DEEPEST))))))) h10)))))) h12)) (fun hc => ?_) (fun hc => ?_)
  · -- raise NoFrame('a depth that is none')
    exact xm_raise T.e_NoFrame rfl
  refine xm_gd fun h13 => ?_
  refine xm_gd fun h14 => ?_
  refine xm_ofO fun r15 h16 => ?_
  refine xm_ofO fun r17 h18 => ?_
  exact xm_ret (ev_tup (ea_cons (EvB.flat (eb_to (eb_name_ol 0 rfl) (strOf_ok h16)) ((fun _ => rfl) _)) (ea_cons (EvB.flat (eb_to (eb_name_ol 1 rfl) (intOf_ok h18)) ((fun _ => rfl) _)) ea_nil)) (by show 2 ≤ sizeLine; decide))
def R_checked : List Dat → Res → Prop := fun ds o => ∃ (frame_ : ((List Nat) × Int)) (text_ : List Nat), ds = [(tup2 tx Dat.int) frame_, tx text_] ∧ Rm tx (m_checked frame_ text_) o
theorem ok_checked (T : Txt K mg)  (D : Df K mg "checked" s_checked ["frame", "text"]) : GFn P w K mg base "checked" 1 R_checked := by
  refine GFn.mk2 D sc_checked (fun ds o h => by obtain ⟨_, _, rfl, _⟩ := h; rfl) fun f cdv A outer s H E hr ds o hR => ?_
  obtain ⟨frame_, text_, rfl, hm⟩ := hR
  refine ⟨_, (.im ((fun _ => rfl) _) (.im ((fun _ => rfl) _) .nil)), fun H0 => ends_m (k := 3) (en := tx) ?_ o hm⟩
  unfold m_checked
  refine xm_for (ea := chd) (eS := (fun (s : Unit) => [.im ((tup2 tx Dat.int) frame_), .im (tx text_), .no])) (passes_of rfl) rfl (it_tx (ev_name 1 rfl)) (tg_name 2 sc_checked.nd) (fun _ _ => trivial) rfl (fun x1 s2 => ?_) (fun s2 => ?_)
  · -- if sign not in frame[0]
    refine xm_ifN (eS := (fun (s : Unit) => [.im ((tup2 tx Dat.int) frame_), .im (tx text_), .no])) (et_ninX (ev_name 2 rfl) (ev_ixT (ev_name 0 rfl) ev_int (by rfl))) (fun hc => ?_) (fun hc => ?_) (fun s3 => ?_)
    · -- raise NoText('a sign that is no letter')
      exact xm_raise T.e_NoText rfl
    · exact xm_end [2]
    exact xm_end []
  exact xm_ret (ev_name 1 rfl)
def R_signs_ahead : List Dat → Res → Prop := fun ds o => ∃ (frame_ : ((List Nat) × Int)) (text_ : List Nat) (at_ : Int), ds = [(tup2 tx Dat.int) frame_, tx text_, Dat.int at_] ∧ Rm tx (m_signs_ahead frame_ text_ at_) o
theorem ok_signs_ahead (T : Txt K mg)  (D : Df K mg "signs_ahead" s_signs_ahead ["frame", "text", "at"]) : GFn P w K mg base "signs_ahead" 1 R_signs_ahead := by
  refine GFn.mk2 D sc_signs_ahead (fun ds o h => by obtain ⟨_, _, _, rfl, _⟩ := h; rfl) fun f cdv A outer s H E hr ds o hR => ?_
  obtain ⟨frame_, text_, at_, rfl, hm⟩ := hR
  refine ⟨_, (.im ((fun _ => rfl) _) (.im ((fun _ => rfl) _) (.im ((fun _ => rfl) _) .nil))), fun H0 => ends_m (k := 6) (en := tx) ?_ o hm⟩
  unfold m_signs_ahead
  refine xm_asg (en := (tup2 tx Dat.int)) (ev_name 0 rfl) (tg_pair 3 4 sc_signs_ahead.nd rfl) (fun _ => ⟨_, _, rfl⟩) (fun q1 => ?_)
  refine xm_gd fun h2 => ?_
  refine xm_ofO fun r3 h4 => ?_
  refine xm_gd fun h5 => ?_
  refine xm_gd fun h6 => ?_
  refine xm_gd fun h7 => ?_
  refine xm_set (en := tx) 5 (ev_catX (ev_repXm (ev_ixX (ev_name 3 rfl) ev_int (lenOk_ok h2) h4) (ev_name 4 rfl) h5) (ev_slX (ev_name 1 rfl) (eo_some (ev_max2 ev_int (ev_sub (ev_name 2 rfl) (ev_name 4 rfl)) rfl T.b_max)) (eo_some (ev_name 2 rfl)) (lenOk_ok h6)) (catOk_ok h7)) sc_signs_ahead.nd (fun behind_ => ?_)
  refine xm_gd fun h8 => ?_
  refine xm_gd fun h9 => ?_
  exact xm_ret (ev_slX (ev_revX (ev_name 5 rfl) (lenOk_ok h8)) eo_none (eo_some (ev_name 4 rfl)) (lenOk_ok h9))
def R_elders : List Dat → Res → Prop := fun ds o => ∃ (frame_ : ((List Nat) × Int)) (text_ : List Nat) (at_ : Int), ds = [(tup2 tx Dat.int) frame_, tx text_, Dat.int at_] ∧ Rm tx (m_elders frame_ text_ at_) o
theorem ok_elders (T : Txt K mg) (G_checked : GFn P w K mg base "checked" 1 R_checked) (G_signs_ahead : GFn P w K mg base "signs_ahead" 1 R_signs_ahead) (D : Df K mg "elders" s_elders ["frame", "text", "at"]) : GFn P w K mg base "elders" 2 R_elders := by
  refine GFn.mk2 D sc_elders (fun ds o h => by obtain ⟨_, _, _, rfl, _⟩ := h; rfl) fun f cdv A outer s H E hr ds o hR => ?_
  obtain ⟨frame_, text_, at_, rfl, hm⟩ := hR
  refine ⟨_, (.im ((fun _ => rfl) _) (.im ((fun _ => rfl) _) (.im ((fun _ => rfl) _) .nil))), fun H0 => ends_m (k := 3) (en := tx) ?_ o hm⟩
  unfold m_elders
  refine xm_exprM (eb := tx) (evm_call (en := tx) G_checked (by exact hr.mono (by first | decide | omega)) (eab_cons (Ev.toB (ev_name 0 rfl)) (eab_cons (Ev.toB (ev_name 1 rfl)) eab_nil)) (fun o q => ⟨frame_, text_, rfl, q⟩)) (fun _ => ?_)
  refine xm_bind fun r2 h3 => ?_
  refine xm_ifX (fun _ => trivial) (EvW.t (ewm_get (ewm_or (et_lt (ev_name 2 rfl) ev_int) (fun hq => (ewm_gd fun h1 => (ewm_ok (ew_or1 (et_gt (ev_name 2 rfl) (ev_len (Ev.toB (ev_name 1 rfl)) (dlen_tx (lenOk_ok h1)) T.b_len))))))) h3)) (fun hc => ?_) (fun hc => ?_)
  · -- raise NoPlace('a place that is not in the text')
    exact xm_raise T.e_NoPlace rfl
  exact xm_retM (eb := tx) (evm_call (en := tx) G_signs_ahead (by exact hr.mono (by first | decide | omega)) (eab_cons (Ev.toB (ev_name 0 rfl)) (eab_cons (Ev.toB (ev_name 1 rfl)) (eab_cons (Ev.toB (ev_name 2 rfl)) eab_nil))) (fun o q => ⟨frame_, text_, at_, rfl, q⟩))
def R_path_knots : List Dat → Res → Prop := fun ds o => ∃ (frame_ : ((List Nat) × Int)) (text_ : List Nat), ds = [(tup2 tx Dat.int) frame_, tx text_] ∧ RmO (lstd tx) (m_path_knots frame_ text_) o
theorem ok_path_knots (T : Txt K mg) (G_elders : GFn P w K mg base "elders" 2 R_elders) (D : Df K mg "path_knots" s_path_knots ["frame", "text"]) : GFn P w K mg base "path_knots" 3 R_path_knots := by
  refine GFn.mk2 D sc_path_knots (fun ds o h => by obtain ⟨_, _, rfl, _⟩ := h; rfl) fun f cdv A outer s H E hr ds o hR => ?_
  obtain ⟨frame_, text_, rfl, hm⟩ := hR
  refine ⟨_, (.im ((fun _ => rfl) _) (.im ((fun _ => rfl) _) .nil)), fun H0 => ends_mO (k := 5) (en := (lstd tx)) ?_ o hm⟩
  unfold m_path_knots
  refine xm_gd fun h1 => ?_
  refine xm_gd fun h2 => ?_
  refine xm_set (en := tx) 2 (ev_slX (ev_name 1 rfl) (eo_some (ev_max2 ev_int (ev_sub (ev_len (Ev.toB (ev_name 1 rfl)) (dlen_tx (lenOk_ok h1)) T.b_len) (ev_ixT (ev_name 0 rfl) ev_int (by rfl))) rfl T.b_max)) eo_none (lenOk_ok h2)) sc_path_knots.nd (fun end_ => ?_)
  refine xm_gd fun h3 => ?_
  refine xm_setM (eb := tx) 3 (evm_call (en := tx) G_elders (by exact hr.mono (by first | decide | omega)) (eab_cons (Ev.toB (ev_name 0 rfl)) (eab_cons (Ev.toB (ev_name 2 rfl)) (eab_cons (Ev.toB (ev_len (Ev.toB (ev_name 2 rfl)) (dlen_tx (lenOk_ok h3)) T.b_len)) eab_nil))) (fun o q => ⟨frame_, end_, ((end_).length : Int), rfl, q⟩)) sc_path_knots.nd (fun near_ => ?_)
  refine xm_gd fun h4 => ?_
  refine xm_gd fun h5 => ?_
  refine xm_bind fun r7 h8 => ?_
  exact xm_retO (eo_compM (xn := "deep") (ea := Dat.int) (eb := tx) 4 inj_int rfl sc_path_knots.nd (itm_rdn (ev_ixT (ev_name 0 rfl) ev_int (by rfl)) (ev_neg ev_int) (ev_neg ev_int) h4 T.b_range (hs := by exact fun _ h => pi_range3 rfl T.b_range h)) rfl rfl (fun _ _ _ _ _ => pg_name sc_path_knots.nd rfl (by first | exact Or.inl rfl | exact Or.inr rfl)) h8 (.inl ⟨rfl, fun _ => rfl⟩) (fun H0' s' H' C' cl' fp' hs' deep_ => (evm_gd fun h6 => (evm_ok (ev_slX (ev_name 3 rfl) eo_none (eo_some (ev_name 4 rfl)) (lenOk_ok h6))))) h5)
def R_entry_of : List Dat → Res → Prop := fun ds o => ∃ (frame_ : ((List Nat) × Int)) (known_ : (List (List Nat × ((List Int) × (Int × Int) × (Int × Int))))) (knot_ : List Nat), ds = [(tup2 tx Dat.int) frame_, (dicd (tup3 (tpnd Dat.int) (tup2 Dat.int Dat.int) (tup2 Dat.int Dat.int))) known_, tx knot_] ∧ Rm (tup3 (tpnd Dat.int) (tup2 Dat.int Dat.int) (tup2 Dat.int Dat.int)) (m_entry_of frame_ known_ knot_) o
theorem ok_entry_of (T : Txt K mg)  (D : Df K mg "entry_of" s_entry_of ["frame", "known", "knot"]) : GFn P w K mg base "entry_of" 1 R_entry_of := by
  refine GFn.mk2 D sc_entry_of (fun ds o h => by obtain ⟨_, _, _, rfl, _⟩ := h; rfl) fun f cdv A outer s H E hr ds o hR => ?_
  obtain ⟨frame_, known_, knot_, rfl, hm⟩ := hR
  refine ⟨_, (.im ((fun _ => rfl) _) (.ol (.im ((fun _ => rfl) _) .nil))), fun H0 => ends_m (k := 3) (en := (tup3 (tpnd Dat.int) (tup2 Dat.int Dat.int) (tup2 Dat.int Dat.int))) ?_ o hm⟩
  unfold m_entry_of
  refine xm_ifX (fun _ => trivial) (et_inKm (ev_name 2 rfl) (eb_name_ol 1 rfl) (hu_of hr)) (fun hc => ?_) (fun hc => ?_)
  · refine xm_ofO fun r1 h2 => ?_
    exact xm_ret (EvB.flat (eb_dgetm (en := (tup3 (tpnd Dat.int) (tup2 Dat.int Dat.int) (tup2 Dat.int Dat.int))) (eb_name_ol 1 rfl) (ev_name 2 rfl) h2 (hu_of hr)) ((flat_tup3 (flat_tpn (fun _ => rfl)) (fun _ => rfl) (fun _ => rfl)) _))
  refine xm_gd fun h3 => ?_
  refine xm_gd fun h4 => ?_
  exact xm_ret (ev_tup (ea_cons (ev_tupleLm (fun _ => rfl) (Ev.toB (EvO.ev (eo_repOm (en := Dat.int) (l := [(0 : Int)]) (eo_lst (ea_cons ev_int ea_nil) (by show 1 ≤ sizeLine; decide)) (ev_len (Ev.toB (ev_ixT (ev_name 0 rfl) ev_int (by rfl))) (dlen_tx (lenOk_ok h3)) T.b_len) h4))) T.b_tuple) (ea_cons (ev_tup (ea_cons ev_int (ea_cons ev_int ea_nil)) (by show 2 ≤ sizeLine; decide)) (ea_cons (ev_tup (ea_cons ev_int (ea_cons ev_int ea_nil)) (by show 2 ≤ sizeLine; decide)) ea_nil))) (by show 3 ≤ sizeLine; decide))
def R_halved_sum : List Dat → Res → Prop := fun ds o => ∃ (frame_ : ((List Nat) × Int)) (known_ : (List (List Nat × ((List Int) × (Int × Int) × (Int × Int))))) (path_ : (List (List Nat × ((List Int) × (Int × Int) × (Int × Int))))) (knot_ : List Nat) (own_ : (Int × Int)), ds = [(tup2 tx Dat.int) frame_, (dicd (tup3 (tpnd Dat.int) (tup2 Dat.int Dat.int) (tup2 Dat.int Dat.int))) known_, (dicd (tup3 (tpnd Dat.int) (tup2 Dat.int Dat.int) (tup2 Dat.int Dat.int))) path_, tx knot_, (tup2 Dat.int Dat.int) own_] ∧ Rm (tup2 Dat.int Dat.int) (m_halved_sum frame_ known_ path_ knot_ own_) o
theorem ok_halved_sum (T : Txt K mg) (G_entry_of : GFn P w K mg base "entry_of" 1 R_entry_of) (D : Df K mg "halved_sum" s_halved_sum ["frame", "known", "path", "knot", "own"]) : GFn P w K mg base "halved_sum" 2 R_halved_sum := by
  refine GFn.mk2 D sc_halved_sum (fun ds o h => by obtain ⟨_, _, _, _, _, rfl, _⟩ := h; rfl) fun f cdv A outer s H E hr ds o hR => ?_
  obtain ⟨frame_, known_, path_, knot_, own_, rfl, hm⟩ := hR
  refine ⟨_, (.im ((fun _ => rfl) _) (.ol (.ol (.im ((fun _ => rfl) _) (.im ((fun _ => rfl) _) .nil))))), fun H0 => ends_m (k := 10) (en := (tup2 Dat.int Dat.int)) ?_ o hm⟩
  unfold m_halved_sum
  refine xm_set (en := Dat.int) 5 ev_int sc_halved_sum.nd (fun top_ => ?_)
  refine xm_set (en := Dat.int) 6 ev_int sc_halved_sum.nd (fun bottom_ => ?_)
  refine xm_for (ea := chd) (eS := (fun (s : Int × Int) => [.im ((tup2 tx Dat.int) frame_), .ol ((dicd (tup3 (tpnd Dat.int) (tup2 Dat.int Dat.int) (tup2 Dat.int Dat.int))) known_), .ol ((dicd (tup3 (tpnd Dat.int) (tup2 Dat.int Dat.int) (tup2 Dat.int Dat.int))) path_), .im (tx knot_), .im ((tup2 Dat.int Dat.int) own_), .im (Dat.int s.1), .im (Dat.int s.2), .no, .no, .no])) (passes_of rfl) rfl (it_tx (ev_ixT (ev_name 0 rfl) ev_int (by rfl))) (tg_name 7 sc_halved_sum.nd) (fun _ _ => trivial) rfl (fun x1 s2 => ?_) (fun s2 => ?_)
  · refine xm_gd fun h3 => ?_
    refine xm_set (en := tx) 8 (ev_catX (ev_name 3 rfl) (ev_name 7 rfl) (catOk_ok h3)) sc_halved_sum.nd (fun branch_ => ?_)
    refine xm_ifN (eS := (fun (s : (Int × Int)) => [.im ((tup2 tx Dat.int) frame_), .ol ((dicd (tup3 (tpnd Dat.int) (tup2 Dat.int Dat.int) (tup2 Dat.int Dat.int))) known_), .ol ((dicd (tup3 (tpnd Dat.int) (tup2 Dat.int Dat.int) (tup2 Dat.int Dat.int))) path_), .im (tx knot_), .im ((tup2 Dat.int Dat.int) own_), .im (Dat.int s2.1), .im (Dat.int s2.2), .no, .no, .im ((tup2 Dat.int Dat.int) s)])) (et_inKm (ev_name 8 rfl) (eb_name_ol 2 rfl) (hu_of hr)) (fun hc => ?_) (fun hc => ?_) (fun s4 => ?_)
    · refine xm_ofO fun r5 h6 => ?_
      refine xm_set (en := (tup2 Dat.int Dat.int)) 9 (EvB.flat (eb_ixT (eb_dgetm (en := (tup3 (tpnd Dat.int) (tup2 Dat.int Dat.int) (tup2 Dat.int Dat.int))) (eb_name_ol 2 rfl) (ev_name 8 rfl) h6 (hu_of hr)) ev_int (by rfl)) ((fun _ => rfl) _)) sc_halved_sum.nd (fun pair_ => ?_)
      exact xm_end [7, 8]
    · refine xm_bind fun r7 h8 => ?_
      refine xm_set (en := (tup2 Dat.int Dat.int)) 9 (ev_ixT (by exact evm_get (en := (tup3 (tpnd Dat.int) (tup2 Dat.int Dat.int) (tup2 Dat.int Dat.int))) (v := r7) (evm_call (en := (tup3 (tpnd Dat.int) (tup2 Dat.int Dat.int) (tup2 Dat.int Dat.int))) G_entry_of (by exact hr.mono (by first | decide | omega)) (eab_cons (Ev.toB (ev_name 0 rfl)) (eab_cons (eb_name_ol 1 rfl) (eab_cons (Ev.toB (ev_name 8 rfl)) eab_nil))) (fun o q => ⟨frame_, known_, branch_, rfl, q⟩)) h8) ev_int (by rfl)) sc_halved_sum.nd (fun pair_ => ?_)
      exact xm_end [7, 8]
    refine xm_gd fun h9 => ?_
    refine xm_set (en := Dat.int) 5 (ev_mul (ev_name 5 rfl) (ev_ixT (ev_name 9 rfl) ev_int (by rfl)) (mulOk_ok h9)) sc_halved_sum.nd (fun top_ => ?_)
    refine xm_gd fun h10 => ?_
    refine xm_set (en := Dat.int) 6 (ev_mul (ev_name 6 rfl) (ev_ixT (ev_name 9 rfl) ev_int (by rfl)) (mulOk_ok h10)) sc_halved_sum.nd (fun bottom_ => ?_)
    exact xm_end [9]
  refine xm_gd fun h11 => ?_
  refine xm_gd fun h12 => ?_
  refine xm_gd fun h13 => ?_
  exact xm_ret (ev_tup (ea_cons (ev_add (ev_mul (ev_ixT (ev_name 4 rfl) ev_int (by rfl)) (ev_name 6 rfl) (mulOk_ok h11)) (ev_mul (ev_name 5 rfl) (ev_ixT (ev_name 4 rfl) ev_int (by rfl)) (mulOk_ok h12))) (ea_cons (ev_mul (ev_mul ev_int (ev_ixT (ev_name 4 rfl) ev_int (by rfl)) (mul_l (by decide) (by decide))) (ev_name 6 rfl) (mulOk_ok h13)) ea_nil)) (by show 2 ≤ sizeLine; decide))
def R_grown_path : List Dat → Res → Prop := fun ds o => ∃ (frame_ : ((List Nat) × Int)) (known_ : (List (List Nat × ((List Int) × (Int × Int) × (Int × Int))))) (text_ : List Nat) (place_ : Int), ds = [(tup2 tx Dat.int) frame_, (dicd (tup3 (tpnd Dat.int) (tup2 Dat.int Dat.int) (tup2 Dat.int Dat.int))) known_, tx text_, Dat.int place_] ∧ RmO (dicd (tup3 (tpnd Dat.int) (tup2 Dat.int Dat.int) (tup2 Dat.int Dat.int))) (m_grown_path frame_ known_ text_ place_) o
theorem ok_grown_path (T : Txt K mg) (G_path_knots : GFn P w K mg base "path_knots" 3 R_path_knots) (G_entry_of : GFn P w K mg base "entry_of" 1 R_entry_of) (G_halved_sum : GFn P w K mg base "halved_sum" 2 R_halved_sum) (D : Df K mg "grown_path" s_grown_path ["frame", "known", "text", "place"]) : GFn P w K mg base "grown_path" 4 R_grown_path := by
  refine GFn.mk2 D sc_grown_path (fun ds o h => by obtain ⟨_, _, _, _, rfl, _⟩ := h; rfl) fun f cdv A outer s H E hr ds o hR => ?_
  obtain ⟨frame_, known_, text_, place_, rfl, hm⟩ := hR
  refine ⟨_, (.im ((fun _ => rfl) _) (.ol (.im ((fun _ => rfl) _) (.im ((fun _ => rfl) _) .nil)))), fun H0 => ends_mO (k := 9) (en := (dicd (tup3 (tpnd Dat.int) (tup2 Dat.int Dat.int) (tup2 Dat.int Dat.int)))) ?_ o hm⟩
  unfold m_grown_path
  refine xm_setO (en := (dicd (tup3 (tpnd Dat.int) (tup2 Dat.int Dat.int) (tup2 Dat.int Dat.int)))) 4 ?_ sc_grown_path.nd (fun path_ => ?_)
  · exact eo_dic0
  refine xm_bind fun r4 h5 => ?_
  refine xm_for (ea := tx) (eS := (fun (s : (List (List Nat × ((List Int) × (Int × Int) × (Int × Int))))) => [.im ((tup2 tx Dat.int) frame_), .ol ((dicd (tup3 (tpnd Dat.int) (tup2 Dat.int Dat.int) (tup2 Dat.int Dat.int))) known_), .im (tx text_), .im (Dat.int place_), .ow ((dicd (tup3 (tpnd Dat.int) (tup2 Dat.int Dat.int) (tup2 Dat.int Dat.int))) s), .no, .no, .no, .no])) (passes_of rfl) rfl (it_list (EvO.ev (by exact eom_get (en := (lstd tx)) (v := r4) (eom_call (en := (lstd tx)) G_path_knots (by exact hr.mono (by first | decide | omega)) (eab_cons (Ev.toB (ev_name 0 rfl)) (eab_cons (Ev.toB (ev_name 2 rfl)) eab_nil)) (fun o q => ⟨frame_, text_, rfl, q⟩)) h5))) (tg_name 5 sc_grown_path.nd) (fun _ _ => trivial) rfl (fun x3 s6 => ?_) (fun s6 => ?_)
  · -- some, own, pair = entry_of(frame, known, knot)
    refine xm_asgM (eb := (tup3 (tpnd Dat.int) (tup2 Dat.int Dat.int) (tup2 Dat.int Dat.int))) (evm_call (en := (tup3 (tpnd Dat.int) (tup2 Dat.int Dat.int) (tup2 Dat.int Dat.int))) G_entry_of (by exact hr.mono (by first | decide | omega)) (eab_cons (Ev.toB (ev_name 0 rfl)) (eab_cons (eb_name_ol 1 rfl) (eab_cons (Ev.toB (ev_name 5 rfl)) eab_nil))) (fun o q => ⟨frame_, known_, x3, rfl, q⟩)) (tg_three 6 7 8 sc_grown_path.nd rfl) (fun _ => ⟨_, _, _, rfl⟩) (fun q7 => ?_)
    refine xm_ofO fun r8 h9 => ?_
    refine xm_gd fun h10 => ?_
    refine xm_gd fun h11 => ?_
    refine xm_set (en := (tup2 Dat.int Dat.int)) 7 (ev_tup (ea_cons (ev_mul (ev_ixT (ev_name 7 rfl) ev_int (by rfl)) (ev_add (ev_mul ev_int (ev_ixTm (en := Dat.int) (ev_name 6 rfl) (ev_name 3 rfl) h9) (mul_l (by decide) (by decide))) ev_int) (mulOk_ok h10)) (ea_cons (ev_mul (ev_ixT (ev_name 7 rfl) ev_int (by rfl)) (ev_add (ev_mul ev_int (ev_sumT (Ev.toB (ev_name 6 rfl)) rfl T.b_sum) (mul_l (by decide) (by decide))) (ev_lenTm (Ev.toB (ev_name 6 rfl)) T.b_len)) (mulOk_ok h11)) ea_nil)) (by show 2 ≤ sizeLine; decide)) sc_grown_path.nd (fun own_ => ?_)
    refine xm_ofO fun r12 h13 => ?_
    refine xm_ofO fun r14 h15 => ?_
    refine xm_gd fun h16 => ?_
    refine xm_gd fun h17 => ?_
    refine xm_set (en := (tpnd Dat.int)) 6 (ev_catTm (ev_catTm (ev_slTm (ev_name 6 rfl) eo_none (eo_some (ev_name 3 rfl))) (ev_tup (ea_cons (ev_add (ev_ixTm (en := Dat.int) (ev_name 6 rfl) (ev_name 3 rfl) h15) ev_int) ea_nil) (by show 1 ≤ sizeLine; decide)) h16) (ev_slTm (ev_name 6 rfl) (eo_some (ev_add (ev_name 3 rfl) ev_int)) eo_none) h17) sc_grown_path.nd (fun some_ => ?_)
    refine xm_set (en := (tup2 Dat.int Dat.int)) 8 (ev_name 7 rfl) sc_grown_path.nd (fun pair_ => ?_)
    refine xm_gd fun h18 => ?_
    refine xm_ifN (eS := (fun (s : (Int × Int)) => [.im ((tup2 tx Dat.int) frame_), .ol ((dicd (tup3 (tpnd Dat.int) (tup2 Dat.int Dat.int) (tup2 Dat.int Dat.int))) known_), .im (tx text_), .im (Dat.int place_), .ow ((dicd (tup3 (tpnd Dat.int) (tup2 Dat.int Dat.int) (tup2 Dat.int Dat.int))) s6), .im (tx x3), .im ((tpnd Dat.int) some_), .im ((tup2 Dat.int Dat.int) own_), .im ((tup2 Dat.int Dat.int) s)])) (et_lt (ev_len (Ev.toB (ev_name 5 rfl)) (dlen_tx (lenOk_ok h18)) T.b_len) (ev_ixT (ev_name 0 rfl) ev_int (by rfl))) (fun hc => ?_) (fun hc => ?_) (fun s19 => ?_)
    · -- pair = halved_sum(frame, known, path, knot, own)
      refine xm_setM (eb := (tup2 Dat.int Dat.int)) 8 (evm_call (en := (tup2 Dat.int Dat.int)) G_halved_sum (by exact hr.mono (by first | decide | omega)) (eab_cons (Ev.toB (ev_name 0 rfl)) (eab_cons (eb_name_ol 1 rfl) (eab_cons (eb_name_ow 4 rfl) (eab_cons (Ev.toB (ev_name 5 rfl)) (eab_cons (Ev.toB (ev_name 7 rfl)) eab_nil))))) (fun o q => ⟨frame_, known_, s6, x3, own_, rfl, q⟩)) sc_grown_path.nd (fun pair_ => ?_)
      exact xm_end []
    · exact xm_end []
    refine xm_gd fun h20 => ?_
    refine xm_dput (en := (tup3 (tpnd Dat.int) (tup2 Dat.int Dat.int) (tup2 Dat.int Dat.int))) 4 (ev_tup (ea_cons (ev_name 6 rfl) (ea_cons (ev_name 7 rfl) (ea_cons (ev_name 8 rfl) ea_nil))) (by show 3 ≤ sizeLine; decide)) (ev_name 5 rfl) h20 (hu_of hr) (fun path_ => ?_)
    exact xm_end [5, 6, 7, 8]
  exact xm_retOw 4 rfl
def R_weight_pair : List Dat → Res → Prop := fun ds o => ∃ (frame_ : ((List Nat) × Int)) (known_ : (List (List Nat × ((List Int) × (Int × Int) × (Int × Int))))), ds = [(tup2 tx Dat.int) frame_, (dicd (tup3 (tpnd Dat.int) (tup2 Dat.int Dat.int) (tup2 Dat.int Dat.int))) known_] ∧ Rm (tup2 Dat.int Dat.int) (m_weight_pair frame_ known_) o
theorem ok_weight_pair (T : Txt K mg) (G_entry_of : GFn P w K mg base "entry_of" 1 R_entry_of) (D : Df K mg "weight_pair" s_weight_pair ["frame", "known"]) : GFn P w K mg base "weight_pair" 2 R_weight_pair := by
  refine GFn.mk2 D sc_weight_pair (fun ds o h => by obtain ⟨_, _, rfl, _⟩ := h; rfl) fun f cdv A outer s H E hr ds o hR => ?_
  obtain ⟨frame_, known_, rfl, hm⟩ := hR
  refine ⟨_, (.im ((fun _ => rfl) _) (.ol .nil)), fun H0 => ends_m (k := 2) (en := (tup2 Dat.int Dat.int)) ?_ o hm⟩
  unfold m_weight_pair
  refine xm_bind fun r1 h2 => ?_
  exact xm_ret (ev_ixT (by exact evm_get (en := (tup3 (tpnd Dat.int) (tup2 Dat.int Dat.int) (tup2 Dat.int Dat.int))) (v := r1) (evm_call (en := (tup3 (tpnd Dat.int) (tup2 Dat.int Dat.int) (tup2 Dat.int Dat.int))) G_entry_of (by exact hr.mono (by first | decide | omega)) (eab_cons (Ev.toB (ev_name 0 rfl)) (eab_cons (eb_name_ol 1 rfl) (eab_cons (Ev.toB (ev_lit (l := []))) eab_nil))) (fun o q => ⟨frame_, known_, ([] : List Nat), rfl, q⟩)) h2) ev_int (by rfl))
def R_known_of : List Dat → Res → Prop := fun ds o => ∃ (frame_ : ((List Nat) × Int)) (text_ : List Nat), ds = [(tup2 tx Dat.int) frame_, tx text_] ∧ RmO (dicd (tup3 (tpnd Dat.int) (tup2 Dat.int Dat.int) (tup2 Dat.int Dat.int))) (m_known_of frame_ text_) o
theorem ok_known_of (T : Txt K mg) (G_grown_path : GFn P w K mg base "grown_path" 4 R_grown_path) (D : Df K mg "known_of" s_known_of ["frame", "text"]) : GFn P w K mg base "known_of" 5 R_known_of := by
  refine GFn.mk2 D sc_known_of (fun ds o h => by obtain ⟨_, _, rfl, _⟩ := h; rfl) fun f cdv A outer s H E hr ds o hR => ?_
  obtain ⟨frame_, text_, rfl, hm⟩ := hR
  refine ⟨_, (.im ((fun _ => rfl) _) (.im ((fun _ => rfl) _) .nil)), fun H0 => ends_mO (k := 4) (en := (dicd (tup3 (tpnd Dat.int) (tup2 Dat.int Dat.int) (tup2 Dat.int Dat.int)))) ?_ o hm⟩
  unfold m_known_of
  refine xm_setO (en := (dicd (tup3 (tpnd Dat.int) (tup2 Dat.int Dat.int) (tup2 Dat.int Dat.int)))) 2 ?_ sc_known_of.nd (fun known_ => ?_)
  · exact eo_dic0
  refine xm_gd fun h4 => ?_
  refine xm_gd fun h5 => ?_
  refine xm_for (ea := Dat.int) (eS := (fun (s : (List (List Nat × ((List Int) × (Int × Int) × (Int × Int))))) => [.im ((tup2 tx Dat.int) frame_), .im (tx text_), .ow ((dicd (tup3 (tpnd Dat.int) (tup2 Dat.int Dat.int) (tup2 Dat.int Dat.int))) s), .no])) (passes_of rfl) rfl (itm_r1 (ev_len (Ev.toB (ev_name 1 rfl)) (dlen_tx (lenOk_ok h4)) T.b_len) h5 T.b_range) (tg_name 3 sc_known_of.nd) (fun _ _ => trivial) rfl (fun x3 s6 => ?_) (fun s6 => ?_)
  · refine xm_gd fun h7 => ?_
    refine xm_gd fun h8 => ?_
    refine xm_ofO fun r9 h10 => ?_
    refine xm_gd fun h11 => ?_
    refine xm_bind fun r12 h13 => ?_
    refine xm_gd fun h14 => ?_
    refine xm_dupd (en := (tup3 (tpnd Dat.int) (tup2 Dat.int Dat.int) (tup2 Dat.int Dat.int))) 2 rfl (EvO.ev (by exact eom_get (en := (dicd (tup3 (tpnd Dat.int) (tup2 Dat.int Dat.int) (tup2 Dat.int Dat.int)))) (v := r12) (eom_call (en := (dicd (tup3 (tpnd Dat.int) (tup2 Dat.int Dat.int) (tup2 Dat.int Dat.int)))) G_grown_path (by exact hr.mono (by first | decide | omega)) (eab_cons (Ev.toB (ev_name 0 rfl)) (eab_cons (eb_name_ow 2 rfl) (eab_cons (Ev.toB (ev_slX (ev_name 1 rfl) eo_none (eo_some (ev_name 3 rfl)) (lenOk_ok h7))) (eab_cons (Ev.toB (ev_indexX (ev_ixT (ev_name 0 rfl) ev_int (by rfl)) (ev_ixX (ev_name 1 rfl) (ev_name 3 rfl) (lenOk_ok h8) h10) (of_decide_eq_true h11))) eab_nil)))) (fun o q => ⟨frame_, s6, (cut text_ none (some x3)), ((frame_.1).idxOf r9 : Int), rfl, q⟩)) h13)) h14 (fun known_ => ?_)
    exact xm_end [3]
  exact xm_retOw 2 rfl
def R_greatest_divisor : List Dat → Res → Prop := fun ds o => ∃ (one_ : Int) (other_ : Int), ds = [Dat.int one_, Dat.int other_] ∧ Rm Dat.int (m_greatest_divisor one_ other_) o
theorem ok_greatest_divisor (T : Txt K mg)  (D : Df K mg "greatest_divisor" s_greatest_divisor ["one", "other"]) : GFn P w K mg base "greatest_divisor" 1 R_greatest_divisor := by
  refine GFn.mk2 D sc_greatest_divisor (fun ds o h => by obtain ⟨_, _, rfl, _⟩ := h; rfl) fun f cdv A outer s H E hr ds o hR => ?_
  obtain ⟨one_, other_, rfl, hm⟩ := hR
  refine ⟨_, (.im ((fun _ => rfl) _) (.im ((fun _ => rfl) _) .nil)), fun H0 => ends_m (k := 2) (en := Dat.int) ?_ o hm⟩
  unfold m_greatest_divisor
  refine xm_set (en := Dat.int) 0 (ev_abs (ev_name 0 rfl) T.b_abs) sc_greatest_divisor.nd (fun one_ => ?_)
  refine xm_set (en := Dat.int) 1 (ev_abs (ev_name 1 rfl) T.b_abs) sc_greatest_divisor.nd (fun other_ => ?_)
  refine xm_while (eS := (fun (s : Int × Int) => [.im (Dat.int s.1), .im (Dat.int s.2)])) (passes_of rfl) rfl (fun s1 => (etm_ok (et_ne (ev_name 1 rfl) ev_int))) (fun s1 => ?_) (fun s1 => ?_)
  · refine xm_gd fun h2 => ?_
    refine xm_par2 (ea := Dat.int) (eb := Dat.int) 0 1 (ev_name 1 rfl) (ev_mod (ev_name 0 rfl) (ev_name 1 rfl) (of_decide_eq_true h2)) sc_greatest_divisor.nd rfl (by decide) (fun q3 => ?_)
    exact xm_end []
  exact xm_ret (ev_name 0 rfl)
def R_fraction : List Dat → Res → Prop := fun ds o => ∃ (top_ : Int) (bottom_ : Int), ds = [Dat.int top_, Dat.int bottom_] ∧ Rm (tup2 Dat.int Dat.int) (m_fraction top_ bottom_) o
theorem ok_fraction (T : Txt K mg) (G_greatest_divisor : GFn P w K mg base "greatest_divisor" 1 R_greatest_divisor) (D : Df K mg "fraction" s_fraction ["top", "bottom"]) : GFn P w K mg base "fraction" 2 R_fraction := by
  refine GFn.mk2 D sc_fraction (fun ds o h => by obtain ⟨_, _, rfl, _⟩ := h; rfl) fun f cdv A outer s H E hr ds o hR => ?_
  obtain ⟨top_, bottom_, rfl, hm⟩ := hR
  refine ⟨_, (.im ((fun _ => rfl) _) (.im ((fun _ => rfl) _) .nil)), fun H0 => ends_m (k := 3) (en := (tup2 Dat.int Dat.int)) ?_ o hm⟩
  unfold m_fraction
  refine xm_ifX (fun _ => trivial) (et_eq (ev_name 1 rfl) ev_int) (fun hc => ?_) (fun hc => ?_)
  · -- raise NoFraction('a bottom that is 0')
    exact xm_raise T.e_NoFraction rfl
  refine xm_setM (eb := Dat.int) 2 (evm_call (en := Dat.int) G_greatest_divisor (by exact hr.mono (by first | decide | omega)) (eab_cons (Ev.toB (ev_name 0 rfl)) (eab_cons (Ev.toB (ev_name 1 rfl)) eab_nil)) (fun o q => ⟨top_, bottom_, rfl, q⟩)) sc_fraction.nd (fun many_ => ?_)
  refine xm_ifN (eS := (fun (s : Int) => [.im (Dat.int top_), .im (Dat.int bottom_), .im (Dat.int s)])) (et_lt (ev_name 1 rfl) ev_int) (fun hc => ?_) (fun hc => ?_) (fun s1 => ?_)
  · -- many = -many
    refine xm_set (en := Dat.int) 2 (ev_neg (ev_name 2 rfl)) sc_fraction.nd (fun many_ => ?_)
    exact xm_end []
  · exact xm_end []
  refine xm_gd fun h2 => ?_
  refine xm_gd fun h3 => ?_
  exact xm_ret (ev_tup (ea_cons (ev_fdivN (ev_name 0 rfl) (ev_name 2 rfl) (fdivOk_1 h2) (fdivOk_2 h2)) (ea_cons (ev_fdivN (ev_name 1 rfl) (ev_name 2 rfl) (fdivOk_1 h3) (fdivOk_2 h3)) ea_nil)) (by show 2 ≤ sizeLine; decide))
def R_plus : List Dat → Res → Prop := fun ds o => ∃ (one_ : (Int × Int)) (other_ : (Int × Int)), ds = [(tup2 Dat.int Dat.int) one_, (tup2 Dat.int Dat.int) other_] ∧ Rm (tup2 Dat.int Dat.int) (m_plus one_ other_) o
theorem ok_plus (T : Txt K mg) (G_fraction : GFn P w K mg base "fraction" 2 R_fraction) (D : Df K mg "plus" s_plus ["one", "other"]) : GFn P w K mg base "plus" 3 R_plus := by
  refine GFn.mk2 D sc_plus (fun ds o h => by obtain ⟨_, _, rfl, _⟩ := h; rfl) fun f cdv A outer s H E hr ds o hR => ?_
  obtain ⟨one_, other_, rfl, hm⟩ := hR
  refine ⟨_, (.im ((fun _ => rfl) _) (.im ((fun _ => rfl) _) .nil)), fun H0 => ends_m (k := 2) (en := (tup2 Dat.int Dat.int)) ?_ o hm⟩
  unfold m_plus
  refine xm_gd fun h1 => ?_
  refine xm_gd fun h2 => ?_
  refine xm_gd fun h3 => ?_
  exact xm_retM (eb := (tup2 Dat.int Dat.int)) (evm_call (en := (tup2 Dat.int Dat.int)) G_fraction (by exact hr.mono (by first | decide | omega)) (eab_cons (Ev.toB (ev_add (ev_mul (ev_ixT (ev_name 0 rfl) ev_int (by rfl)) (ev_ixT (ev_name 1 rfl) ev_int (by rfl)) (mulOk_ok h1)) (ev_mul (ev_ixT (ev_name 1 rfl) ev_int (by rfl)) (ev_ixT (ev_name 0 rfl) ev_int (by rfl)) (mulOk_ok h2)))) (eab_cons (Ev.toB (ev_mul (ev_ixT (ev_name 0 rfl) ev_int (by rfl)) (ev_ixT (ev_name 1 rfl) ev_int (by rfl)) (mulOk_ok h3))) eab_nil)) (fun o q => ⟨((one_.1 * other_.2) + (other_.1 * one_.2)), (one_.2 * other_.2), rfl, q⟩))
def R_times : List Dat → Res → Prop := fun ds o => ∃ (one_ : (Int × Int)) (other_ : (Int × Int)), ds = [(tup2 Dat.int Dat.int) one_, (tup2 Dat.int Dat.int) other_] ∧ Rm (tup2 Dat.int Dat.int) (m_times one_ other_) o
theorem ok_times (T : Txt K mg) (G_fraction : GFn P w K mg base "fraction" 2 R_fraction) (D : Df K mg "times" s_times ["one", "other"]) : GFn P w K mg base "times" 3 R_times := by
  refine GFn.mk2 D sc_times (fun ds o h => by obtain ⟨_, _, rfl, _⟩ := h; rfl) fun f cdv A outer s H E hr ds o hR => ?_
  obtain ⟨one_, other_, rfl, hm⟩ := hR
  refine ⟨_, (.im ((fun _ => rfl) _) (.im ((fun _ => rfl) _) .nil)), fun H0 => ends_m (k := 2) (en := (tup2 Dat.int Dat.int)) ?_ o hm⟩
  unfold m_times
  refine xm_gd fun h1 => ?_
  refine xm_gd fun h2 => ?_
  exact xm_retM (eb := (tup2 Dat.int Dat.int)) (evm_call (en := (tup2 Dat.int Dat.int)) G_fraction (by exact hr.mono (by first | decide | omega)) (eab_cons (Ev.toB (ev_mul (ev_ixT (ev_name 0 rfl) ev_int (by rfl)) (ev_ixT (ev_name 1 rfl) ev_int (by rfl)) (mulOk_ok h1))) (eab_cons (Ev.toB (ev_mul (ev_ixT (ev_name 0 rfl) ev_int (by rfl)) (ev_ixT (ev_name 1 rfl) ev_int (by rfl)) (mulOk_ok h2))) eab_nil)) (fun o q => ⟨(one_.1 * other_.1), (one_.2 * other_.2), rfl, q⟩))
def R_half : List Dat → Res → Prop := fun ds o => ∃ (one_ : (Int × Int)), ds = [(tup2 Dat.int Dat.int) one_] ∧ Rm (tup2 Dat.int Dat.int) (m_half one_) o
theorem ok_half (T : Txt K mg) (G_fraction : GFn P w K mg base "fraction" 2 R_fraction) (D : Df K mg "half" s_half ["one"]) : GFn P w K mg base "half" 3 R_half := by
  refine GFn.mk2 D sc_half (fun ds o h => by obtain ⟨_, rfl, _⟩ := h; rfl) fun f cdv A outer s H E hr ds o hR => ?_
  obtain ⟨one_, rfl, hm⟩ := hR
  refine ⟨_, (.im ((fun _ => rfl) _) .nil), fun H0 => ends_m (k := 1) (en := (tup2 Dat.int Dat.int)) ?_ o hm⟩
  unfold m_half
  exact xm_retM (eb := (tup2 Dat.int Dat.int)) (evm_call (en := (tup2 Dat.int Dat.int)) G_fraction (by exact hr.mono (by first | decide | omega)) (eab_cons (Ev.toB (ev_ixT (ev_name 0 rfl) ev_int (by rfl))) (eab_cons (Ev.toB (ev_mul ev_int (ev_ixT (ev_name 0 rfl) ev_int (by rfl)) (mul_l (by decide) (by decide)))) eab_nil)) (fun o q => ⟨one_.1, ((2 : Int) * one_.2), rfl, q⟩))
def R_lesser_tops : List Dat → Res → Prop := fun ds o => ∃ (frame_ : ((List Nat) × Int)) (known_ : (List (List Nat × ((List Int) × (Int × Int) × (Int × Int))))) (text_ : List Nat) (place_ : Int), ds = [(tup2 tx Dat.int) frame_, (dicd (tup3 (tpnd Dat.int) (tup2 Dat.int Dat.int) (tup2 Dat.int Dat.int))) known_, tx text_, Dat.int place_] ∧ Rm Dat.int (m_lesser_tops frame_ known_ text_ place_) o
theorem ok_lesser_tops (T : Txt K mg) (G_grown_path : GFn P w K mg base "grown_path" 4 R_grown_path) (D : Df K mg "lesser_tops" s_lesser_tops ["frame", "known", "text", "place"]) : GFn P w K mg base "lesser_tops" 5 R_lesser_tops := by
  refine GFn.mk2 D sc_lesser_tops (fun ds o h => by obtain ⟨_, _, _, _, rfl, _⟩ := h; rfl) fun f cdv A outer s H E hr ds o hR => ?_
  obtain ⟨frame_, known_, text_, place_, rfl, hm⟩ := hR
  refine ⟨_, (.im ((fun _ => rfl) _) (.ol (.im ((fun _ => rfl) _) (.im ((fun _ => rfl) _) .nil)))), fun H0 => ends_m (k := 6) (en := Dat.int) ?_ o hm⟩
  unfold m_lesser_tops
  refine xm_set (en := Dat.int) 4 ev_int sc_lesser_tops.nd (fun found_ => ?_)
  refine xm_gd fun h3 => ?_
  refine xm_for (ea := Dat.int) (eS := (fun (s : Int) => [.im ((tup2 tx Dat.int) frame_), .ol ((dicd (tup3 (tpnd Dat.int) (tup2 Dat.int Dat.int) (tup2 Dat.int Dat.int))) known_), .im (tx text_), .im (Dat.int place_), .im (Dat.int s), .no])) (passes_of rfl) rfl (itm_r1 (ev_name 3 rfl) h3 T.b_range) (tg_name 5 sc_lesser_tops.nd) (fun _ _ => trivial) rfl (fun x2 s4 => ?_) (fun s4 => ?_)
  · refine xm_bind fun r5 h6 => ?_
    refine xm_ofO fun r7 h8 => ?_
    refine xm_set (en := Dat.int) 4 (ev_add (ev_name 4 rfl) (ev_ixT (ev_ixT (ev_dgetm (en := (tup3 (tpnd Dat.int) (tup2 Dat.int Dat.int) (tup2 Dat.int Dat.int))) (EvO.ev (by exact eom_get (en := (dicd (tup3 (tpnd Dat.int) (tup2 Dat.int Dat.int) (tup2 Dat.int Dat.int)))) (v := r5) (eom_call (en := (dicd (tup3 (tpnd Dat.int) (tup2 Dat.int Dat.int) (tup2 Dat.int Dat.int)))) G_grown_path (by exact hr.mono (by first | decide | omega)) (eab_cons (Ev.toB (ev_name 0 rfl)) (eab_cons (eb_name_ol 1 rfl) (eab_cons (Ev.toB (ev_name 2 rfl)) (eab_cons (Ev.toB (ev_name 5 rfl)) eab_nil)))) (fun o q => ⟨frame_, known_, text_, x2, rfl, q⟩)) h6)) (ev_lit (l := [])) h8 (hu_of hr)) ev_int (by rfl)) ev_int (by rfl))) sc_lesser_tops.nd (fun found_ => ?_)
    exact xm_end [5]
  exact xm_ret (ev_name 4 rfl)
def R_span : List Dat → Res → Prop := fun ds o => ∃ (frame_ : ((List Nat) × Int)) (text_ : List Nat) (ahead_ : List Nat), ds = [(tup2 tx Dat.int) frame_, tx text_, tx ahead_] ∧ Rm (tup2 (tup2 Dat.int Dat.int) (tup2 Dat.int Dat.int)) (m_span frame_ text_ ahead_) o
theorem ok_span (T : Txt K mg) (G_checked : GFn P w K mg base "checked" 1 R_checked) (G_known_of : GFn P w K mg base "known_of" 5 R_known_of) (G_weight_pair : GFn P w K mg base "weight_pair" 2 R_weight_pair) (G_lesser_tops : GFn P w K mg base "lesser_tops" 5 R_lesser_tops) (G_fraction : GFn P w K mg base "fraction" 2 R_fraction) (G_grown_path : GFn P w K mg base "grown_path" 4 R_grown_path) (D : DfD K mg "span" s_span ["frame", "text", "ahead"] (.str (SX.S []))) : GFnD P w K mg base "span" 6 (.str (SX.S [])) R_span := by
  refine GFnD.mk2 D sc_span (fun ds o h => by obtain ⟨_, _, _, rfl, _⟩ := h; rfl) fun f cdv A outer s H E hr ds o hR => ?_
  obtain ⟨frame_, text_, ahead_, rfl, hm⟩ := hR
  refine ⟨_, (.im ((fun _ => rfl) _) (.im ((fun _ => rfl) _) (.im ((fun _ => rfl) _) .nil))), fun H0 => ends_m (k := 14) (en := (tup2 (tup2 Dat.int Dat.int) (tup2 Dat.int Dat.int))) ?_ o hm⟩
  unfold m_span
  refine xm_exprM (eb := tx) (evm_call (en := tx) G_checked (by exact hr.mono (by first | decide | omega)) (eab_cons (Ev.toB (ev_name 0 rfl)) (eab_cons (Ev.toB (ev_name 2 rfl)) eab_nil)) (fun o q => ⟨frame_, ahead_, rfl, q⟩)) (fun _ => ?_)
  refine xm_exprM (eb := tx) (evm_call (en := tx) G_checked (by exact hr.mono (by first | decide | omega)) (eab_cons (Ev.toB (ev_name 0 rfl)) (eab_cons (Ev.toB (ev_name 1 rfl)) eab_nil)) (fun o q => ⟨frame_, text_, rfl, q⟩)) (fun _ => ?_)
  refine xm_setMO (eb := (dicd (tup3 (tpnd Dat.int) (tup2 Dat.int Dat.int) (tup2 Dat.int Dat.int)))) 3 (eom_call (en := (dicd (tup3 (tpnd Dat.int) (tup2 Dat.int Dat.int) (tup2 Dat.int Dat.int)))) G_known_of (by exact hr.mono (by first | decide | omega)) (eab_cons (Ev.toB (ev_name 0 rfl)) (eab_cons (Ev.toB (ev_name 2 rfl)) eab_nil)) (fun o q => ⟨frame_, ahead_, rfl, q⟩)) sc_span.nd (fun known_ => ?_)
  refine xm_setM (eb := (tup2 Dat.int Dat.int)) 4 (evm_call (en := (tup2 Dat.int Dat.int)) G_weight_pair (by exact hr.mono (by first | decide | omega)) (eab_cons (Ev.toB (ev_name 0 rfl)) (eab_cons (eb_name_ow 3 rfl) eab_nil)) (fun o q => ⟨frame_, known_, rfl, q⟩)) sc_span.nd (fun first_ => ?_)
  refine xm_set (en := Dat.int) 5 ev_int sc_span.nd (fun low_ => ?_)
  refine xm_set (en := tx) 6 (ev_name 2 rfl) sc_span.nd (fun there_ => ?_)
  refine xm_drops [2] ?_
  refine xm_for (ea := chd) (eS := (fun (s : (List (List Nat × ((List Int) × (Int × Int) × (Int × Int)))) × Int × (List Nat)) => [.im ((tup2 tx Dat.int) frame_), .im (tx text_), .no, .ow ((dicd (tup3 (tpnd Dat.int) (tup2 Dat.int Dat.int) (tup2 Dat.int Dat.int))) s.1), .im ((tup2 Dat.int Dat.int) first_), .im (Dat.int s.2.1), .im (tx s.2.2), .no, .no, .no, .no, .no, .no, .no])) (passes_of rfl) rfl (it_tx (ev_name 1 rfl)) (tg_name 7 sc_span.nd) (fun _ _ => trivial) rfl (fun x1 s2 => ?_) (fun s2 => ?_)
  · refine xm_gd fun h3 => ?_
    refine xm_set (en := Dat.int) 8 (ev_indexX (ev_ixT (ev_name 0 rfl) ev_int (by rfl)) (ev_name 7 rfl) (of_decide_eq_true h3)) sc_span.nd (fun place_ => ?_)
    refine xm_setM (eb := Dat.int) 9 (evm_call (en := Dat.int) G_lesser_tops (by exact hr.mono (by first | decide | omega)) (eab_cons (Ev.toB (ev_name 0 rfl)) (eab_cons (eb_name_ow 3 rfl) (eab_cons (Ev.toB (ev_name 6 rfl)) (eab_cons (Ev.toB (ev_name 8 rfl)) eab_nil)))) (fun o q => ⟨frame_, s2.1, s2.2.2, place_, rfl, q⟩)) sc_span.nd (fun lesser_ => ?_)
    refine xm_bind fun r4 h5 => ?_
    refine xm_set (en := Dat.int) 10 (ev_ixT (by exact evm_get (en := (tup2 Dat.int Dat.int)) (v := r4) (evm_call (en := (tup2 Dat.int Dat.int)) G_weight_pair (by exact hr.mono (by first | decide | omega)) (eab_cons (Ev.toB (ev_name 0 rfl)) (eab_cons (eb_name_ow 3 rfl) eab_nil)) (fun o q => ⟨frame_, s2.1, rfl, q⟩)) h5) ev_int (by rfl)) sc_span.nd (fun elder_ => ?_)
    refine xm_bind fun r6 h7 => ?_
    refine xm_gd fun h8 => ?_
    refine xm_dupd (en := (tup3 (tpnd Dat.int) (tup2 Dat.int Dat.int) (tup2 Dat.int Dat.int))) 3 rfl (EvO.ev (by exact eom_get (en := (dicd (tup3 (tpnd Dat.int) (tup2 Dat.int Dat.int) (tup2 Dat.int Dat.int)))) (v := r6) (eom_call (en := (dicd (tup3 (tpnd Dat.int) (tup2 Dat.int Dat.int) (tup2 Dat.int Dat.int)))) G_grown_path (by exact hr.mono (by first | decide | omega)) (eab_cons (Ev.toB (ev_name 0 rfl)) (eab_cons (eb_name_ow 3 rfl) (eab_cons (Ev.toB (ev_name 6 rfl)) (eab_cons (Ev.toB (ev_name 8 rfl)) eab_nil)))) (fun o q => ⟨frame_, s2.1, s2.2.2, place_, rfl, q⟩)) h7)) h8 (fun known_ => ?_)
    refine xm_bind fun r9 h10 => ?_
    refine xm_gd fun h11 => ?_
    refine xm_gd fun h12 => ?_
    refine xm_set (en := Dat.int) 5 (ev_add (ev_mul (ev_name 5 rfl) (ev_fdiv (ev_ixT (by exact evm_get (en := (tup2 Dat.int Dat.int)) (v := r9) (evm_call (en := (tup2 Dat.int Dat.int)) G_weight_pair (by exact hr.mono (by first | decide | omega)) (eab_cons (Ev.toB (ev_name 0 rfl)) (eab_cons (eb_name_ow 3 rfl) eab_nil)) (fun o q => ⟨frame_, known_, rfl, q⟩)) h10) ev_int (by rfl)) (ev_name 10 rfl) (divOk_1 h11) (divOk_2 h11)) (mulOk_ok h12)) (ev_name 9 rfl)) sc_span.nd (fun low_ => ?_)
    refine xm_gd fun h13 => ?_
    refine xm_set (en := tx) 6 (ev_catX (ev_name 6 rfl) (ev_name 7 rfl) (catOk_ok h13)) sc_span.nd (fun there_ => ?_)
    exact xm_end [7, 8, 9, 10]
  refine xm_asgM (eb := (tup2 Dat.int Dat.int)) (evm_call (en := (tup2 Dat.int Dat.int)) G_weight_pair (by exact hr.mono (by first | decide | omega)) (eab_cons (Ev.toB (ev_name 0 rfl)) (eab_cons (eb_name_ow 3 rfl) eab_nil)) (fun o q => ⟨frame_, s2.1, rfl, q⟩)) (tg_pair 11 12 sc_span.nd rfl) (fun _ => ⟨_, _, rfl⟩) (fun q14 => ?_)
  refine xm_gd fun h15 => ?_
  refine xm_gd fun h16 => ?_
  refine xm_set (en := Dat.int) 13 (ev_mul (ev_fdiv (ev_name 12 rfl) (ev_ixT (ev_name 4 rfl) ev_int (by rfl)) (divOk_1 h15) (divOk_2 h15)) (ev_ixT (ev_name 4 rfl) ev_int (by rfl)) (mulOk_ok h16)) sc_span.nd (fun whole_ => ?_)
  refine xm_bind fun r17 h18 => ?_
  refine xm_bind fun r19 h20 => ?_
  exact xm_ret (ev_tup (ea_cons (by exact evm_get (en := (tup2 Dat.int Dat.int)) (v := r17) (evm_call (en := (tup2 Dat.int Dat.int)) G_fraction (by exact hr.mono (by first | decide | omega)) (eab_cons (Ev.toB (ev_name 5 rfl)) (eab_cons (Ev.toB (ev_name 13 rfl)) eab_nil)) (fun o q => ⟨s2.2.1, whole_, rfl, q⟩)) h18) (ea_cons (by exact evm_get (en := (tup2 Dat.int Dat.int)) (v := r19) (evm_call (en := (tup2 Dat.int Dat.int)) G_fraction (by exact hr.mono (by first | decide | omega)) (eab_cons (Ev.toB (ev_name 11 rfl)) (eab_cons (Ev.toB (ev_name 13 rfl)) eab_nil)) (fun o q => ⟨q14.1, whole_, rfl, q⟩)) h20) ea_nil)) (by show 2 ≤ sizeLine; decide))
def R_odd_product : List Dat → Res → Prop := fun ds o => ∃ (many_ : Int), ds = [Dat.int many_] ∧ Rm Dat.int (m_odd_product many_) o
theorem ok_odd_product (T : Txt K mg)  (D : Df K mg "odd_product" s_odd_product ["many"]) : GFn P w K mg base "odd_product" 1 R_odd_product := by
  refine GFn.mk2 D sc_odd_product (fun ds o h => by obtain ⟨_, rfl, _⟩ := h; rfl) fun f cdv A outer s H E hr ds o hR => ?_
  obtain ⟨many_, rfl, hm⟩ := hR
  refine ⟨_, (.im ((fun _ => rfl) _) .nil), fun H0 => ends_m (k := 3) (en := Dat.int) ?_ o hm⟩
  unfold m_odd_product
  refine xm_set (en := Dat.int) 1 ev_int sc_odd_product.nd (fun found_ => ?_)
  refine xm_gd fun h3 => ?_
  refine xm_for (ea := Dat.int) (eS := (fun (s : Int) => [.im (Dat.int many_), .im (Dat.int s), .no])) (passes_of rfl) rfl (itm_r1 (ev_name 0 rfl) h3 T.b_range) (tg_name 2 sc_odd_product.nd) (fun _ _ => trivial) rfl (fun x2 s4 => ?_) (fun s4 => ?_)
  · refine xm_gd fun h5 => ?_
    refine xm_set (en := Dat.int) 1 (ev_mul (ev_name 1 rfl) (ev_add (ev_mul ev_int (ev_name 2 rfl) (mul_l (by decide) (by decide))) ev_int) (mulOk_ok h5)) sc_odd_product.nd (fun found_ => ?_)
    exact xm_end [2]
  exact xm_ret (ev_name 1 rfl)
def R_worth : List Dat → Res → Prop := fun ds o => ∃ (counts_ : (List Int)), ds = [(lstd Dat.int) counts_] ∧ Rm (tup2 Dat.int Dat.int) (m_worth counts_) o
theorem ok_worth (T : Txt K mg) (G_fraction : GFn P w K mg base "fraction" 2 R_fraction) (G_odd_product : GFn P w K mg base "odd_product" 1 R_odd_product) (D : Df K mg "worth" s_worth ["counts"]) : GFn P w K mg base "worth" 3 R_worth := by
  refine GFn.mk2 D sc_worth (fun ds o h => by obtain ⟨_, rfl, _⟩ := h; rfl) fun f cdv A outer s H E hr ds o hR => ?_
  obtain ⟨counts_, rfl, hm⟩ := hR
  refine ⟨_, (.ol .nil), fun H0 => ends_m (k := 5) (en := (tup2 Dat.int Dat.int)) ?_ o hm⟩
  unfold m_worth
  refine xm_set (en := Dat.int) 1 ev_int sc_worth.nd (fun top_ => ?_)
  refine xm_for (ea := Dat.int) (eS := (fun (s : Int) => [.ol ((lstd Dat.int) counts_), .im (Dat.int s), .no, .no, .no])) (passes_of rfl) rfl (itm_ol (fun _ => rfl) 0 rfl) (tg_name 2 sc_worth.nd) (fun _ _ => trivial) rfl (fun x1 s2 => ?_) (fun s2 => ?_)
  · refine xm_bind fun r3 h4 => ?_
    refine xm_gd fun h5 => ?_
    refine xm_set (en := Dat.int) 1 (ev_mul (ev_name 1 rfl) (by exact evm_get (en := Dat.int) (v := r3) (evm_call (en := Dat.int) G_odd_product (by exact hr.mono (by first | decide | omega)) (eab_cons (Ev.toB (ev_name 2 rfl)) eab_nil) (fun o q => ⟨x1, rfl, q⟩)) h4) (mulOk_ok h5)) sc_worth.nd (fun top_ => ?_)
    exact xm_end [2]
  refine xm_set (en := Dat.int) 3 ev_int sc_worth.nd (fun bottom_ => ?_)
  refine xm_gd fun h8 => ?_
  refine xm_for (ea := Dat.int) (eS := (fun (s : Int) => [.ol ((lstd Dat.int) counts_), .im (Dat.int s2), .no, .im (Dat.int s), .no])) (passes_of rfl) rfl (itm_r1 (ev_sum (eb_name_ol 0 rfl) rfl T.b_sum) h8 T.b_range) (tg_name 4 sc_worth.nd) (fun _ _ => trivial) rfl (fun x7 s9 => ?_) (fun s9 => ?_)
  · refine xm_gd fun h10 => ?_
    refine xm_set (en := Dat.int) 3 (ev_mul (ev_name 3 rfl) (ev_add (ev_mul ev_int (ev_name 4 rfl) (mul_l (by decide) (by decide))) (ev_lenm (eb_name_ol 0 rfl) T.b_len)) (mulOk_ok h10)) sc_worth.nd (fun bottom_ => ?_)
    exact xm_end [4]
  exact xm_retM (eb := (tup2 Dat.int Dat.int)) (evm_call (en := (tup2 Dat.int Dat.int)) G_fraction (by exact hr.mono (by first | decide | omega)) (eab_cons (Ev.toB (ev_name 1 rfl)) (eab_cons (Ev.toB (ev_name 3 rfl)) eab_nil)) (fun o q => ⟨s2, s9, rfl, q⟩))
def R_all_counts : List Dat → Res → Prop := fun ds o => ∃ (frame_ : ((List Nat) × Int)) (text_ : List Nat), ds = [(tup2 tx Dat.int) frame_, tx text_] ∧ Rm (dicd (lstd Dat.int)) (m_all_counts frame_ text_) o
theorem ok_all_counts (T : Txt K mg) (G_elders : GFn P w K mg base "elders" 2 R_elders) (D : Df K mg "all_counts" s_all_counts ["frame", "text"]) : GFn P w K mg base "all_counts" 3 R_all_counts := by
  refine GFn.mk2 D sc_all_counts (fun ds o h => by obtain ⟨_, _, rfl, _⟩ := h; rfl) fun f cdv A outer s H E hr ds o hR => ?_
  obtain ⟨frame_, text_, rfl, hm⟩ := hR
  refine ⟨_, (.im ((fun _ => rfl) _) (.im ((fun _ => rfl) _) .nil)), fun H0 => ends_m (k := 7) (en := (dicd (lstd Dat.int))) ?_ o hm⟩
  unfold m_all_counts
  refine xm_setOV (en0 := (dicd (lstd Dat.int))) (v := []) 2 ?_ sc_all_counts.nd ?_
  · exact eo_dic0
  refine xm2_start (en := Dat.int) (i := 2) rfl (noOl_of rfl) ?_
  refine xm2_gd fun h1 => ?_
  refine xm2_gd fun h2 => ?_
  refine xm2_for (ea := Dat.int) (eS := (fun (s : (List (List Nat × (List Int)))) => [.im ((tup2 tx Dat.int) frame_), .im (tx text_), .no, .no, .no, .no, .no])) (tS := (fun (s4 : (List (List Nat × (List Int)))) => s4)) 3 (passes_of rfl) rfl (itA_r1 (fun H0b bp => (ev_len (Ev.toB (ev_name 1 rfl)) (dlen_tx (lenOk_ok h1)) T.b_len)) h2 T.b_range) sc_all_counts.nd (by decide) rfl rfl (fun x3 s4 => ?_) (fun s4 => ?_)
  · -- row = elders(frame, text, at)
    refine xm2_one (fun row_ => [.im ((tup2 tx Dat.int) frame_), .im (tx text_), .no, .im (Dat.int x3), .im (tx row_), .no, .no]) (fun H0b bp => ?_) (fun row_ => ?_)
    · refine xm_setM (eb := tx) 4 (evm_call (en := tx) G_elders (by exact hr.mono (by first | decide | omega)) (eab_cons (Ev.toB (ev_name 0 rfl)) (eab_cons (Ev.toB (ev_name 1 rfl)) (eab_cons (Ev.toB (ev_name 3 rfl)) eab_nil))) (fun o q => ⟨frame_, text_, x3, rfl, q⟩)) sc_all_counts.nd (fun row_ => ?_)
      exact xm_end []
    refine xm2_gd fun h5 => ?_
    refine xm2_for (ea := Dat.int) (eS := (fun (s : (List (List Nat × (List Int)))) => [.im ((tup2 tx Dat.int) frame_), .im (tx text_), .no, .im (Dat.int x3), .im (tx row_), .no, .no])) (tS := (fun (s7 : (List (List Nat × (List Int)))) => s7)) 5 (passes_of rfl) rfl (itA_r1 (fun H0b bp => (ev_add (ev_ixT (ev_name 0 rfl) ev_int (by rfl)) ev_int)) h5 T.b_range) sc_all_counts.nd (by decide) rfl rfl (fun x6 s7 => ?_) (fun s7 => ?_)
    · refine xm2_gd fun h8 => ?_
      refine xm2_if (eS := (fun (s : (List (List Nat × (List Int)))) => [.im ((tup2 tx Dat.int) frame_), .im (tx text_), .no, .im (Dat.int x3), .im (tx row_), .im (Dat.int x6), .no])) (tS := (fun (s9 : (List (List Nat × (List Int)))) => s9)) (fun _ => rfl) (noOl_of rfl) (Nat.le_of_ble_eq_true rfl) (fun H0b => (et_ninKm (ev_slX (ev_name 4 rfl) eo_none (eo_some (ev_name 5 rfl)) (lenOk_ok h8)) (eb_name_ol 2 rfl) (hu_of hr))) (fun hc => ?_) (fun hc => ?_) (fun s9 => ?_)
      · refine xm2_gd fun h10 => ?_
        refine xm2_bind fun r11 h12 => ?_
        refine xm2_gd fun h13 => ?_
        refine xm2_gd fun h14 => ?_
        refine xm2_gd fun h15 => ?_
        refine xm2_put (noOl_of rfl) (Nat.le_of_ble_eq_true rfl) (fun H0b bp => (eo_compM (xn := "letter") (ea := chd) (eb := Dat.int) 6 inj_chr rfl sc_all_counts.nd (it_tx (ev_ixT (ev_name 0 rfl) ev_int (by rfl))) rfl rfl (fun _ _ _ _ _ => pg_name sc_all_counts.nd rfl (by first | exact Or.inl rfl | exact Or.inr rfl)) h12 (.inl ⟨rfl, fun _ => rfl⟩) (fun H0' s' H' C' cl' fp' hs' letter_ => (evm_ok ev_int)) h10)) (fun H0b bp => (ev_slX (ev_name 4 rfl) eo_none (eo_some (ev_name 5 rfl)) (lenOk_ok h13))) h14 h15 (hu_of hr) (fun found_ => ?_)
        exact xm2_end
      · exact xm2_end
      refine xm2_gd fun h16 => ?_
      refine xm2_ofO fun r17 h18 => ?_
      refine xm2_gd fun h19 => ?_
      refine xm2_ofO fun r20 h21 => ?_
      refine xm2_gd fun h22 => ?_
      refine xm2_ofO fun r23 h24 => ?_
      refine xm2_ofO fun r25 h26 => ?_
      refine xm2_aug (noOl_of rfl) (Nat.le_of_ble_eq_true rfl) (fun H0b bp => (ev_slX (ev_name 4 rfl) eo_none (eo_some (ev_name 5 rfl)) (lenOk_ok h16))) h18 (fun H0b bp => (ev_find0 (ev_ixT (ev_name 0 rfl) ev_int (by rfl)) (ev_ixX (ev_name 1 rfl) (ev_name 3 rfl) (lenOk_ok h19) h21) rfl rfl rfl)) h22 h24 (fun H0b bp => ev_int) h26 (hu_of hr) (fun found_ => ?_)
      refine xm2_drop 5 (by decide) ?_
      exact xm2_end
    refine xm2_drop 3 (by decide) ?_
    refine xm2_drop 4 (by decide) ?_
    exact xm2_end
  refine xm2_freeze (noOl_of rfl) (Nat.le_of_ble_eq_true rfl) ?_
  exact xm_ret (ev_name 2 rfl)
def R_all_worths : List Dat → Res → Prop := fun ds o => ∃ (frame_ : ((List Nat) × Int)) (text_ : List Nat), ds = [(tup2 tx Dat.int) frame_, tx text_] ∧ RmO (dicd (tup2 Dat.int Dat.int)) (m_all_worths frame_ text_) o
theorem ok_all_worths (T : Txt K mg) (G_all_counts : GFn P w K mg base "all_counts" 3 R_all_counts) (G_worth : GFn P w K mg base "worth" 3 R_worth) (D : Df K mg "all_worths" s_all_worths ["frame", "text"]) : GFn P w K mg base "all_worths" 4 R_all_worths := by
  refine GFn.mk2 D sc_all_worths (fun ds o h => by obtain ⟨_, _, rfl, _⟩ := h; rfl) fun f cdv A outer s H E hr ds o hR => ?_
  obtain ⟨frame_, text_, rfl, hm⟩ := hR
  refine ⟨_, (.im ((fun _ => rfl) _) (.im ((fun _ => rfl) _) .nil)), fun H0 => ends_mO (k := 5) (en := (dicd (tup2 Dat.int Dat.int))) ?_ o hm⟩
  unfold m_all_worths
  refine xm_setM (eb := (dicd (lstd Dat.int))) 2 (evm_call (en := (dicd (lstd Dat.int))) G_all_counts (by exact hr.mono (by first | decide | omega)) (eab_cons (Ev.toB (ev_name 0 rfl)) (eab_cons (Ev.toB (ev_name 1 rfl)) eab_nil)) (fun o q => ⟨frame_, text_, rfl, q⟩)) sc_all_worths.nd (fun some_ => ?_)
  refine xm_setO (en := (dicd (tup2 Dat.int Dat.int))) 3 ?_ sc_all_worths.nd (fun found_ => ?_)
  · exact eo_dic0
  refine xm_drops [0, 1] ?_
  refine xm_forK (en := (lstd Dat.int)) (eS := (fun (s : (List (List Nat × (Int × Int)))) => [.no, .no, .im ((dicd (lstd Dat.int)) some_), .ow ((dicd (tup2 Dat.int Dat.int)) s), .no])) 2 (passes_of rfl) rfl rfl (tg_name 4 sc_all_worths.nd) (fun _ _ => trivial) rfl (fun x1 s2 => ?_) (fun s2 => ?_)
  · refine xm_ofO fun r3 h4 => ?_
    refine xm_bind fun r5 h6 => ?_
    refine xm_gd fun h7 => ?_
    refine xm_dput (en := (tup2 Dat.int Dat.int)) 3 (by exact evm_get (en := (tup2 Dat.int Dat.int)) (v := r5) (evm_call (en := (tup2 Dat.int Dat.int)) G_worth (by exact hr.mono (by first | decide | omega)) (eab_cons (Ev.toB (ev_dgetm (en := (lstd Dat.int)) (ev_name 2 rfl) (ev_name 4 rfl) h4 (hu_of hr))) eab_nil) (fun o q => ⟨r3, rfl, q⟩)) h6) (ev_name 4 rfl) h7 (hu_of hr) (fun found_ => ?_)
    exact xm_end [4]
  exact xm_retOw 3 rfl
def R_branch_weight : List Dat → Res → Prop := fun ds o => ∃ (frame_ : ((List Nat) × Int)) (weights_ : (List (List Nat × (Int × Int)))) (knot_ : List Nat), ds = [(tup2 tx Dat.int) frame_, (dicd (tup2 Dat.int Dat.int)) weights_, tx knot_] ∧ Rm (tup2 Dat.int Dat.int) (m_branch_weight frame_ weights_ knot_) o
theorem ok_branch_weight (T : Txt K mg) (G_times : GFn P w K mg base "times" 3 R_times) (D : Df K mg "branch_weight" s_branch_weight ["frame", "weights", "knot"]) : GFn P w K mg base "branch_weight" 4 R_branch_weight := by
  refine GFn.mk2 D sc_branch_weight (fun ds o h => by obtain ⟨_, _, _, rfl, _⟩ := h; rfl) fun f cdv A outer s H E hr ds o hR => ?_
  obtain ⟨frame_, weights_, knot_, rfl, hm⟩ := hR
  refine ⟨_, (.im ((fun _ => rfl) _) (.ol (.im ((fun _ => rfl) _) .nil))), fun H0 => ends_m (k := 5) (en := (tup2 Dat.int Dat.int)) ?_ o hm⟩
  unfold m_branch_weight
  refine xm_set (en := (tup2 Dat.int Dat.int)) 3 (ev_tup (ea_cons ev_int (ea_cons ev_int ea_nil)) (by show 2 ≤ sizeLine; decide)) sc_branch_weight.nd (fun found_ => ?_)
  refine xm_for (ea := chd) (eS := (fun (s : (Int × Int)) => [.im ((tup2 tx Dat.int) frame_), .ol ((dicd (tup2 Dat.int Dat.int)) weights_), .im (tx knot_), .im ((tup2 Dat.int Dat.int) s), .no])) (passes_of rfl) rfl (it_tx (ev_ixT (ev_name 0 rfl) ev_int (by rfl))) (tg_name 4 sc_branch_weight.nd) (fun _ _ => trivial) rfl (fun x1 s2 => ?_) (fun s2 => ?_)
  · refine xm_gd fun h3 => ?_
    refine xm_ifN (eS := (fun (s : (Int × Int)) => [.im ((tup2 tx Dat.int) frame_), .ol ((dicd (tup2 Dat.int Dat.int)) weights_), .im (tx knot_), .im ((tup2 Dat.int Dat.int) s), .no])) (et_inKm (ev_catX (ev_name 2 rfl) (ev_name 4 rfl) (catOk_ok h3)) (eb_name_ol 1 rfl) (hu_of hr)) (fun hc => ?_) (fun hc => ?_) (fun s4 => ?_)
    · refine xm_gd fun h5 => ?_
      refine xm_ofO fun r6 h7 => ?_
      refine xm_setM (eb := (tup2 Dat.int Dat.int)) 3 (evm_call (en := (tup2 Dat.int Dat.int)) G_times (by exact hr.mono (by first | decide | omega)) (eab_cons (Ev.toB (ev_name 3 rfl)) (eab_cons (eb_dgetm (en := (tup2 Dat.int Dat.int)) (eb_name_ol 1 rfl) (ev_catX (ev_name 2 rfl) (ev_name 4 rfl) (catOk_ok h5)) h7 (hu_of hr)) eab_nil)) (fun o q => ⟨s2, r6, rfl, q⟩)) sc_branch_weight.nd (fun found_ => ?_)
      exact xm_end [4]
    · exact xm_end [4]
    exact xm_end []
  exact xm_ret (ev_name 3 rfl)
def R_all_weights : List Dat → Res → Prop := fun ds o => ∃ (frame_ : ((List Nat) × Int)) (worths_ : (List (List Nat × (Int × Int)))), ds = [(tup2 tx Dat.int) frame_, (dicd (tup2 Dat.int Dat.int)) worths_] ∧ RmO (dicd (tup2 Dat.int Dat.int)) (m_all_weights frame_ worths_) o
theorem ok_all_weights (T : Txt K mg) (G_half : GFn P w K mg base "half" 3 R_half) (G_plus : GFn P w K mg base "plus" 3 R_plus) (G_branch_weight : GFn P w K mg base "branch_weight" 4 R_branch_weight) (D : Df K mg "all_weights" s_all_weights ["frame", "worths"]) : GFn P w K mg base "all_weights" 5 R_all_weights := by
  refine GFn.mk2 D sc_all_weights (fun ds o h => by obtain ⟨_, _, rfl, _⟩ := h; rfl) fun f cdv A outer s H E hr ds o hR => ?_
  obtain ⟨frame_, worths_, rfl, hm⟩ := hR
  refine ⟨_, (.im ((fun _ => rfl) _) (.ol .nil)), fun H0 => ends_mO (k := 5) (en := (dicd (tup2 Dat.int Dat.int))) ?_ o hm⟩
  unfold m_all_weights
  refine xm_setO (en := (dicd (tup2 Dat.int Dat.int))) 2 ?_ sc_all_weights.nd (fun weights_ => ?_)
  · exact eo_dic0
  refine xm_gd fun h3 => ?_
  refine xm_for (ea := Dat.int) (eS := (fun (s : (List (List Nat × (Int × Int)))) => [.im ((tup2 tx Dat.int) frame_), .ol ((dicd (tup2 Dat.int Dat.int)) worths_), .ow ((dicd (tup2 Dat.int Dat.int)) s), .no, .no])) (passes_of rfl) rfl (itm_rdn (ev_ixT (ev_name 0 rfl) ev_int (by rfl)) (ev_neg ev_int) (ev_neg ev_int) h3 T.b_range (hs := by exact fun _ h => pi_range3 rfl T.b_range h)) (tg_name 3 sc_all_weights.nd) (fun _ _ => trivial) rfl (fun x2 s4 => ?_) (fun s4 => ?_)
  · -- for knot in worths:
    refine xm_forK0 (en := (tup2 Dat.int Dat.int)) (eS := (fun (s : (List (List Nat × (Int × Int)))) => [.im ((tup2 tx Dat.int) frame_), .ol ((dicd (tup2 Dat.int Dat.int)) worths_), .ow ((dicd (tup2 Dat.int Dat.int)) s), .im (Dat.int x2), .no])) 1 (passes_of rfl) rfl rfl (fun _ => FlE.to (.im ((fun _ => rfl) _) (.ol (.owd (fun _ => rfl) (.im ((fun _ => rfl) _) (.no .nil)))))) (fun _ => (tg_name 4 sc_all_weights.nd)) (fun _ _ => trivial) rfl (fun H0b x5 s6 => ?_) (fun s6 => ?_)
    · refine xm_gd fun h7 => ?_
      refine xm_ifN (eS := (fun (s : (List (List Nat × (Int × Int)))) => [.im ((tup2 tx Dat.int) frame_), .ol ((dicd (tup2 Dat.int Dat.int)) worths_), .ow ((dicd (tup2 Dat.int Dat.int)) s), .im (Dat.int x2), .no])) (et_eq (ev_len (Ev.toB (ev_name 4 rfl)) (dlen_tx (lenOk_ok h7)) T.b_len) (ev_name 3 rfl)) (fun hc => ?_) (fun hc => ?_) (fun s8 => ?_)
      · refine xm_ofO fun r9 h10 => ?_
        refine xm_gd fun h11 => ?_
        refine xm_dput (en := (tup2 Dat.int Dat.int)) 2 (EvB.flat (eb_dgetm (en := (tup2 Dat.int Dat.int)) (eb_name_ol 1 rfl) (ev_name 4 rfl) h10 (hu_of hr)) ((fun _ => rfl) _)) (ev_name 4 rfl) h11 (hu_of hr) (fun weights_ => ?_)
        refine xm_ifN (eS := (fun (s : (List (List Nat × (Int × Int)))) => [.im ((tup2 tx Dat.int) frame_), .ol ((dicd (tup2 Dat.int Dat.int)) worths_), .ow ((dicd (tup2 Dat.int Dat.int)) s), .im (Dat.int x2), .no])) (et_lt (ev_name 3 rfl) (ev_ixT (ev_name 0 rfl) ev_int (by rfl))) (fun hc => ?_) (fun hc => ?_) (fun s12 => ?_)
        · refine xm_ofO fun r13 h14 => ?_
          refine xm_bind fun r15 h16 => ?_
          refine xm_bind fun r17 h18 => ?_
          refine xm_bind fun r19 h20 => ?_
          refine xm_gd fun h21 => ?_
          refine xm_dput (en := (tup2 Dat.int Dat.int)) 2 (by exact evm_get (en := (tup2 Dat.int Dat.int)) (v := r19) (evm_call (en := (tup2 Dat.int Dat.int)) G_half (by exact hr.mono (by first | decide | omega)) (eab_cons (Ev.toB (by exact evm_get (en := (tup2 Dat.int Dat.int)) (v := r17) (evm_call (en := (tup2 Dat.int Dat.int)) G_plus (by exact hr.mono (by first | decide | omega)) (eab_cons (eb_dgetm (en := (tup2 Dat.int Dat.int)) (eb_name_ol 1 rfl) (ev_name 4 rfl) h14 (hu_of hr)) (eab_cons (Ev.toB (by exact evm_get (en := (tup2 Dat.int Dat.int)) (v := r15) (evm_call (en := (tup2 Dat.int Dat.int)) G_branch_weight (by exact hr.mono (by first | decide | omega)) (eab_cons (Ev.toB (ev_name 0 rfl)) (eab_cons (eb_name_ow 2 rfl) (eab_cons (Ev.toB (ev_name 4 rfl)) eab_nil))) (fun o q => ⟨frame_, weights_, x5, rfl, q⟩)) h16)) eab_nil)) (fun o q => ⟨r13, r15, rfl, q⟩)) h18)) eab_nil) (fun o q => ⟨r17, rfl, q⟩)) h20) (ev_name 4 rfl) h21 (hu_of hr) (fun weights_ => ?_)
          exact xm_end [4]
        · exact xm_end [4]
        exact xm_end []
      · exact xm_end [4]
      exact xm_end []
    exact xm_end [3]
  exact xm_retOw 2 rfl
def R_weight : List Dat → Res → Prop := fun ds o => ∃ (frame_ : ((List Nat) × Int)) (text_ : List Nat), ds = [(tup2 tx Dat.int) frame_, tx text_] ∧ Rm (tup2 Dat.int Dat.int) (m_weight frame_ text_) o
theorem ok_weight (T : Txt K mg) (G_checked : GFn P w K mg base "checked" 1 R_checked) (G_all_weights : GFn P w K mg base "all_weights" 5 R_all_weights) (G_all_worths : GFn P w K mg base "all_worths" 4 R_all_worths) (D : Df K mg "weight" s_weight ["frame", "text"]) : GFn P w K mg base "weight" 6 R_weight := by
  refine GFn.mk2 D sc_weight (fun ds o h => by obtain ⟨_, _, rfl, _⟩ := h; rfl) fun f cdv A outer s H E hr ds o hR => ?_
  obtain ⟨frame_, text_, rfl, hm⟩ := hR
  refine ⟨_, (.im ((fun _ => rfl) _) (.im ((fun _ => rfl) _) .nil)), fun H0 => ends_m (k := 2) (en := (tup2 Dat.int Dat.int)) ?_ o hm⟩
  unfold m_weight
  refine xm_exprM (eb := tx) (evm_call (en := tx) G_checked (by exact hr.mono (by first | decide | omega)) (eab_cons (Ev.toB (ev_name 0 rfl)) (eab_cons (Ev.toB (ev_name 1 rfl)) eab_nil)) (fun o q => ⟨frame_, text_, rfl, q⟩)) (fun _ => ?_)
  refine xm_bind fun r1 h2 => ?_
  refine xm_bind fun r3 h4 => ?_
  exact xm_ret (ev_dget2v (en := (tup2 Dat.int Dat.int)) (l := r3) (key := ([] : List Nat)) (u := ((1 : Int), (1 : Int))) (EvO.ev (by exact eom_get (en := (dicd (tup2 Dat.int Dat.int))) (v := r3) (eom_call (en := (dicd (tup2 Dat.int Dat.int))) G_all_weights (by exact hr.mono (by first | decide | omega)) (eab_cons (Ev.toB (ev_name 0 rfl)) (eab_cons (Ev.toB (EvO.ev (by exact eom_get (en := (dicd (tup2 Dat.int Dat.int))) (v := r1) (eom_call (en := (dicd (tup2 Dat.int Dat.int))) G_all_worths (by exact hr.mono (by first | decide | omega)) (eab_cons (Ev.toB (ev_name 0 rfl)) (eab_cons (Ev.toB (ev_name 1 rfl)) eab_nil)) (fun o q => ⟨frame_, text_, rfl, q⟩)) h2))) eab_nil)) (fun o q => ⟨frame_, r1, rfl, q⟩)) h4)) (ev_lit (l := [])) (ev_tup (ea_cons ev_int (ea_cons ev_int ea_nil)) (by show 2 ≤ sizeLine; decide)) (hu_of hr))
def R_stretch : List Dat → Res → Prop := fun ds o => ∃ (bits_ : Dat), ds = [idd bits_] ∧ Rm (tup2 (tup2 Dat.int Dat.int) (tup2 Dat.int Dat.int)) (m_stretch bits_) o
theorem ok_stretch (T : Txt K mg) (G_fraction : GFn P w K mg base "fraction" 2 R_fraction) (D : Df K mg "stretch" s_stretch ["bits"]) : GFn P w K mg base "stretch" 3 R_stretch := by
  refine GFn.mk2 D sc_stretch (fun ds o h => by obtain ⟨_, rfl, _⟩ := h; rfl) fun f cdv A outer s H E hr ds o hR => ?_
  obtain ⟨bits_, rfl, hm⟩ := hR
  refine ⟨_, (.ol .nil), fun H0 => ends_m (k := 3) (en := (tup2 (tup2 Dat.int Dat.int) (tup2 Dat.int Dat.int))) ?_ o hm⟩
  unfold m_stretch
  refine xm_ifX (fun _ => trivial) (et_not (et_val (ev_isi_str (eb_name_ol 0 rfl) T.b_isinstance T.b_str))) (fun hc => ?_) (fun hc => ?_)
  · -- raise NoBits('no text')
    exact xm_raise T.e_NoBits rfl
  refine xm_set (en := Dat.int) 1 ev_int sc_stretch.nd (fun low_ => ?_)
  refine xm_ofO fun r4 h5 => ?_
  refine xm_for (ea := chd) (eS := (fun (s : Int) => [.ol (idd bits_), .im (Dat.int s), .no])) (passes_of rfl) rfl (it_tx (EvB.flat (eb_to (eb_name_ol 0 rfl) (strOf_ok h5)) ((fun _ => rfl) _))) (tg_name 2 sc_stretch.nd) (fun _ _ => trivial) rfl (fun x3 s6 => ?_) (fun s6 => ?_)
  · -- if sign != '0' and sign != '1'
    refine xm_ifN (eS := (fun (s : Unit) => [.ol (idd bits_), .im (Dat.int s6), .im (chd x3)])) (EvW.t (ew_and (et_neX (ev_name 2 rfl) (ev_lit (l := [48]))) fun hq => (ew_and1 (et_neX (ev_name 2 rfl) (ev_lit (l := [49])))))) (fun hc => ?_) (fun hc => ?_) (fun s7 => ?_)
    · -- raise NoBits('a sign that is neither 0 nor 1')
      exact xm_raise T.e_NoBits rfl
    · exact xm_end []
    refine xm_set (en := Dat.int) 1 (ev_add (ev_mul ev_int (ev_name 1 rfl) (mul_l (by decide) (by decide))) (ev_intB (ev_eqX (ev_name 2 rfl) (ev_lit (l := [49]))) T.b_int)) sc_stretch.nd (fun low_ => ?_)
    exact xm_end [2]
  refine xm_ofO fun r8 h9 => ?_
  refine xm_gd fun h10 => ?_
  refine xm_bind fun r11 h12 => ?_
  refine xm_ofO fun r13 h14 => ?_
  refine xm_gd fun h15 => ?_
  refine xm_bind fun r16 h17 => ?_
  exact xm_ret (ev_tup (ea_cons (by exact evm_get (en := (tup2 Dat.int Dat.int)) (v := r11) (evm_call (en := (tup2 Dat.int Dat.int)) G_fraction (by exact hr.mono (by first | decide | omega)) (eab_cons (Ev.toB (ev_name 1 rfl)) (eab_cons (Ev.toB (ev_shlT ev_int (ev_len (eb_name_ol 0 rfl) h9 T.b_len) (shlOk_ok h10))) eab_nil)) (fun o q => ⟨s6, ((1 : Int) * 2 ^ ((r8 : Int)).toNat), rfl, q⟩)) h12) (ea_cons (by exact evm_get (en := (tup2 Dat.int Dat.int)) (v := r16) (evm_call (en := (tup2 Dat.int Dat.int)) G_fraction (by exact hr.mono (by first | decide | omega)) (eab_cons (Ev.toB ev_int) (eab_cons (Ev.toB (ev_shlT ev_int (ev_len (eb_name_ol 0 rfl) h14 T.b_len) (shlOk_ok h15))) eab_nil)) (fun o q => ⟨(1 : Int), ((1 : Int) * 2 ^ ((r13 : Int)).toNat), rfl, q⟩)) h17) ea_nil)) (by show 2 ≤ sizeLine; decide))
def R_in_twos : List Dat → Res → Prop := fun ds o => ∃ (number_ : Int) (many_ : Int), ds = [Dat.int number_, Dat.int many_] ∧ Rm tx (m_in_twos number_ many_) o
theorem ok_in_twos (T : Txt K mg)  (D : Df K mg "in_twos" s_in_twos ["number", "many"]) : GFn P w K mg base "in_twos" 1 R_in_twos := by
  refine GFn.mk2 D sc_in_twos (fun ds o h => by obtain ⟨_, _, rfl, _⟩ := h; rfl) fun f cdv A outer s H E hr ds o hR => ?_
  obtain ⟨number_, many_, rfl, hm⟩ := hR
  refine ⟨_, (.im ((fun _ => rfl) _) (.im ((fun _ => rfl) _) .nil)), fun H0 => ends_m (k := 4) (en := tx) ?_ o hm⟩
  unfold m_in_twos
  refine xm_setO (en := (lstd chd)) 2 ?_ sc_in_twos.nd (fun signs_ => ?_)
  · exact (eo_lst ea_nil (by show 0 ≤ sizeLine; decide))
  refine xm_gd fun h3 => ?_
  refine xm_for (ea := Dat.int) (eS := (fun (s : (List Nat)) => [.im (Dat.int number_), .im (Dat.int many_), .ow ((lstd chd) s), .no])) (passes_of rfl) rfl (itm_rdn (ev_sub (ev_name 1 rfl) ev_int) (ev_neg ev_int) (ev_neg ev_int) h3 T.b_range (hs := by exact fun _ h => pi_range3 rfl T.b_range h)) (tg_name 3 sc_in_twos.nd) (fun _ _ => trivial) rfl (fun x2 s4 => ?_) (fun s4 => ?_)
  · refine xm_gd fun h5 => ?_
    refine xm_gd fun h6 => ?_
    refine xm_ofO fun r7 h8 => ?_
    refine xm_gd fun h9 => ?_
    refine xm_append (en := chd) 2 rfl (ev_ixX (ev_lit (l := [48, 49])) (ev_and (ev_shr (ev_name 0 rfl) (ev_name 3 rfl) (of_decide_eq_true h5)) ev_int) (lenOk_ok h6) h8) h9 (fun signs_ => ?_)
    exact xm_end [3]
  refine xm_gd fun h10 => ?_
  exact xm_ret (ev_joinCm (ev_lit (l := [])) (eb_name_ow 2 rfl) h10)
def R_bits_of : List Dat → Res → Prop := fun ds o => ∃ (low_ : (Int × Int)) (width_ : (Int × Int)), ds = [(tup2 Dat.int Dat.int) low_, (tup2 Dat.int Dat.int) width_] ∧ Rm tx (m_bits_of low_ width_) o
theorem ok_bits_of (T : Txt K mg) (G_in_twos : GFn P w K mg base "in_twos" 1 R_in_twos) (D : Df K mg "bits_of" s_bits_of ["low", "width"]) : GFn P w K mg base "bits_of" 2 R_bits_of := by
  refine GFn.mk2 D sc_bits_of (fun ds o h => by obtain ⟨_, _, rfl, _⟩ := h; rfl) fun f cdv A outer s H E hr ds o hR => ?_
  obtain ⟨low_, width_, rfl, hm⟩ := hR
  refine ⟨_, (.im ((fun _ => rfl) _) (.im ((fun _ => rfl) _) .nil)), fun H0 => ends_m (k := 5) (en := tx) ?_ o hm⟩
  unfold m_bits_of
  refine xm_gd fun h1 => ?_
  refine xm_gd fun h2 => ?_
  refine xm_gd fun h3 => ?_
  refine xm_set (en := (tup2 Dat.int Dat.int)) 2 (ev_tup (ea_cons (ev_add (ev_mul (ev_ixT (ev_name 0 rfl) ev_int (by rfl)) (ev_ixT (ev_name 1 rfl) ev_int (by rfl)) (mulOk_ok h1)) (ev_mul (ev_ixT (ev_name 1 rfl) ev_int (by rfl)) (ev_ixT (ev_name 0 rfl) ev_int (by rfl)) (mulOk_ok h2))) (ea_cons (ev_mul (ev_ixT (ev_name 0 rfl) ev_int (by rfl)) (ev_ixT (ev_name 1 rfl) ev_int (by rfl)) (mulOk_ok h3)) ea_nil)) (by show 2 ≤ sizeLine; decide)) sc_bits_of.nd (fun high_ => ?_)
  refine xm_set (en := Dat.int) 3 ev_int sc_bits_of.nd (fun many_ => ?_)
  refine xm_set (en := Dat.int) 4 (ev_ife (en := Dat.int) (et_eq (ev_ixT (ev_name 0 rfl) ev_int (by rfl)) ev_int) ev_int ev_int) sc_bits_of.nd (fun number_ => ?_)
  refine xm_drops [1] ?_
  refine xm_while (eS := (fun (s : Int × Int) => [.im ((tup2 Dat.int Dat.int) low_), .no, .im ((tup2 Dat.int Dat.int) high_), .im (Dat.int s.1), .im (Dat.int s.2)])) (passes_of rfl) rfl (fun s4 => (etm_gd fun h5 => (etm_gd fun h6 => (etm_ok (et_gt (ev_mul (ev_add (ev_name 4 rfl) ev_int) (ev_ixT (ev_name 2 rfl) ev_int (by rfl)) (mulOk_ok h5)) (ev_shlT (ev_ixT (ev_name 2 rfl) ev_int (by rfl)) (ev_name 3 rfl) (shlOk_ok h6))))))) (fun s4 => ?_) (fun s4 => ?_)
  · -- many = many + 1
    refine xm_set (en := Dat.int) 3 (ev_add (ev_name 3 rfl) ev_int) sc_bits_of.nd (fun many_ => ?_)
    refine xm_gd fun h7 => ?_
    refine xm_gd fun h8 => ?_
    refine xm_set (en := Dat.int) 4 (ev_fdiv (ev_sub (ev_add (ev_shlT (ev_ixT (ev_name 0 rfl) ev_int (by rfl)) (ev_name 3 rfl) (shlOk_ok h7)) (ev_ixT (ev_name 0 rfl) ev_int (by rfl))) ev_int) (ev_ixT (ev_name 0 rfl) ev_int (by rfl)) (divOk_1 h8) (divOk_2 h8)) sc_bits_of.nd (fun number_ => ?_)
    exact xm_end []
  exact xm_retM (eb := tx) (evm_call (en := tx) G_in_twos (by exact hr.mono (by first | decide | omega)) (eab_cons (Ev.toB (ev_name 4 rfl)) (eab_cons (Ev.toB (ev_name 3 rfl)) eab_nil)) (fun o q => ⟨s4.2, s4.1, rfl, q⟩))
def R_press : List Dat → Res → Prop := fun ds o => ∃ (frame_ : ((List Nat) × Int)) (text_ : List Nat) (ahead_ : List Nat), ds = [(tup2 tx Dat.int) frame_, tx text_, tx ahead_] ∧ Rm tx (m_press frame_ text_ ahead_) o
theorem ok_press (T : Txt K mg) (G_span : GFnD P w K mg base "span" 6 (.str (SX.S [])) R_span) (G_bits_of : GFn P w K mg base "bits_of" 2 R_bits_of) (D : DfD K mg "press" s_press ["frame", "text", "ahead"] (.str (SX.S []))) : GFnD P w K mg base "press" 7 (.str (SX.S [])) R_press := by
  refine GFnD.mk2 D sc_press (fun ds o h => by obtain ⟨_, _, _, rfl, _⟩ := h; rfl) fun f cdv A outer s H E hr ds o hR => ?_
  obtain ⟨frame_, text_, ahead_, rfl, hm⟩ := hR
  refine ⟨_, (.im ((fun _ => rfl) _) (.im ((fun _ => rfl) _) (.im ((fun _ => rfl) _) .nil))), fun H0 => ends_m (k := 5) (en := tx) ?_ o hm⟩
  unfold m_press
  refine xm_asgM (eb := (tup2 (tup2 Dat.int Dat.int) (tup2 Dat.int Dat.int))) (evm_call (en := (tup2 (tup2 Dat.int Dat.int) (tup2 Dat.int Dat.int))) (GFnD.all G_span) (by exact hr.mono (by first | decide | omega)) (eab_cons (Ev.toB (ev_name 0 rfl)) (eab_cons (Ev.toB (ev_name 1 rfl)) (eab_cons (Ev.toB (ev_name 2 rfl)) eab_nil))) (fun o q => ⟨frame_, text_, ahead_, rfl, q⟩)) (tg_pair 3 4 sc_press.nd rfl) (fun _ => ⟨_, _, rfl⟩) (fun q1 => ?_)
  exact xm_retM (eb := tx) (evm_call (en := tx) G_bits_of (by exact hr.mono (by first | decide | omega)) (eab_cons (Ev.toB (ev_name 3 rfl)) (eab_cons (Ev.toB (ev_name 4 rfl)) eab_nil)) (fun o q => ⟨q1.1, q1.2, rfl, q⟩))
def R_letter_there : List Dat → Res → Prop := fun ds o => ∃ (frame_ : ((List Nat) × Int)) (known_ : (List (List Nat × ((List Int) × (Int × Int) × (Int × Int))))) (text_ : List Nat) (gone_ : Int) (first_ : (Int × Int)) (ends_ : ((Int × Int) × (Int × Int))), ds = [(tup2 tx Dat.int) frame_, (dicd (tup3 (tpnd Dat.int) (tup2 Dat.int Dat.int) (tup2 Dat.int Dat.int))) known_, tx text_, Dat.int gone_, (tup2 Dat.int Dat.int) first_, (tup2 (tup2 Dat.int Dat.int) (tup2 Dat.int Dat.int)) ends_] ∧ Rm (optd (tup3 chd Dat.int (dicd (tup3 (tpnd Dat.int) (tup2 Dat.int Dat.int) (tup2 Dat.int Dat.int))))) (m_letter_there frame_ known_ text_ gone_ first_ ends_) o
theorem ok_letter_there (T : Txt K mg) (G_weight_pair : GFn P w K mg base "weight_pair" 2 R_weight_pair) (G_grown_path : GFn P w K mg base "grown_path" 4 R_grown_path) (D : Df K mg "letter_there" s_letter_there ["frame", "known", "text", "gone", "first", "ends"]) : GFn P w K mg base "letter_there" 5 R_letter_there := by
  refine GFn.mk2 D sc_letter_there (fun ds o h => by obtain ⟨_, _, _, _, _, _, rfl, _⟩ := h; rfl) fun f cdv A outer s H E hr ds o hR => ?_
  obtain ⟨frame_, known_, text_, gone_, first_, ends_, rfl, hm⟩ := hR
  refine ⟨_, (.im ((fun _ => rfl) _) (.ol (.im ((fun _ => rfl) _) (.im ((fun _ => rfl) _) (.im ((fun _ => rfl) _) (.im ((fun _ => rfl) _) .nil)))))), fun H0 => ends_m (k := 14) (en := (optd (tup3 chd Dat.int (dicd (tup3 (tpnd Dat.int) (tup2 Dat.int Dat.int) (tup2 Dat.int Dat.int)))))) ?_ o hm⟩
  unfold m_letter_there
  refine xm_asg (en := (tup2 (tup2 Dat.int Dat.int) (tup2 Dat.int Dat.int))) (ev_name 5 rfl) (tg_pair 6 7 sc_letter_there.nd rfl) (fun _ => ⟨_, _, rfl⟩) (fun q1 => ?_)
  refine xm_bind fun r2 h3 => ?_
  refine xm_set (en := Dat.int) 8 (ev_ixT (by exact evm_get (en := (tup2 Dat.int Dat.int)) (v := r2) (evm_call (en := (tup2 Dat.int Dat.int)) G_weight_pair (by exact hr.mono (by first | decide | omega)) (eab_cons (Ev.toB (ev_name 0 rfl)) (eab_cons (eb_name_ol 1 rfl) eab_nil)) (fun o q => ⟨frame_, known_, rfl, q⟩)) h3) ev_int (by rfl)) sc_letter_there.nd (fun elder_ => ?_)
  refine xm_bind fun r4 h5 => ?_
  refine xm_bind fun r6 h7 => ?_
  refine xm_set (en := Dat.int) 9 (ev_ixT (by exact evm_get (en := (tup2 Dat.int Dat.int)) (v := r6) (evm_call (en := (tup2 Dat.int Dat.int)) G_weight_pair (by exact hr.mono (by first | decide | omega)) (eab_cons (Ev.toB (ev_name 0 rfl)) (eab_cons (Ev.toB (EvO.ev (by exact eom_get (en := (dicd (tup3 (tpnd Dat.int) (tup2 Dat.int Dat.int) (tup2 Dat.int Dat.int)))) (v := r4) (eom_call (en := (dicd (tup3 (tpnd Dat.int) (tup2 Dat.int Dat.int) (tup2 Dat.int Dat.int)))) G_grown_path (by exact hr.mono (by first | decide | omega)) (eab_cons (Ev.toB (ev_name 0 rfl)) (eab_cons (eb_name_ol 1 rfl) (eab_cons (Ev.toB (ev_name 2 rfl)) (eab_cons (Ev.toB ev_int) eab_nil)))) (fun o q => ⟨frame_, known_, text_, (0 : Int), rfl, q⟩)) h5))) eab_nil)) (fun o q => ⟨frame_, r4, rfl, q⟩)) h7) ev_int (by rfl)) sc_letter_there.nd (fun under_ => ?_)
  refine xm_gd fun h8 => ?_
  refine xm_gd fun h9 => ?_
  refine xm_set (en := Dat.int) 3 (ev_mul (ev_name 3 rfl) (ev_fdiv (ev_name 9 rfl) (ev_name 8 rfl) (divOk_1 h8) (divOk_2 h8)) (mulOk_ok h9)) sc_letter_there.nd (fun gone_ => ?_)
  refine xm_gd fun h10 => ?_
  refine xm_gd fun h11 => ?_
  refine xm_set (en := Dat.int) 10 (ev_mul (ev_fdiv (ev_name 9 rfl) (ev_ixT (ev_name 4 rfl) ev_int (by rfl)) (divOk_1 h10) (divOk_2 h10)) (ev_ixT (ev_name 4 rfl) ev_int (by rfl)) (mulOk_ok h11)) sc_letter_there.nd (fun whole_ => ?_)
  refine xm_drops [4, 5, 8, 9] ?_
  refine xm_gd fun h15 => ?_
  refine xm_gd fun h16 => ?_
  refine xm_forJT (ea := Dat.int) (eS := (fun (s : Int) => [.im ((tup2 tx Dat.int) frame_), .ol ((dicd (tup3 (tpnd Dat.int) (tup2 Dat.int Dat.int) (tup2 Dat.int Dat.int))) known_), .im (tx text_), .im (Dat.int s), .no, .no, .im ((tup2 Dat.int Dat.int) q1.1), .im ((tup2 Dat.int Dat.int) q1.2), .no, .no, .im (Dat.int whole_), .no, .no, .no])) (oR := (fun r => Outc.rt ((optd (tup3 chd Dat.int (dicd (tup3 (tpnd Dat.int) (tup2 Dat.int Dat.int) (tup2 Dat.int Dat.int))))) r))) (fun r => ⟨_, .inl rfl⟩) (passes_of rfl) rfl (itm_r1 (ev_len (Ev.toB (ev_ixT (ev_name 0 rfl) ev_int (by rfl))) (dlen_tx (lenOk_ok h15)) T.b_len) h16 T.b_range) (tg_name 11 sc_letter_there.nd) (fun _ _ => trivial) rfl (fun x14 s17 => ?_) (fun s17 => ?_)
  · -- path = grown_path(frame, known, text, place)
    refine xm_setMO (eb := (dicd (tup3 (tpnd Dat.int) (tup2 Dat.int Dat.int) (tup2 Dat.int Dat.int)))) 12 (eom_call (en := (dicd (tup3 (tpnd Dat.int) (tup2 Dat.int Dat.int) (tup2 Dat.int Dat.int)))) G_grown_path (by exact hr.mono (by first | decide | omega)) (eab_cons (Ev.toB (ev_name 0 rfl)) (eab_cons (eb_name_ol 1 rfl) (eab_cons (Ev.toB (ev_name 2 rfl)) (eab_cons (Ev.toB (ev_name 11 rfl)) eab_nil)))) (fun o q => ⟨frame_, known_, text_, x14, rfl, q⟩)) sc_letter_there.nd (fun path_ => ?_)
    refine xm_ofO fun r18 h19 => ?_
    refine xm_set (en := Dat.int) 13 (ev_add (ev_name 3 rfl) (ev_ixT (ev_ixT (ev_dgetw (en := (tup3 (tpnd Dat.int) (tup2 Dat.int Dat.int) (tup2 Dat.int Dat.int))) (l := path_) 12 (ev_lit (l := [])) h19 (hu_of hr)) ev_int (by rfl)) ev_int (by rfl))) sc_letter_there.nd (fun behind_ => ?_)
    refine xm_gd fun h20 => ?_
    refine xm_gd fun h21 => ?_
    refine xm_ifJ (eS := (fun (s : Unit) => [.im ((tup2 tx Dat.int) frame_), .ol ((dicd (tup3 (tpnd Dat.int) (tup2 Dat.int Dat.int) (tup2 Dat.int Dat.int))) known_), .im (tx text_), .no, .no, .no, .im ((tup2 Dat.int Dat.int) q1.1), .im ((tup2 Dat.int Dat.int) q1.2), .no, .no, .im (Dat.int whole_), .no, .no, .im (Dat.int behind_)])) (eL := (fun (s : Int) => [.im ((tup2 tx Dat.int) frame_), .ol ((dicd (tup3 (tpnd Dat.int) (tup2 Dat.int Dat.int) (tup2 Dat.int Dat.int))) known_), .im (tx text_), .im (Dat.int s), .no, .no, .im ((tup2 Dat.int Dat.int) q1.1), .im ((tup2 Dat.int Dat.int) q1.2), .no, .no, .im (Dat.int whole_), .no, .no, .no])) (oR := (fun r => Outc.rt ((optd (tup3 chd Dat.int (dicd (tup3 (tpnd Dat.int) (tup2 Dat.int Dat.int) (tup2 Dat.int Dat.int))))) r))) (fun _ => trivial) (et_ge (ev_mul (ev_name 13 rfl) (ev_ixT (ev_name 7 rfl) ev_int (by rfl)) (mulOk_ok h20)) (ev_mul (ev_ixT (ev_name 7 rfl) ev_int (by rfl)) (ev_name 10 rfl) (mulOk_ok h21))) (fun hc => ?_) (fun hc => ?_) (fun s22 => ?_)
    · refine xm_gd fun h23 => ?_
      refine xm_gd fun h24 => ?_
      refine xm_ifJ (eS := (fun (s : Unit) => [.im ((tup2 tx Dat.int) frame_), .no, .no, .im (Dat.int s17), .no, .no, .no, .no, .no, .no, .no, .im (Dat.int x14), .ow ((dicd (tup3 (tpnd Dat.int) (tup2 Dat.int Dat.int) (tup2 Dat.int Dat.int))) path_), .no])) (eL := (fun (s : Int) => [.im ((tup2 tx Dat.int) frame_), .ol ((dicd (tup3 (tpnd Dat.int) (tup2 Dat.int Dat.int) (tup2 Dat.int Dat.int))) known_), .im (tx text_), .im (Dat.int s), .no, .no, .im ((tup2 Dat.int Dat.int) q1.1), .im ((tup2 Dat.int Dat.int) q1.2), .no, .no, .im (Dat.int whole_), .no, .no, .no])) (oR := (fun r => Outc.rt ((optd (tup3 chd Dat.int (dicd (tup3 (tpnd Dat.int) (tup2 Dat.int Dat.int) (tup2 Dat.int Dat.int))))) r))) (fun _ => trivial) (et_gt (ev_mul (ev_name 3 rfl) (ev_ixT (ev_name 6 rfl) ev_int (by rfl)) (mulOk_ok h23)) (ev_mul (ev_ixT (ev_name 6 rfl) ev_int (by rfl)) (ev_name 10 rfl) (mulOk_ok h24))) (fun hc => ?_) (fun hc => ?_) (fun s25 => ?_)
      · -- return None
        exact xm_ret ev_non
      · exact xm_end [1, 2, 6, 7, 10, 13]
      refine xm_freeze 12 rfl ?_
      refine xm_gd fun h26 => ?_
      refine xm_ofO fun r27 h28 => ?_
      exact xm_ret (ev_tup (ea_cons (ev_ixX (ev_ixT (ev_name 0 rfl) ev_int (by rfl)) (ev_name 11 rfl) (lenOk_ok h26) h28) (ea_cons (ev_name 3 rfl) (ea_cons (ev_name 12 rfl) ea_nil))) (by show 3 ≤ sizeLine; decide))
    · exact xm_end [3, 11, 12]
    refine xm_set (en := Dat.int) 3 (ev_name 13 rfl) sc_letter_there.nd (fun gone_ => ?_)
    exact xm_end [13]
  exact xm_ret ev_non
def R_found_text : List Dat → Res → Prop := fun ds o => ∃ (frame_ : ((List Nat) × Int)) (many_ : Int) (low_ : (Int × Int)) (width_ : (Int × Int)) (ahead_ : List Nat), ds = [(tup2 tx Dat.int) frame_, Dat.int many_, (tup2 Dat.int Dat.int) low_, (tup2 Dat.int Dat.int) width_, tx ahead_] ∧ Rm (optd tx) (m_found_text frame_ many_ low_ width_ ahead_) o
theorem ok_found_text (T : Txt K mg) (G_known_of : GFn P w K mg base "known_of" 5 R_known_of) (G_weight_pair : GFn P w K mg base "weight_pair" 2 R_weight_pair) (G_plus : GFn P w K mg base "plus" 3 R_plus) (G_letter_there : GFn P w K mg base "letter_there" 5 R_letter_there) (D : DfD K mg "found_text" s_found_text ["frame", "many", "low", "width", "ahead"] (.str (SX.S []))) : GFnD P w K mg base "found_text" 6 (.str (SX.S [])) R_found_text := by
  refine GFnD.mk2 D sc_found_text (fun ds o h => by obtain ⟨_, _, _, _, _, rfl, _⟩ := h; rfl) fun f cdv A outer s H E hr ds o hR => ?_
  obtain ⟨frame_, many_, low_, width_, ahead_, rfl, hm⟩ := hR
  refine ⟨_, (.im ((fun _ => rfl) _) (.im ((fun _ => rfl) _) (.im ((fun _ => rfl) _) (.im ((fun _ => rfl) _) (.im ((fun _ => rfl) _) .nil))))), fun H0 => ends_m (k := 14) (en := (optd tx)) ?_ o hm⟩
  unfold m_found_text
  refine xm_setMO (eb := (dicd (tup3 (tpnd Dat.int) (tup2 Dat.int Dat.int) (tup2 Dat.int Dat.int)))) 5 (eom_call (en := (dicd (tup3 (tpnd Dat.int) (tup2 Dat.int Dat.int) (tup2 Dat.int Dat.int)))) G_known_of (by exact hr.mono (by first | decide | omega)) (eab_cons (Ev.toB (ev_name 0 rfl)) (eab_cons (Ev.toB (ev_name 4 rfl)) eab_nil)) (fun o q => ⟨frame_, ahead_, rfl, q⟩)) sc_found_text.nd (fun known_ => ?_)
  refine xm_setM (eb := (tup2 Dat.int Dat.int)) 6 (evm_call (en := (tup2 Dat.int Dat.int)) G_weight_pair (by exact hr.mono (by first | decide | omega)) (eab_cons (Ev.toB (ev_name 0 rfl)) (eab_cons (eb_name_ow 5 rfl) eab_nil)) (fun o q => ⟨frame_, known_, rfl, q⟩)) sc_found_text.nd (fun first_ => ?_)
  refine xm_bind fun r1 h2 => ?_
  refine xm_set (en := (tup2 (tup2 Dat.int Dat.int) (tup2 Dat.int Dat.int))) 7 (ev_tup (ea_cons (ev_name 2 rfl) (ea_cons (by exact evm_get (en := (tup2 Dat.int Dat.int)) (v := r1) (evm_call (en := (tup2 Dat.int Dat.int)) G_plus (by exact hr.mono (by first | decide | omega)) (eab_cons (Ev.toB (ev_name 2 rfl)) (eab_cons (Ev.toB (ev_name 3 rfl)) eab_nil)) (fun o q => ⟨low_, width_, rfl, q⟩)) h2) ea_nil)) (by show 2 ≤ sizeLine; decide)) sc_found_text.nd (fun ends_ => ?_)
  refine xm_set (en := tx) 8 (ev_lit (l := [])) sc_found_text.nd (fun text_ => ?_)
  refine xm_set (en := Dat.int) 9 ev_int sc_found_text.nd (fun gone_ => ?_)
  refine xm_drops [2, 3] ?_
  refine xm_gd fun h5 => ?_
  refine xm_forJT (ea := Dat.int) (eS := (fun (s : (List (List Nat × ((List Int) × (Int × Int) × (Int × Int)))) × (List Nat) × Int) => [.im ((tup2 tx Dat.int) frame_), .im (Dat.int many_), .no, .no, .im (tx ahead_), .ow ((dicd (tup3 (tpnd Dat.int) (tup2 Dat.int Dat.int) (tup2 Dat.int Dat.int))) s.1), .im ((tup2 Dat.int Dat.int) first_), .im ((tup2 (tup2 Dat.int Dat.int) (tup2 Dat.int Dat.int)) ends_), .im (tx s.2.1), .im (Dat.int s.2.2), .no, .no, .no, .no])) (oR := (fun r => Outc.rt ((optd tx) r))) (fun r => ⟨_, .inl rfl⟩) (passes_of rfl) rfl (itm_r1 (ev_name 1 rfl) h5 T.b_range) (tg_name 10 sc_found_text.nd) (fun _ _ => trivial) rfl (fun x4 s6 => ?_) (fun s6 => ?_)
  · refine xm_gd fun h7 => ?_
    refine xm_setM (eb := (optd (tup3 chd Dat.int (dicd (tup3 (tpnd Dat.int) (tup2 Dat.int Dat.int) (tup2 Dat.int Dat.int)))))) 11 (evm_call (en := (optd (tup3 chd Dat.int (dicd (tup3 (tpnd Dat.int) (tup2 Dat.int Dat.int) (tup2 Dat.int Dat.int)))))) G_letter_there (by exact hr.mono (by first | decide | omega)) (eab_cons (Ev.toB (ev_name 0 rfl)) (eab_cons (eb_name_ow 5 rfl) (eab_cons (Ev.toB (ev_catX (ev_name 4 rfl) (ev_name 8 rfl) (catOk_ok h7))) (eab_cons (Ev.toB (ev_name 9 rfl)) (eab_cons (Ev.toB (ev_name 6 rfl)) (eab_cons (Ev.toB (ev_name 7 rfl)) eab_nil)))))) (fun o q => ⟨frame_, s6.1, (ahead_ ++ s6.2.1), s6.2.2, first_, ends_, rfl, q⟩)) sc_found_text.nd (fun told_ => ?_)
    refine xm_ifJ (eS := (fun (s : Unit) => [.im ((tup2 tx Dat.int) frame_), .im (Dat.int many_), .no, .no, .im (tx ahead_), .ow ((dicd (tup3 (tpnd Dat.int) (tup2 Dat.int Dat.int) (tup2 Dat.int Dat.int))) s6.1), .im ((tup2 Dat.int Dat.int) first_), .im ((tup2 (tup2 Dat.int Dat.int) (tup2 Dat.int Dat.int)) ends_), .im (tx s6.2.1), .no, .no, .im ((optd (tup3 chd Dat.int (dicd (tup3 (tpnd Dat.int) (tup2 Dat.int Dat.int) (tup2 Dat.int Dat.int))))) told_), .no, .no])) (eL := (fun (s : (List (List Nat × ((List Int) × (Int × Int) × (Int × Int)))) × (List Nat) × Int) => [.im ((tup2 tx Dat.int) frame_), .im (Dat.int many_), .no, .no, .im (tx ahead_), .ow ((dicd (tup3 (tpnd Dat.int) (tup2 Dat.int Dat.int) (tup2 Dat.int Dat.int))) s.1), .im ((tup2 Dat.int Dat.int) first_), .im ((tup2 (tup2 Dat.int Dat.int) (tup2 Dat.int Dat.int)) ends_), .im (tx s.2.1), .im (Dat.int s.2.2), .no, .no, .no, .no])) (oR := (fun r => Outc.rt ((optd tx) r))) (fun _ => trivial) (et_to (et_isN (Ev.toB (ev_name 11 rfl))) (show isNon (optd (tup3 chd Dat.int (dicd (tup3 (tpnd Dat.int) (tup2 Dat.int Dat.int) (tup2 Dat.int Dat.int)))) told_) = Option.isNone told_ by cases told_ <;> rfl)) (fun hc => ?_) (fun hc => ?_) (fun s8 => ?_)
    · -- return None
      exact xm_ret ev_non
    · exact xm_end [9, 10]
    refine xm_ofO fun r9 h10 => ?_
    refine xm_asg (en := (tup3 chd Dat.int (dicd (tup3 (tpnd Dat.int) (tup2 Dat.int Dat.int) (tup2 Dat.int Dat.int))))) (ev_optS (en := (tup3 chd Dat.int (dicd (tup3 (tpnd Dat.int) (tup2 Dat.int Dat.int) (tup2 Dat.int Dat.int))))) h10 (ev_name 11 rfl)) (tg_three 12 9 13 sc_found_text.nd rfl) (fun _ => ⟨_, _, _, rfl⟩) (fun q11 => ?_)
    refine xm_gd fun h12 => ?_
    refine xm_dupd (en := (tup3 (tpnd Dat.int) (tup2 Dat.int Dat.int) (tup2 Dat.int Dat.int))) 5 rfl (ev_name 13 rfl) h12 (fun known_ => ?_)
    refine xm_gd fun h13 => ?_
    refine xm_set (en := tx) 8 (ev_catX (ev_name 8 rfl) (ev_name 12 rfl) (catOk_ok h13)) sc_found_text.nd (fun text_ => ?_)
    exact xm_end [11, 12, 13]
  exact xm_ret (ev_name 8 rfl)
def R_read : List Dat → Res → Prop := fun ds o => ∃ (frame_ : ((List Nat) × Int)) (many_ : Int) (bits_ : List Nat) (ahead_ : List Nat), ds = [(tup2 tx Dat.int) frame_, Dat.int many_, tx bits_, tx ahead_] ∧ Rm tx (m_read frame_ many_ bits_ ahead_) o
theorem ok_read (T : Txt K mg) (G_checked : GFn P w K mg base "checked" 1 R_checked) (G_stretch : GFn P w K mg base "stretch" 3 R_stretch) (G_found_text : GFnD P w K mg base "found_text" 6 (.str (SX.S [])) R_found_text) (G_press : GFnD P w K mg base "press" 7 (.str (SX.S [])) R_press) (D : DfD K mg "read" s_read ["frame", "many", "bits", "ahead"] (.str (SX.S []))) : GFnD P w K mg base "read" 8 (.str (SX.S [])) R_read := by
  refine GFnD.mk2 D sc_read (fun ds o h => by obtain ⟨_, _, _, _, rfl, _⟩ := h; rfl) fun f cdv A outer s H E hr ds o hR => ?_
  obtain ⟨frame_, many_, bits_, ahead_, rfl, hm⟩ := hR
  refine ⟨_, (.im ((fun _ => rfl) _) (.im ((fun _ => rfl) _) (.im ((fun _ => rfl) _) (.im ((fun _ => rfl) _) .nil)))), fun H0 => ends_m (k := 7) (en := tx) ?_ o hm⟩
  unfold m_read
  refine xm_exprM (eb := tx) (evm_call (en := tx) G_checked (by exact hr.mono (by first | decide | omega)) (eab_cons (Ev.toB (ev_name 0 rfl)) (eab_cons (Ev.toB (ev_name 3 rfl)) eab_nil)) (fun o q => ⟨frame_, ahead_, rfl, q⟩)) (fun _ => ?_)
  refine xm_asgM (eb := (tup2 (tup2 Dat.int Dat.int) (tup2 Dat.int Dat.int))) (evm_call (en := (tup2 (tup2 Dat.int Dat.int) (tup2 Dat.int Dat.int))) G_stretch (by exact hr.mono (by first | decide | omega)) (eab_cons (Ev.toB (ev_name 2 rfl)) eab_nil) (fun o q => ⟨(tx bits_), rfl, q⟩)) (tg_pair 4 5 sc_read.nd rfl) (fun _ => ⟨_, _, rfl⟩) (fun q1 => ?_)
  refine xm_gd fun h2 => ?_
  refine xm_ifX (fun _ => trivial) (et_gt (ev_add (ev_name 1 rfl) (ev_len (Ev.toB (ev_name 3 rfl)) (dlen_tx (lenOk_ok h2)) T.b_len)) (ev_cstI T.c_MOST_SIGNS)) (fun hc => ?_) (fun hc => ?_)
  · -- raise NoPress('more signs than are read')
    exact xm_raise T.e_NoPress rfl
  refine xm_setM (eb := (optd tx)) 6 (evm_call (en := (optd tx)) (GFnD.all G_found_text) (by exact hr.mono (by first | decide | omega)) (eab_cons (Ev.toB (ev_name 0 rfl)) (eab_cons (Ev.toB (ev_name 1 rfl)) (eab_cons (Ev.toB (ev_name 4 rfl)) (eab_cons (Ev.toB (ev_name 5 rfl)) (eab_cons (Ev.toB (ev_name 3 rfl)) eab_nil))))) (fun o q => ⟨frame_, many_, q1.1, q1.2, ahead_, rfl, q⟩)) sc_read.nd (fun text_ => ?_)
  refine xm_bind fun r7 h8 => ?_
  refine xm_ifX (fun _ => trivial) (EvW.t (ewm_get (ewm_or (et_to (et_isN (Ev.toB (ev_name 6 rfl))) (show isNon (optd tx text_) = Option.isNone text_ by cases text_ <;> rfl)) (fun hq => (ewm_ofO fun r3 h4 => (ewm_bind fun r5 h6 => (ewm_ok (ew_or1 (et_neX (by exact evm_get (en := tx) (v := r5) (evm_call (en := tx) (GFnD.all G_press) (by exact hr.mono (by first | decide | omega)) (eab_cons (Ev.toB (ev_name 0 rfl)) (eab_cons (Ev.toB (ev_optS (en := tx) h4 (ev_name 6 rfl))) (eab_cons (Ev.toB (ev_name 3 rfl)) eab_nil))) (fun o q => ⟨frame_, r3, ahead_, rfl, q⟩)) h6) (ev_name 2 rfl)))))))) h8)) (fun hc => ?_) (fun hc => ?_)
  · -- raise NoPress('bits of no such text')
    exact xm_raise T.e_NoPress rfl
  refine xm_ofO fun r9 h10 => ?_
  exact xm_ret (ev_optS (en := tx) h10 (ev_name 6 rfl))
end
end B
namespace B
open PySem PySem.Spec PyProof.Rows L2
section
variable {P : Program} {w : World} {K : PySem.W.Frag} {mg : Str → Option Value} {base : Heap}
def R_law_cell_at : List Dat → Res → Prop := fun ds o => ∃ (script_ : (List Int)) (k_ : Int), ds = [(lstd Dat.int) script_, Dat.int k_] ∧ Rm Dat.int (m_law_cell_at script_ k_) o
theorem ok_law_cell_at (T : Txt K mg)  (D : Df K mg "_law_cell_at" s_law_cell_at ["script", "k"]) : GFn P w K mg base "_law_cell_at" 1 R_law_cell_at := by
  refine GFn.mk2 D sc_law_cell_at (fun ds o h => by obtain ⟨_, _, rfl, _⟩ := h; rfl) fun f cdv A outer s H E hr ds o hR => ?_
  obtain ⟨script_, k_, rfl, hm⟩ := hR
  refine ⟨_, (.ol (.im ((fun _ => rfl) _) .nil)), fun H0 => ends_m (k := 2) (en := Dat.int) ?_ o hm⟩
  unfold m_law_cell_at
  refine xm_ifX (fun _ => trivial) (et_lt (ev_name 1 rfl) (ev_lenm (eb_name_ol 0 rfl) T.b_len)) (fun hc => ?_) (fun hc => ?_)
  · refine xm_ofO fun r1 h2 => ?_
    exact xm_ret (EvB.flat (eb_ixLm (en := Dat.int) (eb_name_ol 0 rfl) (ev_name 1 rfl) h2) ((fun _ => rfl) _))
  exact xm_ret ev_int
def R_law_mixed : List Dat → Res → Prop := fun ds o => ∃ (cell_ : Int) (k_ : Int), ds = [Dat.int cell_, Dat.int k_] ∧ Rm Dat.int (m_law_mixed cell_ k_) o
theorem ok_law_mixed (T : Txt K mg)  (D : Df K mg "_law_mixed" s_law_mixed ["cell", "k"]) : GFn P w K mg base "_law_mixed" 1 R_law_mixed := by
  refine GFn.mk2 D sc_law_mixed (fun ds o h => by obtain ⟨_, _, rfl, _⟩ := h; rfl) fun f cdv A outer s H E hr ds o hR => ?_
  obtain ⟨cell_, k_, rfl, hm⟩ := hR
  refine ⟨_, (.im ((fun _ => rfl) _) (.im ((fun _ => rfl) _) .nil)), fun H0 => ends_m (k := 2) (en := Dat.int) ?_ o hm⟩
  unfold m_law_mixed
  refine xm_gd fun h1 => ?_
  refine xm_gd fun h2 => ?_
  exact xm_ret (ev_mod (ev_mul (ev_add (ev_add (ev_mul (ev_mod (ev_name 0 rfl) ev_int (by decide)) (ev_add ev_int (ev_mul ev_int (ev_name 1 rfl) (mul_l (by decide) (by decide)))) (mulOk_ok h1)) (ev_mul (ev_mul ev_int (ev_name 1 rfl) (mul_l (by decide) (by decide))) (ev_name 1 rfl) (mulOk_ok h2))) ev_int) ev_int (mul_r (by decide) (by decide))) ev_int (by decide))
def R_law_letters_by : List Dat → Res → Prop := fun ds o => ∃ (cell_ : Int), ds = [Dat.int cell_] ∧ Rm tx (m_law_letters_by cell_) o
theorem ok_law_letters_by (T : Txt K mg) (G_law_mixed : GFn P w K mg base "_law_mixed" 1 R_law_mixed) (D : Df K mg "_law_letters_by" s_law_letters_by ["cell"]) : GFn P w K mg base "_law_letters_by" 2 R_law_letters_by := by
  refine GFn.mk2 D sc_law_letters_by (fun ds o h => by obtain ⟨_, rfl, _⟩ := h; rfl) fun f cdv A outer s H E hr ds o hR => ?_
  obtain ⟨cell_, rfl, hm⟩ := hR
  refine ⟨_, (.im ((fun _ => rfl) _) .nil), fun H0 => ends_m (k := 7) (en := tx) ?_ o hm⟩
  unfold m_law_letters_by
  refine xm_set (en := tx) 1 (ev_lit (l := txt0)) sc_law_letters_by.nd (fun some_ => ?_)
  refine xm_set (en := Dat.int) 2 (ev_mod (ev_name 0 rfl) ev_int (by decide)) sc_law_letters_by.nd (fun at_ => ?_)
  refine xm_set (en := tx) 3 (ev_lit (l := [])) sc_law_letters_by.nd (fun letters_ => ?_)
  refine xm_bind fun r5 h6 => ?_
  refine xm_gd fun h7 => ?_
  refine xm_for (ea := Dat.int) (eS := (fun (s : Int × (List Nat)) => [.im (Dat.int cell_), .im (tx some_), .im (Dat.int s.1), .im (tx s.2), .no, .no, .no])) (passes_of rfl) rfl (itm_r1 (ev_add ev_int (ev_mod (by exact evm_get (en := Dat.int) (v := r5) (evm_call (en := Dat.int) G_law_mixed (by exact hr.mono (by first | decide | omega)) (eab_cons (Ev.toB (ev_name 0 rfl)) (eab_cons (Ev.toB ev_int) eab_nil)) (fun o q => ⟨cell_, (1 : Int), rfl, q⟩)) h6) ev_int (by decide))) h7 T.b_range) (tg_name 4 sc_law_letters_by.nd) (fun _ _ => trivial) rfl (fun x4 s8 => ?_) (fun s8 => ?_)
  · refine xm_gd fun h9 => ?_
    refine xm_ofO fun r10 h11 => ?_
    refine xm_set (en := chd) 5 (ev_ixX (ev_name 1 rfl) (ev_name 2 rfl) (lenOk_ok h9) h11) sc_law_letters_by.nd (fun sign_ => ?_)
    refine xm_bind fun r12 h13 => ?_
    refine xm_gd fun h14 => ?_
    refine xm_gd fun h15 => ?_
    refine xm_set (en := Dat.int) 6 (ev_mod (by exact evm_get (en := Dat.int) (v := r12) (evm_call (en := Dat.int) G_law_mixed (by exact hr.mono (by first | decide | omega)) (eab_cons (Ev.toB (ev_name 0 rfl)) (eab_cons (Ev.toB (ev_add ev_int (ev_name 4 rfl))) eab_nil)) (fun o q => ⟨cell_, ((10 : Int) + x4), rfl, q⟩)) h13) (ev_add (ev_len (Ev.toB (ev_name 3 rfl)) (dlen_tx (lenOk_ok h14)) T.b_len) ev_int) (of_decide_eq_true h15)) sc_law_letters_by.nd (fun place_ => ?_)
    refine xm_gd fun h16 => ?_
    refine xm_gd fun h17 => ?_
    refine xm_gd fun h18 => ?_
    refine xm_gd fun h19 => ?_
    refine xm_set (en := tx) 3 (ev_catX (ev_catX (ev_slX (ev_name 3 rfl) eo_none (eo_some (ev_name 6 rfl)) (lenOk_ok h16)) (ev_name 5 rfl) (catOk_ok h17)) (ev_slX (ev_name 3 rfl) (eo_some (ev_name 6 rfl)) eo_none (lenOk_ok h18)) (catOk_ok h19)) sc_law_letters_by.nd (fun letters_ => ?_)
    refine xm_bind fun r20 h21 => ?_
    refine xm_set (en := Dat.int) 2 (ev_mod (ev_add (ev_add (ev_name 2 rfl) ev_int) (ev_mod (by exact evm_get (en := Dat.int) (v := r20) (evm_call (en := Dat.int) G_law_mixed (by exact hr.mono (by first | decide | omega)) (eab_cons (Ev.toB (ev_name 0 rfl)) (eab_cons (Ev.toB (ev_add ev_int (ev_name 4 rfl))) eab_nil)) (fun o q => ⟨cell_, ((20 : Int) + x4), rfl, q⟩)) h21) ev_int (by decide))) ev_int (by decide)) sc_law_letters_by.nd (fun at_ => ?_)
    exact xm_end [4, 5, 6]
  exact xm_ret (ev_name 3 rfl)
def R_law_text_by : List Dat → Res → Prop := fun ds o => ∃ (script_ : (List Int)) (letters_ : List Nat) (way_ : Int) (most_ : Int), ds = [(lstd Dat.int) script_, tx letters_, Dat.int way_, Dat.int most_] ∧ Rm tx (m_law_text_by script_ letters_ way_ most_) o
theorem ok_law_text_by (T : Txt K mg) (G_law_mixed : GFn P w K mg base "_law_mixed" 1 R_law_mixed) (D : Df K mg "_law_text_by" s_law_text_by ["script", "letters", "way", "most"]) : GFn P w K mg base "_law_text_by" 2 R_law_text_by := by
  refine GFn.mk2 D sc_law_text_by (fun ds o h => by obtain ⟨_, _, _, _, rfl, _⟩ := h; rfl) fun f cdv A outer s H E hr ds o hR => ?_
  obtain ⟨script_, letters_, way_, most_, rfl, hm⟩ := hR
  refine ⟨_, (.ol (.im ((fun _ => rfl) _) (.im ((fun _ => rfl) _) (.im ((fun _ => rfl) _) .nil)))), fun H0 => ends_m (k := 7) (en := tx) ?_ o hm⟩
  unfold m_law_text_by
  refine xm_set (en := tx) 4 (ev_lit (l := [])) sc_law_text_by.nd (fun text_ => ?_)
  refine xm_gd fun h3 => ?_
  refine xm_for (ea := Dat.int) (eS := (fun (s : List Nat) => [.ol ((lstd Dat.int) script_), .im (tx letters_), .im (Dat.int way_), .im (Dat.int most_), .im (tx s), .no, .no])) (passes_of rfl) rfl (itm_r2 ev_int (ev_min2 (ev_lenm (eb_name_ol 0 rfl) T.b_len) (ev_add ev_int (ev_name 3 rfl)) rfl T.b_min) h3 T.b_range) (tg_name 5 sc_law_text_by.nd) (fun _ _ => trivial) rfl (fun x2 s4 => ?_) (fun s4 => ?_)
  · refine xm_ofO fun r5 h6 => ?_
    refine xm_bind fun r7 h8 => ?_
    refine xm_gd fun h9 => ?_
    refine xm_gd fun h10 => ?_
    refine xm_set (en := Dat.int) 6 (ev_mod (by exact evm_get (en := Dat.int) (v := r7) (evm_call (en := Dat.int) G_law_mixed (by exact hr.mono (by first | decide | omega)) (eab_cons (eb_ixLm (en := Dat.int) (eb_name_ol 0 rfl) (ev_name 5 rfl) h6) (eab_cons (Ev.toB ev_int) eab_nil)) (fun o q => ⟨r5, (30 : Int), rfl, q⟩)) h8) (ev_len (Ev.toB (ev_name 1 rfl)) (dlen_tx (lenOk_ok h9)) T.b_len) (of_decide_eq_true h10)) sc_law_text_by.nd (fun at_ => ?_)
    refine xm_bind fun r17 h18 => ?_
    refine xm_ifN (eS := (fun (s : Int) => [.ol ((lstd Dat.int) script_), .im (tx letters_), .im (Dat.int way_), .im (Dat.int most_), .im (tx s4), .no, .im (Dat.int s)])) (EvW.t (ewm_get (ewm_and (et_gt (ev_name 2 rfl) ev_int) (fun hq => (ewm_bind fun r15 h16 => (ewm_ok (ewm_get (ewm_and (et_neX (ev_name 4 rfl) (ev_lit (l := []))) (fun hq => (ewm_ofO fun r11 h12 => (ewm_bind fun r13 h14 => (ewm_ok (ew_and1 (et_gt (ev_mod (by exact evm_get (en := Dat.int) (v := r13) (evm_call (en := Dat.int) G_law_mixed (by exact hr.mono (by first | decide | omega)) (eab_cons (eb_ixLm (en := Dat.int) (eb_name_ol 0 rfl) (ev_name 5 rfl) h12) (eab_cons (Ev.toB ev_int) eab_nil)) (fun o q => ⟨r11, (31 : Int), rfl, q⟩)) h14) ev_int (by decide)) ev_int))))))) h16))))) h18)) (fun hc => ?_) (fun hc => ?_) (fun s19 => ?_)
    · refine xm_gd fun h20 => ?_
      refine xm_ofO fun r21 h22 => ?_
      refine xm_gd fun h23 => ?_
      refine xm_set (en := Dat.int) 6 (ev_indexX (ev_name 1 rfl) (ev_ixX (ev_name 4 rfl) (ev_neg ev_int) (lenOk_ok h20) h22) (of_decide_eq_true h23)) sc_law_text_by.nd (fun at_ => ?_)
      exact xm_end [5]
    · exact xm_end [5]
    refine xm_gd fun h24 => ?_
    refine xm_ofO fun r25 h26 => ?_
    refine xm_gd fun h27 => ?_
    refine xm_set (en := tx) 4 (ev_catX (ev_name 4 rfl) (ev_ixX (ev_name 1 rfl) (ev_name 6 rfl) (lenOk_ok h24) h26) (catOk_ok h27)) sc_law_text_by.nd (fun text_ => ?_)
    exact xm_end [6]
  exact xm_ret (ev_name 4 rfl)
def R_law_whole : List Dat → Res → Prop := fun ds o => ∃ (found_ : Int), ds = [Dat.int found_] ∧ Rm Dat.bl (m_law_whole found_) o
theorem ok_law_whole (T : Txt K mg)  (D : Df K mg "_law_whole" s_law_whole ["found"]) : GFn P w K mg base "_law_whole" 1 R_law_whole := by
  refine GFn.mk2 D sc_law_whole (fun ds o h => by obtain ⟨_, rfl, _⟩ := h; rfl) fun f cdv A outer s H E hr ds o hR => ?_
  obtain ⟨found_, rfl, hm⟩ := hR
  refine ⟨_, (.im ((fun _ => rfl) _) .nil), fun H0 => ends_m (k := 1) (en := Dat.bl) ?_ o hm⟩
  unfold m_law_whole
  exact xm_ret (ev_andB (ev_to (ev_isi_int (Ev.toB (ev_name 0 rfl)) T.b_isinstance T.b_int) rfl) fun hq => (ev_one (ev_not (ev_to (ev_isi_bool (Ev.toB (ev_name 0 rfl)) T.b_isinstance T.b_bool) rfl))))
def R_law_is_ratio : List Dat → Res → Prop := fun ds o => ∃ (found_ : (Int × Int)), ds = [(tup2 Dat.int Dat.int) found_] ∧ Rm Dat.bl (m_law_is_ratio found_) o
theorem ok_law_is_ratio (T : Txt K mg) (G_law_whole : GFn P w K mg base "_law_whole" 1 R_law_whole) (D : Df K mg "_law_is_ratio" s_law_is_ratio ["found"]) : GFn P w K mg base "_law_is_ratio" 2 R_law_is_ratio := by
  refine GFn.mk2 D sc_law_is_ratio (fun ds o h => by obtain ⟨_, rfl, _⟩ := h; rfl) fun f cdv A outer s H E hr ds o hR => ?_
  obtain ⟨found_, rfl, hm⟩ := hR
  refine ⟨_, (.im ((fun _ => rfl) _) .nil), fun H0 => ends_m (k := 1) (en := Dat.bl) ?_ o hm⟩
  unfold m_law_is_ratio
  refine xm_ifX (fun _ => trivial) (EvW.t (ew_or (et_not (et_val (ev_to (ev_isi_tuple (Ev.toB (ev_name 0 rfl)) T.b_isinstance T.b_tuple) rfl))) fun hq => (ew_or1 (et_ne (ev_len (Ev.toB (ev_name 0 rfl)) rfl T.b_len) ev_int)))) (fun hc => ?_) (fun hc => ?_)
  · -- return False
    exact xm_ret ev_bl
  refine xm_bind fun r1 h2 => ?_
  refine xm_bind fun r5 h6 => ?_
  exact xm_ret (evm_get (evm_and (by exact evm_get (en := Dat.bl) (v := r1) (evm_call (en := Dat.bl) G_law_whole (by exact hr.mono (by first | decide | omega)) (eab_cons (Ev.toB (ev_ixT (ev_name 0 rfl) ev_int (by rfl))) eab_nil) (fun o q => ⟨found_.1, rfl, q⟩)) h2) (fun hq => evm_nox (evm_bind fun r3 h4 => (evm_ok (ev_andB (by exact evm_get (en := Dat.bl) (v := r3) (evm_call (en := Dat.bl) G_law_whole (by exact hr.mono (by first | decide | omega)) (eab_cons (Ev.toB (ev_ixT (ev_name 0 rfl) ev_int (by rfl))) eab_nil) (fun o q => ⟨found_.2, rfl, q⟩)) h4) fun hq => (ev_one (ev_gt (ev_ixT (ev_name 0 rfl) ev_int (by rfl)) ev_int)))))) nox_ne) h6)
def R_law_part_good : List Dat → Res → Prop := fun ds o => ∃ (frame_ : ((List Nat) × Int)) (part_ : List Nat) (ahead_ : List Nat), ds = [(tup2 tx Dat.int) frame_, tx part_, tx ahead_] ∧ Rm (optd (tup2 Dat.int Dat.int)) (m_law_part_good frame_ part_ ahead_) o
theorem ok_law_part_good (T : Txt K mg) (G_press : GFnD P w K mg base "press" 7 (.str (SX.S [])) R_press) (G_span : GFnD P w K mg base "span" 6 (.str (SX.S [])) R_span) (G_read : GFnD P w K mg base "read" 8 (.str (SX.S [])) R_read) (G_law_is_ratio : GFn P w K mg base "_law_is_ratio" 2 R_law_is_ratio) (D : Df K mg "_law_part_good" s_law_part_good ["frame", "part", "ahead"]) : GFn P w K mg base "_law_part_good" 9 R_law_part_good := by
  refine GFn.mk2 D sc_law_part_good (fun ds o h => by obtain ⟨_, _, _, rfl, _⟩ := h; rfl) fun f cdv A outer s H E hr ds o hR => ?_
  obtain ⟨frame_, part_, ahead_, rfl, hm⟩ := hR
  refine ⟨_, (.im ((fun _ => rfl) _) (.im ((fun _ => rfl) _) (.im ((fun _ => rfl) _) .nil))), fun H0 => ends_m (k := 7) (en := (optd (tup2 Dat.int Dat.int))) ?_ o hm⟩
  unfold m_law_part_good
  refine xm_setM (eb := tx) 3 (evm_call (en := tx) (GFnD.all G_press) (by exact hr.mono (by first | decide | omega)) (eab_cons (Ev.toB (ev_name 0 rfl)) (eab_cons (Ev.toB (ev_name 1 rfl)) (eab_cons (Ev.toB (ev_name 2 rfl)) eab_nil))) (fun o q => ⟨frame_, part_, ahead_, rfl, q⟩)) sc_law_part_good.nd (fun bits_ => ?_)
  refine xm_bind fun r4 h5 => ?_
  refine xm_ifX (fun _ => trivial) (EvW.t (ewm_get (ewm_or (et_not (et_val (ev_to (ev_isi_str (Ev.toB (ev_name 3 rfl)) T.b_isinstance T.b_str) rfl))) (fun hq => (ewm_gd fun h1 => (ewm_bind fun r2 h3 => (ewm_ok (ew_or1 (et_neX (by exact evm_get (en := tx) (v := r2) (evm_call (en := tx) (GFnD.all G_read) (by exact hr.mono (by first | decide | omega)) (eab_cons (Ev.toB (ev_name 0 rfl)) (eab_cons (Ev.toB (ev_len (Ev.toB (ev_name 1 rfl)) (dlen_tx (lenOk_ok h1)) T.b_len)) (eab_cons (Ev.toB (ev_name 3 rfl)) (eab_cons (Ev.toB (ev_name 2 rfl)) eab_nil)))) (fun o q => ⟨frame_, ((part_).length : Int), bits_, ahead_, rfl, q⟩)) h3) (ev_name 1 rfl)))))))) h5)) (fun hc => ?_) (fun hc => ?_)
  · -- return None
    exact xm_ret ev_non
  refine xm_setM (eb := (tup2 (tup2 Dat.int Dat.int) (tup2 Dat.int Dat.int))) 4 (evm_call (en := (tup2 (tup2 Dat.int Dat.int) (tup2 Dat.int Dat.int))) (GFnD.all G_span) (by exact hr.mono (by first | decide | omega)) (eab_cons (Ev.toB (ev_name 0 rfl)) (eab_cons (Ev.toB (ev_name 1 rfl)) (eab_cons (Ev.toB (ev_name 2 rfl)) eab_nil))) (fun o q => ⟨frame_, part_, ahead_, rfl, q⟩)) sc_law_part_good.nd (fun found_ => ?_)
  refine xm_ifX (fun _ => trivial) (EvW.t (ew_or (et_not (et_val (ev_to (ev_isi_tuple (Ev.toB (ev_name 4 rfl)) T.b_isinstance T.b_tuple) rfl))) fun hq => (ew_or1 (et_ne (ev_len (Ev.toB (ev_name 4 rfl)) rfl T.b_len) ev_int)))) (fun hc => ?_) (fun hc => ?_)
  · -- return None
    exact xm_ret ev_non
  refine xm_asg (en := (tup2 (tup2 Dat.int Dat.int) (tup2 Dat.int Dat.int))) (ev_name 4 rfl) (tg_pair 5 6 sc_law_part_good.nd rfl) (fun _ => ⟨_, _, rfl⟩) (fun q6 => ?_)
  refine xm_bind fun r7 h8 => ?_
  refine xm_bind fun r11 h12 => ?_
  refine xm_ifX (fun _ => trivial) (EvW.t (ewm_get (ewm_or (et_not (et_val (by exact evm_get (en := Dat.bl) (v := r7) (evm_call (en := Dat.bl) G_law_is_ratio (by exact hr.mono (by first | decide | omega)) (eab_cons (Ev.toB (ev_name 5 rfl)) eab_nil) (fun o q => ⟨q6.1, rfl, q⟩)) h8))) (fun hq => (ewm_bind fun r9 h10 => (ewm_ok (ew_or (et_not (et_val (by exact evm_get (en := Dat.bl) (v := r9) (evm_call (en := Dat.bl) G_law_is_ratio (by exact hr.mono (by first | decide | omega)) (eab_cons (Ev.toB (ev_name 6 rfl)) eab_nil) (fun o q => ⟨q6.2, rfl, q⟩)) h10))) fun hq => (ew_or (et_lt (ev_ixT (ev_name 5 rfl) ev_int (by rfl)) ev_int) fun hq => (ew_or1 (et_lt (ev_ixT (ev_name 6 rfl) ev_int (by rfl)) ev_int)))))))) h12)) (fun hc => ?_) (fun hc => ?_)
  · -- return None
    exact xm_ret ev_non
  refine xm_gd fun h13 => ?_
  refine xm_gd fun h14 => ?_
  refine xm_gd fun h15 => ?_
  refine xm_ifX (fun _ => trivial) (et_gt (ev_add (ev_mul (ev_ixT (ev_name 5 rfl) ev_int (by rfl)) (ev_ixT (ev_name 6 rfl) ev_int (by rfl)) (mulOk_ok h13)) (ev_mul (ev_ixT (ev_name 6 rfl) ev_int (by rfl)) (ev_ixT (ev_name 5 rfl) ev_int (by rfl)) (mulOk_ok h14))) (ev_mul (ev_ixT (ev_name 5 rfl) ev_int (by rfl)) (ev_ixT (ev_name 6 rfl) ev_int (by rfl)) (mulOk_ok h15))) (fun hc => ?_) (fun hc => ?_)
  · -- return None
    exact xm_ret ev_non
  refine xm_gd fun h16 => ?_
  refine xm_gd fun h17 => ?_
  refine xm_gd fun h18 => ?_
  refine xm_ifX (fun _ => trivial) (et_ge (ev_mul (ev_shlT ev_int (ev_len (Ev.toB (ev_name 3 rfl)) (dlen_tx (lenOk_ok h16)) T.b_len) (shlOk_ok h17)) (ev_ixT (ev_name 6 rfl) ev_int (by rfl)) (mulOk_ok h18)) (ev_mul ev_int (ev_ixT (ev_name 6 rfl) ev_int (by rfl)) (mul_l (by decide) (by decide)))) (fun hc => ?_) (fun hc => ?_)
  · -- return None
    exact xm_ret ev_non
  exact xm_ret (ev_name 6 rfl)
def R_lawm : List Dat → Res → Prop := fun ds o => ∃ (script_ : (List Int)), ds = [(lstd Dat.int) script_] ∧ Rm Dat.bl (m_law script_) o
theorem ok_law {f : Addr} {fd : FuncData} (T : Txt K mg) (G_law_cell_at : GFn P w K mg base "_law_cell_at" 1 R_law_cell_at) (G_law_letters_by : GFn P w K mg base "_law_letters_by" 2 R_law_letters_by) (G_law_text_by : GFn P w K mg base "_law_text_by" 2 R_law_text_by) (G_make_frame : GFn P w K mg base "make_frame" 2 R_make_frame) (G_weight : GFn P w K mg base "weight" 6 R_weight) (G_law_part_good : GFn P w K mg base "_law_part_good" 9 R_law_part_good) (G_law_is_ratio : GFn P w K mg base "_law_is_ratio" 2 R_law_is_ratio) (G_law_mixed : GFn P w K mg base "_law_mixed" 1 R_law_mixed) (F : Fun K "law" "law" s_law f fd) : FnOk P w K mg base (L2.CX P w) 10 f fd ["script"] (spR K mg R_lawm) := by
  refine fn_mk2 F sc_law (fun ds o h => by obtain ⟨_, rfl, _⟩ := h; rfl) fun f cdv A outer s H E hr ds o hR => ?_
  obtain ⟨script_, rfl, hm⟩ := hR
  refine ⟨_, (.ol .nil), fun H0 => ends_m (k := 12) (en := Dat.bl) ?_ o hm⟩
  unfold m_law
  refine xm_setM (eb := Dat.int) 1 (evm_call (en := Dat.int) G_law_cell_at (by exact hr.mono (by first | decide | omega)) (eab_cons (eb_name_ol 0 rfl) (eab_cons (Ev.toB ev_int) eab_nil)) (fun o q => ⟨script_, (0 : Int), rfl, q⟩)) sc_law.nd (fun head_ => ?_)
  refine xm_bind fun r1 h2 => ?_
  refine xm_setM (eb := tx) 2 (evm_call (en := tx) G_law_letters_by (by exact hr.mono (by first | decide | omega)) (eab_cons (Ev.toB (by exact evm_get (en := Dat.int) (v := r1) (evm_call (en := Dat.int) G_law_cell_at (by exact hr.mono (by first | decide | omega)) (eab_cons (eb_name_ol 0 rfl) (eab_cons (Ev.toB ev_int) eab_nil)) (fun o q => ⟨script_, (1 : Int), rfl, q⟩)) h2)) eab_nil) (fun o q => ⟨r1, rfl, q⟩)) sc_law.nd (fun letters_ => ?_)
  refine xm_set (en := Dat.int) 3 (ev_mod (ev_name 1 rfl) ev_int (by decide)) sc_law.nd (fun depth_ => ?_)
  refine xm_bind fun r3 h4 => ?_
  refine xm_ifN (eS := (fun (s : Int) => [.ol ((lstd Dat.int) script_), .im (Dat.int head_), .im (tx letters_), .im (Dat.int s), .no, .no, .no, .no, .no, .no, .no, .no])) (et_eq (ev_mod (by exact evm_get (en := Dat.int) (v := r3) (evm_call (en := Dat.int) G_law_mixed (by exact hr.mono (by first | decide | omega)) (eab_cons (Ev.toB (ev_name 1 rfl)) (eab_cons (Ev.toB ev_int) eab_nil)) (fun o q => ⟨head_, (2 : Int), rfl, q⟩)) h4) ev_int (by decide)) ev_int) (fun hc => ?_) (fun hc => ?_) (fun s5 => ?_)
  · -- depth = head % 7
    refine xm_set (en := Dat.int) 3 (ev_mod (ev_name 1 rfl) ev_int (by decide)) sc_law.nd (fun depth_ => ?_)
    exact xm_end []
  · exact xm_end []
  refine xm_bind fun r6 h7 => ?_
  refine xm_ofO fun r8 h9 => ?_
  refine xm_setM (eb := tx) 4 (evm_call (en := tx) G_law_text_by (by exact hr.mono (by first | decide | omega)) (eab_cons (eb_name_ol 0 rfl) (eab_cons (Ev.toB (ev_name 2 rfl)) (eab_cons (Ev.toB (ev_mod (by exact evm_get (en := Dat.int) (v := r6) (evm_call (en := Dat.int) G_law_mixed (by exact hr.mono (by first | decide | omega)) (eab_cons (Ev.toB (ev_name 1 rfl)) (eab_cons (Ev.toB ev_int) eab_nil)) (fun o q => ⟨head_, (3 : Int), rfl, q⟩)) h7) ev_int (by decide))) (eab_cons (Ev.toB (ev_ixLm (en := Dat.int) (EvO.ev (eo_lst (ea_cons ev_int (ea_cons ev_int (ea_cons ev_int (ea_cons ev_int (ea_cons ev_int (ea_cons ev_int (ea_cons ev_int ea_nil))))))) (by show 7 ≤ sizeLine; decide))) (ev_name 3 rfl) h9)) eab_nil)))) (fun o q => ⟨script_, letters_, (r6 % (2 : Int)), r8, rfl, q⟩)) sc_law.nd (fun text_ => ?_)
  refine xm_setM (eb := (tup2 tx Dat.int)) 5 (evm_call (en := (tup2 tx Dat.int)) G_make_frame (by exact hr.mono (by first | decide | omega)) (eab_cons (Ev.toB (ev_name 2 rfl)) (eab_cons (Ev.toB (ev_name 3 rfl)) eab_nil)) (fun o q => ⟨(tx letters_), (Dat.int s5), rfl, q⟩)) sc_law.nd (fun frame_ => ?_)
  refine xm_gd fun h10 => ?_
  refine xm_gd fun h11 => ?_
  refine xm_bind fun r18 h19 => ?_
  refine xm_setO (en := (lstd Dat.int)) 6 ?_ sc_law.nd (fun cuts_ => ?_)
  · exact (eo_sortedI (Ev.toB (EvO.ev (eo_compM (xn := "k") (ea := Dat.int) (eb := Dat.int) 9 inj_int rfl sc_law.nd (itm_r1 ev_int h10 T.b_range) rfl rfl (fun _ _ _ _ _ => pg_name sc_law.nd rfl (by first | exact Or.inl rfl | exact Or.inr rfl)) h19 (.inl ⟨rfl, fun _ => rfl⟩) (fun H0' s' H' C' cl' fp' hs' k_ => (evm_bind fun r12 h13 => (evm_bind fun r14 h15 => (evm_gd fun h16 => (evm_gd fun h17 => (evm_ok (ev_mod (by exact evm_get (en := Dat.int) (v := r14) (evm_call (en := Dat.int) G_law_mixed (by exact hr.mono (by first | decide | omega)) (eab_cons (Ev.toB (by exact evm_get (en := Dat.int) (v := r12) (evm_call (en := Dat.int) G_law_cell_at (by exact hr.mono (by first | decide | omega)) (eab_cons (eb_name_ol 0 rfl) (eab_cons (Ev.toB ev_int) eab_nil)) (fun o q => ⟨script_, (2 : Int), rfl, q⟩)) h13)) (eab_cons (Ev.toB (ev_name 9 rfl)) eab_nil)) (fun o q => ⟨r12, k_, rfl, q⟩)) h15) (ev_add (ev_len (Ev.toB (ev_name 4 rfl)) (dlen_tx (lenOk_ok h16)) T.b_len) ev_int) (of_decide_eq_true h17)))))))) h11))) T.b_sorted)
  refine xm_gd fun h20 => ?_
  refine xm_gd fun h21 => ?_
  refine xm_gd fun h22 => ?_
  refine xm_setO (en := (lstd Dat.int)) 6 ?_ sc_law.nd (fun cuts_ => ?_)
  · exact (eo_catLm (en := Dat.int) (eo_catVm (en := Dat.int) 6 (eo_lst (ea_cons ev_int ea_nil) (by show 1 ≤ sizeLine; decide)) rfl h20) (eo_lst (ea_cons (ev_len (Ev.toB (ev_name 4 rfl)) (dlen_tx (lenOk_ok h21)) T.b_len) ea_nil) (by show 1 ≤ sizeLine; decide)) h22)
  refine xm_set (en := Dat.int) 7 ev_int sc_law.nd (fun top_ => ?_)
  refine xm_set (en := Dat.int) 8 ev_int sc_law.nd (fun bottom_ => ?_)
  refine xm_drops [0, 1, 2, 3] ?_
  refine xm_gd fun h25 => ?_
  refine xm_forJT (ea := Dat.int) (eS := (fun (s : Int × Int) => [.no, .no, .no, .no, .im (tx text_), .im ((tup2 tx Dat.int) frame_), .ow ((lstd Dat.int) cuts_), .im (Dat.int s.1), .im (Dat.int s.2), .no, .no, .no])) (oR := (fun r => Outc.rt (Dat.bl r))) (fun r => ⟨_, .inl rfl⟩) (passes_of rfl) rfl (itm_r1 ev_int h25 T.b_range) (tg_name 9 sc_law.nd) (fun _ _ => trivial) rfl (fun x24 s26 => ?_) (fun s26 => ?_)
  · refine xm_ofO fun r27 h28 => ?_
    refine xm_ofO fun r29 h30 => ?_
    refine xm_gd fun h31 => ?_
    refine xm_ofO fun r32 h33 => ?_
    refine xm_gd fun h34 => ?_
    refine xm_setM (eb := (optd (tup2 Dat.int Dat.int))) 10 (evm_call (en := (optd (tup2 Dat.int Dat.int))) G_law_part_good (by exact hr.mono (by first | decide | omega)) (eab_cons (Ev.toB (ev_name 5 rfl)) (eab_cons (Ev.toB (ev_slX (ev_name 4 rfl) (eo_some (ev_ixLw (en := Dat.int) 6 rfl (ev_name 9 rfl) h28)) (eo_some (ev_ixLw (en := Dat.int) 6 rfl (ev_add (ev_name 9 rfl) ev_int) h30)) (lenOk_ok h31))) (eab_cons (Ev.toB (ev_slX (ev_name 4 rfl) eo_none (eo_some (ev_ixLw (en := Dat.int) 6 rfl (ev_name 9 rfl) h33)) (lenOk_ok h34))) eab_nil))) (fun o q => ⟨frame_, (cut text_ (some r27) (some r29)), (cut text_ none (some r32)), rfl, q⟩)) sc_law.nd (fun width_ => ?_)
    refine xm_ifJ (eS := (fun (s : Unit) => [.no, .no, .no, .no, .im (tx text_), .im ((tup2 tx Dat.int) frame_), .ow ((lstd Dat.int) cuts_), .im (Dat.int s26.1), .im (Dat.int s26.2), .no, .im ((optd (tup2 Dat.int Dat.int)) width_), .no])) (eL := (fun (s : Int × Int) => [.no, .no, .no, .no, .im (tx text_), .im ((tup2 tx Dat.int) frame_), .ow ((lstd Dat.int) cuts_), .im (Dat.int s.1), .im (Dat.int s.2), .no, .no, .no])) (oR := (fun r => Outc.rt (Dat.bl r))) (fun _ => trivial) (et_to (et_isN (Ev.toB (ev_name 10 rfl))) (show isNon (optd (tup2 Dat.int Dat.int) width_) = Option.isNone width_ by cases width_ <;> rfl)) (fun hc => ?_) (fun hc => ?_) (fun s35 => ?_)
    · -- return False
      exact xm_ret ev_bl
    · exact xm_end [9]
    refine xm_ofO fun r36 h37 => ?_
    refine xm_gd fun h38 => ?_
    refine xm_set (en := Dat.int) 7 (ev_mul (ev_name 7 rfl) (ev_ixT (ev_optS (en := (tup2 Dat.int Dat.int)) h37 (ev_name 10 rfl)) ev_int (by rfl)) (mulOk_ok h38)) sc_law.nd (fun top_ => ?_)
    refine xm_ofO fun r39 h40 => ?_
    refine xm_gd fun h41 => ?_
    refine xm_set (en := Dat.int) 8 (ev_mul (ev_name 8 rfl) (ev_ixT (ev_optS (en := (tup2 Dat.int Dat.int)) h40 (ev_name 10 rfl)) ev_int (by rfl)) (mulOk_ok h41)) sc_law.nd (fun bottom_ => ?_)
    exact xm_end [10]
  refine xm_setM (eb := (tup2 Dat.int Dat.int)) 11 (evm_call (en := (tup2 Dat.int Dat.int)) G_weight (by exact hr.mono (by first | decide | omega)) (eab_cons (Ev.toB (ev_name 5 rfl)) (eab_cons (Ev.toB (ev_name 4 rfl)) eab_nil)) (fun o q => ⟨frame_, text_, rfl, q⟩)) sc_law.nd (fun due_ => ?_)
  refine xm_bind fun r42 h43 => ?_
  refine xm_bind fun r46 h47 => ?_
  exact xm_ret (evm_get (evm_and (by exact evm_get (en := Dat.bl) (v := r42) (evm_call (en := Dat.bl) G_law_is_ratio (by exact hr.mono (by first | decide | omega)) (eab_cons (Ev.toB (ev_name 11 rfl)) eab_nil) (fun o q => ⟨due_, rfl, q⟩)) h43) (fun hq => evm_nox (evm_gd fun h44 => (evm_gd fun h45 => (evm_ok (ev_one (ev_eq (ev_mul (ev_name 7 rfl) (ev_ixT (ev_name 11 rfl) ev_int (by rfl)) (mulOk_ok h44)) (ev_mul (ev_ixT (ev_name 11 rfl) ev_int (by rfl)) (ev_name 8 rfl) (mulOk_ok h45)))))))) nox_ne) h47)
end
end B
namespace B
open PySem PySem.Spec PyProof.Rows L2
/-! ### dicts -/
abbrev En := List Int × (Int × Int) × (Int × Int)
theorem dget_nil {α : Type} (q : List Nat) : dget ([] : List (List Nat × α)) q = none := rfl
theorem dget_app {α : Type} {l : List (List Nat × α)} {k : List Nat} {v : α} {q : List Nat} : dget (l ++ [(k, v)]) q = match dget l q with | some w => some w | none => if k = q then some v else none := by
  induction l with
  | nil => rw [List.nil_append, dget_cons, dget_nil]
  | cons p l ih =>
    rw [List.cons_append, dget_cons, dget_cons, ih]
    by_cases h : p.1 = q
    · rw [if_pos h, if_pos h]
    · rw [if_neg h, if_neg h]
theorem dget_mapo {α : Type} {k : List Nat} {v : α} {q : List Nat} (hq : k ≠ q) : ∀ l : List (List Nat × α), dget (l.map fun p => if p.1 = k then (p.1, v) else p) q = dget l q
  | [] => rfl
  | p :: l => by
    rw [List.map_cons, dget_cons, dget_cons, dget_mapo hq l]
    by_cases h : p.1 = k
    · rw [if_pos h]
      show (if p.1 = q then _ else _) = _
      rw [if_neg (by rw [h]; exact hq), if_neg (by rw [h]; exact hq)]
    · rw [if_neg h]
theorem dget_map {α : Type} {k : List Nat} {v : α} : ∀ l : List (List Nat × α), (l.any fun p => decide (p.1 = k)) = true → dget (l.map fun p => if p.1 = k then (p.1, v) else p) k = some v
  | [], h => by cases h
  | p :: l, h => by
    rw [List.map_cons, dget_cons]
    by_cases e : p.1 = k
    · rw [if_pos e]
      show (if p.1 = k then _ else _) = _
      rw [if_pos e]
    · rw [if_neg e, if_neg e]
      rw [List.any_cons, decide_eq_false e, Bool.false_or] at h
      exact dget_map l h
theorem dget_none {α : Type} {k : List Nat} : ∀ l : List (List Nat × α), k ∉ l.map (·.1) → dget l k = none
  | [], _ => rfl
  | p :: l, h => by
    rw [List.map_cons, List.mem_cons, not_or] at h
    rw [dget_cons, if_neg (fun e => h.1 e.symm)]
    exact dget_none l h.2
theorem any_iff {α : Type} {k : List Nat} (l : List (List Nat × α)) : (l.any fun p => decide (p.1 = k)) = true ↔ k ∈ l.map (·.1) := by
  rw [List.any_eq_true]
  constructor
  · rintro ⟨p, h1, h2⟩
    exact List.mem_map.mpr ⟨p, h1, of_decide_eq_true h2⟩
  · intro h
    obtain ⟨p, h1, h2⟩ := List.mem_map.mp h
    exact ⟨p, h1, decide_eq_true h2⟩
theorem dget_put {α : Type} (l : List (List Nat × α)) (k : List Nat) (v : α) (q : List Nat) : dget (dput l k v) q = if k = q then some v else dget l q := by
  unfold dput
  by_cases h : (l.any fun p => decide (p.1 = k)) = true
  · rw [if_pos h]
    by_cases e : k = q
    · subst e; rw [if_pos rfl]; exact dget_map l h
    · rw [if_neg e]; exact dget_mapo e l
  · rw [if_neg h, dget_app]
    by_cases e : k = q
    · subst e
      rw [dget_none l (fun m => h ((any_iff l).mpr m))]
    · rw [if_neg e]
      cases dget l q with
      | none => simp [e]
      | some w => simp [e]
theorem dput_new {α : Type} {l : List (List Nat × α)} {k : List Nat} {v : α} (h : k ∉ l.map (·.1)) : dput l k v = l ++ [(k, v)] := by
  unfold dput
  rw [if_neg (fun q => h ((any_iff l).mp q))]
theorem dget_merge {α : Type} : ∀ (m l : List (List Nat × α)) (q : List Nat), (m.map (·.1)).Nodup → dget (dmerge l m) q = match dget m q with | some w => some w | none => dget l q
  | [], l, q, _ => rfl
  | p :: m, l, q, h => by
    rw [List.map_cons, List.nodup_cons] at h
    show dget (dmerge (dput l p.1 p.2) m) q = _
    rw [dget_merge m _ q h.2, dget_put, dget_cons]
    by_cases e : p.1 = q
    · rw [if_pos e, if_pos e, dget_none m (e ▸ h.1)]
    · rw [if_neg e, if_neg e]
theorem dhas_is {α : Type} (l : List (List Nat × α)) (k : List Nat) : dhas l k = (dget l k).isSome := rfl
/-! ### the frame's functions -/
theorem rep_one {α : Type} (n : Nat) (x : α) : (List.replicate n [x]).flatten = List.replicate n x := by
  induction n with
  | zero => rfl
  | succ n ih => rw [List.replicate_succ, List.flatten_cons, ih]; rfl
theorem repS_one {α : Type} (n : Nat) (x : α) : repS [x] (n : Int) = List.replicate n x := by
  unfold repS; rw [Int.toNat_natCast, rep_one]
theorem p_checked {L : List Nat} {D : Int} {t : List Nat} (h : ∀ c ∈ t, c ∈ L) : m_checked (L, D) t = .ok t := by
  unfold m_checked
  refine bind_forI (Q := fun q => q = .ok t) (fun _ => True) trivial (fun x hx s _ => ?_) (fun s _ => rfl)
  simp only
  rw [if_neg (by simp [h x hx])]
  exact ⟨(), rfl, trivial⟩
theorem forM_bad {f : Nat → Unit → M Unit} {p : Nat → Bool} {n : Str} : ∀ {xs : List Nat}, (∀ x ∈ xs, f x () = if p x = true then .ok () else .ex n) → (∃ x ∈ xs, p x = false) → forM f xs () = .ex n
  | [], _, ⟨x, h, _⟩ => by cases h
  | x :: xs, h, hb => by
    show (f x ()).bind _ = _
    rw [h x List.mem_cons_self]
    cases e : p x with
    | false => rw [if_neg (by decide)]; rfl
    | true =>
      rw [if_pos rfl]
      refine forM_bad (fun y hy => h y (List.mem_cons_of_mem _ hy)) ?_
      obtain ⟨y, h1, h2⟩ := hb
      rcases List.mem_cons.mp h1 with rfl | h1
      · rw [e] at h2; cases h2
      · exact ⟨y, h1, h2⟩
theorem p_checked_bad {L : List Nat} {D : Int} {t : List Nat} (h : ∃ c ∈ t, c ∉ L) : m_checked (L, D) t = .ex "NoText" := by
  unfold m_checked
  rw [forM_bad (p := fun c => decide (c ∈ L)) (n := "NoText") (fun x hx => ?_) (by obtain ⟨c, h1, h2⟩ := h; exact ⟨c, h1, decide_eq_false h2⟩)]
  · rfl
  · simp only
    by_cases e : x ∈ L
    · rw [if_neg (by simp [e]), if_pos (by simp [e])]; rfl
    · rw [if_pos (by simp [e]), if_neg (by simp [e])]; rfl
/-- the elders of the place behind a text -/
def nearL (L : List Nat) (D : Nat) (t : List Nat) : List Nat := (List.replicate D (L.headD 0) ++ t).reverse.take D
theorem near_len {L : List Nat} {D : Nat} {t : List Nat} : (nearL L D t).length = D := by
  unfold nearL
  rw [List.length_take, List.length_reverse, List.length_append, List.length_replicate]
  omega
theorem near_mem {L : List Nat} {D : Nat} {t : List Nat} (hL : 0 < L.length) (h : ∀ c ∈ t, c ∈ L) : ∀ c ∈ nearL L D t, c ∈ L := fun c hc => by
  have := List.mem_of_mem_take hc
  rw [List.mem_reverse, List.mem_append] at this
  rcases this with m | m
  · rw [List.eq_of_mem_replicate m]
    cases L with
    | nil => cases hL
    | cons x L => exact List.mem_cons_self
  · exact h c m
theorem near_cut {L : List Nat} {D : Nat} (u : List Nat) : nearL L D (u.drop (u.length - D)) = nearL L D u := by
  unfold nearL
  rw [List.reverse_append, List.reverse_append, List.take_append, List.take_append, List.reverse_drop, List.take_take]
  congr 1
  · by_cases h : D ≤ u.length
    · congr 1; omega
    · rw [List.take_of_length_le (by rw [List.length_reverse]; omega), List.take_of_length_le (by rw [List.length_reverse]; omega)]
  · congr 1
    rw [List.length_take, List.length_reverse]
    omega
theorem p_elders {L : List Nat} {D i : Nat} {t : List Nat} (hL : 0 < L.length) (hL2 : L.length ≤ 100) (hD : D ≤ 10) (ht : t.length ≤ 1000) (hi : i ≤ t.length) (h : ∀ c ∈ t, c ∈ L) : m_elders (L, (D : Int)) t (i : Int) = .ok (nearL L D (t.take i)) := by
  have e1 : lenOk t = true := lenOk_i (by omega)
  unfold m_elders
  rw [p_checked h, M.bind_ok, if_neg (by simp), M.gd_of _ e1, M.nox_ok, M.bind_ok, if_neg (by simp; omega)]
  unfold m_signs_ahead
  simp only [M.lt_eq]
  have a0 : atI L ((0 : Nat) : Int) = some (L.headD 0) := by
    rw [atI_n hL]
    cases L with
    | nil => cases hL
    | cons x L => rfl
  have hc : cut t (some (max (0 : Int) ((i : Int) - (D : Int)))) (some (i : Int)) = (t.take i).drop ((t.take i).length - D) := by
    rw [show max (0 : Int) ((i : Int) - (D : Int)) = ((i - D : Nat) : Int) by omega, cut_nn (by omega), List.length_take, Nat.min_eq_left hi, List.drop_take]
  rw [M.gd_of _ (lenOk_i (by omega)), show (0 : Int) = ((0 : Nat) : Int) from rfl, a0, M.ofO_some, M.bind_ok, M.gd_of _ (repOk_i (by omega) (by omega) (by simp)), M.gd_of _ e1, repS_one]
  rw [show (((0 : Nat) : Int)) = (0 : Int) from rfl, hc]
  have l1 : (List.replicate D (L.headD 0) ++ (t.take i).drop ((t.take i).length - D)).length ≤ 16777216 := by
    rw [List.length_append, List.length_replicate, List.length_drop, List.length_take]; omega
  rw [M.gd_of _ (catOk_i (by rw [List.length_append] at l1; exact l1)), M.gd_of _ (lenOk_i l1), M.gd_of _ (lenOk_i (by rw [List.length_reverse]; exact l1)), cut_to (by omega), Int.toNat_natCast, ← near_cut (t.take i)]
  rfl
theorem p_nearK {L : List Nat} {D : Nat} {t : List Nat} (hL : 0 < L.length) (hL2 : L.length ≤ 100) (hD : D ≤ 10) (ht : t.length ≤ 1000) (h : ∀ c ∈ t, c ∈ L) :
    m_path_knots (L, (D : Int)) t = .ok ((List.range (D + 1)).map fun i => (nearL L D t).take (D - i)) := by
  have e1 : lenOk t = true := lenOk_i (by omega)
  have hu : cut t (some (max (0 : Int) ((t.length : Int) - (D : Int)))) none = t.drop (t.length - D) := by
    rw [show max (0 : Int) ((t.length : Int) - (D : Int)) = ((t.length - D : Nat) : Int) by omega, cut_from (by omega), Int.toNat_natCast]
  have hl : (t.drop (t.length - D)).length ≤ 1000 := by rw [List.length_drop]; omega
  unfold m_path_knots
  simp only [M.lt_eq]
  rw [M.gd_of _ e1, M.gd_of _ e1, hu, M.gd_of _ (lenOk_i (by omega)), p_elders hL hL2 hD hl (Nat.le_refl _) (fun c hc => h c (List.mem_of_mem_drop hc)), List.take_length, near_cut, M.bind_ok]
  rw [M.gd_of _ (rngOk_i (by omega) (by omega) (by omega) (by omega)), show (((D : Int)) - (-1 : Int)).toNat = D + 1 by omega]
  have hr : (rng (D : Int) (-1) (D + 1)).length = D + 1 := rng_len _ _ _
  rw [M.gd_of _ (lenLt_i (by omega))]
  rw [compM_map (k := fun d : Int => (nearL L D t).take d.toNat) (fun _ _ => rfl) (fun d hd => ?_), M.nox_ok, M.bind_ok]
  · congr 1
    unfold rng
    rw [List.map_map]
    refine List.map_congr_left fun i hi => ?_
    show List.take ((D : Int) + (i : Int) * (-1)).toNat _ = _
    rw [show ((D : Int) + (i : Int) * (-1)).toNat = D - i by omega]
  · obtain ⟨i, h1, h2⟩ := rng_mem hd
    rw [M.gd_of _ (lenOk_i (by rw [near_len]; omega)), cut_to (by omega)]
def ent (n : Nat) (kn : List (List Nat × En)) (x : List Nat) : En := (dget kn x).getD (List.replicate n 0, (1, 1), (1, 1))
theorem p_entry {L : List Nat} {D : Int} {kn : List (List Nat × En)} {x : List Nat} (hL : L.length ≤ 100) : m_entry_of (L, D) kn x = .ok (ent L.length kn x) := by
  unfold m_entry_of ent
  rw [dhas_is]
  cases e : dget kn x with
  | some v => rfl
  | none =>
    simp only
    rw [if_neg (by simp), M.gd_of _ (lenOk_i (by omega)), M.gd_of _ (repOk_i (by omega) (by omega) (by simp)), repS_one]
    rfl

end B
namespace B
open PySem PySem.Spec PyProof.Rows L2
/-! ### the mathematics of a grown path -/
def prodL (f : Nat → Int) : List Nat → Int
  | [] => 1
  | a :: l => f a * prodL f l
theorem foldl_prod (f : Nat → Int) : ∀ (l : List Nat) (c : Int), l.foldl (fun t a => t * f a) c = c * prodL f l
  | [], c => by simp [prodL]
  | a :: l, c => by
    rw [List.foldl_cons, foldl_prod f l]
    show c * f a * prodL f l = c * (f a * prodL f l)
    grind
theorem prodL_congr {f g : Nat → Int} : ∀ {l : List Nat}, (∀ a ∈ l, f a = g a) → prodL f l = prodL g l
  | [], _ => rfl
  | a :: l, h => by
    show f a * prodL f l = g a * prodL g l
    rw [h a List.mem_cons_self, prodL_congr fun b hb => h b (List.mem_cons_of_mem _ hb)]
theorem prodL_pos {f : Nat → Int} : ∀ {l : List Nat}, (∀ a ∈ l, 0 < f a) → 0 < prodL f l
  | [], _ => by show (0 : Int) < 1; decide
  | a :: l, h => Int.mul_pos (h a List.mem_cons_self) (prodL_pos fun b hb => h b (List.mem_cons_of_mem _ hb))
theorem prodL_one {f g : Nat → Int} {a : Nat} : ∀ {l : List Nat}, l.Nodup → a ∈ l → (∀ b ∈ l, b ≠ a → f b = g b) → ∃ P, prodL f l = P * f a ∧ prodL g l = P * g a
  | [], _, h, _ => by cases h
  | b :: l, hn, h, hc => by
    rw [List.nodup_cons] at hn
    by_cases e : b = a
    · subst e
      refine ⟨prodL f l, ?_, ?_⟩
      · show f b * prodL f l = _; grind
      · show g b * prodL g l = _
        rw [prodL_congr (f := f) (g := g) fun c hcm => hc c (List.mem_cons_of_mem _ hcm) (fun q => hn.1 (q ▸ hcm))]
        grind
    · have hm : a ∈ l := by
        rcases List.mem_cons.mp h with q | q
        · exact absurd q.symm e
        · exact q
      obtain ⟨P, h1, h2⟩ := prodL_one (f := f) (g := g) hn.2 hm fun c hcm => hc c (List.mem_cons_of_mem _ hcm)
      refine ⟨f b * P, ?_, ?_⟩
      · show f b * prodL f l = _; rw [h1]; grind
      · show g b * prodL g l = _; rw [h2, ← hc b List.mem_cons_self e]; grind
def sumK (f : Nat → Int) : Nat → Int
  | 0 => 0
  | n + 1 => sumK f n + f n
theorem sumK_congr {f g : Nat → Int} : ∀ {n : Nat}, (∀ k, k < n → f k = g k) → sumK f n = sumK g n
  | 0, _ => rfl
  | n + 1, h => by
    show sumK f n + f n = sumK g n + g n
    rw [sumK_congr fun k hk => h k (Nat.lt_succ_of_lt hk), h n (Nat.lt_succ_self n)]
theorem sumK_lin (a b : Int) (f g : Nat → Int) : ∀ n : Nat, sumK (fun k => a * f k + b * g k) n = a * sumK f n + b * sumK g n
  | 0 => by simp [sumK]
  | n + 1 => by
    show sumK _ n + (a * f n + b * g n) = a * (sumK f n + f n) + b * (sumK g n + g n)
    rw [sumK_lin a b f g n]; grind
theorem sumK_succ (f : Nat → Int) : ∀ n : Nat, sumK f (n + 1) = f 0 + sumK (fun k => f (k + 1)) n
  | 0 => by simp [sumK]
  | n + 1 => by
    show sumK f (n + 1) + f (n + 1) = f 0 + (sumK (fun k => f (k + 1)) n + f (n + 1))
    rw [sumK_succ f n]; omega
theorem sumK_list : ∀ l : List Int, sumK (fun k => l.getD k 0) l.length = l.sum
  | [] => rfl
  | a :: l => by
    rw [List.length_cons, sumK_succ, List.sum_cons]
    have := sumK_list l
    simpa using this
theorem sumK_odd (l : List Int) : ∀ n : Nat, sumK (fun k => 2 * l.getD k 0 + 1) n = 2 * sumK (fun k => l.getD k 0) n + n
  | 0 => by simp [sumK]
  | n + 1 => by
    show sumK _ n + (2 * l.getD n 0 + 1) = 2 * (sumK _ n + l.getD n 0) + ((n + 1 : Nat) : Int)
    rw [sumK_odd l n]; omega
theorem sumK_nn {f : Nat → Int} : ∀ {n : Nat}, (∀ k, k < n → 0 ≤ f k) → 0 ≤ sumK f n
  | 0, _ => by show (0 : Int) ≤ 0; decide
  | n + 1, h => by
    have := sumK_nn (f := f) (n := n) fun k hk => h k (Nat.lt_succ_of_lt hk)
    have := h n (Nat.lt_succ_self n)
    show 0 ≤ sumK f n + f n
    omega
theorem sumK_le {f : Nat → Int} : ∀ {n : Nat} (k : Nat), (∀ k, k < n → 0 ≤ f k) → k < n → sumK f k + f k ≤ sumK f n
  | 0, k, _, hk => by omega
  | n + 1, k, h, hk => by
    have hn := h n (Nat.lt_succ_self n)
    show sumK f k + f k ≤ sumK f n + f n
    by_cases e : k = n
    · subst e; omega
    · have := sumK_le (f := f) (n := n) k (fun k hk => h k (Nat.lt_succ_of_lt hk)) (by omega)
      omega
theorem sumK_at {f : Nat → Int} {n k : Nat} (h : ∀ k, k < n → 0 ≤ f k) (hk : k < n) : f k ≤ sumK f n := by
  have := sumK_le (f := f) k h hk
  have := sumK_nn (f := f) (n := k) fun j hj => h j (by omega)
  omega
def ow (e : En) (k : Nat) : Int × Int := (e.2.1.1 * (2 * e.1.getD k 0 + 1), e.2.1.2 * (2 * e.1.sum + (e.1.length : Int)))
def so (e : En) (k : Nat) : List Int := e.1.take k ++ [e.1.getD k 0 + 1] ++ e.1.drop (k + 1)
def prT (L : List Nat) (B : List Nat → Int × Int) (x : List Nat) : Int := prodL (fun a => (B (x ++ [a])).1) L
def prB (L : List Nat) (B : List Nat → Int × Int) (x : List Nat) : Int := prodL (fun a => (B (x ++ [a])).2) L
def hsum (o : Int × Int) (T B : Int) : Int × Int := (o.1 * B + T * o.2, 2 * o.2 * B)
def newE (L : List Nat) (D : Nat) (E : List Nat → En) (near : List Nat) (k : Nat) : Nat → En
  | 0 => (so (E (near.take D)) k, ow (E (near.take D)) k, ow (E (near.take D)) k)
  | j + 1 => (so (E (near.take (D - (j + 1)))) k, ow (E (near.take (D - (j + 1)))) k, hsum (ow (E (near.take (D - (j + 1)))) k) (prT L (fun q => if q = near.take (D - j) then (newE L D E near k j).2.2 else (E q).2.2) (near.take (D - (j + 1)))) (prB L (fun q => if q = near.take (D - j) then (newE L D E near k j).2.2 else (E q).2.2) (near.take (D - (j + 1)))))
structure Ckn (L : List Nat) (D N : Nat) (E : List Nat → En) : Prop where
  len : ∀ x, (E x).1.length = L.length
  nn : ∀ x, ∀ c ∈ (E x).1, 0 ≤ c
  sum : ∀ x, (E x).1.sum ≤ N
  o1 : ∀ x, 0 < (E x).2.1.1
  o2 : ∀ x, (E x).2.1.1 ≤ (E x).2.1.2
  oz : ∀ x, (E x).2.1.2 ≤ 512 ^ N
  p1 : ∀ x, 0 < (E x).2.2.1
  p2 : ∀ x, (E x).2.2.1 ≤ (E x).2.2.2
  pz : ∀ x, (E x).2.2.2 ≤ 512 ^ (N * (D + 1))
  leaf : ∀ x, x.length = D → (E x).2.2 = (E x).2.1
  inner : ∀ x, x.length < D → ∃ g : Int, 0 < g ∧ g ≤ 2 ∧ (E x).2.1.1 * prB L (fun q => (E q).2.2) x + prT L (fun q => (E q).2.2) x * (E x).2.1.2 = g * (E x).2.2.1 ∧ 2 * (E x).2.1.2 * prB L (fun q => (E q).2.2) x = g * (E x).2.2.2
theorem prodL_ones {f : Nat → Int} (h : ∀ a, f a = 1) : ∀ l : List Nat, prodL f l = 1
  | [] => rfl
  | a :: l => by show f a * prodL f l = 1; rw [h, prodL_ones h l]; rfl
theorem inv0 {L : List Nat} {D : Nat} : Ckn L D 0 (ent L.length []) := by
  have e : ∀ x, ent L.length [] x = (List.replicate L.length 0, (1, 1), (1, 1)) := fun x => rfl
  have one1 : (0 : Int) < 1 := by decide
  have one2 : (1 : Int) ≤ 1 := by decide
  refine ⟨fun x => by rw [e]; simp, fun x c hc => ?_, fun x => ?_, fun x => one1, fun x => one2, fun x => ?_, fun x => one1, fun x => one2, fun x => ?_, fun x _ => by rw [e], fun x _ => ⟨2, by decide, by decide, ?_, ?_⟩⟩
  · rw [e] at hc
    have := List.eq_of_mem_replicate hc
    omega
  · rw [e]; simp
  · rw [e]; simp
  · rw [e]; simp
  · have h1 : prT L (fun q => (ent L.length [] q).2.2) x = 1 := prodL_ones (fun a => rfl) L
    have h2 : prB L (fun q => (ent L.length [] q).2.2) x = 1 := prodL_ones (fun a => rfl) L
    rw [h1, h2]
    show (1 : Int) * 1 + 1 * 1 = 2 * 1
    rfl
  · have h2 : prB L (fun q => (ent L.length [] q).2.2) x = 1 := prodL_ones (fun a => rfl) L
    rw [h2]
    show (2 : Int) * 1 * 1 = 2 * 1
    rfl
section
variable {L : List Nat} {D N : Nat} {E : List Nat → En} {near : List Nat}
theorem getD_nn (hI : Ckn L D N E) (x : List Nat) (k : Nat) : 0 ≤ (E x).1.getD k 0 := by
  rw [List.getD_eq_getElem?_getD]
  cases e : (E x).1[k]? with
  | none => simp
  | some c => exact hI.nn x c (List.mem_of_getElem? e)
theorem w_le (hI : Ckn L D N E) (x : List Nat) {k : Nat} (hk : k < L.length) : 2 * (E x).1.getD k 0 + 1 ≤ 2 * (E x).1.sum + ((E x).1.length : Int) := by
  have h1 := sumK_list (E x).1
  have h2 := sumK_at (f := fun k => (E x).1.getD k 0) (n := (E x).1.length) (k := k) (fun k _ => getD_nn hI x k) (by rw [hI.len]; exact hk)
  have h3 := hI.len x
  omega
theorem M_le (hI : Ckn L D N E) (hn : N ≤ 120) (hL : L.length ≤ 6) (hL1 : 0 < L.length) (x : List Nat) : 0 < 2 * (E x).1.sum + ((E x).1.length : Int) ∧ 2 * (E x).1.sum + ((E x).1.length : Int) ≤ 256 := by
  have h1 := w_le hI x (k := 0) hL1
  have h2 := getD_nn hI x 0
  have h3 := hI.sum x
  have h4 := hI.len x
  omega
theorem sum_w (hI : Ckn L D N E) (x : List Nat) : sumK (fun k => 2 * (E x).1.getD k 0 + 1) L.length = 2 * (E x).1.sum + ((E x).1.length : Int) := by
  have := sumK_list (E x).1
  rw [hI.len] at this
  rw [sumK_odd, this, hI.len]
/-- the knots' ratios are the same for all letters -/
theorem ratio (hI : Ckn L D N E) (hn : N ≤ 120) (hL : L.length ≤ 6) (hL1 : 0 < L.length) (hnd : L.Nodup) (h1 : near.length = D) (h2 : ∀ c ∈ near, c ∈ L) : ∀ j, j ≤ D →
    ∃ ρ : Int, 0 < ρ ∧ ρ ≤ 512 ^ (j + 1) ∧ (∀ k, k < L.length → (newE L D E near k j).2.2.2 = ρ * (E (near.take (D - j))).2.2.2 ∧ 0 < (newE L D E near k j).2.2.1) ∧ sumK (fun k => (newE L D E near k j).2.2.1) L.length = ρ * (E (near.take (D - j))).2.2.1
  | 0, _ => by
    have hx : (near.take D).length = D := by rw [List.length_take]; omega
    have lf := hI.leaf _ hx
    obtain ⟨m1, m2⟩ := M_le hI hn hL hL1 (near.take D)
    have sw := sum_w hI (near.take D)
    rw [Nat.sub_zero]
    refine ⟨2 * (E (near.take D)).1.sum + ((E (near.take D)).1.length : Int), m1, by show _ ≤ (512 : Int) ^ 1; omega, fun k hk => ⟨?_, ?_⟩, ?_⟩
    · show (E (near.take D)).2.1.2 * (2 * (E (near.take D)).1.sum + ((E (near.take D)).1.length : Int)) = _
      rw [lf, Int.mul_comm]
    · show 0 < (E (near.take D)).2.1.1 * (2 * (E (near.take D)).1.getD k 0 + 1)
      have := getD_nn hI (near.take D) k
      exact Int.mul_pos (hI.o1 _) (by omega)
    · have : sumK (fun k => (newE L D E near k 0).2.2.1) L.length = sumK (fun k => (E (near.take D)).2.1.1 * (2 * (E (near.take D)).1.getD k 0 + 1) + 0 * 0) L.length := sumK_congr fun k _ => by
        show (E (near.take D)).2.1.1 * (2 * (E (near.take D)).1.getD k 0 + 1) = _
        omega
      rw [this, sumK_lin (E (near.take D)).2.1.1 0 (fun k => 2 * (E (near.take D)).1.getD k 0 + 1) (fun _ => 0), sw, lf]
      grind
  | j + 1, hj => by
    obtain ⟨ρ, r0, r1, r2, r3⟩ := ratio hI hn hL hL1 hnd h1 h2 j (by omega)
    obtain ⟨x, hx⟩ : ∃ x, near.take (D - (j + 1)) = x := ⟨_, rfl⟩
    have hxl : x.length = D - (j + 1) := by rw [← hx, List.length_take]; omega
    have hlt : D - (j + 1) < near.length := by omega
    obtain ⟨a, ha⟩ : ∃ a, near[D - (j + 1)] = a := ⟨_, rfl⟩
    have haL : a ∈ L := h2 a (ha ▸ List.getElem_mem hlt)
    have hy : near.take (D - j) = x ++ [a] := by
      rw [show D - j = D - (j + 1) + 1 by omega, List.take_succ, hx, List.getElem?_eq_getElem hlt, ha]
      rfl
    rw [hy] at r2 r3
    obtain ⟨m1, m2⟩ := M_le hI hn hL hL1 x
    have sw := sum_w hI x
    obtain ⟨g, g0, g2, g3, g4⟩ := hI.inner x (by omega)
    obtain ⟨M, hM⟩ : ∃ M, 2 * (E x).1.sum + ((E x).1.length : Int) = M := ⟨_, rfl⟩
    rw [hM] at m1 m2 sw
    have key : ∀ z : Int × Int, ∃ P Q, prT L (fun q => (E q).2.2) x = P * (E (x ++ [a])).2.2.1 ∧ prB L (fun q => (E q).2.2) x = Q * (E (x ++ [a])).2.2.2 ∧ prT L (fun q => if q = x ++ [a] then z else (E q).2.2) x = P * z.1 ∧ prB L (fun q => if q = x ++ [a] then z else (E q).2.2) x = Q * z.2 := fun z => by
      have ne : ∀ b, b ≠ a → (x ++ [b] = x ++ [a]) = False := fun b hb => by
        simp [hb]
      obtain ⟨P, q1, q2⟩ := prodL_one (f := fun b => (E (x ++ [b])).2.2.1) (g := fun b => (if x ++ [b] = x ++ [a] then z else (E (x ++ [b])).2.2).1) hnd haL (fun b _ hb => by simp [hb])
      obtain ⟨Q, q3, q4⟩ := prodL_one (f := fun b => (E (x ++ [b])).2.2.2) (g := fun b => (if x ++ [b] = x ++ [a] then z else (E (x ++ [b])).2.2).2) hnd haL (fun b _ hb => by simp [hb])
      refine ⟨P, Q, q1, q3, ?_, ?_⟩
      · unfold prT; rw [q2, if_pos rfl]
      · unfold prB; rw [q4, if_pos rfl]
    have ty := hI.p1 (x ++ [a])
    have by0 : 0 < (E (x ++ [a])).2.2.2 := Int.lt_of_lt_of_le ty (hI.p2 _)
    obtain ⟨P, Q, k1, k2, _, _⟩ := key (0, 0)
    have key2 : ∀ z : Int × Int, prT L (fun q => if q = x ++ [a] then z else (E q).2.2) x = P * z.1 ∧ prB L (fun q => if q = x ++ [a] then z else (E q).2.2) x = Q * z.2 := fun z => by
      obtain ⟨P', Q', l1, l2, l3, l4⟩ := key z
      have e1 : P' = P := Int.eq_of_mul_eq_mul_right (by omega) (l1.symm.trans k1)
      have e2 : Q' = Q := Int.eq_of_mul_eq_mul_right (by omega) (l2.symm.trans k2)
      rw [l3, l4, e1, e2]
      exact ⟨rfl, rfl⟩
    have pT : 0 < prT L (fun q => (E q).2.2) x := prodL_pos fun b _ => hI.p1 _
    have pB : 0 < prB L (fun q => (E q).2.2) x := prodL_pos fun b _ => Int.lt_of_lt_of_le (hI.p1 _) (hI.p2 _)
    have pP : 0 < P := by
      rcases Int.lt_or_le 0 P with q | q
      · exact q
      · have := Int.mul_le_mul_of_nonneg_right q (Int.le_of_lt ty)
        rw [k1] at pT
        omega
    have pQ : 0 < Q := by
      rcases Int.lt_or_le 0 Q with q | q
      · exact q
      · have := Int.mul_le_mul_of_nonneg_right q (Int.le_of_lt by0)
        rw [k2] at pB
        omega
    have np : ∀ k, (newE L D E near k (j + 1)).2.2 = hsum (ow (E x) k) (P * (newE L D E near k j).2.2.1) (Q * (newE L D E near k j).2.2.2) := fun k => by
      show hsum (ow (E (near.take (D - (j + 1)))) k) (prT L (fun q => if q = near.take (D - j) then (newE L D E near k j).2.2 else (E q).2.2) (near.take (D - (j + 1)))) (prB L (fun q => if q = near.take (D - j) then (newE L D E near k j).2.2 else (E q).2.2) (near.take (D - (j + 1)))) = _
      rw [hx, hy, (key2 _).1, (key2 _).2]
    have o1 := hI.o1 x
    have o2 : 0 < (E x).2.1.2 := Int.lt_of_lt_of_le o1 (hI.o2 x)
    rw [k1, k2] at g3
    rw [k2] at g4
    rw [hx]
    refine ⟨M * g * ρ, Int.mul_pos (Int.mul_pos m1 g0) r0, ?_, fun k hk => ?_, ?_⟩
    · have e1 : M * g ≤ 256 * 2 := Int.le_trans (Int.mul_le_mul_of_nonneg_right m2 (Int.le_of_lt g0)) (Int.mul_le_mul_of_nonneg_left g2 (by decide))
      have e2 : M * g * ρ ≤ 512 * ρ := Int.mul_le_mul_of_nonneg_right e1 (Int.le_of_lt r0)
      rw [Int.pow_succ]
      omega
    · obtain ⟨s1, s2⟩ := r2 k hk
      rw [np k]
      unfold hsum ow
      rw [hM, s1]
      generalize (newE L D E near k j).2.2.1 = t at *
      have w0 := getD_nn hI x k
      refine ⟨?_, ?_⟩
      · show 2 * ((E x).2.1.2 * M) * (Q * (ρ * (E (x ++ [a])).2.2.2)) = M * g * ρ * (E x).2.2.2
        have : M * g * ρ * (E x).2.2.2 = M * ρ * (g * (E x).2.2.2) := by grind
        rw [this, ← g4]; grind
      · show 0 < (E x).2.1.1 * (2 * (E x).1.getD k 0 + 1) * (Q * (ρ * (E (x ++ [a])).2.2.2)) + P * t * ((E x).2.1.2 * M)
        have a1 := Int.mul_pos (Int.mul_pos o1 (show 0 < 2 * (E x).1.getD k 0 + 1 by omega)) (Int.mul_pos pQ (Int.mul_pos r0 by0))
        have a2 := Int.mul_pos (Int.mul_pos pP s2) (Int.mul_pos o2 m1)
        omega
    · have e : sumK (fun k => (newE L D E near k (j + 1)).2.2.1) L.length = sumK (fun k => ((E x).2.1.1 * (Q * (ρ * (E (x ++ [a])).2.2.2))) * (2 * (E x).1.getD k 0 + 1) + (P * ((E x).2.1.2 * M)) * (newE L D E near k j).2.2.1) L.length := sumK_congr fun k hk => by
        rw [np k]
        unfold hsum ow
        rw [hM, (r2 k hk).1]
        show (E x).2.1.1 * (2 * (E x).1.getD k 0 + 1) * (Q * (ρ * (E (x ++ [a])).2.2.2)) + P * (newE L D E near k j).2.2.1 * ((E x).2.1.2 * M) = _
        grind
      rw [e, sumK_lin, sw, r3]
      have : M * g * ρ * (E x).2.2.1 = M * ρ * (g * (E x).2.2.1) := by grind
      rw [this, ← g3]; grind
end

end B
namespace B
open PySem PySem.Spec PyProof.Rows L2
theorem p512 {i j : Nat} (h : i ≤ j) : (512 : Int) ^ i ≤ 512 ^ j := by
  have := Nat.pow_le_pow_right (n := 512) (by decide) h
  have e : ∀ i : Nat, ((512 ^ i : Nat) : Int) = (512 : Int) ^ i := fun i => by simp
  have := e i
  have := e j
  omega
theorem so_sum {l : List Int} {k : Nat} (hk : k < l.length) : (l.take k ++ [l.getD k 0 + 1] ++ l.drop (k + 1)).sum = l.sum + 1 := by
  have e : l.sum = (l.take k ++ l[k] :: l.drop (k + 1)).sum := by
    rw [← List.drop_eq_getElem_cons hk, List.take_append_drop]
  rw [List.sum_append, List.sum_cons] at e
  rw [e, List.getD_eq_getElem?_getD, List.getElem?_eq_getElem hk, List.sum_append, List.sum_append, List.sum_cons]
  simp
  omega
section
variable {L : List Nat} {D N : Nat} {E : List Nat → En} {near : List Nat}
theorem newE_1 (k j : Nat) : (newE L D E near k j).1 = so (E (near.take (D - j))) k := by
  cases j with
  | zero => rfl
  | succ j => rfl
theorem newE_2 (k j : Nat) : (newE L D E near k j).2.1 = ow (E (near.take (D - j))) k := by
  cases j with
  | zero => rfl
  | succ j => rfl
theorem newE_B {E' : List Nat → En} {k : Nat} (h1 : near.length = D) (hE : ∀ q, E' q = if q = near.take q.length ∧ q.length ≤ D then newE L D E near k (D - q.length) else E q) {j : Nat} (hj : j + 1 ≤ D) (a : Nat) :
    (if near.take (D - (j + 1)) ++ [a] = near.take (D - j) then (newE L D E near k j).2.2 else (E (near.take (D - (j + 1)) ++ [a])).2.2) = (E' (near.take (D - (j + 1)) ++ [a])).2.2 := by
  have hl : (near.take (D - (j + 1)) ++ [a]).length = D - j := by
    rw [List.length_append, List.length_take]; simp; omega
  rw [hE, hl, show D - (D - j) = j by omega]
  by_cases e : near.take (D - (j + 1)) ++ [a] = near.take (D - j)
  · rw [if_pos e, if_pos ⟨e, by omega⟩]
  · rw [if_neg e, if_neg (fun q => e q.1)]
theorem step (hI : Ckn L D N E) (hn : N ≤ 120) (hL : L.length ≤ 6) (hL1 : 0 < L.length) (hnd : L.Nodup) (h1 : near.length = D) (h2 : ∀ c ∈ near, c ∈ L) {k : Nat} (hk : k < L.length) {E' : List Nat → En}
    (hE : ∀ q, E' q = if q = near.take q.length ∧ q.length ≤ D then newE L D E near k (D - q.length) else E q) : Ckn L D (N + 1) E' := by
  have up1 : (512 : Int) ^ N ≤ 512 ^ (N + 1) := p512 (by omega)
  have up2 : (512 : Int) ^ (N * (D + 1)) ≤ 512 ^ ((N + 1) * (D + 1)) := p512 (Nat.mul_le_mul_right _ (by omega))
  have cs : ∀ q, (∃ j, j ≤ D ∧ near.take (D - j) = q ∧ q.length = D - j ∧ E' q = newE L D E near k j) ∨ (¬ (q = near.take q.length ∧ q.length ≤ D) ∧ E' q = E q) := fun q => by
    by_cases e : q = near.take q.length ∧ q.length ≤ D
    · left
      refine ⟨D - q.length, by omega, ?_, by omega, by rw [hE, if_pos e]⟩
      rw [show D - (D - q.length) = q.length by omega]
      exact e.1.symm
    · right
      exact ⟨e, by rw [hE, if_neg e]⟩
  have rt := ratio hI hn hL hL1 hnd h1 h2
  have pz' : ∀ j, j ≤ D → 0 < (newE L D E near k j).2.2.1 ∧ (newE L D E near k j).2.2.1 ≤ (newE L D E near k j).2.2.2 ∧ (newE L D E near k j).2.2.2 ≤ 512 ^ ((N + 1) * (D + 1)) := fun j hj => by
    obtain ⟨ρ, r0, r1, r2, r3⟩ := rt j hj
    obtain ⟨s1, s2⟩ := r2 k hk
    have h5 := sumK_at (f := fun k => (newE L D E near k j).2.2.1) (fun k hk => Int.le_of_lt (r2 k hk).2) hk
    rw [r3] at h5
    have h6 := Int.mul_le_mul_of_nonneg_left (hI.p2 (near.take (D - j))) (Int.le_of_lt r0)
    refine ⟨s2, ?_, ?_⟩
    · rw [s1]; exact Int.le_trans h5 h6
    · rw [s1]
      have h7 := hI.pz (near.take (D - j))
      have h8 : (0 : Int) ≤ (E (near.take (D - j))).2.2.2 := Int.le_of_lt (Int.lt_of_lt_of_le (hI.p1 _) (hI.p2 _))
      have h9 : ρ * (E (near.take (D - j))).2.2.2 ≤ 512 ^ (j + 1) * (E (near.take (D - j))).2.2.2 := Int.mul_le_mul_of_nonneg_right r1 h8
      have h10 : (512 : Int) ^ (j + 1) * (E (near.take (D - j))).2.2.2 ≤ 512 ^ (j + 1) * 512 ^ (N * (D + 1)) := Int.mul_le_mul_of_nonneg_left h7 (Int.le_of_lt (Int.pow_pos (by decide)))
      rw [← Int.pow_add] at h10
      have h11 : (512 : Int) ^ (j + 1 + N * (D + 1)) ≤ 512 ^ ((N + 1) * (D + 1)) := p512 (by rw [Nat.succ_mul]; omega)
      omega
  have lenx : ∀ x, k < (E x).1.length := fun x => by rw [hI.len]; exact hk
  refine ⟨fun x => ?_, fun x c hc => ?_, fun x => ?_, fun x => ?_, fun x => ?_, fun x => ?_, fun x => ?_, fun x => ?_, fun x => ?_, fun x hx => ?_, fun x hx => ?_⟩
  · rcases cs x with ⟨j, _, e1, _, e2⟩ | ⟨_, e2⟩
    · rw [e2, newE_1, e1]
      unfold so
      have := lenx x
      have := hI.len x
      simp
      omega
    · rw [e2]; exact hI.len x
  · rcases cs x with ⟨j, _, e1, _, e2⟩ | ⟨_, e2⟩
    · rw [e2, newE_1, e1] at hc
      unfold so at hc
      rcases List.mem_append.mp hc with m | m
      · rcases List.mem_append.mp m with m | m
        · exact hI.nn x c (List.mem_of_mem_take m)
        · have := List.mem_singleton.mp m
          have := getD_nn hI x k
          omega
      · exact hI.nn x c (List.mem_of_mem_drop m)
    · rw [e2] at hc; exact hI.nn x c hc
  · rcases cs x with ⟨j, _, e1, _, e2⟩ | ⟨_, e2⟩
    · rw [e2, newE_1, e1]
      unfold so
      rw [so_sum (lenx x)]
      have := hI.sum x
      omega
    · rw [e2]; have := hI.sum x; omega
  · rcases cs x with ⟨j, _, e1, _, e2⟩ | ⟨_, e2⟩
    · rw [e2, newE_2, e1]
      have := getD_nn hI x k
      exact Int.mul_pos (hI.o1 x) (by omega)
    · rw [e2]; exact hI.o1 x
  · rcases cs x with ⟨j, _, e1, _, e2⟩ | ⟨_, e2⟩
    · rw [e2, newE_2, e1]
      have w0 := getD_nn hI x k
      have w1 := w_le hI x hk
      have a1 : (E x).2.1.1 * (2 * (E x).1.getD k 0 + 1) ≤ (E x).2.1.2 * (2 * (E x).1.getD k 0 + 1) := Int.mul_le_mul_of_nonneg_right (hI.o2 x) (by omega)
      have a2 : (E x).2.1.2 * (2 * (E x).1.getD k 0 + 1) ≤ (E x).2.1.2 * (2 * (E x).1.sum + ((E x).1.length : Int)) := Int.mul_le_mul_of_nonneg_left w1 (by have := hI.o1 x; have := hI.o2 x; omega)
      exact Int.le_trans a1 a2
    · rw [e2]; exact hI.o2 x
  · rcases cs x with ⟨j, _, e1, _, e2⟩ | ⟨_, e2⟩
    · rw [e2, newE_2, e1]
      obtain ⟨m1, m2⟩ := M_le hI hn hL hL1 x
      show (E x).2.1.2 * (2 * (E x).1.sum + ((E x).1.length : Int)) ≤ 512 ^ (N + 1)
      have a1 : (E x).2.1.2 * (2 * (E x).1.sum + ((E x).1.length : Int)) ≤ 512 ^ N * (2 * (E x).1.sum + ((E x).1.length : Int)) := Int.mul_le_mul_of_nonneg_right (hI.oz x) (by omega)
      have a2 : (512 : Int) ^ N * (2 * (E x).1.sum + ((E x).1.length : Int)) ≤ 512 ^ N * 512 := Int.mul_le_mul_of_nonneg_left (by omega) (Int.le_of_lt (Int.pow_pos (by decide)))
      rw [Int.pow_succ]
      exact Int.le_trans a1 a2
    · rw [e2]; exact Int.le_trans (hI.oz x) up1
  · rcases cs x with ⟨j, hj, e1, _, e2⟩ | ⟨_, e2⟩
    · rw [e2]; exact (pz' j hj).1
    · rw [e2]; exact hI.p1 x
  · rcases cs x with ⟨j, hj, e1, _, e2⟩ | ⟨_, e2⟩
    · rw [e2]; exact (pz' j hj).2.1
    · rw [e2]; exact hI.p2 x
  · rcases cs x with ⟨j, hj, e1, _, e2⟩ | ⟨_, e2⟩
    · rw [e2]; exact (pz' j hj).2.2
    · rw [e2]; exact Int.le_trans (hI.pz x) up2
  · rcases cs x with ⟨j, hj, e1, e3, e2⟩ | ⟨_, e2⟩
    · have : j = 0 := by omega
      subst this
      rw [e2]; rfl
    · rw [e2]; exact hI.leaf x hx
  · rcases cs x with ⟨j, hj, e1, e3, e2⟩ | ⟨e0, e2⟩
    · obtain ⟨i, rfl⟩ : ∃ i, j = i + 1 := ⟨j - 1, by omega⟩
      refine ⟨1, by decide, by decide, ?_, ?_⟩
      all_goals
        have bb : prB L (fun q => if q = near.take (D - i) then (newE L D E near k i).2.2 else (E q).2.2) x = prB L (fun q => (E' q).2.2) x := prodL_congr fun a _ => by rw [← e1]; exact congrArg Prod.snd (newE_B h1 hE hj a)
        have bt : prT L (fun q => if q = near.take (D - i) then (newE L D E near k i).2.2 else (E q).2.2) x = prT L (fun q => (E' q).2.2) x := prodL_congr fun a _ => by rw [← e1]; exact congrArg Prod.fst (newE_B h1 hE hj a)
        rw [e2, newE_2, e1, ← bb]
      · rw [← bt, Int.one_mul]
        show _ = (newE L D E near k (i + 1)).2.2.1
        rw [← e1]
        rfl
      · rw [Int.one_mul]
        show _ = (newE L D E near k (i + 1)).2.2.2
        rw [← e1]
        rfl
    · have ch : ∀ a, E' (x ++ [a]) = E (x ++ [a]) := fun a => by
        rw [hE, if_neg]
        rintro ⟨q1, q2⟩
        apply e0
        have hl : (x ++ [a]).length = x.length + 1 := by simp
        rw [hl] at q1 q2
        refine ⟨?_, by omega⟩
        have := congrArg (List.take x.length) q1
        rw [List.take_left' rfl, List.take_take, show min x.length (x.length + 1) = x.length by omega] at this
        exact this
      have bb : prB L (fun q => (E' q).2.2) x = prB L (fun q => (E q).2.2) x := prodL_congr fun a _ => by simp only [ch]
      have bt : prT L (fun q => (E' q).2.2) x = prT L (fun q => (E q).2.2) x := prodL_congr fun a _ => by simp only [ch]
      rw [e2, bb, bt]
      exact hI.inner x hx
/-- the grown path as a list -/
def pl (L : List Nat) (D : Nat) (E : List Nat → En) (near : List Nat) (k i : Nat) : List (List Nat × En) := (List.range i).map fun j => (near.take (D - j), newE L D E near k j)
theorem pl_succ (k i : Nat) : pl L D E near k (i + 1) = pl L D E near k i ++ [(near.take (D - i), newE L D E near k i)] := by
  unfold pl; rw [List.range_succ, List.map_append]; rfl
theorem pl_len (k i : Nat) : (pl L D E near k i).length = i := by unfold pl; simp
theorem dget_pl (h1 : near.length = D) (k : Nat) : ∀ i, i ≤ D + 1 → ∀ q, dget (pl L D E near k i) q = if q = near.take q.length ∧ q.length ≤ D ∧ D - q.length < i then some (newE L D E near k (D - q.length)) else none
  | 0, _, q => by rw [if_neg (by omega)]; rfl
  | i + 1, hi, q => by
    have hl : (near.take (D - i)).length = D - i := by rw [List.length_take]; omega
    rw [pl_succ, dget_app, dget_pl h1 k i (by omega) q]
    by_cases e : near.take (D - i) = q
    · have hq : q.length = D - i := by rw [← e]; exact hl
      have c : ¬ (q = near.take q.length ∧ q.length ≤ D ∧ D - q.length < i) := by omega
      have c' : q = near.take q.length ∧ q.length ≤ D ∧ D - q.length < i + 1 := ⟨by rw [hq]; exact e.symm, by omega, by omega⟩
      rw [if_neg c, if_pos c', show D - q.length = i by omega]
      simp only
      rw [if_pos e]
    · by_cases c : q = near.take q.length ∧ q.length ≤ D ∧ D - q.length < i
      · have c' : q = near.take q.length ∧ q.length ≤ D ∧ D - q.length < i + 1 := ⟨c.1, c.2.1, by omega⟩
        rw [if_pos c, if_pos c']
      · have c' : ¬ (q = near.take q.length ∧ q.length ≤ D ∧ D - q.length < i + 1) := fun ⟨c1, c2, c3⟩ => by
          by_cases c4 : D - q.length = i
          · exact e (by rw [← c4, show D - (D - q.length) = q.length by omega]; exact c1.symm)
          · exact c ⟨c1, c2, by omega⟩
        rw [if_neg c, if_neg c']
        simp only
        rw [if_neg e]
theorem pl_nodup (h1 : near.length = D) (k : Nat) : ((pl L D E near k (D + 1)).map (·.1)).Nodup := by
  unfold pl
  rw [List.map_map]
  refine List.pairwise_map.mpr (List.pairwise_lt_range.imp_of_mem fun ha hb hlt e => ?_)
  have := congrArg List.length e
  have := List.mem_range.mp ha
  have := List.mem_range.mp hb
  simp at *
  omega
theorem pl_not (h1 : near.length = D) (k : Nat) {i : Nat} (hi : i ≤ D) : near.take (D - i) ∉ (pl L D E near k i).map (·.1) := by
  intro h
  unfold pl at h
  rw [List.map_map] at h
  obtain ⟨j, hj, e⟩ := List.mem_map.mp h
  have := congrArg List.length e
  have := List.mem_range.mp hj
  simp at *
  omega
end
theorem prodL_snoc (f : Nat → Int) (a : Nat) : ∀ l : List Nat, prodL f (l ++ [a]) = prodL f l * f a
  | [] => by show f a * 1 = 1 * f a; omega
  | b :: l => by
    show f b * prodL f (l ++ [a]) = f b * prodL f l * f a
    rw [prodL_snoc f a l]; grind
theorem mulnat {x y : Int} {m n : Nat} (hx : x.natAbs < 2 ^ m) (hy : y.natAbs < 2 ^ n) : (x * y).natAbs < 2 ^ (m + n) := by
  rw [Int.natAbs_mul, Nat.pow_add]
  exact Nat.mul_lt_mul_of_lt_of_lt hx hy
theorem p_halved {L : List Nat} {D : Int} {kn path : List (List Nat × En)} {x : List Nat} {own : Int × Int} {Z : Nat} (hL : L.length ≤ 6) (hx : x.length ≤ 100) (hZ0 : 0 < Z) (hZ : Z ≤ 7000) (B : List Nat → Int × Int)
    (hB : ∀ a ∈ L, B (x ++ [a]) = ((dget path (x ++ [a])).getD (ent L.length kn (x ++ [a]))).2.2) (hs : ∀ a ∈ L, (B (x ++ [a])).1.natAbs < 2 ^ Z ∧ (B (x ++ [a])).2.natAbs < 2 ^ Z) (ho1 : own.1.natAbs < 2 ^ Z) (ho2 : own.2.natAbs < 2 ^ Z) :
    m_halved_sum (L, D) kn path x own = .ok (hsum own (prT L B x) (prB L B x)) := by
  unfold m_halved_sum
  simp only [M.lt_eq]
  refine bind_forN (Q := fun q => q = .ok (hsum own (prT L B x) (prB L B x))) (fun (i : Nat) (s : Int × Int) => s.1 = prodL (fun a => (B (x ++ [a])).1) (L.take i) ∧ s.2 = prodL (fun a => (B (x ++ [a])).2) (L.take i) ∧ s.1.natAbs < 2 ^ (Z * i + 1) ∧ s.2.natAbs < 2 ^ (Z * i + 1)) ⟨rfl, rfl, by simp, by simp⟩ (fun i a ha s hI => ?_) (fun s hI => ?_)
  · obtain ⟨s1, s2⟩ := s
    obtain ⟨i1, i2, i3, i4⟩ := hI
    simp only at i1 i2 i3 i4
    have hi := lt_of_get ha
    have haL : a ∈ L := List.mem_of_getElem? ha
    obtain ⟨z1, z2⟩ := hs a haL
    have hb := hB a haL
    have tk : L.take (i + 1) = L.take i ++ [a] := by rw [List.take_succ, ha]; rfl
    rw [M.gd_of _ (catOk_i (by simp; omega))]
    have hc : (if (dhas path (x ++ [a])) = true then M.bind (M.ofO (dget path (x ++ [a]))) (fun r5 => M.ok r5.2.2) else M.bind (M.nox (m_entry_of (L, D) kn (x ++ [a]))) fun r7 => M.ok r7.2.2) = .ok (B (x ++ [a])) := by
      rw [hb, dhas_is]
      cases e : dget path (x ++ [a]) with
      | some v => rfl
      | none =>
        rw [if_neg (by simp), p_entry (by omega), M.nox_ok, M.bind_ok]
        rfl
    rw [hc, M.bind_ok]
    have ex : Z * (i + 1) + 1 = Z * i + 1 + Z := by rw [Nat.mul_succ]; omega
    have b5 : Z * i ≤ Z * 6 := Nat.mul_le_mul_left _ (by omega)
    rw [M.gd_of _ (mulOk_i (Z * i + 1) Z i3 z1 (by omega) hZ0 (by omega)), M.gd_of _ (mulOk_i (Z * i + 1) Z i4 z2 (by omega) hZ0 (by omega))]
    refine ⟨_, rfl, ?_, ?_, ?_, ?_⟩
    · show s1 * _ = _; rw [tk, prodL_snoc, i1]
    · show s2 * _ = _; rw [tk, prodL_snoc, i2]
    · rw [ex]; exact mulnat i3 z1
    · rw [ex]; exact mulnat i4 z2
  · obtain ⟨s1, s2⟩ := s
    obtain ⟨i1, i2, i3, i4⟩ := hI
    simp only at i1 i2 i3 i4
    rw [List.take_length] at i1 i2
    have b5 : Z * L.length ≤ Z * 6 := Nat.mul_le_mul_left _ hL
    have o3 : (2 * own.2).natAbs < 2 ^ (2 + Z) := mulnat (m := 2) (by decide) ho2
    rw [M.gd_of _ (mulOk_i Z (Z * L.length + 1) ho1 i4 hZ0 (by omega) (by omega)), M.gd_of _ (mulOk_i (Z * L.length + 1) Z i3 ho2 (by omega) hZ0 (by omega)), M.gd_of _ (mulOk_i (2 + Z) (Z * L.length + 1) o3 i4 (by omega) (by omega) (by omega))]
    simp only
    rw [i1, i2]
    rfl

end B
namespace B
open PySem PySem.Spec PyProof.Rows L2
theorem lg2 {x : Int} {m n : Nat} (h : x.natAbs < 2 ^ m) (l : m ≤ n) : x.natAbs < 2 ^ n := Nat.lt_of_lt_of_le h (Nat.pow_le_pow_right (by decide) l)
theorem p512two (n : Nat) : (512 : Int) ^ n = 2 ^ (9 * n) := by
  rw [Int.pow_mul]; rfl
theorem nat_of {x : Int} {n : Nat} (h0 : 0 ≤ x) (h : x ≤ 512 ^ n) : x.natAbs < 2 ^ (9 * n + 1) := by
  rw [p512two] at h
  have e : ((2 ^ (9 * n + 1) : Nat) : Int) = (2 : Int) ^ (9 * n) * 2 := by
    rw [Nat.pow_succ]; simp
  have : (0 : Int) < 2 ^ (9 * n) := Int.pow_pos (by decide)
  omega
theorem p_weight {L : List Nat} {D : Int} {kn : List (List Nat × En)} (hL : L.length ≤ 6) : m_weight_pair (L, D) kn = .ok (ent L.length kn []).2.2 := by
  unfold m_weight_pair
  rw [p_entry (by omega), M.nox_ok, M.bind_ok]
structure Fr (L : List Nat) (D : Nat) : Prop where
  l1 : 0 < L.length
  l6 : L.length ≤ 6
  nd : L.Nodup
  d6 : D ≤ 6
theorem p_grown {L : List Nat} {D N : Nat} {kn : List (List Nat × En)} {t : List Nat} (F : Fr L D) (hI : Ckn L D N (ent L.length kn)) (hn : N ≤ 120) (hz : (N + 1) * (D + 1) ≤ 700) (ht : t.length ≤ 1000) (htL : ∀ c ∈ t, c ∈ L) :
    ∀ k : Nat, k < L.length → m_grown_path (L, (D : Int)) kn t (k : Int) = .ok (pl L D (ent L.length kn) (nearL L D t) k (D + 1)) := by
  obtain ⟨hL1, hL, hnd, hD⟩ := F
  have h1 : (nearL L D t).length = D := near_len
  have h2 := near_mem (D := D) hL1 htL
  have h3 := p_nearK (L := L) (D := D) (t := t) hL1 (by omega) (by omega) ht htL
  generalize nearL L D t = near at *
  intro k hk
  have hS := step hI hn hL hL1 hnd h1 h2 hk (E' := fun q => if q = near.take q.length ∧ q.length ≤ D then newE L D (ent L.length kn) near k (D - q.length) else ent L.length kn q) (fun q => rfl)
  unfold m_grown_path
  simp only [M.lt_eq]
  rw [h3, M.nox_ok, M.bind_ok]
  refine bind_forN (Q := fun q => q = .ok (pl L D (ent L.length kn) near k (D + 1))) (fun (i : Nat) (s : List (List Nat × En)) => s = pl L D (ent L.length kn) near k i) rfl (fun i x hx s hs => ?_) (fun s hs => ?_)
  · subst hs
    have hi : i < D + 1 := by have := lt_of_get hx; simpa using this
    have hx2 : x = near.take (D - i) := by
      rw [List.getElem?_map, List.getElem?_range hi] at hx
      exact (Option.some.inj hx).symm
    subst hx2
    have hxl : (near.take (D - i)).length = D - i := by rw [List.length_take]; omega
    rw [p_entry (by omega), M.bind_ok]
    have hn1 := newE_1 (L := L) (D := D) (E := ent L.length kn) (near := near) k i
    have hn2 := newE_2 (L := L) (D := D) (E := ent L.length kn) (near := near) k i
    obtain ⟨X, hX⟩ : ∃ X, ent L.length kn (near.take (D - i)) = X := ⟨_, rfl⟩
    have hkl : k < X.1.length := by rw [← hX, hI.len]; exact hk
    have w0 : 0 ≤ X.1.getD k 0 := by rw [← hX]; exact getD_nn hI _ k
    have w1 : 2 * X.1.getD k 0 + 1 ≤ 2 * X.1.sum + (X.1.length : Int) := by rw [← hX]; exact w_le hI _ hk
    have w2 : 2 * X.1.sum + (X.1.length : Int) ≤ 256 := by rw [← hX]; exact (M_le hI hn hL hL1 _).2
    have o1 : 0 < X.2.1.1 := by rw [← hX]; exact hI.o1 _
    have o2 : X.2.1.1 ≤ X.2.1.2 := by rw [← hX]; exact hI.o2 _
    have oz := hS.oz (near.take (D - i))
    have oo := hS.o2 (near.take (D - i))
    have op := hS.o1 (near.take (D - i))
    have hE'x : (if near.take (D - i) = near.take (near.take (D - i)).length ∧ (near.take (D - i)).length ≤ D then newE L D (ent L.length kn) near k (D - (near.take (D - i)).length) else ent L.length kn (near.take (D - i))) = newE L D (ent L.length kn) near k i := by
      have c : near.take (D - i) = near.take (near.take (D - i)).length ∧ (near.take (D - i)).length ≤ D := ⟨by rw [hxl], by omega⟩
      rw [if_pos c, hxl, show D - (D - i) = i by omega]
    rw [hE'x, hn2, hX] at oz oo op
    rw [hX] at hn1 hn2
    rw [hX]
    have hat : atI X.1 (k : Int) = some (X.1.getD k 0) := by
      rw [atI_n hkl, List.getD_eq_getElem?_getD, List.getElem?_eq_getElem hkl]; rfl
    have hxlen : X.1.length ≤ 6 := by rw [← hX, hI.len]; exact hL
    simp only [hat, M.ofO_some, M.bind_ok]
    rw [M.gd_of _ (mulOk_r (by omega) (by omega)), M.gd_of _ (mulOk_r (by omega) (by omega))]
    rw [cut_to (by omega), cut_from (by omega), Int.toNat_natCast, show ((k : Int) + 1).toNat = k + 1 by omega]
    rw [M.gd_of _ (catOk_i (by simp; omega)), M.gd_of _ (catOk_i (by simp; omega)), M.gd_of _ (lenOk_i (by omega))]
    have hpair : (if decide (((near.take (D - i)).length : Int) < (D : Int)) = true then M.bind (m_halved_sum (L, (D : Int)) kn (pl L D (ent L.length kn) near k i) (near.take (D - i)) (X.2.1.1 * (2 * X.1.getD k 0 + 1), X.2.1.2 * (2 * X.1.sum + (X.1.length : Int)))) (fun pair_ => M.ok pair_) else M.ok (X.2.1.1 * (2 * X.1.getD k 0 + 1), X.2.1.2 * (2 * X.1.sum + (X.1.length : Int)))) = .ok (newE L D (ent L.length kn) near k i).2.2 := by
      cases i with
      | zero =>
        rw [if_neg (by simp; omega)]
        show _ = M.ok (ow (ent L.length kn (near.take D)) k)
        rw [Nat.sub_zero] at hX
        rw [hX]
        rfl
      | succ j =>
        rw [if_pos (by simp; omega)]
        have bbE := fun a => newE_B (L := L) (D := D) (E := ent L.length kn) (near := near) (k := k) h1 (E' := fun q => if q = near.take q.length ∧ q.length ≤ D then newE L D (ent L.length kn) near k (D - q.length) else ent L.length kn q) (fun q => rfl) (j := j) (by omega) a
        have zz : 9 * ((N + 1) * (D + 1)) + 1 ≤ 6301 := by omega
        have z2 : 9 * (N + 1) + 1 ≤ 6301 := by
          have : (N + 1) * 1 ≤ (N + 1) * (D + 1) := Nat.mul_le_mul_left _ (by omega)
          omega
        rw [p_halved (Z := 6301) hL (by omega) (by decide) (by decide) (fun q => if q = near.take (D - j) then (newE L D (ent L.length kn) near k j).2.2 else (ent L.length kn q).2.2) (fun a ha => ?_) (fun a ha => ?_) ?_ ?_]
        · rw [M.bind_ok]
          show M.ok _ = M.ok (hsum (ow (ent L.length kn (near.take (D - (j + 1)))) k) _ _)
          rw [hX]
          rfl
        · exact lg2 (nat_of (Int.le_of_lt op) (Int.le_trans oo oz)) z2
        · exact lg2 (nat_of (Int.le_trans (Int.le_of_lt op) oo) oz) z2
        · rw [dget_pl h1 k (j + 1) (by omega)]
          have hl : (near.take (D - (j + 1)) ++ [a]).length = D - j := by
            rw [List.length_append, hxl]; simp; omega
          rw [hl]
          by_cases e : near.take (D - (j + 1)) ++ [a] = near.take (D - j)
          · have c : near.take (D - (j + 1)) ++ [a] = near.take (D - j) ∧ D - j ≤ D ∧ D - (D - j) < j + 1 := ⟨e, by omega, by omega⟩
            rw [if_pos c, if_pos e, show D - (D - j) = j by omega]
            rfl
          · have c : ¬ (near.take (D - (j + 1)) ++ [a] = near.take (D - j) ∧ D - j ≤ D ∧ D - (D - j) < j + 1) := fun q => e q.1
            rw [if_neg c, if_neg e]
            rfl
        · rw [bbE a]
          have q1 := hS.p1 (near.take (D - (j + 1)) ++ [a])
          have q2 := hS.p2 (near.take (D - (j + 1)) ++ [a])
          have q3 := hS.pz (near.take (D - (j + 1)) ++ [a])
          exact ⟨lg2 (nat_of (by omega) (by omega)) zz, lg2 (nat_of (by omega) q3) zz⟩
    rw [hpair, M.bind_ok, M.gd_of _ (lenLt_i (by rw [pl_len]; omega)), dput_new (pl_not h1 k (by omega))]
    refine ⟨_, rfl, ?_⟩
    rw [pl_succ]
    congr 3
    show (_, _, _) = newE L D (ent L.length kn) near k i
    have e1 : (newE L D (ent L.length kn) near k i) = ((newE L D (ent L.length kn) near k i).1, (newE L D (ent L.length kn) near k i).2.1, (newE L D (ent L.length kn) near k i).2.2) := rfl
    rw [e1, hn1, hn2]
    rfl
  · simp only [List.length_map, List.length_range] at hs
    rw [hs]
theorem ent_merge {L : List Nat} {D : Nat} {kn : List (List Nat × En)} {near : List Nat} (h1 : near.length = D) (k : Nat) (q : List Nat) :
    ent L.length (dmerge kn (pl L D (ent L.length kn) near k (D + 1))) q = if q = near.take q.length ∧ q.length ≤ D then newE L D (ent L.length kn) near k (D - q.length) else ent L.length kn q := by
  unfold ent
  rw [dget_merge _ _ _ (pl_nodup h1 k), dget_pl h1 k (D + 1) (by omega)]
  by_cases e : q = near.take q.length ∧ q.length ≤ D
  · have c : q = near.take q.length ∧ q.length ≤ D ∧ D - q.length < D + 1 := ⟨e.1, e.2, by omega⟩
    rw [if_pos c, if_pos e]
    rfl
  · have c : ¬ (q = near.take q.length ∧ q.length ≤ D ∧ D - q.length < D + 1) := fun c => e ⟨c.1, c.2.1⟩
    rw [if_neg c, if_neg e]
theorem dput_len {α : Type} (l : List (List Nat × α)) (k : List Nat) (v : α) : (dput l k v).length ≤ l.length + 1 := by
  unfold dput
  split <;> simp
theorem dmerge_len {α : Type} : ∀ (m l : List (List Nat × α)), (dmerge l m).length ≤ l.length + m.length
  | [], l => Nat.le_refl _
  | p :: m, l => by
    have h1 := dmerge_len m (dput l p.1 p.2)
    have h2 := dput_len l p.1 p.2
    show (dmerge (dput l p.1 p.2) m).length ≤ _
    rw [List.length_cons]
    omega
/-- what is known behind n signs of a text -/
def knN (L : List Nat) (D : Nat) (t : List Nat) : Nat → List (List Nat × En)
  | 0 => []
  | n + 1 => dmerge (knN L D t n) (pl L D (ent L.length (knN L D t n)) (nearL L D (t.take n)) (L.idxOf (t.getD n 0)) (D + 1))
theorem knN_succ (L : List Nat) (D : Nat) (t : List Nat) (n : Nat) : knN L D t (n + 1) = dmerge (knN L D t n) (pl L D (ent L.length (knN L D t n)) (nearL L D (t.take n)) (L.idxOf (t.getD n 0)) (D + 1)) := rfl
theorem knN_app (L : List Nat) (D : Nat) (t s : List Nat) : ∀ n, n ≤ t.length → knN L D (t ++ s) n = knN L D t n
  | 0, _ => rfl
  | n + 1, h => by
    rw [knN_succ, knN_succ, knN_app L D t s n (by omega), List.take_append_of_le_length (by omega)]
    have e : (t ++ s).getD n 0 = t.getD n 0 := by
      rw [List.getD_eq_getElem?_getD, List.getD_eq_getElem?_getD, List.getElem?_append_left (by omega)]
    rw [e]
/-- .. behind the whole of it -/
def knT (L : List Nat) (D : Nat) (t : List Nat) : List (List Nat × En) := knN L D t t.length
theorem knT_snoc (L : List Nat) (D : Nat) (t : List Nat) (c : Nat) : knT L D (t ++ [c]) = dmerge (knT L D t) (pl L D (ent L.length (knT L D t)) (nearL L D t) (L.idxOf c) (D + 1)) := by
  unfold knT
  rw [List.length_append, List.length_singleton, knN_succ]
  rw [knN_app L D t [c] _ (Nat.le_refl _), List.take_left' rfl]
  have e : (t ++ [c]).getD t.length 0 = c := by
    rw [List.getD_eq_getElem?_getD, List.getElem?_append_right (Nat.le_refl _), Nat.sub_self]
    rfl
  rw [e]
abbrev eT (L : List Nat) (D : Nat) (t : List Nat) : List Nat → En := ent L.length (knT L D t)
theorem eT_snoc (L : List Nat) (D : Nat) (t : List Nat) (c : Nat) (q : List Nat) : eT L D (t ++ [c]) q = if q = (nearL L D t).take q.length ∧ q.length ≤ D then newE L D (eT L D t) (nearL L D t) (L.idxOf c) (D - q.length) else eT L D t q := by
  unfold eT
  rw [knT_snoc]
  exact ent_merge near_len _ q
theorem snoc_ind {P : List Nat → Prop} (h0 : P []) (h1 : ∀ t c, P t → P (t ++ [c])) : ∀ (n : Nat) (t : List Nat), t.length = n → P t
  | 0, t, e => by rw [List.length_eq_zero_iff.mp e]; exact h0
  | n + 1, t, e => by
    have ne : t ≠ [] := fun q => by rw [q] at e; cases e
    rw [← List.dropLast_concat_getLast ne]
    exact h1 _ _ (snoc_ind h0 h1 n _ (by rw [List.length_dropLast, e]; rfl))
theorem kn_ok {L : List Nat} {D : Nat} (F : Fr L D) (t : List Nat) (hn : t.length ≤ 121) (htL : ∀ c ∈ t, c ∈ L) : Ckn L D t.length (eT L D t) ∧ (knT L D t).length ≤ t.length * 7 := by
  revert hn htL
  refine snoc_ind (P := fun t => t.length ≤ 121 → (∀ c ∈ t, c ∈ L) → Ckn L D t.length (eT L D t) ∧ (knT L D t).length ≤ t.length * 7) (fun _ _ => ⟨inv0, Nat.zero_le _⟩) (fun t c ih hn htL => ?_) _ t rfl
  rw [List.length_append, List.length_singleton] at hn ⊢
  obtain ⟨i1, i2⟩ := ih (by omega) (fun d hd => htL d (List.mem_append_left _ hd))
  have hk : L.idxOf c < L.length := List.idxOf_lt_length_of_mem (htL c (by simp))
  refine ⟨step i1 (by omega) F.l6 F.l1 F.nd near_len (near_mem F.l1 fun d hd => htL d (List.mem_append_left _ hd)) hk (eT_snoc L D t c), ?_⟩
  have hm := dmerge_len (pl L D (ent L.length (knT L D t)) (nearL L D t) (L.idxOf c) (D + 1)) (knT L D t)
  have := F.d6
  rw [pl_len] at hm
  rw [knT_snoc]
  omega
theorem p_known {L : List Nat} {D : Nat} {t : List Nat} (F : Fr L D) (hn : t.length ≤ 121) (hz : t.length * (D + 1) ≤ 700) (htL : ∀ c ∈ t, c ∈ L) : m_known_of (L, (D : Int)) t = .ok (knT L D t) := by
  unfold m_known_of
  simp only [M.lt_eq]
  rw [M.gd_of _ (lenOk_i (by omega)), M.gd_of _ (rngOk_i (by omega) (by omega) (by omega) (by omega)), Int.toNat_natCast]
  refine bind_rng (fun n => knT L D (t.take n)) rfl (fun i hi => ?_) (by rw [List.take_length])
  have hmem : t[i] ∈ L := htL _ (List.getElem_mem hi)
  have htk : (t.take i).length = i := by rw [List.length_take]; omega
  have htL2 : ∀ c ∈ t.take i, c ∈ L := fun c hc => htL c (List.mem_of_mem_take hc)
  obtain ⟨i1, i2⟩ := kn_ok F (t.take i) (by omega) htL2
  rw [htk] at i1 i2
  have hz2 : (i + 1) * (D + 1) ≤ t.length * (D + 1) := Nat.mul_le_mul_right _ hi
  have hk : L.idxOf t[i] < L.length := List.idxOf_lt_length_of_mem hmem
  have e1 : lenOk t = true := lenOk_i (by omega)
  have hd := F.d6
  rw [M.gd_of _ e1, M.gd_of _ e1, atI_n hi, M.ofO_some, M.bind_ok, M.gd_of _ (by simp [hmem]), cut_to (by omega), Int.toNat_natCast, p_grown (t := t.take i) F i1 (by omega) (by omega) (by omega) htL2 _ hk, M.nox_ok, M.bind_ok, M.gd_of _ (catOk_i (by rw [pl_len]; omega))]
  have e : t.take (i + 1) = t.take i ++ [t[i]] := by rw [List.take_succ, List.getElem?_eq_getElem hi]; rfl
  rw [e, knT_snoc]

end B
namespace B
open PySem PySem.Spec PyProof.Rows L2
/-! ### the mathematics -/
/-- the fraction in lowest terms -/
def ftop (t b : Int) : Int := b.sign * (t / (Int.gcd t b : Int))
def fbot (t b : Int) : Int := (b.natAbs : Int) / (Int.gcd t b : Int)
theorem gcd_pos {t b : Int} (h : b ≠ 0) : (0 : Int) < (Int.gcd t b : Int) := by
  have : 0 < Int.gcd t b := Int.gcd_pos_of_ne_zero_right t h
  omega
theorem gcd_le {t b : Int} (h : b ≠ 0) : Int.gcd t b ≤ b.natAbs := Nat.le_of_dvd (by omega) (Int.gcd_dvd_natAbs_right t b)
theorem log2_mono {a b : Nat} (h : a ≤ b) (hb : b.log2 < 9000) : a.log2 < 9000 := by
  by_cases h0 : a = 0
  · subst h0; decide
  · have h1 : 2 ^ a.log2 ≤ a := Nat.log2_self_le h0
    have hb0 : b ≠ 0 := by omega
    have h2 : b < 2 ^ (b.log2 + 1) := Nat.lt_log2_self
    have h3 : 2 ^ a.log2 < 2 ^ (b.log2 + 1) := by omega
    have h4 : a.log2 < b.log2 + 1 := (Nat.pow_lt_pow_iff_right (by decide)).mp h3
    omega
theorem fdiv_top (t b : Int) (h : b ≠ 0) : t.fdiv (if b < 0 then -(Int.gcd t b : Int) else (Int.gcd t b : Int)) = ftop t b := by
  have g := gcd_pos (t := t) h
  have d : (Int.gcd t b : Int) ∣ t := Int.gcd_dvd_left t b
  unfold ftop
  split
  · rename_i hb
    rw [Int.fdiv_eq_ediv_of_dvd (by rwa [Int.neg_dvd]), Int.ediv_neg, Int.sign_eq_neg_one_of_neg hb]
    omega
  · rename_i hb
    rw [Int.fdiv_eq_ediv_of_dvd d, Int.sign_eq_one_of_pos (by omega)]
    omega
theorem fdiv_bot (t b : Int) (h : b ≠ 0) : b.fdiv (if b < 0 then -(Int.gcd t b : Int) else (Int.gcd t b : Int)) = fbot t b := by
  have d : (Int.gcd t b : Int) ∣ b := Int.gcd_dvd_right t b
  unfold fbot
  split
  · rename_i hb
    rw [Int.fdiv_eq_ediv_of_dvd (by rwa [Int.neg_dvd]), Int.ediv_neg, show (b.natAbs : Int) = -b by omega, Int.neg_ediv_of_dvd d]
  · rename_i hb
    rw [Int.fdiv_eq_ediv_of_dvd d, show (b.natAbs : Int) = b by omega]
theorem fbot_pos (t b : Int) (h : b ≠ 0) : 0 < fbot t b := by
  unfold fbot
  have g := gcd_pos (t := t) h
  have l := gcd_le (t := t) h
  exact Int.ediv_pos_of_pos_of_dvd (by omega) (by omega) (by rw [Int.dvd_natAbs]; exact Int.gcd_dvd_right t b)
theorem f_cross (t b : Int) : ftop t b * b = t * fbot t b := by
  unfold ftop fbot
  have h1 : (Int.gcd t b : Int) ∣ t := Int.gcd_dvd_left t b
  have h2 : (Int.gcd t b : Int) ∣ (b.natAbs : Int) := by rw [Int.dvd_natAbs]; exact Int.gcd_dvd_right t b
  have e : b.sign * b = (b.natAbs : Int) := by rw [Int.mul_comm]; exact Int.mul_sign_self b
  rw [Int.mul_right_comm, e, Int.mul_comm, ← Int.mul_ediv_assoc _ h2, Int.mul_comm, ← Int.mul_ediv_assoc _ h1, Int.mul_comm]
theorem f_coprime (t b : Int) (h : b ≠ 0) : Int.gcd (ftop t b) (fbot t b) = 1 := by
  unfold ftop fbot
  have g : 0 < Int.gcd t b := Int.gcd_pos_of_ne_zero_right t h
  have e1 : (b.sign * (t / (Int.gcd t b : Int))).natAbs = t.natAbs / Int.gcd t b := by
    rw [Int.natAbs_mul, Int.natAbs_sign, if_neg h, Nat.one_mul, Int.natAbs_ediv_of_dvd (Int.gcd_dvd_left t b), Int.natAbs_natCast]
  have e2 : ((b.natAbs : Int) / (Int.gcd t b : Int)).natAbs = b.natAbs / Int.gcd t b := by
    rw [← Int.natCast_ediv, Int.natAbs_natCast]
  show Nat.gcd _ _ = 1
  rw [e1, e2]
  exact Nat.gcd_div_gcd_div_gcd_of_pos_right (by omega)
theorem log_200 {b : Int} (h : b.natAbs < 2 ^ 200) : b.natAbs.log2 < 9000 := by
  by_cases h0 : b.natAbs = 0
  · rw [h0]; decide
  · exact Nat.lt_of_lt_of_le ((Nat.log2_lt h0).mpr h) (by decide)
theorem ftop_lt {t b : Int} (h : t.natAbs < 2 ^ 200) : (ftop t b).natAbs < 2 ^ 200 := by
  unfold ftop
  rw [Int.natAbs_mul]
  have h1 : b.sign.natAbs ≤ 1 := by rw [Int.natAbs_sign]; split <;> omega
  have h2 : (t / (Int.gcd t b : Int)).natAbs ≤ t.natAbs := by
    rw [Int.natAbs_ediv_of_dvd (Int.gcd_dvd_left t b), Int.natAbs_natCast]
    exact Nat.div_le_self _ _
  have h3 := Nat.mul_le_mul h1 h2
  omega
theorem fbot_lt {t b : Int} (h : b.natAbs < 2 ^ 200) : (fbot t b).natAbs < 2 ^ 200 := by
  unfold fbot
  rw [← Int.natCast_ediv, Int.natAbs_natCast]
  exact Nat.lt_of_le_of_lt (Nat.div_le_self _ _) h
theorem cell_ix {ns : List Int} {k : Nat} (h : k < ns.length) : atI (ns.map Dat.int) (k : Int) = some (.int (ns.getD k 0)) := by
  rw [atI_nat (v := .int (ns.getD k 0))]
  rw [List.getElem?_map, List.getD_eq_getElem?_getD, List.getElem?_eq_getElem h]
  rfl

theorem gcd_rec2 {a b : Int} : Int.gcd b (a % b) = Int.gcd a b := by rw [Int.emod_def, Int.gcd_sub_mul_left_right, Int.gcd_comm]
theorem euclid {c : Int × Int → M Bool} {f : Int × Int → M (Int × Int)} (hc : ∀ s : Int × Int, c s = .ok (!decide (s.2 = 0))) (hf : ∀ s : Int × Int, 0 < s.2 → f s = .ok (s.2, s.1 % s.2)) (a b : Int) (hb : 0 ≤ b) : ∃ x, whileM c f (b.natAbs + 2) (a, b) = .ok (x, 0) ∧ x.natAbs = Int.gcd a b ∧ (0 ≤ a → 0 ≤ x) := by
  have h := whileM_by (c := c) (f := f) (I := fun s => 0 ≤ s.2 ∧ Int.gcd s.1 s.2 = Int.gcd a b ∧ (0 ≤ a → 0 ≤ s.1)) (fun s => s.2.natAbs) (fun s hs => by
    by_cases h0 : s.2 = 0
    · left; rw [hc]; simp [h0]
    · right
      have hp : 0 < s.2 := by omega
      have e1 := Int.emod_nonneg s.1 (b := s.2) (by omega)
      have e2 := Int.emod_lt_of_pos s.1 hp
      refine ⟨by rw [hc]; simp [h0], _, hf s hp, ⟨e1, ?_, fun _ => hs.1⟩, ?_⟩
      · rw [gcd_rec2]; exact hs.2.1
      · show (s.1 % s.2).natAbs < s.2.natAbs
        omega) (b.natAbs + 2) (s := (a, b)) ⟨hb, rfl, id⟩ (by show b.natAbs < _; omega)
  obtain ⟨⟨x, y⟩, h1, ⟨h2, h3, h5⟩, h4⟩ := h
  rw [hc] at h4
  have hy : y = 0 := by simpa using h4
  subst hy
  refine ⟨x, h1, ?_, h5⟩
  rw [← h3]
  simp
theorem p_greatest_divisor (a b : Int) : m_greatest_divisor a b = .ok (Int.gcd a b : Int) := by
  unfold m_greatest_divisor
  simp only [M.lt_eq]
  obtain ⟨x, h1, h2, h3⟩ := euclid (c := fun (s1 : Int × Int) => .ok ((!(decide (s1.2 = (0 : Int)))))) (f := fun (s1 : Int × Int) => M.gd ((decide (0 < s1.2))) <| M.ok (s1.2, (s1.1 % s1.2))) (fun s => rfl) (fun s hs => by rw [M.gd_of _ (by simpa using hs)]) (a.natAbs : Int) (b.natAbs : Int) (by omega)
  rw [M.bind_of h1]
  have h4 := h3 (by omega)
  have h5 : Int.gcd (a.natAbs : Int) (b.natAbs : Int) = Int.gcd a b := by simp [Int.gcd]
  rw [h5] at h2
  show M.ok x = _
  rw [show x = (Int.gcd a b : Int) by omega]
theorem p_fraction0 (t : Int) : m_fraction t 0 = .ex "NoFraction" := by
  unfold m_fraction
  rw [if_pos (by simp)]
theorem p_fraction {t b : Int} (h : b ≠ 0) (hl : b.natAbs.log2 < 9000) : m_fraction t b = .ok (ftop t b, fbot t b) := by
  unfold m_fraction
  rw [if_neg (by simpa using h), p_greatest_divisor, M.bind_ok]
  have e1 := fdiv_top t b h
  have e2 := fdiv_bot t b h
  have g := gcd_pos (t := t) h
  have l := log2_mono (gcd_le (t := t) h) hl
  by_cases hs : b < 0
  · rw [if_pos hs] at e1 e2
    have ok : fdivOk (-(Int.gcd t b : Int)) = true := fdivOk_i (by omega) (by rw [Int.natAbs_neg]; exact l)
    rw [if_pos (by simpa using hs)]
    simp only [M.lt_eq, M.bind_ok]
    rw [M.gd_of _ ok, M.gd_of _ ok, e1, e2]
  · rw [if_neg hs] at e1 e2
    have ok : fdivOk (Int.gcd t b : Int) = true := fdivOk_i (by omega) l
    rw [if_neg (by simpa using hs)]
    simp only [M.bind_ok]
    rw [M.gd_of _ ok, M.gd_of _ ok, e1, e2]

theorem nat200 {x y : Int} {m : Nat} (hx : x.natAbs < 2 ^ m) (hy : y.natAbs < 2 ^ m) : (x * y).natAbs < 2 ^ (m + m) := by
  rw [Int.natAbs_mul, Nat.pow_add]
  exact Nat.mul_lt_mul_of_lt_of_lt hx hy
theorem log_9000 {b : Int} (h : b.natAbs < 2 ^ 3000) : b.natAbs.log2 < 9000 := by
  by_cases h0 : b.natAbs = 0
  · rw [h0]; decide
  · have h1 : 2 ^ b.natAbs.log2 ≤ b.natAbs := Nat.log2_self_le h0
    have h2 : 2 ^ b.natAbs.log2 < 2 ^ 3000 := by omega
    have h4 := (Nat.pow_lt_pow_iff_right (by decide)).mp h2
    omega
theorem up_200 {x : Int} {m n : Nat} (h : x.natAbs < 2 ^ m) (l : m ≤ n) : x.natAbs < 2 ^ n := Nat.lt_of_lt_of_le h (Nat.pow_le_pow_right (by decide) l)
theorem ftop_lt' {t b : Int} {m : Nat} (h : t.natAbs < 2 ^ m) : (ftop t b).natAbs < 2 ^ m := by
  unfold ftop
  rw [Int.natAbs_mul]
  have h1 : b.sign.natAbs ≤ 1 := by rw [Int.natAbs_sign]; split <;> omega
  have h2 : (t / (Int.gcd t b : Int)).natAbs ≤ t.natAbs := by
    rw [Int.natAbs_ediv_of_dvd (Int.gcd_dvd_left t b), Int.natAbs_natCast]
    exact Nat.div_le_self _ _
  have h3 := Nat.mul_le_mul h1 h2
  omega
theorem fbot_lt' {t b : Int} {m : Nat} (h : b.natAbs < 2 ^ m) : (fbot t b).natAbs < 2 ^ m := by
  unfold fbot
  rw [← Int.natCast_ediv, Int.natAbs_natCast]
  exact Nat.lt_of_le_of_lt (Nat.div_le_self _ _) h
theorem kmul {x : Int} {k : Int} (h : x.natAbs < 2 ^ 1000) (hk : k.natAbs ≤ 4) : (k * x).natAbs < 2 ^ 1002 := by
  rw [Int.natAbs_mul]
  have := Nat.mul_le_mul hk (Nat.le_of_lt h)
  have e : k.natAbs * x.natAbs ≤ 4 * x.natAbs := Nat.mul_le_mul hk (Nat.le_refl _)
  omega

theorem p_lesser {L : List Nat} {D : Nat} {E : List Nat → En} {kn : List (List Nat × En)} {t near : List Nat} (h1 : near.length = D) {k : Nat} (hk : k < L.length) (hL : L.length ≤ 6)
    (hg : ∀ k : Nat, k < L.length → m_grown_path (L, (D : Int)) kn t (k : Int) = .ok (pl L D E near k (D + 1))) :
    m_lesser_tops (L, (D : Int)) kn t (k : Int) = .ok (sumK (fun k => (newE L D E near k D).2.2.1) k) := by
  unfold m_lesser_tops
  simp only [M.lt_eq]
  rw [M.gd_of _ (rngOk_i (by omega) (by omega) (by omega) (by omega)), Int.toNat_natCast]
  refine bind_rng (fun i => sumK (fun k => (newE L D E near k D).2.2.1) i) rfl (fun i hi => ?_) rfl
  rw [hg i (by omega), M.nox_ok, M.bind_ok, dget_pl h1 i (D + 1) (Nat.le_refl _)]
  have c : ([] : List Nat) = near.take ([] : List Nat).length ∧ ([] : List Nat).length ≤ D ∧ D - ([] : List Nat).length < D + 1 := ⟨by simp, by simp, by simp⟩
  rw [if_pos c]
  rfl

/-! ### worths -/
def oprod : Nat → Nat
  | 0 => 1
  | n + 1 => oprod n * (2 * n + 1)
def wtop (ns : List Nat) : Nat := ns.foldl (fun a n => a * oprod n) 1
def wbot (k : Nat) : Nat → Nat
  | 0 => 1
  | n + 1 => wbot k n * (2 * n + k)
theorem oprod_lt : ∀ {n : Nat}, n ≤ 1000 → oprod n ≤ 2 ^ (11 * n)
  | 0, _ => by decide
  | n + 1, h => by
    show oprod n * (2 * n + 1) ≤ _
    have h1 := oprod_lt (n := n) (by omega)
    have h2 : 2 * n + 1 ≤ 2 ^ 11 := by omega
    have := Nat.mul_le_mul h1 h2
    rw [← Nat.pow_add] at this
    rw [show 11 * (n + 1) = 11 * n + 11 by omega]
    exact this
theorem wbot_lt {k : Nat} (hk : k ≤ 40) : ∀ {n : Nat}, n ≤ 1000 → wbot k n ≤ 2 ^ (11 * n)
  | 0, _ => by show 1 ≤ _; exact Nat.one_le_two_pow
  | n + 1, h => by
    show wbot k n * (2 * n + k) ≤ _
    have h1 := wbot_lt hk (n := n) (by omega)
    have h2 : 2 * n + k ≤ 2 ^ 11 := by omega
    have := Nat.mul_le_mul h1 h2
    rw [← Nat.pow_add] at this
    rw [show 11 * (n + 1) = 11 * n + 11 by omega]
    exact this
theorem wbot_pos {k : Nat} (hk : 0 < k) : ∀ {n : Nat}, 0 < wbot k n
  | 0 => by show 0 < 1; decide
  | n + 1 => Nat.mul_pos (wbot_pos hk) (by omega)
theorem wfold_lt : ∀ (ns : List Nat) (a m : Nat), a ≤ 2 ^ (11 * m) → m + ns.sum ≤ 1000 → ns.foldl (fun a n => a * oprod n) a ≤ 2 ^ (11 * (m + ns.sum))
  | [], a, m, h, _ => by simpa using h
  | n :: ns, a, m, h, hs => by
    rw [List.sum_cons] at hs
    have h1 := Nat.mul_le_mul h (oprod_lt (n := n) (by omega))
    rw [← Nat.pow_add] at h1
    have := wfold_lt ns (a * oprod n) (m + n) (by rw [show 11 * (m + n) = 11 * m + 11 * n by omega]; exact h1) (by omega)
    rw [List.foldl_cons, List.sum_cons, show m + (n + ns.sum) = m + n + ns.sum by omega]
    exact this
def natI (ns : List Nat) : List Int := ns.map fun n : Nat => (n : Int)
theorem natI_sum (ns : List Nat) : (natI ns).sum = ((ns.sum : Nat) : Int) := by
  induction ns with
  | nil => rfl
  | cons n ns ih =>
    show (n : Int) + (natI ns).sum = _
    rw [ih, List.sum_cons, Int.natCast_add]
theorem natI_len (ns : List Nat) : (natI ns).length = ns.length := by unfold natI; simp

/-- one letter more -/
def plus1 (cs : List Nat) (p : Nat) : List Nat := cs.set p (cs.getD p 0 + 1)
theorem fold_mul : ∀ (ns : List Nat) (a : Nat), ns.foldl (fun a n => a * oprod n) a = a * wtop ns
  | [], a => by show a = a * 1; omega
  | n :: ns, a => by
    rw [List.foldl_cons, fold_mul ns (a * oprod n)]
    show a * oprod n * wtop ns = a * ns.foldl (fun a n => a * oprod n) (1 * oprod n)
    rw [fold_mul ns (1 * oprod n), Nat.one_mul, Nat.mul_assoc]
theorem wtop_cons (n : Nat) (ns : List Nat) : wtop (n :: ns) = oprod n * wtop ns := by
  show ns.foldl (fun a n => a * oprod n) (1 * oprod n) = _
  rw [fold_mul, Nat.one_mul]
theorem wtop_plus : ∀ (cs : List Nat) (p : Nat), p < cs.length → wtop (plus1 cs p) = wtop cs * (2 * cs.getD p 0 + 1)
  | c :: cs, 0, _ => by
    show wtop ((c + 1) :: cs) = wtop (c :: cs) * (2 * c + 1)
    rw [wtop_cons, wtop_cons, Nat.mul_right_comm]
    rfl
  | c :: cs, p + 1, h => by
    show wtop (c :: plus1 cs p) = wtop (c :: cs) * (2 * cs.getD p 0 + 1)
    rw [wtop_cons, wtop_cons, wtop_plus cs p (Nat.lt_of_succ_lt_succ h), Nat.mul_assoc]
theorem sum_plus : ∀ (cs : List Nat) (p : Nat), p < cs.length → (plus1 cs p).sum = cs.sum + 1
  | c :: cs, 0, _ => by
    show ((c + 1) :: cs).sum = (c :: cs).sum + 1
    rw [List.sum_cons, List.sum_cons]; omega
  | c :: cs, p + 1, h => by
    show (c :: plus1 cs p).sum = (c :: cs).sum + 1
    rw [List.sum_cons, List.sum_cons, sum_plus cs p (Nat.lt_of_succ_lt_succ h)]; omega
theorem plus_len (cs : List Nat) (p : Nat) : (plus1 cs p).length = cs.length := by unfold plus1; simp
def cou (k : Nat) (ps : List Nat) : List Nat := ps.foldl plus1 (List.replicate k 0)
theorem cou_len : ∀ (ps : List Nat) (cs : List Nat), (ps.foldl plus1 cs).length = cs.length
  | [], _ => rfl
  | p :: ps, cs => by rw [List.foldl_cons, cou_len ps, plus_len]
theorem cou_sum : ∀ (ps : List Nat) (cs : List Nat), (∀ p ∈ ps, p < cs.length) → (ps.foldl plus1 cs).sum = cs.sum + ps.length
  | [], _, _ => rfl
  | p :: ps, cs, h => by
    rw [List.foldl_cons, cou_sum ps _ (fun q hq => by rw [plus_len]; exact h q (List.mem_cons_of_mem _ hq)), sum_plus cs p (h p List.mem_cons_self), List.length_cons]
    omega
theorem cou_take {k : Nat} {ps : List Nat} {j : Nat} (h : j < ps.length) : cou k (ps.take (j + 1)) = plus1 (cou k (ps.take j)) ps[j] := by
  unfold cou
  rw [List.take_succ, List.getElem?_eq_getElem h, List.foldl_append]
  rfl
theorem getD_le_sum : ∀ (cs : List Nat) (p : Nat), cs.getD p 0 ≤ cs.sum
  | [], p => by simp
  | c :: cs, 0 => by show c ≤ _; rw [List.sum_cons]; omega
  | c :: cs, p + 1 => by
    show cs.getD p 0 ≤ _
    have := getD_le_sum cs p
    rw [List.sum_cons]; omega

theorem p_odd_product {n : Nat} (h : n ≤ 100000) : m_odd_product (n : Int) = .ok (oprod n : Int) := by
  unfold m_odd_product
  simp only [M.lt_eq]
  rw [M.gd_of _ (rngOk_i (by omega) (by omega) (by omega) (by omega)), Int.toNat_natCast]
  refine bind_rng (fun j => ((oprod j : Nat) : Int)) rfl (fun i hi => ?_) rfl
  rw [M.gd_of _ (mulOk_r (by omega) (by omega))]
  rw [show oprod (i + 1) = oprod i * (2 * i + 1) from rfl, Int.natCast_mul, Int.natCast_add, Int.natCast_mul]
  rfl
theorem p_worth {ns : List Nat} (hk0 : 0 < ns.length) (hk : ns.length ≤ 40) (hs : ns.sum ≤ 700) : m_worth (natI ns) = .ok (ftop (wtop ns) (wbot ns.length ns.sum), fbot (wtop ns) (wbot ns.length ns.sum)) := by
  unfold m_worth
  simp only [M.lt_eq]
  have key : ∀ (ns : List Nat) (a m : Nat), a ≤ 2 ^ (11 * m) → m + ns.sum ≤ 700 → forM (fun (x1 : Int) (s2 : Int) => M.bind (M.nox (m_odd_product x1)) fun r3 => M.gd (mulOk s2 r3) <| M.ok (s2 * r3)) (natI ns) (a : Int) = .ok ((ns.foldl (fun a n => a * oprod n) a : Nat) : Int) := by
    intro ns
    induction ns with
    | nil => intro a m _ _; rfl
    | cons n ns ih =>
      intro a m h1 h2
      rw [List.sum_cons] at h2
      have ho := oprod_lt (n := n) (by omega)
      have p1 : a * oprod n ≤ 2 ^ (11 * (m + n)) := by
        have := Nat.mul_le_mul h1 ho
        rw [← Nat.pow_add] at this
        rw [show 11 * (m + n) = 11 * m + 11 * n by omega]; exact this
      have b1 : (a : Int).natAbs < 2 ^ 7701 := by
        rw [Int.natAbs_natCast]
        exact Nat.lt_of_le_of_lt h1 ((Nat.pow_lt_pow_iff_right (by decide)).mpr (by omega))
      have b2 : (oprod n : Int).natAbs < 2 ^ 7701 := by
        rw [Int.natAbs_natCast]
        exact Nat.lt_of_le_of_lt ho ((Nat.pow_lt_pow_iff_right (by decide)).mpr (by omega))
      show (M.bind (M.nox (m_odd_product (n : Int))) fun r3 => M.gd (mulOk (a : Int) r3) <| M.ok ((a : Int) * r3)).bind _ = _
      rw [p_odd_product (by omega), M.nox_ok, M.bind_ok, M.gd_of _ (mulOk_i 7701 7701 b1 b2 (by decide) (by decide) (by decide)), M.bind_ok, ← Int.natCast_mul]
      exact ih _ _ p1 (by omega)
  have k1 := key ns 1 0 (by decide) (by omega)
  rw [show ((1 : Nat) : Int) = 1 from rfl] at k1
  rw [M.bind_of k1, natI_sum, natI_len, M.gd_of _ (rngOk_i (by omega) (by omega) (by omega) (by omega)), Int.toNat_natCast]
  refine bind_rng (fun j => ((wbot ns.length j : Nat) : Int)) rfl (fun i hi => ?_) ?_
  rotate_left
  · have hb := wbot_lt hk (n := ns.sum) (by omega)
    have hbp := wbot_pos (k := ns.length) hk0 (n := ns.sum)
    have hlog : (wbot ns.length ns.sum : Int).natAbs.log2 < 9000 := by
      rw [Int.natAbs_natCast]
      exact log2_9000 (m := 8000) (Nat.lt_of_le_of_lt hb ((Nat.pow_lt_pow_iff_right (by decide)).mpr (by omega))) (by decide)
    rw [show ns.foldl (fun a n => a * oprod n) 1 = wtop ns from rfl, p_fraction (by omega) hlog]
    rfl
  · rw [M.gd_of _ (mulOk_r (by omega) (by omega))]
    rw [show wbot ns.length (i + 1) = wbot ns.length i * (2 * i + ns.length) from rfl, Int.natCast_mul, Int.natCast_add, Int.natCast_mul]
    rfl

/-! ### counts, worths and weights, knot by knot -/
abbrev red (p : Int × Int) : Int × Int := (ftop p.1 p.2, fbot p.1 p.2)
theorem sumL_one {f g : Nat → Int} {a : Nat} : ∀ {l : List Nat}, l.Nodup → a ∈ l → g a = f a + 1 → (∀ b ∈ l, b ≠ a → g b = f b) → (l.map g).sum = (l.map f).sum + 1
  | [], _, h, _, _ => by cases h
  | b :: l, hn, h, h1, h2 => by
    rw [List.nodup_cons] at hn
    rw [List.map_cons, List.map_cons, List.sum_cons, List.sum_cons]
    by_cases e : b = a
    · subst e
      have : l.map g = l.map f := List.map_congr_left fun c hc => h2 c (List.mem_cons_of_mem _ hc) (fun q => hn.1 (q ▸ hc))
      rw [this, h1]
      omega
    · have hm : a ∈ l := by
        rcases List.mem_cons.mp h with q | q
        · exact absurd q.symm e
        · exact q
      rw [h2 b List.mem_cons_self e, sumL_one (f := f) (g := g) hn.2 hm h1 fun c hc => h2 c (List.mem_cons_of_mem _ hc)]
      omega
abbrev nats (l : List Int) : List Nat := l.map Int.toNat
theorem nats_sum : ∀ {l : List Int}, (∀ c ∈ l, 0 ≤ c) → (nats l).sum = l.sum.toNat ∧ 0 ≤ l.sum
  | [], _ => ⟨rfl, by simp⟩
  | a :: l, h => by
    obtain ⟨h1, h2⟩ := nats_sum (l := l) fun c hc => h c (List.mem_cons_of_mem _ hc)
    have := h a List.mem_cons_self
    unfold nats at h1 ⊢
    rw [List.map_cons, List.sum_cons, List.sum_cons, h1]
    omega
theorem nats_natI {l : List Int} (h : ∀ c ∈ l, 0 ≤ c) : natI (nats l) = l := by
  unfold natI nats
  rw [List.map_map]
  have : l.map ((fun n : Nat => (n : Int)) ∘ Int.toNat) = l.map id := List.map_congr_left fun c hc => by
    have := h c hc
    show ((c.toNat : Nat) : Int) = c
    omega
  rw [this, List.map_id]
theorem nats_so {e : En} {k : Nat} (hk : k < e.1.length) (h : ∀ c ∈ e.1, 0 ≤ c) : nats (so e k) = plus1 (nats e.1) k := by
  unfold so plus1 nats
  have hg : 0 ≤ e.1.getD k 0 := by
    rw [List.getD_eq_getElem?_getD, List.getElem?_eq_getElem hk]
    exact h _ (List.getElem_mem hk)
  have hd : (e.1.map Int.toNat).getD k 0 = (e.1.getD k 0).toNat := by
    rw [List.getD_eq_getElem?_getD, List.getD_eq_getElem?_getD, List.getElem?_map, List.getElem?_eq_getElem hk]
    rfl
  rw [hd, List.set_eq_take_append_cons_drop, if_pos (by rw [List.length_map]; exact hk), List.map_append, List.map_append, List.map_take, List.map_drop, List.append_assoc]
  congr 1
  show ((e.1.getD k 0 + 1).toNat) :: _ = _
  rw [show (e.1.getD k 0 + 1).toNat = (e.1.getD k 0).toNat + 1 by omega]
  rfl
theorem wtop_zero : ∀ n : Nat, wtop (List.replicate n 0) = 1
  | 0 => rfl
  | n + 1 => by
    rw [List.replicate_succ, wtop_cons, wtop_zero n]
    rfl
theorem zsum : ∀ l : List Nat, (l.map fun _ => (0 : Int)).sum = 0
  | [] => rfl
  | _ :: l => by rw [List.map_cons, List.sum_cons, zsum l]; rfl
structure Fn3 (L : List Nat) (D : Nat) (E : List Nat → En) : Prop where
  fz : ∀ x, (E x).2.2.2 ≤ 512 ^ ((E x).1.sum.toNat * (D + 1))
  fs : ∀ x, x.length < D → (E x).1.sum = (L.map fun a => (E (x ++ [a])).1.sum).sum
  ft : ∀ x, (E x).2.1 = (((wtop (nats (E x).1) : Nat) : Int), ((wbot L.length (E x).1.sum.toNat : Nat) : Int))
section
variable {L : List Nat} {D N : Nat} {E : List Nat → En} {near : List Nat}
theorem fn0 : Fn3 L D (ent L.length []) := by
  have e : ∀ x, ent L.length [] x = (List.replicate L.length 0, (1, 1), (1, 1)) := fun x => rfl
  have es : (List.replicate L.length (0 : Int)).sum = 0 := by simp
  refine ⟨fun x => ?_, fun x _ => ?_, fun x => ?_⟩
  · rw [e, es]; simp
  · show (List.replicate L.length (0 : Int)).sum = (L.map fun _ => (List.replicate L.length (0 : Int)).sum).sum
    rw [es]
    exact (zsum L).symm
  · rw [e]
    simp only [es]
    have : nats (List.replicate L.length (0 : Int)) = List.replicate L.length 0 := by unfold nats; rw [List.map_replicate]; rfl
    rw [this, wtop_zero]
    rfl
theorem fn_step (h3 : Fn3 L D E) (hI : Ckn L D N E) (hn : N ≤ 120) (hL : L.length ≤ 6) (hL1 : 0 < L.length) (hnd : L.Nodup) (h1 : near.length = D) (h2 : ∀ c ∈ near, c ∈ L) {k : Nat} (hk : k < L.length) {E' : List Nat → En}
    (hE : ∀ q, E' q = if q = near.take q.length ∧ q.length ≤ D then newE L D E near k (D - q.length) else E q) : Fn3 L D E' := by
  have cs : ∀ q, (∃ j, j ≤ D ∧ near.take (D - j) = q ∧ q.length = D - j ∧ E' q = newE L D E near k j) ∨ (¬ (q = near.take q.length ∧ q.length ≤ D) ∧ E' q = E q) := fun q => by
    by_cases e : q = near.take q.length ∧ q.length ≤ D
    · left
      refine ⟨D - q.length, by omega, ?_, by omega, by rw [hE, if_pos e]⟩
      rw [show D - (D - q.length) = q.length by omega]
      exact e.1.symm
    · right
      exact ⟨e, by rw [hE, if_neg e]⟩
  have rt := ratio hI hn hL hL1 hnd h1 h2
  have lenx : ∀ x, k < (E x).1.length := fun x => by rw [hI.len]; exact hk
  have ss : ∀ x, (so (E x) k).sum = (E x).1.sum + 1 := fun x => by unfold so; exact so_sum (lenx x)
  have s0 : ∀ x, 0 ≤ (E x).1.sum := fun x => (nats_sum (hI.nn x)).2
  refine ⟨fun x => ?_, fun x hx => ?_, fun x => ?_⟩
  · rcases cs x with ⟨j, hj, e1, _, e2⟩ | ⟨_, e2⟩
    · obtain ⟨ρ, r0, r1, r2, _⟩ := rt j hj
      rw [e2, newE_1, (r2 k hk).1, e1, ss]
      have hz := h3.fz x
      have hp : (0 : Int) ≤ (E x).2.2.2 := Int.le_of_lt (Int.lt_of_lt_of_le (hI.p1 x) (hI.p2 x))
      have a1 : ρ * (E x).2.2.2 ≤ 512 ^ (D + 1) * (E x).2.2.2 := Int.mul_le_mul_of_nonneg_right (Int.le_trans r1 (p512 (by omega))) hp
      have a2 : (512 : Int) ^ (D + 1) * (E x).2.2.2 ≤ 512 ^ (D + 1) * 512 ^ ((E x).1.sum.toNat * (D + 1)) := Int.mul_le_mul_of_nonneg_left hz (Int.le_of_lt (Int.pow_pos (by decide)))
      rw [← Int.pow_add, show D + 1 + (E x).1.sum.toNat * (D + 1) = ((E x).1.sum + 1).toNat * (D + 1) by
        have := s0 x
        rw [show ((E x).1.sum + 1).toNat = (E x).1.sum.toNat + 1 by omega, Nat.succ_mul, Nat.add_comm]] at a2
      exact Int.le_trans a1 a2
    · rw [e2]; exact h3.fz x
  · have ne : ∀ a, x ++ [a] = near.take (x ++ [a]).length → x = near.take x.length ∧ near[x.length]? = some a := fun a e => by
      rw [List.length_append, List.length_singleton] at e
      have hlt : x.length < near.length := by omega
      rw [List.take_succ, List.getElem?_eq_getElem hlt] at e
      have e3 : x.length = (near.take x.length).length := by rw [List.length_take]; omega
      obtain ⟨e4, e5⟩ := List.append_inj e e3
      refine ⟨e4, ?_⟩
      rw [List.getElem?_eq_getElem hlt]
      have := List.cons.inj e5
      rw [this.1]
    rcases cs x with ⟨j, hj, e1, e3, e2⟩ | ⟨e0, e2⟩
    · have hlt : x.length < near.length := by omega
      obtain ⟨a, ha⟩ : ∃ a, near[x.length] = a := ⟨_, rfl⟩
      have haL : a ∈ L := h2 a (ha ▸ List.getElem_mem hlt)
      have hx2 : x = near.take x.length := by rw [e3]; exact e1.symm
      have hy : x ++ [a] = near.take (x ++ [a]).length := by
        rw [List.length_append, List.length_singleton, List.take_succ, List.getElem?_eq_getElem hlt, ha, ← hx2]
        rfl
      rw [e2, newE_1, e1, ss, h3.fs x hx]
      refine (sumL_one hnd haL ?_ fun b _ hb => ?_).symm
      · rw [hE, if_pos ⟨hy, by rw [List.length_append, List.length_singleton]; omega⟩, newE_1]
        have e6 : near.take (D - (D - (x ++ [a]).length)) = x ++ [a] := by
          rw [show D - (D - (x ++ [a]).length) = (x ++ [a]).length by rw [List.length_append, List.length_singleton]; omega]
          exact hy.symm
        rw [e6, ss]
      · rw [hE, if_neg]
        rintro ⟨q1, _⟩
        have := (ne b q1).2
        rw [List.getElem?_eq_getElem hlt, ha] at this
        exact hb (Option.some.inj this).symm
    · rw [e2, h3.fs x hx]
      congr 1
      refine List.map_congr_left fun a _ => ?_
      rw [hE, if_neg]
      rintro ⟨q1, _⟩
      exact e0 ⟨(ne a q1).1, by omega⟩
  · rcases cs x with ⟨j, hj, e1, _, e2⟩ | ⟨_, e2⟩
    · rw [e2, newE_1, newE_2, e1, ss]
      have f := h3.ft x
      have l1 : k < (nats (E x).1).length := by unfold nats; rw [List.length_map]; exact lenx x
      have hw := wtop_plus (nats (E x).1) k l1
      have hd : (nats (E x).1).getD k 0 = ((E x).1.getD k 0).toNat := by
        unfold nats
        rw [List.getD_eq_getElem?_getD, List.getD_eq_getElem?_getD, List.getElem?_map, List.getElem?_eq_getElem (lenx x)]
        rfl
      have g0 := getD_nn hI x k
      have z := s0 x
      unfold ow
      rw [nats_so (lenx x) (hI.nn x), hw, hd, f, hI.len, show ((E x).1.sum + 1).toNat = (E x).1.sum.toNat + 1 by omega]
      show (_, _) = ((_ : Int), ((wbot L.length (E x).1.sum.toNat * (2 * (E x).1.sum.toNat + L.length) : Nat) : Int))
      rw [Int.natCast_mul, Int.natCast_mul, Int.natCast_add, Int.natCast_add, Int.natCast_mul, Int.natCast_mul, Int.toNat_of_nonneg g0, Int.toNat_of_nonneg z]
      rfl
    · rw [e2]; exact h3.ft x
end
theorem fn_ok {L : List Nat} {D : Nat} (F : Fr L D) (t : List Nat) (hn : t.length ≤ 121) (htL : ∀ c ∈ t, c ∈ L) : Fn3 L D (eT L D t) := by
  revert hn htL
  refine snoc_ind (P := fun t => t.length ≤ 121 → (∀ c ∈ t, c ∈ L) → Fn3 L D (eT L D t)) (fun _ _ => fn0) (fun t c ih hn htL => ?_) _ t rfl
  rw [List.length_append, List.length_singleton] at hn
  have h1 : ∀ d ∈ t, d ∈ L := fun d hd => htL d (List.mem_append_left _ hd)
  have hk : L.idxOf c < L.length := List.idxOf_lt_length_of_mem (htL c (by simp))
  exact fn_step (ih (by omega) h1) (kn_ok F t (by omega) h1).1 (by omega) F.l6 F.l1 F.nd near_len (near_mem F.l1 h1) hk (eT_snoc L D t c)
/-! ### the counts of all knots -/
theorem dget_knT (L : List Nat) (D : Nat) (t : List Nat) (c : Nat) (q : List Nat) : dget (knT L D (t ++ [c])) q = if q = (nearL L D t).take q.length ∧ q.length ≤ D then some (newE L D (eT L D t) (nearL L D t) (L.idxOf c) (D - q.length)) else dget (knT L D t) q := by
  rw [knT_snoc, dget_merge _ _ _ (pl_nodup near_len _), dget_pl near_len _ (D + 1) (by omega)]
  by_cases e : q = (nearL L D t).take q.length ∧ q.length ≤ D
  · have c : q = (nearL L D t).take q.length ∧ q.length ≤ D ∧ D - q.length < D + 1 := ⟨e.1, e.2, by omega⟩
    rw [if_pos c, if_pos e]
  · have c : ¬ (q = (nearL L D t).take q.length ∧ q.length ≤ D ∧ D - q.length < D + 1) := fun c => e ⟨c.1, c.2.1⟩
    rw [if_neg c, if_neg e]
theorem dget_dset {α : Type} {k : List Nat} {l' : List α} {q : List Nat} : ∀ T : List (List Nat × List α), dget (dset T k l') q = if k = q then (dget T k).map (fun _ => l') else dget T q
  | [] => by
    show (none : Option (List α)) = if k = q then (none : Option (List α)).map (fun _ => l') else none
    split <;> rfl
  | p :: T => by
    unfold dset
    by_cases c : p.1 = k
    · rw [if_pos c, dget_cons, dget_cons, dget_cons, if_pos c]
      by_cases e : k = q
      · rw [if_pos e, if_pos (c.trans e)]; rfl
      · rw [if_neg e, if_neg (fun z => e (c.symm.trans z))]
        rw [if_neg (fun z => e (c.symm.trans z))]
    · rw [if_neg c, dget_cons, dget_dset T, dget_cons, dget_cons, if_neg c]
      by_cases e : k = q
      · rw [if_pos e, if_pos e, if_neg (fun z => c (z.trans e.symm))]
      · rw [if_neg e, if_neg e]
theorem dset_keys {α : Type} {k : List Nat} {l' : List α} : ∀ T : List (List Nat × List α), (dset T k l').map (·.1) = T.map (·.1)
  | [] => rfl
  | p :: T => by
    unfold dset
    by_cases c : p.1 = k
    · rw [if_pos c]; rfl
    · rw [if_neg c, List.map_cons, List.map_cons, dset_keys T]
theorem mem_keys {α : Type} {k : List Nat} {l : List (List Nat × α)} : k ∈ l.map (·.1) ↔ (dget l k).isSome = true := by
  constructor
  · intro h
    cases e : dget l k with
    | some v => rfl
    | none =>
      exfalso
      have : ∀ l : List (List Nat × α), k ∈ l.map (·.1) → dget l k ≠ none := by
        intro l
        induction l with
        | nil => intro h; cases h
        | cons p l ih =>
          intro h
          rw [dget_cons]
          by_cases c : p.1 = k
          · rw [if_pos c]; exact fun z => nomatch z
          · rw [if_neg c]
            rcases List.mem_cons.mp h with z | z
            · exact absurd z.symm c
            · exact ih z
      exact this l h e
  · intro h
    by_cases c : k ∈ l.map (·.1)
    · exact c
    · rw [dget_none l c] at h; cases h
theorem p_allc {L : List Nat} {D : Nat} {t : List Nat} (F : Fr L D) (hn : t.length ≤ 121) (htL : ∀ c ∈ t, c ∈ L) :
    ∃ T, m_all_counts (L, (D : Int)) t = .ok T ∧ (T.map (·.1)).Nodup ∧ (∀ q, dget T q = (dget (knT L D t) q).map (·.1)) ∧ T.length ≤ t.length * 7 := by
  have e1 : lenOk t = true := lenOk_i (by omega)
  have hD := F.d6
  have h6 := F.l6
  unfold m_all_counts
  simp only [M.lt_eq]
  rw [M.gd_of _ e1, M.gd_of _ (rngOk_i (by omega) (by omega) (by omega) (by omega)), Int.toNat_natCast]
  refine bind_forN (s0 := ([] : List (List Nat × List Int))) (Q := fun m => ∃ T, m = .ok T ∧ (T.map (·.1)).Nodup ∧ (∀ q, dget T q = (dget (knT L D t) q).map (·.1)) ∧ T.length ≤ t.length * 7) (fun (i : Nat) (T : List (List Nat × List Int)) => (T.map (·.1)).Nodup ∧ (∀ q, dget T q = (dget (knT L D (t.take i)) q).map (·.1)) ∧ T.length ≤ i * 7) (by exact ⟨by simp, fun q => rfl, by simp⟩) (fun i x hx T hT => ?_) (fun T hT => ?_)
  · obtain ⟨a1, a2, a3⟩ := hT
    have hi : i < t.length := by have := lt_of_get hx; rwa [rng_len] at this
    have hx2 : x = (i : Int) := by
      rw [List.getElem?_eq_getElem (by rw [rng_len]; exact hi), rng_get] at hx
      have := Option.some.inj hx
      omega
    subst hx2
    obtain ⟨c, hc⟩ : ∃ c, t[i] = c := ⟨_, rfl⟩
    have hcL : c ∈ L := hc ▸ htL _ (List.getElem_mem hi)
    have htk : ∀ c ∈ t.take i, c ∈ L := fun c hc => htL c (List.mem_of_mem_take hc)
    have hI := (kn_ok F (t.take i) (by rw [List.length_take]; omega) htk).1
    have hsn : t.take (i + 1) = t.take i ++ [c] := by rw [List.take_succ, List.getElem?_eq_getElem hi, hc]; rfl
    rw [p_elders F.l1 (by omega) (by omega) (by omega) (by omega) htL, M.bind_ok, M.bind_ok, M.gd_of _ (rngOk_i (by omega) (by omega) (by omega) (by omega))]
    have dk := dget_knT L D (t.take i) c
    rw [← hsn] at dk
    have hE : ∀ q, eT L D (t.take i) q = (dget (knT L D (t.take i)) q).getD (List.replicate L.length 0, (1, 1), (1, 1)) := fun q => rfl
    have nl := near_len (L := L) (D := D) (t := t.take i)
    generalize nearL L D (t.take i) = near at *
    generalize hEE : eT L D (t.take i) = E at *
    obtain ⟨k, hk⟩ : ∃ k, L.idxOf c = k := ⟨_, rfl⟩
    have hkl : k < L.length := hk ▸ List.idxOf_lt_length_of_mem hcL
    rw [hk] at dk
    rw [show ((D : Int) + 1).toNat = D + 1 by omega]
    refine bind_forN (Q := fun m => ∃ T', m = .ok T' ∧ (T'.map (·.1)).Nodup ∧ (∀ q, dget T' q = (dget (knT L D (t.take (i + 1))) q).map (·.1)) ∧ T'.length ≤ (i + 1) * 7) (fun (s : Nat) (S : List (List Nat × List Int)) => (S.map (·.1)).Nodup ∧ (∀ q, dget S q = if q = near.take q.length ∧ q.length < s then some (so (E q) k) else dget T q) ∧ S.length ≤ T.length + s) ⟨a1, fun q => by rw [if_neg (by omega)], by omega⟩ (fun s y hy S hS => ?_) (fun S hS => ?_)
    · obtain ⟨b1, b2, b3⟩ := hS
      have hs : s < D + 1 := by have := lt_of_get hy; rwa [rng_len] at this
      have hy2 : y = (s : Int) := by
        rw [List.getElem?_eq_getElem (by rw [rng_len]; exact hs), rng_get] at hy
        have := Option.some.inj hy
        omega
      subst hy2
      have l1 : lenOk near = true := lenOk_i (by omega)
      obtain ⟨p, hp⟩ : ∃ p, near.take s = p := ⟨_, rfl⟩
      have hpl : p.length = s := by rw [← hp, List.length_take]; omega
      have hcut : cut near none (some (s : Int)) = p := by rw [cut_to (by omega), Int.toNat_natCast, hp]
      have hS0 : dget S p = dget T p := by rw [b2, if_neg (by omega)]
      rw [hcut]
      obtain ⟨S', hif, c1, c2, c3⟩ : ∃ S', (if (!dhas S p) = true then (
            M.gd (lenLt L) <|
            M.bind (M.nox (compM (fun _ => .ok true) (fun letter_ => .ok ((0 : Int))) L)) fun r11 =>
            M.gd (lenOk near) <|
            M.gd (lenLt S) <|
            M.gd (!dhas S p) <|
            .ok (S ++ [(p, r11)])) else (.ok S)) = .ok S' ∧ (S'.map (·.1)).Nodup ∧ (∀ q, dget S' q = if p = q then some (E p).1 else dget S q) ∧ S'.length ≤ S.length + 1 := by
        rw [dhas_is]
        cases e : dget S p with
        | none =>
          have e0 : dget (knT L D (t.take i)) p = none := by
            rw [hS0, a2] at e
            cases z : dget (knT L D (t.take i)) p with
            | none => rfl
            | some v => rw [z] at e; cases e
          rw [if_pos (by rfl), M.gd_of _ (lenLt_i (by omega)), compM_map (k := fun _ => (0 : Int)) (fun _ _ => rfl) (fun _ _ => rfl), M.nox_ok, M.bind_ok, M.gd_of _ l1, M.gd_of _ (lenLt_i (by omega)), M.gd_of _ (by rfl)]
          have hz : L.map (fun _ => (0 : Int)) = (E p).1 := by
            rw [hE, e0]
            show L.map _ = List.replicate L.length 0
            rw [List.map_const']
          refine ⟨_, rfl, ?_, fun q => ?_, by simp⟩
          · rw [List.map_append, List.nodup_append]
            refine ⟨b1, by simp, fun a ha b hb z => ?_⟩
            have hb2 : b = p := by simpa using hb
            have h9 := mem_keys.mp ha
            rw [z, hb2, e] at h9
            cases h9
          · rw [dget_app, hz]
            by_cases h : p = q
            · subst h; rw [e, if_pos rfl]
            · rw [if_neg h, if_neg h]
              cases dget S q with
              | none => rfl
              | some w => rfl
        | some v =>
          rw [if_neg (by simp)]
          refine ⟨S, rfl, b1, fun q => ?_, by omega⟩
          by_cases h : p = q
          · subst h
            rw [if_pos rfl, e]
            rw [hS0, a2] at e
            obtain ⟨w, w1, w2⟩ := Option.map_eq_some_iff.mp e
            rw [hE, w1, ← w2]
            rfl
          · rw [if_neg h]
      have hfnd : fndX L [c] = (k : Int) := by rw [fndX_one hcL, hk]
      have hkE : k < (E p).1.length := by rw [hI.len]; exact hkl
      have hset : setI (E p).1 (k : Int) ((E p).1[k] + 1) = some (so (E p) k) := by
        rw [setI_n hkE]
        unfold so
        rw [List.set_eq_take_append_cons_drop, if_pos hkE, List.getD_eq_getElem?_getD, List.getElem?_eq_getElem hkE, List.append_assoc]
        rfl
      rw [M.gd_of _ l1, hif, M.bind_ok, M.gd_of _ l1, c2, if_pos rfl, M.ofO_some, M.bind_ok, M.gd_of _ e1, atI_n hi, hc, M.ofO_some, M.bind_ok, hfnd, M.gd_of _ (decide_eq_true (by omega)), atI_n hkE, M.ofO_some, M.bind_ok, hset, M.ofO_some, M.bind_ok]
      refine ⟨_, rfl, by rw [dset_keys]; exact c1, fun q => ?_, ?_⟩
      · rw [dget_dset, c2, if_pos rfl]
        by_cases h : p = q
        · subst h
          rw [if_pos rfl, if_pos ⟨by rw [hpl]; exact hp.symm, by omega⟩]
          rfl
        · rw [if_neg h, c2, if_neg h, b2]
          by_cases h2 : q = near.take q.length ∧ q.length < s
          · rw [if_pos h2, if_pos ⟨h2.1, by omega⟩]
          · rw [if_neg h2, if_neg]
            rintro ⟨g1, g2⟩
            by_cases g3 : q.length = s
            · rw [g3, hp] at g1; exact h g1.symm
            · exact h2 ⟨g1, by omega⟩
      · have : (dset S' p (so (E p) k)).length = S'.length := by
          have := congrArg List.length (dset_keys (k := p) (l' := so (E p) k) S')
          rwa [List.length_map, List.length_map] at this
        omega
    · rw [rng_len] at hS
      obtain ⟨b1, b2, b3⟩ := hS
      refine ⟨_, rfl, b1, fun q => ?_, by omega⟩
      rw [b2, dk]
      by_cases h : q = near.take q.length ∧ q.length ≤ D
      · rw [if_pos h, if_pos ⟨h.1, by omega⟩, Option.map_some, newE_1, show D - (D - q.length) = q.length by omega, ← h.1]
      · rw [if_neg h, if_neg (fun z => h ⟨z.1, by omega⟩), a2]
  · rw [rng_len] at hT
    obtain ⟨a1, a2, a3⟩ := hT
    rw [List.take_length] at a2
    exact ⟨T, rfl, a1, a2, a3⟩

end B
namespace B
open PySem PySem.Spec PyProof.Rows L2
/-! ### fractions in lowest terms are one -/
theorem dvd_cop {q p r : Int} (g : Int.gcd q p = 1) (h : q ∣ p * r) : q ∣ r := by
  rw [← Int.natAbs_dvd_natAbs] at h ⊢
  rw [Int.natAbs_mul] at h
  exact Nat.Coprime.dvd_of_dvd_mul_left g h
theorem red_eq {a b c d : Int} (hb : 0 < b) (hd : 0 < d) (h : a * d = c * b) : red (a, b) = red (c, d) := by
  have c1 := f_cross a b
  have c2 := f_cross c d
  have g1 := f_coprime a b (by omega)
  have g2 := f_coprime c d (by omega)
  have p1 := fbot_pos a b (by omega)
  have p2 := fbot_pos c d (by omega)
  show (ftop a b, fbot a b) = (ftop c d, fbot c d)
  generalize ftop a b = p at *
  generalize fbot a b = q at *
  generalize ftop c d = p' at *
  generalize fbot c d = q' at *
  have e : p * q' = p' * q := by
    refine Int.eq_of_mul_eq_mul_right (a := b * d) (by have := Int.mul_pos hb hd; omega) ?_
    have e1 : p * q' * (b * d) = p * b * q' * d := by grind
    have e2 : p' * q * (b * d) = p' * d * q * b := by grind
    rw [e1, e2, c1, c2]
    have e3 : a * q * q' * d = a * d * (q * q') := by grind
    have e4 : c * q' * q * b = c * b * (q * q') := by grind
    rw [e3, e4, h]
  have d1 : q ∣ q' := by
    have : q ∣ p * q' := ⟨p', by rw [e]; exact Int.mul_comm _ _⟩
    exact dvd_cop (by rw [Int.gcd_comm]; exact g1) this
  have d2 : q' ∣ q := by
    have : q' ∣ p' * q := ⟨p, by rw [← e]; exact Int.mul_comm _ _⟩
    exact dvd_cop (by rw [Int.gcd_comm]; exact g2) this
  have l1 := Int.le_of_dvd p2 d1
  have l2 := Int.le_of_dvd p1 d2
  have eq : q = q' := by omega
  subst eq
  have : p = p' := Int.eq_of_mul_eq_mul_right (by omega) e
  rw [this]
theorem red_pos {a b : Int} (hb : 0 < b) : 0 < (red (a, b)).2 := fbot_pos a b (by omega)
theorem red_one : red (1, 1) = (1, 1) := by decide
theorem ftop_pos {a b : Int} (ha : 0 < a) (hb : 0 < b) : 0 < ftop a b := by
  have c := f_cross a b
  have p := fbot_pos a b (by omega)
  rcases Int.lt_or_le 0 (ftop a b) with q | q
  · exact q
  · have := Int.mul_le_mul_of_nonneg_right q (Int.le_of_lt hb)
    have := Int.mul_pos ha p
    omega
theorem mulZ {x y : Int} {m n : Nat} (hx : x.natAbs < 2 ^ m) (hy : y.natAbs < 2 ^ n) : (x * y).natAbs < 2 ^ (m + n) := mulnat hx hy
theorem p_times {a0 a1 b0 b1 : Int} {A B Z : Nat} (hA : 0 < A) (hB : 0 < B) (hAB : A + B ≤ 100000) (hZ : Z ≤ 9000) (za0 : a0.natAbs < 2 ^ A) (za1 : a1.natAbs < 2 ^ A) (zb0 : b0.natAbs < 2 ^ B) (zb1 : b1.natAbs < 2 ^ B) (h1 : 0 < a1) (h2 : 0 < b1) (hz : (a1 * b1).natAbs < 2 ^ Z) :
    m_times (a0, a1) (b0, b1) = .ok (red (a0 * b0, a1 * b1)) := by
  unfold m_times
  have p := Int.mul_pos h1 h2
  dsimp only
  rw [M.gd_of _ (mulOk_i A B za0 zb0 hA hB (by omega)), M.gd_of _ (mulOk_i A B za1 zb1 hA hB (by omega)), p_fraction (by omega) (log2_9000 hz hZ), M.bind_ok]
theorem p_plusAB {a0 a1 b0 b1 : Int} {A B : Nat} (hA : 0 < A) (hB : 0 < B) (hAB : A + B ≤ 9000) (za0 : a0.natAbs < 2 ^ A) (za1 : a1.natAbs < 2 ^ A) (zb0 : b0.natAbs < 2 ^ B) (zb1 : b1.natAbs < 2 ^ B) (h1 : 0 < a1) (h2 : 0 < b1) :
    m_plus (a0, a1) (b0, b1) = .ok (red (a0 * b1 + b0 * a1, a1 * b1)) := by
  unfold m_plus
  have p := Int.mul_pos h1 h2
  have lg := log2_9000 (mulZ za1 zb1) hAB
  dsimp only
  rw [M.gd_of _ (mulOk_i A B za0 zb1 hA hB (by omega)), M.gd_of _ (mulOk_i B A zb0 za1 hB hA (by omega)), M.gd_of _ (mulOk_i A B za1 zb1 hA hB (by omega)), p_fraction (by omega) lg, M.bind_ok]
theorem p_half {a0 a1 : Int} {A : Nat} (hA : A + 2 ≤ 9000) (za1 : a1.natAbs < 2 ^ A) (h1 : 0 < a1) : m_half (a0, a1) = .ok (red (a0, 2 * a1)) := by
  unfold m_half
  have lg := log2_9000 (mulZ (m := 2) (show (2 : Int).natAbs < 2 ^ 2 by decide) za1) (by omega)
  dsimp only
  rw [p_fraction (by omega) lg, M.bind_ok]
theorem fbot_le {t b : Int} (h : 0 < b) : fbot t b ≤ b := by
  unfold fbot
  rw [show (b.natAbs : Int) = b by omega]
  exact Int.ediv_le_self _ (Int.le_of_lt h)
theorem red_mul {P Q u v : Int} (hQ : 0 < Q) (hv : 0 < v) : red ((red (P, Q)).1 * (red (u, v)).1, (red (P, Q)).2 * (red (u, v)).2) = red (P * u, Q * v) := by
  refine red_eq (Int.mul_pos (red_pos hQ) (red_pos hv)) (Int.mul_pos hQ hv) ?_
  have c1 := f_cross P Q
  have c2 := f_cross u v
  show ftop P Q * ftop u v * (Q * v) = P * u * (fbot P Q * fbot u v)
  have e1 : ftop P Q * ftop u v * (Q * v) = ftop P Q * Q * (ftop u v * v) := by grind
  rw [e1, c1, c2]
  grind
theorem red_add {P Q u v : Int} (hQ : 0 < Q) (hv : 0 < v) : red ((red (P, Q)).1 * (red (u, v)).2 + (red (u, v)).1 * (red (P, Q)).2, (red (P, Q)).2 * (red (u, v)).2) = red (P * v + u * Q, Q * v) := by
  refine red_eq (Int.mul_pos (red_pos hQ) (red_pos hv)) (Int.mul_pos hQ hv) ?_
  have c1 := f_cross P Q
  have c2 := f_cross u v
  show (ftop P Q * fbot u v + ftop u v * fbot P Q) * (Q * v) = (P * v + u * Q) * (fbot P Q * fbot u v)
  have e1 : (ftop P Q * fbot u v + ftop u v * fbot P Q) * (Q * v) = ftop P Q * Q * (v * fbot u v) + ftop u v * v * (Q * fbot P Q) := by grind
  rw [e1, c1, c2]
  grind
theorem red_half {P Q : Int} (hQ : 0 < Q) : red ((red (P, Q)).1, 2 * (red (P, Q)).2) = red (P, 2 * Q) := by
  have h := red_pos (a := P) hQ
  refine red_eq (by omega) (by omega) ?_
  have c1 := f_cross P Q
  show ftop P Q * (2 * Q) = P * (2 * fbot P Q)
  have e1 : ftop P Q * (2 * Q) = 2 * (ftop P Q * Q) := by grind
  rw [e1, c1]
  grind
theorem p_timesR {P Q u v : Int} {A B Z : Nat} (hA : 0 < A) (hB : 0 < B) (hAB : A + B ≤ 100000) (hZ : Z ≤ 9000) (za0 : P.natAbs < 2 ^ A) (za1 : Q.natAbs < 2 ^ A) (zb0 : u.natAbs < 2 ^ B) (zb1 : v.natAbs < 2 ^ B) (h1 : 0 < Q) (h2 : 0 < v) (hz : (Q * v).natAbs < 2 ^ Z) :
    m_times (red (P, Q)) (red (u, v)) = .ok (red (P * u, Q * v)) := by
  rw [← red_mul h1 h2]
  have p1 := red_pos (a := P) h1
  have p2 := red_pos (a := u) h2
  have hle : (red (P, Q)).2 * (red (u, v)).2 ≤ Q * v := Int.mul_le_mul (fbot_le h1) (fbot_le h2) (Int.le_of_lt p2) (Int.le_of_lt h1)
  have hp := Int.mul_pos p1 p2
  have hz' : ((red (P, Q)).2 * (red (u, v)).2).natAbs < 2 ^ Z := by omega
  exact p_times hA hB hAB hZ (ftop_lt' za0) (fbot_lt' za1) (ftop_lt' zb0) (fbot_lt' zb1) p1 p2 hz'
theorem p_plusR {P Q u v : Int} {A B : Nat} (hA : 0 < A) (hB : 0 < B) (hAB : A + B ≤ 9000) (za0 : P.natAbs < 2 ^ A) (za1 : Q.natAbs < 2 ^ A) (zb0 : u.natAbs < 2 ^ B) (zb1 : v.natAbs < 2 ^ B) (h1 : 0 < Q) (h2 : 0 < v) :
    m_plus (red (P, Q)) (red (u, v)) = .ok (red (P * v + u * Q, Q * v)) := by
  rw [← red_add h1 h2]
  exact p_plusAB hA hB hAB (ftop_lt' za0) (fbot_lt' za1) (ftop_lt' zb0) (fbot_lt' zb1) (red_pos h1) (red_pos h2)
theorem p_halfR {P Q : Int} {A : Nat} (hA : A + 2 ≤ 9000) (za1 : Q.natAbs < 2 ^ A) (h1 : 0 < Q) : m_half (red (P, Q)) = .ok (red (P, 2 * Q)) := by
  rw [← red_half h1]
  exact p_half hA (fbot_lt' za1) (red_pos h1)
/-! ### worths and weights of all knots -/
section
variable {L : List Nat} {D N : Nat} {E : List Nat → En}
theorem p_worthE (hI : Ckn L D N E) (h3 : Fn3 L D E) (hL : 0 < L.length) (h6 : L.length ≤ 6) (hn : N ≤ 121) (q : List Nat) : m_worth (E q).1 = .ok (red (E q).2.1) := by
  have nn := hI.nn q
  obtain ⟨s1, s2⟩ := nats_sum nn
  have hs := hI.sum q
  have e := nats_natI nn
  have hl : (nats (E q).1).length = L.length := by unfold nats; rw [List.length_map, hI.len]
  have hp := p_worth (ns := nats (E q).1) (by omega) (by omega) (by omega)
  rw [e, hl, s1] at hp
  rw [hp, h3.ft q]
theorem bots_le (hI : Ckn L D N E) (h3 : Fn3 L D E) (x : List Nat) : ∀ l : List Nat, prodL (fun a => (E (x ++ [a])).2.2.2) l ≤ 512 ^ ((l.map fun a => (E (x ++ [a])).1.sum).sum.toNat * (D + 1)) ∧ 0 ≤ (l.map fun a => (E (x ++ [a])).1.sum).sum
  | [] => by
    show (1 : Int) ≤ _ ∧ _
    simp
  | a :: l => by
    obtain ⟨i1, i2⟩ := bots_le hI h3 x l
    have s2 := (nats_sum (hI.nn (x ++ [a]))).2
    have hz := h3.fz (x ++ [a])
    have hp : (0 : Int) ≤ (E (x ++ [a])).2.2.2 := Int.le_of_lt (Int.lt_of_lt_of_le (hI.p1 _) (hI.p2 _))
    rw [List.map_cons, List.sum_cons]
    refine ⟨?_, by omega⟩
    show (E (x ++ [a])).2.2.2 * prodL (fun a => (E (x ++ [a])).2.2.2) l ≤ _
    have a1 := Int.mul_le_mul_of_nonneg_left i1 hp
    have a2 : (E (x ++ [a])).2.2.2 * 512 ^ ((l.map fun a => (E (x ++ [a])).1.sum).sum.toNat * (D + 1)) ≤ 512 ^ ((E (x ++ [a])).1.sum.toNat * (D + 1)) * 512 ^ ((l.map fun a => (E (x ++ [a])).1.sum).sum.toNat * (D + 1)) := Int.mul_le_mul_of_nonneg_right hz (Int.le_of_lt (Int.pow_pos (by decide)))
    rw [← Int.pow_add, ← Nat.add_mul, show (E (x ++ [a])).1.sum.toNat + (l.map fun a => (E (x ++ [a])).1.sum).sum.toNat = ((E (x ++ [a])).1.sum + (l.map fun a => (E (x ++ [a])).1.sum).sum).toNat by omega] at a2
    exact Int.le_trans a1 a2
theorem sum_app (f : Nat → Int) (l m : List Nat) : ((l ++ m).map f).sum = (l.map f).sum + (m.map f).sum := by rw [List.map_append, List.sum_append]
/-- the product of some of the branches' bottoms -/
theorem bots_take (hI : Ckn L D N E) (h3 : Fn3 L D E) (hz : N * (D + 1) ≤ 700) {x : List Nat} (hx : x.length < D) (i : Nat) : prodL (fun a => (E (x ++ [a])).2.2.2) (L.take i) ≤ 512 ^ (N * (D + 1)) := by
  obtain ⟨i1, i2⟩ := bots_le hI h3 x (L.take i)
  have j2 := (bots_le hI h3 x (L.drop i)).2
  have e := sum_app (fun a => (E (x ++ [a])).1.sum) (L.take i) (L.drop i)
  rw [List.take_append_drop, ← h3.fs x hx] at e
  have hs := hI.sum x
  exact Int.le_trans i1 (p512 (Nat.mul_le_mul_right _ (by omega)))
theorem tops_le (hI : Ckn L D N E) (x : List Nat) : ∀ l : List Nat, 0 < prodL (fun a => (E (x ++ [a])).2.2.1) l ∧ prodL (fun a => (E (x ++ [a])).2.2.1) l ≤ prodL (fun a => (E (x ++ [a])).2.2.2) l
  | [] => by show (0 : Int) < 1 ∧ (1 : Int) ≤ 1; decide
  | a :: l => by
    obtain ⟨i1, i2⟩ := tops_le hI x l
    have p1 := hI.p1 (x ++ [a])
    have p2 := hI.p2 (x ++ [a])
    refine ⟨Int.mul_pos p1 i1, ?_⟩
    exact Int.mul_le_mul p2 i2 (Int.le_of_lt i1) (show (0 : Int) ≤ (E (x ++ [a])).2.2.2 by omega)
theorem big_of {x : Int} (hz : N * (D + 1) ≤ 700) (h0 : 0 ≤ x) (h : x ≤ 512 ^ (N * (D + 1))) : x.natAbs < 2 ^ 6301 := lg2 (nat_of h0 h) (by omega)
theorem p_branch (hI : Ckn L D N E) (h3 : Fn3 L D E) (h6 : L.length ≤ 6) (hz : N * (D + 1) ≤ 700) {x : List Nat} (hx : x.length < D) (hD : D ≤ 6) {wts : List (List Nat × (Int × Int))}
    (hw : ∀ a ∈ L, dget wts (x ++ [a]) = some (red (E (x ++ [a])).2.2) ∨ (dget wts (x ++ [a]) = none ∧ (E (x ++ [a])).2.2 = (1, 1))) :
    m_branch_weight (L, (D : Int)) wts x = .ok (red (prT L (fun q => (E q).2.2) x, prB L (fun q => (E q).2.2) x)) := by
  unfold m_branch_weight
  simp only [M.lt_eq]
  refine bind_forN (Q := fun m => m = .ok (red (prT L (fun q => (E q).2.2) x, prB L (fun q => (E q).2.2) x))) (fun (i : Nat) (s : Int × Int) => s = red (prodL (fun a => (E (x ++ [a])).2.2.1) (L.take i), prodL (fun a => (E (x ++ [a])).2.2.2) (L.take i))) (by exact red_one.symm) (fun i a ha s hs => ?_) (fun s hs => by rw [hs, List.take_length]; rfl)
  have haL : a ∈ L := List.mem_of_getElem? ha
  have tk : L.take (i + 1) = L.take i ++ [a] := by rw [List.take_succ, ha]; rfl
  obtain ⟨t0, t1⟩ := tops_le hI x (L.take i)
  have bz := bots_take hI h3 hz hx i
  have bz' := bots_take hI h3 hz hx (i + 1)
  have q1 := hI.p1 (x ++ [a])
  have q2 := hI.p2 (x ++ [a])
  have q3 := hI.pz (x ++ [a])
  rw [tk, prodL_snoc] at bz'
  rw [tk, prodL_snoc, prodL_snoc]
  generalize prodL (fun a => (E (x ++ [a])).2.2.1) (L.take i) = P at *
  generalize prodL (fun a => (E (x ++ [a])).2.2.2) (L.take i) = Q at *
  rw [M.gd_of _ (catOk_i (by simp; omega)), dhas_is]
  subst hs
  rcases hw a haL with h | ⟨h, h1⟩
  · rw [h, if_pos (show (some (red (E (x ++ [a])).2.2)).isSome = true from rfl), M.gd_of _ (catOk_i (by simp; omega)), M.ofO_some, M.bind_ok]
    have zz : (Q * (E (x ++ [a])).2.2.2).natAbs < 2 ^ 6301 := big_of hz (Int.mul_nonneg (by omega) (by omega)) bz'
    rw [show red (E (x ++ [a])).2.2 = red ((E (x ++ [a])).2.2.1, (E (x ++ [a])).2.2.2) from rfl, p_timesR (A := 6301) (B := 6301) (Z := 6301) (by decide) (by decide) (by decide) (by decide) (big_of hz (Int.le_of_lt t0) (Int.le_trans t1 bz)) (big_of hz (by omega) bz) (big_of hz (Int.le_of_lt q1) (Int.le_trans q2 q3)) (big_of hz (by omega) q3) (by omega) (by omega) zz, M.bind_ok, M.bind_ok]
    exact ⟨_, rfl, rfl⟩
  · rw [h, if_neg (by simp), M.bind_ok]
    refine ⟨_, rfl, ?_⟩
    rw [h1, Int.mul_one, Int.mul_one]
theorem p_allw {t : List Nat} (F : Fr L D) (hn : t.length ≤ 121) (htL : ∀ c ∈ t, c ∈ L) :
    ∃ W, m_all_worths (L, (D : Int)) t = .ok W ∧ (W.map (·.1)).Nodup ∧ (∀ q, dget W q = (dget (knT L D t) q).map fun e => red e.2.1) ∧ W.length ≤ t.length * 7 := by
  obtain ⟨T, t1, t2, t3, t4⟩ := p_allc F hn htL
  obtain ⟨hI, _⟩ := kn_ok F t hn htL
  have h3 := fn_ok F t hn htL
  have hE : ∀ q e, dget (knT L D t) q = some e → eT L D t q = e := fun q e h => by
    show (dget (knT L D t) q).getD _ = e
    rw [h]; rfl
  unfold m_all_worths
  rw [t1, M.bind_ok]
  simp only [M.lt_eq]
  have key : ∃ W, forM (fun (x1 : List Nat) (s2 : (List (List Nat × (Int × Int)))) => (
    M.bind (M.ofO (dget T x1)) fun r3 =>
    M.bind (M.nox (m_worth r3)) fun r5 =>
    M.gd (lenLt s2) <|
    M.ok (dput s2 x1 r5))) (T.map (·.1)) [] = .ok W ∧ W.map (·.1) = T.map (·.1) ∧ ∀ q ∈ T.map (·.1), dget W q = some (red (eT L D t q).2.1) := by
    have h := forM_invN (f := fun (x1 : List Nat) (s2 : (List (List Nat × (Int × Int)))) => (
      M.bind (M.ofO (dget T x1)) fun r3 =>
      M.bind (M.nox (m_worth r3)) fun r5 =>
      M.gd (lenLt s2) <|
      M.ok (dput s2 x1 r5))) (xs := T.map (·.1)) (s := []) (fun i s => s.map (·.1) = (T.map (·.1)).take i ∧ ∀ q ∈ (T.map (·.1)).take i, dget s q = some (red (eT L D t q).2.1)) (by simp) (fun i x hx s hs => ?_)
    · obtain ⟨W, w1, w2, w3⟩ := h
      rw [List.take_length] at w2 w3
      exact ⟨W, w1, w2, w3⟩
    · obtain ⟨s1, s2⟩ := hs
      have hi := lt_of_get hx
      have hxm : x ∈ T.map (·.1) := List.mem_of_getElem? hx
      have hd := mem_keys.mp hxm
      rw [t3] at hd
      obtain ⟨e, he⟩ : ∃ e, dget (knT L D t) x = some e := by
        cases z : dget (knT L D t) x with
        | none => rw [z] at hd; cases hd
        | some e => exact ⟨e, rfl⟩
      have hEx := hE x e he
      have tk : (T.map (·.1)).take (i + 1) = (T.map (·.1)).take i ++ [x] := by rw [List.take_succ, hx]; rfl
      have hxn : x ∉ s.map (·.1) := by
        rw [s1]
        intro hm
        have := t2
        rw [← List.take_append_drop (i + 1) (T.map (·.1)), tk, List.nodup_append, List.nodup_append] at this
        exact this.1.2.2 x hm x (by simp) rfl
      have sl : s.length ≤ T.length := by
        have := congrArg List.length s1
        rw [List.length_map, List.length_take, List.length_map] at this
        omega
      rw [t3, he]
      simp only [Option.map_some]
      rw [M.ofO_some, M.bind_ok, ← hEx, p_worthE hI h3 F.l1 F.l6 hn, M.nox_ok, M.bind_ok, M.gd_of _ (lenLt_i (by omega))]
      refine ⟨_, rfl, by rw [dput_new hxn, List.map_append, s1, tk]; rfl, fun q hq => ?_⟩
      rw [tk] at hq
      rw [dget_put]
      by_cases c : x = q
      · subst c; rw [if_pos rfl]
      · rw [if_neg c]
        rcases List.mem_append.mp hq with m | m
        · exact s2 q m
        · exact absurd (List.mem_singleton.mp m).symm c
  obtain ⟨W, w1, w2, w3⟩ := key
  rw [w1, M.nox_ok, M.bind_ok]
  refine ⟨W, rfl, by rw [w2]; exact t2, fun q => ?_, by have := congrArg List.length w2; rw [List.length_map, List.length_map] at this; omega⟩
  by_cases c : q ∈ T.map (·.1)
  · have hd := mem_keys.mp c
    rw [t3] at hd
    rw [w3 q c]
    cases z : dget (knT L D t) q with
    | none => rw [z] at hd; cases hd
    | some e => rw [hE q e z]; rfl
  · rw [dget_none W (by rw [w2]; exact c)]
    have : dget T q = none := dget_none T c
    rw [t3] at this
    cases z : dget (knT L D t) q with
    | none => rfl
    | some e => rw [z] at this; cases this
/-- the keys have at most so many signs as the depth -/
theorem key_len {t : List Nat} {q : List Nat} {e : En} : dget (knT L D t) q = some e → q.length ≤ D := by
  refine snoc_ind (P := fun t => dget (knT L D t) q = some e → q.length ≤ D) (fun h => by cases h) (fun t c ih h => ?_) _ t rfl
  rw [dget_knT] at h
  by_cases z : q = (nearL L D t).take q.length ∧ q.length ≤ D
  · exact z.2
  · rw [if_neg z] at h
    exact ih h
theorem p_allwt {t : List Nat} (F : Fr L D) (hn : t.length ≤ 121) (hz : t.length * (D + 1) ≤ 700) (htL : ∀ c ∈ t, c ∈ L) {W : List (List Nat × (Int × Int))} (w1 : (W.map (·.1)).Nodup) (w2 : ∀ q, dget W q = (dget (knT L D t) q).map fun e => red e.2.1) (w3 : W.length ≤ t.length * 7) :
    ∃ Q, m_all_weights (L, (D : Int)) W = .ok Q ∧ ∀ q, dget Q q = (dget (knT L D t) q).map fun e => red e.2.2 := by
  obtain ⟨hI, _⟩ := kn_ok F t hn htL
  have h3 := fn_ok F t hn htL
  have hD := F.d6
  have hE : ∀ q e, dget (knT L D t) q = some e → eT L D t q = e := fun q e h => by
    show (dget (knT L D t) q).getD _ = e
    rw [h]; rfl
  have hE0 : ∀ q, dget (knT L D t) q = none → (eT L D t q).2.2 = (1, 1) := fun q h => by
    show ((dget (knT L D t) q).getD _).2.2 = _
    rw [h]; rfl
  have hk : ∀ q, q ∈ W.map (·.1) → ∃ e, dget (knT L D t) q = some e := fun q h => by
    have hd := mem_keys.mp h
    rw [w2] at hd
    cases z : dget (knT L D t) q with
    | none => rw [z] at hd; cases hd
    | some e => exact ⟨e, rfl⟩
  have hk2 : ∀ q e, dget (knT L D t) q = some e → q ∈ W.map (·.1) := fun q e h => mem_keys.mpr (by rw [w2, h]; rfl)
  unfold m_all_weights
  simp only [M.lt_eq]
  rw [M.gd_of _ (rngOk_i (by omega) (by omega) (by omega) (by omega)), show ((D : Int) - (-1 : Int)).toNat = D + 1 by omega]
  refine bind_forN (s0 := ([] : List (List Nat × (Int × Int)))) (Q := fun m => ∃ Q, m = .ok Q ∧ ∀ q, dget Q q = (dget (knT L D t) q).map fun e => red e.2.2) (fun (i : Nat) (s : List (List Nat × (Int × Int))) => (∀ q, dget s q = if q ∈ W.map (·.1) ∧ D < q.length + i then some (red (eT L D t q).2.2) else none) ∧ s.length ≤ 2 * i * W.length) (by
    refine ⟨fun q => ?_, by simp⟩
    rw [if_neg]
    · rfl
    · rintro ⟨c1, c2⟩
      obtain ⟨e, he⟩ := hk q c1
      have := key_len he
      omega) (fun i x hx s hs => ?_) (fun s hs => ?_)
  · have hi : i < D + 1 := by have := lt_of_get hx; rwa [rng_len] at this
    have hx2 : x = ((D - i : Nat) : Int) := by
      rw [List.getElem?_eq_getElem (by rw [rng_len]; exact hi), rng_get] at hx
      have := Option.some.inj hx
      omega
    subst hx2
    obtain ⟨a1, a2⟩ := hs
    have hWl : (W.map (·.1)).length = W.length := List.length_map ..
    have key : ∃ s', forM (fun (x5 : List Nat) (s6 : (List (List Nat × (Int × Int)))) => (
      M.gd (lenOk x5) <|
      M.bind (if (decide (((x5).length : Int) = ((D - i : Nat) : Int))) = true then (
        M.bind (M.ofO (dget W x5)) fun r9 =>
        M.gd (lenLt s6) <|
        M.bind (if (decide (((D - i : Nat) : Int) < (D : Int))) = true then (
          M.bind (M.ofO (dget W x5)) fun r13 =>
          M.bind (M.nox (m_branch_weight (L, (D : Int)) (dput s6 x5 r9) x5)) fun r15 =>
          M.bind (M.nox (m_plus r13 r15)) fun r17 =>
          M.bind (M.nox (m_half r17)) fun r19 =>
          M.gd (lenLt (dput s6 x5 r9)) <|
          M.ok (dput (dput s6 x5 r9) x5 r19)
        ) else (
          .ok (dput s6 x5 r9)
        )) fun (s12 : (List (List Nat × (Int × Int)))) =>
        .ok s12
      ) else (
        .ok s6
      )) fun (s8 : (List (List Nat × (Int × Int)))) =>
      .ok s8)) (W.map (·.1)) s = .ok s' ∧ (∀ q, dget s' q = if q ∈ W.map (·.1) ∧ D < q.length + (i + 1) then some (red (eT L D t q).2.2) else none) ∧ s'.length ≤ s.length + 2 * W.length := by
      have hh := forM_invN (f := fun (x5 : List Nat) (s6 : (List (List Nat × (Int × Int)))) => (
        M.gd (lenOk x5) <|
        M.bind (if (decide (((x5).length : Int) = ((D - i : Nat) : Int))) = true then (
          M.bind (M.ofO (dget W x5)) fun r9 =>
          M.gd (lenLt s6) <|
          M.bind (if (decide (((D - i : Nat) : Int) < (D : Int))) = true then (
            M.bind (M.ofO (dget W x5)) fun r13 =>
            M.bind (M.nox (m_branch_weight (L, (D : Int)) (dput s6 x5 r9) x5)) fun r15 =>
            M.bind (M.nox (m_plus r13 r15)) fun r17 =>
            M.bind (M.nox (m_half r17)) fun r19 =>
            M.gd (lenLt (dput s6 x5 r9)) <|
            M.ok (dput (dput s6 x5 r9) x5 r19)
          ) else (
            .ok (dput s6 x5 r9)
          )) fun (s12 : (List (List Nat × (Int × Int)))) =>
          .ok s12
        ) else (
          .ok s6
        )) fun (s8 : (List (List Nat × (Int × Int)))) =>
        .ok s8)) (xs := W.map (·.1)) (s := s) (fun j u => (∀ q, dget u q = if q ∈ W.map (·.1) ∧ (D < q.length + i ∨ (q.length = D - i ∧ q ∈ (W.map (·.1)).take j)) then some (red (eT L D t q).2.2) else none) ∧ u.length ≤ s.length + 2 * j) (by
          refine ⟨fun q => ?_, by omega⟩
          rw [a1]
          by_cases c : q ∈ W.map (·.1) ∧ D < q.length + i
          · rw [if_pos c, if_pos ⟨c.1, .inl c.2⟩]
          · rw [if_neg c, if_neg]
            rintro ⟨c1, c2 | ⟨_, c3⟩⟩
            · exact c ⟨c1, c2⟩
            · cases c3) (fun j x hx u hu => ?_)
      · obtain ⟨s', e1, e2, e3⟩ := hh
        refine ⟨s', e1, fun q => ?_, by rw [hWl] at e3; exact e3⟩
        rw [e2, List.take_length]
        by_cases c : q ∈ W.map (·.1) ∧ D < q.length + (i + 1)
        · rw [if_pos c, if_pos ⟨c.1, by
            by_cases c3 : D < q.length + i
            · exact .inl c3
            · exact .inr ⟨by omega, c.1⟩⟩]
        · rw [if_neg c, if_neg]
          rintro ⟨c1, c2 | ⟨c2, _⟩⟩
          · exact c ⟨c1, by omega⟩
          · exact c ⟨c1, by omega⟩
      · obtain ⟨b1, b2⟩ := hu
        have hj := lt_of_get hx
        rw [hWl] at hj
        have hxm : x ∈ W.map (·.1) := List.mem_of_getElem? hx
        obtain ⟨e, he⟩ := hk x hxm
        have hxl := key_len he
        have hEx := hE x e he
        have tk : (W.map (·.1)).take (j + 1) = (W.map (·.1)).take j ++ [x] := by rw [List.take_succ, hx]; rfl
        have i7 : 2 * i * W.length ≤ 2 * 7 * (121 * 7) := Nat.mul_le_mul (by omega) (by omega)
        have ul : u.length ≤ 20000 := by omega
        rw [M.gd_of _ (lenOk_i (by omega))]
        by_cases cz : x.length = D - i
        · have d1 := dput_len u x (red (eT L D t x).2.1)
          rw [if_pos (by simp; omega), w2, he]
          simp only [Option.map_some]
          rw [M.ofO_some, M.bind_ok, M.gd_of _ (lenLt_i (by omega)), ← hEx]
          have fin : ∃ v : List (List Nat × (Int × Int)), v.length ≤ u.length + 2 ∧ (∀ q, dget v q = if x = q then some (red (eT L D t x).2.2) else dget u q) ∧ (if (decide (((D - i : Nat) : Int) < (D : Int))) = true then (
            M.bind (M.ok (red (eT L D t x).2.1)) fun r13 =>
            M.bind (M.nox (m_branch_weight (L, (D : Int)) (dput u x (red (eT L D t x).2.1)) x)) fun r15 =>
            M.bind (M.nox (m_plus r13 r15)) fun r17 =>
            M.bind (M.nox (m_half r17)) fun r19 =>
            M.gd (lenLt (dput u x (red (eT L D t x).2.1))) <|
            M.ok (dput (dput u x (red (eT L D t x).2.1)) x r19)) else (.ok (dput u x (red (eT L D t x).2.1)))) = .ok v := by
            by_cases ci : i = 0
            · have lf := hI.leaf x (by omega)
              rw [if_neg (by simp; omega)]
              refine ⟨_, by omega, fun q => ?_, rfl⟩
              rw [dget_put, lf]
            · have hlt : x.length < D := by omega
              obtain ⟨g, g0, g2, g3, g4⟩ := hI.inner x hlt
              have o1 := hI.o1 x
              have o2 := hI.o2 x
              have oz := hI.oz x
              have pT : 0 < prT L (fun q => (eT L D t q).2.2) x := prodL_pos fun b _ => hI.p1 _
              have tb : prT L (fun q => (eT L D t q).2.2) x ≤ prB L (fun q => (eT L D t q).2.2) x := (tops_le hI x L).2
              have bz : prB L (fun q => (eT L D t q).2.2) x ≤ 512 ^ (t.length * (D + 1)) := by
                have := bots_take hI h3 hz hlt L.length
                rw [List.take_length] at this
                exact this
              have hbr := p_branch (wts := dput u x (red (eT L D t x).2.1)) hI h3 F.l6 hz hlt hD (fun a ha => by
                have nx : x ≠ x ++ [a] := fun z => by have := congrArg List.length z; simp at this
                rw [dget_put, if_neg nx, b1]
                cases z : dget (knT L D t) (x ++ [a]) with
                | none =>
                  right
                  refine ⟨?_, hE0 _ z⟩
                  rw [if_neg]
                  rintro ⟨c1, _⟩
                  obtain ⟨e', he'⟩ := hk _ c1
                  rw [z] at he'
                  cases he'
                | some e' =>
                  left
                  rw [if_pos ⟨hk2 _ _ z, .inl (by rw [List.length_append, List.length_singleton]; omega)⟩])
              rw [if_pos (by simp; omega), M.bind_ok, hbr, M.nox_ok, M.bind_ok]
              generalize prT L (fun q => (eT L D t q).2.2) x = P at *
              generalize prB L (fun q => (eT L D t q).2.2) x = B at *
              have zo : (eT L D t x).2.1.2.natAbs < 2 ^ 1100 := lg2 (nat_of (by omega) oz) (by omega)
              have zo1 : (eT L D t x).2.1.1.natAbs < 2 ^ 1100 := by omega
              have hp := Int.mul_pos (show 0 < (eT L D t x).2.1.2 by omega) (show 0 < B by omega)
              rw [show red (eT L D t x).2.1 = red ((eT L D t x).2.1.1, (eT L D t x).2.1.2) from rfl, p_plusR (A := 1100) (B := 6301) (by decide) (by decide) (by decide) zo1 zo (big_of hz (by omega) (Int.le_trans tb bz)) (big_of hz (by omega) bz) (by omega) (by omega), M.nox_ok, M.bind_ok, p_halfR (A := 1100 + 6301) (by decide) (mulZ zo (big_of hz (by omega) bz)) hp, M.nox_ok, M.bind_ok, M.gd_of _ (lenLt_i (Nat.lt_of_le_of_lt (dput_len _ _ _) (by omega)))]
              refine ⟨_, Nat.le_trans (dput_len _ _ _) (Nat.succ_le_succ (dput_len _ _ _)), fun q => ?_, rfl⟩
              rw [dget_put, dget_put]
              by_cases c : x = q
              · rw [if_pos c, if_pos c]
                congr 1
                refine red_eq (by omega) (Int.lt_of_lt_of_le (hI.p1 x) (hI.p2 x)) ?_
                refine Int.eq_of_mul_eq_mul_left (a := g) (by omega) ?_
                have e1 : g * (((eT L D t x).2.1.1 * B + P * (eT L D t x).2.1.2) * (eT L D t x).2.2.2) = ((eT L D t x).2.1.1 * B + P * (eT L D t x).2.1.2) * (g * (eT L D t x).2.2.2) := by grind
                have e2 : g * ((eT L D t x).2.2.1 * (2 * ((eT L D t x).2.1.2 * B))) = g * (eT L D t x).2.2.1 * (2 * (eT L D t x).2.1.2 * B) := by grind
                rw [e1, e2, ← g3, ← g4]
              · rw [if_neg c, if_neg c, if_neg c]
          obtain ⟨v, v1, v2, v3⟩ := fin
          rw [v3, M.bind_ok, M.bind_ok]
          refine ⟨v, rfl, fun q => ?_, by omega⟩
          rw [v2]
          by_cases c : x = q
          · subst c
            rw [if_pos rfl, if_pos ⟨hxm, .inr ⟨cz, by rw [tk]; simp⟩⟩]
          · rw [if_neg c, b1, tk]
            have : q ∈ (W.map (·.1)).take j ++ [x] ↔ q ∈ (W.map (·.1)).take j := by
              rw [List.mem_append, List.mem_singleton]
              exact ⟨fun z => z.elim id fun y => absurd y.symm c, .inl⟩
            simp only [this]
        · rw [if_neg (by simp; omega), M.bind_ok]
          refine ⟨u, rfl, fun q => ?_, by omega⟩
          rw [b1, tk]
          by_cases c : x = q
          · subst c
            have : ¬ (x.length = D - i) := cz
            simp only [this, false_and, or_false]
          · have : q ∈ (W.map (·.1)).take j ++ [x] ↔ q ∈ (W.map (·.1)).take j := by
              rw [List.mem_append, List.mem_singleton]
              exact ⟨fun z => z.elim id fun y => absurd y.symm c, .inl⟩
            simp only [this]
    obtain ⟨s', e1, e2, e3⟩ := key
    rw [e1, M.nox_ok, M.bind_ok]
    refine ⟨s', rfl, e2, ?_⟩
    rw [show 2 * (i + 1) * W.length = 2 * i * W.length + 2 * W.length by rw [Nat.mul_add, Nat.add_mul]]
    omega
  · rw [rng_len] at hs
    refine ⟨s, rfl, fun q => ?_⟩
    rw [hs.1]
    cases z : dget (knT L D t) q with
    | none =>
      rw [if_neg]
      · rfl
      · rintro ⟨c1, _⟩
        obtain ⟨e', he'⟩ := hk _ c1
        rw [z] at he'
        cases he'
    | some e =>
      rw [if_pos ⟨hk2 _ _ z, by omega⟩, hE q e z]
      rfl
theorem p_weighs {t : List Nat} (F : Fr L D) (hn : t.length ≤ 121) (hz : t.length * (D + 1) ≤ 700) (htL : ∀ c ∈ t, c ∈ L) : m_weight (L, (D : Int)) t = .ok (red (eT L D t []).2.2) := by
  obtain ⟨W, a1, a2, a3, a4⟩ := p_allw F hn htL
  obtain ⟨Q, b1, b2⟩ := p_allwt F hn hz htL a2 a3 a4
  unfold m_weight
  rw [p_checked htL, M.bind_ok, a1, M.nox_ok, M.bind_ok, b1, M.nox_ok, M.bind_ok, b2]
  congr 1
  show _ = red ((dget (knT L D t) []).getD (List.replicate L.length 0, (1, 1), (1, 1))).2.2
  cases dget (knT L D t) [] with
  | none => exact red_one.symm
  | some e => rfl
end

end B
namespace B
open PySem PySem.Spec PyProof.Rows L2
theorem forF_rtS {α S L R : Type} {f : α → S → M (Fl S S R)} {r : R} {s0 : S} (pre : List α) {x : α} {suf : List α} (st : Nat → S) (h0 : st 0 = s0) (h : ∀ i (h : i < pre.length), f pre[i] (st i) = .ok (.nx (st (i + 1)))) (hx : f x (st pre.length) = .ok (.rt r)) : (forF f (pre ++ x :: suf) s0 : M (Fl S L R)) = .ok (.rt r) := h0 ▸ forF_rt pre st h hx
theorem rng_split {q n : Nat} (h : q < n) : rng 0 1 n = rng 0 1 q ++ (q : Int) :: rng ((q : Int) + 1) 1 (n - q - 1) := by
  apply List.ext_getElem
  · rw [List.length_append, List.length_cons, rng_len, rng_len, rng_len]; omega
  · intro i h1 h2
    rw [rng_get]
    by_cases c : i < q
    · rw [List.getElem_append_left (by rw [rng_len]; exact c), rng_get]
    · by_cases c2 : i = q
      · subst c2
        rw [List.getElem_append_right (by rw [rng_len]; omega)]
        simp only [rng_len, Nat.sub_self, List.getElem_cons_zero]
        omega
      · rw [List.getElem_append_right (by rw [rng_len]; omega)]
        obtain ⟨j, hj⟩ : ∃ j, i - q = j + 1 := ⟨i - q - 1, by omega⟩
        simp only [rng_len, hj, List.getElem_cons_succ]
        rw [rng_get]
        omega
/-- the place whose part a stretch lies in is found -/
theorem p_letter {L : List Nat} {D N Z : Nat} {kn : List (List Nat × En)} {t near : List Nat} {gone t0 b0 r ρ l0 l1 h0 h1 : Int} {q : Nat} (F : Fr L D) (n1 : near.length = D)
    (hg : ∀ k : Nat, k < L.length → m_grown_path (L, (D : Int)) kn t (k : Int) = .ok (pl L D (ent L.length kn) near k (D + 1)))
    (hb0 : 0 < b0) (hr : 0 < r) (he : (ent L.length kn []).2.2.2 = b0 * r) (hρ : ∀ k, k < L.length → (newE L D (ent L.length kn) near k D).2.2.2 = ρ * (b0 * r))
    (hZ0 : 0 < Z) (hZ : Z ≤ 8000) (zb : b0.natAbs < 2 ^ Z) (zbr : (b0 * r).natAbs < 2 ^ Z) (zg : gone.natAbs < 2 ^ Z) (zρ : ρ.natAbs < 2 ^ Z) (zrρ : (ρ * r).natAbs < 2 ^ Z) (zt : t0.natAbs < 2 ^ Z) (zw : (ρ * r * t0).natAbs < 2 ^ Z)
    (zl0 : l0.natAbs < 2 ^ Z) (zl1 : l1.natAbs < 2 ^ Z) (zh0 : h0.natAbs < 2 ^ Z) (zh1 : h1.natAbs < 2 ^ Z)
    (zs : ∀ p, p ≤ L.length → (gone * ρ + sumK (fun k => (newE L D (ent L.length kn) near k D).2.2.1) p).natAbs < 2 ^ Z)
    (hq : q < L.length)
    (lo : ∀ p, p < q → (gone * ρ + sumK (fun k => (newE L D (ent L.length kn) near k D).2.2.1) (p + 1)) * h1 < h0 * (ρ * r * t0))
    (at_ : h0 * (ρ * r * t0) ≤ (gone * ρ + sumK (fun k => (newE L D (ent L.length kn) near k D).2.2.1) (q + 1)) * h1)
    (hi : (gone * ρ + sumK (fun k => (newE L D (ent L.length kn) near k D).2.2.1) q) * l1 ≤ l0 * (ρ * r * t0)) :
    m_letter_there (L, (D : Int)) kn t gone (t0, b0) ((l0, l1), (h0, h1)) = .ok (some (L[q], gone * ρ + sumK (fun k => (newE L D (ent L.length kn) near k D).2.2.1) q, pl L D (ent L.length kn) near q (D + 1))) := by
  have br : 0 < b0 * r := Int.mul_pos hb0 hr
  have d0 : ∀ k, dget (pl L D (ent L.length kn) near k (D + 1)) [] = some (newE L D (ent L.length kn) near k D) := fun k => by
    rw [dget_pl n1 k (D + 1) (Nat.le_refl _)]
    have c : ([] : List Nat) = near.take ([] : List Nat).length ∧ ([] : List Nat).length ≤ D ∧ D - ([] : List Nat).length < D + 1 := ⟨by simp, by simp, by simp⟩
    rw [if_pos c]
    rfl
  unfold m_letter_there
  simp only [M.lt_eq]
  have g0 := hg 0 F.l1
  rw [show ((0 : Nat) : Int) = 0 from rfl] at g0
  have w0 : ent L.length (pl L D (ent L.length kn) near 0 (D + 1)) [] = newE L D (ent L.length kn) near 0 D := by
    show (dget (pl L D (ent L.length kn) near 0 (D + 1)) []).getD (List.replicate L.length 0, (1, 1), (1, 1)) = _
    rw [d0 0]
    rfl
  rw [p_weight F.l6, M.nox_ok, M.bind_ok, g0, M.nox_ok, M.bind_ok, p_weight F.l6, M.nox_ok, M.bind_ok, w0, hρ 0 F.l1, he]
  have v1 : ρ * (b0 * r) / (b0 * r) = ρ := Int.mul_ediv_cancel _ (by omega)
  have v2 : ρ * (b0 * r) / b0 = ρ * r := by
    rw [show ρ * (b0 * r) = b0 * (ρ * r) by grind]
    exact Int.mul_ediv_cancel_left _ (by omega)
  rw [v1, v2, M.gd_of _ (divOk_i br (log2_9000 zbr (by omega))), M.gd_of _ (mulOk_i Z Z zg zρ hZ0 hZ0 (by omega)), M.gd_of _ (divOk_i hb0 (log2_9000 zb (by omega))), M.gd_of _ (mulOk_i Z Z zrρ zt hZ0 hZ0 (by omega))]
  have l6 := F.l6
  have lL : lenOk L = true := lenOk_i (by omega)
  rw [M.gd_of _ lL, M.gd_of _ (rngOk_i (by omega) (by omega) (by omega) (by omega)), Int.toNat_natCast, rng_split hq]
  have ql : (rng 0 1 q).length = q := rng_len _ _ _
  rw [forF_rtS (r := some (L[q], gone * ρ + sumK (fun k => (newE L D (ent L.length kn) near k D).2.2.1) q, pl L D (ent L.length kn) near q (D + 1))) (rng 0 1 q) (fun p : Nat => gone * ρ + sumK (fun k => (newE L D (ent L.length kn) near k D).2.2.1) p) (show gone * ρ + 0 = gone * ρ by omega) (fun i hi2 => ?_) ?_, M.seqT_rt]
  · rw [ql, hg q hq, M.bind_ok, d0, M.ofO_some, M.bind_ok]
    have e : (fun p : Nat => gone * ρ + sumK (fun k => (newE L D (ent L.length kn) near k D).2.2.1) p) q + (newE L D (ent L.length kn) near q D).2.2.1 = gone * ρ + sumK (fun k => (newE L D (ent L.length kn) near k D).2.2.1) (q + 1) := by
      exact Int.add_assoc _ _ _
    rw [e]
    rw [M.gd_of _ (mulOk_i Z Z (zs (q + 1) (by omega)) zh1 hZ0 hZ0 (by omega)), M.gd_of _ (mulOk_i Z Z zh0 zw hZ0 hZ0 (by omega)), if_pos (by simpa using at_)]
    rw [M.gd_of _ (mulOk_i Z Z (zs q (by omega)) zl1 hZ0 hZ0 (by omega)), M.gd_of _ (mulOk_i Z Z zl0 zw hZ0 hZ0 (by omega)), if_neg (by simpa using hi), M.seq_nx, M.gd_of _ lL, atI_n hq]
    rfl
  · have hi3 : i < q := by rw [ql] at hi2; exact hi2
    rw [rng_get, show (0 : Int) + (i : Int) * 1 = (i : Int) by omega, hg i (by omega), M.bind_ok, d0, M.ofO_some, M.bind_ok]
    have e : (fun p : Nat => gone * ρ + sumK (fun k => (newE L D (ent L.length kn) near k D).2.2.1) p) i + (newE L D (ent L.length kn) near i D).2.2.1 = gone * ρ + sumK (fun k => (newE L D (ent L.length kn) near k D).2.2.1) (i + 1) := by
      exact Int.add_assoc _ _ _
    rw [e]
    rw [M.gd_of _ (mulOk_i Z Z (zs (i + 1) (by omega)) zh1 hZ0 hZ0 (by omega)), M.gd_of _ (mulOk_i Z Z zh0 zw hZ0 hZ0 (by omega)), if_neg (by have := lo i hi3; simp; omega)]
    rfl

/-- where span and found_text stand behind N signs -/
structure St (L : List Nat) (D : Nat) (t0 b0 : Int) (N : Nat) (kn : List (List Nat × En)) (low r : Int) : Prop where
  c : Ckn L D N (ent L.length kn)
  len : kn.length ≤ N * 7
  r0 : 0 < r
  bot : (ent L.length kn []).2.2.2 = b0 * r
  low0 : 0 ≤ low
  top : low + (ent L.length kn []).2.2.1 ≤ t0 * r
/-- one sign more -/
theorem st_step {L : List Nat} {D N : Nat} {t0 b0 low r : Int} {kn : List (List Nat × En)} {there : List Nat} (F : Fr L D) (s : St L D t0 b0 N kn low r) (hb : 0 < b0) (hn : N + 1 ≤ 120) (hz : (N + 1) * (D + 1) ≤ 700) (ht : there.length ≤ 1000) (hth : ∀ c ∈ there, c ∈ L) :
    ∃ (near : List Nat) (ρ : Int), near = nearL L D there ∧ near.length = D ∧ 0 < ρ ∧ ρ ≤ 512 ^ 700 ∧ (∀ k : Nat, k < L.length → m_grown_path (L, (D : Int)) kn there (k : Int) = .ok (pl L D (ent L.length kn) near k (D + 1))) ∧
      (∀ k, k < L.length → (newE L D (ent L.length kn) near k D).2.2.2 = ρ * (b0 * r) ∧ 0 < (newE L D (ent L.length kn) near k D).2.2.1) ∧
      sumK (fun k => (newE L D (ent L.length kn) near k D).2.2.1) L.length = ρ * (ent L.length kn []).2.2.1 ∧
      ∀ q, q < L.length → St L D t0 b0 (N + 1) (dmerge kn (pl L D (ent L.length kn) near q (D + 1))) (low * ρ + sumK (fun k => (newE L D (ent L.length kn) near k D).2.2.1) q) (r * ρ) ∧
      (ent L.length (dmerge kn (pl L D (ent L.length kn) near q (D + 1))) []).2.2.1 = (newE L D (ent L.length kn) near q D).2.2.1 ∧
      low * ρ ≤ low * ρ + sumK (fun k => (newE L D (ent L.length kn) near k D).2.2.1) q ∧
      low * ρ + sumK (fun k => (newE L D (ent L.length kn) near k D).2.2.1) q + (newE L D (ent L.length kn) near q D).2.2.1 ≤ ρ * (low + (ent L.length kn []).2.2.1) := by
  obtain ⟨i1, i2, i4, i5, i6, i7⟩ := s
  have hD := F.d6
  have n3 := p_grown (t := there) F i1 (by omega) hz ht hth
  have n1 : (nearL L D there).length = D := near_len
  have n2 := near_mem (D := D) F.l1 hth
  generalize hne : nearL L D there = near at *
  obtain ⟨ρ, r0, r1, r2, r3⟩ := ratio i1 (by omega) F.l6 F.l1 F.nd n1 n2 D (Nat.le_refl _)
  rw [Nat.sub_self, List.take_zero] at r3
  have r2' : ∀ k, k < L.length → (newE L D (ent L.length kn) near k D).2.2.2 = ρ * (b0 * r) ∧ 0 < (newE L D (ent L.length kn) near k D).2.2.1 := fun k hk => by
    obtain ⟨a, b⟩ := r2 k hk
    rw [Nat.sub_self, List.take_zero, i5] at a
    exact ⟨a, b⟩
  refine ⟨near, ρ, rfl, n1, r0, Int.le_trans r1 (p512 (by omega)), n3, r2', r3, fun q hq => ?_⟩
  have nx := ent_merge (L := L) (kn := kn) n1 q
  have hC := step i1 (by omega) F.l6 F.l1 F.nd n1 n2 hq nx
  have nx0 : ent L.length (dmerge kn (pl L D (ent L.length kn) near q (D + 1))) [] = newE L D (ent L.length kn) near q D := by
    rw [nx []]
    have c : ([] : List Nat) = near.take ([] : List Nat).length ∧ ([] : List Nat).length ≤ D := ⟨by simp, by simp⟩
    rw [if_pos c]
    rfl
  have hm := dmerge_len (pl L D (ent L.length kn) near q (D + 1)) kn
  rw [pl_len] at hm
  have ls := sumK_le (f := fun k => (newE L D (ent L.length kn) near k D).2.2.1) (n := L.length) q (fun k hk => Int.le_of_lt (r2 k hk).2) hq
  have ln := sumK_nn (f := fun k => (newE L D (ent L.length kn) near k D).2.2.1) (n := q) (fun k hk' => Int.le_of_lt (r2 k (by omega)).2)
  rw [r3] at ls
  have e1 : (low + (ent L.length kn []).2.2.1) * ρ = low * ρ + ρ * (ent L.length kn []).2.2.1 := by grind
  have e1' : ρ * (low + (ent L.length kn []).2.2.1) = low * ρ + ρ * (ent L.length kn []).2.2.1 := by grind
  have h5 := Int.mul_le_mul_of_nonneg_right i7 (Int.le_of_lt r0)
  have e2 : t0 * r * ρ = t0 * (r * ρ) := by grind
  have h6 := Int.mul_nonneg i6 (Int.le_of_lt r0)
  refine ⟨⟨hC, by omega, Int.mul_pos i4 r0, ?_, by omega, ?_⟩, by rw [nx0], by omega, ?_⟩
  · rw [nx0, (r2' q hq).1]; grind
  · rw [nx0]; omega
  · omega

end B
namespace B
open PySem PySem.Spec PyProof.Rows L2
/-! ### the states behind the signs of a text: those of span and of found_text -/
noncomputable def sbody (fr : List Nat × Int) : Nat → List (List Nat × En) × Int × List Nat → M (List (List Nat × En) × Int × List Nat) := fun x1 s2 =>
    M.gd (decide (x1 ∈ fr.1)) <|
    M.lt (((fr.1).idxOf x1 : Int) : Int) fun place_ =>
    M.bind (m_lesser_tops fr s2.1 s2.2.2 place_) fun lesser_ =>
    M.bind (M.nox (m_weight_pair fr s2.1)) fun r4 =>
    M.lt (r4.2 : Int) fun elder_ =>
    M.bind (M.nox (m_grown_path fr s2.1 s2.2.2 place_)) fun r6 =>
    M.gd (catOk s2.1 r6) <|
    M.lt (dmerge s2.1 r6) fun known_ =>
    M.bind (M.nox (m_weight_pair fr known_)) fun r9 =>
    M.gd (divOk elder_) <|
    M.gd (mulOk s2.2.1 (r9.2 / elder_)) <|
    M.lt (((s2.2.1 * (r9.2 / elder_)) + lesser_) : Int) fun low_ =>
    M.gd (catOk s2.2.2 [x1]) <|
    M.lt ((s2.2.2 ++ [x1]) : List Nat) fun there_ =>
    .ok (known_, low_, there_)
noncomputable def fbody (fr : List Nat × Int) (ahead : List Nat) (first : Int × Int) (ends : (Int × Int) × (Int × Int)) : Int → List (List Nat × En) × List Nat × Int → M (Fl (List (List Nat × En) × List Nat × Int) (List (List Nat × En) × List Nat × Int) (Option (List Nat))) := fun x4 s6 =>
    M.gd (catOk ahead s6.2.1) <|
    M.bind (m_letter_there fr s6.1 (ahead ++ s6.2.1) s6.2.2 first ends) fun told_ =>
    M.seq (if (Option.isNone told_) = true then (
      .ok (.rt none)
    ) else (
      .ok (.nx ())
    ) : M (Fl Unit (List (List Nat × En) × List Nat × Int) (Option (List Nat)))) fun (s8 : Unit) =>
    M.bind (M.ofO (told_)) fun r9 =>
    M.lt (r9 : Nat × Int × List (List Nat × En)) fun q11 =>
    M.gd (catOk s6.1 q11.2.2) <|
    M.lt (dmerge s6.1 q11.2.2) fun known_ =>
    M.gd (catOk s6.2.1 [q11.1]) <|
    M.lt ((s6.2.1 ++ [q11.1]) : List Nat) fun text_ =>
    .ok (.nx (known_, text_, q11.2.1))
theorem m_span_eq (fr : List Nat × Int) (text ahead : List Nat) : m_span fr text ahead = (M.bind (m_checked fr ahead) fun _ => M.bind (m_checked fr text) fun _ => M.bind (m_known_of fr ahead) fun known_ => M.bind (m_weight_pair fr known_) fun first_ => M.bind (forM (sbody fr) text (known_, 0, ahead)) fun s2 => M.bind (m_weight_pair fr s2.1) fun q14 => M.gd (divOk first_.2) <| M.gd (mulOk (q14.2 / first_.2) first_.1) <| M.lt (((q14.2 / first_.2) * first_.1) : Int) fun whole_ => M.bind (M.nox (m_fraction s2.2.1 whole_)) fun r17 => M.bind (M.nox (m_fraction q14.1 whole_)) fun r19 => .ok (r17, r19)) := rfl
theorem m_found_eq (fr : List Nat × Int) (many : Int) (low width : Int × Int) (ahead : List Nat) : m_found_text fr many low width ahead = (M.bind (m_known_of fr ahead) fun known_ => M.bind (m_weight_pair fr known_) fun first_ => M.bind (M.nox (m_plus low width)) fun r1 => M.gd (rngOk 0 many) <| M.seqT (forF (fbody fr ahead first_ (low, r1)) (rng 0 1 many.toNat) (known_, [], 0) : M (Fl (List (List Nat × En) × List Nat × Int) (List (List Nat × En) × List Nat × Int) (Option (List Nat)))) fun s6 => .ok (some s6.2.1)) := rfl
theorem forM_snoc {α S : Type} {f : α → S → M S} {x : α} {s1 s2 : S} (h2 : f x s1 = .ok s2) : ∀ {xs : List α} {s : S}, forM f xs s = .ok s1 → forM f (xs ++ [x]) s = .ok s2
  | [], s, h1 => by
    have e : s = s1 := M.ok.inj h1
    show (f x s).bind _ = _
    rw [e, h2]
    rfl
  | y :: xs, s, h1 => by
    have h1' : (f y s).bind (fun s' => forM f xs s') = .ok s1 := h1
    show (f y s).bind (fun s' => forM f (xs ++ [x]) s') = .ok s2
    cases e : f y s with
    | ok a => rw [e] at h1'; exact forM_snoc h2 h1'
    | ex n => rw [e] at h1'; cases h1'
    | far => rw [e] at h1'; cases h1'
/-- a walk whose every turn falls through -/
def fsteps {α S R : Type} (f : α → S → M (Fl S S R)) : List α → S → S → Prop
  | [], s, s1 => s = s1
  | x :: xs, s, s2 => ∃ s1, f x s = .ok (.nx s1) ∧ fsteps f xs s1 s2
theorem fsteps_snoc {α S R : Type} {f : α → S → M (Fl S S R)} {x : α} {s1 s2 : S} (h2 : f x s1 = .ok (.nx s2)) : ∀ {xs : List α} {s : S}, fsteps f xs s s1 → fsteps f (xs ++ [x]) s s2
  | [], s, h1 => ⟨s2, by have e : s = s1 := h1; rw [e]; exact h2, rfl⟩
  | y :: xs, s, ⟨a, h1, h3⟩ => ⟨a, h1, fsteps_snoc h2 h3⟩
theorem fsteps_forF {α S L R : Type} {f : α → S → M (Fl S S R)} : ∀ {xs : List α} {s s1 : S}, fsteps f xs s s1 → (forF f xs s : M (Fl S L R)) = .ok (.nx s1)
  | [], s, s1, h => by have e : s = s1 := h; subst e; rfl
  | x :: xs, s, s2, ⟨s1, h1, h3⟩ => by
    unfold forF
    rw [h1]
    exact fsteps_forF h3
structure Way (L : List Nat) (D : Nat) (ahead : List Nat) (t0 b0 : Int) (kn0 : List (List Nat × En)) (t : List Nat) (kn : List (List Nat × En)) (low r : Int) : Prop where
  st : St L D t0 b0 (ahead.length + t.length) kn low r
  kne : kn = knT L D (ahead ++ t)
  mem : ∀ c ∈ t, c ∈ L
  sp : forM (sbody (L, (D : Int))) t (kn0, 0, ahead) = .ok (kn, low, ahead ++ t)
  fd : ∀ (l0 l1 h0 h1 : Int) (Z : Nat), 6301 ≤ Z → Z ≤ 8000 → l0.natAbs < 2 ^ Z → l1.natAbs < 2 ^ Z → h0.natAbs < 2 ^ Z → h1.natAbs < 2 ^ Z → 0 < l1 → 0 < h1 → l0 * h1 < h0 * l1 → low * l1 ≤ l0 * (r * t0) → h0 * (r * t0) ≤ (low + (ent L.length kn []).2.2.1) * h1 → ∀ ks : List Int, ks.length = t.length → fsteps (fbody (L, (D : Int)) ahead (t0, b0) ((l0, l1), (h0, h1))) ks (kn0, [], 0) (kn, t, low)
theorem z512 {x : Int} {Z : Nat} (h0 : 0 ≤ x) (h : x ≤ 512 ^ 700) (hZ : 6301 ≤ Z) : x.natAbs < 2 ^ Z := lg2 (nat_of (n := 700) h0 h) hZ
theorem at_step {L : List Nat} {D : Nat} {ahead t : List Nat} {t0 b0 low r : Int} {kn0 kn : List (List Nat × En)} (F : Fr L D) (a : Way L D ahead t0 b0 kn0 t kn low r) (ht0 : 0 < t0) (htb : t0 ≤ b0) (hA : ∀ c ∈ ahead, c ∈ L) (hn : ahead.length + t.length + 1 ≤ 120) (hz : (ahead.length + t.length + 1) * (D + 1) ≤ 700) :
    ∃ (f : Nat → Int) (ρ : Int), 0 < ρ ∧ (∀ k, k < L.length → 0 < f k) ∧ sumK f L.length = ρ * (ent L.length kn []).2.2.1 ∧ ∀ q (hq : q < L.length), ∃ kn', Way L D ahead t0 b0 kn0 (t ++ [L[q]]) kn' (low * ρ + sumK f q) (r * ρ) ∧ (ent L.length kn' []).2.2.1 = f q := by
  obtain ⟨s, hkne, hm, hsp, hfd⟩ := a
  have hD := F.d6
  have hb : 0 < b0 := by omega
  have hN : (ahead.length + t.length) * (D + 1) ≤ 700 := Nat.le_trans (Nat.mul_le_mul_right _ (by omega)) hz
  have hth : ∀ c ∈ ahead ++ t, c ∈ L := fun c hc => by
    rcases List.mem_append.mp hc with m | m
    · exact hA c m
    · exact hm c m
  have hll : (ahead ++ t).length = ahead.length + t.length := List.length_append
  obtain ⟨near, ρ, hne, n1, r0, rz, hg, hρ, hs, hq'⟩ := st_step (there := ahead ++ t) F s hb hn hz (by omega) hth
  obtain ⟨f, hf⟩ : ∃ f : Nat → Int, (fun k => (newE L D (ent L.length kn) near k D).2.2.1) = f := ⟨_, rfl⟩
  have hfa : ∀ k, (newE L D (ent L.length kn) near k D).2.2.1 = f k := fun k => by rw [← hf]
  refine ⟨f, ρ, r0, fun k hk => by rw [← hfa]; exact (hρ k hk).2, by rw [← hf]; exact hs, fun q hq => ⟨dmerge kn (pl L D (ent L.length kn) near q (D + 1)), ?_, ?_⟩⟩
  case refine_2 => rw [(hq' q hq).2.1, hfa]
  obtain ⟨q1, q2, q3, q4⟩ := hq' q hq
  obtain ⟨top, htop⟩ : ∃ top, (ent L.length kn []).2.2.1 = top := ⟨_, rfl⟩
  have q1r := q1.r0
  have q1l := q1.low0
  have q1t := q1.top
  have q1b : b0 * (r * ρ) ≤ 512 ^ 700 := by rw [← q1.bot]; exact Int.le_trans (q1.c.pz []) (p512 (by omega))
  have sb : b0 * r ≤ 512 ^ 700 := by rw [← s.bot]; exact Int.le_trans (s.c.pz []) (p512 (by omega))
  have sr := s.r0
  have sl := s.low0
  have stp := s.top
  have topp : 0 < top := by rw [← htop]; exact s.c.p1 []
  rw [htop] at stp hs q4
  rw [hf] at q1 q1l q1t q3 q4 hs
  rw [hfa] at q4
  rw [q2, hfa] at q1t
  have fq : 0 < f q := by rw [← hfa]; exact (hρ q hq).2
  have br : 0 < b0 * r := Int.mul_pos hb sr
  have tr : t0 * r ≤ b0 * r := Int.mul_le_mul_of_nonneg_right htb (Int.le_of_lt sr)
  have trr : t0 * (r * ρ) ≤ b0 * (r * ρ) := Int.mul_le_mul_of_nonneg_right htb (Int.le_of_lt q1r)
  have lz : low ≤ 512 ^ 700 := by omega
  have pl1 := pl_len (L := L) (D := D) (E := ent L.length kn) (near := near) q (D + 1)
  have klen := s.len
  have idx : L.idxOf L[q] = q := by
    have h2 : L.idxOf L[q] < L.length := List.idxOf_lt_length_of_mem (List.getElem_mem hq)
    have h3 := List.getElem_idxOf h2
    have pw := List.pairwise_iff_getElem.mp F.nd
    rcases Nat.lt_trichotomy (L.idxOf L[q]) q with h | h | h
    · exact absurd h3 (pw _ _ h2 hq h)
    · exact h
    · exact absurd h3.symm (pw _ _ hq h2 h)
  have nx0 : (ent L.length (dmerge kn (pl L D (ent L.length kn) near q (D + 1))) []).2.2.2 = ρ * (b0 * r) := by
    rw [q1.bot]; grind
  have hdv : ρ * (b0 * r) / (b0 * r) = ρ := Int.mul_ediv_cancel _ (by omega)
  have big : ∀ {x : Int}, 0 ≤ x → x ≤ 512 ^ 700 → x.natAbs < 2 ^ 6301 := fun h0 h => z512 h0 h (Nat.le_refl _)
  refine ⟨by rw [List.length_append, ← Nat.add_assoc]; exact q1, by rw [← List.append_assoc, knT_snoc, ← hkne, ← hne, idx], fun c hc => ?_, ?_, ?_⟩
  · rcases List.mem_append.mp hc with m | m
    · exact hm c m
    · rw [List.mem_singleton.mp m]; exact List.getElem_mem hq
  · refine forM_snoc ?_ hsp
    unfold sbody
    simp only [M.lt_eq]
    rw [M.gd_of _ (by simp), idx, p_lesser n1 hq F.l6 hg, M.bind_ok, p_weight F.l6, M.nox_ok, M.bind_ok, hg q hq, M.nox_ok, M.bind_ok, M.gd_of _ (catOk_i (by rw [pl1]; omega)), p_weight F.l6, M.nox_ok, M.bind_ok, nx0, s.bot, hdv, hf]
    rw [M.gd_of _ (divOk_i br (log2_9000 (big (Int.le_of_lt br) sb) (by decide))), M.gd_of _ (mulOk_i 6301 6301 (big sl lz) (big (Int.le_of_lt r0) rz) (by decide) (by decide) (by decide)), M.gd_of _ (catOk_i (by simp; omega)), List.append_assoc]
  · intro l0 l1 h0 h1 Z hZ1 hZ2 zl0 zl1 zh0 zh1 p1 p2 lh lo hi ks hks
    rw [q2, hfa] at hi
    obtain ⟨ks', k, rfl⟩ : ∃ (ks' : List Int) (k : Int), ks = ks' ++ [k] := by
      have : ks ≠ [] := by
        intro e; rw [e] at hks; simp at hks
      exact ⟨ks.dropLast, ks.getLast this, (List.dropLast_concat_getLast this).symm⟩
    have hks2 : ks'.length = t.length := by simpa using hks
    have eW : r * ρ * t0 = ρ * (r * t0) := by grind
    have eW2 : ρ * r * t0 = r * ρ * t0 := by grind
    have mono : ∀ p, p ≤ q → sumK f p ≤ sumK f q := fun p hp => by
      by_cases e : p = q
      · subst e; exact Int.le_refl _
      · have h5 := sumK_le (f := f) (n := q) p (fun k hk => Int.le_of_lt (by rw [← hfa]; exact (hρ k (by omega)).2)) (by omega)
        have : 0 < f p := by rw [← hfa]; exact (hρ p (by omega)).2
        omega
    have monoL : ∀ p, p ≤ L.length → 0 ≤ sumK f p ∧ sumK f p ≤ ρ * top := fun p hp => by
      refine ⟨sumK_nn fun k hk => Int.le_of_lt (by rw [← hfa]; exact (hρ k (by omega)).2), ?_⟩
      rw [← hs]
      by_cases e : p = L.length
      · subst e; exact Int.le_refl _
      · have h5 := sumK_le (f := f) (n := L.length) p (fun k hk => Int.le_of_lt (by rw [← hfa]; exact (hρ k hk).2)) (by omega)
        have : 0 < f p := by rw [← hfa]; exact (hρ p (by omega)).2
        omega
    have lowρ : 0 ≤ low * ρ := Int.mul_nonneg sl (Int.le_of_lt r0)
    have wpos : 0 < r * ρ * t0 := Int.mul_pos q1r ht0
    have wz : r * ρ * t0 ≤ 512 ^ 700 := by
      have e : t0 * (r * ρ) = r * ρ * t0 := Int.mul_comm _ _
      omega
    have rz2 : ρ * r ≤ 512 ^ 700 := by
      have e : ρ * r = r * ρ := Int.mul_comm _ _
      have : 1 * (r * ρ) ≤ b0 * (r * ρ) := Int.mul_le_mul_of_nonneg_right (by omega) (Int.le_of_lt q1r)
      omega
    have b0z : b0 ≤ 512 ^ 700 := by
      have : b0 * 1 ≤ b0 * r := Int.mul_le_mul_of_nonneg_left (by omega) (by omega)
      omega
    have hlt : low * ρ + ρ * top ≤ ρ * (t0 * r) := by
      have h := Int.mul_le_mul_of_nonneg_left stp (Int.le_of_lt r0)
      have e : ρ * (low + top) = low * ρ + ρ * top := by grind
      omega
    have eT : ρ * (t0 * r) = t0 * (r * ρ) := by grind
    have w1 : ∀ p, p ≤ L.length → (low * ρ + sumK (fun k => (newE L D (ent L.length kn) near k D).2.2.1) p).natAbs < 2 ^ Z := fun p hp => by
      rw [hf]
      have := monoL p hp
      exact z512 (by omega) (by omega) hZ1
    have w2 : ∀ p, p < q → (low * ρ + sumK (fun k => (newE L D (ent L.length kn) near k D).2.2.1) (p + 1)) * h1 < h0 * (ρ * r * t0) := fun p hp => by
      rw [hf, eW2]
      have h5 := mono (p + 1) (by omega)
      have h6 := Int.mul_le_mul_of_nonneg_right (show low * ρ + sumK f (p + 1) ≤ low * ρ + sumK f q by omega) (Int.le_of_lt p2)
      refine Int.lt_of_le_of_lt h6 ?_
      refine Int.lt_of_mul_lt_mul_right (a := l1) ?_ (Int.le_of_lt p1)
      have a1 := Int.mul_le_mul_of_nonneg_right lo (Int.le_of_lt p2)
      have a2 := Int.mul_lt_mul_of_pos_right lh wpos
      have e1 : (low * ρ + sumK f q) * h1 * l1 = (low * ρ + sumK f q) * l1 * h1 := by grind
      have e2 : l0 * (r * ρ * t0) * h1 = l0 * h1 * (r * ρ * t0) := by grind
      have e3 : h0 * (r * ρ * t0) * l1 = h0 * l1 * (r * ρ * t0) := by grind
      omega
    have w3 : h0 * (ρ * r * t0) ≤ (low * ρ + sumK (fun k => (newE L D (ent L.length kn) near k D).2.2.1) (q + 1)) * h1 := by
      rw [hf, eW2]
      show h0 * (r * ρ * t0) ≤ (low * ρ + (sumK f q + f q)) * h1
      rw [← Int.add_assoc]
      exact hi
    have w4 : (low * ρ + sumK (fun k => (newE L D (ent L.length kn) near k D).2.2.1) q) * l1 ≤ l0 * (ρ * r * t0) := by
      rw [hf, eW2]
      exact lo
    have hlet := p_letter (N := 0) (Z := Z) F n1 hg hb sr s.bot (fun k hk => (hρ k hk).1) (by omega) hZ2 (z512 (by omega) b0z hZ1) (z512 (by omega) sb hZ1) (z512 sl lz hZ1) (z512 (by omega) rz hZ1) (z512 (Int.le_of_lt (Int.mul_pos r0 sr)) rz2 hZ1) (z512 (by omega) (by omega) hZ1) (by rw [eW2]; exact z512 (by omega) wz hZ1) zl0 zl1 zh0 zh1 w1 hq w2 w3 w4
    refine fsteps_snoc ?_ (hfd l0 l1 h0 h1 Z hZ1 hZ2 zl0 zl1 zh0 zh1 p1 p2 lh ?_ ?_ ks' hks2)
    · unfold fbody
      simp only [M.lt_eq]
      rw [M.gd_of _ (catOk_i (by omega)), hlet, M.bind_ok, if_neg (by simp), M.seq_nx, M.ofO_some, M.bind_ok]
      dsimp only
      rw [M.gd_of _ (catOk_i (by rw [pl1]; omega)), M.gd_of _ (catOk_i (by simp; omega)), hf]
    · -- the ends lie in the shorter text's part, too
      refine Int.le_of_mul_le_mul_right (a := ρ) ?_ r0
      have h5 := Int.mul_le_mul_of_nonneg_right q3 (Int.le_of_lt p1)
      have e1 : low * l1 * ρ = low * ρ * l1 := by grind
      have e2 : l0 * (r * t0) * ρ = l0 * (r * ρ * t0) := by grind
      omega
    · refine Int.le_of_mul_le_mul_right (a := ρ) ?_ r0
      have h5 := Int.mul_le_mul_of_nonneg_right q4 (Int.le_of_lt p2)
      rw [htop]
      have e1 : h0 * (r * t0) * ρ = h0 * (r * ρ * t0) := by grind
      have e2 : (low + top) * h1 * ρ = ρ * (low + top) * h1 := by grind
      omega

end B
namespace B
open PySem PySem.Spec PyProof.Rows L2
theorem p_cell_at {ns : List Int} {k : Nat} : m_law_cell_at ns (k : Int) = .ok (ns.getD k 0) := by
  unfold m_law_cell_at
  by_cases h : k < ns.length
  · rw [if_pos (by simpa using h), atI_n h]
    simp [List.getD_eq_getElem?_getD, h]
  · rw [if_neg (by simpa using h)]
    simp [List.getD_eq_getElem?_getD, h]

theorem joinL_nil : ∀ yss : List (List Nat), TL.joinL [] yss = yss.flatten
  | [] => rfl
  | [p] => by show p = [p].flatten; simp
  | p :: q :: r => by
    show p ++ ([] ++ TL.joinL [] (q :: r)) = _
    rw [joinL_nil (q :: r), List.nil_append]
    rfl
theorem ones_flat (l : List Nat) : (l.map fun c => [c]).flatten = l := by
  induction l with
  | nil => rfl
  | cons c l ih => rw [List.map_cons, List.flatten_cons, ih]; rfl
theorem ones_len (l : List Nat) : ((l.map fun c => [c]).map (·.length)).sum = l.length := by
  induction l with
  | nil => rfl
  | cons c l ih => rw [List.map_cons, List.map_cons, List.sum_cons, ih, List.length_cons]; simp; omega
theorem joinC_nil (l : List Nat) : joinC [] l = l := by
  unfold joinC
  rw [joinL_nil, ones_flat]
theorem joinOkC_nil {l : List Nat} (h : l.length ≤ 16777216) : joinOkC [] l = true := by
  unfold joinOkC joinOk
  refine cl_i ?_
  rw [ones_len]
  simp
  exact h

theorem lg {x : Int} {m n : Nat} (h : x.natAbs < 2 ^ m) (l : m ≤ n) : x.natAbs < 2 ^ n := Nat.lt_of_lt_of_le h (Nat.pow_le_pow_right (by decide) l)
theorem nat_lt {x : Int} {m : Nat} (h0 : 0 ≤ x) (h : x < 2 ^ m) : x.natAbs < 2 ^ m := by
  have e : ((2 ^ m : Nat) : Int) = (2 : Int) ^ m := by simp
  omega
theorem lt_nat {x : Int} {m : Nat} (h : x.natAbs < 2 ^ m) : x < 2 ^ m := by
  have e : ((2 ^ m : Nat) : Int) = (2 : Int) ^ m := by simp
  omega
theorem ib_le {x : Int} {m : Nat} (h : x.natAbs < 2 ^ m) (hm : 0 < m) : Builtin.Int.intBits x ≤ m := by
  unfold Builtin.Int.intBits
  split
  · omega
  · rename_i h0
    have hx : x.natAbs ≠ 0 := by simpa using h0
    have := (Nat.log2_lt hx).mpr h
    omega
theorem shl_i {x : Int} {m : Nat} {k : Nat} (h : x.natAbs < 2 ^ m) (hm : 0 < m) (hk : m + k ≤ 100000) : shlOk x (k : Int) = true := by
  have := ib_le h hm
  exact shlOk_i (by omega) (by omega)
theorem mulnt {x y : Int} {m n : Nat} (hx : x.natAbs < 2 ^ m) (hy : y.natAbs < 2 ^ n) : (x * y).natAbs < 2 ^ (m + n) := by
  rw [Int.natAbs_mul, Nat.pow_add]
  exact Nat.mul_lt_mul_of_lt_of_lt hx hy
/-- the least whole number from a / b on -/
def cdv (a b : Int) : Int := (a + b - 1) / b
theorem cdv_ok {a b : Int} (h : 0 < b) : a ≤ cdv a b * b ∧ (cdv a b - 1) * b < a := by
  unfold cdv
  have h1 := Int.emod_add_mul_ediv (a + b - 1) b
  have h2 := Int.emod_nonneg (a + b - 1) (b := b) (by omega)
  have h3 := Int.emod_lt_of_pos (a + b - 1) h
  generalize (a + b - 1) / b = q at *
  generalize (a + b - 1) % b = r at *
  have e1 : b * q = q * b := Int.mul_comm _ _
  have e2 : (q - 1) * b = q * b - b := by grind
  omega
/-- N is a / b rounded up -/
def Up (a b N : Int) : Prop := a ≤ N * b ∧ (N - 1) * b < a
theorem Up.nn {a b N : Int} (h : Up a b N) (hb : 0 < b) (ha : 0 ≤ a) : 0 ≤ N := by
  rcases Int.lt_or_le N 0 with q | q
  · have : N * b ≤ (-1) * b := Int.mul_le_mul_of_nonneg_right (by omega) (by omega)
    have := h.1
    omega
  · exact q
/-! ### what the bits are -/
structure Sp (lo wd wh : Int) : Prop where
  lo0 : 0 ≤ lo
  wd0 : 0 < wd
  top : lo + wd ≤ wh
/-- ended -/
def Fin (lo wd wh N : Int) (m : Nat) : Prop := (N + 1) * wh ≤ (lo + wd) * 2 ^ m
theorem fin_at {lo wd wh N : Int} {m : Nat} (s : Sp lo wd wh) (h : Up (lo * 2 ^ m) wh N) (hm : 2 * wh ≤ wd * 2 ^ m) : Fin lo wd wh N m := by
  have := h.2
  unfold Fin
  have e : (lo + wd) * 2 ^ m = lo * 2 ^ m + wd * 2 ^ m := by grind
  have e2 : (N + 1) * wh = (N - 1) * wh + 2 * wh := by grind
  omega
theorem n_lt {lo wd wh N : Int} {m : Nat} (s : Sp lo wd wh) (h : Fin lo wd wh N m) : N < 2 ^ m := by
  unfold Fin at h
  have p2 : (0 : Int) ≤ 2 ^ m := Int.le_of_lt (Int.pow_pos (by decide))
  have h1 : (lo + wd) * 2 ^ m ≤ wh * 2 ^ m := Int.mul_le_mul_of_nonneg_right s.top p2
  rcases Int.lt_or_le N (2 ^ m) with q | q
  · exact q
  · have w0 : 0 < wh := by have := s.lo0; have := s.wd0; have := s.top; omega
    have : (2 ^ m + 1) * wh ≤ (N + 1) * wh := Int.mul_le_mul_of_nonneg_right (by omega) (by omega)
    have e : (2 ^ m + 1) * wh = wh * 2 ^ m + wh := by grind
    omega
theorem Up.scale {a b N c : Int} (h : Up a b N) (hc : 0 < c) : Up (a * c) (b * c) N := by
  refine ⟨?_, ?_⟩
  · have := Int.mul_le_mul_of_nonneg_right h.1 (Int.le_of_lt hc)
    have e : N * b * c = N * (b * c) := by grind
    omega
  · have := Int.mul_lt_mul_of_pos_right h.2 hc
    have e : (N - 1) * b * c = (N - 1) * (b * c) := by grind
    omega
theorem Up.uniq {a b N N' : Int} (h : Up a b N) (h' : Up a b N') (hb : 0 < b) : N = N' := by
  have k1 : ∀ {x y : Int}, Up a b x → Up a b y → x ≤ y := fun {x y} hx hy => by
    have h1 : (x - 1) * b < y * b := Int.lt_of_lt_of_le hx.2 hy.1
    have := Int.lt_of_mul_lt_mul_right h1 (Int.le_of_lt hb)
    omega
  have := k1 h h'
  have := k1 h' h
  omega
theorem cdv_up {a b : Int} (h : 0 < b) : Up a b (cdv a b) := cdv_ok h
theorem p2le {m n : Nat} (h : m ≤ n) : (2 : Int) ^ m ≤ 2 ^ n := by
  have := Nat.pow_le_pow_right (n := 2) (by decide) h
  have e : ∀ i : Nat, ((2 ^ i : Nat) : Int) = (2 : Int) ^ i := fun i => by simp
  have := e m
  have := e n
  omega
theorem p2nat {m S : Nat} (h : m ≤ S) : ((2 : Int) ^ m).natAbs < 2 ^ (S + 1) := by
  rw [Int.natAbs_pow]
  exact (Nat.pow_lt_pow_iff_right (by decide)).mpr (by omega)
theorem up_size {L0 L1 N : Int} {m S : Nat} (h1 : 0 < L1) (l0 : 0 ≤ L0) (b0 : L0.natAbs < 2 ^ S) (hm : m ≤ S) (hu : Up (L0 * 2 ^ m) L1 N) : 0 ≤ N ∧ (N + 1).natAbs < 2 ^ (S + (S + 1) + 1) := by
  have n0 := hu.nn h1 (Int.mul_nonneg l0 (Int.le_of_lt (Int.pow_pos (by decide))))
  refine ⟨n0, ?_⟩
  have e1 : (N - 1) * 1 ≤ (N - 1) * L1 ∨ N - 1 < 0 := by
    rcases Int.lt_or_le (N - 1) 0 with q | q
    · exact .inr q
    · exact .inl (Int.mul_le_mul_of_nonneg_left (by omega) q)
  have b4 : (L0 * 2 ^ m).natAbs < 2 ^ (S + (S + 1)) := mulnt b0 (p2nat hm)
  have := lt_nat b4
  have := hu.2
  have e5 : (2 : Int) ^ 1 ≤ 2 ^ (S + (S + 1)) := p2le (by omega)
  have e6 : (2 : Int) ^ 1 = 2 := rfl
  refine nat_lt (by omega) ?_
  rw [Int.pow_succ]
  rcases e1 with e1 | e1 <;> omega
/-- the j-th of m signs -/
def bitS (N : Int) (m j : Nat) : Nat := if N / 2 ^ (m - 1 - j) % 2 = 1 then 49 else 48
def bitsL (N : Int) (m : Nat) : List Nat := (List.range m).map (bitS N m)
theorem bitsL_len (N : Int) (m : Nat) : (bitsL N m).length = m := by unfold bitsL; simp
theorem p_in_twos {N : Int} {m : Nat} (hN : 0 ≤ N) (hm : m ≤ 10000) : m_in_twos N (m : Int) = .ok (bitsL N m) := by
  unfold m_in_twos
  simp only [M.lt_eq]
  rw [M.gd_of _ (rngOk_i (by omega) (by omega) (by omega) (by omega)), show (((m : Int) - 1) - (-1 : Int)).toNat = m by omega]
  refine bind_forN (Q := fun q => q = .ok (bitsL N m)) (fun i s => s = (bitsL N m).take i) rfl (fun i x hx s hs => ?_) (fun s hs => ?_)
  · have hi : i < m := by have := lt_of_get hx; rwa [rng_len] at this
    have hx2 : x = (m : Int) - 1 + (i : Int) * (-1) := by
      rw [List.getElem?_eq_getElem (by rw [rng_len]; exact hi), rng_get] at hx
      exact (Option.some.inj hx).symm
    have hx3 : x = ((m - 1 - i : Nat) : Int) := by omega
    subst hx3
    subst hs
    have hb := Bits.bit_at (x := N) (m - 1 - i)
    rw [Int.fdiv_eq_ediv_of_nonneg _ (Int.le_of_lt (Int.pow_pos (by decide)))] at hb
    rw [M.gd_of _ (by simp), M.gd_of _ (lenOk_i (by decide)), Int.toNat_natCast, hb]
    have hl : lenLt ((bitsL N m).take i) = true := lenLt_i (by rw [List.length_take, bitsL_len]; omega)
    have hg : (bitsL N m).take i ++ [bitS N m i] = (bitsL N m).take (i + 1) := by
      rw [List.take_succ]
      unfold bitsL
      simp [hi]
    refine ⟨_, ?_, hg⟩
    unfold bitS
    have h2 := Int.emod_nonneg (N / 2 ^ (m - 1 - i)) (b := 2) (by decide)
    have h3 := Int.emod_lt_of_pos (N / 2 ^ (m - 1 - i)) (b := 2) (by decide)
    by_cases h1 : N / 2 ^ (m - 1 - i) % 2 = 1
    · rw [h1, if_pos rfl]
      show M.bind (M.ofO (atI [48, 49] ((1 : Nat) : Int))) _ = _
      rw [atI_n (by decide), M.ofO_some, M.bind_ok, M.gd_of _ hl]
      rfl
    · have h0 : N / 2 ^ (m - 1 - i) % 2 = 0 := by omega
      rw [h0, if_neg (by decide)]
      show M.bind (M.ofO (atI [48, 49] ((0 : Nat) : Int))) _ = _
      rw [atI_n (by decide), M.ofO_some, M.bind_ok, M.gd_of _ hl]
      rfl
  · rw [rng_len] at hs
    rw [hs, List.take_of_length_le (by rw [bitsL_len]; exact Nat.le_refl _), M.gd_of _ (joinOkC_nil (by rw [bitsL_len]; omega)), joinC_nil]
/-- what a span's parts are -/
structure Spn (S : Nat) (L0 L1 W0 W1 : Int) : Prop where
  s0 : 0 < S
  s1 : S ≤ 7000
  h1 : 0 < L1
  h2 : 0 < W1
  sp : Sp (L0 * W1) (W0 * L1) (L1 * W1)
  l0 : 0 ≤ L0
  b0 : L0.natAbs < 2 ^ S
  b1 : L1.natAbs < 2 ^ S
  b2 : W0.natAbs < 2 ^ S
  b3 : W1.natAbs < 2 ^ S
  hw : 2 * (L1 * W1) ≤ W0 * L1 * 2 ^ S
theorem hi_size {L0 L1 W0 W1 : Int} {S : Nat} (A : Spn S L0 L1 W0 W1) : (L0 * W1 + W0 * L1).natAbs < 2 ^ (S + S + 1) := by
  have m1 := mulnt A.b0 A.b3
  have m2 := mulnt A.b2 A.b1
  have : (L0 * W1 + W0 * L1).natAbs ≤ (L0 * W1).natAbs + (W0 * L1).natAbs := Int.natAbs_add_le _ _
  rw [Nat.pow_succ]
  omega
/-- the bits of a span -/
theorem p_bits_of {L0 L1 W0 W1 : Int} {S : Nat} (A : Spn S L0 L1 W0 W1) :
    ∃ (m : Nat) (N : Int), m_bits_of (L0, L1) (W0, W1) = .ok (bitsL N m) ∧ m ≤ S ∧ Up (L0 * 2 ^ m) L1 N ∧ Fin (L0 * W1) (W0 * L1) (L1 * W1) N m ∧ (0 < m → ∃ N', Up (L0 * 2 ^ (m - 1)) L1 N' ∧ ¬ Fin (L0 * W1) (W0 * L1) (L1 * W1) N' (m - 1)) := by
  have hi := hi_size A
  obtain ⟨hS0, hS, h1, h2, s, l0, b0, b1, b2, b3, hw⟩ := A
  unfold m_bits_of
  simp only [M.lt_eq]
  have mm := mulnt b1 b3
  rw [M.gd_of _ (mulOk_i S S b0 b3 hS0 hS0 (by omega)), M.gd_of _ (mulOk_i S S b2 b1 hS0 hS0 (by omega)), M.gd_of _ (mulOk_i S S b1 b3 hS0 hS0 (by omega))]
  have p1 : 0 < L1 * W1 := Int.mul_pos h1 h2
  have nlt : ∀ (m : Nat) (N : Int), m ≤ S → Up (L0 * 2 ^ m) L1 N → 0 ≤ N ∧ (N + 1).natAbs < 2 ^ (S + (S + 1) + 1) := fun m N hm hu => up_size h1 l0 b0 hm hu
  refine bind_while (Q := fun q => ∃ (m : Nat) (N : Int), q = .ok (bitsL N m) ∧ m ≤ S ∧ Up (L0 * 2 ^ m) L1 N ∧ Fin (L0 * W1) (W0 * L1) (L1 * W1) N m ∧ (0 < m → ∃ N', Up (L0 * 2 ^ (m - 1)) L1 N' ∧ ¬ Fin (L0 * W1) (W0 * L1) (L1 * W1) N' (m - 1)))
    (fun s => ∃ m : Nat, s.1 = (m : Int) ∧ m ≤ S ∧ Up (L0 * 2 ^ m) L1 s.2 ∧ (0 < m → ∃ N', Up (L0 * 2 ^ (m - 1)) L1 N' ∧ ¬ Fin (L0 * W1) (W0 * L1) (L1 * W1) N' (m - 1))) (fun s => S - s.1.toNat) ⟨0, rfl, by omega, ?_, fun z => absurd z (by decide)⟩ (by show S - (0 : Int).toNat < 100000; omega) (fun st hst => ?_) (fun st hst hc => ?_)
  · -- at the begin
    show Up (L0 * 2 ^ 0) L1 (if (decide (L0 = 0)) = true then 0 else 1)
    rw [Int.pow_zero, Int.mul_one]
    have lt1 : L0 < L1 := by
      have := s.top; have := s.wd0
      exact Int.lt_of_mul_lt_mul_right (a := W1) (by omega) (by omega)
    by_cases e : L0 = 0
    · rw [if_pos (by simpa using e)]
      exact ⟨by omega, by omega⟩
    · rw [if_neg (by simpa using e)]
      exact ⟨by omega, by omega⟩
  · obtain ⟨s1, N⟩ := st
    obtain ⟨m, e1, hm, hu, hp⟩ := hst
    simp only at e1 hu
    subst e1
    obtain ⟨n0, n1⟩ := nlt m N hm hu
    have g1 : mulOk (N + 1) (L1 * W1) = true := mulOk_i (S + (S + 1) + 1) (S + S) n1 mm (by omega) (by omega) (by omega)
    have g2 : shlOk (L0 * W1 + W0 * L1) (m : Int) = true := shl_i hi (by omega) (by omega)
    simp only [Int.toNat_natCast]
    rw [M.gd_of _ g1, M.gd_of _ g2]
    by_cases hf : Fin (L0 * W1) (W0 * L1) (L1 * W1) N m
    · left
      have : ¬ (L0 * W1 + W0 * L1) * 2 ^ m < (N + 1) * (L1 * W1) := by unfold Fin at hf; omega
      rw [decide_eq_false this]
    · right
      have hlt : (L0 * W1 + W0 * L1) * 2 ^ m < (N + 1) * (L1 * W1) := by unfold Fin at hf; omega
      have hm2 : m < S := by
        rcases Nat.lt_or_ge m S with q | q
        · exact q
        · have e : m = S := by omega
          subst e
          have hu2 := hu.scale h2
          exact (hf (fin_at s (by rw [show L0 * W1 * 2 ^ m = L0 * 2 ^ m * W1 by grind]; exact hu2) hw)).elim
      rw [decide_eq_true hlt]
      refine ⟨rfl, (((m : Int) + 1), cdv (L0 * 2 ^ (m + 1)) L1), ?_, ⟨m + 1, by simp, by omega, cdv_up h1, fun _ => ⟨N, by rw [Nat.add_sub_cancel]; exact hu, by rw [Nat.add_sub_cancel]; exact hf⟩⟩, ?_⟩
      · rw [show ((m : Int) + 1) = ((m + 1 : Nat) : Int) by omega, M.gd_of _ (shl_i b0 hS0 (by omega)), M.gd_of _ (divOk_i h1 (log2_9000 b1 (by omega))), Int.toNat_natCast]
        rfl
      · show S - ((m : Int) + 1).toNat < S - ((m : Int)).toNat
        omega
  · obtain ⟨s1, N⟩ := st
    obtain ⟨m, e1, hm, hu, hp⟩ := hst
    simp only at e1 hu
    subst e1
    obtain ⟨n0, n1⟩ := nlt m N hm hu
    have g1 : mulOk (N + 1) (L1 * W1) = true := mulOk_i (S + (S + 1) + 1) (S + S) n1 mm (by omega) (by omega) (by omega)
    have g2 : shlOk (L0 * W1 + W0 * L1) (m : Int) = true := shl_i hi (by omega) (by omega)
    simp only [Int.toNat_natCast] at hc
    rw [M.gd_of _ g1, M.gd_of _ g2] at hc
    have hc2 := of_decide_eq_false (M.ok.inj hc)
    refine ⟨m, N, ?_, hm, hu, by unfold Fin; omega, hp⟩
    show M.bind (m_in_twos N (m : Int)) _ = _
    rw [p_in_twos n0 (by omega), M.bind_ok]
/-- few enough -/
theorem p_few {L0 L1 W0 W1 : Int} {S m : Nat} (A : Spn S L0 L1 W0 W1) (pv : 0 < m → ∃ N', Up (L0 * 2 ^ (m - 1)) L1 N' ∧ ¬ Fin (L0 * W1) (W0 * L1) (L1 * W1) N' (m - 1)) : W0 * 2 ^ m < 4 * W1 := by
  obtain ⟨hS0, hS, h1, h2, s, l0, b0, b1, b2, b3, hw⟩ := A
  by_cases hm0 : m = 0
  · subst hm0
    rw [Int.pow_zero, Int.mul_one]
    have := s.top
    have := s.lo0
    have h : W0 * L1 ≤ W1 * L1 := by rw [Int.mul_comm W1]; omega
    have := Int.le_of_mul_le_mul_right h h1
    omega
  · obtain ⟨N', u1, u2⟩ := pv (by omega)
    have u3 : Up (L0 * W1 * 2 ^ (m - 1)) (L1 * W1) N' := by
      rw [show L0 * W1 * 2 ^ (m - 1) = L0 * 2 ^ (m - 1) * W1 by grind]; exact u1.scale h2
    rcases Int.lt_or_le (W0 * 2 ^ m) (4 * W1) with q | q
    · exact q
    · refine (u2 (fin_at s u3 ?_)).elim
      have e : (2 : Int) ^ m = 2 ^ (m - 1) * 2 := by rw [← Int.pow_succ, Nat.succ_eq_add_one, show m - 1 + 1 = m by omega]
      rw [e] at q
      have q2 : 2 * W1 ≤ W0 * 2 ^ (m - 1) := by
        have : W0 * (2 ^ (m - 1) * 2) = W0 * 2 ^ (m - 1) * 2 := by grind
        omega
      have := Int.mul_le_mul_of_nonneg_right q2 (Int.le_of_lt h1)
      have e1 : 2 * W1 * L1 = 2 * (L1 * W1) := by grind
      have e2 : W0 * 2 ^ (m - 1) * L1 = W0 * L1 * 2 ^ (m - 1) := by grind
      omega

end B
namespace B
open PySem PySem.Spec PyProof.Rows L2
theorem spn_of {lo wd wh : Int} (a0 : 0 ≤ lo) (a1 : 0 < wd) (a2 : lo + wd ≤ wh) (a3 : wh ≤ 512 ^ 700) : Spn 6301 (ftop lo wh) (fbot lo wh) (ftop wd wh) (fbot wd wh) := by
  have w0 : 0 < wh := by omega
  have wn : wh ≠ 0 := by omega
  have zh : wh.natAbs < 2 ^ 6301 := nat_of (n := 700) (Int.le_of_lt w0) a3
  have zl : lo.natAbs < 2 ^ 6301 := nat_of (n := 700) a0 (by omega)
  have zw : wd.natAbs < 2 ^ 6301 := nat_of (n := 700) (Int.le_of_lt a1) (by omega)
  have c0 := f_cross lo wh
  have c1 := f_cross wd wh
  have p1 := fbot_pos lo wh wn
  have p2 := fbot_pos wd wh wn
  have s0 := ftop_lt' (b := wh) zl
  have s1 := fbot_lt' (t := lo) zh
  have s2 := ftop_lt' (b := wh) zw
  have s3 := fbot_lt' (t := wd) zh
  have wh2 : 2 * wh ≤ 2 ^ 6301 := by
    have e : (512 : Int) ^ 700 = 2 ^ (9 * 700) := p512two 700
    have e2 : (2 : Int) ^ 6301 = 2 ^ (9 * 700) * 2 := Int.pow_succ 2 6300
    rw [e] at a3
    rw [e2]
    generalize (2 : Int) ^ (9 * 700) = z at *
    omega
  clear a3 zh zl zw
  generalize hS : 6301 = S at *
  generalize ftop lo wh = L0 at *
  generalize fbot lo wh = L1 at *
  generalize ftop wd wh = W0 at *
  generalize fbot wd wh = W1 at *
  have l0 : 0 ≤ L0 := by
    rcases Int.lt_or_le L0 0 with q | q
    · have h1 := Int.mul_lt_mul_of_pos_right q w0
      have h2 := Int.mul_nonneg a0 (Int.le_of_lt p1)
      omega
    · exact q
  have d0 : 0 < W0 := by
    rcases Int.lt_or_le 0 W0 with q | q
    · exact q
    · have h1 := Int.mul_le_mul_of_nonneg_right q (Int.le_of_lt w0)
      have h2 := Int.mul_pos a1 p2
      omega
  refine ⟨by omega, by omega, p1, p2, ⟨Int.mul_nonneg l0 (Int.le_of_lt p2), Int.mul_pos d0 p1, ?_⟩, l0, s0, s1, s2, s3, ?_⟩
  · refine Int.le_of_mul_le_mul_right (a := wh) ?_ w0
    have e1 : (L0 * W1 + W0 * L1) * wh = L0 * wh * W1 + W0 * wh * L1 := by grind
    rw [e1, c0, c1]
    have h := Int.mul_le_mul_of_nonneg_right a2 (Int.le_of_lt (Int.mul_pos p1 p2))
    have e2 : (lo + wd) * (L1 * W1) = lo * L1 * W1 + wd * W1 * L1 := by grind
    have e3 : wh * (L1 * W1) = L1 * W1 * wh := by grind
    omega
  · refine Int.le_of_mul_le_mul_right (a := wh) ?_ w0
    have e1 : W0 * L1 * 2 ^ S * wh = W0 * wh * (L1 * 2 ^ S) := by grind
    rw [e1, c1]
    have h1 : 2 * wh * (W1 * L1) ≤ 2 ^ S * (W1 * L1) := Int.mul_le_mul_of_nonneg_right wh2 (Int.le_of_lt (Int.mul_pos p2 p1))
    have h2 : 1 * (2 ^ S * (W1 * L1)) ≤ wd * (2 ^ S * (W1 * L1)) := Int.mul_le_mul_of_nonneg_right (by omega) (Int.mul_nonneg (Int.le_of_lt (Int.pow_pos (by decide))) (Int.le_of_lt (Int.mul_pos p2 p1)))
    have e2 : 2 * (L1 * W1) * wh = 2 * wh * (W1 * L1) := by grind
    have e3 : wd * W1 * (L1 * 2 ^ S) = wd * (2 ^ S * (W1 * L1)) := by grind
    omega

/-- the stretch of bits that tell a number -/
theorem p_stretch {N : Int} {m : Nat} (n0 : 0 ≤ N) (n1 : N < 2 ^ m) (hm : m ≤ 3000) : m_stretch (tx (bitsL N m)) = .ok ((ftop N (2 ^ m), fbot N (2 ^ m)), (ftop 1 (2 ^ m), fbot 1 (2 ^ m))) := by
  unfold m_stretch
  have hs : isStr (idd (tx (bitsL N m))) = true := rfl
  have hd : dlen (tx (bitsL N m)) = some m := by
    rw [dlen_tx (by rw [sizeLine_is, bitsL_len]; omega), bitsL_len]
  have p2 : (0 : Int) < 2 ^ m := Int.pow_pos (by decide)
  have z : ((2 : Int) ^ m).natAbs < 2 ^ (m + 1) := p2nat (Nat.le_refl _)
  have lg := log2_9000 z (by omega)
  rw [hs, if_neg (by decide), M.lt_eq, strOf_tx, M.ofO_some, M.bind_ok]
  refine bind_forN (Q := fun q => q = .ok ((ftop N (2 ^ m), fbot N (2 ^ m)), (ftop 1 (2 ^ m), fbot 1 (2 ^ m)))) (fun i s => s = N / 2 ^ (m - i)) ?_ (fun i x hx s hs => ?_) (fun s hs => ?_)
  · rw [Nat.sub_zero, Int.ediv_eq_zero_of_lt n0 n1]
  · have hi : i < m := by have := lt_of_get hx; rwa [bitsL_len] at this
    have hx2 : x = bitS N m i := by
      unfold bitsL at hx
      rw [List.getElem?_map, List.getElem?_range hi] at hx
      exact (Option.some.inj hx).symm
    subst hx2
    subst hs
    have e : N / 2 ^ (m - i) = N / 2 ^ (m - 1 - i) / 2 := by
      rw [Int.ediv_ediv_of_nonneg (Int.le_of_lt (Int.pow_pos (by decide))), ← Int.pow_succ, Nat.succ_eq_add_one, show m - 1 - i + 1 = m - i by omega]
    rw [e, show m - (i + 1) = m - 1 - i by omega]
    unfold bitS
    have h2 := Int.emod_nonneg (N / 2 ^ (m - 1 - i)) (b := 2) (by decide)
    have h3 := Int.emod_lt_of_pos (N / 2 ^ (m - 1 - i)) (b := 2) (by decide)
    generalize N / 2 ^ (m - 1 - i) = q at *
    by_cases h1 : q % 2 = 1
    · rw [if_pos h1]
      refine ⟨_, rfl, ?_⟩
      simp
      omega
    · rw [if_neg h1]
      refine ⟨_, rfl, ?_⟩
      simp
      omega
  · rw [bitsL_len, Nat.sub_self, Int.pow_zero, Int.ediv_one] at hs
    subst hs
    have sh : shlOk (1 : Int) (m : Int) = true := shl_i (m := 1) (by decide) (by decide) (by omega)
    rw [hd]
    simp only [M.ofO_some, M.bind_ok]
    rw [M.gd_of _ sh, Int.toNat_natCast, Int.one_mul, p_fraction (by omega) lg, M.nox_ok, M.bind_ok, M.gd_of _ sh, p_fraction (by omega) lg, M.nox_ok, M.bind_ok]
theorem p_plus {a0 a1 b0 b1 : Int} {Z : Nat} (hZ0 : 0 < Z) (hZ : Z ≤ 4000) (za0 : a0.natAbs < 2 ^ Z) (za1 : a1.natAbs < 2 ^ Z) (zb0 : b0.natAbs < 2 ^ Z) (zb1 : b1.natAbs < 2 ^ Z) (h1 : 0 < a1) (h2 : 0 < b1) :
    m_plus (a0, a1) (b0, b1) = .ok (ftop (a0 * b1 + b0 * a1) (a1 * b1), fbot (a0 * b1 + b0 * a1) (a1 * b1)) := by
  unfold m_plus
  have p := Int.mul_pos h1 h2
  have lg := log2_9000 (mulnt za1 zb1) (by omega)
  dsimp only
  rw [M.gd_of _ (mulOk_i Z Z za0 zb1 hZ0 hZ0 (by omega)), M.gd_of _ (mulOk_i Z Z zb0 za1 hZ0 hZ0 (by omega)), M.gd_of _ (mulOk_i Z Z za1 zb1 hZ0 hZ0 (by omega)), p_fraction (by omega) lg, M.bind_ok]


/-- the states ahead of a text's first sign -/
structure Go (L : List Nat) (D : Nat) (ahead : List Nat) (t0 b0 : Int) (kn0 : List (List Nat × En)) : Prop where
  F : Fr L D
  kn : m_known_of (L, (D : Int)) ahead = .ok kn0
  w : m_weight_pair (L, (D : Int)) kn0 = .ok (t0, b0)
  tp : 0 < t0
  tb : t0 ≤ b0
  mem : ∀ c ∈ ahead, c ∈ L
  e : (ent L.length kn0 []).2.2.1 = t0
  z : Way L D ahead t0 b0 kn0 [] kn0 0 1
theorem p_start {L : List Nat} {D : Nat} {ahead : List Nat} (F : Fr L D) (hn : ahead.length ≤ 120) (hz : ahead.length * (D + 1) ≤ 700) (h1 : ∀ c ∈ ahead, c ∈ L) : ∃ t0 b0 kn0, Go L D ahead t0 b0 kn0 := by
  have k1 := p_known F (by omega) hz h1
  obtain ⟨k2, k3⟩ := kn_ok F ahead (by omega) h1
  change Ckn L D ahead.length (ent L.length (knT L D ahead)) at k2
  have k4 : knT L D ahead = knT L D (ahead ++ []) := by rw [List.append_nil]
  generalize hk : knT L D ahead = kn at *
  have st : St L D (ent L.length kn []).2.2.1 (ent L.length kn []).2.2.2 ahead.length kn 0 1 := ⟨k2, k3, by decide, by rw [Int.mul_one], Int.le_refl _, by rw [Int.mul_one]; omega⟩
  refine ⟨(ent L.length kn []).2.2.1, (ent L.length kn []).2.2.2, kn, ⟨F, k1, p_weight F.l6, k2.p1 _, k2.p2 _, h1, rfl, ⟨st, k4, (fun c hc => by cases hc), ?_, ?_⟩⟩⟩
  · show M.ok _ = M.ok _
    rw [List.append_nil]
  · intro l0 l1 h0 h1 Z _ _ _ _ _ _ _ _ _ _ _ ks hks
    cases ks with
    | nil => exact rfl
    | cons k ks => cases hks
section
variable {L : List Nat} {D : Nat} {ahead t : List Nat} {t0 b0 low r : Int} {kn0 kn : List (List Nat × En)}
theorem at_text (g : Go L D ahead t0 b0 kn0) : ∀ (xs : List Nat) {t : List Nat} {kn : List (List Nat × En)} {low r : Int}, Way L D ahead t0 b0 kn0 t kn low r → ahead.length + t.length + xs.length ≤ 120 → (ahead.length + t.length + xs.length) * (D + 1) ≤ 700 → (∀ c ∈ xs, c ∈ L) → ∃ kn' low' r', Way L D ahead t0 b0 kn0 (t ++ xs) kn' low' r'
  | [], t, kn, low, r, a, _, _, _ => ⟨kn, low, r, by rw [List.append_nil]; exact a⟩
  | x :: xs, t, kn, low, r, a, hn, hz, hx => by
    rw [List.length_cons] at hn hz
    have h1 : (ahead.length + t.length + 1) * (D + 1) ≤ (ahead.length + t.length + (xs.length + 1)) * (D + 1) := Nat.mul_le_mul_right _ (by omega)
    obtain ⟨f, ρ, _, _, _, h⟩ := at_step g.F a g.tp g.tb g.mem (by omega) (by omega)
    have hq : L.idxOf x < L.length := List.idxOf_lt_length_of_mem (hx x List.mem_cons_self)
    obtain ⟨kn', a', _⟩ := h _ hq
    rw [List.getElem_idxOf hq] at a'
    have hl : (t ++ [x]).length = t.length + 1 := by simp
    obtain ⟨kn2, low2, r2, a2⟩ := at_text g xs a' (by omega) (by rw [hl, show ahead.length + (t.length + 1) + xs.length = ahead.length + t.length + (xs.length + 1) by omega]; exact hz) (fun c hc => hx c (List.mem_cons_of_mem _ hc))
    rw [List.append_assoc] at a2
    exact ⟨kn2, low2, r2, a2⟩
theorem p_span_at (g : Go L D ahead t0 b0 kn0) (a : Way L D ahead t0 b0 kn0 t kn low r) (hz : (ahead.length + t.length) * (D + 1) ≤ 700) :
    ∃ top, (ent L.length kn []).2.2.1 = top ∧ 0 ≤ low ∧ 0 < top ∧ low + top ≤ r * t0 ∧ r * t0 ≤ 512 ^ 700 ∧ m_span (L, (D : Int)) t ahead = .ok ((ftop low (r * t0), fbot low (r * t0)), (ftop top (r * t0), fbot top (r * t0))) := by
  obtain ⟨s, hkne, hm, hsp, hfd⟩ := a
  have g1 := g.tp
  have g2 := g.tb
  have sr := s.r0
  have tp := s.c.p1 []
  have tz : b0 * r ≤ 512 ^ 700 := by rw [← s.bot]; exact Int.le_trans (s.c.pz []) (p512 (by omega))
  have hdv : b0 * r / b0 = r := Int.mul_ediv_cancel_left _ (by omega)
  have e : r * t0 = t0 * r := Int.mul_comm _ _
  have wp : 0 < r * t0 := Int.mul_pos sr g1
  have wz : r * t0 ≤ 512 ^ 700 := by
    have := Int.mul_le_mul_of_nonneg_right g2 (Int.le_of_lt sr)
    omega
  have rz : r ≤ 512 ^ 700 := by
    have : 1 * r ≤ b0 * r := Int.mul_le_mul_of_nonneg_right (by omega) (Int.le_of_lt sr)
    omega
  have b0z : b0 ≤ 512 ^ 700 := by
    have : b0 * 1 ≤ b0 * r := Int.mul_le_mul_of_nonneg_left (by omega) (by omega)
    omega
  have lg := log2_9000 (z512 (Int.le_of_lt wp) wz (Nat.le_refl _)) (by decide)
  refine ⟨_, rfl, s.low0, tp, by rw [e]; exact s.top, wz, ?_⟩
  rw [m_span_eq, p_checked g.mem, M.bind_ok, p_checked hm, M.bind_ok, g.kn, M.bind_ok, g.w, M.bind_ok, hsp, M.bind_ok, p_weight g.F.l6, M.bind_ok, s.bot]
  simp only [M.lt_eq]
  rw [hdv, M.gd_of _ (divOk_i (by omega) (log2_9000 (z512 (by omega) b0z (Nat.le_refl _)) (by decide))), M.gd_of _ (mulOk_i 6301 6301 (z512 (Int.le_of_lt sr) rz (Nat.le_refl _)) (z512 (Int.le_of_lt g1) (by omega) (Nat.le_refl _)) (by decide) (by decide) (by decide))]
  rw [p_fraction (by omega) lg, M.nox_ok, M.bind_ok, p_fraction (by omega) lg, M.nox_ok, M.bind_ok]
/-- the text's weight is half the worth of all its counts at least -/
theorem root_le {L : List Nat} {D N : Nat} {E : List Nat → En} (hI : Ckn L D N E) : (E []).2.2.2 * (E []).2.1.1 ≤ 2 * (E []).2.1.2 * (E []).2.2.1 := by
  have o1 := hI.o1 []
  have o2 := hI.o2 []
  have p1 := hI.p1 []
  by_cases hD : D = 0
  · have lf := hI.leaf [] (by rw [hD]; rfl)
    rw [lf]
    have h := Int.mul_le_mul_of_nonneg_left (show (0 : Int) ≤ (E []).2.1.1 by omega) (show (0 : Int) ≤ (E []).2.1.2 by omega)
    have e : 2 * (E []).2.1.2 * (E []).2.1.1 = (E []).2.1.2 * (E []).2.1.1 + (E []).2.1.2 * (E []).2.1.1 := by grind
    omega
  · obtain ⟨g, g0, _, g3, g4⟩ := hI.inner [] (by show 0 < D; omega)
    have pT : 0 < prT L (fun q => (E q).2.2) [] := prodL_pos fun b _ => hI.p1 _
    generalize prT L (fun q => (E q).2.2) [] = T at *
    generalize prB L (fun q => (E q).2.2) [] = B at *
    refine Int.le_of_mul_le_mul_left (a := g) ?_ g0
    have e1 : g * ((E []).2.2.2 * (E []).2.1.1) = g * (E []).2.2.2 * (E []).2.1.1 := by grind
    have e2 : g * (2 * (E []).2.1.2 * (E []).2.2.1) = 2 * (E []).2.1.2 * (g * (E []).2.2.1) := by grind
    rw [e1, e2, ← g4, ← g3]
    have h := Int.mul_nonneg (Int.mul_nonneg (show (0 : Int) ≤ 2 * (E []).2.1.2 by omega) (Int.le_of_lt pT)) (show (0 : Int) ≤ (E []).2.1.2 by omega)
    have e3 : 2 * (E []).2.1.2 * ((E []).2.1.1 * B + T * (E []).2.1.2) = 2 * (E []).2.1.2 * B * (E []).2.1.1 + 2 * (E []).2.1.2 * T * (E []).2.1.2 := by grind
    omega
theorem p_press_at (g : Go L D ahead t0 b0 kn0) (a : Way L D ahead t0 b0 kn0 t kn low r) (hz : (ahead.length + t.length) * (D + 1) ≤ 700) :
    ∃ (m : Nat) (N : Int), m_press (L, (D : Int)) t ahead = .ok (bitsL N m) ∧ m ≤ 9 * (ahead.length + t.length) + 3 ∧ 0 ≤ N ∧ N < 2 ^ m ∧ low * 2 ^ m ≤ N * (r * t0) ∧ (N + 1) * (r * t0) ≤ (low + (ent L.length kn []).2.2.1) * 2 ^ m ∧ (ent L.length kn []).2.2.1 * 2 ^ m < 4 * (r * t0) := by
  obtain ⟨top, e, s0, s1, s2, s3, s4⟩ := p_span_at g a hz
  rw [e]
  have A := spn_of s0 s1 s2 s3
  obtain ⟨m, N, b1, b2, b3, b4, b5⟩ := p_bits_of A
  have hf := p_few A b5
  have w0 : 0 < r * t0 := by omega
  have hle := root_le a.st.c
  have ho1 := a.st.c.o1 []
  have hoz := a.st.c.oz []
  have hbt : r * t0 ≤ (ent L.length kn []).2.2.2 := by
    rw [a.st.bot]
    have := Int.mul_le_mul_of_nonneg_right g.tb (Int.le_of_lt a.st.r0)
    have e7 : r * t0 = t0 * r := Int.mul_comm _ _
    omega
  rw [e] at hle
  generalize r * t0 = wh at *
  have c0 := f_cross low wh
  have c1 := f_cross top wh
  have n1 := n_lt A.sp b4
  have n0 := b3.nn A.h1 (Int.mul_nonneg A.l0 (Int.le_of_lt (Int.pow_pos (by decide))))
  have p1 := A.h1
  have p2 := A.h2
  unfold Fin at b4
  have few : top * 2 ^ m < 4 * wh := by
    clear b1 s4 A b5 s3
    generalize ftop top wh = W0 at *
    generalize fbot top wh = W1 at *
    generalize (2 : Int) ^ m = P at *
    refine Int.lt_of_mul_lt_mul_right (a := W1) ?_ (Int.le_of_lt p2)
    have h := Int.mul_lt_mul_of_pos_right hf w0
    have e1 : W0 * P * wh = W0 * wh * P := by grind
    rw [c1] at e1
    have e2 : top * P * W1 = top * W1 * P := by grind
    have e3 : 4 * wh * W1 = 4 * W1 * wh := by grind
    omega
  refine ⟨m, N, ?_, ?_, n0, n1, ?_, ?_, few⟩
  · unfold m_press
    rw [s4, M.bind_ok]
    dsimp only
    rw [b1, M.bind_ok]
  · generalize hNN : ahead.length + t.length = Z at *
    have h1 : (ent L.length kn []).2.2.2 * 1 ≤ (ent L.length kn []).2.2.2 * (ent L.length kn []).2.1.1 := Int.mul_le_mul_of_nonneg_left (by omega) (by omega)
    have h2 : (ent L.length kn []).2.1.2 * top ≤ 512 ^ Z * top := Int.mul_le_mul_of_nonneg_right hoz (Int.le_of_lt s1)
    have h3 : 2 * (ent L.length kn []).2.1.2 * top = 2 * ((ent L.length kn []).2.1.2 * top) := by grind
    have h4 : top * 2 ^ m < top * (8 * 512 ^ Z) := by
      have : top * (8 * 512 ^ Z) = 8 * (512 ^ Z * top) := by grind
      omega
    have h5 : (2 : Int) ^ m < 8 * 512 ^ Z := Int.lt_of_mul_lt_mul_left h4 (Int.le_of_lt s1)
    rw [p512two, show (8 : Int) = 2 ^ 3 from rfl, ← Int.pow_add] at h5
    have h6 : 2 ^ m < 2 ^ (3 + 9 * Z) := by
      have e1 : ((2 ^ m : Nat) : Int) = (2 : Int) ^ m := by simp
      have e2 : ((2 ^ (3 + 9 * Z) : Nat) : Int) = (2 : Int) ^ (3 + 9 * Z) := by simp
      omega
    have := (Nat.pow_lt_pow_iff_right (a := 2) (by decide)).mp h6
    omega
  all_goals
    clear b1 s4 A b5 s3
    generalize ftop low wh = L0 at *
    generalize fbot low wh = L1 at *
    generalize ftop top wh = W0 at *
    generalize fbot top wh = W1 at *
    generalize (2 : Int) ^ m = P at *
  · refine Int.le_of_mul_le_mul_right (a := L1) ?_ p1
    have h := Int.mul_le_mul_of_nonneg_right b3.1 (Int.le_of_lt w0)
    have e1 : L0 * P * wh = L0 * wh * P := by grind
    have e2 : low * P * L1 = low * L1 * P := by grind
    have e3 : N * wh * L1 = N * L1 * wh := by grind
    rw [c0] at e1
    omega
  · refine Int.le_of_mul_le_mul_right (a := L1 * W1) ?_ (Int.mul_pos p1 p2)
    have h := Int.mul_le_mul_of_nonneg_right b4 (Int.le_of_lt w0)
    have e1 : (L0 * W1 + W0 * L1) * P * wh = (L0 * wh * W1 + W0 * wh * L1) * P := by grind
    rw [c0, c1] at e1
    have e2 : (low * L1 * W1 + top * W1 * L1) * P = (low + top) * P * (L1 * W1) := by grind
    have e3 : (N + 1) * wh * (L1 * W1) = (N + 1) * (L1 * W1) * wh := by grind
    omega
/-- a stretch within a text's span is read to that text -/
theorem p_found_bits {N : Int} {m : Nat} (g : Go L D ahead t0 b0 kn0) (a : Way L D ahead t0 b0 kn0 t kn low r) (hl : t.length ≤ 1000) (hm : m ≤ 3000) (n0 : 0 ≤ N) (n1 : N < 2 ^ m) (lo : low * 2 ^ m ≤ N * (r * t0)) (hi : (N + 1) * (r * t0) ≤ (low + (ent L.length kn []).2.2.1) * 2 ^ m) :
    m_found_text (L, (D : Int)) (t.length : Int) (ftop N (2 ^ m), fbot N (2 ^ m)) (ftop 1 (2 ^ m), fbot 1 (2 ^ m)) ahead = .ok (some t) := by
  have pp : (0 : Int) < 2 ^ m := Int.pow_pos (by decide)
  have zP := p2nat (Nat.le_refl m)
  have zN : N.natAbs < 2 ^ (m + 1) := by
    rw [Nat.pow_succ]
    have e : ((2 ^ m : Nat) : Int) = (2 : Int) ^ m := by simp
    omega
  have z1 : (1 : Int).natAbs < 2 ^ (m + 1) := by
    rw [Nat.pow_succ]
    have : 0 < 2 ^ m := Nat.pow_pos (by decide)
    show 1 < _
    omega
  have zl0 := ftop_lt' (b := 2 ^ m) zN
  have zl1 := fbot_lt' (t := N) zP
  have zw0 := ftop_lt' (b := 2 ^ m) z1
  have zw1 := fbot_lt' (t := 1) zP
  have c0 := f_cross N (2 ^ m)
  have c1 := f_cross 1 (2 ^ m)
  have p1 := fbot_pos N (2 ^ m) (by omega)
  have p2 := fbot_pos 1 (2 ^ m) (by omega)
  have hp := p_plus (Z := m + 1) (by omega) (by omega) zl0 zl1 zw0 zw1 p1 p2
  generalize ftop N (2 ^ m) = l0 at *
  generalize fbot N (2 ^ m) = l1 at *
  generalize ftop 1 (2 ^ m) = w0 at *
  generalize fbot 1 (2 ^ m) = w1 at *
  have bp : 0 < l1 * w1 := Int.mul_pos p1 p2
  have c2 := f_cross (l0 * w1 + w0 * l1) (l1 * w1)
  have p3 := fbot_pos (l0 * w1 + w0 * l1) (l1 * w1) (by omega)
  have zA : (l0 * w1 + w0 * l1).natAbs < 2 ^ (m + 1 + (m + 1) + 1) := by
    have q1 := mulnt zl0 zw1
    have q2 := mulnt zw0 zl1
    rw [Nat.pow_succ]
    omega
  have zh0 := ftop_lt' (b := l1 * w1) zA
  have zh1 := fbot_lt' (t := l0 * w1 + w0 * l1) (mulnt zl1 zw1)
  rw [m_found_eq, g.kn, M.bind_ok, g.w, M.bind_ok, hp, M.nox_ok, M.bind_ok, M.gd_of _ (rngOk_i (by omega) (by omega) (by omega) (by omega)), Int.toNat_natCast]
  generalize ftop (l0 * w1 + w0 * l1) (l1 * w1) = h0 at *
  generalize fbot (l0 * w1 + w0 * l1) (l1 * w1) = h1 at *
  have up : ∀ {x : Int} {k : Nat}, x.natAbs < 2 ^ k → k ≤ 8000 → x.natAbs < 2 ^ 8000 := fun h1 h2 => lg2 h1 h2
  have w0p : 0 < w0 := by
    rcases Int.lt_or_le 0 w0 with q | q
    · exact q
    · have := Int.mul_le_mul_of_nonneg_right q (Int.le_of_lt pp)
      omega
  have fd := a.fd l0 l1 h0 h1 8000 (by decide) (Nat.le_refl _) (up zl0 (by omega)) (up zl1 (by omega)) (up zh0 (by omega)) (up zh1 (by omega)) p1 p3 ?_ ?_ ?_ (rng 0 1 t.length) (rng_len _ _ _)
  · rw [fsteps_forF fd, M.seqT_nx]
  all_goals
    clear up zh0 zh1 zl0 zl1 zw0 zw1 zA zN zP z1 hp
    generalize (2 : Int) ^ m = P at *
  · refine Int.lt_of_mul_lt_mul_right (a := w1) ?_ (Int.le_of_lt p2)
    have h := Int.mul_pos (Int.mul_pos w0p p1) p3
    have e1 : h0 * l1 * w1 = h0 * (l1 * w1) := by grind
    rw [c2] at e1
    have e2 : (l0 * w1 + w0 * l1) * h1 = l0 * h1 * w1 + w0 * l1 * h1 := by grind
    omega
  · refine Int.le_of_mul_le_mul_right (a := P) ?_ pp
    have h := Int.mul_le_mul_of_nonneg_right lo (Int.le_of_lt p1)
    have e1 : low * l1 * P = low * P * l1 := by grind
    have e2 : l0 * (r * t0) * P = l0 * P * (r * t0) := by grind
    rw [c0] at e2
    have e3 : N * l1 * (r * t0) = N * (r * t0) * l1 := by grind
    omega
  · refine Int.le_of_mul_le_mul_right (a := l1 * w1 * P) ?_ (Int.mul_pos bp pp)
    generalize (ent L.length kn []).2.2.1 = top at *
    have h := Int.mul_le_mul_of_nonneg_right hi (Int.le_of_lt (Int.mul_pos bp p3))
    have e1 : h0 * (r * t0) * (l1 * w1 * P) = h0 * (l1 * w1) * (r * t0) * P := by grind
    rw [c2] at e1
    have e2 : (l0 * w1 + w0 * l1) * h1 * (r * t0) * P = (l0 * P * w1 + w0 * P * l1) * (h1 * (r * t0)) := by grind
    rw [c0, c1] at e2
    have e3 : (N * l1 * w1 + 1 * w1 * l1) * (h1 * (r * t0)) = (N + 1) * (r * t0) * (l1 * w1 * h1) := by grind
    have e4 : (low + top) * h1 * (l1 * w1 * P) = (low + top) * P * (l1 * w1 * h1) := by grind
    omega
end

/-! ### bits that begin one another -/
theorem bitsL_take {N : Int} {m m' : Nat} (h : m' ≤ m) : (bitsL N m).take m' = bitsL (N / 2 ^ (m - m')) m' := by
  unfold bitsL
  apply List.ext_getElem
  · simp; omega
  · intro i h1 h2
    simp only [List.length_map, List.length_range] at h2
    simp only [List.getElem_take, List.getElem_map, List.getElem_range]
    unfold bitS
    rw [Int.ediv_ediv_of_nonneg (Int.le_of_lt (Int.pow_pos (by decide))), ← Int.pow_add, show m - m' + (m' - 1 - i) = m - 1 - i by omega]
theorem bitsL_inj {N N' : Int} {m : Nat} (hm : m ≤ 3000) (a0 : 0 ≤ N) (a1 : N < 2 ^ m) (b0 : 0 ≤ N') (b1 : N' < 2 ^ m) (h : bitsL N m = bitsL N' m) : N = N' := by
  have e1 := p_stretch a0 a1 hm
  have e2 := p_stretch b0 b1 hm
  rw [h, e2] at e1
  have e3 := M.ok.inj e1
  have e4 : ftop N' (2 ^ m) = ftop N (2 ^ m) := congrArg (fun x => x.1.1) e3
  have e5 : fbot N' (2 ^ m) = fbot N (2 ^ m) := congrArg (fun x => x.1.2) e3
  have pp : (0 : Int) < 2 ^ m := Int.pow_pos (by decide)
  have c1 := f_cross N (2 ^ m)
  have c2 := f_cross N' (2 ^ m)
  have p1 := fbot_pos N (2 ^ m) (by omega)
  rw [e4, e5, c1] at c2
  exact Int.eq_of_mul_eq_mul_right (by omega) c2
/-- a later stretch's bits don't begin with those of an earlier one, nor the other way about -/
theorem bits_apart {N N' : Int} {m m' : Nat} (hm : m ≤ 3000) (hm' : m' ≤ 3000) (a0 : 0 ≤ N) (a1 : N < 2 ^ m) (b0 : 0 ≤ N') (b1 : N' < 2 ^ m') (h : (N' + 1) * 2 ^ m ≤ N * 2 ^ m') : decide ((bitsL N m).take (bitsL N' m').length = bitsL N' m') = false ∧ decide ((bitsL N' m').take (bitsL N m).length = bitsL N m) = false := by
  have pp : ∀ k : Nat, (0 : Int) < 2 ^ k := fun k => Int.pow_pos (by decide)
  refine ⟨decide_eq_false fun e => ?_, decide_eq_false fun e => ?_⟩
  · have hl := congrArg List.length e
    rw [List.length_take, bitsL_len, bitsL_len] at hl
    have hle : m' ≤ m := by omega
    rw [bitsL_len, bitsL_take hle] at e
    have sp : (2 : Int) ^ m = 2 ^ m' * 2 ^ (m - m') := by rw [← Int.pow_add, show m' + (m - m') = m by omega]
    have q0 := pp (m - m')
    have d0 : 0 ≤ N / 2 ^ (m - m') := Int.ediv_nonneg a0 (Int.le_of_lt q0)
    have d1 : N / 2 ^ (m - m') < 2 ^ m' := Int.ediv_lt_of_lt_mul q0 (by rw [← sp]; exact a1)
    have ee := bitsL_inj hm' d0 d1 b0 b1 e
    have h3 := Int.lt_ediv_add_one_mul_self N q0
    rw [ee] at h3
    have q1 := pp m'
    rw [sp] at h
    have h4 : (N' + 1) * 2 ^ (m - m') * 2 ^ m' ≤ N * 2 ^ m' := by
      have : (N' + 1) * 2 ^ (m - m') * 2 ^ m' = (N' + 1) * (2 ^ m' * 2 ^ (m - m')) := by grind
      omega
    have := Int.le_of_mul_le_mul_right h4 q1
    omega
  · have hl := congrArg List.length e
    rw [List.length_take, bitsL_len, bitsL_len] at hl
    have hle : m ≤ m' := by omega
    rw [bitsL_len, bitsL_take hle] at e
    have sp : (2 : Int) ^ m' = 2 ^ m * 2 ^ (m' - m) := by rw [← Int.pow_add, show m + (m' - m) = m' by omega]
    have q0 := pp (m' - m)
    have d0 : 0 ≤ N' / 2 ^ (m' - m) := Int.ediv_nonneg b0 (Int.le_of_lt q0)
    have d1 : N' / 2 ^ (m' - m) < 2 ^ m := Int.ediv_lt_of_lt_mul q0 (by rw [← sp]; exact b1)
    have ee := bitsL_inj hm d0 d1 a0 a1 e
    have h3 := Int.ediv_mul_le N' (b := 2 ^ (m' - m)) (by omega)
    rw [ee] at h3
    have q1 := pp m
    rw [sp] at h
    have h4 : (N' + 1) * 2 ^ m ≤ N * 2 ^ (m' - m) * 2 ^ m := by
      have : N * 2 ^ (m' - m) * 2 ^ m = N * (2 ^ m * 2 ^ (m' - m)) := by grind
      omega
    have := Int.le_of_mul_le_mul_right h4 q1
    omega

theorem p_read {L : List Nat} {D : Nat} {ahead t : List Nat} {t0 b0 low r : Int} {kn0 kn : List (List Nat × En)} {N : Int} {m : Nat} (g : Go L D ahead t0 b0 kn0) (a : Way L D ahead t0 b0 kn0 t kn low r) (hl : ahead.length + t.length ≤ 100) (hp : m_press (L, (D : Int)) t ahead = .ok (bitsL N m)) (hm : m ≤ 1801) (n0 : 0 ≤ N) (n1 : N < 2 ^ m) (lo : low * 2 ^ m ≤ N * (r * t0)) (hi : (N + 1) * (r * t0) ≤ (low + (ent L.length kn []).2.2.1) * 2 ^ m) :
    m_read (L, (D : Int)) (t.length : Int) (bitsL N m) ahead = .ok t := by
  unfold m_read
  rw [p_checked g.mem, M.bind_ok, p_stretch n0 n1 (by omega), M.bind_ok, M.gd_of _ (lenOk_i (by omega)), if_neg (by simp; omega)]
  dsimp only
  rw [p_found_bits g a (by omega) (by omega) n0 n1 lo hi, M.bind_ok, if_neg (by simp), M.ofO_some, M.bind_ok, hp, M.nox_ok, M.bind_ok, M.nox_ok, M.bind_ok, if_neg (by simp)]
  rfl

end B
namespace B
open PySem PySem.Spec PyProof.Rows L2
def sg : List Nat := txt0
theorem sg_ok : ∀ c ∈ sg, 32 ≤ c ∧ c ≤ 126 ∧ c ≠ 37 := by decide +kernel
/-! ### letters as the program sees them -/
theorem forF_dec {α R L : Type} {f : α → Unit → M (Fl Unit Unit R)} {p : α → Bool} {r : R} : ∀ {xs : List α}, (∀ x ∈ xs, f x () = if p x = true then .ok (.nx ()) else .ok (.rt r)) → (forF f xs () : M (Fl Unit L R)) = if xs.all p = true then .ok (.nx ()) else .ok (.rt r)
  | [], _ => rfl
  | x :: xs, h => by
    unfold forF
    rw [h x List.mem_cons_self, List.all_cons]
    cases e : p x with
    | true => rw [if_pos rfl, Bool.true_and]; exact forF_dec fun y hy => h y (List.mem_cons_of_mem _ hy)
    | false => rw [if_neg (by decide), Bool.false_and, if_neg (by decide)]
def sOk (L : List Nat) (c : Nat) : Bool := decide (32 ≤ c) && decide (c ≤ 126) && !decide (c = 37) && decide (L.count c ≤ 1)
def good (L : List Nat) : Bool := decide (2 ≤ L.length) && decide (L.length ≤ 6) && L.all (sOk L)
theorem p_are_tx {L : List Nat} (hz : L.length ≤ 16777216) : m_are_letters (tx L) = .ok (good L) := by
  unfold m_are_letters
  have hd : dlen (tx L) = some L.length := dlen_tx (by rw [sizeLine_is]; exact hz)
  have hs : isStr (idd (tx L)) = true := rfl
  simp only [hd, M.ofO_some, M.bind_ok, strOf_tx, cntX_one, hs, Bool.not_true, Bool.false_eq_true, ↓reduceIte, M.nox_ok]
  unfold good
  by_cases h2 : 2 ≤ L.length
  · rw [if_neg (by simp; omega)]
    simp only [M.nox_ok, M.bind_ok]
    by_cases h6 : L.length ≤ 6
    · rw [decide_eq_true h2, decide_eq_true h6, if_neg (by simp; omega), forF_dec (p := sOk L) (r := false) (fun x _ => ?_)]
      · simp only [Bool.true_and]
        cases L.all (sOk L) <;> rfl
      · unfold sOk
        by_cases a1 : x < 32
        · rw [if_pos (by simp; omega)]
          have : ¬ 32 ≤ x := by omega
          simp [this]
        · rw [if_neg (by simp; omega)]
          by_cases a2 : 126 < x
          · rw [if_pos (by simp; omega)]
            have : ¬ x ≤ 126 := by omega
            simp [this]
          · rw [if_neg (by simp; omega)]
            by_cases a3 : x = 37
            · subst a3; rfl
            · rw [if_neg (by simp; omega)]
              have b1 : 32 ≤ x := by omega
              have b2 : x ≤ 126 := by omega
              simp only [M.nox_ok, M.bind_ok, b1, b2, a3, decide_true, decide_false, Bool.true_and, Bool.not_false]
              by_cases a4 : L.count x ≤ 1
              · rw [decide_eq_true a4, if_neg (by simp; omega)]; rfl
              · rw [decide_eq_false a4, if_pos (by simp; omega)]; rfl
    · rw [decide_eq_false h6, if_pos (by simp; omega)]
      simp
  · rw [decide_eq_false h2, if_pos (by simp; omega)]
    simp
theorem p_are_no {d : Dat} (h : isStr d = false) : m_are_letters d = .ok false := by
  unfold m_are_letters
  have hs : isStr (idd d) = false := h
  simp [hs]
theorem cnt1 {c : Nat} : ∀ {L : List Nat}, L.Nodup → L.count c ≤ 1
  | [], _ => by simp
  | a :: l, h => by
    rw [List.nodup_cons] at h
    by_cases e : a = c
    · subst e
      rw [List.count_cons_self, List.count_eq_zero_of_not_mem h.1]
      exact Nat.le_refl _
    · rw [List.count_cons_of_ne e]
      exact cnt1 h.2
theorem good_of {L : List Nat} (h2 : 2 ≤ L.length) (h6 : L.length ≤ 6) (hn : L.Nodup) (hm : ∀ x ∈ L, x ∈ sg) : good L = true := by
  unfold good
  rw [decide_eq_true h2, decide_eq_true h6]
  simp only [Bool.true_and]
  refine List.all_eq_true.mpr fun c hc => ?_
  obtain ⟨a, b, e⟩ := sg_ok c (hm c hc)
  have hcnt : L.count c ≤ 1 := cnt1 hn
  unfold sOk
  simp [a, b, e, hcnt]
theorem p_make {L : List Nat} {i : Int} (hz : L.length ≤ 16777216) (hg : good L = true) (h0 : 0 ≤ i) (h6 : i ≤ 6) : m_make_frame (tx L) (.int i) = .ok (L, i) := by
  unfold m_make_frame
  rw [p_are_tx hz, hg]
  have e : m_is_whole (.int i) = .ok true := rfl
  simp only [e, M.nox_ok, M.bind_ok, Bool.not_true, Bool.false_eq_true, ↓reduceIte, intOf_int, M.ofO_some, strOf_tx]
  rw [if_neg (by simp; omega)]
  simp only [M.nox_ok, M.bind_ok]
  rw [if_neg (by simp; omega), M.gd_of _ (show flat (Dat.int i) = true from rfl), M.gd_of _ (show flat (tx L) = true from rfl)]

/-! ### the drawn letters -/
theorem dg_len : txt0.length = 93 := by decide +kernel
theorem dg_nodup : txt0.Nodup := by decide +kernel
theorem dg_ok : ∀ c ∈ txt0, 32 ≤ c ∧ c ≤ 126 ∧ c ≠ 37 := by decide +kernel
theorem p_mixed {c k : Int} (h0 : 0 ≤ k) (h1 : k ≤ 10000) : ∃ v, m_law_mixed c k = .ok v ∧ 0 ≤ v ∧ v < 2147483249 := by
  unfold m_law_mixed
  have m1 := Int.emod_nonneg c (b := 998244353) (by decide)
  have m2 := Int.emod_lt_of_pos c (b := 998244353) (by decide)
  rw [M.gd_of _ (mulOk_r (by omega) (by omega)), M.gd_of _ (mulOk_r (by omega) (by omega))]
  refine ⟨_, rfl, ?_, ?_⟩ <;> omega
theorem p_lettersby (c : Int) : ∃ L, m_law_letters_by c = .ok L ∧ 2 ≤ L.length ∧ L.length ≤ 6 ∧ L.Nodup ∧ ∀ x ∈ L, x ∈ txt0 := by
  unfold m_law_letters_by
  simp only [M.lt_eq]
  obtain ⟨v0, b1, b2, b3⟩ := p_mixed (c := c) (k := 1) (by decide) (by decide)
  obtain ⟨n, hn⟩ : ∃ n : Nat, 2 + v0 % 5 = (n : Int) := ⟨(2 + v0 % 5).toNat, by omega⟩
  have n1 : 2 ≤ n ∧ n ≤ 6 := by omega
  obtain ⟨B, hB⟩ : ∃ B, c % 93 = B := ⟨_, rfl⟩
  have hB0 : 0 ≤ B ∧ B < 93 := by omega
  rw [b1, M.nox_ok, M.bind_ok, hn, M.gd_of _ (rngOk_i (by omega) (by omega) (by omega) (by omega)), Int.toNat_natCast, hB]
  refine bind_forN (s0 := (B, ([] : List Nat))) (Q := fun (m : M (List Nat)) => ∃ L, m = .ok L ∧ 2 ≤ L.length ∧ L.length ≤ 6 ∧ L.Nodup ∧ ∀ x ∈ L, x ∈ txt0) (fun (i : Nat) (s : Int × List Nat) => ∃ A : Int, s.1 = A % 93 ∧ B ≤ A ∧ A ≤ B + 15 * i ∧ s.2.length = i ∧ s.2.Nodup ∧ ∀ x ∈ s.2, ∃ p : Int, B ≤ p ∧ p < A ∧ txt0[(p % 93).toNat]? = some x) ⟨B, by show B = B % 93; omega, Int.le_refl _, by omega, rfl, List.nodup_nil, fun x hx => by cases hx⟩ (fun i x hx s hs => ?_) (fun s hs => ?_)
  · obtain ⟨at_, T⟩ := s
    obtain ⟨A, i0, i1, i2, i3, i4, i5⟩ := hs
    simp only at i0 i3 i4 i5
    have hi : i < n := by have := lt_of_get hx; rwa [rng_len] at this
    have hx2 : x = (i : Int) := by
      rw [List.getElem?_eq_getElem (by rw [rng_len]; exact hi), rng_get] at hx
      have := Option.some.inj hx
      omega
    subst hx2
    subst i0
    obtain ⟨w, w1, w2, w3⟩ := p_mixed (c := c) (k := 10 + (i : Int)) (by omega) (by omega)
    obtain ⟨v, v1, v2, v3⟩ := p_mixed (c := c) (k := 20 + (i : Int)) (by omega) (by omega)
    have l1 : lenOk T = true := lenOk_i (by omega)
    have r1 := Int.emod_nonneg v (b := 15) (by decide)
    have r2 := Int.emod_lt_of_pos v (b := 15) (by decide)
    have q1 := Int.emod_nonneg A (b := 93) (by decide)
    have q2 := Int.emod_lt_of_pos A (b := 93) (by decide)
    have s1 := Int.emod_nonneg w (b := (T.length : Int) + 1) (by omega)
    have hj : (A % 93).toNat < txt0.length := by rw [dg_len]; omega
    dsimp only
    rw [M.gd_of _ (lenOk_i (by rw [dg_len]; decide)), atI_i q1 hj, M.ofO_some, M.bind_ok, w1, M.nox_ok, M.bind_ok]
    simp only [M.gd_of _ l1]
    rw [M.gd_of _ (decide_eq_true (by omega))]
    have cl := cut_len2 T none (some (w % ((T.length : Int) + 1)))
    rw [M.gd_of _ (catOk_i (by simp; omega)), M.gd_of _ (catOk_i (by rw [List.length_append]; have := cut_len2 T (some (w % ((T.length : Int) + 1))) none; simp; omega)), v1, M.nox_ok, M.bind_ok]
    rw [cut_to s1, cut_from s1]
    obtain ⟨u, hu⟩ : ∃ u, (w % ((T.length : Int) + 1)).toNat = u := ⟨_, rfl⟩
    rw [hu]
    obtain ⟨y, hy⟩ : ∃ y, txt0[(A % 93).toNat] = y := ⟨_, rfl⟩
    rw [hy]
    have hyg : txt0[(A % 93).toNat]? = some y := by rw [List.getElem?_eq_getElem hj, hy]
    have pm : (T.take u ++ [y] ++ T.drop u).Perm (y :: T) := by
      rw [List.append_assoc]
      refine .trans List.perm_middle ?_
      show (y :: (T.take u ++ T.drop u)).Perm _
      rw [List.take_append_drop]
    have hyT : y ∉ T := fun hm => by
      obtain ⟨p, p1, p2, p3⟩ := i5 y hm
      have hp := lt_of_get p3
      rw [List.getElem?_eq_getElem hp] at p3
      have e := (Option.some.inj p3).trans hy.symm
      have pw := List.pairwise_iff_getElem.mp dg_nodup
      rcases Nat.lt_trichotomy (p % 93).toNat (A % 93).toNat with q | q | q
      · exact pw _ _ hp hj q e
      · omega
      · exact pw _ _ hj hp q e.symm
    refine ⟨_, rfl, A + 1 + v % 15, by show (A % 93 + 1 + v % 15) % 93 = _; omega, by omega, by omega, by rw [pm.length_eq, List.length_cons, i3], pm.nodup_iff.mpr (List.nodup_cons.mpr ⟨hyT, i4⟩), fun z hz => ?_⟩
    rcases List.mem_cons.mp (pm.mem_iff.mp hz) with rfl | hm
    · exact ⟨A, by omega, by omega, hyg⟩
    · obtain ⟨p, p1, p2, p3⟩ := i5 z hm
      exact ⟨p, p1, by omega, p3⟩
  · rw [rng_len] at hs
    obtain ⟨A, _, i1, i2, i3, i4, i5⟩ := hs
    refine ⟨s.2, rfl, by omega, by omega, i4, fun x hx => ?_⟩
    obtain ⟨p, _, _, p3⟩ := i5 x hx
    exact List.mem_of_getElem? p3
theorem p_depthby (head v : Int) : ∃ D : Nat, D ≤ 6 ∧ (if (decide ((v % (6 : Int)) = (0 : Int))) = true then (M.ok (head % (7 : Int))) else (M.ok (head % (4 : Int)))) = .ok (D : Int) := by
  split
  · exact ⟨(head % 7).toNat, by omega, by rw [Int.toNat_of_nonneg (by omega)]⟩
  · exact ⟨(head % 4).toNat, by omega, by rw [Int.toNat_of_nonneg (by omega)]⟩

theorem p_textby {L : List Nat} {ns : List Int} (h0 : 0 < L.length) (h6 : L.length ≤ 6) (way : Int) {most : Nat} (hm : most ≤ 100) (hn : ns.length ≤ 1000) : ∃ t, m_law_text_by ns L way (most : Int) = .ok t ∧ t.length ≤ most ∧ ∀ c ∈ t, c ∈ L := by
  unfold m_law_text_by
  simp only [M.lt_eq]
  obtain ⟨k, hk⟩ : ∃ k : Nat, (min (ns.length : Int) (4 + (most : Int)) - 4).toNat = k := ⟨_, rfl⟩
  rw [M.gd_of _ (rngOk_i (by omega) (by omega) (by omega) (by omega)), hk]
  have l1 : lenOk L = true := lenOk_i (by omega)
  refine bind_forN (s0 := ([] : List Nat)) (Q := fun (m : M (List Nat)) => ∃ t, m = .ok t ∧ t.length ≤ most ∧ ∀ c ∈ t, c ∈ L) (fun (i : Nat) (s : List Nat) => s.length = i ∧ ∀ c ∈ s, c ∈ L) ⟨rfl, fun c hc => by cases hc⟩ (fun i x hx s hs => ?_) (fun s hs => ⟨s, rfl, by rw [rng_len] at hs; omega, hs.2⟩)
  obtain ⟨i1, i2⟩ := hs
  have hi : i < k := by have := lt_of_get hx; rwa [rng_len] at this
  have hx2 : x = ((4 + i : Nat) : Int) := by
    rw [List.getElem?_eq_getElem (by rw [rng_len]; exact hi), rng_get] at hx
    have := Option.some.inj hx
    omega
  subst hx2
  have hlt : 4 + i < ns.length := by omega
  have ls : lenOk s = true := lenOk_i (by omega)
  obtain ⟨v, v1, v2, _⟩ := p_mixed (c := ns[4 + i]) (k := 30) (by decide) (by decide)
  obtain ⟨w, w1, w2, _⟩ := p_mixed (c := ns[4 + i]) (k := 31) (by decide) (by decide)
  have m1 := Int.emod_nonneg v (b := (L.length : Int)) (by omega)
  have m2 := Int.emod_lt_of_pos v (b := (L.length : Int)) (by omega)
  rw [atI_n hlt, M.ofO_some, M.bind_ok, v1, M.nox_ok, M.bind_ok, M.gd_of _ l1, M.gd_of _ (decide_eq_true (by omega))]
  simp only [M.ofO_some, M.bind_ok, w1, M.nox_ok]
  have hq : ∃ q, (if (decide ((0 : Int) < way)) = true then (M.bind (M.nox (if (!decide (s = ([] : List Nat))) = true then (M.ok (decide ((0 : Int) < (w % (4 : Int))))) else M.ok false)) fun r15 => .ok r15) else M.ok false) = .ok q ∧ (q = true → s ≠ []) := by
    split
    · split
      · rename_i hc
        exact ⟨_, rfl, fun _ e => by simp [e] at hc⟩
      · exact ⟨false, rfl, fun h => by cases h⟩
    · exact ⟨false, rfl, fun h => by cases h⟩
  obtain ⟨q, q1, q2⟩ := hq
  have hq1 : M.nox (if (decide ((0 : Int) < way)) = true then (M.bind (M.nox (if (!decide (s = ([] : List Nat))) = true then (M.ok (decide ((0 : Int) < (w % (4 : Int))))) else M.ok false)) fun r15 => .ok r15) else M.ok false) = .ok q := by rw [q1]; rfl
  have hat : ∃ z : Int, (if q = true then (M.gd (lenOk s) <| M.bind (M.ofO (atI s (-1 : Int))) fun r21 => M.gd (decide (r21 ∈ L)) <| .ok ((L).idxOf r21 : Int)) else (.ok (v % (L.length : Int)))) = .ok z ∧ 0 ≤ z ∧ z.toNat < L.length := by
    split
    · rename_i hc
      have hne := q2 hc
      have hpos : 0 < s.length := List.length_pos_iff.mpr hne
      have a := atI_neg (l := s) (k := 1) (by decide) (by omega)
      rw [show -((1 : Nat) : Int) = -1 from rfl] at a
      have hmem := i2 _ (List.getElem_mem (l := s) (n := s.length - 1) (by omega))
      have hlt := List.idxOf_lt_length_of_mem hmem
      rw [M.gd_of _ ls, a, M.ofO_some, M.bind_ok, M.gd_of _ (decide_eq_true hmem)]
      exact ⟨_, rfl, by omega, by omega⟩
    · exact ⟨_, rfl, m1, by omega⟩
  obtain ⟨z, z1, z2, z3⟩ := hat
  first
    | rw [hq1, M.bind_ok, z1, M.bind_ok, M.gd_of _ l1, atI_i z2 z3, M.ofO_some, M.bind_ok, M.gd_of _ (catOk_i (by simp; omega))]
    | skip
  refine ⟨_, rfl, by simp [i1], fun c hc => ?_⟩
  rcases List.mem_append.mp hc with m | m
  · exact i2 c m
  · rw [List.mem_singleton.mp m]; exact List.getElem_mem _
end B
namespace B
open PySem PySem.Spec PyProof.Rows L2
section
variable {L : List Nat} {D : Nat} {ahead t : List Nat} {t0 b0 low r : Int} {kn0 kn : List (List Nat × En)}
theorem way_pair (w : Way L D ahead t0 b0 kn0 t kn low r) : (eT L D (ahead ++ t) []).2.2 = ((ent L.length kn []).2.2.1, b0 * r) := by
  show (ent L.length (knT L D (ahead ++ t)) []).2.2 = _
  rw [← w.kne, ← w.st.bot]
theorem go_pair (g : Go L D ahead t0 b0 kn0) : (eT L D ahead []).2.2 = (t0, b0) := by
  have h := way_pair g.z
  rw [List.append_nil, g.e, Int.mul_one] at h
  exact h
theorem sp_z (g : Go L D ahead t0 b0 kn0) (w : Way L D ahead t0 b0 kn0 t kn low r) (hz : (ahead.length + t.length) * (D + 1) ≤ 700) : low.natAbs < 2 ^ 6301 ∧ (ent L.length kn []).2.2.1.natAbs < 2 ^ 6301 ∧ (r * t0).natAbs < 2 ^ 6301 ∧ 0 < r * t0 ∧ 0 ≤ low ∧ 0 < (ent L.length kn []).2.2.1 ∧ low + (ent L.length kn []).2.2.1 ≤ r * t0 ∧ r * t0 ≤ 512 ^ 700 := by
  obtain ⟨top, e, s0, s1, s2, s3, s4⟩ := p_span_at g w hz
  rw [e]
  exact ⟨z512 s0 (by omega) (Nat.le_refl _), z512 (Int.le_of_lt s1) (by omega) (Nat.le_refl _), z512 (by omega) s3 (Nat.le_refl _), by omega, s0, s1, s2, s3⟩
theorem sp_eq (g : Go L D ahead t0 b0 kn0) (w : Way L D ahead t0 b0 kn0 t kn low r) (hz : (ahead.length + t.length) * (D + 1) ≤ 700) : m_span (L, (D : Int)) t ahead = .ok (red (low, r * t0), red ((ent L.length kn []).2.2.1, r * t0)) := by
  obtain ⟨top, e, s0, s1, s2, s3, s4⟩ := p_span_at g w hz
  rw [e, s4]
theorem p_ratio {a b : Int} (hb : 0 < b) : m_law_is_ratio (a, b) = .ok true := by
  unfold m_law_is_ratio
  have e : ∀ i, m_law_whole i = .ok true := fun i => rfl
  rw [if_neg (by decide), e, M.nox_ok, M.bind_ok, if_pos rfl, e, M.nox_ok, M.bind_ok]
  show M.bind (M.nox (M.nox (M.ok (true && decide (0 < b))))) _ = _
  rw [decide_eq_true hb]
  rfl
/-- a part is good -/
theorem p_part (g : Go L D ahead t0 b0 kn0) (w : Way L D ahead t0 b0 kn0 t kn low r) (hl : ahead.length + t.length ≤ 100) (hz : (ahead.length + t.length) * (D + 1) ≤ 700) :
    m_law_part_good (L, (D : Int)) t ahead = .ok (some (red ((ent L.length kn []).2.2.1, r * t0))) := by
  obtain ⟨m, N, b1, b2, b3, b4, b5, b6, b7⟩ := p_press_at g w hz
  have rd := p_read g w hl b1 (by omega) b3 b4 b5 b6
  obtain ⟨z0, z1, z2, p2, p0, p1, pw, pz⟩ := sp_z g w hz
  have A := spn_of p0 p1 pw pz
  have se := sp_eq g w hz
  have c1 := f_cross (ent L.length kn []).2.2.1 (r * t0)
  have n0 : 0 ≤ ftop low (r * t0) := A.l0
  have hw1 := A.h2
  have n1 := ftop_pos p1 p2
  unfold m_law_part_good
  rw [b1, M.bind_ok, if_neg (by decide), M.gd_of _ (lenOk_i (by omega)), rd, M.nox_ok, M.bind_ok, M.nox_ok, M.bind_ok, if_neg (by simp), se, M.bind_ok, if_neg (by decide)]
  simp only [M.lt_eq]
  have r1 : m_law_is_ratio (red (low, r * t0)) = .ok true := p_ratio A.h1
  have r2 : m_law_is_ratio (red ((ent L.length kn []).2.2.1, r * t0)) = .ok true := p_ratio A.h2
  rw [r1, M.nox_ok, M.bind_ok, if_neg (by decide), r2, M.nox_ok, M.bind_ok, M.nox_ok, M.bind_ok]
  have d1 : ¬ (red (low, r * t0)).1 < 0 := by show ¬ ftop low (r * t0) < 0; omega
  have d2 : ¬ (red ((ent L.length kn []).2.2.1, r * t0)).1 < 1 := by show ¬ ftop (ent L.length kn []).2.2.1 (r * t0) < 1; omega
  rw [if_neg (by simp [d1, d2])]
  have y0 : (red (low, r * t0)).1.natAbs < 2 ^ 6301 := A.b0
  have y1 : (red (low, r * t0)).2.natAbs < 2 ^ 6301 := A.b1
  have y2 : (red ((ent L.length kn []).2.2.1, r * t0)).1.natAbs < 2 ^ 6301 := A.b2
  have y3 : (red ((ent L.length kn []).2.2.1, r * t0)).2.natAbs < 2 ^ 6301 := A.b3
  have sp := A.sp.top
  have few : ¬ 4 * (red ((ent L.length kn []).2.2.1, r * t0)).2 ≤ 1 * 2 ^ m * (red ((ent L.length kn []).2.2.1, r * t0)).1 := by
    intro h
    have h' : 4 * fbot (ent L.length kn []).2.2.1 (r * t0) ≤ 1 * 2 ^ m * ftop (ent L.length kn []).2.2.1 (r * t0) := h
    clear h se r2 d2 y2 y3 sp A
    generalize ftop (ent L.length kn []).2.2.1 (r * t0) = W0 at *
    generalize fbot (ent L.length kn []).2.2.1 (r * t0) = W1 at *
    generalize (ent L.length kn []).2.2.1 = top at *
    generalize (2 : Int) ^ m = P at *
    have k1 := Int.mul_le_mul_of_nonneg_right h' (Int.le_of_lt p2)
    have k2 := Int.mul_lt_mul_of_pos_right b7 hw1
    have e1 : 1 * P * W0 * (r * t0) = P * (W0 * (r * t0)) := by grind
    rw [e1, c1] at k1
    have e2 : P * (top * W1) = top * P * W1 := by grind
    have e3 : 4 * (r * t0) * W1 = 4 * W1 * (r * t0) := by grind
    omega
  have mp := p2nat (Nat.le_refl m)
  rw [M.gd_of _ (mulOk_i 6301 6301 y0 y3 (by decide) (by decide) (by decide)), M.gd_of _ (mulOk_i 6301 6301 y2 y1 (by decide) (by decide) (by decide)), M.gd_of _ (mulOk_i 6301 6301 y1 y3 (by decide) (by decide) (by decide)), if_neg (by rw [decide_eq_false (by show ¬ (fbot low (r * t0) * fbot (ent L.length kn []).2.2.1 (r * t0) < ftop low (r * t0) * fbot (ent L.length kn []).2.2.1 (r * t0) + ftop (ent L.length kn []).2.2.1 (r * t0) * fbot low (r * t0)); omega)]; decide)]
  rw [M.gd_of _ (lenOk_i (by rw [bitsL_len]; omega)), bitsL_len, M.gd_of _ (shl_i (m := 1) (show (1 : Int).natAbs < 2 ^ 1 by decide) (by decide) (by omega)), Int.toNat_natCast, M.gd_of _ (mulOk_i (m + 1) 6301 (by rw [Int.one_mul]; exact mp) y2 (by omega) (by decide) (by omega)), if_neg (by rw [decide_eq_false few]; decide)]
end
end B
namespace B
open PySem PySem.Spec PyProof.Rows L2
theorem srt3 {l : List Int} {n : Nat} (h3 : l.length = 3) (h : ∀ x ∈ l, 0 ≤ x ∧ x ≤ (n : Int)) : ∃ a b c : Nat, srtI l = [(a : Int), (b : Int), (c : Int)] ∧ a ≤ b ∧ b ≤ c ∧ c ≤ n := by
  have hp := srtI_perm l
  have hw := srtI_pw l
  have hl := hp.length_eq
  have hm : ∀ x ∈ srtI l, 0 ≤ x ∧ x ≤ (n : Int) := fun x hx => h x (hp.mem_iff.mp hx)
  generalize srtI l = s at *
  match s, hl with
  | [a, b, c], _ =>
    have ha := hm a (by simp)
    have hb := hm b (by simp)
    have hc := hm c (by simp)
    simp only [List.pairwise_cons, List.mem_cons, List.not_mem_nil, or_false] at hw
    have ab := hw.1 b (.inl rfl)
    have bc := hw.2.1 c rfl
    refine ⟨a.toNat, b.toNat, c.toNat, ?_, by omega, by omega, by omega⟩
    rw [Int.toNat_of_nonneg ha.1, Int.toNat_of_nonneg hb.1, Int.toNat_of_nonneg hc.1]
  | [], h0 => rw [h3] at h0; cases h0
  | [_], h0 => rw [h3] at h0; cases h0
  | [_, _], h0 => rw [h3] at h0; cases h0
  | _ :: _ :: _ :: _ :: _, h0 => rw [h3] at h0; simp at h0
theorem law_holds (ns : List Int) (h1 : ns.length ≤ 63) (h2 : ∀ z ∈ ns, Builtin.Int.intBits z ≤ 1048576) : m_law ns = .ok true := by
  unfold m_law
  simp only [M.lt_eq]
  have c0 : m_law_cell_at ns 0 = .ok (ns.getD 0 0) := p_cell_at (ns := ns) (k := 0)
  have c1 : m_law_cell_at ns 1 = .ok (ns.getD 1 0) := p_cell_at (ns := ns) (k := 1)
  have c2 : m_law_cell_at ns 2 = .ok (ns.getD 2 0) := p_cell_at (ns := ns) (k := 2)
  obtain ⟨L, l1, l2, l6, nd, hs⟩ := p_lettersby (ns.getD 1 0)
  obtain ⟨v, v1, _, _⟩ := p_mixed (c := ns.getD 0 0) (k := 2) (by decide) (by decide)
  obtain ⟨w, w1, _, _⟩ := p_mixed (c := ns.getD 0 0) (k := 3) (by decide) (by decide)
  obtain ⟨D, hD, hd⟩ := p_depthby (ns.getD 0 0) v
  have F : Fr L D := ⟨by omega, l6, nd, hD⟩
  have hmost : ∃ z : Nat, atI [(40 : Int), 40, 30, 20, 14, 10, 8] (D : Int) = some (z : Int) ∧ z ≤ 40 ∧ z * (D + 1) ≤ 100 := by
    have : D = 0 ∨ D = 1 ∨ D = 2 ∨ D = 3 ∨ D = 4 ∨ D = 5 ∨ D = 6 := by omega
    rcases this with e | e | e | e | e | e | e <;> subst e
    · exact ⟨40, rfl, by decide, by decide⟩
    · exact ⟨40, rfl, by decide, by decide⟩
    · exact ⟨30, rfl, by decide, by decide⟩
    · exact ⟨20, rfl, by decide, by decide⟩
    · exact ⟨14, rfl, by decide, by decide⟩
    · exact ⟨10, rfl, by decide, by decide⟩
    · exact ⟨8, rfl, by decide, by decide⟩
  obtain ⟨z, z1, z2, z3⟩ := hmost
  obtain ⟨t, t1, t2, t3⟩ := p_textby (L := L) (ns := ns) (by omega) l6 (w % 2) (most := z) (by omega) (by omega)
  have tz : t.length * (D + 1) ≤ z * (D + 1) := Nat.mul_le_mul_right _ t2
  have hmk := p_make (L := L) (i := (D : Int)) (by omega) (good_of l2 l6 nd hs) (by omega) (by omega)
  rw [c0, M.bind_ok, c1, M.nox_ok, M.bind_ok, l1, M.bind_ok, v1, M.nox_ok, M.bind_ok, hd, M.bind_ok, w1, M.nox_ok, M.bind_ok, z1, M.ofO_some, M.bind_ok, t1, M.bind_ok, hmk, M.bind_ok]
  have lt : lenOk t = true := lenOk_i (by omega)
  have cc := fun k : Int => (show True from trivial)
  rw [M.gd_of _ (rngOk_i (by decide) (by decide) (by decide) (by decide)), M.gd_of _ (lenLt_i (by rw [rng_len]; decide))]
  have hcomp : ∃ cs, compM (fun _ => M.ok true) (fun k_ => M.bind (M.nox (m_law_cell_at ns (2 : Int))) fun r12 => M.bind (M.nox (m_law_mixed r12 k_)) fun r14 => M.gd (lenOk t) <| M.gd (decide (0 < (((t).length : Int) + (1 : Int)))) <| .ok ((r14 % (((t).length : Int) + (1 : Int))))) (rng 0 1 ((3 : Int)).toNat) = .ok cs ∧ cs.length = 3 ∧ ∀ x ∈ cs, 0 ≤ x ∧ x ≤ (t.length : Int) := by
    have each : ∀ k : Int, ∃ u : Int, (0 ≤ k → k ≤ 10000 → (M.bind (M.nox (m_law_cell_at ns (2 : Int))) fun r12 => M.bind (M.nox (m_law_mixed r12 k)) fun r14 => M.gd (lenOk t) <| M.gd (decide (0 < (((t).length : Int) + (1 : Int)))) <| .ok ((r14 % (((t).length : Int) + (1 : Int))))) = .ok u) ∧ 0 ≤ u ∧ u ≤ (t.length : Int) := fun k => by
      by_cases hk : 0 ≤ k ∧ k ≤ 10000
      · obtain ⟨u, u1, u2, _⟩ := p_mixed (c := ns.getD 2 0) hk.1 hk.2
        have m1 := Int.emod_nonneg u (b := (t.length : Int) + 1) (by omega)
        have m2 := Int.emod_lt_of_pos u (b := (t.length : Int) + 1) (by omega)
        exact ⟨_, fun _ _ => by rw [c2, M.nox_ok, M.bind_ok, u1, M.nox_ok, M.bind_ok, M.gd_of _ lt, M.gd_of _ (decide_eq_true (by omega))], m1, by omega⟩
      · exact ⟨0, fun a b => absurd ⟨a, b⟩ hk, by omega, by omega⟩
    refine ⟨_, compM_map (k := fun k => Classical.choose (each k)) (fun _ _ => rfl) (fun k hk => ?_), by rw [List.length_map, rng_len]; rfl, fun x hx => ?_⟩
    · obtain ⟨i, i1, i2⟩ := rng_mem hk
      exact (Classical.choose_spec (each k)).1 (by omega) (by have : i < 3 := i1; omega)
    · obtain ⟨k, _, rfl⟩ := List.mem_map.mp hx
      exact (Classical.choose_spec (each k)).2
  obtain ⟨cs, e1, e2, e3⟩ := hcomp
  obtain ⟨a, b, c, s1, s2, s3, s4⟩ := srt3 e2 e3
  rw [e1, M.nox_ok, M.bind_ok, s1, M.gd_of _ (catOk_i (by simp)), M.gd_of _ lt, M.gd_of _ (catOk_i (by simp)), M.gd_of _ (rngOk_i (by decide) (by decide) (by decide) (by decide))]
  obtain ⟨cut_, hcut⟩ : ∃ f : Nat → Nat, f 0 = 0 ∧ f 1 = a ∧ f 2 = b ∧ f 3 = c ∧ f 4 = t.length := ⟨fun k => if k = 0 then 0 else if k = 1 then a else if k = 2 then b else if k = 3 then c else t.length, rfl, rfl, rfl, rfl, rfl⟩
  obtain ⟨q0, q1, q2, q3, q4⟩ := hcut
  have cat : ∀ k : Nat, k ≤ 4 → atI ([(0 : Int)] ++ [(a : Int), (b : Int), (c : Int)] ++ [(t.length : Int)]) (k : Int) = some ((cut_ k : Nat) : Int) := fun k hk => by
    have : k = 0 ∨ k = 1 ∨ k = 2 ∨ k = 3 ∨ k = 4 := by omega
    rcases this with e | e | e | e | e <;> subst e
    · rw [q0]; rfl
    · rw [q1]; rfl
    · rw [q2]; rfl
    · rw [q3]; rfl
    · rw [q4]; rfl
  have cmono : ∀ k : Nat, k < 4 → cut_ k ≤ cut_ (k + 1) ∧ cut_ (k + 1) ≤ t.length := fun k hk => by
    have : k = 0 ∨ k = 1 ∨ k = 2 ∨ k = 3 := by omega
    rcases this with e | e | e | e <;> subst e
    · show cut_ 0 ≤ cut_ 1 ∧ cut_ 1 ≤ _; omega
    · show cut_ 1 ≤ cut_ 2 ∧ cut_ 2 ≤ _; omega
    · show cut_ 2 ≤ cut_ 3 ∧ cut_ 3 ≤ _; omega
    · show cut_ 3 ≤ cut_ 4 ∧ cut_ 4 ≤ _; omega
  have nl : ([] : List Nat).length = 0 := rfl
  refine seqT_forN (Q := fun m => m = .ok true) (fun (k : Nat) (s : Int × Int) => s.1 * (eT L D (t.take (cut_ k)) []).2.2.2 = (eT L D (t.take (cut_ k)) []).2.2.1 * s.2 ∧ 0 < s.2 ∧ s.1.natAbs < 2 ^ (6301 * k + 1) ∧ s.2.natAbs < 2 ^ (6301 * k + 1)) ?_ (fun k x hx s hs => ?_) (fun s hs => ?_)
  · rw [q0]
    exact ⟨rfl, by decide, by decide, by decide⟩
  · obtain ⟨i1, i2, i3, i4⟩ := hs
    have hk : k < 4 := by have := lt_of_get hx; rwa [rng_len] at this
    have hx2 : x = (k : Int) := by
      rw [List.getElem?_eq_getElem (by rw [rng_len]; exact hk), rng_get] at hx
      have := Option.some.inj hx
      omega
    subst hx2
    obtain ⟨m1, m2⟩ := cmono k hk
    have hA : (t.take (cut_ k)).length = cut_ k := by rw [List.length_take]; omega
    have hP : ((t.drop (cut_ k)).take (cut_ (k + 1) - cut_ k)).length = cut_ (k + 1) - cut_ k := by rw [List.length_take, List.length_drop]; omega
    have hAP : t.take (cut_ k) ++ (t.drop (cut_ k)).take (cut_ (k + 1) - cut_ k) = t.take (cut_ (k + 1)) := by
      rw [show cut_ (k + 1) = cut_ k + (cut_ (k + 1) - cut_ k) by omega, List.take_add, show cut_ k + (cut_ (k + 1) - cut_ k) - cut_ k = cut_ (k + 1) - cut_ k by omega]
    have zz : ∀ n, n ≤ t.length → n * (D + 1) ≤ 100 := fun n hn => by
      have := Nat.mul_le_mul_right (D + 1) hn
      omega
    have zA := zz (cut_ k) (by omega)
    have zB := zz (cut_ (k + 1)) m2
    obtain ⟨t0, b0, kn0, g⟩ := p_start F (ahead := t.take (cut_ k)) (by omega) (by rw [hA]; omega) (fun c hc => t3 c (List.mem_of_mem_take hc))
    obtain ⟨kn, low, r, wy⟩ := at_text g ((t.drop (cut_ k)).take (cut_ (k + 1) - cut_ k)) g.z (by rw [nl]; omega) (by rw [nl, hA, hP, show cut_ k + 0 + (cut_ (k + 1) - cut_ k) = cut_ (k + 1) by omega]; omega) (fun c hc => t3 c (List.mem_of_mem_drop (List.mem_of_mem_take hc)))
    rw [List.nil_append] at wy
    have hz : ((t.take (cut_ k)).length + ((t.drop (cut_ k)).take (cut_ (k + 1) - cut_ k)).length) * (D + 1) ≤ 700 := by
      rw [hA, hP, show cut_ k + (cut_ (k + 1) - cut_ k) = cut_ (k + 1) by omega]; omega
    have hp := p_part g wy (by omega) hz
    obtain ⟨y0, y1, y2, p2, p0, p1, pw, pz⟩ := sp_z g wy hz
    have pr := way_pair wy
    have gr := go_pair g
    rw [hAP] at pr
    rw [gr] at i1
    have tp := g.tp
    have c1 := f_cross (ent L.length kn []).2.2.1 (r * t0)
    have w1p := fbot_pos (ent L.length kn []).2.2.1 (r * t0) (by omega)
    have za := ftop_lt' (b := r * t0) y1
    have zb := fbot_lt' (t := (ent L.length kn []).2.2.1) y2
    rw [cat k (by omega), M.ofO_some, M.bind_ok, show (k : Int) + 1 = ((k + 1 : Nat) : Int) by omega, cat (k + 1) (by omega), M.ofO_some, M.bind_ok, M.gd_of _ lt, M.bind_ok, M.gd_of _ lt, cut_nn m1, cut_to (by omega), Int.toNat_natCast, hp, M.bind_ok, if_neg (by simp), M.seq_nx, M.ofO_some, M.bind_ok]
    rw [M.gd_of _ (mulOk_i (6301 * k + 1) 6301 i3 za (by omega) (by decide) (by omega)), M.bind_ok, M.gd_of _ (mulOk_i (6301 * k + 1) 6301 i4 zb (by omega) (by decide) (by omega))]
    refine ⟨_, .inl rfl, ?_, Int.mul_pos i2 w1p, ?_, ?_⟩
    · rw [pr]
      show s.1 * ftop (ent L.length kn []).2.2.1 (r * t0) * (b0 * r) = (ent L.length kn []).2.2.1 * (s.2 * fbot (ent L.length kn []).2.2.1 (r * t0))
      generalize ftop (ent L.length kn []).2.2.1 (r * t0) = W0 at *
      generalize fbot (ent L.length kn []).2.2.1 (r * t0) = W1 at *
      refine Int.eq_of_mul_eq_mul_right (a := t0) (by omega) ?_
      have k1 : s.1 * W0 * (b0 * r) * t0 = (s.1 * b0) * (W0 * (r * t0)) := by grind
      have i1' : s.1 * b0 = t0 * s.2 := i1
      rw [k1, c1, i1']
      grind
    · rw [show 6301 * (k + 1) + 1 = 6301 * k + 1 + 6301 by omega]; exact mulZ i3 za
    · rw [show 6301 * (k + 1) + 1 = 6301 * k + 1 + 6301 by omega]; exact mulZ i4 zb
  · rw [rng_len] at hs
    obtain ⟨i1, i2, i3, i4⟩ := hs
    rw [show ((4 : Int)).toNat = 4 from rfl] at i1 i3 i4
    rw [q4, List.take_length] at i1
    have hW := p_weighs (t := t) F (by omega) (by omega) t3
    have k := (kn_ok F t (by omega) t3).1
    have pp1 := k.p1 []
    have pp2 := k.p2 []
    have ppz := k.pz []
    rw [hW, M.bind_ok]
    have zb : (eT L D t []).2.2.2.natAbs < 2 ^ 6301 := z512 (by omega) (Int.le_trans ppz (p512 (by omega))) (Nat.le_refl _)
    have zt : (eT L D t []).2.2.1.natAbs < 2 ^ 6301 := by omega
    have y0 : (red (eT L D t []).2.2).1.natAbs < 2 ^ 6301 := ftop_lt' zt
    have y1 : (red (eT L D t []).2.2).2.natAbs < 2 ^ 6301 := fbot_lt' zb
    rw [show m_law_is_ratio (red (eT L D t []).2.2) = .ok true from p_ratio (fbot_pos _ _ (by omega)), M.nox_ok, M.bind_ok, if_pos rfl, M.gd_of _ (mulOk_i (6301 * 4 + 1) 6301 i3 y1 (by decide) (by decide) (by decide)), M.gd_of _ (mulOk_i 6301 (6301 * 4 + 1) y0 i4 (by decide) (by decide) (by decide))]
    have c1 := f_cross (eT L D t []).2.2.1 (eT L D t []).2.2.2
    have fin : s.1 * (red (eT L D t []).2.2).2 = (red (eT L D t []).2.2).1 * s.2 := by
      show s.1 * fbot (eT L D t []).2.2.1 (eT L D t []).2.2.2 = ftop (eT L D t []).2.2.1 (eT L D t []).2.2.2 * s.2
      generalize ftop (eT L D t []).2.2.1 (eT L D t []).2.2.2 = W0 at *
      generalize fbot (eT L D t []).2.2.1 (eT L D t []).2.2.2 = W1 at *
      refine Int.eq_of_mul_eq_mul_right (a := (eT L D t []).2.2.2) (by omega) ?_
      have k1 : s.1 * W1 * (eT L D t []).2.2.2 = s.1 * (eT L D t []).2.2.2 * W1 := by grind
      have k2 : W0 * s.2 * (eT L D t []).2.2.2 = W0 * (eT L D t []).2.2.2 * s.2 := by grind
      rw [k1, k2, i1, c1]
      grind
    rw [decide_eq_true fin]
    rfl
end B
namespace B
open PySem PySem.Spec PyProof.Rows L2
theorem all_mk {P : Program} {w : World} {K : PySem.W.Frag} {h : Heap} {mg : Str → Option Value} {fa : Addr} (X : K.In h) (G : h.Ns mainGlobals mg) (hfa : mg "law" = some (.ref fa))
    {T19 : Addr} {ocT19 : Value} {odT19 : Option Addr} {tT19 : Tok} {nT19 : Nat} {slT19 : Array (Option Value)}
    {T30 : Addr} {ocT30 : Value} {odT30 : Option Addr} {tT30 : Tok} {nT30 : Nat} {slT30 : Array (Option Value)}
    {T32 : Addr} {ocT32 : Value} {odT32 : Option Addr} {tT32 : Tok} {nT32 : Nat} {slT32 : Array (Option Value)}
    {T33 : Addr} {ocT33 : Value} {odT33 : Option Addr} {tT33 : Tok} {nT33 : Nat} {slT33 : Array (Option Value)}
    {f1 : Addr} {od1 an1 : Option Addr} {sl1 : Array (Option Value)} {oc1 kV1 dc1 pm1 cd1 ct1 : Value}
    {f2 : Addr} {od2 an2 : Option Addr} {sl2 : Array (Option Value)} {oc2 kV2 dc2 pm2 cd2 ct2 : Value}
    {f3 : Addr} {od3 an3 : Option Addr} {sl3 : Array (Option Value)} {oc3 kV3 dc3 pm3 cd3 ct3 : Value}
    {f4 : Addr} {od4 an4 : Option Addr} {sl4 : Array (Option Value)} {oc4 kV4 dc4 pm4 cd4 ct4 : Value}
    {f5 : Addr} {od5 an5 : Option Addr} {sl5 : Array (Option Value)} {oc5 kV5 dc5 pm5 cd5 ct5 : Value}
    {f6 : Addr} {od6 an6 : Option Addr} {sl6 : Array (Option Value)} {oc6 kV6 dc6 pm6 cd6 ct6 : Value}
    {f7 : Addr} {od7 an7 : Option Addr} {sl7 : Array (Option Value)} {oc7 kV7 dc7 pm7 cd7 ct7 : Value}
    {f8 : Addr} {od8 an8 : Option Addr} {sl8 : Array (Option Value)} {oc8 kV8 dc8 pm8 cd8 ct8 : Value}
    {f9 : Addr} {od9 an9 : Option Addr} {sl9 : Array (Option Value)} {oc9 kV9 dc9 pm9 cd9 ct9 : Value}
    {f10 : Addr} {od10 an10 : Option Addr} {sl10 : Array (Option Value)} {oc10 kV10 dc10 pm10 cd10 ct10 : Value}
    {f11 : Addr} {od11 an11 : Option Addr} {sl11 : Array (Option Value)} {oc11 kV11 dc11 pm11 cd11 ct11 : Value}
    {f12 : Addr} {od12 an12 : Option Addr} {sl12 : Array (Option Value)} {oc12 kV12 dc12 pm12 cd12 ct12 : Value}
    {f13 : Addr} {od13 an13 : Option Addr} {sl13 : Array (Option Value)} {oc13 kV13 dc13 pm13 cd13 ct13 : Value}
    {f14 : Addr} {od14 an14 : Option Addr} {sl14 : Array (Option Value)} {oc14 kV14 dc14 pm14 cd14 ct14 : Value}
    {f15 : Addr} {od15 an15 : Option Addr} {sl15 : Array (Option Value)} {oc15 kV15 dc15 pm15 cd15 ct15 : Value}
    {f16 : Addr} {od16 an16 : Option Addr} {sl16 : Array (Option Value)} {oc16 kV16 dc16 pm16 cd16 ct16 : Value}
    {f17 : Addr} {od17 an17 : Option Addr} {sl17 : Array (Option Value)} {oc17 kV17 dc17 pm17 cd17 ct17 : Value}
    {f18 : Addr} {od18 an18 : Option Addr} {sl18 : Array (Option Value)} {oc18 kV18 dc18 pm18 cd18 ct18 : Value}
    {f19 : Addr} {od19 an19 : Option Addr} {sl19 : Array (Option Value)} {oc19 kV19 dc19 pm19 cd19 ct19 : Value}
    {f20 : Addr} {od20 an20 : Option Addr} {sl20 : Array (Option Value)} {oc20 kV20 dc20 pm20 cd20 ct20 : Value}
    {f21 : Addr} {od21 an21 : Option Addr} {sl21 : Array (Option Value)} {oc21 kV21 dc21 pm21 cd21 ct21 : Value}
    {f22 : Addr} {od22 an22 : Option Addr} {sl22 : Array (Option Value)} {oc22 kV22 dc22 pm22 cd22 ct22 : Value}
    {f23 : Addr} {od23 an23 : Option Addr} {sl23 : Array (Option Value)} {oc23 kV23 dc23 pm23 cd23 ct23 : Value}
    {f24 : Addr} {od24 an24 : Option Addr} {sl24 : Array (Option Value)} {oc24 kV24 dc24 pm24 cd24 ct24 : Value}
    {f25 : Addr} {od25 an25 : Option Addr} {sl25 : Array (Option Value)} {oc25 kV25 dc25 pm25 cd25 ct25 : Value}
    {f26 : Addr} {od26 an26 : Option Addr} {sl26 : Array (Option Value)} {oc26 kV26 dc26 pm26 cd26 ct26 : Value}
    {f27 : Addr} {od27 an27 : Option Addr} {sl27 : Array (Option Value)} {oc27 kV27 dc27 pm27 cd27 ct27 : Value}
    {f28 : Addr} {od28 an28 : Option Addr} {sl28 : Array (Option Value)} {oc28 kV28 dc28 pm28 cd28 ct28 : Value}
    {f29 : Addr} {od29 an29 : Option Addr} {sl29 : Array (Option Value)} {oc29 kV29 dc29 pm29 cd29 ct29 : Value}
    {f30 : Addr} {od30 an30 : Option Addr} {sl30 : Array (Option Value)} {oc30 kV30 dc30 pm30 cd30 ct30 : Value}
    {f31 : Addr} {od31 an31 : Option Addr} {sl31 : Array (Option Value)} {oc31 kV31 dc31 pm31 cd31 ct31 : Value}
    {f32 : Addr} {od32 an32 : Option Addr} {sl32 : Array (Option Value)} {oc32 kV32 dc32 pm32 cd32 ct32 : Value}
    {f33 : Addr} {od33 an33 : Option Addr} {sl33 : Array (Option Value)} {oc33 kV33 dc33 pm33 cd33 ct33 : Value}
    {f34 : Addr} {od34 an34 : Option Addr} {sl34 : Array (Option Value)} {oc34 kV34 dc34 pm34 cd34 ct34 : Value}
    {f35 : Addr} {od35 an35 : Option Addr} {sl35 : Array (Option Value)} {oc35 kV35 dc35 pm35 cd35 ct35 : Value}
    {f36 : Addr} {od36 an36 : Option Addr} {sl36 : Array (Option Value)} {oc36 kV36 dc36 pm36 cd36 ct36 : Value}
    {f37 : Addr} {od37 an37 : Option Addr} {sl37 : Array (Option Value)} {oc37 kV37 dc37 pm37 cd37 ct37 : Value}
    {f38 : Addr} {od38 an38 : Option Addr} {sl38 : Array (Option Value)} {oc38 kV38 dc38 pm38 cd38 ct38 : Value}
    {f39 : Addr} {od39 an39 : Option Addr} {sl39 : Array (Option Value)} {oc39 kV39 dc39 pm39 cd39 ct39 : Value}
    {f40 : Addr} {od40 an40 : Option Addr} {sl40 : Array (Option Value)} {oc40 kV40 dc40 pm40 cd40 ct40 : Value}
    {f41 : Addr} {od41 an41 : Option Addr} {sl41 : Array (Option Value)} {oc41 kV41 dc41 pm41 cd41 ct41 : Value}
    {C_NoFrame : Addr}
    {C_NoPlace : Addr}
    {C_NoFraction : Addr}
    {C_NoBits : Addr}
    {C_NoPress : Addr}
    {C_NoText : Addr}
    (a1 : PySem.W.nsIn K mainGlobals "is_whole" = some (some (.ref f1))) (l1 : K.lookup f1 = some ⟨oc1, od1, .func (PySem.W.fnOf "is_whole" "is_whole" (defArgs s_is_whole) (defBody s_is_whole) (defScope s_is_whole) .none kV1 dc1 pm1 an1 cd1 ct1), sl1⟩) (c1 : PySem.W.codeIn K cd1 "is_whole" = true) (k1 : PySem.W.keepIn K (.ref f1) = true)
    (a2 : PySem.W.nsIn K mainGlobals "are_letters" = some (some (.ref f2))) (l2 : K.lookup f2 = some ⟨oc2, od2, .func (PySem.W.fnOf "are_letters" "are_letters" (defArgs s_are_letters) (defBody s_are_letters) (defScope s_are_letters) .none kV2 dc2 pm2 an2 cd2 ct2), sl2⟩) (c2 : PySem.W.codeIn K cd2 "are_letters" = true) (k2 : PySem.W.keepIn K (.ref f2) = true)
    (a3 : PySem.W.nsIn K mainGlobals "make_frame" = some (some (.ref f3))) (l3 : K.lookup f3 = some ⟨oc3, od3, .func (PySem.W.fnOf "make_frame" "make_frame" (defArgs s_make_frame) (defBody s_make_frame) (defScope s_make_frame) .none kV3 dc3 pm3 an3 cd3 ct3), sl3⟩) (c3 : PySem.W.codeIn K cd3 "make_frame" = true) (k3 : PySem.W.keepIn K (.ref f3) = true)
    (a4 : PySem.W.nsIn K mainGlobals "checked" = some (some (.ref f4))) (l4 : K.lookup f4 = some ⟨oc4, od4, .func (PySem.W.fnOf "checked" "checked" (defArgs s_checked) (defBody s_checked) (defScope s_checked) .none kV4 dc4 pm4 an4 cd4 ct4), sl4⟩) (c4 : PySem.W.codeIn K cd4 "checked" = true) (k4 : PySem.W.keepIn K (.ref f4) = true)
    (a5 : PySem.W.nsIn K mainGlobals "signs_ahead" = some (some (.ref f5))) (l5 : K.lookup f5 = some ⟨oc5, od5, .func (PySem.W.fnOf "signs_ahead" "signs_ahead" (defArgs s_signs_ahead) (defBody s_signs_ahead) (defScope s_signs_ahead) .none kV5 dc5 pm5 an5 cd5 ct5), sl5⟩) (c5 : PySem.W.codeIn K cd5 "signs_ahead" = true) (k5 : PySem.W.keepIn K (.ref f5) = true)
    (a6 : PySem.W.nsIn K mainGlobals "elders" = some (some (.ref f6))) (l6 : K.lookup f6 = some ⟨oc6, od6, .func (PySem.W.fnOf "elders" "elders" (defArgs s_elders) (defBody s_elders) (defScope s_elders) .none kV6 dc6 pm6 an6 cd6 ct6), sl6⟩) (c6 : PySem.W.codeIn K cd6 "elders" = true) (k6 : PySem.W.keepIn K (.ref f6) = true)
    (a7 : PySem.W.nsIn K mainGlobals "path_knots" = some (some (.ref f7))) (l7 : K.lookup f7 = some ⟨oc7, od7, .func (PySem.W.fnOf "path_knots" "path_knots" (defArgs s_path_knots) (defBody s_path_knots) (defScope s_path_knots) .none kV7 dc7 pm7 an7 cd7 ct7), sl7⟩) (c7 : PySem.W.codeIn K cd7 "path_knots" = true) (k7 : PySem.W.keepIn K (.ref f7) = true)
    (a8 : PySem.W.nsIn K mainGlobals "entry_of" = some (some (.ref f8))) (l8 : K.lookup f8 = some ⟨oc8, od8, .func (PySem.W.fnOf "entry_of" "entry_of" (defArgs s_entry_of) (defBody s_entry_of) (defScope s_entry_of) .none kV8 dc8 pm8 an8 cd8 ct8), sl8⟩) (c8 : PySem.W.codeIn K cd8 "entry_of" = true) (k8 : PySem.W.keepIn K (.ref f8) = true)
    (a9 : PySem.W.nsIn K mainGlobals "halved_sum" = some (some (.ref f9))) (l9 : K.lookup f9 = some ⟨oc9, od9, .func (PySem.W.fnOf "halved_sum" "halved_sum" (defArgs s_halved_sum) (defBody s_halved_sum) (defScope s_halved_sum) .none kV9 dc9 pm9 an9 cd9 ct9), sl9⟩) (c9 : PySem.W.codeIn K cd9 "halved_sum" = true) (k9 : PySem.W.keepIn K (.ref f9) = true)
    (a10 : PySem.W.nsIn K mainGlobals "grown_path" = some (some (.ref f10))) (l10 : K.lookup f10 = some ⟨oc10, od10, .func (PySem.W.fnOf "grown_path" "grown_path" (defArgs s_grown_path) (defBody s_grown_path) (defScope s_grown_path) .none kV10 dc10 pm10 an10 cd10 ct10), sl10⟩) (c10 : PySem.W.codeIn K cd10 "grown_path" = true) (k10 : PySem.W.keepIn K (.ref f10) = true)
    (a11 : PySem.W.nsIn K mainGlobals "weight_pair" = some (some (.ref f11))) (l11 : K.lookup f11 = some ⟨oc11, od11, .func (PySem.W.fnOf "weight_pair" "weight_pair" (defArgs s_weight_pair) (defBody s_weight_pair) (defScope s_weight_pair) .none kV11 dc11 pm11 an11 cd11 ct11), sl11⟩) (c11 : PySem.W.codeIn K cd11 "weight_pair" = true) (k11 : PySem.W.keepIn K (.ref f11) = true)
    (a12 : PySem.W.nsIn K mainGlobals "known_of" = some (some (.ref f12))) (l12 : K.lookup f12 = some ⟨oc12, od12, .func (PySem.W.fnOf "known_of" "known_of" (defArgs s_known_of) (defBody s_known_of) (defScope s_known_of) .none kV12 dc12 pm12 an12 cd12 ct12), sl12⟩) (c12 : PySem.W.codeIn K cd12 "known_of" = true) (k12 : PySem.W.keepIn K (.ref f12) = true)
    (a13 : PySem.W.nsIn K mainGlobals "greatest_divisor" = some (some (.ref f13))) (l13 : K.lookup f13 = some ⟨oc13, od13, .func (PySem.W.fnOf "greatest_divisor" "greatest_divisor" (defArgs s_greatest_divisor) (defBody s_greatest_divisor) (defScope s_greatest_divisor) .none kV13 dc13 pm13 an13 cd13 ct13), sl13⟩) (c13 : PySem.W.codeIn K cd13 "greatest_divisor" = true) (k13 : PySem.W.keepIn K (.ref f13) = true)
    (a14 : PySem.W.nsIn K mainGlobals "fraction" = some (some (.ref f14))) (l14 : K.lookup f14 = some ⟨oc14, od14, .func (PySem.W.fnOf "fraction" "fraction" (defArgs s_fraction) (defBody s_fraction) (defScope s_fraction) .none kV14 dc14 pm14 an14 cd14 ct14), sl14⟩) (c14 : PySem.W.codeIn K cd14 "fraction" = true) (k14 : PySem.W.keepIn K (.ref f14) = true)
    (a15 : PySem.W.nsIn K mainGlobals "plus" = some (some (.ref f15))) (l15 : K.lookup f15 = some ⟨oc15, od15, .func (PySem.W.fnOf "plus" "plus" (defArgs s_plus) (defBody s_plus) (defScope s_plus) .none kV15 dc15 pm15 an15 cd15 ct15), sl15⟩) (c15 : PySem.W.codeIn K cd15 "plus" = true) (k15 : PySem.W.keepIn K (.ref f15) = true)
    (a16 : PySem.W.nsIn K mainGlobals "times" = some (some (.ref f16))) (l16 : K.lookup f16 = some ⟨oc16, od16, .func (PySem.W.fnOf "times" "times" (defArgs s_times) (defBody s_times) (defScope s_times) .none kV16 dc16 pm16 an16 cd16 ct16), sl16⟩) (c16 : PySem.W.codeIn K cd16 "times" = true) (k16 : PySem.W.keepIn K (.ref f16) = true)
    (a17 : PySem.W.nsIn K mainGlobals "half" = some (some (.ref f17))) (l17 : K.lookup f17 = some ⟨oc17, od17, .func (PySem.W.fnOf "half" "half" (defArgs s_half) (defBody s_half) (defScope s_half) .none kV17 dc17 pm17 an17 cd17 ct17), sl17⟩) (c17 : PySem.W.codeIn K cd17 "half" = true) (k17 : PySem.W.keepIn K (.ref f17) = true)
    (a18 : PySem.W.nsIn K mainGlobals "lesser_tops" = some (some (.ref f18))) (l18 : K.lookup f18 = some ⟨oc18, od18, .func (PySem.W.fnOf "lesser_tops" "lesser_tops" (defArgs s_lesser_tops) (defBody s_lesser_tops) (defScope s_lesser_tops) .none kV18 dc18 pm18 an18 cd18 ct18), sl18⟩) (c18 : PySem.W.codeIn K cd18 "lesser_tops" = true) (k18 : PySem.W.keepIn K (.ref f18) = true)
    (a19 : PySem.W.nsIn K mainGlobals "span" = some (some (.ref f19))) (l19 : K.lookup f19 = some ⟨oc19, od19, .func (PySem.W.fnOf "span" "span" (defArgs s_span) (defBody s_span) (defScope s_span) (.ref T19) kV19 dc19 pm19 an19 cd19 ct19), sl19⟩) (c19 : PySem.W.codeIn K cd19 "span" = true) (k19 : PySem.W.keepIn K (.ref f19) = true)
    (a20 : PySem.W.nsIn K mainGlobals "odd_product" = some (some (.ref f20))) (l20 : K.lookup f20 = some ⟨oc20, od20, .func (PySem.W.fnOf "odd_product" "odd_product" (defArgs s_odd_product) (defBody s_odd_product) (defScope s_odd_product) .none kV20 dc20 pm20 an20 cd20 ct20), sl20⟩) (c20 : PySem.W.codeIn K cd20 "odd_product" = true) (k20 : PySem.W.keepIn K (.ref f20) = true)
    (a21 : PySem.W.nsIn K mainGlobals "worth" = some (some (.ref f21))) (l21 : K.lookup f21 = some ⟨oc21, od21, .func (PySem.W.fnOf "worth" "worth" (defArgs s_worth) (defBody s_worth) (defScope s_worth) .none kV21 dc21 pm21 an21 cd21 ct21), sl21⟩) (c21 : PySem.W.codeIn K cd21 "worth" = true) (k21 : PySem.W.keepIn K (.ref f21) = true)
    (a22 : PySem.W.nsIn K mainGlobals "all_counts" = some (some (.ref f22))) (l22 : K.lookup f22 = some ⟨oc22, od22, .func (PySem.W.fnOf "all_counts" "all_counts" (defArgs s_all_counts) (defBody s_all_counts) (defScope s_all_counts) .none kV22 dc22 pm22 an22 cd22 ct22), sl22⟩) (c22 : PySem.W.codeIn K cd22 "all_counts" = true) (k22 : PySem.W.keepIn K (.ref f22) = true)
    (a23 : PySem.W.nsIn K mainGlobals "all_worths" = some (some (.ref f23))) (l23 : K.lookup f23 = some ⟨oc23, od23, .func (PySem.W.fnOf "all_worths" "all_worths" (defArgs s_all_worths) (defBody s_all_worths) (defScope s_all_worths) .none kV23 dc23 pm23 an23 cd23 ct23), sl23⟩) (c23 : PySem.W.codeIn K cd23 "all_worths" = true) (k23 : PySem.W.keepIn K (.ref f23) = true)
    (a24 : PySem.W.nsIn K mainGlobals "branch_weight" = some (some (.ref f24))) (l24 : K.lookup f24 = some ⟨oc24, od24, .func (PySem.W.fnOf "branch_weight" "branch_weight" (defArgs s_branch_weight) (defBody s_branch_weight) (defScope s_branch_weight) .none kV24 dc24 pm24 an24 cd24 ct24), sl24⟩) (c24 : PySem.W.codeIn K cd24 "branch_weight" = true) (k24 : PySem.W.keepIn K (.ref f24) = true)
    (a25 : PySem.W.nsIn K mainGlobals "all_weights" = some (some (.ref f25))) (l25 : K.lookup f25 = some ⟨oc25, od25, .func (PySem.W.fnOf "all_weights" "all_weights" (defArgs s_all_weights) (defBody s_all_weights) (defScope s_all_weights) .none kV25 dc25 pm25 an25 cd25 ct25), sl25⟩) (c25 : PySem.W.codeIn K cd25 "all_weights" = true) (k25 : PySem.W.keepIn K (.ref f25) = true)
    (a26 : PySem.W.nsIn K mainGlobals "weight" = some (some (.ref f26))) (l26 : K.lookup f26 = some ⟨oc26, od26, .func (PySem.W.fnOf "weight" "weight" (defArgs s_weight) (defBody s_weight) (defScope s_weight) .none kV26 dc26 pm26 an26 cd26 ct26), sl26⟩) (c26 : PySem.W.codeIn K cd26 "weight" = true) (k26 : PySem.W.keepIn K (.ref f26) = true)
    (a27 : PySem.W.nsIn K mainGlobals "stretch" = some (some (.ref f27))) (l27 : K.lookup f27 = some ⟨oc27, od27, .func (PySem.W.fnOf "stretch" "stretch" (defArgs s_stretch) (defBody s_stretch) (defScope s_stretch) .none kV27 dc27 pm27 an27 cd27 ct27), sl27⟩) (c27 : PySem.W.codeIn K cd27 "stretch" = true) (k27 : PySem.W.keepIn K (.ref f27) = true)
    (a28 : PySem.W.nsIn K mainGlobals "in_twos" = some (some (.ref f28))) (l28 : K.lookup f28 = some ⟨oc28, od28, .func (PySem.W.fnOf "in_twos" "in_twos" (defArgs s_in_twos) (defBody s_in_twos) (defScope s_in_twos) .none kV28 dc28 pm28 an28 cd28 ct28), sl28⟩) (c28 : PySem.W.codeIn K cd28 "in_twos" = true) (k28 : PySem.W.keepIn K (.ref f28) = true)
    (a29 : PySem.W.nsIn K mainGlobals "bits_of" = some (some (.ref f29))) (l29 : K.lookup f29 = some ⟨oc29, od29, .func (PySem.W.fnOf "bits_of" "bits_of" (defArgs s_bits_of) (defBody s_bits_of) (defScope s_bits_of) .none kV29 dc29 pm29 an29 cd29 ct29), sl29⟩) (c29 : PySem.W.codeIn K cd29 "bits_of" = true) (k29 : PySem.W.keepIn K (.ref f29) = true)
    (a30 : PySem.W.nsIn K mainGlobals "press" = some (some (.ref f30))) (l30 : K.lookup f30 = some ⟨oc30, od30, .func (PySem.W.fnOf "press" "press" (defArgs s_press) (defBody s_press) (defScope s_press) (.ref T30) kV30 dc30 pm30 an30 cd30 ct30), sl30⟩) (c30 : PySem.W.codeIn K cd30 "press" = true) (k30 : PySem.W.keepIn K (.ref f30) = true)
    (a31 : PySem.W.nsIn K mainGlobals "letter_there" = some (some (.ref f31))) (l31 : K.lookup f31 = some ⟨oc31, od31, .func (PySem.W.fnOf "letter_there" "letter_there" (defArgs s_letter_there) (defBody s_letter_there) (defScope s_letter_there) .none kV31 dc31 pm31 an31 cd31 ct31), sl31⟩) (c31 : PySem.W.codeIn K cd31 "letter_there" = true) (k31 : PySem.W.keepIn K (.ref f31) = true)
    (a32 : PySem.W.nsIn K mainGlobals "found_text" = some (some (.ref f32))) (l32 : K.lookup f32 = some ⟨oc32, od32, .func (PySem.W.fnOf "found_text" "found_text" (defArgs s_found_text) (defBody s_found_text) (defScope s_found_text) (.ref T32) kV32 dc32 pm32 an32 cd32 ct32), sl32⟩) (c32 : PySem.W.codeIn K cd32 "found_text" = true) (k32 : PySem.W.keepIn K (.ref f32) = true)
    (a33 : PySem.W.nsIn K mainGlobals "read" = some (some (.ref f33))) (l33 : K.lookup f33 = some ⟨oc33, od33, .func (PySem.W.fnOf "read" "read" (defArgs s_read) (defBody s_read) (defScope s_read) (.ref T33) kV33 dc33 pm33 an33 cd33 ct33), sl33⟩) (c33 : PySem.W.codeIn K cd33 "read" = true) (k33 : PySem.W.keepIn K (.ref f33) = true)
    (a34 : PySem.W.nsIn K mainGlobals "_law_cell_at" = some (some (.ref f34))) (l34 : K.lookup f34 = some ⟨oc34, od34, .func (PySem.W.fnOf "_law_cell_at" "_law_cell_at" (defArgs s_law_cell_at) (defBody s_law_cell_at) (defScope s_law_cell_at) .none kV34 dc34 pm34 an34 cd34 ct34), sl34⟩) (c34 : PySem.W.codeIn K cd34 "_law_cell_at" = true) (k34 : PySem.W.keepIn K (.ref f34) = true)
    (a35 : PySem.W.nsIn K mainGlobals "_law_mixed" = some (some (.ref f35))) (l35 : K.lookup f35 = some ⟨oc35, od35, .func (PySem.W.fnOf "_law_mixed" "_law_mixed" (defArgs s_law_mixed) (defBody s_law_mixed) (defScope s_law_mixed) .none kV35 dc35 pm35 an35 cd35 ct35), sl35⟩) (c35 : PySem.W.codeIn K cd35 "_law_mixed" = true) (k35 : PySem.W.keepIn K (.ref f35) = true)
    (a36 : PySem.W.nsIn K mainGlobals "_law_letters_by" = some (some (.ref f36))) (l36 : K.lookup f36 = some ⟨oc36, od36, .func (PySem.W.fnOf "_law_letters_by" "_law_letters_by" (defArgs s_law_letters_by) (defBody s_law_letters_by) (defScope s_law_letters_by) .none kV36 dc36 pm36 an36 cd36 ct36), sl36⟩) (c36 : PySem.W.codeIn K cd36 "_law_letters_by" = true) (k36 : PySem.W.keepIn K (.ref f36) = true)
    (a37 : PySem.W.nsIn K mainGlobals "_law_text_by" = some (some (.ref f37))) (l37 : K.lookup f37 = some ⟨oc37, od37, .func (PySem.W.fnOf "_law_text_by" "_law_text_by" (defArgs s_law_text_by) (defBody s_law_text_by) (defScope s_law_text_by) .none kV37 dc37 pm37 an37 cd37 ct37), sl37⟩) (c37 : PySem.W.codeIn K cd37 "_law_text_by" = true) (k37 : PySem.W.keepIn K (.ref f37) = true)
    (a38 : PySem.W.nsIn K mainGlobals "_law_whole" = some (some (.ref f38))) (l38 : K.lookup f38 = some ⟨oc38, od38, .func (PySem.W.fnOf "_law_whole" "_law_whole" (defArgs s_law_whole) (defBody s_law_whole) (defScope s_law_whole) .none kV38 dc38 pm38 an38 cd38 ct38), sl38⟩) (c38 : PySem.W.codeIn K cd38 "_law_whole" = true) (k38 : PySem.W.keepIn K (.ref f38) = true)
    (a39 : PySem.W.nsIn K mainGlobals "_law_is_ratio" = some (some (.ref f39))) (l39 : K.lookup f39 = some ⟨oc39, od39, .func (PySem.W.fnOf "_law_is_ratio" "_law_is_ratio" (defArgs s_law_is_ratio) (defBody s_law_is_ratio) (defScope s_law_is_ratio) .none kV39 dc39 pm39 an39 cd39 ct39), sl39⟩) (c39 : PySem.W.codeIn K cd39 "_law_is_ratio" = true) (k39 : PySem.W.keepIn K (.ref f39) = true)
    (a40 : PySem.W.nsIn K mainGlobals "_law_part_good" = some (some (.ref f40))) (l40 : K.lookup f40 = some ⟨oc40, od40, .func (PySem.W.fnOf "_law_part_good" "_law_part_good" (defArgs s_law_part_good) (defBody s_law_part_good) (defScope s_law_part_good) .none kV40 dc40 pm40 an40 cd40 ct40), sl40⟩) (c40 : PySem.W.codeIn K cd40 "_law_part_good" = true) (k40 : PySem.W.keepIn K (.ref f40) = true)
    (a41 : PySem.W.nsIn K mainGlobals "law" = some (some (.ref f41))) (l41 : K.lookup f41 = some ⟨oc41, od41, .func (PySem.W.fnOf "law" "law" (defArgs s_law) (defBody s_law) (defScope s_law) .none kV41 dc41 pm41 an41 cd41 ct41), sl41⟩) (c41 : PySem.W.codeIn K cd41 "law" = true) (k41 : PySem.W.keepIn K (.ref f41) = true)
    (z_ValueError : PySem.W.nsIn K mainGlobals "ValueError" = some none)
    (z_abs : PySem.W.nsIn K mainGlobals "abs" = some none)
    (z_bool : PySem.W.nsIn K mainGlobals "bool" = some none)
    (z_int : PySem.W.nsIn K mainGlobals "int" = some none)
    (z_isinstance : PySem.W.nsIn K mainGlobals "isinstance" = some none)
    (z_len : PySem.W.nsIn K mainGlobals "len" = some none)
    (z_max : PySem.W.nsIn K mainGlobals "max" = some none)
    (z_min : PySem.W.nsIn K mainGlobals "min" = some none)
    (z_ord : PySem.W.nsIn K mainGlobals "ord" = some none)
    (z_range : PySem.W.nsIn K mainGlobals "range" = some none)
    (z_sorted : PySem.W.nsIn K mainGlobals "sorted" = some none)
    (z_str : PySem.W.nsIn K mainGlobals "str" = some none)
    (z_sum : PySem.W.nsIn K mainGlobals "sum" = some none)
    (z_tuple : PySem.W.nsIn K mainGlobals "tuple" = some none)
    (aC_NoFrame : PySem.W.nsIn K mainGlobals "NoFrame" = some (some (.ref C_NoFrame))) (xC_NoFrame : PySem.W.excIn K C_NoFrame [.type "ValueError", .type "Exception", .type "BaseException", .type "object"] "ValueError.__new__" = true) (kC_NoFrame : PySem.W.keepIn K (.ref C_NoFrame) = true) (bC_NoFrame : PySem.W.subIn K (.ref C_NoFrame) (.type "BaseException") = some true) (tC_NoFrame : PySem.W.typeIn K (.ref C_NoFrame) = some (.type "type"))
    (aC_NoPlace : PySem.W.nsIn K mainGlobals "NoPlace" = some (some (.ref C_NoPlace))) (xC_NoPlace : PySem.W.excIn K C_NoPlace [.type "ValueError", .type "Exception", .type "BaseException", .type "object"] "ValueError.__new__" = true) (kC_NoPlace : PySem.W.keepIn K (.ref C_NoPlace) = true) (bC_NoPlace : PySem.W.subIn K (.ref C_NoPlace) (.type "BaseException") = some true) (tC_NoPlace : PySem.W.typeIn K (.ref C_NoPlace) = some (.type "type"))
    (aC_NoFraction : PySem.W.nsIn K mainGlobals "NoFraction" = some (some (.ref C_NoFraction))) (xC_NoFraction : PySem.W.excIn K C_NoFraction [.type "ValueError", .type "Exception", .type "BaseException", .type "object"] "ValueError.__new__" = true) (kC_NoFraction : PySem.W.keepIn K (.ref C_NoFraction) = true) (bC_NoFraction : PySem.W.subIn K (.ref C_NoFraction) (.type "BaseException") = some true) (tC_NoFraction : PySem.W.typeIn K (.ref C_NoFraction) = some (.type "type"))
    (aC_NoBits : PySem.W.nsIn K mainGlobals "NoBits" = some (some (.ref C_NoBits))) (xC_NoBits : PySem.W.excIn K C_NoBits [.type "ValueError", .type "Exception", .type "BaseException", .type "object"] "ValueError.__new__" = true) (kC_NoBits : PySem.W.keepIn K (.ref C_NoBits) = true) (bC_NoBits : PySem.W.subIn K (.ref C_NoBits) (.type "BaseException") = some true) (tC_NoBits : PySem.W.typeIn K (.ref C_NoBits) = some (.type "type"))
    (aC_NoPress : PySem.W.nsIn K mainGlobals "NoPress" = some (some (.ref C_NoPress))) (xC_NoPress : PySem.W.excIn K C_NoPress [.type "ValueError", .type "Exception", .type "BaseException", .type "object"] "ValueError.__new__" = true) (kC_NoPress : PySem.W.keepIn K (.ref C_NoPress) = true) (bC_NoPress : PySem.W.subIn K (.ref C_NoPress) (.type "BaseException") = some true) (tC_NoPress : PySem.W.typeIn K (.ref C_NoPress) = some (.type "type"))
    (aC_NoText : PySem.W.nsIn K mainGlobals "NoText" = some (some (.ref C_NoText))) (xC_NoText : PySem.W.excIn K C_NoText [.type "ValueError", .type "Exception", .type "BaseException", .type "object"] "ValueError.__new__" = true) (kC_NoText : PySem.W.keepIn K (.ref C_NoText) = true) (bC_NoText : PySem.W.subIn K (.ref C_NoText) (.type "BaseException") = some true) (tC_NoText : PySem.W.typeIn K (.ref C_NoText) = some (.type "type"))
    {t_MOST_LETTERS : Tok} (k_MOST_LETTERS : PySem.W.nsIn K mainGlobals "MOST_LETTERS" = some (some (.int 6 t_MOST_LETTERS)))
    {t_DEEPEST : Tok} (k_DEEPEST : PySem.W.nsIn K mainGlobals "DEEPEST" = some (some (.int 6 t_DEEPEST)))
    {t_MOST_SIGNS : Tok} (k_MOST_SIGNS : PySem.W.nsIn K mainGlobals "MOST_SIGNS" = some (some (.int 100 t_MOST_SIGNS)))
    (lT19 : K.lookup T19 = some ⟨ocT19, odT19, .seq #[.str (SX.S []) tT19] nT19, slT19⟩)
    (lT30 : K.lookup T30 = some ⟨ocT30, odT30, .seq #[.str (SX.S []) tT30] nT30, slT30⟩)
    (lT32 : K.lookup T32 = some ⟨ocT32, odT32, .seq #[.str (SX.S []) tT32] nT32, slT32⟩)
    (lT33 : K.lookup T33 = some ⟨ocT33, odT33, .seq #[.str (SX.S []) tT33] nT33, slT33⟩)
    : ∃ fd : FuncData, (∀ (s : Shared) (v : Value), BindsTo s fd ⟨[v], []⟩ [("script", v)]) ∧ ∀ base : Heap, K.In base → base.Ns mainGlobals mg → FnOk P w K mg base (L2.CX P w) 10 fa fd ["script"] (spLaw K) := by
  have F_is_whole := fun_mk (st := s_is_whole) l1 c1 k1
  have D_is_whole : Df K mg "is_whole" s_is_whole ["thing"] := ⟨f1, _, F_is_whole, PySem.W.mg_of X G a1, F_is_whole.binds (ps := ["thing"]) (fun _ _ _ _ _ _ us hl => match us, hl with | [_], _ => rfl)⟩
  have F_are_letters := fun_mk (st := s_are_letters) l2 c2 k2
  have D_are_letters : Df K mg "are_letters" s_are_letters ["thing"] := ⟨f2, _, F_are_letters, PySem.W.mg_of X G a2, F_are_letters.binds (ps := ["thing"]) (fun _ _ _ _ _ _ us hl => match us, hl with | [_], _ => rfl)⟩
  have F_make_frame := fun_mk (st := s_make_frame) l3 c3 k3
  have D_make_frame : Df K mg "make_frame" s_make_frame ["letters", "depth"] := ⟨f3, _, F_make_frame, PySem.W.mg_of X G a3, F_make_frame.binds (ps := ["letters", "depth"]) (fun _ _ _ _ _ _ us hl => match us, hl with | [_, _], _ => rfl)⟩
  have F_checked := fun_mk (st := s_checked) l4 c4 k4
  have D_checked : Df K mg "checked" s_checked ["frame", "text"] := ⟨f4, _, F_checked, PySem.W.mg_of X G a4, F_checked.binds (ps := ["frame", "text"]) (fun _ _ _ _ _ _ us hl => match us, hl with | [_, _], _ => rfl)⟩
  have F_signs_ahead := fun_mk (st := s_signs_ahead) l5 c5 k5
  have D_signs_ahead : Df K mg "signs_ahead" s_signs_ahead ["frame", "text", "at"] := ⟨f5, _, F_signs_ahead, PySem.W.mg_of X G a5, F_signs_ahead.binds (ps := ["frame", "text", "at"]) (fun _ _ _ _ _ _ us hl => match us, hl with | [_, _, _], _ => rfl)⟩
  have F_elders := fun_mk (st := s_elders) l6 c6 k6
  have D_elders : Df K mg "elders" s_elders ["frame", "text", "at"] := ⟨f6, _, F_elders, PySem.W.mg_of X G a6, F_elders.binds (ps := ["frame", "text", "at"]) (fun _ _ _ _ _ _ us hl => match us, hl with | [_, _, _], _ => rfl)⟩
  have F_path_knots := fun_mk (st := s_path_knots) l7 c7 k7
  have D_path_knots : Df K mg "path_knots" s_path_knots ["frame", "text"] := ⟨f7, _, F_path_knots, PySem.W.mg_of X G a7, F_path_knots.binds (ps := ["frame", "text"]) (fun _ _ _ _ _ _ us hl => match us, hl with | [_, _], _ => rfl)⟩
  have F_entry_of := fun_mk (st := s_entry_of) l8 c8 k8
  have D_entry_of : Df K mg "entry_of" s_entry_of ["frame", "known", "knot"] := ⟨f8, _, F_entry_of, PySem.W.mg_of X G a8, F_entry_of.binds (ps := ["frame", "known", "knot"]) (fun _ _ _ _ _ _ us hl => match us, hl with | [_, _, _], _ => rfl)⟩
  have F_halved_sum := fun_mk (st := s_halved_sum) l9 c9 k9
  have D_halved_sum : Df K mg "halved_sum" s_halved_sum ["frame", "known", "path", "knot", "own"] := ⟨f9, _, F_halved_sum, PySem.W.mg_of X G a9, F_halved_sum.binds (ps := ["frame", "known", "path", "knot", "own"]) (fun _ _ _ _ _ _ us hl => match us, hl with | [_, _, _, _, _], _ => rfl)⟩
  have F_grown_path := fun_mk (st := s_grown_path) l10 c10 k10
  have D_grown_path : Df K mg "grown_path" s_grown_path ["frame", "known", "text", "place"] := ⟨f10, _, F_grown_path, PySem.W.mg_of X G a10, F_grown_path.binds (ps := ["frame", "known", "text", "place"]) (fun _ _ _ _ _ _ us hl => match us, hl with | [_, _, _, _], _ => rfl)⟩
  have F_weight_pair := fun_mk (st := s_weight_pair) l11 c11 k11
  have D_weight_pair : Df K mg "weight_pair" s_weight_pair ["frame", "known"] := ⟨f11, _, F_weight_pair, PySem.W.mg_of X G a11, F_weight_pair.binds (ps := ["frame", "known"]) (fun _ _ _ _ _ _ us hl => match us, hl with | [_, _], _ => rfl)⟩
  have F_known_of := fun_mk (st := s_known_of) l12 c12 k12
  have D_known_of : Df K mg "known_of" s_known_of ["frame", "text"] := ⟨f12, _, F_known_of, PySem.W.mg_of X G a12, F_known_of.binds (ps := ["frame", "text"]) (fun _ _ _ _ _ _ us hl => match us, hl with | [_, _], _ => rfl)⟩
  have F_greatest_divisor := fun_mk (st := s_greatest_divisor) l13 c13 k13
  have D_greatest_divisor : Df K mg "greatest_divisor" s_greatest_divisor ["one", "other"] := ⟨f13, _, F_greatest_divisor, PySem.W.mg_of X G a13, F_greatest_divisor.binds (ps := ["one", "other"]) (fun _ _ _ _ _ _ us hl => match us, hl with | [_, _], _ => rfl)⟩
  have F_fraction := fun_mk (st := s_fraction) l14 c14 k14
  have D_fraction : Df K mg "fraction" s_fraction ["top", "bottom"] := ⟨f14, _, F_fraction, PySem.W.mg_of X G a14, F_fraction.binds (ps := ["top", "bottom"]) (fun _ _ _ _ _ _ us hl => match us, hl with | [_, _], _ => rfl)⟩
  have F_plus := fun_mk (st := s_plus) l15 c15 k15
  have D_plus : Df K mg "plus" s_plus ["one", "other"] := ⟨f15, _, F_plus, PySem.W.mg_of X G a15, F_plus.binds (ps := ["one", "other"]) (fun _ _ _ _ _ _ us hl => match us, hl with | [_, _], _ => rfl)⟩
  have F_times := fun_mk (st := s_times) l16 c16 k16
  have D_times : Df K mg "times" s_times ["one", "other"] := ⟨f16, _, F_times, PySem.W.mg_of X G a16, F_times.binds (ps := ["one", "other"]) (fun _ _ _ _ _ _ us hl => match us, hl with | [_, _], _ => rfl)⟩
  have F_half := fun_mk (st := s_half) l17 c17 k17
  have D_half : Df K mg "half" s_half ["one"] := ⟨f17, _, F_half, PySem.W.mg_of X G a17, F_half.binds (ps := ["one"]) (fun _ _ _ _ _ _ us hl => match us, hl with | [_], _ => rfl)⟩
  have F_lesser_tops := fun_mk (st := s_lesser_tops) l18 c18 k18
  have D_lesser_tops : Df K mg "lesser_tops" s_lesser_tops ["frame", "known", "text", "place"] := ⟨f18, _, F_lesser_tops, PySem.W.mg_of X G a18, F_lesser_tops.binds (ps := ["frame", "known", "text", "place"]) (fun _ _ _ _ _ _ us hl => match us, hl with | [_, _, _, _], _ => rfl)⟩
  have F_span : FunD K "span" "span" (defArgs s_span) (defBody s_span) (defScope s_span) [(.str (SX.S []))] [] f19 _ := ⟨⟨_, _, _, _, _, _, _, _, _, _, rfl, l19, c19, .inr ⟨by simp, T19, _, [.str (SX.S []) tT19], _, rfl, lT19, rfl, .cons ⟨_, rfl⟩ .nil⟩, .inl rfl⟩, k19⟩
  have D_span : DfD K mg "span" s_span ["frame", "text", "ahead"] (.str (SX.S [])) := by
    refine ⟨f19, _, F_span, PySem.W.mg_of X G a19, ?_, ?_⟩
    · obtain ⟨ds, h1, h2⟩ := F_span.binds1 (ps := ["frame", "text", "ahead"]) 3 1 (by simp) rfl (fun T kV doc pm an cdv ct us its h1 h2 => match us, its, h1, h2 with | [_, _, _], [_], _, _ => ⟨_, rfl, rfl⟩)
      cases h1; exact h2
    · obtain ⟨ds, h1, h2⟩ := F_span.binds1 (ps := ["frame", "text", "ahead"]) 2 0 (by simp) rfl (fun T kV doc pm an cdv ct us its h1 h2 => match us, its, h1, h2 with | [_, _], [_], _, _ => ⟨_, rfl, rfl⟩)
      cases h1 with
      | cons a t => cases t; exact ⟨_, .cons a .nil, h2⟩
  have F_odd_product := fun_mk (st := s_odd_product) l20 c20 k20
  have D_odd_product : Df K mg "odd_product" s_odd_product ["many"] := ⟨f20, _, F_odd_product, PySem.W.mg_of X G a20, F_odd_product.binds (ps := ["many"]) (fun _ _ _ _ _ _ us hl => match us, hl with | [_], _ => rfl)⟩
  have F_worth := fun_mk (st := s_worth) l21 c21 k21
  have D_worth : Df K mg "worth" s_worth ["counts"] := ⟨f21, _, F_worth, PySem.W.mg_of X G a21, F_worth.binds (ps := ["counts"]) (fun _ _ _ _ _ _ us hl => match us, hl with | [_], _ => rfl)⟩
  have F_all_counts := fun_mk (st := s_all_counts) l22 c22 k22
  have D_all_counts : Df K mg "all_counts" s_all_counts ["frame", "text"] := ⟨f22, _, F_all_counts, PySem.W.mg_of X G a22, F_all_counts.binds (ps := ["frame", "text"]) (fun _ _ _ _ _ _ us hl => match us, hl with | [_, _], _ => rfl)⟩
  have F_all_worths := fun_mk (st := s_all_worths) l23 c23 k23
  have D_all_worths : Df K mg "all_worths" s_all_worths ["frame", "text"] := ⟨f23, _, F_all_worths, PySem.W.mg_of X G a23, F_all_worths.binds (ps := ["frame", "text"]) (fun _ _ _ _ _ _ us hl => match us, hl with | [_, _], _ => rfl)⟩
  have F_branch_weight := fun_mk (st := s_branch_weight) l24 c24 k24
  have D_branch_weight : Df K mg "branch_weight" s_branch_weight ["frame", "weights", "knot"] := ⟨f24, _, F_branch_weight, PySem.W.mg_of X G a24, F_branch_weight.binds (ps := ["frame", "weights", "knot"]) (fun _ _ _ _ _ _ us hl => match us, hl with | [_, _, _], _ => rfl)⟩
  have F_all_weights := fun_mk (st := s_all_weights) l25 c25 k25
  have D_all_weights : Df K mg "all_weights" s_all_weights ["frame", "worths"] := ⟨f25, _, F_all_weights, PySem.W.mg_of X G a25, F_all_weights.binds (ps := ["frame", "worths"]) (fun _ _ _ _ _ _ us hl => match us, hl with | [_, _], _ => rfl)⟩
  have F_weight := fun_mk (st := s_weight) l26 c26 k26
  have D_weight : Df K mg "weight" s_weight ["frame", "text"] := ⟨f26, _, F_weight, PySem.W.mg_of X G a26, F_weight.binds (ps := ["frame", "text"]) (fun _ _ _ _ _ _ us hl => match us, hl with | [_, _], _ => rfl)⟩
  have F_stretch := fun_mk (st := s_stretch) l27 c27 k27
  have D_stretch : Df K mg "stretch" s_stretch ["bits"] := ⟨f27, _, F_stretch, PySem.W.mg_of X G a27, F_stretch.binds (ps := ["bits"]) (fun _ _ _ _ _ _ us hl => match us, hl with | [_], _ => rfl)⟩
  have F_in_twos := fun_mk (st := s_in_twos) l28 c28 k28
  have D_in_twos : Df K mg "in_twos" s_in_twos ["number", "many"] := ⟨f28, _, F_in_twos, PySem.W.mg_of X G a28, F_in_twos.binds (ps := ["number", "many"]) (fun _ _ _ _ _ _ us hl => match us, hl with | [_, _], _ => rfl)⟩
  have F_bits_of := fun_mk (st := s_bits_of) l29 c29 k29
  have D_bits_of : Df K mg "bits_of" s_bits_of ["low", "width"] := ⟨f29, _, F_bits_of, PySem.W.mg_of X G a29, F_bits_of.binds (ps := ["low", "width"]) (fun _ _ _ _ _ _ us hl => match us, hl with | [_, _], _ => rfl)⟩
  have F_press : FunD K "press" "press" (defArgs s_press) (defBody s_press) (defScope s_press) [(.str (SX.S []))] [] f30 _ := ⟨⟨_, _, _, _, _, _, _, _, _, _, rfl, l30, c30, .inr ⟨by simp, T30, _, [.str (SX.S []) tT30], _, rfl, lT30, rfl, .cons ⟨_, rfl⟩ .nil⟩, .inl rfl⟩, k30⟩
  have D_press : DfD K mg "press" s_press ["frame", "text", "ahead"] (.str (SX.S [])) := by
    refine ⟨f30, _, F_press, PySem.W.mg_of X G a30, ?_, ?_⟩
    · obtain ⟨ds, h1, h2⟩ := F_press.binds1 (ps := ["frame", "text", "ahead"]) 3 1 (by simp) rfl (fun T kV doc pm an cdv ct us its h1 h2 => match us, its, h1, h2 with | [_, _, _], [_], _, _ => ⟨_, rfl, rfl⟩)
      cases h1; exact h2
    · obtain ⟨ds, h1, h2⟩ := F_press.binds1 (ps := ["frame", "text", "ahead"]) 2 0 (by simp) rfl (fun T kV doc pm an cdv ct us its h1 h2 => match us, its, h1, h2 with | [_, _], [_], _, _ => ⟨_, rfl, rfl⟩)
      cases h1 with
      | cons a t => cases t; exact ⟨_, .cons a .nil, h2⟩
  have F_letter_there := fun_mk (st := s_letter_there) l31 c31 k31
  have D_letter_there : Df K mg "letter_there" s_letter_there ["frame", "known", "text", "gone", "first", "ends"] := ⟨f31, _, F_letter_there, PySem.W.mg_of X G a31, F_letter_there.binds (ps := ["frame", "known", "text", "gone", "first", "ends"]) (fun _ _ _ _ _ _ us hl => match us, hl with | [_, _, _, _, _, _], _ => rfl)⟩
  have F_found_text : FunD K "found_text" "found_text" (defArgs s_found_text) (defBody s_found_text) (defScope s_found_text) [(.str (SX.S []))] [] f32 _ := ⟨⟨_, _, _, _, _, _, _, _, _, _, rfl, l32, c32, .inr ⟨by simp, T32, _, [.str (SX.S []) tT32], _, rfl, lT32, rfl, .cons ⟨_, rfl⟩ .nil⟩, .inl rfl⟩, k32⟩
  have D_found_text : DfD K mg "found_text" s_found_text ["frame", "many", "low", "width", "ahead"] (.str (SX.S [])) := by
    refine ⟨f32, _, F_found_text, PySem.W.mg_of X G a32, ?_, ?_⟩
    · obtain ⟨ds, h1, h2⟩ := F_found_text.binds1 (ps := ["frame", "many", "low", "width", "ahead"]) 5 1 (by simp) rfl (fun T kV doc pm an cdv ct us its h1 h2 => match us, its, h1, h2 with | [_, _, _, _, _], [_], _, _ => ⟨_, rfl, rfl⟩)
      cases h1; exact h2
    · obtain ⟨ds, h1, h2⟩ := F_found_text.binds1 (ps := ["frame", "many", "low", "width", "ahead"]) 4 0 (by simp) rfl (fun T kV doc pm an cdv ct us its h1 h2 => match us, its, h1, h2 with | [_, _, _, _], [_], _, _ => ⟨_, rfl, rfl⟩)
      cases h1 with
      | cons a t => cases t; exact ⟨_, .cons a .nil, h2⟩
  have F_read : FunD K "read" "read" (defArgs s_read) (defBody s_read) (defScope s_read) [(.str (SX.S []))] [] f33 _ := ⟨⟨_, _, _, _, _, _, _, _, _, _, rfl, l33, c33, .inr ⟨by simp, T33, _, [.str (SX.S []) tT33], _, rfl, lT33, rfl, .cons ⟨_, rfl⟩ .nil⟩, .inl rfl⟩, k33⟩
  have D_read : DfD K mg "read" s_read ["frame", "many", "bits", "ahead"] (.str (SX.S [])) := by
    refine ⟨f33, _, F_read, PySem.W.mg_of X G a33, ?_, ?_⟩
    · obtain ⟨ds, h1, h2⟩ := F_read.binds1 (ps := ["frame", "many", "bits", "ahead"]) 4 1 (by simp) rfl (fun T kV doc pm an cdv ct us its h1 h2 => match us, its, h1, h2 with | [_, _, _, _], [_], _, _ => ⟨_, rfl, rfl⟩)
      cases h1; exact h2
    · obtain ⟨ds, h1, h2⟩ := F_read.binds1 (ps := ["frame", "many", "bits", "ahead"]) 3 0 (by simp) rfl (fun T kV doc pm an cdv ct us its h1 h2 => match us, its, h1, h2 with | [_, _, _], [_], _, _ => ⟨_, rfl, rfl⟩)
      cases h1 with
      | cons a t => cases t; exact ⟨_, .cons a .nil, h2⟩
  have F_law_cell_at := fun_mk (st := s_law_cell_at) l34 c34 k34
  have D_law_cell_at : Df K mg "_law_cell_at" s_law_cell_at ["script", "k"] := ⟨f34, _, F_law_cell_at, PySem.W.mg_of X G a34, F_law_cell_at.binds (ps := ["script", "k"]) (fun _ _ _ _ _ _ us hl => match us, hl with | [_, _], _ => rfl)⟩
  have F_law_mixed := fun_mk (st := s_law_mixed) l35 c35 k35
  have D_law_mixed : Df K mg "_law_mixed" s_law_mixed ["cell", "k"] := ⟨f35, _, F_law_mixed, PySem.W.mg_of X G a35, F_law_mixed.binds (ps := ["cell", "k"]) (fun _ _ _ _ _ _ us hl => match us, hl with | [_, _], _ => rfl)⟩
  have F_law_letters_by := fun_mk (st := s_law_letters_by) l36 c36 k36
  have D_law_letters_by : Df K mg "_law_letters_by" s_law_letters_by ["cell"] := ⟨f36, _, F_law_letters_by, PySem.W.mg_of X G a36, F_law_letters_by.binds (ps := ["cell"]) (fun _ _ _ _ _ _ us hl => match us, hl with | [_], _ => rfl)⟩
  have F_law_text_by := fun_mk (st := s_law_text_by) l37 c37 k37
  have D_law_text_by : Df K mg "_law_text_by" s_law_text_by ["script", "letters", "way", "most"] := ⟨f37, _, F_law_text_by, PySem.W.mg_of X G a37, F_law_text_by.binds (ps := ["script", "letters", "way", "most"]) (fun _ _ _ _ _ _ us hl => match us, hl with | [_, _, _, _], _ => rfl)⟩
  have F_law_whole := fun_mk (st := s_law_whole) l38 c38 k38
  have D_law_whole : Df K mg "_law_whole" s_law_whole ["found"] := ⟨f38, _, F_law_whole, PySem.W.mg_of X G a38, F_law_whole.binds (ps := ["found"]) (fun _ _ _ _ _ _ us hl => match us, hl with | [_], _ => rfl)⟩
  have F_law_is_ratio := fun_mk (st := s_law_is_ratio) l39 c39 k39
  have D_law_is_ratio : Df K mg "_law_is_ratio" s_law_is_ratio ["found"] := ⟨f39, _, F_law_is_ratio, PySem.W.mg_of X G a39, F_law_is_ratio.binds (ps := ["found"]) (fun _ _ _ _ _ _ us hl => match us, hl with | [_], _ => rfl)⟩
  have F_law_part_good := fun_mk (st := s_law_part_good) l40 c40 k40
  have D_law_part_good : Df K mg "_law_part_good" s_law_part_good ["frame", "part", "ahead"] := ⟨f40, _, F_law_part_good, PySem.W.mg_of X G a40, F_law_part_good.binds (ps := ["frame", "part", "ahead"]) (fun _ _ _ _ _ _ us hl => match us, hl with | [_, _, _], _ => rfl)⟩
  have F_law := fun_mk (st := s_law) l41 c41 k41
  have T : Txt K mg := { b_ValueError := PySem.W.mg_none_of X G z_ValueError, b_abs := PySem.W.mg_none_of X G z_abs, b_bool := PySem.W.mg_none_of X G z_bool, b_int := PySem.W.mg_none_of X G z_int, b_isinstance := PySem.W.mg_none_of X G z_isinstance, b_len := PySem.W.mg_none_of X G z_len, b_max := PySem.W.mg_none_of X G z_max, b_min := PySem.W.mg_none_of X G z_min, b_ord := PySem.W.mg_none_of X G z_ord, b_range := PySem.W.mg_none_of X G z_range, b_sorted := PySem.W.mg_none_of X G z_sorted, b_str := PySem.W.mg_none_of X G z_str, b_sum := PySem.W.mg_none_of X G z_sum, b_tuple := PySem.W.mg_none_of X G z_tuple, e_NoFrame := ⟨C_NoFrame, PySem.W.mg_of X G aC_NoFrame, xC_NoFrame, kC_NoFrame, bC_NoFrame, tC_NoFrame⟩, e_NoPlace := ⟨C_NoPlace, PySem.W.mg_of X G aC_NoPlace, xC_NoPlace, kC_NoPlace, bC_NoPlace, tC_NoPlace⟩, e_NoFraction := ⟨C_NoFraction, PySem.W.mg_of X G aC_NoFraction, xC_NoFraction, kC_NoFraction, bC_NoFraction, tC_NoFraction⟩, e_NoBits := ⟨C_NoBits, PySem.W.mg_of X G aC_NoBits, xC_NoBits, kC_NoBits, bC_NoBits, tC_NoBits⟩, e_NoPress := ⟨C_NoPress, PySem.W.mg_of X G aC_NoPress, xC_NoPress, kC_NoPress, bC_NoPress, tC_NoPress⟩, e_NoText := ⟨C_NoText, PySem.W.mg_of X G aC_NoText, xC_NoText, kC_NoText, bC_NoText, tC_NoText⟩, c_MOST_LETTERS := ⟨t_MOST_LETTERS, PySem.W.mg_of X G k_MOST_LETTERS⟩, c_DEEPEST := ⟨t_DEEPEST, PySem.W.mg_of X G k_DEEPEST⟩, c_MOST_SIGNS := ⟨t_MOST_SIGNS, PySem.W.mg_of X G k_MOST_SIGNS⟩ }
  have e := hfa.symm.trans (PySem.W.mg_of X G a41)
  cases e
  refine ⟨PySem.W.fnOf "law" "law" (defArgs s_law) (defBody s_law) (defScope s_law) .none kV41 dc41 pm41 an41 cd41 ct41, fun s v => .of_eq rfl, fun base _ _ => ?_⟩
  have G_is_whole := ok_is_whole (P := P) (w := w) (base := base) T D_is_whole
  have G_are_letters := ok_are_letters (P := P) (w := w) (base := base) T D_are_letters
  have G_make_frame := ok_make_frame T G_are_letters G_is_whole D_make_frame
  have G_checked := ok_checked (P := P) (w := w) (base := base) T D_checked
  have G_signs_ahead := ok_signs_ahead (P := P) (w := w) (base := base) T D_signs_ahead
  have G_elders := ok_elders T G_checked G_signs_ahead D_elders
  have G_path_knots := ok_path_knots T G_elders D_path_knots
  have G_entry_of := ok_entry_of (P := P) (w := w) (base := base) T D_entry_of
  have G_halved_sum := ok_halved_sum T G_entry_of D_halved_sum
  have G_grown_path := ok_grown_path T G_path_knots G_entry_of G_halved_sum D_grown_path
  have G_weight_pair := ok_weight_pair T G_entry_of D_weight_pair
  have G_known_of := ok_known_of T G_grown_path D_known_of
  have G_greatest_divisor := ok_greatest_divisor (P := P) (w := w) (base := base) T D_greatest_divisor
  have G_fraction := ok_fraction T G_greatest_divisor D_fraction
  have G_plus := ok_plus T G_fraction D_plus
  have G_times := ok_times T G_fraction D_times
  have G_half := ok_half T G_fraction D_half
  have G_lesser_tops := ok_lesser_tops T G_grown_path D_lesser_tops
  have G_span := ok_span T G_checked G_known_of G_weight_pair G_lesser_tops G_fraction G_grown_path D_span
  have G_odd_product := ok_odd_product (P := P) (w := w) (base := base) T D_odd_product
  have G_worth := ok_worth T G_fraction G_odd_product D_worth
  have G_all_counts := ok_all_counts T G_elders D_all_counts
  have G_all_worths := ok_all_worths T G_all_counts G_worth D_all_worths
  have G_branch_weight := ok_branch_weight T G_times D_branch_weight
  have G_all_weights := ok_all_weights T G_half G_plus G_branch_weight D_all_weights
  have G_weight := ok_weight T G_checked G_all_weights G_all_worths D_weight
  have G_stretch := ok_stretch T G_fraction D_stretch
  have G_in_twos := ok_in_twos (P := P) (w := w) (base := base) T D_in_twos
  have G_bits_of := ok_bits_of T G_in_twos D_bits_of
  have G_press := ok_press T G_span G_bits_of D_press
  have G_letter_there := ok_letter_there T G_weight_pair G_grown_path D_letter_there
  have G_found_text := ok_found_text T G_known_of G_weight_pair G_plus G_letter_there D_found_text
  have G_read := ok_read T G_checked G_stretch G_found_text G_press D_read
  have G_law_cell_at := ok_law_cell_at (P := P) (w := w) (base := base) T D_law_cell_at
  have G_law_mixed := ok_law_mixed (P := P) (w := w) (base := base) T D_law_mixed
  have G_law_letters_by := ok_law_letters_by T G_law_mixed D_law_letters_by
  have G_law_text_by := ok_law_text_by T G_law_mixed D_law_text_by
  have G_law_whole := ok_law_whole (P := P) (w := w) (base := base) T D_law_whole
  have G_law_is_ratio := ok_law_is_ratio T G_law_whole D_law_is_ratio
  have G_law_part_good := ok_law_part_good T G_press G_span G_read G_law_is_ratio D_law_part_good
  refine law_imp (FnOk_sub (fun ds o h => ?_) (ok_law T G_law_cell_at G_law_letters_by G_law_text_by G_make_frame G_weight G_law_part_good G_law_is_ratio G_law_mixed F_law))
  obtain ⟨ns, rfl, h1, h2, rfl⟩ := h
  exact ⟨ns, rfl, by rw [law_holds ns h1 h2]; rfl⟩
end B
open PySem PySem.W PyProof.Rows
set_option maxRecDepth 100000 in
set_option maxHeartbeats 0 in
theorem PySem.Challenge.cw_boughpress_k82_whole_pressed_behind_holds : PySem.Challenge.rw_boughpress_k82_whole_pressed_behind.Holds := by
  w_on; o_law; k_head; (case hw => w_witness2)
  k_fill
  refine B.walk (l := PySem.Challenge.rw_boughpress_k82_whole_pressed_behind) (k := 10) rfl rfl ⟨rfl, by decide, by decide⟩ (fun w h Y => PySem.W.kIn_of Y) ?F
  case F =>
    intro w mg fa h KX G hmg
    refine' B.all_mk KX G hmg ?a1 ?l1 ?c1 ?k1 ?a2 ?l2 ?c2 ?k2 ?a3 ?l3 ?c3 ?k3 ?a4 ?l4 ?c4 ?k4 ?a5 ?l5 ?c5 ?k5 ?a6 ?l6 ?c6 ?k6 ?a7 ?l7 ?c7 ?k7 ?a8 ?l8 ?c8 ?k8 ?a9 ?l9 ?c9 ?k9 ?a10 ?l10 ?c10 ?k10 ?a11 ?l11 ?c11 ?k11 ?a12 ?l12 ?c12 ?k12 ?a13 ?l13 ?c13 ?k13 ?a14 ?l14 ?c14 ?k14 ?a15 ?l15 ?c15 ?k15 ?a16 ?l16 ?c16 ?k16 ?a17 ?l17 ?c17 ?k17 ?a18 ?l18 ?c18 ?k18 ?a19 ?l19 ?c19 ?k19 ?a20 ?l20 ?c20 ?k20 ?a21 ?l21 ?c21 ?k21 ?a22 ?l22 ?c22 ?k22 ?a23 ?l23 ?c23 ?k23 ?a24 ?l24 ?c24 ?k24 ?a25 ?l25 ?c25 ?k25 ?a26 ?l26 ?c26 ?k26 ?a27 ?l27 ?c27 ?k27 ?a28 ?l28 ?c28 ?k28 ?a29 ?l29 ?c29 ?k29 ?a30 ?l30 ?c30 ?k30 ?a31 ?l31 ?c31 ?k31 ?a32 ?l32 ?c32 ?k32 ?a33 ?l33 ?c33 ?k33 ?a34 ?l34 ?c34 ?k34 ?a35 ?l35 ?c35 ?k35 ?a36 ?l36 ?c36 ?k36 ?a37 ?l37 ?c37 ?k37 ?a38 ?l38 ?c38 ?k38 ?a39 ?l39 ?c39 ?k39 ?a40 ?l40 ?c40 ?k40 ?a41 ?l41 ?c41 ?k41 ?z_ValueError ?z_abs ?z_bool ?z_int ?z_isinstance ?z_len ?z_max ?z_min ?z_ord ?z_range ?z_sorted ?z_str ?z_sum ?z_tuple ?aC_NoFrame ?xC_NoFrame ?kC_NoFrame ?bC_NoFrame ?tC_NoFrame ?aC_NoPlace ?xC_NoPlace ?kC_NoPlace ?bC_NoPlace ?tC_NoPlace ?aC_NoFraction ?xC_NoFraction ?kC_NoFraction ?bC_NoFraction ?tC_NoFraction ?aC_NoBits ?xC_NoBits ?kC_NoBits ?bC_NoBits ?tC_NoBits ?aC_NoPress ?xC_NoPress ?kC_NoPress ?bC_NoPress ?tC_NoPress ?aC_NoText ?xC_NoText ?kC_NoText ?bC_NoText ?tC_NoText ?k_MOST_LETTERS ?k_DEEPEST ?k_MOST_SIGNS ?lT19 ?lT30 ?lT32 ?lT33
    (case a1 => k_is)
    (case l1 => k_is)
    (case c1 => k_is)
    (case k1 => k_is)
    (case a2 => k_is)
    (case l2 => k_is)
    (case c2 => k_is)
    (case k2 => k_is)
    (case a3 => k_is)
    (case l3 => k_is)
    (case c3 => k_is)
    (case k3 => k_is)
    (case a4 => k_is)
    (case l4 => k_is)
    (case c4 => k_is)
    (case k4 => k_is)
    (case a5 => k_is)
    (case l5 => k_is)
    (case c5 => k_is)
    (case k5 => k_is)
    (case a6 => k_is)
    (case l6 => k_is)
    (case c6 => k_is)
    (case k6 => k_is)
    (case a7 => k_is)
    (case l7 => k_is)
    (case c7 => k_is)
    (case k7 => k_is)
    (case a8 => k_is)
    (case l8 => k_is)
    (case c8 => k_is)
    (case k8 => k_is)
    (case a9 => k_is)
    (case l9 => k_is)
    (case c9 => k_is)
    (case k9 => k_is)
    (case a10 => k_is)
    (case l10 => k_is)
    (case c10 => k_is)
    (case k10 => k_is)
    (case a11 => k_is)
    (case l11 => k_is)
    (case c11 => k_is)
    (case k11 => k_is)
    (case a12 => k_is)
    (case l12 => k_is)
    (case c12 => k_is)
    (case k12 => k_is)
    (case a13 => k_is)
    (case l13 => k_is)
    (case c13 => k_is)
    (case k13 => k_is)
    (case a14 => k_is)
    (case l14 => k_is)
    (case c14 => k_is)
    (case k14 => k_is)
    (case a15 => k_is)
    (case l15 => k_is)
    (case c15 => k_is)
    (case k15 => k_is)
    (case a16 => k_is)
    (case l16 => k_is)
    (case c16 => k_is)
    (case k16 => k_is)
    (case a17 => k_is)
    (case l17 => k_is)
    (case c17 => k_is)
    (case k17 => k_is)
    (case a18 => k_is)
    (case l18 => k_is)
    (case c18 => k_is)
    (case k18 => k_is)
    (case a19 => k_is)
    (case l19 => k_is)
    (case c19 => k_is)
    (case k19 => k_is)
    (case a20 => k_is)
    (case l20 => k_is)
    (case c20 => k_is)
    (case k20 => k_is)
    (case a21 => k_is)
    (case l21 => k_is)
    (case c21 => k_is)
    (case k21 => k_is)
    (case a22 => k_is)
    (case l22 => k_is)
    (case c22 => k_is)
    (case k22 => k_is)
    (case a23 => k_is)
    (case l23 => k_is)
    (case c23 => k_is)
    (case k23 => k_is)
    (case a24 => k_is)
    (case l24 => k_is)
    (case c24 => k_is)
    (case k24 => k_is)
    (case a25 => k_is)
    (case l25 => k_is)
    (case c25 => k_is)
    (case k25 => k_is)
    (case a26 => k_is)
    (case l26 => k_is)
    (case c26 => k_is)
    (case k26 => k_is)
    (case a27 => k_is)
    (case l27 => k_is)
    (case c27 => k_is)
    (case k27 => k_is)
    (case a28 => k_is)
    (case l28 => k_is)
    (case c28 => k_is)
    (case k28 => k_is)
    (case a29 => k_is)
    (case l29 => k_is)
    (case c29 => k_is)
    (case k29 => k_is)
    (case a30 => k_is)
    (case l30 => k_is)
    (case c30 => k_is)
    (case k30 => k_is)
    (case a31 => k_is)
    (case l31 => k_is)
    (case c31 => k_is)
    (case k31 => k_is)
    (case a32 => k_is)
    (case l32 => k_is)
    (case c32 => k_is)
    (case k32 => k_is)
    (case a33 => k_is)
    (case l33 => k_is)
    (case c33 => k_is)
    (case k33 => k_is)
    (case a34 => k_is)
    (case l34 => k_is)
    (case c34 => k_is)
    (case k34 => k_is)
    (case a35 => k_is)
    (case l35 => k_is)
    (case c35 => k_is)
    (case k35 => k_is)
    (case a36 => k_is)
    (case l36 => k_is)
    (case c36 => k_is)
    (case k36 => k_is)
    (case a37 => k_is)
    (case l37 => k_is)
    (case c37 => k_is)
    (case k37 => k_is)
    (case a38 => k_is)
    (case l38 => k_is)
    (case c38 => k_is)
    (case k38 => k_is)
    (case a39 => k_is)
    (case l39 => k_is)
    (case c39 => k_is)
    (case k39 => k_is)
    (case a40 => k_is)
    (case l40 => k_is)
    (case c40 => k_is)
    (case k40 => k_is)
    (case a41 => k_is)
    (case l41 => k_is)
    (case c41 => k_is)
    (case k41 => k_is)
    (case z_ValueError => k_is)
    (case z_abs => k_is)
    (case z_bool => k_is)
    (case z_int => k_is)
    (case z_isinstance => k_is)
    (case z_len => k_is)
    (case z_max => k_is)
    (case z_min => k_is)
    (case z_ord => k_is)
    (case z_range => k_is)
    (case z_sorted => k_is)
    (case z_str => k_is)
    (case z_sum => k_is)
    (case z_tuple => k_is)
    (case aC_NoFrame => k_is)
    (case xC_NoFrame => k_exc)
    (case kC_NoFrame => k_is)
    (case bC_NoFrame => k_is)
    (case tC_NoFrame => k_is)
    (case aC_NoPlace => k_is)
    (case xC_NoPlace => k_exc)
    (case kC_NoPlace => k_is)
    (case bC_NoPlace => k_is)
    (case tC_NoPlace => k_is)
    (case aC_NoFraction => k_is)
    (case xC_NoFraction => k_exc)
    (case kC_NoFraction => k_is)
    (case bC_NoFraction => k_is)
    (case tC_NoFraction => k_is)
    (case aC_NoBits => k_is)
    (case xC_NoBits => k_exc)
    (case kC_NoBits => k_is)
    (case bC_NoBits => k_is)
    (case tC_NoBits => k_is)
    (case aC_NoPress => k_is)
    (case xC_NoPress => k_exc)
    (case kC_NoPress => k_is)
    (case bC_NoPress => k_is)
    (case tC_NoPress => k_is)
    (case aC_NoText => k_is)
    (case xC_NoText => k_exc)
    (case kC_NoText => k_is)
    (case bC_NoText => k_is)
    (case tC_NoText => k_is)
    (case k_MOST_LETTERS => k_is)
    (case k_DEEPEST => k_is)
    (case k_MOST_SIGNS => k_is)
    (case lT19 => k_is)
    (case lT30 => k_is)
    (case lT32 => k_is)
    (case lT33 => k_is)
#print axioms PySem.Challenge.cw_boughpress_k82_whole_pressed_behind_holds


