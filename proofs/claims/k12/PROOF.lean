import PyProof.Rows.All
import Wide.All
import OpenK.AllK
import Wide.FinOn
import HandS.ForMost
import HandS.Exc
import HandS.TryOnly
import HandS.ExcOwn
import HandS.WordsExc
import HandS.ExcIs
import HandS.IsInst
import HandS.Wide
import HandS.EndBits
import HandS.Codes
import HandS.StrMore
import HandS.TupAny
import HandS.Rev
import HandS.Text
import HandS.WideBits
import HandS.Dict
import HandS.Small
import HandS.Style
import PySem.Challenge.RW_boughpress_k12_counts_of_knots
set_option Elab.async false
set_option linter.all false
set_option maxRecDepth 100000
set_option maxHeartbeats 4000000
namespace B
open PySem PySem.Spec PyProof.Rows L2

/-! ### data without the heap -/
inductive Dat where
  | non
  | bl (b : Bool)
  | int (i : Int)
  | str (s : Str)
  | tup (ds : List Dat)
  | lst (ds : List Dat)
  | dic (kvs : List (Key × Dat))

mutual
/-- nothing in it may be changed -/
def flat : Dat → Bool
  | .non => true
  | .bl _ => true
  | .int _ => true
  | .str _ => true
  | .tup ds => flats ds
  | .lst _ => false
  | .dic _ => false
def flats : List Dat → Bool
  | [] => true
  | d :: r => flat d && flats r
end

mutual
inductive At (K : PySem.W.Frag) (H : Hp) : V → Dat → Prop where
  | non : At K H .non .non
  | bl (b : Bool) : At K H (.bl b) (.bl b)
  | int (i : Int) : At K H (.int i) (.int i)
  | str (s : Str) : At K H (.str s) (.str s)
  | tup {p : Addr} {vs : List V} {ds : List Dat} : SqT K H p vs → Ats K H vs ds → At K H (.ref p) (.tup ds)
  | lst {p : Addr} {vs : List V} {ds : List Dat} : SqL K H p vs → Ats K H vs ds → At K H (.ref p) (.lst ds)
  | dic {p : Addr} {vs : List (Key × V)} {ds : List (Key × Dat)} : Rd H p (.dK vs) → Atk K H vs ds → At K H (.ref p) (.dic ds)
inductive Ats (K : PySem.W.Frag) (H : Hp) : List V → List Dat → Prop where
  | nil : Ats K H [] []
  | cons {v : V} {d : Dat} {vs : List V} {ds : List Dat} : At K H v d → Ats K H vs ds → Ats K H (v :: vs) (d :: ds)
inductive Atk (K : PySem.W.Frag) (H : Hp) : List (Key × V) → List (Key × Dat) → Prop where
  | nil : Atk K H [] []
  | cons {k : Key} {v : V} {d : Dat} {vs : List (Key × V)} {ds : List (Key × Dat)} : At K H v d → Atk K H vs ds → Atk K H ((k, v) :: vs) ((k, d) :: ds)
end

theorem sql_same {K : PySem.W.Frag} {H H' : Hp} {a : Addr} {xs : List V} (e : Same H H') (h : SqL K H a xs) : SqL K H' a xs := e.seq h
theorem sqt_same {K : PySem.W.Frag} {H H' : Hp} {a : Addr} {xs : List V} (e : Same H H') (h : SqT K H a xs) : SqT K H' a xs := by
  rcases h with (h | ⟨o, h⟩) | h
  · exact .inl (.inl (e _ _ h))
  · exact .inl (.inr ⟨o, e _ _ h⟩)
  · exact .inr h

theorem rd_same {H H' : Hp} {a : Addr} {u : HO} (e : Same H H') (h : Rd H a u) : Rd H' a u := by
  rcases h with h | ⟨o, h⟩
  · exact .inl (e _ _ h)
  · exact .inr ⟨o, e _ _ h⟩
mutual
theorem At.mono {K : PySem.W.Frag} {H H' : Hp} (e : Same H H') : ∀ {v : V} {d : Dat}, At K H v d → At K H' v d
  | _, _, .non => .non
  | _, _, .bl b => .bl b
  | _, _, .int i => .int i
  | _, _, .str s => .str s
  | _, _, .tup h t => .tup (sqt_same e h) (Ats.mono e t)
  | _, _, .lst h t => .lst (sql_same e h) (Ats.mono e t)
  | _, _, .dic h t => .dic (rd_same e h) (Atk.mono e t)
theorem Ats.mono {K : PySem.W.Frag} {H H' : Hp} (e : Same H H') : ∀ {vs : List V} {ds : List Dat}, Ats K H vs ds → Ats K H' vs ds
  | _, _, .nil => .nil
  | _, _, .cons a t => .cons (At.mono e a) (Ats.mono e t)
theorem Atk.mono {K : PySem.W.Frag} {H H' : Hp} (e : Same H H') : ∀ {vs : List (Key × V)} {ds : List (Key × Dat)}, Atk K H vs ds → Atk K H' vs ds
  | _, _, .nil => .nil
  | _, _, .cons a t => .cons (At.mono e a) (Atk.mono e t)
end

open Classical in
/-- what of a heap no one can change -/
noncomputable def Imm (H : Hp) : Hp := fun a => if Mut (H a) then none else H a
theorem imm_sub (H : Hp) : Same (Imm H) H := fun a o h => by
  unfold Imm at h
  split at h
  · cases h
  · exact h
theorem imm_of {H : Hp} {a : Addr} {o : HO} (h : H a = some o) (n : ¬ Mut (some o)) : Imm H a = some o := by
  unfold Imm
  rw [if_neg (by rw [h]; exact n)]
  exact h
theorem imm_not {H : Hp} {a : Addr} {o : HO} (h : Imm H a = some o) : ¬ Mut (some o) := by
  intro m
  have e := imm_sub H a o h
  unfold Imm at h
  rw [if_pos (by rw [e]; exact m)] at h
  cases h
theorem imm_same {H H' : Hp} (e : Same H H') : Same (Imm H) (Imm H') := fun a o h => imm_of (e a o (imm_sub H a o h)) (imm_not h)
theorem sqt_imm {K : PySem.W.Frag} {H : Hp} {a : Addr} {xs : List V} (h : SqT K H a xs) : SqT K (Imm H) a xs := by
  rcases h with (h | ⟨o, h⟩) | h
  · exact .inl (.inl (imm_of h fun z => z))
  · exact .inl (.inr ⟨o, imm_of h fun z => z⟩)
  · exact .inr h
mutual
theorem At.imm {K : PySem.W.Frag} {H : Hp} : ∀ {v : V} {d : Dat}, At K H v d → flat d = true → At K (Imm H) v d
  | _, _, .non, _ => .non
  | _, _, .bl b, _ => .bl b
  | _, _, .int i, _ => .int i
  | _, _, .str s, _ => .str s
  | _, _, .tup h t, f => .tup (sqt_imm h) (Ats.imm t (by simpa only [flat] using f))
  | _, _, .lst _ _, f => by simp [flat] at f
  | _, _, .dic _ _, f => by simp [flat] at f
theorem Ats.imm {K : PySem.W.Frag} {H : Hp} : ∀ {vs : List V} {ds : List Dat}, Ats K H vs ds → flats ds = true → Ats K (Imm H) vs ds
  | _, _, .nil, _ => .nil
  | _, _, .cons a t, f => by
    simp only [flats, Bool.and_eq_true] at f
    exact .cons (At.imm a f.1) (Ats.imm t f.2)
end
theorem Ats.length {K : PySem.W.Frag} {H : Hp} : ∀ {vs : List V} {ds : List Dat}, Ats K H vs ds → vs.length = ds.length
  | _, _, .nil => rfl
  | _, _, .cons _ t => by rw [List.length_cons, List.length_cons, Ats.length t]
theorem Ats.get {K : PySem.W.Frag} {H : Hp} : ∀ {vs : List V} {ds : List Dat} {i : Nat} {d : Dat}, Ats K H vs ds → ds[i]? = some d → ∃ v, vs[i]? = some v ∧ At K H v d
  | _, _, i, _, .nil, e => by simp at e
  | _, _, 0, _, .cons a _, e => by
    simp at e
    subst e
    exact ⟨_, rfl, a⟩
  | _, _, i + 1, d, .cons _ t, e => by
    obtain ⟨v, h1, h2⟩ := Ats.get (i := i) (d := d) t (by simpa using e)
    exact ⟨v, by simpa using h1, h2⟩
theorem Ats.getV {K : PySem.W.Frag} {H : Hp} : ∀ {vs : List V} {ds : List Dat} {i : Nat} {v : V}, Ats K H vs ds → vs[i]? = some v → ∃ d, ds[i]? = some d ∧ At K H v d
  | _, _, i, _, .nil, e => by simp at e
  | _, _, 0, _, .cons a _, e => by
    simp at e
    subst e
    exact ⟨_, rfl, a⟩
  | _, _, i + 1, d, .cons _ t, e => by
    obtain ⟨v, h1, h2⟩ := Ats.getV (i := i) (v := d) t (by simpa using e)
    exact ⟨v, by simpa using h1, h2⟩
theorem Ats.append {K : PySem.W.Frag} {H : Hp} : ∀ {vs us : List V} {ds es : List Dat}, Ats K H vs ds → Ats K H us es → Ats K H (vs ++ us) (ds ++ es)
  | _, _, _, _, .nil, s => s
  | _, _, _, _, .cons a t, s => .cons a (Ats.append t s)
theorem Ats.set {K : PySem.W.Frag} {H : Hp} {v : V} {d : Dat} (a : At K H v d) : ∀ {vs : List V} {ds : List Dat} (i : Nat), Ats K H vs ds → Ats K H (vs.set i v) (ds.set i d)
  | _, _, _, .nil => .nil
  | _, _, 0, .cons _ t => .cons a t
  | _, _, i + 1, .cons b t => .cons b (Ats.set a i t)
theorem Ats.take {K : PySem.W.Frag} {H : Hp} : ∀ {vs : List V} {ds : List Dat} (n : Nat), Ats K H vs ds → Ats K H (vs.take n) (ds.take n)
  | _, _, 0, _ => .nil
  | _, _, _ + 1, .nil => .nil
  | _, _, n + 1, .cons a t => .cons a (Ats.take n t)
theorem Ats.drop {K : PySem.W.Frag} {H : Hp} : ∀ {vs : List V} {ds : List Dat} (n : Nat), Ats K H vs ds → Ats K H (vs.drop n) (ds.drop n)
  | _, _, 0, r => r
  | _, _, _ + 1, .nil => .nil
  | _, _, n + 1, .cons _ t => Ats.drop n t
theorem Ats.ints {K : PySem.W.Frag} {H : Hp} : ∀ {vs : List V} {ns : List Int}, Ats K H vs (ns.map .int) → vs = ns.map .int
  | [], [], _ => rfl
  | _ :: _, n :: ns, .cons a t => by
    cases a
    rw [Ats.ints t]
    rfl
  | [], _ :: _, h => by cases h
  | _ :: _, [], h => by cases h
theorem Ats.ofInts {K : PySem.W.Frag} {H : Hp} : ∀ (ns : List Int), Ats K H (ns.map .int) (ns.map .int)
  | [] => .nil
  | n :: ns => .cons (.int n) (Ats.ofInts ns)

/-! ### what a def's names hold -/
inductive Ent where
  /-- no value, or one that is not asked for -/
  | no
  /-- data that nobody changes -/
  | im (d : Dat)
  /-- handed in: stands as it was at the entry -/
  | ol (d : Dat)
  /-- a list or dict of the def's own, that it may change -/
  | ow (d : Dat)
  /-- the thing at that address -/
  | rf (a : Addr)
abbrev Env' := List Ent

def Own (K : PySem.W.Frag) (H N : Hp) (p : Addr) : Dat → Prop
  | .lst ds => ∃ vs, H p = some (.lst vs) ∧ Ats K N vs ds
  | .dic ds => ∃ vs, H p = some (.dK vs) ∧ Atk K N vs ds
  | _ => False

structure Rep (K : PySem.W.Frag) (H0 : Hp) (ρ : Env') (σ : L2.St) (H N : Hp) : Prop where
  old : Same H0 H
  sub : Same N H
  imm : Same (Imm H0) N
  fresh : ∀ a o, N a = some o → Mut (some o) → H0 a = none
  len : ρ.length = σ.length
  im : ∀ (i : Nat) d, ρ[i]? = some (Ent.im d) → ∃ v, σ[i]? = some (some v) ∧ At K N v d
  ol : ∀ (i : Nat) d, ρ[i]? = some (Ent.ol d) → ∃ v, σ[i]? = some (some v) ∧ At K H0 v d
  ow : ∀ (i : Nat) d, ρ[i]? = some (Ent.ow d) → ∃ p, σ[i]? = some (some (V.ref p)) ∧ H0 p = none ∧ N p = none ∧ Own K H N p d
  rf : ∀ (i : Nat) a, ρ[i]? = some (Ent.rf a) → σ[i]? = some (some (V.ref a))
  apart : ∀ (i j : Nat) d d' p, i ≠ j → ρ[i]? = some (Ent.ow d) → ρ[j]? = some (Ent.ow d') → σ[i]? = some (some (V.ref p)) → σ[j]? ≠ some (some (V.ref p))

/-- what is handed out: nothing of it was there ahead and may be changed -/
def Ret (K : PySem.W.Frag) (H0 : Hp) (v : V) (d : Dat) (H : Hp) : Prop := ∃ N, Same N H ∧ (∀ a o, N a = some o → Mut (some o) → H0 a = none) ∧ At K N v d

/-! ### the machine's own wishes, as readings -/
section
variable (X : Cx)
def WE (e : Expr) : TE := fun σ H Q => ∀ (pins : List (Addr × Obj)) (s : Shared), Inv X pins σ H s → wpAny (model X.prog X.w) X.A (eval e X.env) (EP X pins σ Q) X.xe s
def WT (e : Expr) : TT := fun σ H Q => ∀ (pins : List (Addr × Obj)) (s : Shared), Inv X pins σ H s → wpAny (model X.prog X.w) X.A (isTrue e X.env (eval e X.env)) (TP X pins σ Q) X.xe s
def WW (e : Expr) : TT := fun σ H Q => ∀ (whole : Sem Value) (pins : List (Addr × Obj)) (s : Shared), Inv X pins σ H s → wpAny (model X.prog X.w) X.A (isTrue e X.env whole) (TP X pins σ Q) X.xe s
def WA (es : List Expr) : TA := fun σ H Q => ∀ (pos : Pos) (pins : List (Addr × Obj)) (s : Shared), Inv X pins σ H s → wpAny (model X.prog X.w) X.A (spliced (backTo pos (starEach es X.env))) (AP X pins σ Q) X.xe s
def WS (st : Stmt) : TS := fun D σ H => ∀ (pins : List (Addr × Obj)) (s : Shared), Inv X pins σ H s → wpAny (model X.prog X.w) X.A (exec st X.env) (SP X pins D) X.xe s
def WB (sts : List Stmt) : TS := fun D σ H => ∀ (pins : List (Addr × Obj)) (s : Shared), Inv X pins σ H s → wpAny (model X.prog X.w) X.A (execs sts X.env) (SP X pins D) X.xe s
end
section
variable {X : Cx} {e : Expr} {es : List Expr} {st : Stmt} {sts : List Stmt}
theorem pe_w : PE X e (WE X e) := ⟨fun pins s _ _ _ I h => h pins s I⟩
theorem pt_w : PT X e (WT X e) := ⟨fun pins s _ _ _ I h => h pins s I⟩
theorem pw_w : PW X e (WW X e) := ⟨fun wh pins s _ _ _ I h => h wh pins s I⟩
theorem pa_w : PA X es (WA X es) := ⟨fun pos pins s _ _ _ I h => h pos pins s I⟩
theorem ps_w : PS X st (WS X st) := ⟨fun pins s _ _ _ I h => h pins s I⟩
theorem pb_w : PSs X sts (WB X sts) := ⟨fun pins s _ _ _ I h => h pins s I⟩
theorem we_of {t : TE} {σ : L2.St} {H : Hp} {Q : VK} (p : PE X e t) (h : t σ H Q) : WE X e σ H Q := fun pins s I => p.run pins s σ H Q I h
theorem wt_of {t : TT} {σ : L2.St} {H : Hp} {Q : Bool → Hp → Prop} (p : PT X e t) (h : t σ H Q) : WT X e σ H Q := fun pins s I => p.run pins s σ H Q I h
theorem ww_of {t : TT} {σ : L2.St} {H : Hp} {Q : Bool → Hp → Prop} (p : PW X e t) (h : t σ H Q) : WW X e σ H Q := fun wh pins s I => p.run wh pins s σ H Q I h
theorem wa_of {t : TA} {σ : L2.St} {H : Hp} {Q : List V → Hp → Prop} (p : PA X es t) (h : t σ H Q) : WA X es σ H Q := fun pos pins s I => p.run pos pins s σ H Q I h
theorem ws_of {t : TS} {D : Ends} {σ : L2.St} {H : Hp} (p : PS X st t) (h : t D σ H) : WS X st D σ H := fun pins s I => p.run pins s σ H D I h
theorem wb_of {t : TS} {D : Ends} {σ : L2.St} {H : Hp} (p : PSs X sts t) (h : t D σ H) : WB X sts D σ H := fun pins s I => p.run pins s σ H D I h
theorem WE.imp {σ : L2.St} {H : Hp} {Q Q' : VK} (h : WE X e σ H Q) (k : ∀ v H', Q v H' → Q' v H') : WE X e σ H Q' := fun pins s I =>
  thn (h pins s I) fun _ _ ⟨v, H', I', r, q⟩ => ⟨v, H', I', r, k v H' q⟩
theorem WT.imp {σ : L2.St} {H : Hp} {Q Q' : Bool → Hp → Prop} (h : WT X e σ H Q) (k : ∀ v H', Q v H' → Q' v H') : WT X e σ H Q' := fun pins s I =>
  thn (h pins s I) fun _ _ ⟨H', I', q⟩ => ⟨H', I', k _ H' q⟩
theorem WW.imp {σ : L2.St} {H : Hp} {Q Q' : Bool → Hp → Prop} (h : WW X e σ H Q) (k : ∀ v H', Q v H' → Q' v H') : WW X e σ H Q' := fun wh pins s I =>
  thn (h wh pins s I) fun _ _ ⟨H', I', q⟩ => ⟨H', I', k _ H' q⟩
theorem WW.wt {σ : L2.St} {H : Hp} {Q : Bool → Hp → Prop} (h : WW X e σ H Q) : WT X e σ H Q := fun pins s I => h _ pins s I
theorem WA.imp {σ : L2.St} {H : Hp} {Q Q' : List V → Hp → Prop} (h : WA X es σ H Q) (k : ∀ v H', Q v H' → Q' v H') : WA X es σ H Q' := fun pos pins s I =>
  thn (h pos pins s I) fun _ _ ⟨v, H', I', r, q⟩ => ⟨v, H', I', r, k v H' q⟩
theorem sp_imp {pins : List (Addr × Obj)} {D D' : Ends} {f : Flow} {s : Shared} (h : SP X pins D f s) (h1 : ∀ σ H, D.nx σ H → D'.nx σ H) (h2 : ∀ v H, D.rt v H → D'.rt v H) (h3 : ∀ σ H, D.bk σ H → D'.bk σ H) (h4 : ∀ σ H, D.ct σ H → D'.ct σ H) : SP X pins D' f s := by
  cases f with
  | next => obtain ⟨σ', H', I, q⟩ := h; exact ⟨σ', H', I, h1 _ _ q⟩
  | brk => obtain ⟨σ', H', I, q⟩ := h; exact ⟨σ', H', I, h3 _ _ q⟩
  | cont => obtain ⟨σ', H', I, q⟩ := h; exact ⟨σ', H', I, h4 _ _ q⟩
  | ret u => obtain ⟨v, σ', H', I, r, q⟩ := h; exact ⟨v, σ', H', I, r, h2 _ _ q⟩
end

/-! ### what an expression is worth -/
section
variable (X : Cx) (H0 : Hp) (ρ : Env')
/-- data that nobody changes -/
def Ev (e : Expr) (d : Dat) : Prop := ∀ σ H N, Rep X.K H0 ρ σ H N → WE X e σ H fun v H' => ∃ N', Same H H' ∧ Same N N' ∧ Rep X.K H0 ρ σ H' N' ∧ At X.K N' v d
/-- data to be read -/
def EvB (e : Expr) (d : Dat) : Prop := ∀ σ H N, Rep X.K H0 ρ σ H N → WE X e σ H fun v H' => ∃ N', Same H H' ∧ Same N N' ∧ Rep X.K H0 ρ σ H' N' ∧ At X.K H' v d
def EvT (e : Expr) (b : Bool) : Prop := ∀ σ H N, Rep X.K H0 ρ σ H N → WT X e σ H fun c H' => c = b ∧ ∃ N', Same H H' ∧ Same N N' ∧ Rep X.K H0 ρ σ H' N'
def EvW (e : Expr) (b : Bool) : Prop := ∀ σ H N, Rep X.K H0 ρ σ H N → WW X e σ H fun c H' => c = b ∧ ∃ N', Same H H' ∧ Same N N' ∧ Rep X.K H0 ρ σ H' N'
def EvA (es : List Expr) (ds : List Dat) : Prop := ∀ σ H N, Rep X.K H0 ρ σ H N → WA X es σ H fun vs H' => ∃ N', Same H H' ∧ Same N N' ∧ Rep X.K H0 ρ σ H' N' ∧ Ats X.K N' vs ds
def EvAB (es : List Expr) (ds : List Dat) : Prop := ∀ σ H N, Rep X.K H0 ρ σ H N → WA X es σ H fun vs H' => ∃ N', Same H H' ∧ Same N N' ∧ Rep X.K H0 ρ σ H' N' ∧ Ats X.K H' vs ds
/-- it raises the class of that name -/
def EvX (e : Expr) (n : Str) : Prop := ∀ σ H N, Rep X.K H0 ρ σ H N → ∀ W : WX, Takes X W → (∀ C H' N', X.mg n = some (.ref C) → Same N N' → Rep X.K H0 ρ σ H' N' → W (.ref C) none σ H') → ∀ Q, WE X e σ H Q
end
theorem Same.of_none {H : Hp} {p : Addr} {o : HO} (h : H p = none) : Same H (upd H p o) := fun b u e => by
  rw [upd_ne (ne_of_none e h)]
  exact e
/-- the heap grows by a thing that nobody asks for -/
theorem Rep.grow {K : PySem.W.Frag} {H0 H N H' : Hp} {ρ : Env'} {σ : L2.St} (r : Rep K H0 ρ σ H N) (e : Same H H') : Rep K H0 ρ σ H' N where
  old := r.old.trans e
  sub := r.sub.trans e
  imm := r.imm
  fresh := r.fresh
  len := r.len
  im := r.im
  ol := r.ol
  ow := fun i d h => by
    obtain ⟨p, h1, h2, h3, h4⟩ := r.ow i d h
    refine ⟨p, h1, h2, h3, ?_⟩
    cases d with
    | lst ds =>
      obtain ⟨vs, q1, q2⟩ := h4
      exact ⟨vs, e _ _ q1, q2⟩
    | dic ds =>
      obtain ⟨vs, q1, q2⟩ := h4
      exact ⟨vs, e _ _ q1, q2⟩
    | _ => exact h4
  rf := r.rf
  apart := r.apart
/-- more of the heap is data that nobody changes -/
theorem Rep.more {K : PySem.W.Frag} {H0 H N N' : Hp} {ρ : Env'} {σ : L2.St} (r : Rep K H0 ρ σ H N) (e : Same N N') (sub : Same N' H) (fresh : ∀ a o, N' a = some o → Mut (some o) → H0 a = none)
    (own : ∀ (i : Nat) d p, ρ[i]? = some (Ent.ow d) → σ[i]? = some (some (V.ref p)) → N p = none → N' p = none) : Rep K H0 ρ σ H N' where
  old := r.old
  sub := sub
  imm := r.imm.trans e
  fresh := fresh
  len := r.len
  im := fun i d h => by
    obtain ⟨v, h1, h2⟩ := r.im i d h
    exact ⟨v, h1, h2.mono e⟩
  ol := r.ol
  ow := fun i d h => by
    obtain ⟨p, h1, h2, h3, h4⟩ := r.ow i d h
    refine ⟨p, h1, h2, own i d p h h1 h3, ?_⟩
    cases d with
    | lst ds =>
      obtain ⟨vs, q1, q2⟩ := h4
      exact ⟨vs, q1, q2.mono e⟩
    | dic ds =>
      obtain ⟨vs, q1, q2⟩ := h4
      exact ⟨vs, q1, q2.mono e⟩
    | _ => exact h4
  rf := r.rf
  apart := r.apart
/-- an owned thing stands in the heap -/
theorem Rep.own_some {K : PySem.W.Frag} {H0 H N : Hp} {ρ : Env'} {σ : L2.St} (r : Rep K H0 ρ σ H N) {i : Nat} {d : Dat} (h : ρ[i]? = some (Ent.ow d)) : ∃ p o, σ[i]? = some (some (V.ref p)) ∧ H p = some o ∧ Mut (some o) := by
  obtain ⟨p, h1, _, _, h4⟩ := r.ow i d h
  cases d with
  | lst ds =>
    obtain ⟨vs, q1, _⟩ := h4
    exact ⟨p, _, h1, q1, True.intro⟩
  | dic ds =>
    obtain ⟨vs, q1, _⟩ := h4
    exact ⟨p, _, h1, q1, True.intro⟩
  | _ => exact h4.elim
/-- something new comes, that nobody changes -/
theorem Rep.new {K : PySem.W.Frag} {H0 H N : Hp} {ρ : Env'} {σ : L2.St} (r : Rep K H0 ρ σ H N) {p : Addr} {o : HO} (hp : H p = none) : Rep K H0 ρ σ (upd H p o) (upd N p o) ∧ Same N (upd N p o) := by
  have np : N p = none := r.sub.free hp
  have e : Same N (upd N p o) := Same.of_none np
  refine ⟨(r.grow (Same.of_none hp)).more e (fun b u h => ?_) (fun b u h m => ?_) (fun i d q h1 h2 h3 => ?_), e⟩
  · by_cases hb : b = p
    · subst hb; rw [upd_same] at h ⊢; exact h
    · rw [upd_ne hb] at h ⊢; exact r.sub b u h
  · by_cases hb : b = p
    · subst hb; exact r.old.free hp
    · rw [upd_ne hb] at h; exact r.fresh b u h m
  · obtain ⟨p', o', e1, e2, _⟩ := r.own_some h1
    rw [h2] at e1
    cases e1
    rw [upd_ne (ne_of_none e2 hp)]
    exact h3
open Classical in
/-- two heaps of data, one beside the other -/
noncomputable def both (N M : Hp) : Hp := fun a => if N a = none then M a else N a
theorem both_l (N M : Hp) : Same N (both N M) := fun a o h => by
  unfold both
  rw [if_neg (by rw [h]; exact fun z => nomatch z)]
  exact h
theorem both_sub {N M H : Hp} (a : Same N H) (b : Same M H) : Same (both N M) H := fun x o h => by
  unfold both at h
  split at h
  · exact b x o h
  · exact a x o h
theorem both_r {N M H : Hp} (a : Same N H) (b : Same M H) : Same M (both N M) := fun x o h => by
  unfold both
  split
  · exact h
  · rename_i q
    cases e : N x with
    | none => exact (q e).elim
    | some u => rw [← a x u e, b x o h]
/-- what a call hands out is data that nobody changes -/
theorem Rep.ret {K : PySem.W.Frag} {H0 H N H' : Hp} {ρ : Env'} {σ : L2.St} {v : V} {d : Dat} (r : Rep K H0 ρ σ H N) (e : Same H H') (h : Ret K H v d H') : ∃ N', Same N N' ∧ Rep K H0 ρ σ H' N' ∧ At K N' v d := by
  obtain ⟨M, m1, m2, m3⟩ := h
  have r' := r.grow e
  refine ⟨both N M, both_l N M, r'.more (both_l N M) (both_sub r'.sub m1) (fun a o h m => ?_) (fun i d q h1 h2 h3 => ?_), m3.mono (both_r r'.sub m1)⟩
  · unfold both at h
    split at h
    · exact r.old.free (m2 a o h m)
    · exact r.fresh a o h m
  · unfold both
    rw [if_pos h3]
    obtain ⟨p', o', e1, e2, m⟩ := r.own_some h1
    rw [h2] at e1
    cases e1
    cases z : M q with
    | none => rfl
    | some u =>
      have e3 := m1 q u z
      rw [e _ _ e2] at e3
      cases e3
      have := m2 q _ z m
      rw [e2] at this
      cases this

/-! ### a name is given a value -/
theorem get_set {α : Type} {l : List α} {i j : Nat} {x y : α} (h : (l.set i x)[j]? = some y) : (j = i ∧ y = x) ∨ (j ≠ i ∧ l[j]? = some y) := by
  by_cases e : i = j
  · subst e
    by_cases hi : i < l.length
    · rw [List.getElem?_set_self hi] at h
      exact .inl ⟨rfl, (Option.some.inj h).symm⟩
    · rw [List.getElem?_eq_none (by rw [List.length_set]; omega)] at h
      cases h
  · rw [List.getElem?_set_ne e] at h
    exact .inr ⟨fun z => e z.symm, h⟩
theorem lt_of_get {α : Type} {l : List α} {i : Nat} {y : α} (h : l[i]? = some y) : i < l.length := (List.getElem?_eq_some_iff.mp h).1
/-- what holds of the value that entry i is to have -/
def EntOk (K : PySem.W.Frag) (H0 H N : Hp) (σ : L2.St) (ρ : Env') (i : Nat) (v : V) : Ent → Prop
  | .no => True
  | .im d => At K N v d
  | .ol d => At K H0 v d
  | .ow d => ∃ p, v = .ref p ∧ H0 p = none ∧ N p = none ∧ Own K H N p d ∧ ∀ j d', j ≠ i → ρ[j]? = some (.ow d') → σ[j]? ≠ some (some (V.ref p))
  | .rf a => v = .ref a
theorem Rep.setE {K : PySem.W.Frag} {H0 H N : Hp} {ρ : Env'} {σ : L2.St} (r : Rep K H0 ρ σ H N) {i : Nat} {v : V} {e : Ent} (h : EntOk K H0 H N σ ρ i v e) : Rep K H0 (ρ.set i e) (σ.set i (some v)) H N where
  old := r.old
  sub := r.sub
  imm := r.imm
  fresh := r.fresh
  len := by rw [List.length_set, List.length_set, r.len]
  im := fun j d q => by
    have hj := lt_of_get q
    rcases get_set q with ⟨rfl, q'⟩ | ⟨n, q'⟩
    · subst q'
      rw [List.length_set, r.len] at hj
      exact ⟨v, List.getElem?_set_self hj, h⟩
    · obtain ⟨u, h1, h2⟩ := r.im j d q'
      exact ⟨u, by rw [List.getElem?_set_ne (Ne.symm n)]; exact h1, h2⟩
  ol := fun j d q => by
    have hj := lt_of_get q
    rcases get_set q with ⟨rfl, q'⟩ | ⟨n, q'⟩
    · subst q'
      rw [List.length_set, r.len] at hj
      exact ⟨v, List.getElem?_set_self hj, h⟩
    · obtain ⟨u, h1, h2⟩ := r.ol j d q'
      exact ⟨u, by rw [List.getElem?_set_ne (Ne.symm n)]; exact h1, h2⟩
  ow := fun j d q => by
    have hj := lt_of_get q
    rcases get_set q with ⟨rfl, q'⟩ | ⟨n, q'⟩
    · subst q'
      rw [List.length_set, r.len] at hj
      obtain ⟨p, rfl, h1, h2, h3, _⟩ := h
      exact ⟨p, List.getElem?_set_self hj, h1, h2, h3⟩
    · obtain ⟨u, h1, h2⟩ := r.ow j d q'
      exact ⟨u, by rw [List.getElem?_set_ne (Ne.symm n)]; exact h1, h2⟩
  rf := fun j a q => by
    have hj := lt_of_get q
    rcases get_set q with ⟨rfl, q'⟩ | ⟨n, q'⟩
    · subst q'
      rw [List.length_set, r.len] at hj
      have e : v = .ref a := h
      rw [List.getElem?_set_self hj, e]
    · rw [List.getElem?_set_ne (Ne.symm n)]
      exact r.rf j a q'
  apart := fun j k d d' p ne q1 q2 z1 z2 => by
    rcases get_set q1 with ⟨rfl, e1⟩ | ⟨n1, q1'⟩
    · subst e1
      rcases get_set q2 with ⟨rfl, e2⟩ | ⟨n2, q2'⟩
      · exact ne rfl
      · obtain ⟨p', rfl, _, _, _, h4⟩ := h
        rcases get_set z1 with ⟨_, z1'⟩ | ⟨n3, _⟩
        · cases z1'
          rw [List.getElem?_set_ne (Ne.symm n2)] at z2
          exact h4 k d' n2 q2' z2
        · exact n3 rfl
    · rw [List.getElem?_set_ne (Ne.symm n1)] at z1
      rcases get_set q2 with ⟨rfl, e2⟩ | ⟨n2, q2'⟩
      · subst e2
        obtain ⟨p', rfl, _, _, _, h4⟩ := h
        rcases get_set z2 with ⟨_, z2'⟩ | ⟨n3, _⟩
        · cases z2'
          exact h4 j d n1 q1' z1
        · exact n3 rfl
      · rw [List.getElem?_set_ne (Ne.symm n2)] at z2
        exact r.apart j k d d' p ne q1' q2' z1 z2
/-- an owned thing is changed in place -/
theorem Rep.write {K : PySem.W.Frag} {H0 H N : Hp} {ρ : Env'} {σ : L2.St} (r : Rep K H0 ρ σ H N) {i : Nat} {p : Addr} {d d' : Dat} {o : HO} (hi : ρ[i]? = some (.ow d)) (hp : σ[i]? = some (some (V.ref p))) (ho : Own K (upd H p o) N p d') : Rep K H0 (ρ.set i (.ow d')) σ (upd H p o) N := by
  obtain ⟨p', q1, q2, q3, q4⟩ := r.ow i d hi
  rw [hp] at q1
  cases q1
  have hl := lt_of_get hi
  refine ⟨fun b u e => ?_, fun b u e => ?_, r.imm, r.fresh, by rw [List.length_set, r.len], fun j x q => ?_, fun j x q => ?_, fun j x q => ?_, fun j x q => ?_, fun j k x y z ne a b c => ?_⟩
  · rw [upd_ne (ne_of_none e q2)]
    exact r.old b u e
  · rw [upd_ne (ne_of_none e q3)]
    exact r.sub b u e
  · rcases get_set q with ⟨_, q'⟩ | ⟨_, q'⟩
    · cases q'
    · exact r.im j x q'
  · rcases get_set q with ⟨_, q'⟩ | ⟨_, q'⟩
    · cases q'
    · exact r.ol j x q'
  · rcases get_set q with ⟨rfl, q'⟩ | ⟨n, q'⟩
    · cases q'
      exact ⟨p, hp, q2, q3, ho⟩
    · obtain ⟨t, t1, t2, t3, t4⟩ := r.ow j x q'
      have tp : t ≠ p := by
        rintro rfl
        exact r.apart i j d x t (Ne.symm n) hi q' hp t1
      refine ⟨t, t1, t2, t3, ?_⟩
      cases x with
      | lst ds =>
        obtain ⟨vs, w1, w2⟩ := t4
        exact ⟨vs, by rw [upd_ne tp]; exact w1, w2⟩
      | dic ds =>
        obtain ⟨vs, w1, w2⟩ := t4
        exact ⟨vs, by rw [upd_ne tp]; exact w1, w2⟩
      | _ => exact t4
  · rcases get_set q with ⟨_, q'⟩ | ⟨_, q'⟩
    · cases q'
    · exact r.rf j x q'
  · have own : ∀ {m : Nat} {w : Dat}, (ρ.set i (Ent.ow d'))[m]? = some (.ow w) → ∃ w', ρ[m]? = some (.ow w') := fun {m w} h => by
      rcases get_set h with ⟨rfl, _⟩ | ⟨_, h'⟩
      · exact ⟨_, hi⟩
      · exact ⟨_, h'⟩
    obtain ⟨x', a'⟩ := own a
    obtain ⟨y', b'⟩ := own b
    exact r.apart j k x' y' z ne a' b' c
/-- an owned thing is given out of hand: from now on nobody changes it -/
theorem Rep.freeze {K : PySem.W.Frag} {H0 H N : Hp} {ρ : Env'} {σ : L2.St} (r : Rep K H0 ρ σ H N) {p : Addr} {d : Dat} (h0 : H0 p = none) (hn : N p = none) (ho : Own K H N p d) (hx : ∀ (j : Nat) d', ρ[j]? = some (Ent.ow d') → σ[j]? ≠ some (some (V.ref p))) :
    ∃ N', Same N N' ∧ Rep K H0 ρ σ H N' ∧ At K N' (.ref p) d := by
  have go : ∀ o, H p = some o → Rep K H0 ρ σ H (upd N p o) ∧ Same N (upd N p o) := fun o e => by
    have s : Same N (upd N p o) := Same.of_none hn
    refine ⟨r.more s (fun b u q => ?_) (fun b u q m => ?_) (fun j x q a1 a2 a3 => ?_), s⟩
    · by_cases hb : b = p
      · subst hb; rw [upd_same] at q; rw [e]; exact q
      · rw [upd_ne hb] at q; exact r.sub b u q
    · by_cases hb : b = p
      · subst hb; exact h0
      · rw [upd_ne hb] at q; exact r.fresh b u q m
    · rw [upd_ne]
      · exact a3
      · rintro rfl
        exact hx j x a1 a2
  cases d with
  | lst ds =>
    obtain ⟨vs, q1, q2⟩ := ho
    obtain ⟨r', s⟩ := go _ q1
    exact ⟨_, s, r', .lst (.inl (.inl upd_same)) (q2.mono s)⟩
  | dic ds =>
    obtain ⟨vs, q1, q2⟩ := ho
    obtain ⟨r', s⟩ := go _ q1
    exact ⟨_, s, r', .dic (.inl upd_same) (q2.mono s)⟩
  | _ => exact ho.elim
/-- a slot is forgotten -/
theorem Rep.drop {K : PySem.W.Frag} {H0 H N : Hp} {ρ : Env'} {σ : L2.St} (r : Rep K H0 ρ σ H N) (i : Nat) : Rep K H0 (ρ.set i .no) σ H N where
  old := r.old
  sub := r.sub
  imm := r.imm
  fresh := r.fresh
  len := by rw [List.length_set, r.len]
  im := fun j d q => by
    rcases get_set q with ⟨_, q'⟩ | ⟨_, q'⟩
    · cases q'
    · exact r.im j d q'
  ol := fun j d q => by
    rcases get_set q with ⟨_, q'⟩ | ⟨_, q'⟩
    · cases q'
    · exact r.ol j d q'
  ow := fun j d q => by
    rcases get_set q with ⟨_, q'⟩ | ⟨_, q'⟩
    · cases q'
    · exact r.ow j d q'
  rf := fun j d q => by
    rcases get_set q with ⟨_, q'⟩ | ⟨_, q'⟩
    · cases q'
    · exact r.rf j d q'
  apart := fun j k x y z ne a b c => by
    rcases get_set a with ⟨_, a'⟩ | ⟨_, a'⟩
    · cases a'
    · rcases get_set b with ⟨_, b'⟩ | ⟨_, b'⟩
      · cases b'
      · exact r.apart j k x y z ne a' b' c
/-- what is flat may be kept -/
theorem Rep.keep {K : PySem.W.Frag} {H0 H N : Hp} {ρ : Env'} {σ : L2.St} (r : Rep K H0 ρ σ H N) : ∃ N', Same N N' ∧ Rep K H0 ρ σ H N' ∧ Same (Imm H) N' := by
  refine ⟨both N (Imm H), both_l _ _, r.more (both_l _ _) (both_sub r.sub (imm_sub H)) (fun a o h m => ?_) (fun i d q h1 h2 h3 => ?_), both_r r.sub (imm_sub H)⟩
  · unfold both at h
    split at h
    · exact (imm_not h m).elim
    · exact r.fresh a o h m
  · unfold both
    rw [if_pos h3]
    obtain ⟨p', o', e1, e2, m⟩ := r.own_some h1
    rw [h2] at e1
    cases e1
    cases z : Imm H q with
    | none => rfl
    | some u =>
      have e3 := imm_sub H q u z
      rw [e2] at e3
      cases e3
      exact (imm_not z m).elim
end B

namespace B
open PySem PySem.Spec PyProof.Rows L2

section
variable {X : Cx} {H0 : Hp} {ρ : Env'} {a b c e : Expr} {es : List Expr} {d d1 d2 d3 : Dat} {ds : List Dat} {pos : Pos}

theorem at_int {K : PySem.W.Frag} {H : Hp} {v : V} {i : Int} (h : At K H v (.int i)) : v = .int i := by cases h; rfl
theorem at_bl {K : PySem.W.Frag} {H : Hp} {v : V} {i : Bool} (h : At K H v (.bl i)) : v = .bl i := by cases h; rfl
theorem at_str {K : PySem.W.Frag} {H : Hp} {v : V} {i : Str} (h : At K H v (.str i)) : v = .str i := by cases h; rfl
theorem at_non {K : PySem.W.Frag} {H : Hp} {v : V} (h : At K H v .non) : v = .non := by cases h; rfl

theorem Ev.toB (h : Ev X H0 ρ e d) : EvB X H0 ρ e d := fun σ H N r => (h σ H N r).imp fun v H' ⟨N', s, n, r', a⟩ => ⟨N', s, n, r', a.mono r'.sub⟩
theorem EvB.flat (h : EvB X H0 ρ e d) (f : flat d = true) : Ev X H0 ρ e d := fun σ H N r => (h σ H N r).imp fun v H' ⟨N', s, n, r', a⟩ =>
  let ⟨N2, n2, r2, k⟩ := r'.keep
  ⟨N2, s, n.trans n2, r2, (a.imm f).mono k⟩

/-! ### names, constants -/
theorem ev_int {i j} : Ev X H0 ρ (.Constant (.int i) j pos) (.int i) := fun _ H N r => we_of pe_int ⟨N, Same.refl _, Same.refl _, r, .int i⟩
theorem ev_bl {i j} : Ev X H0 ρ (.Constant (.bool i) j pos) (.bl i) := fun _ H N r => we_of pe_bl ⟨N, Same.refl _, Same.refl _, r, .bl i⟩
theorem ev_str {i j} : Ev X H0 ρ (.Constant (.str i) j pos) (.str i) := fun _ H N r => we_of pe_str ⟨N, Same.refl _, Same.refl _, r, .str i⟩
theorem ev_non {j} : Ev X H0 ρ (.Constant .none j pos) .non := fun _ H N r => we_of pe_non ⟨N, Same.refl _, Same.refl _, r, .non⟩
theorem ev_name (i : Nat) {x : Str} (h : ρ[i]? = some (.im d)) (hN : X.N[i]? = some x := by rfl) (hv : Vis X.env.scope x := by first | exact Or.inl rfl | exact Or.inr (Or.inl rfl) | exact Or.inr (Or.inr rfl)) (hd : (x == ("__debug__" : Str)) = false := by decide)
    (hcd : (x == ("__classdict__" : Str)) = false := by decide) : Ev X H0 ρ (.Name x pos) d := fun σ H N r => we_of (pv i hN hv hd hcd)
  (let ⟨v, h1, h2⟩ := r.im i d h; ⟨v, h1, N, Same.refl _, Same.refl _, r, h2⟩)
theorem eb_name_ol (i : Nat) {x : Str} (h : ρ[i]? = some (.ol d)) (hN : X.N[i]? = some x := by rfl) (hv : Vis X.env.scope x := by first | exact Or.inl rfl | exact Or.inr (Or.inl rfl) | exact Or.inr (Or.inr rfl)) (hd : (x == ("__debug__" : Str)) = false := by decide)
    (hcd : (x == ("__classdict__" : Str)) = false := by decide) : EvB X H0 ρ (.Name x pos) d := fun σ H N r => we_of (pv i hN hv hd hcd)
  (let ⟨v, h1, h2⟩ := r.ol i d h; ⟨v, h1, N, Same.refl _, Same.refl _, r, h2.mono r.old⟩)
theorem own_at {K : PySem.W.Frag} {H N : Hp} {p : Addr} (s : Same N H) (h : Own K H N p d) : At K H (.ref p) d := by
  cases d with
  | lst ds => obtain ⟨vs, q1, q2⟩ := h; exact .lst (.inl (.inl q1)) (q2.mono s)
  | dic ds => obtain ⟨vs, q1, q2⟩ := h; exact .dic (.inl q1) (q2.mono s)
  | _ => exact h.elim
theorem eb_name_ow (i : Nat) {x : Str} (h : ρ[i]? = some (.ow d)) (hN : X.N[i]? = some x := by rfl) (hv : Vis X.env.scope x := by first | exact Or.inl rfl | exact Or.inr (Or.inl rfl) | exact Or.inr (Or.inr rfl)) (hd : (x == ("__debug__" : Str)) = false := by decide)
    (hcd : (x == ("__classdict__" : Str)) = false := by decide) : EvB X H0 ρ (.Name x pos) d := fun σ H N r => we_of (pv i hN hv hd hcd)
  (let ⟨p, h1, _, _, h2⟩ := r.ow i d h; ⟨.ref p, h1, N, Same.refl _, Same.refl _, r, own_at r.sub h2⟩)

/-! ### two operands, one -/
/-- what an operation's reading is to lead to -/
abbrev Goes (K : PySem.W.Frag) (H0 : Hp) (ρ : Env') (σ : L2.St) (H N : Hp) (d : Dat) (Q : VK) : Prop := ∀ v H' N', Same H H' → Same N N' → Rep K H0 ρ σ H' N' → At K N' v d → Q v H'
theorem ev_bin {r : R2} (p : ∀ ta tb, PE X a ta → PE X b tb → PE X e (tOp r ta tb)) (ha : EvB X H0 ρ a d1) (hb : EvB X H0 ρ b d2)
    (hr : ∀ x y σ H N Q, Rep X.K H0 ρ σ H N → At X.K H x d1 → At X.K H y d2 → Goes X.K H0 ρ σ H N d Q → r x y H Q) : Ev X H0 ρ e d := fun σ H N rp =>
  we_of (p _ _ pe_w pe_w) ((ha σ H N rp).imp fun x H1 ⟨N1, s1, n1, r1, a1⟩ => (hb σ H1 N1 r1).imp fun y H2 ⟨N2, s2, n2, r2, a2⟩ =>
    hr x y σ H2 N2 _ r2 (a1.mono s2) a2 fun v H' N' s n rr aa => ⟨N', (s1.trans s2).trans s, (n1.trans n2).trans n, rr, aa⟩)
theorem evt_bin {r : R2} {k : Bool} (p : ∀ ta tb, PE X a ta → PE X b tb → PT X e (tTest (tOp r ta tb))) (ha : EvB X H0 ρ a d1) (hb : EvB X H0 ρ b d2)
    (hr : ∀ x y σ H N Q, Rep X.K H0 ρ σ H N → At X.K H x d1 → At X.K H y d2 → Goes X.K H0 ρ σ H N (.bl k) Q → r x y H Q) : EvT X H0 ρ e k := fun σ H N rp =>
  wt_of (p _ _ pe_w pe_w) ((ha σ H N rp).imp fun x H1 ⟨N1, s1, n1, r1, a1⟩ => (hb σ H1 N1 r1).imp fun y H2 ⟨N2, s2, n2, r2, a2⟩ =>
    hr x y σ H2 N2 _ r2 (a1.mono s2) a2 fun v H' N' s n rr aa => ⟨k, at_bl aa, rfl, N', (s1.trans s2).trans s, (n1.trans n2).trans n, rr⟩)
theorem goes_self {K : PySem.W.Frag} {H0 : Hp} {ρ : Env'} {σ : L2.St} {H N : Hp} {d : Dat} {Q : VK} {v : V} (g : Goes K H0 ρ σ H N d Q) (r : Rep K H0 ρ σ H N) (a : At K N v d) : Q v H := g v H N (Same.refl _) (Same.refl _) r a

section arith
variable {i j : Int} (ha : Ev X H0 ρ a (.int i)) (hb : Ev X H0 ρ b (.int j))
include ha hb
theorem ev_intop {op : Operator} {C : Int → Int → Prop} {g : Int → Int → Int} (o : OpR X (binaryOp op) (rI C fun i j => .int (g i j))) (hc : C i j) : Ev X H0 ρ (.BinOp a op b pos) (.int (g i j)) :=
  ev_bin (fun _ _ h k => pe_op o h k) ha.toB hb.toB fun x y σ H N Q r p q g => ⟨i, j, at_int p, at_int q, hc, goes_self g r (.int _)⟩
theorem ev_add : Ev X H0 ρ (.BinOp a .Add b pos) (.int (i + j)) := ev_bin (fun _ _ h k => pe_op op_add h k) ha.toB hb.toB fun x y σ H N Q r p q g => ⟨i, j, at_int p, at_int q, goes_self g r (.int _)⟩
theorem ev_sub : Ev X H0 ρ (.BinOp a .Sub b pos) (.int (i - j)) := ev_bin (fun _ _ h k => pe_op op_sub h k) ha.toB hb.toB fun x y σ H N Q r p q g => ⟨i, j, at_int p, at_int q, goes_self g r (.int _)⟩
theorem ev_mul (h : IntMulOk i j) : Ev X H0 ρ (.BinOp a .Mult b pos) (.int (i * j)) := ev_intop ha hb (op := .Mult) (C := IntMulOk) (g := fun i j => i * j) (opI fun _ _ _ _ _ _ _ hc q => mul_int q hc) h
theorem ev_fdiv (h0 : 0 < j) (h : j.natAbs.log2 < 9000) : Ev X H0 ρ (.BinOp a .FloorDiv b pos) (.int (i / j)) := ev_intop ha hb (g := fun i j => i / j) op_fdivW ⟨h0, h⟩
theorem ev_fdivN (h0 : j ≠ 0) (h : j.natAbs.log2 < 9000) : Ev X H0 ρ (.BinOp a .FloorDiv b pos) (.int (i.fdiv j)) := ev_intop ha hb (op := .FloorDiv) (C := fun _ j => j ≠ 0 ∧ j.natAbs.log2 < 9000) (g := fun i j => i.fdiv j)
  (opI fun _ _ _ _ _ _ _ hc q => floordiv_int hc.1 q (.inl (PyProof.noPylong_of_log2 hc.2))) ⟨h0, h⟩
theorem ev_mod (h : 0 < j) : Ev X H0 ρ (.BinOp a .Mod b pos) (.int (i % j)) := ev_intop ha hb (g := fun i j => i % j) op_mod h
theorem ev_modN (h : j ≠ 0) : Ev X H0 ρ (.BinOp a .Mod b pos) (.int (i.fmod j)) := ev_intop ha hb (g := fun i j => i.fmod j) op_modN h
theorem ev_pow (h : CPow i j) : Ev X H0 ρ (.BinOp a .Pow b pos) (.int (i ^ j.toNat)) := ev_intop ha hb (g := fun i j => i ^ j.toNat) op_pow h
theorem ev_shl (h : CPow i j) : Ev X H0 ρ (.BinOp a .LShift b pos) (.int (i * 2 ^ j.toNat)) := ev_intop ha hb (g := fun i j => i * 2 ^ j.toNat) op_shl h
theorem ev_shr (h : 0 ≤ j) : Ev X H0 ρ (.BinOp a .RShift b pos) (.int (i / 2 ^ j.toNat)) := ev_intop ha hb (g := fun i j => i / 2 ^ j.toNat) op_shr h
theorem ev_and : Ev X H0 ρ (.BinOp a .BitAnd b pos) (.int (Builtin.bitAnd i j)) := ev_bin (fun _ _ h k => pe_op op_and h k) ha.toB hb.toB fun x y σ H N Q r p q g => ⟨i, j, at_int p, at_int q, goes_self g r (.int _)⟩
theorem et_lt : EvT X H0 ρ (.Compare a [.Lt] [b] pos) (decide (i < j)) := evt_bin (fun _ _ h k => pt_cmpR op_lt h k (nomark _)) ha.toB hb.toB fun x y σ H N Q r p q g => ⟨i, j, at_int p, at_int q, goes_self g r (.bl _)⟩
theorem et_le : EvT X H0 ρ (.Compare a [.LtE] [b] pos) (decide (i ≤ j)) := evt_bin (fun _ _ h k => pt_cmpR op_le h k (nomark _)) ha.toB hb.toB fun x y σ H N Q r p q g => ⟨i, j, at_int p, at_int q, goes_self g r (.bl _)⟩
theorem et_gt : EvT X H0 ρ (.Compare a [.Gt] [b] pos) (decide (j < i)) := evt_bin (fun _ _ h k => pt_cmpR op_gt h k (nomark _)) ha.toB hb.toB fun x y σ H N Q r p q g => ⟨i, j, at_int p, at_int q, goes_self g r (.bl _)⟩
theorem et_ge : EvT X H0 ρ (.Compare a [.GtE] [b] pos) (decide (j ≤ i)) := evt_bin (fun _ _ h k => pt_cmpR op_ge h k (nomark _)) ha.toB hb.toB fun x y σ H N Q r p q g => ⟨i, j, at_int p, at_int q, goes_self g r (.bl _)⟩
theorem ev_lt : Ev X H0 ρ (.Compare a [.Lt] [b] pos) (.bl (decide (i < j))) := ev_bin (fun _ _ h k => pe_cmpR op_lt h k (nomark _)) ha.toB hb.toB fun x y σ H N Q r p q g => ⟨i, j, at_int p, at_int q, goes_self g r (.bl _)⟩
theorem ev_le : Ev X H0 ρ (.Compare a [.LtE] [b] pos) (.bl (decide (i ≤ j))) := ev_bin (fun _ _ h k => pe_cmpR op_le h k (nomark _)) ha.toB hb.toB fun x y σ H N Q r p q g => ⟨i, j, at_int p, at_int q, goes_self g r (.bl _)⟩
theorem ev_gt : Ev X H0 ρ (.Compare a [.Gt] [b] pos) (.bl (decide (j < i))) := ev_bin (fun _ _ h k => pe_cmpR op_gt h k (nomark _)) ha.toB hb.toB fun x y σ H N Q r p q g => ⟨i, j, at_int p, at_int q, goes_self g r (.bl _)⟩
theorem ev_ge : Ev X H0 ρ (.Compare a [.GtE] [b] pos) (.bl (decide (j ≤ i))) := ev_bin (fun _ _ h k => pe_cmpR op_ge h k (nomark _)) ha.toB hb.toB fun x y σ H N Q r p q g => ⟨i, j, at_int p, at_int q, goes_self g r (.bl _)⟩
theorem et_eq : EvT X H0 ρ (.Compare a [.Eq] [b] pos) (decide (i = j)) := evt_bin (fun _ _ h k => pt_cmpR op_eq h k (nomark _)) ha.toB hb.toB fun x y σ H N Q r p q g => by
  rw [at_int p, at_int q]
  exact ⟨rfl, goes_self (Q := Q) (by rw [show decide (V.int i = V.int j) = decide (i = j) from by simp]; exact g) r (.bl _)⟩
theorem et_ne : EvT X H0 ρ (.Compare a [.NotEq] [b] pos) (!decide (i = j)) := evt_bin (fun _ _ h k => pt_cmpR op_ne h k (nomark _)) ha.toB hb.toB fun x y σ H N Q r p q g => by
  rw [at_int p, at_int q]
  exact ⟨rfl, goes_self (Q := Q) (by rw [show decide (V.int i = V.int j) = decide (i = j) from by simp]; exact g) r (.bl _)⟩
theorem ev_eq : Ev X H0 ρ (.Compare a [.Eq] [b] pos) (.bl (decide (i = j))) := ev_bin (fun _ _ h k => pe_cmpR op_eq h k (nomark _)) ha.toB hb.toB fun x y σ H N Q r p q g => by
  rw [at_int p, at_int q]
  exact ⟨rfl, goes_self (Q := Q) (by rw [show decide (V.int i = V.int j) = decide (i = j) from by simp]; exact g) r (.bl _)⟩
theorem ev_ne : Ev X H0 ρ (.Compare a [.NotEq] [b] pos) (.bl (!decide (i = j))) := ev_bin (fun _ _ h k => pe_cmpR op_ne h k (nomark _)) ha.toB hb.toB fun x y σ H N Q r p q g => by
  rw [at_int p, at_int q]
  exact ⟨rfl, goes_self (Q := Q) (by rw [show decide (V.int i = V.int j) = decide (i = j) from by simp]; exact g) r (.bl _)⟩
end arith
theorem ev_neg {i : Int} (ha : Ev X H0 ρ a (.int i)) : Ev X H0 ρ (.UnaryOp .USub a pos) (.int (-i)) := fun σ H N rp =>
  we_of (pe_un un_neg pe_w) ((ha σ H N rp).imp fun x H1 ⟨N1, s1, n1, r1, a1⟩ => ⟨i, at_int a1, N1, s1, n1, r1, .int _⟩)
/-- texts, == and + -/
theorem et_eqS {i j : Str} (ha : Ev X H0 ρ a (.str i)) (hb : Ev X H0 ρ b (.str j)) : EvT X H0 ρ (.Compare a [.Eq] [b] pos) (decide (i = j)) := evt_bin (fun _ _ h k => pt_cmpR op_eq h k (nomark _)) ha.toB hb.toB fun x y σ H N Q r p q g => by
  rw [at_str p, at_str q]
  exact ⟨rfl, goes_self (Q := Q) (by rw [show decide (V.str i = V.str j) = decide (i = j) from by simp]; exact g) r (.bl _)⟩
theorem et_neS {i j : Str} (ha : Ev X H0 ρ a (.str i)) (hb : Ev X H0 ρ b (.str j)) : EvT X H0 ρ (.Compare a [.NotEq] [b] pos) (!decide (i = j)) := evt_bin (fun _ _ h k => pt_cmpR op_ne h k (nomark _)) ha.toB hb.toB fun x y σ H N Q r p q g => by
  rw [at_str p, at_str q]
  exact ⟨rfl, goes_self (Q := Q) (by rw [show decide (V.str i = V.str j) = decide (i = j) from by simp]; exact g) r (.bl _)⟩
theorem ev_eqS {i j : Str} (ha : Ev X H0 ρ a (.str i)) (hb : Ev X H0 ρ b (.str j)) : Ev X H0 ρ (.Compare a [.Eq] [b] pos) (.bl (decide (i = j))) := ev_bin (fun _ _ h k => pe_cmpR op_eq h k (nomark _)) ha.toB hb.toB fun x y σ H N Q r p q g => by
  rw [at_str p, at_str q]
  exact ⟨rfl, goes_self (Q := Q) (by rw [show decide (V.str i = V.str j) = decide (i = j) from by simp]; exact g) r (.bl _)⟩
theorem ev_neS {i j : Str} (ha : Ev X H0 ρ a (.str i)) (hb : Ev X H0 ρ b (.str j)) : Ev X H0 ρ (.Compare a [.NotEq] [b] pos) (.bl (!decide (i = j))) := ev_bin (fun _ _ h k => pe_cmpR op_ne h k (nomark _)) ha.toB hb.toB fun x y σ H N Q r p q g => by
  rw [at_str p, at_str q]
  exact ⟨rfl, goes_self (Q := Q) (by rw [show decide (V.str i = V.str j) = decide (i = j) from by simp]; exact g) r (.bl _)⟩
theorem ev_cat {i j : Str} (ha : Ev X H0 ρ a (.str i)) (hb : Ev X H0 ρ b (.str j)) (hz : i.length + j.length ≤ sizeLine) : Ev X H0 ρ (.BinOp a .Add b pos) (.str (i ++ j)) :=
  ev_bin (fun _ _ h k => pe_op op_add_str h k) ha.toB hb.toB fun x y σ H N Q r p q g => ⟨i, j, at_str p, at_str q, hz, goes_self g r (.str _)⟩
/-- is None -/
theorem isnon {K : PySem.W.Frag} {H : Hp} {v : V} (h : At K H v d) : decide (v = .non) = (match d with | .non => true | _ => false) := by
  cases h <;> simp
def isNon : Dat → Bool
  | .non => true
  | _ => false
theorem at_isNon {K : PySem.W.Frag} {H : Hp} {v : V} (h : At K H v d) : decide (v = .non) = isNon d := by cases h <;> simp [isNon]
theorem et_isN {j pos'} (ha : EvB X H0 ρ a d) : EvT X H0 ρ (.Compare a [.Is] [.Constant .none j pos'] pos) (isNon d) :=
  evt_bin (d2 := .non) (fun _ _ h k => pt_cmpR op_isN h k (nomark _)) ha ev_non.toB fun x y σ H N Q r p q g => ⟨at_non q, by rw [at_isNon p]; exact goes_self (Q := Q) g r (.bl _)⟩
theorem et_notN {j pos'} (ha : EvB X H0 ρ a d) : EvT X H0 ρ (.Compare a [.IsNot] [.Constant .none j pos'] pos) (!isNon d) :=
  evt_bin (d2 := .non) (fun _ _ h k => pt_cmpR op_notN h k (nomark _)) ha ev_non.toB fun x y σ H N Q r p q g => ⟨at_non q, by rw [at_isNon p]; exact goes_self (Q := Q) g r (.bl _)⟩

/-! ### and, or, not, if -/
theorem et_val {k : Bool} (h : Ev X H0 ρ e (.bl k)) (he : ∀ whole, isTrue e X.env whole = (do let v ← whole; standAt e.pos; holding [v] (truthy v)) := by intro _; rfl) : EvT X H0 ρ e k := fun σ H N rp =>
  wt_of (pt_val pe_w he) ((h σ H N rp).imp fun x H1 ⟨N1, s1, n1, r1, a1⟩ => ⟨k, at_bl a1, rfl, N1, s1, n1, r1⟩)
theorem ew_and1 {k : Bool} (h : EvT X H0 ρ a k) : EvW X H0 ρ (.BoolOp .And [a] pos) k := fun σ H N rp => ww_of (pw_and1 pt_w) (h σ H N rp)
theorem ew_or1 {k : Bool} (h : EvT X H0 ρ a k) : EvW X H0 ρ (.BoolOp .Or [a] pos) k := fun σ H N rp => ww_of (pw_or1 pt_w) (h σ H N rp)
theorem ew_and {k l : Bool} {rest : List Expr} (h : EvT X H0 ρ a k) (g : k = true → EvW X H0 ρ (.BoolOp .And (b :: rest) pos) l) : EvW X H0 ρ (.BoolOp .And (a :: b :: rest) pos) (k && l) := fun σ H N rp =>
  ww_of (pw_and pt_w pw_w) ((h σ H N rp).imp fun c H1 ⟨e1, N1, s1, n1, r1⟩ => by
    subst e1
    cases c with
    | true => exact (g rfl σ H1 N1 r1).imp fun c2 H2 ⟨e2, N2, s2, n2, r2⟩ => ⟨e2, N2, s1.trans s2, n1.trans n2, r2⟩
    | false => exact ⟨rfl, N1, s1, n1, r1⟩)
theorem ew_or {k l : Bool} {rest : List Expr} (h : EvT X H0 ρ a k) (g : k = false → EvW X H0 ρ (.BoolOp .Or (b :: rest) pos) l) : EvW X H0 ρ (.BoolOp .Or (a :: b :: rest) pos) (k || l) := fun σ H N rp =>
  ww_of (pw_or pt_w pw_w) ((h σ H N rp).imp fun c H1 ⟨e1, N1, s1, n1, r1⟩ => by
    subst e1
    cases c with
    | false => exact (g rfl σ H1 N1 r1).imp fun c2 H2 ⟨e2, N2, s2, n2, r2⟩ => ⟨e2, N2, s1.trans s2, n1.trans n2, r2⟩
    | true => exact ⟨rfl, N1, s1, n1, r1⟩)
theorem EvW.t {k : Bool} (h : EvW X H0 ρ e k) : EvT X H0 ρ e k := fun σ H N rp => (h σ H N rp).wt
theorem et_not {k : Bool} (h : EvT X H0 ρ a k) : EvT X H0 ρ (.UnaryOp .Not a pos) (!k) := fun σ H N rp =>
  wt_of (pt_not pt_w) ((h σ H N rp).imp fun c H1 ⟨e1, N1, s1, n1, r1⟩ => ⟨by rw [e1], N1, s1, n1, r1⟩)
theorem ev_one {op} (h : Ev X H0 ρ a d) : Ev X H0 ρ (.BoolOp op [a] pos) d := fun σ H N rp => we_of (pe_one pe_w) (h σ H N rp)
theorem ev_andB {k l : Bool} {rest : List Expr} (h : Ev X H0 ρ a (.bl k)) (g : k = true → Ev X H0 ρ (.BoolOp .And (b :: rest) pos) (.bl l)) : Ev X H0 ρ (.BoolOp .And (a :: b :: rest) pos) (.bl (k && l)) := fun σ H N rp =>
  we_of (pe_and pe_w pe_w) ((h σ H N rp).imp fun x H1 ⟨N1, s1, n1, r1, a1⟩ => ⟨k, at_bl a1, by
    cases k with
    | true => exact iteT ((g rfl σ H1 N1 r1).imp fun x2 H2 ⟨N2, s2, n2, r2, a2⟩ => ⟨N2, s1.trans s2, n1.trans n2, r2, a2⟩)
    | false => exact iteF ⟨N1, s1, n1, r1, .bl _⟩⟩)
theorem ev_orB {k l : Bool} {rest : List Expr} (h : Ev X H0 ρ a (.bl k)) (g : k = false → Ev X H0 ρ (.BoolOp .Or (b :: rest) pos) (.bl l)) : Ev X H0 ρ (.BoolOp .Or (a :: b :: rest) pos) (.bl (k || l)) := fun σ H N rp =>
  we_of (pe_or pe_w pe_w) ((h σ H N rp).imp fun x H1 ⟨N1, s1, n1, r1, a1⟩ => ⟨k, at_bl a1, by
    cases k with
    | false => exact iteF ((g rfl σ H1 N1 r1).imp fun x2 H2 ⟨N2, s2, n2, r2, a2⟩ => ⟨N2, s1.trans s2, n1.trans n2, r2, a2⟩)
    | true => exact iteT ⟨N1, s1, n1, r1, .bl _⟩⟩)
theorem ev_not {k : Bool} (h : Ev X H0 ρ a (.bl k)) : Ev X H0 ρ (.UnaryOp .Not a pos) (.bl (!k)) := fun σ H N rp =>
  we_of (pe_not pe_w) ((h σ H N rp).imp fun x H1 ⟨N1, s1, n1, r1, a1⟩ => ⟨k, at_bl a1, N1, s1, n1, r1, .bl _⟩)
theorem ev_ifT (hc : EvT X H0 ρ c true) (h : Ev X H0 ρ a d) : Ev X H0 ρ (.IfExp c a b pos) d := fun σ H N rp =>
  we_of (pe_ifExp pt_w pe_w pe_w) ((hc σ H N rp).imp fun x H1 ⟨e1, N1, s1, n1, r1⟩ => by
    subst e1
    exact iteT ((h σ H1 N1 r1).imp fun x2 H2 ⟨N2, s2, n2, r2, a2⟩ => ⟨N2, s1.trans s2, n1.trans n2, r2, a2⟩))
theorem ev_ifF (hc : EvT X H0 ρ c false) (h : Ev X H0 ρ b d) : Ev X H0 ρ (.IfExp c a b pos) d := fun σ H N rp =>
  we_of (pe_ifExp pt_w pe_w pe_w) ((hc σ H N rp).imp fun x H1 ⟨e1, N1, s1, n1, r1⟩ => by
    subst e1
    exact iteF ((h σ H1 N1 r1).imp fun x2 H2 ⟨N2, s2, n2, r2, a2⟩ => ⟨N2, s1.trans s2, n1.trans n2, r2, a2⟩))

/-! ### argument lists, displays -/
theorem ea_nil : EvA X H0 ρ [] [] := fun σ H N rp => wa_of pa_nil ⟨N, Same.refl _, Same.refl _, rp, .nil⟩
theorem ea_cons (h : Ev X H0 ρ e d) (t : EvA X H0 ρ es ds) (hs : starEach (e :: es) X.env = (false, eval e X.env) :: starEach es X.env := by rfl) : EvA X H0 ρ (e :: es) (d :: ds) := fun σ H N rp =>
  wa_of (pa_cons pe_w pa_w hs) ((h σ H N rp).imp fun x H1 ⟨N1, s1, n1, r1, a1⟩ => (t σ H1 N1 r1).imp fun xs H2 ⟨N2, s2, n2, r2, a2⟩ => ⟨N2, s1.trans s2, n1.trans n2, r2, .cons (a1.mono n2) a2⟩)
theorem eab_nil : EvAB X H0 ρ [] [] := fun σ H N rp => wa_of pa_nil ⟨N, Same.refl _, Same.refl _, rp, .nil⟩
theorem eab_cons (h : EvB X H0 ρ e d) (t : EvAB X H0 ρ es ds) (hs : starEach (e :: es) X.env = (false, eval e X.env) :: starEach es X.env := by rfl) : EvAB X H0 ρ (e :: es) (d :: ds) := fun σ H N rp =>
  wa_of (pa_cons pe_w pa_w hs) ((h σ H N rp).imp fun x H1 ⟨N1, s1, n1, r1, a1⟩ => (t σ H1 N1 r1).imp fun xs H2 ⟨N2, s2, n2, r2, a2⟩ => ⟨N2, s1.trans s2, n1.trans n2, r2, .cons (a1.mono s2) a2⟩)
theorem ev_tup {x1} (h : EvA X H0 ρ es ds) (hz : ds.length ≤ sizeLine) : Ev X H0 ρ (.Tuple es x1 pos) (.tup ds) := fun σ H N rp =>
  we_of (pe_tup pa_w) ((h σ H N rp).imp fun xs H1 ⟨N1, s1, n1, r1, a1⟩ => ⟨by rw [a1.length]; exact hz, fun p hp =>
    let ⟨r2, n2⟩ := r1.new (o := .tup xs) hp
    ⟨_, s1.trans (Same.of_none hp), n1.trans n2, r2, .tup (.inl (.inl upd_same)) (a1.mono n2)⟩⟩)

/-- a new list or dict, for one to own -/
def EvO (X : Cx) (H0 : Hp) (ρ : Env') (e : Expr) (d : Dat) : Prop := ∀ σ H N, Rep X.K H0 ρ σ H N → WE X e σ H fun v H' => ∃ N' p, v = .ref p ∧ H p = none ∧ Same H H' ∧ Same N N' ∧ Rep X.K H0 ρ σ H' N' ∧ N' p = none ∧ Own X.K H' N' p d
theorem no_own {K : PySem.W.Frag} {H N : Hp} {σ : L2.St} (r : Rep K H0 ρ σ H N) {p : Addr} (h : H p = none) (j : Nat) (d' : Dat) (q : ρ[j]? = some (.ow d')) : σ[j]? ≠ some (some (V.ref p)) := fun z => by
  obtain ⟨p', o, e1, e2, _⟩ := r.own_some q
  rw [z] at e1
  cases e1
  rw [h] at e2
  cases e2
theorem EvO.ev (h : EvO X H0 ρ e d) : Ev X H0 ρ e d := fun σ H N rp => (h σ H N rp).imp fun v H' ⟨N', p, e1, hp, s, n, r, np, o⟩ => by
  subst e1
  obtain ⟨N2, n2, r2, a2⟩ := r.freeze (rp.old.free hp) np o (no_own rp hp)
  exact ⟨N2, s, n.trans n2, r2, a2⟩
theorem eo_new {H' : Hp} {K : PySem.W.Frag} {N : Hp} {σ : L2.St} {p : Addr} {o : HO} (r : Rep K H0 ρ σ H' N) (hp : H' p = none) : Rep K H0 ρ σ (upd H' p o) N ∧ N p = none := ⟨r.grow (Same.of_none hp), r.sub.free hp⟩
theorem eo_lst (h : EvA X H0 ρ es ds) (hz : ds.length ≤ sizeLine) : EvO X H0 ρ (.List es pos) (.lst ds) := fun σ H N rp =>
  we_of (pe_lst pa_w) ((h σ H N rp).imp fun xs H1 ⟨N1, s1, n1, r1, a1⟩ => ⟨by rw [a1.length]; exact hz, fun p hp =>
    let ⟨r2, n2⟩ := eo_new (o := .lst xs) r1 hp
    ⟨N1, p, rfl, s1.free hp, s1.trans (Same.of_none hp), n1, r2, n2, xs, upd_same, a1⟩⟩)
theorem eo_dic0 : EvO X H0 ρ (.Dict [] [] pos) (.dic []) := fun σ H N rp => we_of pe_dnewK (fun p hp =>
    let ⟨r2, n2⟩ := eo_new (o := .dK []) rp hp
    ⟨N, p, rfl, hp, Same.of_none hp, Same.refl _, r2, n2, [], upd_same, .nil⟩)

/-! ### items, slices -/
theorem at_seq {K : PySem.W.Frag} {H : Hp} {v : V} (h : At K H v (.tup ds)) : ∃ p vs, v = .ref p ∧ SqT K H p vs ∧ Ats K H vs ds := by cases h with | tup a b => exact ⟨_, _, rfl, a, b⟩
theorem at_lst {K : PySem.W.Frag} {H : Hp} {v : V} (h : At K H v (.lst ds)) : ∃ p vs, v = .ref p ∧ SqL K H p vs ∧ Ats K H vs ds := by cases h with | lst a b => exact ⟨_, _, rfl, a, b⟩
theorem atI_ats {K : PySem.W.Frag} {H : Hp} {vs : List V} (h : Ats K H vs ds) {i : Int} (q : atI ds i = some d) : ∃ v, atI vs i = some v ∧ At K H v d := by
  unfold atI at q ⊢
  rw [h.length]
  cases e : ixN ds.length i with
  | none => rw [e] at q; cases q
  | some j =>
    rw [e] at q
    exact h.get q
theorem eb_ixT {i : Int} (ha : EvB X H0 ρ a (.tup ds)) (hb : Ev X H0 ρ b (.int i)) (q : atI ds i = some d) (hs : PlainIx b := by exact fun _ _ => rfl) : EvB X H0 ρ (.Subscript a b pos) d := fun σ H N rp =>
  we_of (pe_ix ix_tup pe_w pe_w hs) ((ha σ H N rp).imp fun x H1 ⟨N1, s1, n1, r1, a1⟩ => (hb.toB σ H1 N1 r1).imp fun y H2 ⟨N2, s2, n2, r2, a2⟩ =>
    let ⟨p, vs, e1, h1, h2⟩ := at_seq (a1.mono s2)
    let ⟨v, g1, g2⟩ := atI_ats h2 q
    ⟨p, vs, i, v, e1, at_int a2, h1, g1, N2, s1.trans s2, n1.trans n2, r2, g2⟩)
theorem eb_ixL {i : Int} (ha : EvB X H0 ρ a (.lst ds)) (hb : Ev X H0 ρ b (.int i)) (q : atI ds i = some d) (hs : PlainIx b := by exact fun _ _ => rfl) : EvB X H0 ρ (.Subscript a b pos) d := fun σ H N rp =>
  we_of (pe_ix ix_list pe_w pe_w hs) ((ha σ H N rp).imp fun x H1 ⟨N1, s1, n1, r1, a1⟩ => (hb.toB σ H1 N1 r1).imp fun y H2 ⟨N2, s2, n2, r2, a2⟩ =>
    let ⟨p, vs, e1, h1, h2⟩ := at_lst (a1.mono s2)
    let ⟨v, g1, g2⟩ := atI_ats h2 q
    ⟨p, vs, i, v, e1, at_int a2, h1, g1, N2, s1.trans s2, n1.trans n2, r2, g2⟩)
theorem ev_ixT {i : Int} (ha : Ev X H0 ρ a (.tup ds)) (hb : Ev X H0 ρ b (.int i)) (q : atI ds i = some d) (hs : PlainIx b := by exact fun _ _ => rfl) : Ev X H0 ρ (.Subscript a b pos) d := fun σ H N rp =>
  we_of (pe_ix ix_tup pe_w pe_w hs) ((ha σ H N rp).imp fun x H1 ⟨N1, s1, n1, r1, a1⟩ => (hb.toB σ H1 N1 r1).imp fun y H2 ⟨N2, s2, n2, r2, a2⟩ =>
    let ⟨p, vs, e1, h1, h2⟩ := at_seq (a1.mono n2)
    let ⟨v, g1, g2⟩ := atI_ats h2 q
    ⟨p, vs, i, v, e1, at_int a2, sqt_same r2.sub h1, g1, N2, s1.trans s2, n1.trans n2, r2, g2⟩)
theorem ev_ixL {i : Int} (ha : Ev X H0 ρ a (.lst ds)) (hb : Ev X H0 ρ b (.int i)) (q : atI ds i = some d) (hs : PlainIx b := by exact fun _ _ => rfl) : Ev X H0 ρ (.Subscript a b pos) d := fun σ H N rp =>
  we_of (pe_ix ix_list pe_w pe_w hs) ((ha σ H N rp).imp fun x H1 ⟨N1, s1, n1, r1, a1⟩ => (hb.toB σ H1 N1 r1).imp fun y H2 ⟨N2, s2, n2, r2, a2⟩ =>
    let ⟨p, vs, e1, h1, h2⟩ := at_lst (a1.mono n2)
    let ⟨v, g1, g2⟩ := atI_ats h2 q
    ⟨p, vs, i, v, e1, at_int a2, sql_same r2.sub h1, g1, N2, s1.trans s2, n1.trans n2, r2, g2⟩)
theorem ev_ixS {z : Str} {i : Int} {k : Nat} (ha : Ev X H0 ρ a (.str z)) (hb : Ev X H0 ρ b (.int i)) (hz : z.length ≤ sizeLine) (q : atI z.cps.toList i = some k) (hs : PlainIx b := by exact fun _ _ => rfl) : Ev X H0 ρ (.Subscript a b pos) (.str ⟨#[k]⟩) :=
  ev_bin (fun _ _ h k => pe_ix ix_str h k hs) ha.toB hb.toB fun x y σ H N Q r p p2 g => ⟨z, i, k, at_str p, at_int p2, hz, q, goes_self g r (.str _)⟩
end
end B

namespace B
open PySem PySem.Spec PyProof.Rows L2

/-! ### how a block ends -/
inductive Outc where
  | nx (ρ : Env')
  | rt (d : Dat)
  | ex (n : Str) (ρ : Env')
  | bk (ρ : Env')
  | ct (ρ : Env')
def Cont (X : Cx) (H0 N : Hp) (D : Ends) : Outc → Prop
  | .nx ρ => ∀ σ H N', Same N N' → Rep X.K H0 ρ σ H N' → D.nx σ H
  | .rt d => ∀ v H, Same H0 H → Ret X.K H0 v d H → D.rt v H
  | .ex n ρ => ∃ W, Takes X W ∧ ∀ C σ H N', X.mg n = some (.ref C) → Same N N' → Rep X.K H0 ρ σ H N' → W (.ref C) none σ H
  | .bk ρ => ∀ σ H N', Same N N' → Rep X.K H0 ρ σ H N' → D.bk σ H
  | .ct ρ => ∀ σ H N', Same N N' → Rep X.K H0 ρ σ H N' → D.ct σ H
theorem Cont.mono {X : Cx} {H0 N N' : Hp} {D : Ends} {o : Outc} (c : Cont X H0 N D o) (s : Same N N') : Cont X H0 N' D o := by
  cases o with
  | nx ρ => exact fun σ H N2 s2 r => c σ H N2 (s.trans s2) r
  | rt d => exact c
  | ex n ρ =>
    obtain ⟨W, t, k⟩ := c
    exact ⟨W, t, fun C σ H N2 m s2 r => k C σ H N2 m (s.trans s2) r⟩
  | bk ρ => exact fun σ H N2 s2 r => c σ H N2 (s.trans s2) r
  | ct ρ => exact fun σ H N2 s2 r => c σ H N2 (s.trans s2) r
section
variable (X : Cx) (H0 : Hp) (ρ : Env')
def Exec (sts : List Stmt) (o : Outc) : Prop := ∀ D σ H N, Rep X.K H0 ρ σ H N → Cont X H0 N D o → WB X sts D σ H
def ExS (st : Stmt) (o : Outc) : Prop := ∀ D σ H N, Rep X.K H0 ρ σ H N → Cont X H0 N D o → WS X st D σ H
end
/-- what follows behind an end -/
def Thn (X : Cx) (H0 : Hp) (rest : List Stmt) (o1 o : Outc) : Prop := match o1 with
  | .nx ρ => Exec X H0 ρ rest o
  | o1 => o = o1

section
variable {X : Cx} {H0 : Hp} {ρ ρ1 ρ2 : Env'} {a b c e : Expr} {es : List Expr} {st : Stmt} {sts rest : List Stmt} {d d1 d2 : Dat} {ds : List Dat} {pos : Pos} {o o1 : Outc}
theorem ex_nil : Exec X H0 ρ [] (.nx ρ) := fun D σ H N r k => wb_of pss_nil (k σ H N (Same.refl _) r)
theorem ex_cons (h : ExS X H0 ρ st o1) (t : Thn X H0 rest o1 o) : Exec X H0 ρ (st :: rest) o := fun D σ H N r k => by
  refine wb_of (pss_cons ps_w pb_w) ?_
  show WS X st { D with nx := WB X rest D } σ H
  refine h _ σ H N r ?_
  cases o1 with
  | nx ρ' => exact fun σ' H' N' s r' => t D σ' H' N' r' (k.mono s)
  | rt d => cases (show o = _ from t); exact k
  | ex n ρ => cases (show o = _ from t); exact k
  | bk ρ => cases (show o = _ from t); exact k
  | ct ρ => cases (show o = _ from t); exact k
theorem ex_one (h : ExS X H0 ρ st o) : Exec X H0 ρ [st] o := by
  refine ex_cons h ?_
  cases o with
  | nx ρ => exact ex_nil
  | _ => rfl
theorem ex_then (h : ExS X H0 ρ st (.nx ρ1)) (t : Exec X H0 ρ1 rest o) : Exec X H0 ρ (st :: rest) o := ex_cons h t
/-- an owned thing will not be changed any more -/
theorem ex_freeze (i : Nat) (hi : ρ[i]? = some (.ow d)) (h : Exec X H0 (ρ.set i (.im d)) sts o) : Exec X H0 ρ sts o := fun D σ H N r k => by
  obtain ⟨p, e1, h0, hn, ho⟩ := r.ow i d hi
  have r1 := r.drop i
  obtain ⟨N', s, r2, a⟩ := r1.freeze h0 hn ho (fun j d' q z => by
    rcases get_set q with ⟨_, q'⟩ | ⟨ne, q'⟩
    · cases q'
    · exact r.apart i j d d' p (Ne.symm ne) hi q' e1 z)
  have r3 := r2.setE (i := i) (v := .ref p) (e := .im d) a
  have eσ : σ.set i (some (V.ref p)) = σ := by
    apply List.ext_getElem?
    intro j
    by_cases hj : i = j
    · subst hj
      rw [List.getElem?_set_self (lt_of_get e1), e1]
    · rw [List.getElem?_set_ne hj]
  rw [eσ, List.set_set] at r3
  exact h D σ H N' r3 (k.mono s)
theorem ex_drop (i : Nat) (h : Exec X H0 (ρ.set i .no) sts o) : Exec X H0 ρ sts o := fun D σ H N r k => h D σ H N (r.drop i) k

/-! ### statements -/
theorem sx_pass : ExS X H0 ρ (.Pass pos) (.nx ρ) := fun D σ H N r k => ws_of ps_pass (k σ H N (Same.refl _) r)
theorem sx_break : ExS X H0 ρ (.Break pos) (.bk ρ) := fun D σ H N r k => ws_of ps_break (k σ H N (Same.refl _) r)
theorem sx_continue : ExS X H0 ρ (.Continue pos) (.ct ρ) := fun D σ H N r k => ws_of ps_continue (k σ H N (Same.refl _) r)
theorem sx_ret (h : Ev X H0 ρ e d) : ExS X H0 ρ (.Return (some e) pos) (.rt d) := fun D σ H N r k => ws_of (ps_ret pe_w) ((h σ H N r).imp fun v H' ⟨N', s, n, r', a⟩ => k v H' r'.old ⟨N', r'.sub, r'.fresh, a⟩)
theorem sx_retN : ExS X H0 ρ (.Return none pos) (.rt .non) := fun D σ H N r k => ws_of ps_retN (k .non H r.old ⟨N, r.sub, r.fresh, .non⟩)
theorem sx_set (i : Nat) {x : Str} {pos' : Pos} (h : Ev X H0 ρ e d) (nd : X.N.Nodup) (hρ : ρ.set i (.im d) = ρ1 := by rfl) (hi : X.N[i]? = some x := by rfl) (hx : Loc X.env.scope x := by first | exact Or.inl rfl | exact Or.inr rfl)
    (hs : swapsWith e (some (.Name x pos')) pos.line X.env = pure false := by rfl) (hf : X.fn x = true ∨ X.env.scope.names.lookup x = some .local := by first | exact .inl rfl | exact .inr rfl | assumption) : ExS X H0 ρ (.Assign [.Name x pos'] e pos) (.nx ρ1) := fun D σ H N r k =>
  ws_of (ps_set nd hi hx pe_w hs hf) ((h σ H N r).imp fun v H' ⟨N', s, n, r', a⟩ => k _ H' N' n (hρ ▸ r'.setE a))
theorem sx_setO (i : Nat) {x : Str} {pos' : Pos} (h : EvO X H0 ρ e d) (nd : X.N.Nodup) (hρ : ρ.set i (.ow d) = ρ1 := by rfl) (hi : X.N[i]? = some x := by rfl) (hx : Loc X.env.scope x := by first | exact Or.inl rfl | exact Or.inr rfl)
    (hs : swapsWith e (some (.Name x pos')) pos.line X.env = pure false := by rfl) (hf : X.fn x = true ∨ X.env.scope.names.lookup x = some .local := by first | exact .inl rfl | exact .inr rfl | assumption) : ExS X H0 ρ (.Assign [.Name x pos'] e pos) (.nx ρ1) := fun D σ H N r k =>
  ws_of (ps_set nd hi hx pe_w hs hf) ((h σ H N r).imp fun v H' ⟨N', p, e1, hp, s, n, r', np, ow⟩ => k _ H' N' n (hρ ▸ r'.setE (e := .ow d) ⟨p, e1, r.old.free hp, np, ow, fun j d' _ q => no_own r hp j d' q⟩))
theorem sx_expr (h : Ev X H0 ρ e d) (hs : swapsWith e none pos.line X.env = pure false := by rfl) : ExS X H0 ρ (.Expr e pos) (.nx ρ) := fun D σ H N r k => ws_of (ps_expr pe_w hs) ((h σ H N r).imp fun v H' ⟨N', s, n, r', a⟩ => k _ H' N' n r')
theorem sx_ifT {as bs : List Stmt} (hc : EvT X H0 ρ c true) (h : Exec X H0 ρ as o) : ExS X H0 ρ (.If c as bs pos) o := fun D σ H N r k => ws_of (ps_if pt_w pb_w pb_w) ((hc σ H N r).imp fun v H' ⟨e1, N', s, n, r'⟩ => by
  subst e1
  exact iteT (h D σ H' N' r' (k.mono n)))
theorem sx_ifF {as bs : List Stmt} (hc : EvT X H0 ρ c false) (h : Exec X H0 ρ bs o) : ExS X H0 ρ (.If c as bs pos) o := fun D σ H N r k => ws_of (ps_if pt_w pb_w pb_w) ((hc σ H N r).imp fun v H' ⟨e1, N', s, n, r'⟩ => by
  subst e1
  exact iteF (h D σ H' N' r' (k.mono n)))
/-- an if without else that is not taken -/
theorem sx_skip {as : List Stmt} (hc : EvT X H0 ρ c false) : ExS X H0 ρ (.If c as [] pos) (.nx ρ) := sx_ifF hc ex_nil
theorem sx_if {as bs : List Stmt} {k : Bool} (hc : EvT X H0 ρ c k) (h1 : k = true → Exec X H0 ρ as o) (h2 : k = false → Exec X H0 ρ bs o) : ExS X H0 ρ (.If c as bs pos) o := by
  cases k with
  | true => exact sx_ifT hc (h1 rfl)
  | false => exact sx_ifF hc (h2 rfl)
theorem ex_if {as bs : List Stmt} {k : Bool} (hc : EvT X H0 ρ c k) (h1 : k = true → Exec X H0 ρ (.If c as bs pos :: rest) o) (h2 : k = false → Exec X H0 ρ (.If c as bs pos :: rest) o) : Exec X H0 ρ (.If c as bs pos :: rest) o := by
  cases k with
  | true => exact h1 rfl
  | false => exact h2 rfl

/-! ### while -/
/-- the turns of a while -/
inductive WhileT (X : Cx) (H0 : Hp) (c : Expr) (body : List Stmt) : Env' → Outc → Prop where
  | done {ρ : Env'} : EvT X H0 ρ c false → WhileT X H0 c body ρ (.nx ρ)
  | turn {ρ ρ1 : Env'} {o : Outc} : EvT X H0 ρ c true → Exec X H0 ρ body (.nx ρ1) → WhileT X H0 c body ρ1 o → WhileT X H0 c body ρ o
  | turnC {ρ ρ1 : Env'} {o : Outc} : EvT X H0 ρ c true → Exec X H0 ρ body (.ct ρ1) → WhileT X H0 c body ρ1 o → WhileT X H0 c body ρ o
  | brk {ρ ρ1 : Env'} : EvT X H0 ρ c true → Exec X H0 ρ body (.bk ρ1) → WhileT X H0 c body ρ (.nx ρ1)
  | ret {ρ : Env'} {d : Dat} : EvT X H0 ρ c true → Exec X H0 ρ body (.rt d) → WhileT X H0 c body ρ (.rt d)
  | exc {ρ ρ1 : Env'} {n : Str} : EvT X H0 ρ c true → Exec X H0 ρ body (.ex n ρ1) → WhileT X H0 c body ρ (.ex n ρ1)
/-- .. counted -/
def WhileN (X : Cx) (H0 : Hp) (c : Expr) (body : List Stmt) (o : Outc) : Nat → Env' → Prop
  | 0, ρ => (EvT X H0 ρ c false ∧ o = .nx ρ) ∨ (EvT X H0 ρ c true ∧ ((∃ ρ1, Exec X H0 ρ body (.bk ρ1) ∧ o = .nx ρ1) ∨ (∃ d, Exec X H0 ρ body (.rt d) ∧ o = .rt d) ∨ ∃ n ρ1, Exec X H0 ρ body (.ex n ρ1) ∧ o = .ex n ρ1))
  | m + 1, ρ => ∃ ρ1, EvT X H0 ρ c true ∧ (Exec X H0 ρ body (.nx ρ1) ∨ Exec X H0 ρ body (.ct ρ1)) ∧ WhileN X H0 c body o m ρ1
theorem WhileT.count {body : List Stmt} (h : WhileT X H0 c body ρ o) : ∃ m, WhileN X H0 c body o m ρ := by
  induction h with
  | done h => exact ⟨0, .inl ⟨h, rfl⟩⟩
  | turn h1 h2 _ ih => obtain ⟨m, q⟩ := ih; exact ⟨m + 1, _, h1, .inl h2, q⟩
  | turnC h1 h2 _ ih => obtain ⟨m, q⟩ := ih; exact ⟨m + 1, _, h1, .inr h2, q⟩
  | brk h1 h2 => exact ⟨0, .inr ⟨h1, .inl ⟨_, h2, rfl⟩⟩⟩
  | ret h1 h2 => exact ⟨0, .inr ⟨h1, .inr (.inl ⟨_, h2, rfl⟩)⟩⟩
  | exc h1 h2 => exact ⟨0, .inr ⟨h1, .inr (.inr ⟨_, _, h2, rfl⟩)⟩⟩
theorem sx_while {body : List Stmt} (hp : PassesOwn (model X.prog X.w) X.A X.env X.xe) (h : WhileT X H0 c body ρ o) : ExS X H0 ρ (.While c body [] pos) o := fun D σ H N r k => by
  obtain ⟨m0, h0⟩ := h.count
  refine ws_of (ps_while hp pt_w pb_w) ⟨fun m σ' H' => ∃ ρ' N', Same N N' ∧ Rep X.K H0 ρ' σ' H' N' ∧ WhileN X H0 c body o m ρ', ⟨m0, ρ, N, Same.refl _, r, h0⟩, ?_⟩
  rintro m σ' H' ⟨ρ', N', s, r', w⟩
  cases m with
  | zero =>
    rcases w with ⟨hc, eo⟩ | ⟨hc, w⟩
    · refine (hc σ' H' N' r').imp fun b H1 ⟨eb, N1, s1, n1, r1⟩ => ?_
      subst eb
      subst eo
      exact iteF (k σ' H1 N1 (s.trans n1) r1)
    · refine (hc σ' H' N' r').imp fun b H1 ⟨eb, N1, s1, n1, r1⟩ => ?_
      subst eb
      refine iteT ⟨fun _ _ => False, fun _ _ z => z.elim, ?_⟩
      rcases w with ⟨ρ1, hb, eo⟩ | ⟨d, hb, eo⟩ | ⟨n, ρ1, hb, eo⟩
      · subst eo
        exact hb _ σ' H1 N1 r1 fun σ2 H2 N2 s2 r2 => k σ2 H2 N2 ((s.trans n1).trans s2) r2
      · subst eo
        exact hb _ σ' H1 N1 r1 k
      · subst eo
        exact hb _ σ' H1 N1 r1 (Cont.mono (o := .ex n ρ1) k (s.trans n1))
  | succ m =>
    obtain ⟨ρ1, hc, hb, w⟩ := w
    refine (hc σ' H' N' r').imp fun b H1 ⟨eb, N1, s1, n1, r1⟩ => ?_
    subst eb
    refine iteT ⟨fun σ2 H2 => ∃ N2, Same N N2 ∧ Rep X.K H0 ρ1 σ2 H2 N2, fun σ2 H2 ⟨N2, s2, r2⟩ => ⟨m, Nat.lt_succ_self m, ρ1, N2, s2, r2, w⟩, ?_⟩
    rcases hb with hb | hb
    · exact hb _ σ' H1 N1 r1 fun σ2 H2 N2 s2 r2 => ⟨N2, (s.trans n1).trans s2, r2⟩
    · exact hb _ σ' H1 N1 r1 fun σ2 H2 N2 s2 r2 => ⟨N2, (s.trans n1).trans s2, r2⟩


/-! ### what is walked -/
/-- it goes through ds -/
def Walks (K : PySem.W.Frag) (H0 : Hp) (J : It) (N1 : Hp) (ds : List Dat) : Prop := ∀ (H0' : Hp) (ρ : Env') (σ : L2.St) (H N : Hp) (i : Nat), Same H0 H0' → Same N1 N → Rep K H0' ρ σ H N →
  (i < ds.length → J.go i H ∧ ∀ x H', J.yld i H x H' → ∃ N' d, Same N N' ∧ Same H H' ∧ Rep K H0' ρ σ H' N' ∧ ds[i]? = some d ∧ At K N' x d) ∧ (i = ds.length → J.stop i H)
def Iter (X : Cx) (H0 : Hp) (ρ : Env') (t e : Expr) (ds : List Dat) : Prop := ∃ wi, PI X t e wi ∧ ∀ σ H N, Rep X.K H0 ρ σ H N → ∀ R, (∀ J H1 N1, Same N N1 → Same H H1 → Rep X.K H0 ρ σ H1 N1 → Walks X.K H0 J N1 ds → R J H1) → wi σ H R
theorem it_list {t : Expr} (h : Ev X H0 ρ e (.lst ds)) : Iter X H0 ρ t e ds := ⟨_, pi_list pe_w, fun σ H N r R k => (h σ H N r).imp fun v H' ⟨N', s, n, r', a⟩ => by
  obtain ⟨p, vs, rfl, h1, h2⟩ := at_lst a
  refine ⟨p, rfl, ⟨vs, sql_same r'.sub h1⟩, k _ H' N' n s r' fun H02 ρ2 σ2 H2 N2 i s02 s2 r2 => ⟨fun hi => ?_, fun hi => ⟨vs, sql_same (s2.trans r2.sub) h1, by rw [h2.length]; exact Nat.le_of_eq hi.symm⟩⟩⟩
  have hv : i < vs.length := by rw [h2.length]; exact hi
  refine ⟨⟨vs, vs[i], sql_same (s2.trans r2.sub) h1, by simp [hv]⟩, fun x H3 y => ?_⟩
  obtain ⟨rfl, y⟩ := y
  obtain ⟨d, e1, e2⟩ := h2.getV (y vs (sql_same (s2.trans r2.sub) h1))
  exact ⟨N2, d, Same.refl _, Same.refl _, r2, e1, e2.mono s2⟩⟩
theorem it_ol (i : Nat) {t : Expr} {x : Str} (h : ρ[i]? = some (.ol (.lst ds))) (f : flats ds = true) (hN : X.N[i]? = some x := by rfl) (hv : Vis X.env.scope x := by first | exact Or.inl rfl | exact Or.inr (Or.inl rfl) | exact Or.inr (Or.inr rfl)) (hd : (x == ("__debug__" : Str)) = false := by decide)
    (hcd : (x == ("__classdict__" : Str)) = false := by decide) : Iter X H0 ρ t (.Name x pos) ds := ⟨_, pi_list (pv i hN hv hd hcd), fun σ H N r R k => by
  obtain ⟨v, e1, a⟩ := r.ol i _ h
  obtain ⟨p, vs, rfl, h1, h2⟩ := at_lst a
  refine ⟨_, e1, p, rfl, ⟨vs, sql_same r.old h1⟩, k _ H N (Same.refl _) (Same.refl _) r fun H02 ρ2 σ2 H2 N2 j s02 s2 r2 => ⟨fun hi => ?_, fun hi => ⟨vs, sql_same (s02.trans r2.old) h1, by rw [h2.length]; exact Nat.le_of_eq hi.symm⟩⟩⟩
  have hv : j < vs.length := by rw [h2.length]; exact hi
  refine ⟨⟨vs, vs[j], sql_same (s02.trans r2.old) h1, by simp [hv]⟩, fun x H3 y => ?_⟩
  obtain ⟨rfl, y⟩ := y
  obtain ⟨d, e2, e3⟩ := (h2.imm f).getV (y vs (sql_same (s02.trans r2.old) h1))
  exact ⟨N2, d, Same.refl _, Same.refl _, r2, e2, (e3.mono (imm_same s02)).mono r2.imm⟩⟩
theorem it_tup {t : Expr} (h : Ev X H0 ρ e (.tup ds)) : Iter X H0 ρ t e ds := ⟨_, pi_tup pe_w, fun σ H N r R k => (h σ H N r).imp fun v H' ⟨N', s, n, r', a⟩ => by
  obtain ⟨p, vs, rfl, h1, h2⟩ := at_seq a
  refine ⟨p, rfl, ⟨vs, sqt_same r'.sub h1⟩, k _ H' N' n s r' fun H02 ρ2 σ2 H2 N2 i s02 s2 r2 => ⟨fun hi => ?_, fun hi => ⟨vs, sqt_same (s2.trans r2.sub) h1, by rw [h2.length]; exact Nat.le_of_eq hi.symm⟩⟩⟩
  have hv : i < vs.length := by rw [h2.length]; exact hi
  refine ⟨⟨vs, vs[i], sqt_same (s2.trans r2.sub) h1, by simp [hv]⟩, fun x H3 y => ?_⟩
  obtain ⟨rfl, y⟩ := y
  obtain ⟨d, e1, e2⟩ := h2.getV (y vs (sqt_same (s2.trans r2.sub) h1))
  exact ⟨N2, d, Same.refl _, Same.refl _, r2, e1, e2.mono s2⟩⟩
/-- the signs of a text, each a text -/
def signs (z : Str) : List Dat := z.cps.toList.map fun c => .str ⟨#[c]⟩
theorem it_str {t : Expr} {z : Str} (h : Ev X H0 ρ e (.str z)) : Iter X H0 ρ t e (signs z) := ⟨_, pi_str pe_w, fun σ H N r R k => (h σ H N r).imp fun v H' ⟨N', s, n, r', a⟩ => by
  refine ⟨z, at_str a, k _ H' N' n s r' fun H02 ρ2 σ2 H2 N2 i s02 s2 r2 => ⟨fun hi => ?_, fun hi => ?_⟩⟩
  · have hz : i < z.cps.size := by simpa [signs] using hi
    refine ⟨hz, fun x H3 y => ?_⟩
    obtain ⟨rfl, c, y1, rfl⟩ := y
    refine ⟨N2, .str ⟨#[c]⟩, Same.refl _, Same.refl _, r2, ?_, .str _⟩
    unfold signs
    rw [List.getElem?_map, Array.getElem?_toList, y1]
    rfl
  · show z.cps.size ≤ i
    rw [hi]
    simp [signs]⟩
/-- lo, lo + c, .. -/
def steps (lo c : Int) (n : Nat) : List Dat := (List.range n).map fun i : Nat => .int (lo + (i : Int) * c)
theorem steps_len {lo c : Int} {n : Nat} : (steps lo c n).length = n := by simp [steps]
theorem steps_get {lo c : Int} {n i : Nat} (h : i < n) : (steps lo c n)[i]? = some (.int (lo + (i : Int) * c)) := by
  unfold steps
  rw [List.getElem?_map, List.getElem?_range h]
  rfl
theorem wlk_r {K : PySem.W.Frag} {lo : Int} {n : Nat} {N1 : Hp} : Walks K H0 (Itr lo n) N1 (steps lo 1 n) := fun H02 ρ2 σ2 H2 N2 i s02 s2 r2 => by
  refine ⟨fun hi => ?_, fun hi => by rw [steps_len] at hi; exact Nat.le_of_eq hi.symm⟩
  rw [steps_len] at hi
  refine ⟨hi, fun x H3 y => ?_⟩
  obtain ⟨rfl, rfl⟩ := y
  exact ⟨N2, _, Same.refl _, Same.refl _, r2, steps_get hi, by rw [Int.mul_one]; exact .int _⟩
theorem wlk_c {K : PySem.W.Frag} {lo c : Int} {n : Nat} {N1 : Hp} : Walks K H0 (Itc lo c n) N1 (steps lo c n) := fun H02 ρ2 σ2 H2 N2 i s02 s2 r2 => by
  refine ⟨fun hi => ?_, fun hi => by rw [steps_len] at hi; exact Nat.le_of_eq hi.symm⟩
  rw [steps_len] at hi
  refine ⟨hi, fun x H3 y => ?_⟩
  obtain ⟨rfl, rfl⟩ := y
  exact ⟨N2, _, Same.refl _, Same.refl _, r2, steps_get hi, .int _⟩
theorem ats1 {K : PySem.W.Frag} {H : Hp} {vs : List V} {i : Int} (h : Ats K H vs [.int i]) : vs = [.int i] := Ats.ints (ns := [i]) h
theorem ats2 {K : PySem.W.Frag} {H : Hp} {vs : List V} {i j : Int} (h : Ats K H vs [.int i, .int j]) : vs = [.int i, .int j] := Ats.ints (ns := [i, j]) h
theorem ats3 {K : PySem.W.Frag} {H : Hp} {vs : List V} {i j k : Int} (h : Ats K H vs [.int i, .int j, .int k]) : vs = [.int i, .int j, .int k] := Ats.ints (ns := [i, j, k]) h
theorem it_range1 {t : Expr} {p : Pos} {j : Int} (h : Ev X H0 ρ a (.int j)) (b1 : -(2 ^ 62) ≤ j) (b2 : j < 2 ^ 62) (hm : X.mg "range" = none) (hg : Gl X "range" := by rfl) (hs : starEach [a] X.env = [(false, eval a X.env)] := by rfl) :
    Iter X H0 ρ t (.Call (.Name "range" p) [a] [] pos) (steps 0 1 j.toNat) := ⟨_, pi_range1 hg hm pa_w hs, fun σ H N r R k => (ea_cons h ea_nil (hs := hs) σ H N r).imp fun vs H' ⟨N', s, n, r', q⟩ => ⟨j, ats1 q, b1, b2, k _ H' N' n s r' wlk_r⟩⟩
theorem it_range2 {t : Expr} {p : Pos} {i j : Int} (h : Ev X H0 ρ a (.int i)) (h2 : Ev X H0 ρ b (.int j)) (bb : -(2 ^ 62) ≤ i ∧ i < 2 ^ 62 ∧ -(2 ^ 62) ≤ j ∧ j < 2 ^ 62) (hm : X.mg "range" = none) (hg : Gl X "range" := by rfl)
    (hs : starEach [a, b] X.env = [(false, eval a X.env), (false, eval b X.env)] := by rfl) (hs2 : starEach [b] X.env = [(false, eval b X.env)] := by rfl) :
    Iter X H0 ρ t (.Call (.Name "range" p) [a, b] [] pos) (steps i 1 (j - i).toNat) := ⟨_, pi_range2 hg hm pa_w hs hs2, fun σ H N r R k => (ea_cons h (ea_cons h2 ea_nil (hs := hs2)) (hs := by rw [hs, hs2]) σ H N r).imp fun vs H' ⟨N', s, n, r', q⟩ => ⟨i, j, ats2 q, bb, k _ H' N' n s r' wlk_r⟩⟩
theorem it_range3 {t : Expr} {p : Pos} {i j c' : Int} {n : Nat} (h : Ev X H0 ρ a (.int i)) (h2 : Ev X H0 ρ b (.int j)) (h3 : Ev X H0 ρ c (.int c')) (hr : RgC i j c' n) (hm : X.mg "range" = none) (hg : Gl X "range" := by rfl)
    (hs : ∀ l, PA X [a, b, c] l → PI X t (.Call (.Name "range" p) [a, b, c] [] pos) (iRng3 l) := by exact fun _ h => pi_range3 rfl (by assumption) h) (s1 : starEach [a, b, c] X.env = (false, eval a X.env) :: starEach [b, c] X.env := by rfl) (s2 : starEach [b, c] X.env = (false, eval b X.env) :: starEach [c] X.env := by rfl) (s3 : starEach [c] X.env = (false, eval c X.env) :: starEach [] X.env := by rfl) :
    Iter X H0 ρ t (.Call (.Name "range" p) [a, b, c] [] pos) (steps i c' n) := ⟨_, hs _ pa_w, fun σ H N r R k => (ea_cons h (ea_cons h2 (ea_cons h3 ea_nil (hs := s3)) (hs := s2)) (hs := s1) σ H N r).imp fun vs H' ⟨N', s, n', r', q⟩ => ⟨i, j, c', n, ats3 q, hr, k _ H' N' n' s r' wlk_c⟩⟩

/-! ### for -/
/-- what a target makes of an item: the names' entries -/
structure Tgt (X : Cx) (H0 : Hp) (t : Expr) (ok : Dat → Prop) (B : Dat → Env' → Env') : Prop where
  pg : ∃ g, PG X t g ∧ ∀ (ρ : Env') (σ : L2.St) (H N : Hp) (v : V) (d : Dat), Rep X.K H0 ρ σ H N → At X.K N v d → ok d → ∀ Q, (∀ σ' H' N', Same N N' → Rep X.K H0 (B d ρ) σ' H' N' → Q σ' H') → g v σ H Q
theorem tg_name (i : Nat) {x : Str} (nd : X.N.Nodup) (hi : X.N[i]? = some x := by rfl) (hx : Loc X.env.scope x := by first | exact Or.inl rfl | exact Or.inr rfl)
    (hf : X.fn x = true ∨ X.env.scope.names.lookup x = some .local := by first | exact .inl rfl | exact .inr rfl | assumption) : Tgt X H0 (.Name x pos) (fun _ => True) (fun d ρ => ρ.set i (.im d)) :=
  ⟨gName i, pg_name nd hi hx hf, fun ρ σ H N v d r a _ Q k => k _ H N (Same.refl _) (r.setE (e := .im d) a)⟩
/-- the turns of a for, what is left to be walked first -/
inductive ForT (X : Cx) (H0 : Hp) (B : Dat → Env' → Env') (body : List Stmt) : List Dat → Env' → Outc → Prop where
  | nil {ρ : Env'} : ForT X H0 B body [] ρ (.nx ρ)
  | turn {ρ ρ1 : Env'} {d : Dat} {ds : List Dat} {o : Outc} : Exec X H0 (B d ρ) body (.nx ρ1) → ForT X H0 B body ds ρ1 o → ForT X H0 B body (d :: ds) ρ o
  | turnC {ρ ρ1 : Env'} {d : Dat} {ds : List Dat} {o : Outc} : Exec X H0 (B d ρ) body (.ct ρ1) → ForT X H0 B body ds ρ1 o → ForT X H0 B body (d :: ds) ρ o
  | brk {ρ ρ1 : Env'} {d : Dat} {ds : List Dat} : Exec X H0 (B d ρ) body (.bk ρ1) → ForT X H0 B body (d :: ds) ρ (.nx ρ1)
  | ret {ρ : Env'} {d r : Dat} {ds : List Dat} : Exec X H0 (B d ρ) body (.rt r) → ForT X H0 B body (d :: ds) ρ (.rt r)
  | exc {ρ ρ1 : Env'} {d : Dat} {ds : List Dat} {n : Str} : Exec X H0 (B d ρ) body (.ex n ρ1) → ForT X H0 B body (d :: ds) ρ (.ex n ρ1)
theorem sx_for {t iter : Expr} {body : List Stmt} {bd : Dat → Env' → Env'} {ok : Dat → Prop} (hp : PassesOwn (model X.prog X.w) X.A X.env X.xe) (hc : X.calm = true) (hi : Iter X H0 ρ t iter ds) (hg : Tgt X H0 t ok bd) (hk : ∀ d ∈ ds, ok d) (h : ForT X H0 bd body ds ρ o)
    (hs : ∀ x, foldedSetIterable iter X.env x = pure x := by intro _; rfl) : ExS X H0 ρ (.For t iter body [] pos) o := fun D σ H N r k => by
  obtain ⟨wi, pi, hw⟩ := hi
  obtain ⟨g, pg, hgg⟩ := hg.pg
  refine ws_of (ps_for hp hc pi pg pb_w hs) (hw σ H N r _ fun J H1 N1 n1 s1 r1 w => ?_)
  refine ⟨fun i m σ' H' => m = ds.length - i ∧ i ≤ ds.length ∧ ∃ ρ' N', Same N1 N' ∧ Rep X.K H0 ρ' σ' H' N' ∧ ForT X H0 bd body (ds.drop i) ρ' o, ⟨_, rfl, Nat.zero_le _, ρ, N1, Same.refl _, r1, h⟩, ?_⟩
  rintro i m σ' H' ⟨rfl, hi, ρ', N', s', r', f⟩
  obtain ⟨wg, wst⟩ := w H0 ρ' σ' H' N' i (Same.refl _) s' r'
  by_cases hlt : i < ds.length
  · obtain ⟨go, yl⟩ := wg hlt
    have e1 : ds.drop i = ds[i] :: ds.drop (i + 1) := List.drop_eq_getElem_cons hlt
    rw [e1] at f
    have base : ∀ (O : Outc) (Dx : Ends), Exec X H0 (bd ds[i] ρ') body O → (∀ N3, Same N1 N3 → Cont X H0 N3 Dx O) → ∀ x H2, J.yld i H' x H2 → g x σ' H2 fun σ3 H3 => WB X body Dx σ3 H3 := fun O Dx ex kk x H2 y => by
      obtain ⟨N3, d, n3, s3, r3, e3, a3⟩ := yl x H2 y
      have ed : d = ds[i] := by
        rw [List.getElem?_eq_getElem hlt] at e3
        exact (Option.some.inj e3).symm
      subst ed
      exact hgg ρ' σ' H2 N3 x _ r3 a3 (hk _ (List.getElem_mem hlt)) _ fun σ4 H4 N4 n4 r4 => ex Dx σ4 H4 N4 r4 (kk N4 ((s'.trans n3).trans n4))
    have again : ∀ ρ1, ForT X H0 bd body (ds.drop (i + 1)) ρ1 o → ∀ σ3 H3, (∃ N3, Same N1 N3 ∧ Rep X.K H0 ρ1 σ3 H3 N3) → ∃ m', m' < ds.length - i ∧ m' = ds.length - (i + 1) ∧ i + 1 ≤ ds.length ∧ ∃ ρ' N', Same N1 N' ∧ Rep X.K H0 ρ' σ3 H3 N' ∧ ForT X H0 bd body (ds.drop (i + 1)) ρ' o :=
      fun ρ1 ff σ3 H3 ⟨N3, q1, q2⟩ => ⟨ds.length - (i + 1), by omega, rfl, hlt, ρ1, N3, q1, q2, ff⟩
    cases f with
    | @turn _ ρ1 _ _ _ ex ff => exact .inr ⟨go, fun σ3 H3 => ∃ N3, Same N1 N3 ∧ Rep X.K H0 ρ1 σ3 H3 N3, again ρ1 ff, base (.nx ρ1) _ ex fun N3 q3 σ3 H3 N4 q4 r4 => ⟨N4, q3.trans q4, r4⟩⟩
    | @turnC _ ρ1 _ _ _ ex ff => exact .inr ⟨go, fun σ3 H3 => ∃ N3, Same N1 N3 ∧ Rep X.K H0 ρ1 σ3 H3 N3, again ρ1 ff, base (.ct ρ1) _ ex fun N3 q3 σ3 H3 N4 q4 r4 => ⟨N4, q3.trans q4, r4⟩⟩
    | @brk _ ρ1 _ _ ex => exact .inr ⟨go, fun _ _ => False, fun _ _ z => z.elim, base (.bk ρ1) _ ex fun N3 q3 σ3 H3 N4 q4 r4 => k σ3 H3 N4 ((n1.trans q3).trans q4) r4⟩
    | ret ex => exact .inr ⟨go, fun _ _ => False, fun _ _ z => z.elim, base _ _ ex fun N3 q3 => k⟩
    | @exc _ ρ1 _ _ n ex => exact .inr ⟨go, fun _ _ => False, fun _ _ z => z.elim, base (.ex n ρ1) _ ex fun N3 q3 => Cont.mono (o := .ex n ρ1) k (n1.trans q3)⟩
  · have e1 : i = ds.length := by omega
    subst e1
    rw [List.drop_length] at f
    cases f
    exact .inl ⟨wst rfl, k σ' H' N' (n1.trans s') r'⟩
end
end B

namespace B
open PySem PySem.Spec PyProof.Rows L2

/-! ### what a def does: R of the data handed in and of its end -/
inductive Res where
  | val (d : Dat)
  /-- a new list or dict, the caller's own -/
  | own (d : Dat)
  | exc (n : Str)
def spR (K : PySem.W.Frag) (mg : Str → Option Value) (R : List Dat → Res → Prop) : Sp := fun vs H Q E => ∃ ds o, R ds o ∧ Ats K H vs ds ∧ match o with
  | .val d => ∀ v H', Same H H' → Ret K H v d H' → Q v H'
  | .own d => ∀ p H' N, Same H H' → Same N H' → (∀ a u, N a = some u → Mut (some u) → H a = none) → H p = none → N p = none → Own K H' N p d → Q (.ref p) H'
  | .exc n => ∀ C H', mg n = some (.ref C) → Same H H' → E (.ref C) none H'
def GFn (P : Program) (w : World) (K : PySem.W.Frag) (mg : Str → Option Value) (base : Heap) (x : Str) (k : Nat) (R : List Dat → Res → Prop) : Prop :=
  ∃ f fd ps, FnOk P w K mg base (L2.CX P w) k f fd ps (spR K mg R) ∧ mg x = some (.ref f) ∧ PySem.W.keepIn K (.ref f) = true ∧ Binds K fd ps []
/-- a def of the text as it stands behind the top -/
def Df (K : PySem.W.Frag) (mg : Str → Option Value) (x : Str) (st : Stmt) (ps : List Str) : Prop := ∃ f fd, Fun K x x st f fd ∧ mg x = some (.ref f) ∧ Binds K fd ps []

inductive Ents : List Ent → List Dat → Prop where
  | nil : Ents [] []
  | im {d : Dat} {es : List Ent} {ds : List Dat} (f : flat d = true) : Ents es ds → Ents (.im d :: es) (d :: ds)
  | ol {d : Dat} {es : List Ent} {ds : List Dat} : Ents es ds → Ents (.ol d :: es) (d :: ds)
/-- a block's end as a def's -/
def Outc.ok : Outc → Res → Prop
  | .nx _, .val .non => True
  | .rt d, .val e => d = e
  | .ex n _, .exc m => n = m
  | _, _ => False
theorem Ents.get {K : PySem.W.Frag} {H : Hp} : ∀ {es : List Ent} {ds : List Dat} {vs : List V}, Ents es ds → Ats K H vs ds → ∀ i : Nat, (es[i]? = none ∧ vs[i]? = none) ∨ ∃ v, vs[i]? = some v ∧ ((∃ d, es[i]? = some (Ent.im d) ∧ At K (Imm H) v d) ∨ ∃ d, es[i]? = some (Ent.ol d) ∧ At K H v d)
  | _, _, _, .nil, .nil, i => .inl ⟨by simp, by simp⟩
  | _, _, _, .im f _, .cons a _, 0 => .inr ⟨_, rfl, .inl ⟨_, rfl, a.imm f⟩⟩
  | _, _, _, .ol _, .cons a _, 0 => .inr ⟨_, rfl, .inr ⟨_, rfl, a⟩⟩
  | _, _, _, .im _ t, .cons _ b, i + 1 => by simpa using Ents.get t b i
  | _, _, _, .ol t, .cons _ b, i + 1 => by simpa using Ents.get t b i
theorem Ents.length : ∀ {es : List Ent} {ds : List Dat}, Ents es ds → es.length = ds.length
  | _, _, .nil => rfl
  | _, _, .im _ t => congrArg (· + 1) (Ents.length t)
  | _, _, .ol t => congrArg (· + 1) (Ents.length t)
theorem rep_start {K : PySem.W.Frag} {H : Hp} {es : List Ent} {ds : List Dat} {vs : List V} {N : List Str} (e : Ents es ds) (a : Ats K H vs ds) : Rep K H (es ++ List.replicate (N.length - vs.length) .no) (L2.start N vs) H (Imm H) := by
  have hl : es.length = vs.length := by rw [e.length, a.length]
  have geE : ∀ (i : Nat) x, (es ++ List.replicate (N.length - vs.length) Ent.no)[i]? = some x → x ≠ .no → es[i]? = some x := fun i x h n => by
    by_cases hi : i < es.length
    · rw [List.getElem?_append_left hi] at h; exact h
    · rw [List.getElem?_append_right (by omega), List.getElem?_replicate] at h
      split at h
      · cases h; exact (n rfl).elim
      · cases h
  have geV : ∀ (i : Nat) v, vs[i]? = some v → (L2.start N vs)[i]? = some (some v) := fun i v h => by
    unfold L2.start
    rw [List.getElem?_append_left (by rw [List.length_map]; exact (List.getElem?_eq_some_iff.mp h).1), List.getElem?_map, h]
    rfl
  refine ⟨Same.refl _, imm_sub H, Same.refl _, fun b u h m => (imm_not h m).elim, ?_, fun i d h => ?_, fun i d h => ?_, fun i d h => ?_, fun i d h => ?_, fun i j d d' p ne h => ?_⟩
  · unfold L2.start
    simp [hl]
  · have h1 := geE i _ h (fun z => nomatch z)
    rcases e.get a i with ⟨h2, _⟩ | ⟨v, hv, ⟨d', h2, q⟩ | ⟨d', h2, q⟩⟩
    · rw [h1] at h2; cases h2
    · rw [h1] at h2; cases h2; exact ⟨v, geV i v hv, q⟩
    · rw [h1] at h2; cases h2
  · have h1 := geE i _ h (fun z => nomatch z)
    rcases e.get a i with ⟨h2, _⟩ | ⟨v, hv, ⟨d', h2, q⟩ | ⟨d', h2, q⟩⟩
    · rw [h1] at h2; cases h2
    · rw [h1] at h2; cases h2
    · rw [h1] at h2; cases h2; exact ⟨v, geV i v hv, q⟩
  · have h1 := geE i _ h (fun z => nomatch z)
    rcases e.get a i with ⟨h2, _⟩ | ⟨v, hv, ⟨d', h2, q⟩ | ⟨d', h2, q⟩⟩ <;> (rw [h1] at h2; cases h2)
  · have h1 := geE i _ h (fun z => nomatch z)
    rcases e.get a i with ⟨h2, _⟩ | ⟨v, hv, ⟨d', h2, q⟩ | ⟨d', h2, q⟩⟩ <;> (rw [h1] at h2; cases h2)
  · have h1 := geE i _ h (fun z => nomatch z)
    rcases e.get a i with ⟨h2, _⟩ | ⟨v, hv, ⟨d', h2, q⟩ | ⟨d', h2, q⟩⟩ <;> (rw [h1] at h2; cases h2)
/-- the context of a def's body -/
abbrev XX (P : Program) (w : World) (K : PySem.W.Frag) (mg : Str → Option Value) (base : Heap) (N : List Str) (x : Str) (st : Stmt) (f : Addr) (cdv : Value) (A : Around) (outer : List PySem.Env) (s : Shared) (H : Hp) (E : XK) : Cx :=
  cxOf (L2.CX P w) P w K mg base N x (defScope st) f cdv A outer s H E
/-- a block's end as it is asked of a def's body -/
inductive Ends' (X : Cx) (H0 : Hp) (ρ : Env') (body : List Stmt) : Res → Prop where
  | ret {d : Dat} : Exec X H0 ρ body (.rt d) → Ends' X H0 ρ body (.val d)
  | non {ρ1 : Env'} : Exec X H0 ρ body (.nx ρ1) → Ends' X H0 ρ body (.val .non)
  | exc {ρ1 : Env'} {n : Str} : Exec X H0 ρ body (.ex n ρ1) → Ends' X H0 ρ body (.exc n)
/-- an owned thing is handed out -/
def ExecO (X : Cx) (H0 : Hp) (ρ : Env') (sts : List Stmt) (d : Dat) : Prop := ∀ D σ H N, Rep X.K H0 ρ σ H N → (∀ p H' N', Same H0 H' → Same N' H' → (∀ a u, N' a = some u → Mut (some u) → H0 a = none) → H0 p = none → N' p = none → Own X.K H' N' p d → D.rt (.ref p) H') → WB X sts D σ H
section
variable {P : Program} {w : World} {K : PySem.W.Frag} {mg : Str → Option Value} {base : Heap} {x : Str} {st : Stmt} {ps N : List Str} {k : Nat} {R : List Dat → Res → Prop}
/-- THE RULE for a def -/
theorem GFn.mk (D : Df K mg x st ps) (S : FnScope N ps (defScope st)) (hl : ∀ ds o, R ds o → ds.length = ps.length)
    (body : ∀ (f : Addr) (cdv : Value) (A : Around) (outer : List PySem.Env) (s : Shared) (H : Hp) (E : XK), Room k (XX P w K mg base N x st f cdv A outer s H E).A → ∀ ds o, R ds o → ∃ es, Ents es ds ∧ ∀ H0, match o with
      | .own d => ExecO (XX P w K mg base N x st f cdv A outer s H E) H0 (es ++ List.replicate (N.length - ps.length) .no) (defBody st) d
      | o => Ends' (XX P w K mg base N x st f cdv A outer s H E) H0 (es ++ List.replicate (N.length - ps.length) .no) (defBody st) o) : GFn P w K mg base x (k + 1) R := by
  obtain ⟨f, fd, F, hm, hb⟩ := D
  refine ⟨f, fd, ps, ?_, hm, F.kp, hb⟩
  refine F.okX S (fun vs H Q E ⟨ds, o, hr, a, _⟩ => by rw [a.length]; exact hl ds o hr) fun cdv A outer s H vs Q E hr hsp => ?_
  obtain ⟨ds, o, hR, a, q⟩ := hsp
  obtain ⟨es, he, hbody⟩ := body f cdv A outer s H E hr ds o hR
  have hlen : vs.length = ps.length := by rw [a.length]; exact hl ds o hR
  have r : Rep K H (es ++ List.replicate (N.length - ps.length) .no) (L2.start N vs) H (Imm H) := hlen ▸ rep_start he a
  have hb := hbody H
  refine ⟨_, pb_w, ?_⟩
  cases o with
  | val d =>
    cases hb with
    | ret h => exact h { nx := fun _ H' => Q .non H', rt := Q } _ _ _ r fun v H' s rt => q v H' s rt
    | non h => exact h { nx := fun _ H' => Q .non H', rt := Q } _ _ _ r fun σ H' N' s r' => q .non H' r'.old ⟨N', r'.sub, r'.fresh, .non⟩
  | own d => exact hb { nx := fun _ H' => Q .non H', rt := Q } _ _ _ r fun p H' N' s1 s2 s3 s4 s5 s6 => q p H' N' s1 s2 s3 s4 s5 s6
  | exc n =>
    cases hb with
    | exc h => exact h { nx := fun _ H' => Q .non H', rt := Q } _ _ _ r ⟨_, takes_of rfl rfl rfl rfl, fun C σ H' N' hm s r' => q C H' hm r'.old⟩
end
section
variable {X : Cx} {H0 : Hp} {ρ ρ1 ρ2 : Env'} {a b c e : Expr} {es : List Expr} {st : Stmt} {sts rest : List Stmt} {d d1 d2 : Dat} {ds : List Dat} {p pos : Pos} {o o1 : Outc} {x n : Str} {k k' : Nat} {R : List Dat → Res → Prop}
theorem xo_cons (h : ExS X H0 ρ st (.nx ρ1)) (t : ExecO X H0 ρ1 rest d) : ExecO X H0 ρ (st :: rest) d := fun D σ H N r q => by
  refine wb_of (pss_cons ps_w pb_w) ?_
  show WS X st { D with nx := WB X rest D } σ H
  exact h _ σ H N r fun σ' H' N' s r' => t D σ' H' N' r' q
theorem xo_ret (h : EvO X H0 ρ e d) : ExecO X H0 ρ [.Return (some e) pos] d := fun D σ H N r q => wb_of (pss_one (ps_ret pe_w)) ((h σ H N r).imp fun v H' ⟨N', p, e1, hp, s, n, r', np, ow⟩ => by
  subst e1
  exact q p H' N' r'.old r'.sub r'.fresh (r.old.free hp) np ow)
theorem xo_own (i : Nat) (h : ρ[i]? = some (.ow d)) (hN : X.N[i]? = some x := by rfl) (hv : Vis X.env.scope x := by first | exact Or.inl rfl | exact Or.inr (Or.inl rfl) | exact Or.inr (Or.inr rfl)) (hd : (x == ("__debug__" : Str)) = false := by decide)
    (hcd : (x == ("__classdict__" : Str)) = false := by decide) {pos'} : ExecO X H0 ρ [.Return (some (.Name x pos')) pos] d := fun D σ H N r q => wb_of (pss_one (ps_ret (pv i hN hv hd hcd)))
  (let ⟨p, h1, h2, h3, h4⟩ := r.ow i d h; ⟨.ref p, h1, q p H N r.old r.sub r.fresh h2 h3 h4⟩)

/-! ### calls of the text's defs -/
theorem GFn.mono {P : Program} {w : World} {K : PySem.W.Frag} {mg : Str → Option Value} {base : Heap} (G : GFn P w K mg base x k R) (h : k ≤ k') : GFn P w K mg base x k' R := by
  obtain ⟨f, fd, ps, F, r⟩ := G
  exact ⟨f, fd, ps, F.mono h, r⟩
theorem ev_call (G : GFn X.prog X.w X.K X.mg X.base x k R) (hr : Room k X.A) (ha : EvAB X H0 ρ (e :: es) ds) (q : R ds (.val d)) (hg : Gl X x := by rfl) (hdb : (x == ("__debug__" : Str)) = false := by decide)
    (he : starEach (e :: es) X.env = (false, eval e X.env) :: starEach es X.env := by rfl) (hpl : (backTo pos (starEach es X.env)).any (·.1) = false := by rfl) : Ev X H0 ρ (.Call (.Name x p) (e :: es) [] pos) d := fun σ H N r => by
  obtain ⟨f, fd, ps, F, hm, hk, hb⟩ := G
  refine we_of (pe_call F hr hg hm hk hb .nil passL pa_w hdb he hpl) ((ha σ H N r).imp fun vs H1 ⟨N1, s1, n1, r1, a1⟩ => ⟨ds, .val d, q, by rw [List.append_nil]; exact a1, fun v H' s' rt => ?_⟩)
  obtain ⟨N2, n2, r2, a2⟩ := r1.ret s' rt
  exact ⟨N2, s1.trans s', n1.trans n2, r2, a2⟩
theorem ev_call0 (G : GFn X.prog X.w X.K X.mg X.base x k R) (hr : Room k X.A) (q : R [] (.val d)) (hg : Gl X x := by rfl) (hdb : (x == ("__debug__" : Str)) = false := by decide) : Ev X H0 ρ (.Call (.Name x p) [] [] pos) d := fun σ H N r => by
  obtain ⟨f, fd, ps, F, hm, hk, hb⟩ := G
  refine we_of (pe_call0 F hr hg hm hk hb .nil passL hdb) ⟨[], .val d, q, .nil, fun v H' s' rt => ?_⟩
  obtain ⟨N2, n2, r2, a2⟩ := r.ret s' rt
  exact ⟨N2, s', n2, r2, a2⟩
theorem eo_call (G : GFn X.prog X.w X.K X.mg X.base x k R) (hr : Room k X.A) (ha : EvAB X H0 ρ (e :: es) ds) (q : R ds (.own d)) (hg : Gl X x := by rfl) (hdb : (x == ("__debug__" : Str)) = false := by decide)
    (he : starEach (e :: es) X.env = (false, eval e X.env) :: starEach es X.env := by rfl) (hpl : (backTo pos (starEach es X.env)).any (·.1) = false := by rfl) : EvO X H0 ρ (.Call (.Name x p) (e :: es) [] pos) d := fun σ H N r => by
  obtain ⟨f, fd, ps, F, hm, hk, hb⟩ := G
  refine we_of (pe_call F hr hg hm hk hb .nil passL pa_w hdb he hpl) ((ha σ H N r).imp fun vs H1 ⟨N1, s1, n1, r1, a1⟩ => ⟨ds, .own d, q, by rw [List.append_nil]; exact a1, fun p H' M s' m1 m2 m3 m4 ow => ?_⟩)
  have mN : N1 p = none := r1.sub.free m3
  have r1' := r1.grow s'
  have bp : both N1 M p = none := by unfold both; rw [if_pos mN]; exact m4
  refine ⟨both N1 M, p, rfl, s1.free m3, s1.trans s', n1.trans (both_l _ _), r1'.more (both_l N1 M) (both_sub r1'.sub m1) (fun a o h m => ?_) (fun i d q h1 h2 h3 => ?_), bp, ?_⟩
  · unfold both at h
    split at h
    · exact r1.old.free (m2 a o h m)
    · exact r1.fresh a o h m
  · unfold both
    rw [if_pos h3]
    obtain ⟨p', o', e1, e2, m⟩ := r1.own_some h1
    rw [h2] at e1
    cases e1
    cases z : M q with
    | none => rfl
    | some u =>
      have e3 := m1 q u z
      rw [s' _ _ e2] at e3
      cases e3
      have := m2 q _ z m
      rw [e2] at this
      cases this
  · cases d with
    | lst ds => obtain ⟨vs, q1, q2⟩ := ow; exact ⟨vs, q1, q2.mono (both_r r1'.sub m1)⟩
    | dic ds => obtain ⟨vs, q1, q2⟩ := ow; exact ⟨vs, q1, q2.mono (both_r r1'.sub m1)⟩
    | _ => exact ow
theorem exc_call (G : GFn X.prog X.w X.K X.mg X.base x k R) (hr : Room k X.A) (ha : EvAB X H0 ρ (e :: es) ds) (q : R ds (.exc n)) (hg : Gl X x := by rfl) (hdb : (x == ("__debug__" : Str)) = false := by decide)
    (he : starEach (e :: es) X.env = (false, eval e X.env) :: starEach es X.env := by rfl) (hpl : (backTo pos (starEach es X.env)).any (·.1) = false := by rfl) : EvX X H0 ρ (.Call (.Name x p) (e :: es) [] pos) n := fun σ H N r W tk kw Q => by
  obtain ⟨f, fd, ps, F, hm, hk, hb⟩ := G
  refine we_of (pe_callS F hr hg hm hk hb (fun σ => passAt tk σ) pa_w hdb he hpl) ((ha σ H N r).imp fun vs H1 ⟨N1, s1, n1, r1, a1⟩ => ⟨ds, .exc n, q, a1, fun C H' hC s' => ?_⟩)
  exact kw C H' N1 hC n1 (r1.grow s')
/-! .. that raise -/
theorem sx_retX (h : EvX X H0 ρ e n) : ExS X H0 ρ (.Return (some e) pos) (.ex n ρ) := fun D σ H N r ⟨W, tk, q⟩ => ws_of (ps_ret pe_w) (h σ H N r W tk (fun C H' N' hC s r' => q C σ H' N' hC s r') _)
theorem sx_exprX (h : EvX X H0 ρ e n) (hs : swapsWith e none pos.line X.env = pure false := by rfl) : ExS X H0 ρ (.Expr e pos) (.ex n ρ) := fun D σ H N r ⟨W, tk, q⟩ => ws_of (ps_expr pe_w hs) (h σ H N r W tk (fun C H' N' hC s r' => q C σ H' N' hC s r') _)
theorem sx_setX {i : Nat} {x : Str} {pos' : Pos} (h : EvX X H0 ρ e n) (nd : X.N.Nodup) (hi : X.N[i]? = some x := by rfl) (hx : Loc X.env.scope x := by first | exact Or.inl rfl | exact Or.inr rfl)
    (hs : swapsWith e (some (.Name x pos')) pos.line X.env = pure false := by rfl) (hf : X.fn x = true ∨ X.env.scope.names.lookup x = some .local := by first | exact .inl rfl | exact .inr rfl | assumption) : ExS X H0 ρ (.Assign [.Name x pos'] e pos) (.ex n ρ) := fun D σ H N r ⟨W, tk, q⟩ =>
  ws_of (ps_set nd hi hx pe_w hs hf) (h σ H N r W tk (fun C H' N' hC s r' => q C σ H' N' hC s r') _)
theorem sx_asgX {t : Expr} {ok : Dat → Prop} {bd : Dat → Env' → Env'} (h : EvX X H0 ρ e n) (hg : Tgt X H0 t ok bd) (hs : swapsWithSole [t] e pos.line X.env = pure false := by rfl) (hw : swappedStores [t] e X.env = pure none := by rfl)
    (h1 : (assignEach [t] X.env).map (·.2) = [assign t X.env] := by rfl) : ExS X H0 ρ (.Assign [t] e pos) (.ex n ρ) := fun D σ H N r ⟨W, tk, q⟩ => by
  obtain ⟨g, pg, _⟩ := hg.pg
  exact ws_of (ps_asg pe_w pg hs hw h1) (h σ H N r W tk (fun C H' N' hC s r' => q C σ H' N' hC s r') _)
theorem sx_asg {t : Expr} {ok : Dat → Prop} {bd : Dat → Env' → Env'} (h : Ev X H0 ρ e d) (hg : Tgt X H0 t ok bd) (hk : ok d) (hρ : bd d ρ = ρ1 := by rfl) (hs : swapsWithSole [t] e pos.line X.env = pure false := by rfl) (hw : swappedStores [t] e X.env = pure none := by rfl)
    (h1 : (assignEach [t] X.env).map (·.2) = [assign t X.env] := by rfl) : ExS X H0 ρ (.Assign [t] e pos) (.nx ρ1) := fun D σ H N r q => by
  obtain ⟨g, pg, gg⟩ := hg.pg
  exact ws_of (ps_asg pe_w pg hs hw h1) ((h σ H N r).imp fun v H' ⟨N', s, n, r', a⟩ => gg ρ σ H' N' v d r' a hk _ fun σ2 H2 N2 n2 r2 => q σ2 H2 N2 (n.trans n2) (hρ ▸ r2))
/-- (a, b) = a pair -/
theorem tg_pair (i j : Nat) {y z : Str} {p1 p2 : Pos} {kk : Nat} (nd : X.N.Nodup) (hc : X.calm = true) (hi : X.N[i]? = some y := by rfl) (hj : X.N[j]? = some z := by rfl) (hx : Loc X.env.scope y := by first | exact Or.inl rfl | exact Or.inr rfl) (hx2 : Loc X.env.scope z := by first | exact Or.inl rfl | exact Or.inr rfl)
    (hf : X.fn y = true ∨ X.env.scope.names.lookup y = some .local := by first | exact .inl rfl | exact .inr rfl | assumption) (hf2 : X.fn z = true ∨ X.env.scope.names.lookup z = some .local := by first | exact .inl rfl | exact .inr rfl | assumption)
    (hn : (assignEach [Expr.Name y p1, .Name z p2] X.env).length = 2 := by rfl) (hst : (assignEach [Expr.Name y p1, .Name z p2] X.env).findIdx? (·.1) = none := by rfl)
    (h1 : (assignEach [Expr.Name y p1, .Name z p2] X.env).map (·.2) = assign (.Name y p1) X.env :: (assignEach [Expr.Name z p2] X.env).map (·.2) := by rfl) (h2 : (assignEach [Expr.Name z p2] X.env).map (·.2) = assign (.Name z p2) X.env :: (assignEach [] X.env).map (·.2) := by rfl) :
    Tgt X H0 (.Tuple [.Name y p1, .Name z p2] kk pos) (fun d => ∃ a b, d = .tup [a, b]) (fun d ρ => match d with | .tup [a, b] => (ρ.set i (.im a)).set j (.im b) | _ => ρ) := by
  refine ⟨_, pg_tup hc (pgs_cons (pg_name nd hi hx hf) (pgs_cons (pg_name nd hj hx2 hf2) pgs_nil h2) h1) hn hst, fun ρ σ H N v d r a ok Q k => ?_⟩
  obtain ⟨d1, d2, rfl⟩ := ok
  obtain ⟨p, vs, rfl, q1, q2⟩ := at_seq a
  cases q2 with
  | cons a1 t =>
    cases t with
    | cons a2 t2 =>
      cases t2
      exact ⟨p, _, rfl, sqt_same r.sub q1, rfl, _, _, rfl, _, _, rfl, rfl, k _ H N (Same.refl _) ((r.setE (e := .im d1) a1).setE (e := .im d2) a2)⟩
/-- a, b = x, y -/
theorem sx_par (i j : Nat) {y z : Str} {px py pt : Pos} {kt k2 pt2} (ha : Ev X H0 ρ a d1) (hb : Ev X H0 ρ b d2) (nd : X.N.Nodup) (hc : X.calm = true) (hij : i ≠ j) (hρ : (ρ.set i (.im d1)).set j (.im d2) = ρ1 := by rfl) (hi : X.N[i]? = some y := by rfl) (hj : X.N[j]? = some z := by rfl)
    (hx : X.env.scope.names.lookup y = some .local := by rfl) (hy : X.env.scope.names.lookup z = some .local := by rfl) (hw : swappedStores [.Tuple [.Name y px, .Name z py] kt pt] (.Tuple [a, b] k2 pt2) X.env = pure (some [y, z]) := by rfl)
    (hs : swapsWithSole [.Tuple [.Name y px, .Name z py] kt pt] (.Tuple [a, b] k2 pt2) pos.line X.env = pure false := by rfl) (h1 : starEach [a, b] X.env = (false, eval a X.env) :: starEach [b] X.env := by rfl) (h2 : starEach [b] X.env = (false, eval b X.env) :: starEach [] X.env := by rfl) :
    ExS X H0 ρ (.Assign [.Tuple [.Name y px, .Name z py] kt pt] (.Tuple [a, b] k2 pt2) pos) (.nx ρ1) := fun D σ H N r q =>
  ws_of (ps_par hc nd hi hj hij hx hy pa_w hw hs) ((ea_cons ha (ea_cons hb ea_nil (hs := h2)) (hs := h1) σ H N r).imp fun vs H' ⟨N', s, n, r', a⟩ => by
    cases a with
    | cons a1 t =>
      cases t with
      | cons a2 t2 =>
        cases t2
        exact ⟨_, _, rfl, q _ H' N' n (hρ ▸ (r'.setE (e := .im d1) a1).setE (e := .im d2) a2)⟩)

/-! ### calls of built-ins -/
theorem ev_blt {r : List V → Hp → VK → Prop} {id : String} (cr : CallR X (.builtin id) r) (hm : X.mg x = none) (hv : bootBuiltins x = some (.builtin id)) (ha : EvAB X H0 ρ (e :: es) ds)
    (hr : ∀ vs σ H N Q, Rep X.K H0 ρ σ H N → Ats X.K H vs ds → Goes X.K H0 ρ σ H N d Q → r vs H Q) (hg : Gl X x := by rfl) (hn : x ≠ "__name__" := by decide) (hdb : (x == ("__debug__" : Str)) = false := by decide)
    (he : starEach (e :: es) X.env = (false, eval e X.env) :: starEach es X.env := by rfl) (hpl : (backTo pos (starEach es X.env)).any (·.1) = false := by rfl) : Ev X H0 ρ (.Call (.Name x p) (e :: es) [] pos) d := fun σ H N rp =>
  we_of (pe_callB cr hg hm hv pa_w hn hdb he hpl) ((ha σ H N rp).imp fun vs H1 ⟨N1, s1, n1, r1, a1⟩ => hr vs σ H1 N1 _ r1 a1 fun v H' N' s n rr aa => ⟨N', s1.trans s, n1.trans n, rr, aa⟩)
theorem ev_ty {r : List V → Hp → VK → Prop} {T : String} (cr : CallR X (.type T) r) (hm : X.mg x = none) (hv : bootBuiltins x = some (.type T)) (ha : EvAB X H0 ρ (e :: es) ds)
    (hr : ∀ vs σ H N Q, Rep X.K H0 ρ σ H N → Ats X.K H vs ds → Goes X.K H0 ρ σ H N d Q → r vs H Q) (hg : Gl X x := by rfl) (hn : x ≠ "__name__" := by decide) (hdb : (x == ("__debug__" : Str)) = false := by decide)
    (he : starEach (e :: es) X.env = (false, eval e X.env) :: starEach es X.env := by rfl) (hpl : (backTo pos (starEach es X.env)).any (·.1) = false := by rfl) : Ev X H0 ρ (.Call (.Name x p) (e :: es) [] pos) d := fun σ H N rp =>
  we_of (pe_callTy cr hg hm hv pa_w hn hdb he hpl) ((ha σ H N rp).imp fun vs H1 ⟨N1, s1, n1, r1, a1⟩ => hr vs σ H1 N1 _ r1 a1 fun v H' N' s n rr aa => ⟨N', s1.trans s, n1.trans n, rr, aa⟩)
def dlen : Dat → Option Nat
  | .str z => if z.length ≤ sizeLine then some z.length else none
  | .tup ds => some ds.length
  | .lst ds => some ds.length
  | _ => none
theorem at_len {K : PySem.W.Frag} {H : Hp} {v : V} {m : Nat} (h : At K H v d) (e : dlen d = some m) : LenV K v H m := by
  cases h with
  | str z =>
    by_cases hz : z.length ≤ sizeLine
    · rw [show dlen (.str z) = some z.length from if_pos hz] at e
      cases e
      exact ⟨hz, rfl⟩
    · rw [show dlen (.str z) = none from if_neg hz] at e
      cases e
  | tup a b => cases e; exact .inr ⟨_, a, b.length.symm⟩
  | lst a b => cases e; exact .inl ⟨_, a, b.length.symm⟩
  | _ => cases e
section one
variable {hs : starEach [a] X.env = (false, eval a X.env) :: starEach [] X.env}
theorem eab1 (h : EvB X H0 ρ a d) (hs : starEach [a] X.env = (false, eval a X.env) :: starEach [] X.env) : EvAB X H0 ρ [a] [d] := eab_cons h eab_nil hs
end one
theorem ats_one {K : PySem.W.Frag} {H : Hp} {vs : List V} (h : Ats K H vs [d]) : ∃ v, vs = [v] ∧ At K H v d := by
  cases h with | cons a t => cases t; exact ⟨_, rfl, a⟩
theorem ats_two {K : PySem.W.Frag} {H : Hp} {vs : List V} (h : Ats K H vs [d1, d2]) : ∃ v w, vs = [v, w] ∧ At K H v d1 ∧ At K H w d2 := by
  cases h with | cons a t => cases t with | cons b t2 => cases t2; exact ⟨_, _, rfl, a, b⟩
theorem ev_len {m : Nat} (ha : EvB X H0 ρ a d) (e : dlen d = some m) (hm : X.mg "len" = none) (hg : Gl X "len" := by rfl) (he : starEach [a] X.env = (false, eval a X.env) :: starEach [] X.env := by rfl) (hpl : (backTo pos (starEach [] X.env)).any (·.1) = false := by rfl) : Ev X H0 ρ (.Call (.Name "len" p) [a] [] pos) (.int m) :=
  ev_blt call_len hm PySem.boot_len (eab1 ha he) (fun vs σ H N Q r q g => let ⟨v, e1, e2⟩ := ats_one q; ⟨v, m, e1, at_len e2 e, goes_self g r (.int _)⟩) hg (by decide) (by decide) he hpl
theorem abs_eq (i : Int) : (if i < 0 then -i else i) = ((i.natAbs : Nat) : Int) := by split <;> omega
theorem ev_abs {i : Int} (ha : Ev X H0 ρ a (.int i)) (hm : X.mg "abs" = none) (hg : Gl X "abs" := by rfl) (he : starEach [a] X.env = (false, eval a X.env) :: starEach [] X.env := by rfl) (hpl : (backTo pos (starEach [] X.env)).any (·.1) = false := by rfl) : Ev X H0 ρ (.Call (.Name "abs" p) [a] [] pos) (.int ((i.natAbs : Nat) : Int)) :=
  ev_blt call_abs hm (by decide +kernel) (eab1 ha.toB he) (fun vs σ H N Q r q g => ⟨i, ats1 q, by rw [abs_eq]; exact goes_self g r (.int _)⟩) hg (by decide) (by decide) he hpl
theorem ev_min2 {i j : Int} (ha : Ev X H0 ρ a (.int i)) (hb : Ev X H0 ρ b (.int j)) (hc : X.calm = true) (hm : X.mg "min" = none) (hg : Gl X "min" := by rfl) (he : starEach [a, b] X.env = (false, eval a X.env) :: starEach [b] X.env := by rfl) (he2 : starEach [b] X.env = (false, eval b X.env) :: starEach [] X.env := by rfl) (hpl : (backTo pos (starEach [b] X.env)).any (·.1) = false := by rfl) :
    Ev X H0 ρ (.Call (.Name "min" p) [a, b] [] pos) (.int (min i j)) := ev_blt (call_min2 hc) hm (by decide +kernel) (eab_cons ha.toB (eab_cons hb.toB eab_nil he2) he) (fun vs σ H N Q r q g => ⟨i, j, ats2 q, by rw [show (if j < i then j else i) = min i j by omega]; exact goes_self g r (.int _)⟩) hg (by decide) (by decide) he hpl
theorem ev_max2 {i j : Int} (ha : Ev X H0 ρ a (.int i)) (hb : Ev X H0 ρ b (.int j)) (hc : X.calm = true) (hm : X.mg "max" = none) (hg : Gl X "max" := by rfl) (he : starEach [a, b] X.env = (false, eval a X.env) :: starEach [b] X.env := by rfl) (he2 : starEach [b] X.env = (false, eval b X.env) :: starEach [] X.env := by rfl) (hpl : (backTo pos (starEach [b] X.env)).any (·.1) = false := by rfl) :
    Ev X H0 ρ (.Call (.Name "max" p) [a, b] [] pos) (.int (max i j)) := ev_blt (call_max2 hc) hm (by decide +kernel) (eab_cons ha.toB (eab_cons hb.toB eab_nil he2) he) (fun vs σ H N Q r q g => ⟨i, j, ats2 q, by rw [show (if j > i then j else i) = max i j by omega]; exact goes_self g r (.int _)⟩) hg (by decide) (by decide) he hpl
/-! isinstance -/
def tyName : Dat → String
  | .non => "NoneType" | .bl _ => "bool" | .int _ => "int" | .str _ => "str" | .tup _ => "tuple" | .lst _ => "list" | .dic _ => "dict"
theorem at_ty {K : PySem.W.Frag} {H : Hp} {v : V} (h : At K H v d) : TyX K H v (.type (tyName d)) := by
  cases h with
  | non => exact .base .non
  | bl b => exact .base (.bl b)
  | int b => exact .base (.int b)
  | str b => exact .base (.str b)
  | tup h _ =>
    rcases h with (h | ⟨o, h⟩) | ⟨o, its, n, h, hc, _⟩
    · exact .base (.tup h)
    · exact .fTuple h
    · exact .kTuple h hc
  | lst h _ =>
    rcases h with (h | ⟨o, h⟩) | ⟨o, its, n, h, hc, _⟩
    · exact .base (.lst h)
    · exact .base (.frz h)
    · exact .kList h hc
  | dic h _ =>
    rcases h with h | ⟨o, h⟩
    · exact .base (.dK h)
    · exact .fDict h
theorem ev_isi {T : String} {y : Str} {p2 : Pos} {k : Bool} (ha : EvB X H0 ρ a d) (e : kitB (tyName d) T = some k) (hm : X.mg "isinstance" = none) (hmT : X.mg y = none) (hv : bootBuiltins y = some (.type T) := by decide +kernel) (hg : Gl X "isinstance" := by rfl) (hgT : Gl X y := by rfl) (hn : y ≠ "__name__" := by decide) (hdb : (y == ("__debug__" : Str)) = false := by decide)
    (he : starEach [a, .Name y p2] X.env = (false, eval a X.env) :: starEach [.Name y p2] X.env := by rfl) (he2 : starEach [.Name y p2] X.env = (false, eval (.Name y p2) X.env) :: starEach [] X.env := by rfl) (hpl : (backTo pos (starEach [.Name y p2] X.env)).any (·.1) = false := by rfl) :
    Ev X H0 ρ (.Call (.Name "isinstance" p) [a, .Name y p2] [] pos) (.bl k) := fun σ H N r =>
  we_of (pe_callB call_isi hg hm (by decide +kernel) (pa_cons pe_w (pa_cons (pe_bltn (v := .ty T) hgT hmT hv rfl hn hdb) pa_nil he2) he) (by decide) (by decide) he hpl)
    ((ha σ H N r).imp fun v H1 ⟨N1, s1, n1, r1, a1⟩ => ⟨v, .ty T, .type (tyName d), .type T, k, rfl, .ty T, at_ty a1, kit_ty e, N1, s1, n1, r1, .bl _⟩)
end
end B

namespace PySem.W
open PySem PySem.Spec PySem.Calls PyProof.Rows
end PySem.W
namespace B
open PySem PySem.Spec PyProof.Rows L2

/-! ### own exceptions: classes over ValueError, no __init__, made with a text -/
structure ExcAt (K : PySem.W.Frag) (mg : Str → Option Value) (n : Str) (C : Addr) : Prop where
  g : mg n = some (.ref C)
  x : PySem.W.excIn K C [.type "ValueError", .type "Exception", .type "BaseException", .type "object"] "ValueError.__new__" = true
  k : PySem.W.keepIn K (.ref C) = true
  b : PySem.W.subIn K (.ref C) (.type "BaseException") = some true
  t : PySem.W.typeIn K (.ref C) = some (.type "type")
def Exc (K : PySem.W.Frag) (mg : Str → Option Value) (n : Str) : Prop := ∃ C, ExcAt K mg n C
section
variable {X : Cx} {H0 : Hp} {ρ ρ1 ρ2 : Env'} {a b c e : Expr} {es : List Expr} {st : Stmt} {sts rest : List Stmt} {d d1 d2 : Dat} {ds : List Dat} {p pos : Pos} {o o1 : Outc} {x n : Str}
theorem sx_raise {m : Str} {j : Nat} {p p2 pos pos2 : Pos} (T : Exc X.K X.mg n) (hc : X.calm = true) (hg : Gl X n := by rfl) (hdb : (n == ("__debug__" : Str)) = false := by decide) : ExS X H0 ρ (.Raise (some (.Call (.Name n p) [.Constant (.str m) j p2] [] pos)) none pos2) (.ex n ρ) := fun D σ H N r ⟨W, tk, q⟩ => by
  obtain ⟨C, T⟩ := T
  exact ws_of (ps_raise hc tk (pmk_own PySem.F.excBase_ValueError T.x T.g T.k (raises_own T.b T.t) hg hdb)) (q C σ H N T.g (Same.refl _) r)
/-- the name of an except clause goes -/
theorem Rep.unset {K : PySem.W.Frag} {H0 H N : Hp} {ρ : Env'} {σ : L2.St} (r : Rep K H0 ρ σ H N) (i : Nat) : Rep K H0 (ρ.set i .no) (σ.set i none) H N := by
  have g : ∀ (j : Nat) (v : V), j ≠ i → σ[j]? = some (some v) → (σ.set i none)[j]? = some (some v) := fun j v n h => by rw [List.getElem?_set_ne (Ne.symm n)]; exact h
  have g' : ∀ (j : Nat) (v : V), (σ.set i none)[j]? = some (some v) → σ[j]? = some (some v) := fun j v h => by
    rcases get_set h with ⟨_, h'⟩ | ⟨_, h'⟩
    · cases h'
    · exact h'
  refine ⟨r.old, r.sub, r.imm, r.fresh, by rw [List.length_set, List.length_set, r.len], fun j d q => ?_, fun j d q => ?_, fun j d q => ?_, fun j d q => ?_, fun j k d d' p ne q1 q2 z1 z2 => ?_⟩
  · rcases get_set q with ⟨_, q'⟩ | ⟨n, q'⟩
    · cases q'
    · obtain ⟨v, h1, h2⟩ := r.im j d q'
      exact ⟨v, g j v n h1, h2⟩
  · rcases get_set q with ⟨_, q'⟩ | ⟨n, q'⟩
    · cases q'
    · obtain ⟨v, h1, h2⟩ := r.ol j d q'
      exact ⟨v, g j v n h1, h2⟩
  · rcases get_set q with ⟨_, q'⟩ | ⟨n, q'⟩
    · cases q'
    · obtain ⟨v, h1, h2⟩ := r.ow j d q'
      exact ⟨v, g j _ n h1, h2⟩
  · rcases get_set q with ⟨_, q'⟩ | ⟨n, q'⟩
    · cases q'
    · exact g j _ n (r.rf j d q')
  · rcases get_set q1 with ⟨_, q1'⟩ | ⟨n1, q1'⟩
    · cases q1'
    · rcases get_set q2 with ⟨_, q2'⟩ | ⟨n2, q2'⟩
      · cases q2'
      · exact r.apart j k d d' p ne q1' q2' (g' j _ z1) (g' k _ z2)
/-- behind the suite of «except .. as n» -/
def Outc.un (i : Nat) : Outc → Outc
  | .nx ρ => .nx (ρ.set i .no)
  | .rt d => .rt d
  | .ex n ρ => .ex n ρ
  | .bk ρ => .bk (ρ.set i .no)
  | .ct ρ => .ct (ρ.set i .no)
def Outc.noex : Outc → Prop
  | .ex _ _ => False
  | _ => True
/-- try: body, that raises m; except x as n: suite -/
theorem sx_try {m : Str} {i : Nat} {c : Value} {body suite : List Stmt} {b₀ : Stmt} {np pos pos' : Pos} (hs : X.stack = X.env :: X.outer) (hf : X.env.frame = some X.env.locals) (nd : X.N.Nodup) (hc : Names X x c) (he : ∀ C, X.mg m = some (.ref C) → PySem.W.exmOne X.K (.ref C) c = some true)
    (hb : ∀ (pn : List (Addr × Obj)) (xe : Value → Shared → Prop), PassesOwn (model X.prog X.w) X.A X.env xe → Exec (X.tr pn xe) H0 ρ body (.ex m ρ1))
    (hsu : ∀ (a C : Addr) (oe : Obj) (pn : List (Addr × Obj)), X.mg m = some (.ref C) → Zc (.ref C) none oe → (∃ vs, oe.data = .fields vs) → Exec (X.suite a ((a, oe) :: pn)) H0 (ρ1.set i (.rf a)) (b₀ :: suite) o)
    (ho : o.noex) (hi : X.N[i]? = some n := by rfl) (hln : X.env.kindOf n = some .local := by rfl) :
    ExS X H0 ρ (.Try body [.ExceptHandler (some (.Name x np)) (some n) (b₀ :: suite) pos'] [] [] pos) (o.un i) := fun D σ H N r k => by
  refine ws_of (ps_try_as (i := i) (c := c) (tb := fun W D σ H => ∀ pn xe, Takes (X.tr pn xe) W → PassesOwn (model X.prog X.w) X.A X.env xe → WB (X.tr pn xe) body D σ H)
    (ts := fun a cls d D σ H => ∀ oe pn, Zc cls d oe → (∃ vs, oe.data = .fields vs) → WB (X.suite a ((a, oe) :: pn)) (b₀ :: suite) D σ H) (Wout := fun _ _ _ _ => False) hs hf nd hi hln hc takes0 (fun W pn xe tk hp => ⟨fun pins s σ H D I h => h pn xe tk hp pins s I⟩) (fun a oe cls d pn hz hd => ⟨fun pins s σ H D I h => h oe pn hz hd pins s I⟩)) ?_
  intro pn xe tk hp
  refine hb pn xe hp _ σ H N r ⟨_, tk, fun C σ1 H1 N1 hC n1 r1 => ⟨true, he C hC, fun _ a ha oe pn' hz hd => ?_, fun z => nomatch z⟩⟩
  refine hsu a C oe pn' hC hz hd _ _ H1 N1 (r1.setE (v := .ref a) (e := .rf a) rfl) ?_
  cases o with
  | nx ρ2 => exact fun σ2 H2 N2 n2 r2 => k _ H2 N2 (n1.trans n2) (r2.unset i)
  | rt d => exact k
  | ex n ρ2 => exact ho.elim
  | bk ρ2 => exact fun σ2 H2 N2 n2 r2 => k _ H2 N2 (n1.trans n2) (r2.unset i)
  | ct ρ2 => exact fun σ2 H2 N2 n2 r2 => k _ H2 N2 (n1.trans n2) (r2.unset i)
/-- .. that raises nothing -/
theorem sx_tryN {i : Nat} {c : Value} {body suite : List Stmt} {b₀ : Stmt} {np pos pos' : Pos} (hs : X.stack = X.env :: X.outer) (hf : X.env.frame = some X.env.locals) (nd : X.N.Nodup) (hc : Names X x c)
    (hb : ∀ (pn : List (Addr × Obj)) (xe : Value → Shared → Prop), PassesOwn (model X.prog X.w) X.A X.env xe → Exec (X.tr pn xe) H0 ρ body o)
    (hsu : ∀ (a : Addr) (oe : Obj) (cls : Value) (d : Option Addr) (pn : List (Addr × Obj)), PSs (X.suite a ((a, oe) :: pn)) (b₀ :: suite) (WB (X.suite a ((a, oe) :: pn)) (b₀ :: suite)) := fun _ _ _ _ _ => pb_w)
    (ho : o.noex) (hi : X.N[i]? = some n := by rfl) (hln : X.env.kindOf n = some .local := by rfl) :
    ExS X H0 ρ (.Try body [.ExceptHandler (some (.Name x np)) (some n) (b₀ :: suite) pos'] [] [] pos) o := fun D σ H N r k => by
  refine ws_of (ps_try_as (i := i) (c := c) (tb := fun W D σ H => ∀ pn xe, Takes (X.tr pn xe) W → PassesOwn (model X.prog X.w) X.A X.env xe → WB (X.tr pn xe) body D σ H)
    (ts := fun a cls d D σ H => ∀ oe pn, Zc cls d oe → (∃ vs, oe.data = .fields vs) → WB (X.suite a ((a, oe) :: pn)) (b₀ :: suite) D σ H) (Wout := fun _ _ _ _ => False) hs hf nd hi hln hc takes0 (fun W pn xe tk hp => ⟨fun pins s σ H D I h => h pn xe tk hp pins s I⟩) (fun a oe cls d pn hz hd => ⟨fun pins s σ H D I h => h oe pn hz hd pins s I⟩)) ?_
  intro pn xe tk hp
  refine hb pn xe hp D σ H N r ?_
  cases o with
  | ex n ρ2 => exact ho.elim
  | nx ρ2 => exact k
  | rt d => exact k
  | bk ρ2 => exact k
  | ct ρ2 => exact k

/-! ### isinstance of the caught error -/
theorem call_isET {X : Cx} {a D : Addr} {oe : Obj} {pn : List (Addr × Obj)} (C : ExcC X.K D) (hz : Zc (.ref D) none oe) (hf : ∃ vs, oe.data = .fields vs) : CallR (X.suite a ((a, oe) :: pn)) (.builtin "isinstance")
    (fun xs H Q => ∃ (tp : Addr) (cs : List V) (us : List Value) (b : Bool), xs = [.ref a, .ref tp] ∧ H tp = some (.tup cs) ∧ Paired ClsV cs us ∧ PySem.W.kitAny X.K (.ref D) us = some b ∧ Q (.bl b) H) := by
  intro pins s σ H xs us Q I r h
  obtain ⟨tp, cs, ws, b, rfl, hT, k, e, q⟩ := h
  obtain ⟨u1, u2, rfl, r1, r2⟩ := vals2 r
  cases (show u1 = Value.ref a from r1)
  cases (show u2 = Value.ref tp from r2)
  obtain ⟨hget, _⟩ := I.pin (a, oe) (List.mem_append.mpr (.inl List.mem_cons_self))
  obtain ⟨vs, hv⟩ := hf
  have J : PySem.W.InstAt s.heap a oe D none := by
    obtain ⟨oc, od, oda, osl⟩ := oe
    obtain ⟨h1, h2⟩ := hz
    dsimp only at h1 h2 hv
    subst h1 h2 hv
    exact ⟨hget, rfl, rfl, trivial⟩
  obtain ⟨_, its, rv, o, h1, h2, n, h3⟩ := (show ObjOk X.prog X.w H s.heap tp (.tup cs) from I.hok tp _ hT)
  have e3 := ClsV.all k rv
  subst e3
  obtain ⟨oc, od, dt, sl⟩ := o
  simp only at h2 h3
  subst h2 h3
  exact PySem.W.kia_tup (PySem.W.handS_kitx_exc C.hg C.hk C.hs C.hd C.ha C.hn C.ht C.hm) I.kIn J h1 e (fun z => nomatch z) fun tk => ⟨.bl b, H, I.kept (t' := tk) fun _ _ z => z, rfl, q⟩
/-- a class of the text, or a built-in one, by its name -/
structure ClsN (X : Cx) (y : Str) (c : V) (u : Value) : Prop where
  v : ClsV c u
  g : Gl X y
  d : (y == ("__debug__" : Str)) = false
  m : X.mg y = some u ∨ (X.mg y = none ∧ bootBuiltins y = some u ∧ y ≠ "__name__")
theorem pe_cls {y : Str} {c : V} {u : Value} (h : ClsN X y c u) : PE X (.Name y pos) (tC c) := by
  have r : RelV c u := by
    obtain ⟨v, _, _, _⟩ := h
    cases v <;> rfl
  rcases h.m with m | ⟨m, b, n⟩
  · exact pe_glob h.g m r h.d
  · exact pe_bltn h.g m b r n h.d
theorem ev_isE {a D : Addr} {oe : Obj} {pn : List (Addr × Obj)} {y ee : Str} {p1 p2 : Pos} {k : Bool} {c : V} {u : Value} (i : Nat) (C : ExcC X.K D) (hz : Zc (.ref D) none oe) (hf : ∃ vs, oe.data = .fields vs) (hρ : ρ[i]? = some (.rf a)) (N : ClsN X y c u) (e : PySem.W.kitOne X.K (.ref D) u = some k)
    (hm : X.mg "isinstance" = none) (hN : X.N[i]? = some ee := by rfl) (hv : Vis X.env.scope ee := by first | exact Or.inl rfl | exact Or.inr (Or.inl rfl) | exact Or.inr (Or.inr rfl)) (hg : Gl X "isinstance" := by rfl) (hd : (ee == ("__debug__" : Str)) = false := by decide) (hcd : (ee == ("__classdict__" : Str)) = false := by decide)
    (he : starEach [.Name ee p1, .Name y p2] X.env = (false, eval (.Name ee p1) X.env) :: starEach [.Name y p2] X.env := by rfl) (he2 : starEach [.Name y p2] X.env = (false, eval (.Name y p2) X.env) :: starEach [] X.env := by rfl) (hpl : (backTo pos (starEach [.Name y p2] X.env)).any (·.1) = false := by rfl) :
    Ev (X.suite a ((a, oe) :: pn)) H0 ρ (.Call (.Name "isinstance" p) [.Name ee p1, .Name y p2] [] pos) (.bl k) := fun σ H N' r => by
  have N2 : ClsN (X.suite a ((a, oe) :: pn)) y c u := ⟨N.v, N.g, N.d, N.m⟩
  refine we_of (pe_callB (X := X.suite a ((a, oe) :: pn)) (call_isE C hz hf) hg hm (by decide +kernel) (pa_cons (pv (X := X.suite a ((a, oe) :: pn)) i hN hv hd hcd) (pa_cons (pe_cls N2) pa_nil he2) he) (by decide) (by decide) he hpl) ?_
  exact ⟨_, r.rf i a hρ, c, u, k, rfl, fun w q => N.v.eq q, e, N', Same.refl _, Same.refl _, r, .bl k⟩
/-- a row of classes -/
inductive ClsNs (X : Cx) : List Expr → List V → List Value → Prop where
  | nil : ClsNs X [] [] []
  | cons {y : Str} {c : V} {u : Value} {pp : Pos} {es : List Expr} {cs : List V} {us : List Value} : ClsN X y c u → ClsNs X es cs us → ClsNs X (.Name y pp :: es) (c :: cs) (u :: us)
theorem ClsNs.paired : ∀ {es : List Expr} {cs : List V} {us : List Value}, ClsNs X es cs us → Paired ClsV cs us
  | _, _, _, .nil => .nil
  | _, _, _, .cons h t => .cons h.v (ClsNs.paired t)
theorem ClsNs.len : ∀ {es : List Expr} {cs : List V} {us : List Value}, ClsNs X es cs us → cs.length = es.length
  | _, _, _, .nil => rfl
  | _, _, _, .cons h t => congrArg (· + 1) (ClsNs.len t)
/-- star-free rows of names -/
theorem wa_cls : ∀ {es : List Expr} {cs : List V} {us : List Value}, ClsNs X es cs us → (∀ y pp r, starEach (Expr.Name y pp :: r) X.env = (false, eval (Expr.Name y pp) X.env) :: starEach r X.env) → ∀ σ H Q, Q cs H → WA X es σ H Q
  | _, _, _, .nil, _, σ, H, Q, q => wa_of pa_nil q
  | _, _, _, .cons h t, hs, σ, H, Q, q => wa_of (pa_cons (pe_cls h) pa_w (hs _ _ _)) (wa_cls t hs σ H _ q)
theorem ev_isET {a D : Addr} {oe : Obj} {pn : List (Addr × Obj)} {ee : Str} {p1 p2 : Pos} {kk : Nat} {k : Bool} {cs : List V} {us : List Value} (i : Nat) (C : ExcC X.K D) (hz : Zc (.ref D) none oe) (hf : ∃ vs, oe.data = .fields vs) (hρ : ρ[i]? = some (.rf a)) (T : ClsNs (X.suite a ((a, oe) :: pn)) es cs us) (e : PySem.W.kitAny X.K (.ref D) us = some k)
    (hm : X.mg "isinstance" = none) (hl : es.length ≤ sizeLine) (hst : ∀ y pp r, starEach (Expr.Name y pp :: r) X.env = (false, eval (Expr.Name y pp) X.env) :: starEach r X.env := by intro _ _ _; rfl) (hN : X.N[i]? = some ee := by rfl) (hv : Vis X.env.scope ee := by first | exact Or.inl rfl | exact Or.inr (Or.inl rfl) | exact Or.inr (Or.inr rfl)) (hg : Gl X "isinstance" := by rfl)
    (hd : (ee == ("__debug__" : Str)) = false := by decide) (hcd : (ee == ("__classdict__" : Str)) = false := by decide)
    (he : starEach [.Name ee p1, .Tuple es kk p2] X.env = (false, eval (.Name ee p1) X.env) :: starEach [.Tuple es kk p2] X.env := by rfl) (he2 : starEach [.Tuple es kk p2] X.env = (false, eval (.Tuple es kk p2) X.env) :: starEach [] X.env := by rfl) (hpl : (backTo pos (starEach [.Tuple es kk p2] X.env)).any (·.1) = false := by rfl) :
    Ev (X.suite a ((a, oe) :: pn)) H0 ρ (.Call (.Name "isinstance" p) [.Name ee p1, .Tuple es kk p2] [] pos) (.bl k) := fun σ H N' r => by
  refine we_of (pe_callB (X := X.suite a ((a, oe) :: pn)) (call_isET C hz hf) hg hm (by decide +kernel) (pa_cons (pv (X := X.suite a ((a, oe) :: pn)) i hN hv hd hcd) (pa_cons (pe_tup pa_w) pa_nil he2) he) (by decide) (by decide) he hpl) ?_
  refine ⟨_, r.rf i a hρ, wa_cls T hst σ H _ ⟨by rw [T.len]; exact hl, fun tp hp => ?_⟩⟩
  have r2 := r.grow (Same.of_none (o := .tup cs) hp)
  exact ⟨tp, cs, us, k, rfl, upd_same, T.paired, e, N', Same.of_none hp, Same.refl _, r2, .bl k⟩

/-! ### lists of one's own -/
theorem pa1 {t : TE} (h : PE X e t) (he : starEach [e] X.env = (false, eval e X.env) :: starEach [] X.env := by rfl) : PA X [e] (tCons t tNil) := pa_cons h pa_nil he
theorem sx_append (i : Nat) {y : Str} {p1 p2 p3 : Pos} (hi : ρ[i]? = some (.ow (.lst ds))) (h : Ev X H0 ρ e d) (hz : ds.length < sizeLine) (hρ : ρ.set i (.ow (.lst (ds ++ [d]))) = ρ1 := by rfl) (hN : X.N[i]? = some y := by rfl) (hv : Vis X.env.scope y := by first | exact Or.inl rfl | exact Or.inr (Or.inl rfl) | exact Or.inr (Or.inr rfl))
    (hd : (y == ("__debug__" : Str)) = false := by decide) (hcd : (y == ("__classdict__" : Str)) = false := by decide)
    (hpe : ∀ to t, PE X (.Name y p1) to → PA X [e] t → PE X (.Call (.Attribute (.Name y p1) "append" p2) [e] [] p3) (tBM X.K "list" rAppend to t) := by exact fun _ _ h g => pe_bm PySem.F.plainAttrs_list PySem.F.slot_list_append PySem.F.type_list_append mt_append h g)
    (he : starEach [e] X.env = (false, eval e X.env) :: starEach [] X.env := by rfl) (hs : swapsWith (.Call (.Attribute (.Name y p1) "append" p2) [e] [] p3) none pos.line X.env = pure false := by rfl) :
    ExS X H0 ρ (.Expr (.Call (.Attribute (.Name y p1) "append" p2) [e] [] p3) pos) (.nx ρ1) := fun D σ H N r k => by
  obtain ⟨q, g1, g2, g3, vs, g4, g5⟩ := r.ow i _ hi
  refine ws_of (ps_expr (hpe _ _ (pv i hN hv hd hcd) (pa_cons pe_w pa_nil he)) hs) ⟨_, g1, .inl ⟨rfl, _, .inl (.inl g4)⟩, (h σ H N r).imp fun v H1 ⟨N1, s1, n1, r1, a1⟩ => ?_⟩
  obtain ⟨q', f1, f2, f3, us, f4, f5⟩ := r1.ow i _ hi
  rw [g1] at f1
  cases f1
  refine ⟨q, us, v, rfl, rfl, f4, by rw [f5.length]; exact hz, k σ _ N1 n1 ?_⟩
  exact hρ ▸ r1.write hi g1 ⟨us ++ [v], upd_same, f5.append (.cons a1 .nil)⟩

/-! ### == of data -/
mutual
def pd : Dat → PyData
  | .non => .none
  | .bl b => .bool b
  | .int i => .int i
  | .str s => .str s
  | .tup ds => .tuple (pds ds)
  | .lst ds => .list (pds ds)
  | .dic _ => .dict []
def pds : List Dat → List PyData
  | [] => []
  | d :: r => pd d :: pds r
end
mutual
/-- no dict in it -/
def nodic : Dat → Bool
  | .tup ds => nodics ds
  | .lst ds => nodics ds
  | .dic _ => false
  | .non => true
  | .bl _ => true
  | .int _ => true
  | .str _ => true
def nodics : List Dat → Bool
  | [] => true
  | d :: r => nodic d && nodics r
end
mutual
theorem At.dp {K : PySem.W.Frag} {H : Hp} : ∀ {v : V} {d : Dat}, At K H v d → nodic d = true → Dp K H v (pd d)
  | _, _, .non, _ => .non
  | _, _, .bl b, _ => .bl b
  | _, _, .int i, _ => .int i
  | _, _, .str s, _ => .str s
  | _, _, .tup h t, f => .tup h (Ats.dp t (by simpa only [nodic] using f))
  | _, _, .lst h t, f => .lst h (Ats.dp t (by simpa only [nodic] using f))
  | _, _, .dic _ _, f => by simp [nodic] at f
theorem Ats.dp {K : PySem.W.Frag} {H : Hp} : ∀ {vs : List V} {ds : List Dat}, Ats K H vs ds → nodics ds = true → DpAll K H vs (pds ds)
  | _, _, .nil, _ => .nil
  | _, _, .cons a t, f => by
    simp only [nodics, Bool.and_eq_true] at f
    exact .cons (At.dp a f.1) (Ats.dp t f.2)
end
def okD (d : Dat) : Bool := nodic d && SeqAt.shaped (pd d)
theorem okD_1 {d : Dat} (h : okD d = true) : nodic d = true := (Bool.and_eq_true_iff.mp h).1
theorem okD_2 {d : Dat} (h : okD d = true) : SeqAt.shaped (pd d) = true := (Bool.and_eq_true_iff.mp h).2
theorem ev_eqD (ha : EvB X H0 ρ a d1) (hb : EvB X H0 ρ b d2) (hu : X.A.units + 64 < cLine) (h1 : okD d1 = true) (h2 : okD d2 = true) : Ev X H0 ρ (.Compare a [.Eq] [b] pos) (.bl (PyData.eqv (pd d1) (pd d2))) :=
  ev_bin (fun _ _ h k => pe_cmpR (op_eqD hu) h k (nomark _)) ha hb fun x y σ H N Q r p q g => ⟨_, _, p.dp (okD_1 h1), q.dp (okD_1 h2), okD_2 h1, okD_2 h2, goes_self g r (.bl _)⟩
theorem ev_neD (ha : EvB X H0 ρ a d1) (hb : EvB X H0 ρ b d2) (hu : X.A.units + 64 < cLine) (h1 : okD d1 = true) (h2 : okD d2 = true) : Ev X H0 ρ (.Compare a [.NotEq] [b] pos) (.bl (!PyData.eqv (pd d1) (pd d2))) :=
  ev_bin (fun _ _ h k => pe_cmpR (op_neD hu) h k (nomark _)) ha hb fun x y σ H N Q r p q g => ⟨_, _, p.dp (okD_1 h1), q.dp (okD_1 h2), okD_2 h1, okD_2 h2, goes_self g r (.bl _)⟩
theorem et_eqD (ha : EvB X H0 ρ a d1) (hb : EvB X H0 ρ b d2) (hu : X.A.units + 64 < cLine) (h1 : okD d1 = true) (h2 : okD d2 = true) : EvT X H0 ρ (.Compare a [.Eq] [b] pos) (PyData.eqv (pd d1) (pd d2)) :=
  evt_bin (fun _ _ h k => pt_cmpR (op_eqD hu) h k (nomark _)) ha hb fun x y σ H N Q r p q g => ⟨_, _, p.dp (okD_1 h1), q.dp (okD_1 h2), okD_2 h1, okD_2 h2, goes_self g r (.bl _)⟩
theorem et_neD (ha : EvB X H0 ρ a d1) (hb : EvB X H0 ρ b d2) (hu : X.A.units + 64 < cLine) (h1 : okD d1 = true) (h2 : okD d2 = true) : EvT X H0 ρ (.Compare a [.NotEq] [b] pos) (!PyData.eqv (pd d1) (pd d2)) :=
  evt_bin (fun _ _ h k => pt_cmpR (op_neD hu) h k (nomark _)) ha hb fun x y σ H N Q r p q g => ⟨_, _, p.dp (okD_1 h1), q.dp (okD_1 h2), okD_2 h1, okD_2 h2, goes_self g r (.bl _)⟩

end
/-! ### list comprehensions -/
section
variable {K : PySem.W.Frag} {H0 H0' H H' N N' : Hp} {ρ : Env'} {σ : L2.St} {D : Addr} {acc : List V}
/-- the list at D, that no name holds, is taken for old -/
theorem Rep.toOld (r : Rep K H0 ρ σ H N) (h0 : H0 D = none) (hD : H D = some (.lst acc)) (hN : N D = none) (hp : ∀ (i : Nat) d, ρ[i]? = some (Ent.ow d) → σ[i]? ≠ some (some (V.ref D))) : Rep K (upd H0 D (.lst acc)) ρ σ H N where
  old := fun a o h => by
    by_cases ha : a = D
    · subst ha; rw [upd_same] at h; rw [hD]; exact h
    · rw [upd_ne ha] at h; exact r.old a o h
  sub := r.sub
  imm := fun a o h => by
    by_cases ha : a = D
    · subst ha
      have h1 := imm_sub _ _ _ h
      rw [upd_same] at h1
      cases h1
      exact (imm_not h True.intro).elim
    · have h1 := imm_sub _ _ _ h
      rw [upd_ne ha] at h1
      exact r.imm a o (imm_of h1 (imm_not h))
  fresh := fun a o h m => by
    by_cases ha : a = D
    · subst ha; rw [hN] at h; cases h
    · rw [upd_ne ha]; exact r.fresh a o h m
  len := r.len
  im := r.im
  ol := fun i d h => by
    obtain ⟨v, h1, h2⟩ := r.ol i d h
    exact ⟨v, h1, h2.mono (Same.of_none h0)⟩
  ow := fun i d h => by
    obtain ⟨p, h1, h2, h3⟩ := r.ow i d h
    exact ⟨p, h1, by rw [upd_ne (fun e => hp i d h (by rw [← e]; exact h1))]; exact h2, h3⟩
  rf := r.rf
  apart := r.apart
theorem Rep.back0 (r : Rep K H0 ρ σ H N) (s : Same H0 H0') (r' : Rep K H0' ρ σ H' N') : Rep K H0 ρ σ H' N' where
  old := s.trans r'.old
  sub := r'.sub
  imm := (imm_same s).trans r'.imm
  fresh := fun a o h m => s.free (r'.fresh a o h m)
  len := r.len
  im := r'.im
  ol := r.ol
  ow := fun i d h => by
    obtain ⟨p, h1, h2, h3⟩ := r'.ow i d h
    exact ⟨p, h1, s.free h2, h3⟩
  rf := r.rf
  apart := r.apart
theorem Rep.back {i : Nat} {x : V} {e : Ent} (r : Rep K H0 ρ σ H N) (hx : ρ[i]? = some .no) (s : Same H0 H0') (r' : Rep K H0' (ρ.set i e) (σ.set i (some x)) H' N') : Rep K H0 ρ σ H' N' := by
  have ne : ∀ {j : Nat} {t : Ent}, ρ[j]? = some t → t ≠ .no → i ≠ j := fun {j t} h n z => by
    subst z
    rw [hx] at h
    cases h
    exact n rfl
  refine ⟨s.trans r'.old, r'.sub, (imm_same s).trans r'.imm, fun a o h m => s.free (r'.fresh a o h m), r.len, fun j d h => ?_, r.ol, fun j d h => ?_, r.rf, r.apart⟩
  · have n := ne h (fun z => nomatch z)
    obtain ⟨v, h1, h2⟩ := r'.im j d (by rw [List.getElem?_set_ne n]; exact h)
    rw [List.getElem?_set_ne n] at h1
    exact ⟨v, h1, h2⟩
  · have n := ne h (fun z => nomatch z)
    obtain ⟨p, h1, h2, h3⟩ := r'.ow j d (by rw [List.getElem?_set_ne n]; exact h)
    rw [List.getElem?_set_ne n] at h1
    exact ⟨p, h1, s.free h2, h3⟩
theorem Rep.updD {o : HO} (r : Rep K H0 ρ σ H N) (h0 : H0 D = none) (hN : N D = none) (hp : ∀ (i : Nat) d, ρ[i]? = some (Ent.ow d) → σ[i]? ≠ some (some (V.ref D))) : Rep K H0 ρ σ (upd H D o) N where
  old := fun a u h => by rw [upd_ne (ne_of_none h h0)]; exact r.old a u h
  sub := fun a u h => by rw [upd_ne (ne_of_none h hN)]; exact r.sub a u h
  imm := r.imm
  fresh := r.fresh
  len := r.len
  im := r.im
  ol := r.ol
  ow := fun i d h => by
    obtain ⟨p, h1, h2, h3, h4⟩ := r.ow i d h
    have n : p ≠ D := fun e => hp i d h (e ▸ h1)
    refine ⟨p, h1, h2, h3, ?_⟩
    cases d with
    | lst ds => obtain ⟨vs, q1, q2⟩ := h4; exact ⟨vs, by rw [upd_ne n]; exact q1, q2⟩
    | dic ds => obtain ⟨vs, q1, q2⟩ := h4; exact ⟨vs, by rw [upd_ne n]; exact q1, q2⟩
    | _ => exact h4
  rf := r.rf
  apart := r.apart
/-- what stands at D is nobody's data -/
theorem Rep.notD {ρ' : Env'} {σ' : L2.St} (r : Rep K (upd H0 D (.lst acc)) ρ' σ' H N) : N D = none := by
  cases e : N D with
  | none => rfl
  | some o =>
    have h1 := r.sub _ _ e
    have h2 := r.old D (.lst acc) upd_same
    rw [h1] at h2
    cases h2
    have := r.fresh _ _ e True.intro
    rw [upd_same] at this
    cases this
end
section
variable {X : Cx} {H0 : Hp} {ρ ρ1 ρ2 : Env'} {a b c e : Expr} {es : List Expr} {st : Stmt} {sts rest : List Stmt} {d d1 d2 : Dat} {ds : List Dat} {p pos : Pos} {o o1 : Outc} {x n : Str}
/-- what a comprehension makes of its items: the test of each, the element -/
theorem eo_comp {elt tg iter : Expr} {ifs : List Expr} {scope : Scope} {xn : Str} (i : Nat) {pos : Pos} (hc : X.calm = true) (nd : X.N.Nodup) (hi : Iter X H0 ρ tg iter ds) (ok : blkC X.N X.env.scope scope [(xn, i)] = true) (hx : ρ[i]? = some .no) (f : Dat → Bool) (g : Dat → Dat)
    (htg : ∀ (s : Shared) (H : Hp) (C : Addr) (cl : List (Str × Addr)) (fp : List Addr), PG (X.blk s H scope (compEnvC scope cl C X.env) fp) tg (gName i))
    (hif : (ifs = [] ∧ ∀ d ∈ ds, f d = true) ∨ ∃ c, ifs = [c] ∧ ∀ (H0' : Hp) (s : Shared) (H : Hp) (C : Addr) (cl : List (Str × Addr)) (fp : List Addr), Same H0 H0' → ∀ d ∈ ds, EvT (X.blk s H scope (compEnvC scope cl C X.env) fp) H0' (ρ.set i (.im d)) c (f d))
    (hel : ∀ (H0' : Hp) (s : Shared) (H : Hp) (C : Addr) (cl : List (Str × Addr)) (fp : List Addr), Same H0 H0' → ∀ d ∈ ds, f d = true → Ev (X.blk s H scope (compEnvC scope cl C X.env) fp) H0' (ρ.set i (.im d)) elt (g d))
    (hz : ds.length < sizeLine) (hs : ∀ x, foldedSetIterable iter X.env x = pure x := by intro _; rfl) : EvO X H0 ρ (.ListComp elt [⟨tg, iter, ifs, 0⟩] scope pos) (.lst ((ds.filter f).map g)) := fun σ H N r => by
  obtain ⟨wi, pi, hw⟩ := hi
  have pts : ∀ (s : Shared) (H : Hp) (C : Addr) (cl : List (Str × Addr)) (fp : List Addr), PTs (X.blk s H scope (compEnvC scope cl C X.env) fp) ifs
      (fun σ H Q => (ifs = [] ∧ Q true H) ∨ ∃ c, ifs = [c] ∧ ∀ s H' C cl fp, WT (X.blk s H' scope (compEnvC scope cl C X.env) fp) c σ H Q) := fun s H C cl fp => ⟨fun pins s' σ H Q I h => by
    rcases h with ⟨rfl, h⟩ | ⟨c, rfl, h⟩
    · exact pts_nil.run pins s' σ H Q I h
    · exact (pts_one pt_w).run pins s' σ H Q I (h _ _ _ _ _)⟩
  have pes : ∀ (s : Shared) (H : Hp) (C : Addr) (cl : List (Str × Addr)) (fp : List Addr), PE (X.blk s H scope (compEnvC scope cl C X.env) fp) elt
      (fun σ H Q => ∀ s H' C cl fp, WE (X.blk s H' scope (compEnvC scope cl C X.env) fp) elt σ H Q) := fun s H C cl fp => ⟨fun pins s' σ H Q I h => h _ _ _ _ _ pins s' I⟩
  refine we_of (pe_lc hc nd pi (blkOk_by ok) htg pts pes hs) (hw σ H N r _ fun J H1 N1 n1 s1 r1 w => fun D hD => ?_)
  have hiσ : i < σ.length := by rw [← r.len]; exact lt_of_get hx
  refine ⟨fun j m H' => m = ds.length - j ∧ j ≤ ds.length ∧ ∃ N' acc, Same N1 N' ∧ Same H1 H' ∧ Rep X.K H0 ρ σ H' N' ∧ N' D = none ∧ H' D = some (.lst acc) ∧ Ats X.K N' acc (((ds.take j).filter f).map g), ⟨_, rfl, Nat.zero_le _, N1, [], Same.refl _, Same.of_none hD, r1.grow (Same.of_none hD), r1.sub.free hD, upd_same, by simpa using Ats.nil⟩, ?_⟩
  rintro j m H' ⟨rfl, hj, N', acc, s', e', r', dN, dH, aa⟩
  have h0D : H0 D = none := r1.old.free hD
  have npD : ∀ (q : Nat) d, ρ[q]? = some (Ent.ow d) → σ[q]? ≠ some (some (V.ref D)) := no_own r1 hD
  obtain ⟨wg, wst⟩ := w (upd H0 D (.lst acc)) ρ σ H' N' j (Same.of_none h0D) s' (r'.toOld h0D dH dN npD)
  by_cases hlt : j < ds.length
  · obtain ⟨go, yl⟩ := wg hlt
    have et : ds.take (j + 1) = ds.take j ++ [ds[j]] := by rw [List.take_succ, List.getElem?_eq_getElem hlt]; rfl
    refine .inr ⟨go, fun H' => ∃ N' acc, Same N1 N' ∧ Same H1 H' ∧ Rep X.K H0 ρ σ H' N' ∧ N' D = none ∧ H' D = some (.lst acc) ∧ Ats X.K N' acc (((ds.take (j + 1)).filter f).map g), fun H2 q => ⟨_, by omega, rfl, hlt, q⟩, fun x H2 y => ?_⟩
    obtain ⟨N2, d, n2, e2, r2, e3, a2⟩ := yl x H2 y
    have ed : d = ds[j] := by
      rw [List.getElem?_eq_getElem hlt] at e3
      exact (Option.some.inj e3).symm
    subst ed
    have dH2 : H2 D = some (.lst acc) := e2 _ _ dH
    have np : ∀ (q : Nat) d, ρ[q]? = some (Ent.ow d) → σ[q]? ≠ some (some (V.ref D)) := no_own r1 hD
    have d0 : Same H0 (upd H0 D (.lst acc)) := Same.of_none h0D
    have mem : ds[j] ∈ ds := List.getElem_mem hlt
    have dH2 : H2 D = some (.lst acc) := e2 _ _ dH
    have r2' : Rep X.K (upd H0 D (.lst acc)) ρ σ H2 N2 := r2
    have rs := r2'.setE (i := i) (v := x) (e := .im ds[j]) a2
    have ws : (wipe σ [i]).set i (some x) = σ.set i (some x) := by show (σ.set i none).set i (some x) = _; rw [List.set_set]
    show wipe ((wipe σ [i]).set i (some x)) [i] = wipe σ [i] ∧ _
    refine ⟨by rw [ws]; show (σ.set i (some x)).set i none = σ.set i none; rw [List.set_set], ?_⟩
    rw [show (wipe σ (List.map (fun (x : Str × Nat) => x.snd) [(xn, i)])).set i (some x) = σ.set i (some x) from ws]
    have elem : ∀ H3 N3, f ds[j] = true → Same H2 H3 → Same N2 N3 → Rep X.K (upd H0 D (.lst acc)) (ρ.set i (.im ds[j])) (σ.set i (some x)) H3 N3 → ∀ s H' C cl fp, WE (X.blk s H' scope (compEnvC scope cl C X.env) fp) elt (σ.set i (some x)) H3 fun y H4 => ∃ acc', H4 D = some (.lst acc') ∧ acc'.length < sizeLine ∧
        ∃ N' a', Same N1 N' ∧ Same H1 (upd H4 D (.lst (acc' ++ [y]))) ∧ Rep X.K H0 ρ σ (upd H4 D (.lst (acc' ++ [y]))) N' ∧ N' D = none ∧ (upd H4 D (.lst (acc' ++ [y]))) D = some (.lst a') ∧ Ats X.K N' a' (((ds.take (j + 1)).filter f).map g) := fun H3 N3 hf e3' n3 r3 s H5 C cl fp => by
      refine (hel _ s H5 C cl fp d0 _ mem hf _ _ _ r3).imp fun y H4 ⟨N4, s4, n4, r4, a4⟩ => ?_
      have q4 : H4 D = some (.lst acc) := s4 _ _ (e3' _ _ dH2)
      refine ⟨acc, q4, ?_, N4, acc ++ [y], (((s'.trans n2).trans n3).trans n4), fun a u h => ?_, (r'.back hx d0 r4).updD h0D r4.notD np, r4.notD, upd_same, ?_⟩
      · rw [aa.length, List.length_map]
        have := List.length_filter_le f (ds.take j)
        have := List.length_take_le j ds
        omega
      · rw [upd_ne (ne_of_none h hD)]
        exact s4 _ _ (e3' _ _ (e2 _ _ (e' a u h)))
      · rw [et, List.filter_append, List.map_append]
        refine ((aa.mono n2).mono n3 |>.mono n4).append ?_
        rw [List.filter_cons, if_pos hf]
        exact .cons a4 .nil
    have skip : ∀ H3 N3, f ds[j] = false → Same H2 H3 → Same N2 N3 → Rep X.K (upd H0 D (.lst acc)) (ρ.set i (.im ds[j])) (σ.set i (some x)) H3 N3 → ∃ N' acc, Same N1 N' ∧ Same H1 H3 ∧ Rep X.K H0 ρ σ H3 N' ∧ N' D = none ∧ H3 D = some (.lst acc) ∧ Ats X.K N' acc (((ds.take (j + 1)).filter f).map g) := fun H3 N3 hf e3' n3 r3 => by
      refine ⟨N3, acc, (s'.trans n2).trans n3, (e'.trans e2).trans e3', r'.back hx d0 r3, r3.notD, e3' _ _ dH2, ?_⟩
      rw [et, List.filter_append, List.map_append, List.filter_cons, if_neg (by rw [hf]; exact Bool.false_ne_true)]
      simpa using (aa.mono n2).mono n3
    rcases hif with ⟨hne, hft⟩ | ⟨c, hc', ht⟩
    · exact .inl ⟨hne, iteT (elem H2 N2 (hft _ mem) (Same.refl _) (Same.refl _) rs)⟩
    · refine .inr ⟨c, hc', fun s H5 C cl fp => ?_⟩
      refine (ht _ s H5 C cl fp d0 _ mem _ _ _ rs).imp fun bb H3 ⟨eb, N3, s3, n3, r3⟩ => ?_
      subst eb
      cases hf : f ds[j] with
      | true => exact iteT (elem H3 N3 hf s3 n3 r3)
      | false => exact iteF (skip H3 N3 hf s3 n3 r3)
  · have e1 : j = ds.length := by omega
    subst e1
    rw [List.take_length] at aa
    exact .inl ⟨wst rfl, N', D, rfl, s1.free hD, s1.trans e', n1.trans s', r', dN, acc, dH, aa⟩
end
end B

namespace B
open PySem PySem.Spec PyProof.Rows L2
def Outc.out : Outc → Prop
  | .nx _ => False
  | _ => True
section
variable {X : Cx} {H0 : Hp} {ρ ρ1 ρ2 : Env'} {a b c e : Expr} {es : List Expr} {st : Stmt} {sts rest : List Stmt} {d d1 d2 : Dat} {ds : List Dat} {p pos : Pos} {o o1 : Outc} {x n : Str}
theorem et_to {k l : Bool} (h : EvT X H0 ρ e k) (hk : k = l) : EvT X H0 ρ e l := hk ▸ h
theorem ev_to (h : Ev X H0 ρ e d1) (hk : d1 = d) : Ev X H0 ρ e d := hk ▸ h
theorem ex_out (h : ExS X H0 ρ st o) (ho : o.out) : Exec X H0 ρ (st :: rest) o := by
  refine ex_cons h ?_
  cases o with
  | nx ρ => exact ho.elim
  | _ => rfl
theorem ev_powC {i j r : Int} (ha : Ev X H0 ρ a (.int i)) (hb : Ev X H0 ρ b (.int j)) (h : CPow i j) (e : i ^ j.toNat = r) : Ev X H0 ρ (.BinOp a .Pow b pos) (.int r) := ev_to (ev_pow ha hb h) (by rw [e])
theorem ev_shlC {i j r : Int} (ha : Ev X H0 ρ a (.int i)) (hb : Ev X H0 ρ b (.int j)) (h : CPow i j) (e : i * 2 ^ j.toNat = r) : Ev X H0 ρ (.BinOp a .LShift b pos) (.int r) := ev_to (ev_shl ha hb h) (by rw [e])
theorem mul_ok {i j : Int} (m n : Nat) (h1 : i.natAbs < 2 ^ m) (h2 : j.natAbs < 2 ^ n) (h0 : 0 < m) (h0' : 0 < n) (h : m + n ≤ 1000000) : IntMulOk i j := (wide_mul h1 h2 h0 h0' h).ok
theorem mul_l {i j : Int} (h1 : -(2 ^ 64) < i) (h2 : i < 2 ^ 64) : IntMulOk i j := .of_left (intBits_le_64 h1 h2)
theorem mul_r {i j : Int} (h1 : -(2 ^ 64) < j) (h2 : j < 2 ^ 64) : IntMulOk i j := .of_right (intBits_le_64 h1 h2)
end
section
variable {P : Program} {w : World} {K : PySem.W.Frag} {mg : Str → Option Value} {base : Heap} {x : Str} {st : Stmt} {ps N : List Str} {k : Nat} {R : List Dat → Res → Prop} {f : Addr} {fd : FuncData}
/-- THE RULE for a def, its address told -/
theorem fn_mk (F : Fun K x x st f fd) (S : FnScope N ps (defScope st)) (hl : ∀ ds o, R ds o → ds.length = ps.length)
    (body : ∀ (f : Addr) (cdv : Value) (A : Around) (outer : List PySem.Env) (s : Shared) (H : Hp) (E : XK), Room k (XX P w K mg base N x st f cdv A outer s H E).A → ∀ ds o, R ds o → ∃ es, Ents es ds ∧ ∀ H0, match o with
      | .own d => ExecO (XX P w K mg base N x st f cdv A outer s H E) H0 (es ++ List.replicate (N.length - ps.length) .no) (defBody st) d
      | o => Ends' (XX P w K mg base N x st f cdv A outer s H E) H0 (es ++ List.replicate (N.length - ps.length) .no) (defBody st) o) : FnOk P w K mg base (L2.CX P w) (k + 1) f fd ps (spR K mg R) := by
  refine F.okX S (fun vs H Q E ⟨ds, o, hr, a, _⟩ => by rw [a.length]; exact hl ds o hr) fun cdv A outer s H vs Q E hr hsp => ?_
  obtain ⟨ds, o, hR, a, q⟩ := hsp
  obtain ⟨es, he, hbody⟩ := body f cdv A outer s H E hr ds o hR
  have hlen : vs.length = ps.length := by rw [a.length]; exact hl ds o hR
  have r : Rep K H (es ++ List.replicate (N.length - ps.length) .no) (L2.start N vs) H (Imm H) := hlen ▸ rep_start he a
  have hb := hbody H
  refine ⟨_, pb_w, ?_⟩
  cases o with
  | val d =>
    cases hb with
    | ret h => exact h { nx := fun _ H' => Q .non H', rt := Q } _ _ _ r fun v H' s rt => q v H' s rt
    | non h => exact h { nx := fun _ H' => Q .non H', rt := Q } _ _ _ r fun σ H' N' s r' => q .non H' r'.old ⟨N', r'.sub, r'.fresh, .non⟩
  | own d => exact hb { nx := fun _ H' => Q .non H', rt := Q } _ _ _ r fun p H' N' s1 s2 s3 s4 s5 s6 => q p H' N' s1 s2 s3 s4 s5 s6
  | exc n =>
    cases hb with
    | exc h => exact h { nx := fun _ H' => Q .non H', rt := Q } _ _ _ r ⟨_, takes_of rfl rfl rfl rfl, fun C σ H' N' hm s r' => q C H' hm r'.old⟩
/-- the law's: at most 63 ints, of so many bits -/
def R_law : List Dat → Res → Prop := fun ds o => ∃ ns : List Int, ds = [.lst (ns.map .int)] ∧ ns.length ≤ 63 ∧ (∀ z ∈ ns, Builtin.Int.intBits z ≤ 1048576) ∧ o = .val (.bl true)
def spLaw (K : PySem.W.Frag) : Sp := fun vs H Q _ => ∃ (a : Addr) (ns : List Int), vs = [.ref a] ∧ SqL K H a (ns.map V.int) ∧ ns.length ≤ 63 ∧ (∀ z ∈ ns, Builtin.Int.intBits z ≤ 1048576) ∧ ∀ v H', v = .bl true → Q v H'
theorem ats_ints {K : PySem.W.Frag} {H : Hp} (ns : List Int) : Ats K H (ns.map .int) (ns.map .int) := Ats.ofInts ns
theorem law_imp (F : FnOk P w K mg base (L2.CX P w) k f fd ["script"] (spR K mg R_law)) : FnOk P w K mg base (L2.CX P w) k f fd ["script"] (spLaw K) := F.imp fun vs H Q E ⟨a, ns, e, hS, hl, hb, q⟩ => by
  subst e
  exact ⟨[.lst (ns.map .int)], .val (.bl true), ⟨ns, rfl, hl, hb, rfl⟩, .cons (.lst hS (ats_ints ns)) .nil, fun v H' _ ⟨N, _, _, a⟩ => q v H' (at_bl a)⟩
end
theorem walk {l : PySem.W.OpenLaw} {k : Nat} {q : Program} {loose : List Str} {XP : (Str → Option Value) → Heap → Prop} {YP : World → Heap → Prop} {d : DefRec} {K : Params → PySem.W.Frag} (hn : l.most = some 63) (hdf : d.params.defaults = []) (hr : Room k callerA)
    (hY : ∀ (w : World) (h : Heap), YP w h → (K w.params).In h)
    (F : ∀ (w : World) (mg : Str → Option Value) (fa : Addr) (h : Heap), (K w.params).In h → h.Ns mainGlobals mg → mg d.name = some (.ref fa) →
      ∃ fd : FuncData, (∀ (s : Shared) (u : Value), BindsTo s fd ⟨[u], []⟩ [("script", u)]) ∧ ∀ base : Heap, (K w.params).In base → base.Ns mainGlobals mg → FnOk l.prog w (K w.params) mg base (L2.CX l.prog w) k fa fd ["script"] (spLaw (K w.params))) :
    PySem.W.WalkO q loose XP YP l.row.toRowW d [] (fun f vs => PySem.call f vs) :=
  L2.walk_ofB (n := 63) (k := k) (x := "script") (CX := fun w => L2.CX l.prog w) (sp := fun w => spLaw (K w.params)) hn (by decide) hdf hr hY F
    (fun _ _ a ns hl hb _ hS => ⟨a, ns, rfl, hS, hl, hb, fun _ _ e => e⟩) fun _ _ _ _ _ h => by
      obtain ⟨_, _, _, _, _, _, _, _, _, _, _, _, z⟩ := h
      exact z.elim

/-! ### the classes of errors among one another -/
def Kit (K : PySem.W.Frag) (mg : Str → Option Value) (C : Addr) (n : Str) (b : Bool) : Prop := ∃ D, mg n = some (.ref D) ∧ PySem.W.kitOne K (.ref C) (.ref D) = some b
def Exm (K : PySem.W.Frag) (mg : Str → Option Value) (C : Addr) (n : Str) : Prop := ∃ D, mg n = some (.ref D) ∧ PySem.W.exmOne K (.ref C) (.ref D) = some true
theorem kit_own {K : PySem.W.Frag} {C D : Addr} {b : Bool} (hs : PySem.W.subIn K (.ref C) (.ref C) = some true) (hd : PySem.W.hasDictIn K D = true) (ht : PySem.W.typeIn K (.ref D) = some (.type "type")) (h : PySem.W.subIn K (.ref C) (.ref D) = some b) : PySem.W.kitOne K (.ref C) (.ref D) = some b := by
  obtain ⟨cd, hc, _⟩ := PySem.W.any_some hd
  by_cases e : C = D
  · subst e
    rw [hs] at h
    cases h
    show (if (Value.ref C == Value.ref C) = true then some true else _) = _
    rw [if_pos (by simp)]
  · show (if (Value.ref C == Value.ref D) = true then some true else (if ((PySem.W.clsIn K D).isSome && PySem.W.typeIn K (.ref D) == some (.type "type")) = true then PySem.W.subIn K (.ref C) (.ref D) else none)) = _
    rw [if_neg (by intro q; exact e (Value.ref.inj (beq_iff_eq.mp q))), if_pos (by rw [hc, ht] <;> rfl)]
    exact h
theorem kit_ve {K : PySem.W.Frag} {C : Addr} (h : PySem.W.subIn K (.ref C) (.type "ValueError") = some true) : PySem.W.kitOne K (.ref C) (.type "ValueError") = some true := by
  show (if (Value.ref C == Value.type "ValueError") = true then some true else (if PySem.W.kitMeta "ValueError" = true then PySem.W.subIn K (.ref C) (.type "ValueError") else none)) = _
  rw [if_neg (by intro e; cases (beq_iff_eq.mp e)), if_pos (by decide +kernel)]
  exact h

def Kits (K : PySem.W.Frag) (mg : Str → Option Value) (C : Addr) : List (Str × Bool) → Prop
  | [] => True
  | p :: r => Kit K mg C p.1 p.2 ∧ Kits K mg C r
theorem kits_nil {K : PySem.W.Frag} {mg : Str → Option Value} {C : Addr} : Kits K mg C [] := trivial
theorem kits_cons {K : PySem.W.Frag} {mg : Str → Option Value} {C : Addr} {n : Str} {b : Bool} {r : List (Str × Bool)} (h : Kit K mg C n b) (t : Kits K mg C r) : Kits K mg C ((n, b) :: r) := ⟨h, t⟩
theorem Kits.get {K : PySem.W.Frag} {mg : Str → Option Value} {C : Addr} : ∀ {l : List (Str × Bool)} (n : Str) (b : Bool), Kits K mg C l → (n, b) ∈ l → Kit K mg C n b
  | [], _, _, _, h => by cases h
  | p :: r, n, b, k, h => by
    rcases List.mem_cons.mp h with e | h
    · have e1 : p.1 = n := by rw [← e]
      have e2 : p.2 = b := by rw [← e]
      rw [← e1, ← e2]
      exact k.1
    · exact Kits.get n b k.2 h
/-- what is known of the class that a refusal has -/
structure ExcX (K : PySem.W.Frag) (mg : Str → Option Value) (n : Str) (l : List (Str × Bool)) (C : Addr) : Prop where
  at_ : ExcAt K mg n C
  ec : ExcC K C
  self : PySem.W.exmOne K (.ref C) (.ref C) = some true
  press : Exm K mg C "PressError"
  ve : PySem.W.kitOne K (.ref C) (.type "ValueError") = some true
  kits : Kits K mg C l
section
variable {X : Cx} {H0 : Hp} {ρ ρ1 ρ2 : Env'} {a b c e : Expr} {es : List Expr} {st : Stmt} {sts rest : List Stmt} {d d1 d2 : Dat} {ds : List Dat} {p pos : Pos} {o o1 : Outc} {x n : Str}
theorem ev_isEo {a D : Addr} {oe : Obj} {pn : List (Addr × Obj)} {y ee : Str} {p1 p2 : Pos} {k : Bool} (i : Nat) (N : Kit X.K X.mg D y k) (C : ExcC X.K D) (hz : Zc (.ref D) none oe) (hf : ∃ vs, oe.data = .fields vs) (hρ : ρ[i]? = some (.rf a))
    (hm : X.mg "isinstance" = none) (hgy : Gl X y := by rfl) (hdy : (y == ("__debug__" : Str)) = false := by decide) (hN : X.N[i]? = some ee := by rfl) (hv : Vis X.env.scope ee := by first | exact Or.inl rfl | exact Or.inr (Or.inl rfl) | exact Or.inr (Or.inr rfl)) (hg : Gl X "isinstance" := by rfl) (hd : (ee == ("__debug__" : Str)) = false := by decide) (hcd : (ee == ("__classdict__" : Str)) = false := by decide)
    (he : starEach [.Name ee p1, .Name y p2] X.env = (false, eval (.Name ee p1) X.env) :: starEach [.Name y p2] X.env := by rfl) (he2 : starEach [.Name y p2] X.env = (false, eval (.Name y p2) X.env) :: starEach [] X.env := by rfl) (hpl : (backTo pos (starEach [.Name y p2] X.env)).any (·.1) = false := by rfl) :
    Ev (X.suite a ((a, oe) :: pn)) H0 ρ (.Call (.Name "isinstance" p) [.Name ee p1, .Name y p2] [] pos) (.bl k) := by
  obtain ⟨D2, m, q⟩ := N
  exact ev_isE (c := .ref D2) (u := .ref D2) i C hz hf hρ ⟨.own D2, hgy, hdy, .inl m⟩ q hm hN hv hg hd hcd he he2 hpl
theorem ev_isEv {a D : Addr} {oe : Obj} {pn : List (Addr × Obj)} {ee : Str} {p1 p2 : Pos} (i : Nat) (N : PySem.W.kitOne X.K (.ref D) (.type "ValueError") = some true) (hb : X.mg "ValueError" = none) (C : ExcC X.K D) (hz : Zc (.ref D) none oe) (hf : ∃ vs, oe.data = .fields vs) (hρ : ρ[i]? = some (.rf a))
    (hm : X.mg "isinstance" = none) (hgy : Gl X "ValueError" := by rfl) (hN : X.N[i]? = some ee := by rfl) (hv : Vis X.env.scope ee := by first | exact Or.inl rfl | exact Or.inr (Or.inl rfl) | exact Or.inr (Or.inr rfl)) (hg : Gl X "isinstance" := by rfl) (hd : (ee == ("__debug__" : Str)) = false := by decide) (hcd : (ee == ("__classdict__" : Str)) = false := by decide)
    (he : starEach [.Name ee p1, .Name "ValueError" p2] X.env = (false, eval (.Name ee p1) X.env) :: starEach [.Name "ValueError" p2] X.env := by rfl) (he2 : starEach [.Name "ValueError" p2] X.env = (false, eval (.Name "ValueError" p2) X.env) :: starEach [] X.env := by rfl) (hpl : (backTo pos (starEach [.Name "ValueError" p2] X.env)).any (·.1) = false := by rfl) :
    Ev (X.suite a ((a, oe) :: pn)) H0 ρ (.Call (.Name "isinstance" p) [.Name ee p1, .Name "ValueError" p2] [] pos) (.bl true) :=
  ev_isE (c := .ty "ValueError") (u := .type "ValueError") i C hz hf hρ ⟨.ty _, hgy, by decide, .inr ⟨hb, by decide +kernel, by decide⟩⟩ N hm hN hv hg hd hcd he he2 hpl
inductive NoKits (X : Cx) (D : Addr) : List Expr → Prop where
  | nil : NoKits X D []
  | cons {y : Str} {pp : Pos} {es : List Expr} (k : Kit X.K X.mg D y false) (t : NoKits X D es) (g : Gl X y := by rfl) (hd : (y == ("__debug__" : Str)) = false := by decide) : NoKits X D (.Name y pp :: es)
theorem NoKits.get {D : Addr} : ∀ {es : List Expr}, NoKits X D es → ∃ cs us, ClsNs X es cs us ∧ PySem.W.kitAny X.K (.ref D) us = some false
  | _, .nil => ⟨[], [], .nil, rfl⟩
  | _, .cons k t g hd => by
    obtain ⟨cs, us, h1, h2⟩ := NoKits.get t
    obtain ⟨E, m, q⟩ := k
    exact ⟨.ref E :: cs, .ref E :: us, .cons ⟨.own E, g, hd, .inl m⟩ h1, kitAny_cons q (fun _ => h2) (fun z => nomatch z)⟩
theorem NoKits.suite {D a : Addr} {pn : List (Addr × Obj)} : ∀ {es : List Expr}, NoKits X D es → NoKits (X.suite a pn) D es
  | _, .nil => .nil
  | _, .cons k t g hd => .cons k (NoKits.suite t) g hd
theorem ev_isEs {a D : Addr} {oe : Obj} {pn : List (Addr × Obj)} {ee : Str} {p1 p2 : Pos} {kk : Nat} (i : Nat) (N : NoKits X D es) (C : ExcC X.K D) (hz : Zc (.ref D) none oe) (hf : ∃ vs, oe.data = .fields vs) (hρ : ρ[i]? = some (.rf a))
    (hm : X.mg "isinstance" = none) (hl : es.length ≤ sizeLine := by decide) (hst : ∀ y pp r, starEach (Expr.Name y pp :: r) X.env = (false, eval (Expr.Name y pp) X.env) :: starEach r X.env := by intro _ _ _; rfl) (hN : X.N[i]? = some ee := by rfl) (hv : Vis X.env.scope ee := by first | exact Or.inl rfl | exact Or.inr (Or.inl rfl) | exact Or.inr (Or.inr rfl)) (hg : Gl X "isinstance" := by rfl)
    (hd : (ee == ("__debug__" : Str)) = false := by decide) (hcd : (ee == ("__classdict__" : Str)) = false := by decide)
    (he : starEach [.Name ee p1, .Tuple es kk p2] X.env = (false, eval (.Name ee p1) X.env) :: starEach [.Tuple es kk p2] X.env := by rfl) (he2 : starEach [.Tuple es kk p2] X.env = (false, eval (.Tuple es kk p2) X.env) :: starEach [] X.env := by rfl) (hpl : (backTo pos (starEach [.Tuple es kk p2] X.env)).any (·.1) = false := by rfl) :
    Ev (X.suite a ((a, oe) :: pn)) H0 ρ (.Call (.Name "isinstance" p) [.Name ee p1, .Tuple es kk p2] [] pos) (.bl false) := by
  obtain ⟨cs, us, h1, h2⟩ := (N.suite (a := a) (pn := (a, oe) :: pn)).get
  exact ev_isET i C hz hf hρ h1 h2 hm hl hst hN hv hg hd hcd he he2 hpl
/-- except x: the class of that name -/
theorem names_of {C : Addr} (h : X.mg x = some (.ref C)) (g : Gl X x := by rfl) (hd : (x == ("__debug__" : Str)) = false := by decide) : Names X x (.ref C) := ⟨g, hd, .inl h⟩
end
def isInt : Dat → Bool
  | .int _ => true
  | .bl _ => true
  | _ => false
theorem kit_isInt : ∀ (d : Dat), kitB (tyName d) "int" = some (isInt d)
  | .non => (by decide +kernel : kitB "NoneType" "int" = some false)
  | .bl _ => (by decide +kernel : kitB "bool" "int" = some true)
  | .int _ => (by decide +kernel : kitB "int" "int" = some true)
  | .str _ => (by decide +kernel : kitB "str" "int" = some false)
  | .tup _ => (by decide +kernel : kitB "tuple" "int" = some false)
  | .lst _ => (by decide +kernel : kitB "list" "int" = some false)
  | .dic _ => (by decide +kernel : kitB "dict" "int" = some false)
def isBool : Dat → Bool
  | .bl _ => true
  | _ => false
theorem kit_isBool : ∀ (d : Dat), kitB (tyName d) "bool" = some (isBool d)
  | .non => (by decide +kernel : kitB "NoneType" "bool" = some false)
  | .bl _ => (by decide +kernel : kitB "bool" "bool" = some true)
  | .int _ => (by decide +kernel : kitB "int" "bool" = some false)
  | .str _ => (by decide +kernel : kitB "str" "bool" = some false)
  | .tup _ => (by decide +kernel : kitB "tuple" "bool" = some false)
  | .lst _ => (by decide +kernel : kitB "list" "bool" = some false)
  | .dic _ => (by decide +kernel : kitB "dict" "bool" = some false)
def isStr : Dat → Bool
  | .str _ => true
  | _ => false
theorem kit_isStr : ∀ (d : Dat), kitB (tyName d) "str" = some (isStr d)
  | .non => (by decide +kernel : kitB "NoneType" "str" = some false)
  | .bl _ => (by decide +kernel : kitB "bool" "str" = some false)
  | .int _ => (by decide +kernel : kitB "int" "str" = some false)
  | .str _ => (by decide +kernel : kitB "str" "str" = some true)
  | .tup _ => (by decide +kernel : kitB "tuple" "str" = some false)
  | .lst _ => (by decide +kernel : kitB "list" "str" = some false)
  | .dic _ => (by decide +kernel : kitB "dict" "str" = some false)
def isTup : Dat → Bool
  | .tup _ => true
  | _ => false
theorem kit_isTup : ∀ (d : Dat), kitB (tyName d) "tuple" = some (isTup d)
  | .non => (by decide +kernel : kitB "NoneType" "tuple" = some false)
  | .bl _ => (by decide +kernel : kitB "bool" "tuple" = some false)
  | .int _ => (by decide +kernel : kitB "int" "tuple" = some false)
  | .str _ => (by decide +kernel : kitB "str" "tuple" = some false)
  | .tup _ => (by decide +kernel : kitB "tuple" "tuple" = some true)
  | .lst _ => (by decide +kernel : kitB "list" "tuple" = some false)
  | .dic _ => (by decide +kernel : kitB "dict" "tuple" = some false)
def isLst : Dat → Bool
  | .lst _ => true
  | _ => false
theorem kit_isLst : ∀ (d : Dat), kitB (tyName d) "list" = some (isLst d)
  | .non => (by decide +kernel : kitB "NoneType" "list" = some false)
  | .bl _ => (by decide +kernel : kitB "bool" "list" = some false)
  | .int _ => (by decide +kernel : kitB "int" "list" = some false)
  | .str _ => (by decide +kernel : kitB "str" "list" = some false)
  | .tup _ => (by decide +kernel : kitB "tuple" "list" = some false)
  | .lst _ => (by decide +kernel : kitB "list" "list" = some true)
  | .dic _ => (by decide +kernel : kitB "dict" "list" = some false)
def isDic : Dat → Bool
  | .dic _ => true
  | _ => false
theorem kit_isDic : ∀ (d : Dat), kitB (tyName d) "dict" = some (isDic d)
  | .non => (by decide +kernel : kitB "NoneType" "dict" = some false)
  | .bl _ => (by decide +kernel : kitB "bool" "dict" = some false)
  | .int _ => (by decide +kernel : kitB "int" "dict" = some false)
  | .str _ => (by decide +kernel : kitB "str" "dict" = some false)
  | .tup _ => (by decide +kernel : kitB "tuple" "dict" = some false)
  | .lst _ => (by decide +kernel : kitB "list" "dict" = some false)
  | .dic _ => (by decide +kernel : kitB "dict" "dict" = some true)
section
variable {X : Cx} {H0 : Hp} {ρ ρ1 ρ2 : Env'} {a b c e : Expr} {es : List Expr} {st : Stmt} {sts rest : List Stmt} {d d1 d2 : Dat} {ds : List Dat} {p pos : Pos} {o o1 : Outc} {x n : Str}
theorem ev_isi_int {p2 : Pos} (ha : EvB X H0 ρ a d) (hm : X.mg "isinstance" = none) (hmT : X.mg "int" = none) (hg : Gl X "isinstance" := by rfl) (hgT : Gl X "int" := by rfl)
    (he : starEach [a, .Name "int" p2] X.env = (false, eval a X.env) :: starEach [.Name "int" p2] X.env := by rfl) (he2 : starEach [.Name "int" p2] X.env = (false, eval (.Name "int" p2) X.env) :: starEach [] X.env := by rfl) (hpl : (backTo pos (starEach [.Name "int" p2] X.env)).any (·.1) = false := by rfl) :
    Ev X H0 ρ (.Call (.Name "isinstance" p) [a, .Name "int" p2] [] pos) (.bl (isInt d)) := ev_isi ha (kit_isInt d) hm hmT (by decide +kernel) hg hgT (by decide) (by decide) he he2 hpl
theorem ev_isi_bool {p2 : Pos} (ha : EvB X H0 ρ a d) (hm : X.mg "isinstance" = none) (hmT : X.mg "bool" = none) (hg : Gl X "isinstance" := by rfl) (hgT : Gl X "bool" := by rfl)
    (he : starEach [a, .Name "bool" p2] X.env = (false, eval a X.env) :: starEach [.Name "bool" p2] X.env := by rfl) (he2 : starEach [.Name "bool" p2] X.env = (false, eval (.Name "bool" p2) X.env) :: starEach [] X.env := by rfl) (hpl : (backTo pos (starEach [.Name "bool" p2] X.env)).any (·.1) = false := by rfl) :
    Ev X H0 ρ (.Call (.Name "isinstance" p) [a, .Name "bool" p2] [] pos) (.bl (isBool d)) := ev_isi ha (kit_isBool d) hm hmT (by decide +kernel) hg hgT (by decide) (by decide) he he2 hpl
theorem ev_isi_str {p2 : Pos} (ha : EvB X H0 ρ a d) (hm : X.mg "isinstance" = none) (hmT : X.mg "str" = none) (hg : Gl X "isinstance" := by rfl) (hgT : Gl X "str" := by rfl)
    (he : starEach [a, .Name "str" p2] X.env = (false, eval a X.env) :: starEach [.Name "str" p2] X.env := by rfl) (he2 : starEach [.Name "str" p2] X.env = (false, eval (.Name "str" p2) X.env) :: starEach [] X.env := by rfl) (hpl : (backTo pos (starEach [.Name "str" p2] X.env)).any (·.1) = false := by rfl) :
    Ev X H0 ρ (.Call (.Name "isinstance" p) [a, .Name "str" p2] [] pos) (.bl (isStr d)) := ev_isi ha (kit_isStr d) hm hmT (by decide +kernel) hg hgT (by decide) (by decide) he he2 hpl
theorem ev_isi_tuple {p2 : Pos} (ha : EvB X H0 ρ a d) (hm : X.mg "isinstance" = none) (hmT : X.mg "tuple" = none) (hg : Gl X "isinstance" := by rfl) (hgT : Gl X "tuple" := by rfl)
    (he : starEach [a, .Name "tuple" p2] X.env = (false, eval a X.env) :: starEach [.Name "tuple" p2] X.env := by rfl) (he2 : starEach [.Name "tuple" p2] X.env = (false, eval (.Name "tuple" p2) X.env) :: starEach [] X.env := by rfl) (hpl : (backTo pos (starEach [.Name "tuple" p2] X.env)).any (·.1) = false := by rfl) :
    Ev X H0 ρ (.Call (.Name "isinstance" p) [a, .Name "tuple" p2] [] pos) (.bl (isTup d)) := ev_isi ha (kit_isTup d) hm hmT (by decide +kernel) hg hgT (by decide) (by decide) he he2 hpl
theorem ev_isi_list {p2 : Pos} (ha : EvB X H0 ρ a d) (hm : X.mg "isinstance" = none) (hmT : X.mg "list" = none) (hg : Gl X "isinstance" := by rfl) (hgT : Gl X "list" := by rfl)
    (he : starEach [a, .Name "list" p2] X.env = (false, eval a X.env) :: starEach [.Name "list" p2] X.env := by rfl) (he2 : starEach [.Name "list" p2] X.env = (false, eval (.Name "list" p2) X.env) :: starEach [] X.env := by rfl) (hpl : (backTo pos (starEach [.Name "list" p2] X.env)).any (·.1) = false := by rfl) :
    Ev X H0 ρ (.Call (.Name "isinstance" p) [a, .Name "list" p2] [] pos) (.bl (isLst d)) := ev_isi ha (kit_isLst d) hm hmT (by decide +kernel) hg hgT (by decide) (by decide) he he2 hpl
theorem ev_isi_dict {p2 : Pos} (ha : EvB X H0 ρ a d) (hm : X.mg "isinstance" = none) (hmT : X.mg "dict" = none) (hg : Gl X "isinstance" := by rfl) (hgT : Gl X "dict" := by rfl)
    (he : starEach [a, .Name "dict" p2] X.env = (false, eval a X.env) :: starEach [.Name "dict" p2] X.env := by rfl) (he2 : starEach [.Name "dict" p2] X.env = (false, eval (.Name "dict" p2) X.env) :: starEach [] X.env := by rfl) (hpl : (backTo pos (starEach [.Name "dict" p2] X.env)).any (·.1) = false := by rfl) :
    Ev X H0 ρ (.Call (.Name "isinstance" p) [a, .Name "dict" p2] [] pos) (.bl (isDic d)) := ev_isi ha (kit_isDic d) hm hmT (by decide +kernel) hg hgT (by decide) (by decide) he he2 hpl
end

theorem ExcX.eq {K : PySem.W.Frag} {mg : Str → Option Value} {n : Str} {l : List (Str × Bool)} {C C' : Addr} (x : ExcX K mg n l C) (h : mg n = some (.ref C')) : C' = C := by
  rw [x.at_.g] at h
  cases h
  rfl
theorem ExcX.exm {K : PySem.W.Frag} {mg : Str → Option Value} {n : Str} {l : List (Str × Bool)} {C : Addr} (x : ExcX K mg n l C) : ∀ C', mg n = some (.ref C') → PySem.W.exmOne K (.ref C') (.ref C) = some true := fun C' h => by
  rw [x.eq h]
  exact x.self

theorem fits_small {i : Int} (h1 : -(2 ^ 40) ≤ i) (h2 : i ≤ 2 ^ 40) : Builtin.Range.rangeFitsLong i = true := by
  unfold Builtin.Range.rangeFitsLong
  rw [Bool.and_eq_true]
  exact ⟨decide_eq_true (by omega), decide_eq_true (by omega)⟩
/-- range(i, j, c), c above 0 -/
theorem rgc_pos {i j c : Int} {n : Nat} (hc : 0 < c) (hc2 : c < 1073741824) (hi : -(2 ^ 39) ≤ i) (hi2 : i ≤ 2 ^ 39) (hj : -(2 ^ 39) ≤ j) (hj2 : j ≤ 2 ^ 39) (hn : (n : Int) = if i < j then (j - i - 1) / c + 1 else 0) : RgC i j c n := by
  have e : Builtin.Range.rangeSize i j c = (n : Int) := by
    unfold Builtin.Range.rangeSize
    rw [if_pos hc, hn]
  have hb : (n : Int) ≤ 2 ^ 40 := by
    rw [hn]
    split
    · have : (j - i - 1) / c ≤ j - i - 1 := Int.ediv_le_self _ (by omega)
      omega
    · decide
  refine ⟨by omega, by omega, ?_, e⟩
  unfold Builtin.Range.small
  rw [e, fits_small (by omega) (by omega), fits_small (by omega) (by omega), fits_small (by omega) (by omega), fits_small (i := (n : Int)) (by omega) hb, if_pos hc, fits_small (by omega) (by omega)]
  simp

/-- each turn leads back to the same -/
theorem for_same {X : Cx} {H0 : Hp} {bd : Dat → Env' → Env'} {body : List Stmt} {ρ : Env'} : ∀ {ds : List Dat}, (∀ d ∈ ds, Exec X H0 (bd d ρ) body (.nx ρ)) → ForT X H0 bd body ds ρ (.nx ρ)
  | [], _ => .nil
  | d :: ds, h => .turn (h d List.mem_cons_self) (for_same fun e he => h e (List.mem_cons_of_mem _ he))
theorem mem_steps {lo c : Int} {n : Nat} {d : Dat} (h : d ∈ steps lo c n) : ∃ i : Nat, i < n ∧ d = .int (lo + (i : Int) * c) := by
  unfold steps at h
  obtain ⟨i, hi, rfl⟩ := List.mem_map.mp h
  exact ⟨i, List.mem_range.mp hi, rfl⟩
theorem mem_ints {ns : List Int} {d : Dat} (h : d ∈ ns.map Dat.int) : ∃ z, z ∈ ns ∧ d = .int z := by
  obtain ⟨i, hi, rfl⟩ := List.mem_map.mp h
  exact ⟨i, hi, rfl⟩
end B

namespace B
open PySem PySem.Spec PyProof.Rows L2

/-- a text -/
abbrev tx (l : List Nat) : Dat := .str (SX.S l)
/-- the part of a row from lo to hi -/
def cut {α : Type} (xs : List α) (lo hi : Option Int) : List α := (xs.drop (HT.sIx xs.length 0 lo)).take (HT.sIx xs.length xs.length hi - HT.sIx xs.length 0 lo)
theorem flats_cut {ds : List Dat} (f : flats ds = true) (lo hi : Option Int) : flats (cut ds lo hi) = true := by
  have h1 : ∀ (l : List Dat), flats l = l.all flat := by
    intro l
    induction l with
    | nil => rfl
    | cons d r ih => show (flat d && flats r) = _; rw [ih]; rfl
  rw [h1, List.all_eq_true] at f ⊢
  intro d hd
  exact f d (List.mem_of_mem_drop (List.mem_of_mem_take hd))

section
variable {X : Cx} {H0 : Hp} {ρ ρ1 ρ2 : Env'} {a b c e : Expr} {es : List Expr} {st : Stmt} {sts rest : List Stmt} {d d1 d2 : Dat} {ds : List Dat} {p pos : Pos} {o o1 : Outc} {x n : Str}

/-! ### sum, list, ord, int -/
theorem ev_sum {ns : List Int} (ha : EvB X H0 ρ a (.lst (ns.map .int))) (hc : X.calm = true) (hm : X.mg "sum" = none) (hg : Gl X "sum" := by rfl) (he : starEach [a] X.env = (false, eval a X.env) :: starEach [] X.env := by rfl) (hpl : (backTo pos (starEach [] X.env)).any (·.1) = false := by rfl) :
    Ev X H0 ρ (.Call (.Name "sum" p) [a] [] pos) (.int ns.sum) := ev_blt (cr_sum hc) hm (by decide +kernel) (eab1 ha he) (fun vs σ H N Q r q g => by
    obtain ⟨v, e1, e2⟩ := ats_one q
    obtain ⟨pp, us, e3, h1, h2⟩ := at_lst e2
    rw [h2.ints] at h1
    exact ⟨pp, ns, by rw [e1, e3], h1, goes_self g r (.int _)⟩) hg (by decide) (by decide) he hpl
theorem eo_list (ha : EvB X H0 ρ a (.lst ds)) (f : flats ds = true) (hm : X.mg "list" = none) (hg : Gl X "list" := by rfl) (he : starEach [a] X.env = (false, eval a X.env) :: starEach [] X.env := by rfl) (hpl : (backTo pos (starEach [] X.env)).any (·.1) = false := by rfl) :
    EvO X H0 ρ (.Call (.Name "list" p) [a] [] pos) (.lst ds) := fun σ H N rp =>
  we_of (pe_callTy call_list_of hg hm (by decide +kernel) pa_w (by decide) (by decide) he hpl) ((eab1 ha he σ H N rp).imp fun vs H1 ⟨N1, s1, n1, r1, a1⟩ => by
    obtain ⟨v, e1, e2⟩ := ats_one a1
    obtain ⟨pp, us, e3, h1, h2⟩ := at_lst e2
    obtain ⟨N2, n2, r2, k⟩ := r1.keep
    refine ⟨pp, us, by rw [e1, e3], .inl h1, fun l hl => ?_⟩
    obtain ⟨r3, n3⟩ := eo_new (o := .lst us) r2 hl
    exact ⟨N2, l, rfl, s1.free hl, s1.trans (Same.of_none hl), n1.trans n2, r3, n3, us, upd_same, (h2.imm f).mono k⟩)
theorem eo_listT (ha : EvB X H0 ρ a (.tup ds)) (f : flats ds = true) (hm : X.mg "list" = none) (hg : Gl X "list" := by rfl) (he : starEach [a] X.env = (false, eval a X.env) :: starEach [] X.env := by rfl) (hpl : (backTo pos (starEach [] X.env)).any (·.1) = false := by rfl) :
    EvO X H0 ρ (.Call (.Name "list" p) [a] [] pos) (.lst ds) := fun σ H N rp =>
  we_of (pe_callTy call_list_of hg hm (by decide +kernel) pa_w (by decide) (by decide) he hpl) ((eab1 ha he σ H N rp).imp fun vs H1 ⟨N1, s1, n1, r1, a1⟩ => by
    obtain ⟨v, e1, e2⟩ := ats_one a1
    obtain ⟨pp, us, e3, h1, h2⟩ := at_seq e2
    obtain ⟨N2, n2, r2, k⟩ := r1.keep
    refine ⟨pp, us, by rw [e1, e3], .inr h1, fun l hl => ?_⟩
    obtain ⟨r3, n3⟩ := eo_new (o := .lst us) r2 hl
    exact ⟨N2, l, rfl, s1.free hl, s1.trans (Same.of_none hl), n1.trans n2, r3, n3, us, upd_same, (h2.imm f).mono k⟩)
theorem ev_ord {k : Nat} (ha : Ev X H0 ρ a (tx [k])) (hm : X.mg "ord" = none) (hg : Gl X "ord" := by rfl) (he : starEach [a] X.env = (false, eval a X.env) :: starEach [] X.env := by rfl) (hpl : (backTo pos (starEach [] X.env)).any (·.1) = false := by rfl) :
    Ev X H0 ρ (.Call (.Name "ord" p) [a] [] pos) (.int (k : Int)) := ev_blt call_ord hm (by decide +kernel) (eab1 ha.toB he) (fun vs σ H N Q r q g => by
    obtain ⟨v, e1, e2⟩ := ats_one q
    rw [at_str e2] at e1
    exact ⟨_, e1, rfl, goes_self g r (.int _)⟩) hg (by decide) (by decide) he hpl
theorem ev_intB {k : Bool} (ha : Ev X H0 ρ a (.bl k)) (hm : X.mg "int" = none) (hg : Gl X "int" := by rfl) (he : starEach [a] X.env = (false, eval a X.env) :: starEach [] X.env := by rfl) (hpl : (backTo pos (starEach [] X.env)).any (·.1) = false := by rfl) :
    Ev X H0 ρ (.Call (.Name "int" p) [a] [] pos) (.int (if k then 1 else 0)) := ev_ty call_int1 hm (by decide +kernel) (eab1 ha.toB he) (fun vs σ H N Q r q g => by
    obtain ⟨v, e1, e2⟩ := ats_one q
    rw [at_bl e2] at e1
    exact .inr ⟨k, e1, goes_self g r (.int _)⟩) hg (by decide) (by decide) he hpl

/-! ### slices -/
/-- a part of a slice -/
def EvP (X : Cx) (H0 : Hp) (ρ : Env') (e : Option Expr) (o : Option Int) : Prop := ∃ t : TO, PO X e t ∧ ∀ σ H N, Rep X.K H0 ρ σ H N → ∀ Q : Option Int → Hp → Prop, (∀ H' N', Same H H' → Same N N' → Rep X.K H0 ρ σ H' N' → Q o H') → t σ H Q
theorem eo_none : EvP X H0 ρ none none := ⟨_, po_none, fun σ H N r Q k => k H N (Same.refl _) (Same.refl _) r⟩
theorem eo_some {i : Int} (h : Ev X H0 ρ e (.int i)) : EvP X H0 ρ (some e) (some i) := ⟨_, po_some pe_w, fun σ H N r Q k => (h σ H N r).imp fun v H' ⟨N', s, n, r', a⟩ => ⟨i, at_int a, k H' N' s n r'⟩⟩
section
variable {lo hi : Option Expr} {l h : Option Int} {p2 : Pos}
theorem ev_slS {z : Str} (ha : Ev X H0 ρ a (.str z)) (hl : EvP X H0 ρ lo l) (hh : EvP X H0 ρ hi h) (hz : z.length ≤ sizeLine) : Ev X H0 ρ (.Subscript a (.Slice lo hi none p2) pos) (.str (Txt.slice z l h)) := fun σ H N rp => by
  obtain ⟨tl, pl, kl⟩ := hl
  obtain ⟨th, ph, kh⟩ := hh
  exact we_of (pe_slice C8.sl_txt pe_w pl ph) ((ha σ H N rp).imp fun v H1 ⟨N1, s1, n1, r1, a1⟩ => kl σ H1 N1 r1 _ fun H2 N2 s2 n2 r2 => kh σ H2 N2 r2 _ fun H3 N3 s3 n3 r3 =>
    ⟨z, at_str a1, hz, N3, (s1.trans s2).trans s3, (n1.trans n2).trans n3, r3, .str _⟩)
theorem eo_slL (ha : EvB X H0 ρ a (.lst ds)) (hl : EvP X H0 ρ lo l) (hh : EvP X H0 ρ hi h) (f : flats ds = true) : EvO X H0 ρ (.Subscript a (.Slice lo hi none p2) pos) (.lst (cut ds l h)) := fun σ H N rp => by
  obtain ⟨tl, pl, kl⟩ := hl
  obtain ⟨th, ph, kh⟩ := hh
  refine we_of (pe_slice sl_list pe_w pl ph) ((ha σ H N rp).imp fun v H1 ⟨N1, s1, n1, r1, a1⟩ => kl σ H1 N1 r1 _ fun H2 N2 s2 n2 r2 => kh σ H2 N2 r2 _ fun H3 N3 s3 n3 r3 => ?_)
  obtain ⟨pp, us, e3, h1, h2⟩ := at_lst ((a1.mono s2).mono s3)
  obtain ⟨N4, n4, r4, k⟩ := r3.keep
  refine ⟨pp, us, e3, h1, fun q hq => ?_⟩
  obtain ⟨r5, n5⟩ := eo_new (o := .lst (cutV us l h)) r4 hq
  refine ⟨N4, q, rfl, ((s1.trans s2).trans s3).free hq, ((s1.trans s2).trans s3).trans (Same.of_none hq), ((n1.trans n2).trans n3).trans n4, r5, n5, _, upd_same, ?_⟩
  have := ((h2.imm f).mono k)
  unfold cutV cut
  rw [h2.length]
  exact (this.drop _).take _
theorem ev_slT (ha : Ev X H0 ρ a (.tup ds)) (hl : EvP X H0 ρ lo l) (hh : EvP X H0 ρ hi h) : Ev X H0 ρ (.Subscript a (.Slice lo hi none p2) pos) (.tup (cut ds l h)) := fun σ H N rp => by
  obtain ⟨tl, pl, kl⟩ := hl
  obtain ⟨th, ph, kh⟩ := hh
  refine we_of (pe_slice sl_tupA pe_w pl ph) ((ha σ H N rp).imp fun v H1 ⟨N1, s1, n1, r1, a1⟩ => kl σ H1 N1 r1 _ fun H2 N2 s2 n2 r2 => kh σ H2 N2 r2 _ fun H3 N3 s3 n3 r3 => ?_)
  obtain ⟨pp, us, e3, h1, h2⟩ := at_seq ((a1.mono n2).mono n3)
  refine ⟨pp, us, e3, sqt_same r3.sub h1, fun hw => ?_, fun hw q hq => ?_⟩
  · refine ⟨N3, (s1.trans s2).trans s3, (n1.trans n2).trans n3, r3, ?_⟩
    have e : cut ds l h = ds := by
      unfold cut
      rw [h2.length] at hw
      rw [hw.1, hw.2]
      simp
    rw [e]
    exact .tup h1 h2
  · obtain ⟨r5, n5⟩ := r3.new (o := .tup (cutV us l h)) hq
    have hh : ∀ Z, Ats X.K Z us ds → Ats X.K Z (cutV us l h) (cut ds l h) := fun Z z => by
      unfold cutV cut
      rw [h2.length]
      exact (z.drop _).take _
    exact ⟨_, ((s1.trans s2).trans s3).trans (Same.of_none hq), ((n1.trans n2).trans n3).trans n5, r5, .tup (.inl (.inl upd_same)) (hh _ (h2.mono n5))⟩
end

/-! ### texts -/
theorem ev_ixX {l : List Nat} {i : Int} {k : Nat} (ha : Ev X H0 ρ a (tx l)) (hb : Ev X H0 ρ b (.int i)) (hz : l.length ≤ sizeLine) (q : atI l i = some k) (hs : PlainIx b := by exact fun _ _ => rfl) : Ev X H0 ρ (.Subscript a b pos) (tx [k]) :=
  ev_ixS (z := SX.S l) ha hb (by rw [SX.S_len]; exact hz) q hs
theorem ev_catX {l m : List Nat} (ha : Ev X H0 ρ a (tx l)) (hb : Ev X H0 ρ b (tx m)) (hz : l.length + m.length ≤ sizeLine) : Ev X H0 ρ (.BinOp a .Add b pos) (tx (l ++ m)) := by
  have := ev_cat (pos := pos) ha hb (by rw [SX.S_len, SX.S_len]; exact hz)
  rw [SX.S_cat] at this
  exact this
theorem et_eqX {l m : List Nat} (ha : Ev X H0 ρ a (tx l)) (hb : Ev X H0 ρ b (tx m)) : EvT X H0 ρ (.Compare a [.Eq] [b] pos) (decide (l = m)) := by
  have := et_eqS (pos := pos) ha hb
  rw [show decide (SX.S l = SX.S m) = decide (l = m) from decide_eq_decide.mpr ⟨SX.S_inj, fun e => by rw [e]⟩] at this
  exact this
theorem ev_eqX {l m : List Nat} (ha : Ev X H0 ρ a (tx l)) (hb : Ev X H0 ρ b (tx m)) : Ev X H0 ρ (.Compare a [.Eq] [b] pos) (.bl (decide (l = m))) := by
  have := ev_eqS (pos := pos) ha hb
  rw [show decide (SX.S l = SX.S m) = decide (l = m) from decide_eq_decide.mpr ⟨SX.S_inj, fun e => by rw [e]⟩] at this
  exact this
theorem et_neX {l m : List Nat} (ha : Ev X H0 ρ a (tx l)) (hb : Ev X H0 ρ b (tx m)) : EvT X H0 ρ (.Compare a [.NotEq] [b] pos) (!decide (l = m)) := by
  have := et_neS (pos := pos) ha hb
  rw [show decide (SX.S l = SX.S m) = decide (l = m) from decide_eq_decide.mpr ⟨SX.S_inj, fun e => by rw [e]⟩] at this
  exact this
theorem ev_neX {l m : List Nat} (ha : Ev X H0 ρ a (tx l)) (hb : Ev X H0 ρ b (tx m)) : Ev X H0 ρ (.Compare a [.NotEq] [b] pos) (.bl (!decide (l = m))) := by
  have := ev_neS (pos := pos) ha hb
  rw [show decide (SX.S l = SX.S m) = decide (l = m) from decide_eq_decide.mpr ⟨SX.S_inj, fun e => by rw [e]⟩] at this
  exact this
theorem et_inX {k : Nat} {l : List Nat} (ha : Ev X H0 ρ a (tx [k])) (hb : Ev X H0 ρ b (tx l)) (hm : behindInMarks .In b = false := by rfl) : EvT X H0 ρ (.Compare a [.In] [b] pos) (decide (k ∈ l)) :=
  evt_bin (fun _ _ h k => pt_cmpR op_in_sign h k hm) ha.toB hb.toB fun x y σ H N Q r p q g => ⟨k, SX.S l, at_str p, at_str q, goes_self g r (.bl _)⟩
theorem et_ninX {k : Nat} {l : List Nat} (ha : Ev X H0 ρ a (tx [k])) (hb : Ev X H0 ρ b (tx l)) (hm : behindInMarks .NotIn b = false := by rfl) : EvT X H0 ρ (.Compare a [.NotIn] [b] pos) (!decide (k ∈ l)) :=
  evt_bin (fun _ _ h k => pt_cmpR op_notIn_sign h k hm) ha.toB hb.toB fun x y σ H N Q r p q g => ⟨k, SX.S l, at_str p, at_str q, goes_self g r (.bl _)⟩
theorem ev_inX {k : Nat} {l : List Nat} (ha : Ev X H0 ρ a (tx [k])) (hb : Ev X H0 ρ b (tx l)) (hm : behindInMarks .In b = false := by rfl) : Ev X H0 ρ (.Compare a [.In] [b] pos) (.bl (decide (k ∈ l))) :=
  ev_bin (fun _ _ h k => pe_cmpR op_in_sign h k hm) ha.toB hb.toB fun x y σ H N Q r p q g => ⟨k, SX.S l, at_str p, at_str q, goes_self g r (.bl _)⟩
theorem ev_ninX {k : Nat} {l : List Nat} (ha : Ev X H0 ρ a (tx [k])) (hb : Ev X H0 ρ b (tx l)) (hm : behindInMarks .NotIn b = false := by rfl) : Ev X H0 ρ (.Compare a [.NotIn] [b] pos) (.bl (!decide (k ∈ l))) :=
  ev_bin (fun _ _ h k => pe_cmpR op_notIn_sign h k hm) ha.toB hb.toB fun x y σ H N Q r p q g => ⟨k, SX.S l, at_str p, at_str q, goes_self g r (.bl _)⟩
theorem it_tx {t : Expr} {l : List Nat} (h : Ev X H0 ρ e (tx l)) : Iter X H0 ρ t e (l.map fun k => tx [k]) := it_str (z := SX.S l) h

theorem ev_lit {z : Str} {l : List Nat} {j} (h : z = SX.S l := by decide +kernel) : Ev X H0 ρ (.Constant (.str z) j pos) (tx l) := by
  subst h
  exact ev_str

/-! ### methods of texts -/
theorem ev_m1 {id : String} {name : Str} {apos : Pos} {r : V → List V → Hp → VK → Prop} {z : Str} (slot : Slot "str" name id) (ty : typeOf (.builtin id) = pure (.type "method_descriptor")) (rule : MtR X id r) (ha : Ev X H0 ρ a (.str z)) (hb : EvB X H0 ρ b d1)
    (hr : ∀ y σ H N Q, Rep X.K H0 ρ σ H N → At X.K H y d1 → Goes X.K H0 ρ σ H N d Q → r (.str z) [y] H Q)
    (hs : starEach [b] X.env = [(false, eval b X.env)] := by rfl) (hbase : attributeBase a name X.env (eval a X.env) = eval a X.env := by rfl) (hline : (apos.endLine == pos.line) = true := by rfl) :
    Ev X H0 ρ (.Call (.Attribute a name apos) [b] [] pos) d := fun σ H N rp =>
  we_of (pe_m1 slot ty rule pe_w pe_w hs hbase hline) ((ha σ H N rp).imp fun v H1 ⟨N1, s1, n1, r1, a1⟩ => by
    rw [at_str a1]
    exact ⟨⟨z, rfl⟩, (hb σ H1 N1 r1).imp fun y H2 ⟨N2, s2, n2, r2, a2⟩ => hr y σ H2 N2 _ r2 a2 fun v H' N' s n rr aa => ⟨N', (s1.trans s2).trans s, (n1.trans n2).trans n, rr, aa⟩⟩)
section
variable {z y : Str} {apos : Pos} (ha : Ev X H0 ρ a (.str z)) (hb : Ev X H0 ρ b (.str y)) (hs : starEach [b] X.env = [(false, eval b X.env)]) (hline : (apos.endLine == pos.line) = true)
include ha hb hs hline
theorem ev_find0 (hbase : attributeBase a "find" X.env (eval a X.env) = eval a X.env) : Ev X H0 ρ (.Call (.Attribute a "find" apos) [b] [] pos) (.int (Txt.find z y)) :=
  ev_m1 F.slot_str_find F.type_str_find mt_find ha hb.toB (fun v σ H N Q r q g => ⟨z, y, rfl, by rw [at_str q], goes_self g r (.int _)⟩) hs hbase hline
theorem ev_count0 (hbase : attributeBase a "count" X.env (eval a X.env) = eval a X.env) : Ev X H0 ρ (.Call (.Attribute a "count" apos) [b] [] pos) (.int (Txt.count z y)) :=
  ev_m1 F.slot_str_count F.type_str_count mt_count ha hb.toB (fun v σ H N Q r q g => ⟨z, y, rfl, by rw [at_str q], goes_self g r (.int _)⟩) hs hbase hline
theorem ev_starts0 (hbase : attributeBase a "startswith" X.env (eval a X.env) = eval a X.env) : Ev X H0 ρ (.Call (.Attribute a "startswith" apos) [b] [] pos) (.bl (Txt.startswith z y)) :=
  ev_m1 F.slot_str_startswith F.type_str_startswith mt_startswith ha hb.toB (fun v σ H N Q r q g => ⟨z, y, rfl, by rw [at_str q], goes_self g r (.bl _)⟩) hs hbase hline
end
theorem ats_strs {K : PySem.W.Frag} {H : Hp} : ∀ {vs : List V} {ys : List Str}, Ats K H vs (ys.map .str) → vs = ys.map .str
  | [], [], _ => rfl
  | _ :: _, n :: ns, .cons a t => by
    cases a
    rw [ats_strs t]
    rfl
  | [], _ :: _, h => by cases h
  | _ :: _, [], h => by cases h
theorem ev_join {z : Str} {ys : List Str} {apos : Pos} (ha : Ev X H0 ρ a (.str z)) (hb : EvB X H0 ρ b (.lst (ys.map .str))) (hz : (ys.map (·.length)).sum + ys.length * z.length ≤ 16777216)
    (hs : starEach [b] X.env = [(false, eval b X.env)] := by rfl) (hbase : attributeBase a "join" X.env (eval a X.env) = eval a X.env := by rfl) (hline : (apos.endLine == pos.line) = true := by rfl) :
    Ev X H0 ρ (.Call (.Attribute a "join" apos) [b] [] pos) (.str (Txt.join z ys)) :=
  ev_m1 F.slot_str_join F.type_str_join mt_join ha hb (fun v σ H N Q r q g => by
    obtain ⟨pp, us, e3, h1, h2⟩ := at_lst q
    rw [ats_strs h2] at h1
    exact ⟨z, pp, ys, rfl, by rw [e3], .inl h1, hz, goes_self g r (.str _)⟩) hs hbase hline
end

/-! ### data that may be compared -/
def okn : Nat → Dat → Bool
  | _, .non => true
  | _, .bl _ => true
  | _, .int _ => true
  | _, .str s => PyData.strOk s
  | n + 1, .tup ds => ds.all (okn n)
  | n + 1, .lst ds => ds.all (okn n)
  | 0, .tup _ => false
  | 0, .lst _ => false
  | _, .dic _ => false
theorem okn_ok : ∀ (n : Nat) (d : Dat), okn n d = true → nodic d = true ∧ (pd d).canLay0 = true ∧ (pd d).depth ≤ n
  | n, .non, _ => ⟨rfl, rfl, Nat.zero_le _⟩
  | n, .bl _, _ => ⟨rfl, rfl, Nat.zero_le _⟩
  | n, .int _, _ => ⟨rfl, rfl, Nat.zero_le _⟩
  | n, .str s, h => by
    have h' : PyData.strOk s = true := by cases n <;> exact h
    exact ⟨rfl, h', Nat.zero_le _⟩
  | n + 1, .tup ds, h => by
    have k : ∀ ds : List Dat, ds.all (okn n) = true → nodics ds = true ∧ PyData.canLayAll0 (pds ds) = true ∧ PyData.depthAll (pds ds) ≤ n := by
      intro ds
      induction ds with
      | nil => intro _; exact ⟨rfl, rfl, Nat.zero_le _⟩
      | cons d r ih =>
        intro q
        rw [List.all_cons, Bool.and_eq_true] at q
        obtain ⟨a1, a2, a3⟩ := okn_ok n d q.1
        obtain ⟨b1, b2, b3⟩ := ih q.2
        refine ⟨?_, ?_, ?_⟩
        · show (nodic d && nodics r) = true; rw [a1, b1]; rfl
        · show ((pd d).canLay0 && PyData.canLayAll0 (pds r)) = true; rw [a2, b2]; rfl
        · show max (pd d).depth (PyData.depthAll (pds r)) ≤ n; omega
    obtain ⟨c1, c2, c3⟩ := k ds h
    exact ⟨c1, c2, Nat.succ_le_succ c3⟩
  | n + 1, .lst ds, h => by
    have k : ∀ ds : List Dat, ds.all (okn n) = true → nodics ds = true ∧ PyData.canLayAll0 (pds ds) = true ∧ PyData.depthAll (pds ds) ≤ n := by
      intro ds
      induction ds with
      | nil => intro _; exact ⟨rfl, rfl, Nat.zero_le _⟩
      | cons d r ih =>
        intro q
        rw [List.all_cons, Bool.and_eq_true] at q
        obtain ⟨a1, a2, a3⟩ := okn_ok n d q.1
        obtain ⟨b1, b2, b3⟩ := ih q.2
        refine ⟨?_, ?_, ?_⟩
        · show (nodic d && nodics r) = true; rw [a1, b1]; rfl
        · show ((pd d).canLay0 && PyData.canLayAll0 (pds r)) = true; rw [a2, b2]; rfl
        · show max (pd d).depth (PyData.depthAll (pds r)) ≤ n; omega
    obtain ⟨c1, c2, c3⟩ := k ds h
    exact ⟨c1, c2, Nat.succ_le_succ c3⟩
  | 0, .tup _, h => by cases h
  | 0, .lst _, h => by cases h
  | n, .dic _, h => by cases n <;> cases h
theorem okD_of {n : Nat} {d : Dat} (h : okn n d = true) (hn : n ≤ 64 := by decide) : okD d = true := by
  obtain ⟨a1, a2, a3⟩ := okn_ok n d h
  unfold okD SeqAt.shaped
  rw [a1, a2, decide_eq_true (Nat.le_trans a3 hn)]
  rfl
theorem okD_ints (ns : List Int) : okD (.lst (ns.map .int)) = true := okD_of (n := 1) (by show (ns.map Dat.int).all (okn 0) = true; rw [List.all_map]; exact List.all_eq_true.mpr fun _ _ => rfl)
theorem eqv_ints : ∀ (ns ms : List Int), PyData.eqv (pd (.lst (ns.map .int))) (pd (.lst (ms.map .int))) = decide (ns = ms)
  | [], [] => rfl
  | [], _ :: _ => rfl
  | _ :: _, [] => rfl
  | n :: ns, m :: ms => by
    have ih := eqv_ints ns ms
    show ((n == m) && PyData.eqvAll (pds (ns.map .int)) (pds (ms.map .int))) = _
    have ih' : PyData.eqvAll (pds (ns.map .int)) (pds (ms.map .int)) = decide (ns = ms) := ih
    rw [ih']
    by_cases h1 : n = m
    · subst h1
      simp
    · simp [h1]
/-- a loop over a row, the state by the number of turns -/
theorem for_rows {X : Cx} {H0 : Hp} {bd : Dat → Env' → Env'} {body : List Stmt} : ∀ {ds : List Dat} (ρ : Nat → Env'), (∀ (i : Nat) (d : Dat), ds[i]? = some d → Exec X H0 (bd d (ρ i)) body (.nx (ρ (i + 1)))) → ForT X H0 bd body ds (ρ 0) (.nx (ρ ds.length))
  | [], _, _ => .nil
  | d :: ds, ρ, h => .turn (h 0 d rfl) (for_rows (fun i => ρ (i + 1)) fun i e he => h (i + 1) e he)
theorem for_steps {X : Cx} {H0 : Hp} {bd : Dat → Env' → Env'} {body : List Stmt} {lo c : Int} {n : Nat} (ρ : Nat → Env') (h : ∀ i : Nat, i < n → Exec X H0 (bd (.int (lo + (i : Int) * c)) (ρ i)) body (.nx (ρ (i + 1)))) : ForT X H0 bd body (steps lo c n) (ρ 0) (.nx (ρ n)) := by
  have := for_rows (X := X) (H0 := H0) (bd := bd) (body := body) (ds := steps lo c n) ρ (fun i d hd => by
    have hi : i < n := by have := lt_of_get hd; rwa [steps_len] at this
    rw [steps_get hi] at hd
    cases hd
    exact h i hi)
  rwa [steps_len] at this
theorem flats_ints (ns : List Int) : flats (ns.map .int) = true := by
  induction ns with
  | nil => rfl
  | cons n ns ih => exact ih
end B

namespace B
open PySem PySem.Spec PyProof.Rows L2

/-! ### a text so many times -/
theorem foldl_cat {α : Type} (l : List α) : ∀ (k : Nat) (acc : Array α), ((List.replicate k l.toArray).foldl (· ++ ·) acc) = (acc.toList ++ (List.replicate k l).flatten).toArray
  | 0, acc => by simp
  | k + 1, acc => by
    rw [List.replicate_succ, List.foldl_cons, foldl_cat l k, List.replicate_succ, List.flatten_cons]
    simp [List.append_assoc]
theorem mul_S {l : List Nat} {n : Int} : Txt.mul (SX.S l) n = SX.S (List.replicate n.toNat l).flatten := by
  unfold Txt.mul
  by_cases h1 : n < 1
  · rw [if_pos h1, show n.toNat = 0 by omega]
    rfl
  · rw [if_neg h1]
    split
    · rename_i h
      rw [Bool.or_eq_true] at h
      rcases h with h | h
      · rw [eq_of_beq h]
        show _ = SX.S (List.replicate 1 l).flatten
        simp
      · have e : l = [] := by
          have := eq_of_beq h
          rw [SX.S_len] at this
          exact List.length_eq_zero_iff.mp this
        subst e
        simp
    · have := foldl_cat l n.toNat #[]
      show (⟨(List.replicate n.toNat l.toArray).foldl (· ++ ·) #[]⟩ : Str) = _
      rw [this]
      simp
theorem op_mul_str {X : Cx} : OpR X (binaryOp .Mult) (fun x y H Q => ∃ z n, x = .str z ∧ y = .int n ∧ MulOk z n ∧ Q (.str (Txt.mul z n)) H) := by
  intro pins s σ H x y v u Q I rx ry h
  obtain ⟨i, j, rfl, rfl, hz, q⟩ := h
  obtain ⟨t, rfl⟩ := rx
  obtain ⟨t', rfl⟩ := ry
  exact SB.mul hz fun t' k => ⟨.str _, H, I.tok k, ⟨_, rfl⟩, q⟩
theorem mulOk_small {l : List Nat} {n : Int} (h1 : -100000 ≤ n) (h2 : n ≤ 100000) (h3 : l.length ≤ 100) : MulOk (SX.S l) n := by
  refine ⟨?_, fun a b => ?_, fun a b => ?_⟩
  · rw [decide_eq_false (by omega), decide_eq_false (by omega)]; rfl
  · rw [SX.S_len]
    have : (2 ^ 63 - 1) / 100000 ≤ (2 ^ 63 - 1) / n := by
      rw [Int.le_ediv_iff_mul_le (by omega)]
      have : (2 ^ 63 - 1) / 100000 * n ≤ (2 ^ 63 - 1) / 100000 * 100000 := Int.mul_le_mul_of_nonneg_left h2 (by decide)
      omega
    omega
  · rw [SX.S_len]
    have : l.length * n.toNat ≤ 100 * 100000 := Nat.mul_le_mul h3 (by omega)
    have e : sizeLine = 16777216 := by decide
    unfold Builtin.Str.tooLong
    first | exact decide_eq_false (by omega) | (simp; omega)

section
variable {X : Cx} {H0 : Hp} {ρ ρ1 ρ2 : Env'} {a b c e : Expr} {es : List Expr} {st : Stmt} {sts rest : List Stmt} {d d1 d2 : Dat} {ds : List Dat} {p pos : Pos} {o o1 : Outc} {x n : Str} {k : Nat}
theorem ev_repX {l : List Nat} {k : Int} (ha : Ev X H0 ρ a (tx l)) (hb : Ev X H0 ρ b (.int k)) (h : MulOk (SX.S l) k) : Ev X H0 ρ (.BinOp a .Mult b pos) (tx (List.replicate k.toNat l).flatten) :=
  ev_bin (fun _ _ h k => pe_op op_mul_str h k) ha.toB hb.toB fun x y σ H N Q r p q g => ⟨_, _, at_str p, at_int q, h, by rw [mul_S]; exact goes_self g r (.str _)⟩

/-! ### shifts to the left, wide -/
theorem ev_shlW {i : Int} {k : Nat} (ha : Ev X H0 ρ a (.int i)) (hb : Ev X H0 ρ b (.int (k : Int))) (h : CShl i (k : Int)) : Ev X H0 ρ (.BinOp a .LShift b pos) (.int (i * 2 ^ k)) := by
  have := ev_intop (pos := pos) ha hb (g := fun i j => i * 2 ^ j.toNat) op_shlW h
  rwa [Int.toNat_natCast] at this

/-! ### x += y -/
theorem sx_augI (i : Nat) {y : Str} {pos' : Pos} {k j : Int} (hi : ρ[i]? = some (.im (.int k))) (h : Ev X H0 ρ e (.int j)) (nd : X.N.Nodup) (hρ : ρ.set i (.im (.int (k + j))) = ρ1 := by rfl) (hN : X.N[i]? = some y := by rfl) (hx : Loc X.env.scope y := by first | exact Or.inl rfl | exact Or.inr rfl)
    (hp : ∀ te, PE X e te → PS X (.AugAssign (.Name y pos') .Add e pos) (tAug i te (ipI fun i j => i + j)) := by exact fun te h => ps_aug (by assumption) rfl (by first | exact Or.inl rfl | exact Or.inr rfl) h ip_add) :
    ExS X H0 ρ (.AugAssign (.Name y pos') .Add e pos) (.nx ρ1) := fun D σ H N r k => by
  obtain ⟨v, h1, h2⟩ := r.im i _ hi
  refine ws_of (hp _ pe_w) ⟨v, h1, (h σ H N r).imp fun w H' ⟨N', s, n, r', a⟩ => ⟨_, _, at_int h2, at_int a, k _ H' N' n (hρ ▸ r'.setE (e := .im (.int _)) (.int _))⟩⟩

/-! ### items of an owned list are set -/
theorem sx_setIx (i : Nat) {y : Str} {p1 p2 : Pos} {ix : Expr} {k : Int} {j : Nat} (hi : ρ[i]? = some (.ow (.lst ds))) (hv : Ev X H0 ρ e d) (hx : Ev X H0 ρ ix (.int k)) (hj : ixN ds.length k = some j) (hρ : ρ.set i (.ow (.lst (ds.set j d))) = ρ1 := by rfl) (hN : X.N[i]? = some y := by rfl)
    (hvis : Vis X.env.scope y := by first | exact Or.inl rfl | exact Or.inr (Or.inl rfl) | exact Or.inr (Or.inr rfl)) (hd : (y == ("__debug__" : Str)) = false := by decide) (hcd : (y == ("__classdict__" : Str)) = false := by decide)
    (hp : ∀ te to ti, PE X e te → PE X (.Name y p1) to → PE X ix ti → PS X (.Assign [.Subscript (.Name y p1) ix p2] e pos) (tAsg te (gSub to ti rSetL)) := by exact fun te to ti h g f => ps_asg h (pg_sub g f set_list)) :
    ExS X H0 ρ (.Assign [.Subscript (.Name y p1) ix p2] e pos) (.nx ρ1) := fun D σ H N r kk => by
  refine ws_of (hp _ _ _ pe_w (pv i hN hvis hd hcd) pe_w) ((hv σ H N r).imp fun v H1 ⟨N1, s1, n1, r1, a1⟩ => ?_)
  obtain ⟨q, g1, g2, g3, vs, g4, g5⟩ := r1.ow i _ hi
  refine ⟨_, g1, (hx σ H1 N1 r1).imp fun w H2 ⟨N2, s2, n2, r2, a2⟩ => ?_⟩
  obtain ⟨q', f1, f2, f3, us, f4, f5⟩ := r2.ow i _ hi
  rw [g1] at f1
  cases f1
  refine ⟨q, us, k, j, rfl, at_int a2, f4, by rw [f5.length]; exact hj, kk σ _ N2 (n1.trans n2) ?_⟩
  exact hρ ▸ r2.write hi g1 ⟨us.set j v, upd_same, f5.set (a1.mono n2) j⟩
/-- o[i], an item of a list, by values -/
def rGetL : V → V → Hp → VK → Prop := fun o i H Q => ∃ p xs j v, o = .ref p ∧ i = .int ((j : Nat) : Int) ∧ H p = some (.lst xs) ∧ xs[j]? = some v ∧ Q v H
theorem get_list : PGet X rGetL := by
  intro pins s σ H o i ov iv Q I ro ri h
  obtain ⟨p, xs, j, z, rfl, rfl, hp, he, q⟩ := h
  cases ro
  obtain ⟨t, rfl⟩ := ri
  obtain ⟨its, r, pl, hz⟩ := I.list (.inl (.inl hp))
  obtain ⟨w, ew, rw'⟩ := r.get he
  have hj := lt_of_get he
  have hl := r.length
  have hn := line63
  exact wpAny_getItem_list pl.isList (by omega) (by omega) (by simpa using ew) ⟨z, H, I, rw', q⟩
theorem sx_augIx (i : Nat) {y : Str} {p1 p2 : Pos} {ix : Expr} {k l : Int} {j : Nat} (hi : ρ[i]? = some (.ow (.lst ds))) (hx : Ev X H0 ρ ix (.int (j : Int))) (hj : ds[j]? = some (.int k)) (hv : Ev X H0 ρ e (.int l)) (hρ : ρ.set i (.ow (.lst (ds.set j (.int (k + l))))) = ρ1 := by rfl) (hN : X.N[i]? = some y := by rfl)
    (hvis : Vis X.env.scope y := by first | exact Or.inl rfl | exact Or.inr (Or.inl rfl) | exact Or.inr (Or.inr rfl)) (hd : (y == ("__debug__" : Str)) = false := by decide) (hcd : (y == ("__classdict__" : Str)) = false := by decide)
    (hp : ∀ te to ti, PE X e te → PE X (.Name y p1) to → PE X ix ti → PS X (.AugAssign (.Subscript (.Name y p1) ix p2) .Add e pos) (tAugS to ti te rGetL (ipI fun i j => i + j) rSetL) := by exact fun te to ti h g f => ps_augS g f get_list h ip_add set_list) :
    ExS X H0 ρ (.AugAssign (.Subscript (.Name y p1) ix p2) .Add e pos) (.nx ρ1) := fun D σ H N r kk => by
  obtain ⟨q, g1, g2, g3, vs, g4, g5⟩ := r.ow i _ hi
  refine ws_of (hp _ _ _ pe_w (pv i hN hvis hd hcd) pe_w) ⟨_, g1, (hx σ H N r).imp fun w H1 ⟨N1, s1, n1, r1, a1⟩ => ?_⟩
  obtain ⟨q', f1, f2, f3, us, f4, f5⟩ := r1.ow i _ hi
  rw [g1] at f1
  cases f1
  obtain ⟨z, z1, z2⟩ := f5.get hj
  refine ⟨q, us, j, z, rfl, at_int a1, f4, z1, (hv σ H1 N1 r1).imp fun u H2 ⟨N2, s2, n2, r2, a2⟩ => ⟨k, l, at_int z2, at_int a2, ?_⟩⟩
  obtain ⟨q', f1, f2, f3, us2, f6, f7⟩ := r2.ow i _ hi
  rw [g1] at f1
  cases f1
  have hlt : j < us2.length := by rw [f7.length]; exact lt_of_get hj
  refine ⟨q, us2, j, j, rfl, at_int a1, f6, ?_, kk σ _ N2 (n1.trans n2) ?_⟩
  · unfold ixN
    rw [if_pos (by omega), if_pos (by omega), Int.toNat_natCast]
  · exact hρ ▸ r2.write hi g1 ⟨us2.set j (.int (k + l)), upd_same, f7.set (.int _) j⟩

/-! ### casts, joins, ends by an error -/
theorem eb_to (h : EvB X H0 ρ e d1) (hk : d1 = d) : EvB X H0 ρ e d := hk ▸ h
theorem eo_to (h : EvO X H0 ρ e d1) (hk : d1 = d) : EvO X H0 ρ e d := hk ▸ h
theorem ev_joinX {l : List Nat} {yss : List (List Nat)} {apos : Pos} (ha : Ev X H0 ρ a (tx l)) (hb : EvB X H0 ρ b (.lst (yss.map tx))) (hz : (yss.map (·.length)).sum + yss.length * l.length ≤ 16777216)
    (hs : starEach [b] X.env = [(false, eval b X.env)] := by rfl) (hbase : attributeBase a "join" X.env (eval a X.env) = eval a X.env := by rfl) (hline : (apos.endLine == pos.line) = true := by rfl) :
    Ev X H0 ρ (.Call (.Attribute a "join" apos) [b] [] pos) (tx (TL.joinL l yss)) := by
  have h := ev_join (z := SX.S l) (ys := yss.map SX.S) (apos := apos) (pos := pos) ha (by rw [List.map_map]; exact hb) (by rw [SX.lens, List.length_map, SX.S_len]; exact hz) hs hbase hline
  rw [SX.join_S] at h
  exact h
theorem Rep.nos {K : PySem.W.Frag} {H N : Hp} {σ : L2.St} (r : Rep K H0 ρ σ H N) : Rep K H0 (List.replicate ρ.length .no) σ H N where
  old := r.old
  sub := r.sub
  imm := r.imm
  fresh := r.fresh
  len := by rw [List.length_replicate, r.len]
  im := fun i d h => by rw [List.getElem?_replicate] at h; split at h <;> cases h
  ol := fun i d h => by rw [List.getElem?_replicate] at h; split at h <;> cases h
  ow := fun i d h => by rw [List.getElem?_replicate] at h; split at h <;> cases h
  rf := fun i a h => by rw [List.getElem?_replicate] at h; split at h <;> cases h
  apart := fun i j d d' p _ h => by rw [List.getElem?_replicate] at h; split at h <;> cases h
/-- behind an error nothing is asked of the names -/
theorem ex_nos (h : Exec X H0 ρ sts (.ex n ρ1)) (hk : ρ1.length = k) : Exec X H0 ρ sts (.ex n (List.replicate k .no)) := fun D σ H N r ⟨W, tk, q⟩ =>
  h D σ H N r ⟨W, tk, fun C σ' H' N' m s r' => q C σ' H' N' m s (hk ▸ r'.nos)⟩
end
theorem slice_cut (l : List Nat) (lo hi : Option Int) : Txt.slice (SX.S l) lo hi = SX.S (cut l lo hi) := by
  rw [← C8.cutS_slice]
  unfold cutS cut
  rw [SX.S_len]
theorem ev_slX {X : Cx} {H0 : Hp} {ρ : Env'} {a : Expr} {pos p2 : Pos} {lo hi : Option Expr} {i j : Option Int} {l : List Nat} (ha : Ev X H0 ρ a (tx l)) (hl : EvP X H0 ρ lo i) (hh : EvP X H0 ρ hi j) (hz : l.length ≤ sizeLine) : Ev X H0 ρ (.Subscript a (.Slice lo hi none p2) pos) (tx (cut l i j)) := by
  have := ev_slS (pos := pos) (p2 := p2) (z := SX.S l) ha hl hh (by rw [SX.S_len]; exact hz)
  rw [slice_cut] at this
  exact this
theorem cut_to {α : Type} {l : List α} {i : Int} (h : 0 ≤ i) : cut l none (some i) = l.take i.toNat := by
  obtain ⟨k, rfl⟩ := Int.eq_ofNat_of_zero_le h
  show (l.drop 0).take (HT.sIx l.length l.length (some ((k : Nat) : Int)) - 0) = _
  rw [HT.sIx_nat, List.drop_zero, Nat.sub_zero, Int.toNat_natCast]
  by_cases hk : k ≤ l.length
  · rw [Nat.min_eq_left hk]
  · rw [Nat.min_eq_right (by omega), List.take_of_length_le (Nat.le_refl _), List.take_of_length_le (by omega)]
theorem cut_from {α : Type} {l : List α} {i : Int} (h : 0 ≤ i) : cut l (some i) none = l.drop i.toNat := by
  obtain ⟨k, rfl⟩ := Int.eq_ofNat_of_zero_le h
  show (l.drop (HT.sIx l.length 0 (some ((k : Nat) : Int)))).take (l.length - HT.sIx l.length 0 (some ((k : Nat) : Int))) = _
  rw [HT.sIx_nat, Int.toNat_natCast]
  by_cases hk : k ≤ l.length
  · rw [Nat.min_eq_left hk, List.take_of_length_le (by rw [List.length_drop]; omega)]
  · rw [Nat.min_eq_right (by omega), List.drop_of_length_le (Nat.le_refl _), List.drop_of_length_le (by omega)]
    simp
theorem cut_mid {α : Type} {l : List α} {i j : Int} (h : 0 ≤ i) (h2 : 0 ≤ j) : cut l (some i) (some j) = (l.take j.toNat).drop i.toNat := by
  obtain ⟨k, rfl⟩ := Int.eq_ofNat_of_zero_le h
  obtain ⟨m, rfl⟩ := Int.eq_ofNat_of_zero_le h2
  show (l.drop (HT.sIx l.length 0 (some ((k : Nat) : Int)))).take (HT.sIx l.length l.length (some ((m : Nat) : Int)) - HT.sIx l.length 0 (some ((k : Nat) : Int))) = _
  rw [HT.sIx_nat, HT.sIx_nat, Int.toNat_natCast, Int.toNat_natCast, ← List.drop_take]
  by_cases hk : k ≤ l.length
  · rw [Nat.min_eq_left hk]
    by_cases hm : m ≤ l.length
    · rw [Nat.min_eq_left hm]
    · rw [Nat.min_eq_right (by omega), List.take_of_length_le (Nat.le_refl _), List.take_of_length_le (by omega)]
  · rw [Nat.min_eq_right (by omega)]
    rw [List.drop_of_length_le (by rw [List.length_take]; omega), List.drop_of_length_le (by rw [List.length_take]; omega)]
theorem dlen_tx {l : List Nat} (h : l.length ≤ sizeLine) : dlen (tx l) = some l.length := by
  show (if (SX.S l).length ≤ sizeLine then some (SX.S l).length else none) = _
  rw [SX.S_len, if_pos h]
theorem at_nat {l : List Nat} {i : Int} {k : Nat} (h0 : 0 ≤ i) (h : l[i.toNat]? = some k) : atI l i = some k := by
  have := atI_nat (v := k) h
  rwa [Int.toNat_of_nonneg h0] at this
theorem at_dat {l : List Dat} {i : Int} {k : Dat} (h0 : 0 ≤ i) (h : l[i.toNat]? = some k) : atI l i = some k := by
  have := atI_nat (v := k) h
  rwa [Int.toNat_of_nonneg h0] at this
end B

namespace B
open PySem PySem.Spec PyProof.Rows L2
section
variable {X : Cx} {H0 : Hp} {ρ ρ1 ρ2 : Env'} {a b c e : Expr} {es : List Expr} {st : Stmt} {sts rest : List Stmt} {d d1 d2 : Dat} {ds : List Dat} {p pos : Pos} {o o1 : Outc} {x n : Str}
/-- a name is given what a comprehension makes -/
theorem sx_setLc (j0 : Nat) {elt tg iter : Expr} {ifs : List Expr} {scope : Scope} {xn y : Str} (i : Nat) {pos py spos : Pos} (hc : X.calm = true) (nd : X.N.Nodup) (hi : Iter X H0 ρ tg iter ds) (ok : blkC X.N X.env.scope scope [(xn, i)] = true) (hx : ρ[i]? = some .no) (f : Dat → Bool) (g : Dat → Dat)
    (htg : ∀ (s : Shared) (H : Hp) (C : Addr) (cl : List (Str × Addr)) (fp : List Addr), PG (X.blk s H scope (compEnvC scope cl C X.env) fp) tg (gName i))
    (hif : (ifs = [] ∧ ∀ d ∈ ds, f d = true) ∨ ∃ c, ifs = [c] ∧ ∀ (H0' : Hp) (s : Shared) (H : Hp) (C : Addr) (cl : List (Str × Addr)) (fp : List Addr), Same H0 H0' → ∀ d ∈ ds, EvT (X.blk s H scope (compEnvC scope cl C X.env) fp) H0' (ρ.set i (.im d)) c (f d))
    (hel : ∀ (H0' : Hp) (s : Shared) (H : Hp) (C : Addr) (cl : List (Str × Addr)) (fp : List Addr), Same H0 H0' → ∀ d ∈ ds, f d = true → Ev (X.blk s H scope (compEnvC scope cl C X.env) fp) H0' (ρ.set i (.im d)) elt (g d))
    (hz : ds.length < sizeLine) (hρ : ρ.set j0 (.ow (.lst ((ds.filter f).map g))) = ρ1 := by rfl) (hs : ∀ x, foldedSetIterable iter X.env x = pure x := by intro _; rfl) (hy : X.N[j0]? = some y := by rfl) (hyl : X.env.scope.names.lookup y = some .local := by rfl)
    (hsw : swapsWith (.ListComp elt [⟨tg, iter, ifs, 0⟩] scope pos) (some (.Name y py)) spos.line X.env = pure true := by rfl) :
    ExS X H0 ρ (.Assign [.Name y py] (.ListComp elt [⟨tg, iter, ifs, 0⟩] scope pos) spos) (.nx ρ1) := fun DD σ H N r kk => by
  obtain ⟨wi, pi, hw⟩ := hi
  have pts : ∀ (s : Shared) (H : Hp) (C : Addr) (cl : List (Str × Addr)) (fp : List Addr), PTs (X.blk s H scope (compEnvC scope cl C X.env) fp) ifs
      (fun σ H Q => (ifs = [] ∧ Q true H) ∨ ∃ c, ifs = [c] ∧ ∀ s H' C cl fp, WT (X.blk s H' scope (compEnvC scope cl C X.env) fp) c σ H Q) := fun s H C cl fp => ⟨fun pins s' σ H Q I h => by
    rcases h with ⟨rfl, h⟩ | ⟨c, rfl, h⟩
    · exact pts_nil.run pins s' σ H Q I h
    · exact (pts_one pt_w).run pins s' σ H Q I (h _ _ _ _ _)⟩
  have pes : ∀ (s : Shared) (H : Hp) (C : Addr) (cl : List (Str × Addr)) (fp : List Addr), PE (X.blk s H scope (compEnvC scope cl C X.env) fp) elt
      (fun σ H Q => ∀ s H' C cl fp, WE (X.blk s H' scope (compEnvC scope cl C X.env) fp) elt σ H Q) := fun s H C cl fp => ⟨fun pins s' σ H Q I h => h _ _ _ _ _ pins s' I⟩
  refine ws_of (ps_setLc hc nd hy hyl hsw pi (blkOk_by ok) htg pts pes hs) (hw σ H N r _ fun J H1 N1 n1 s1 r1 w => fun D hD => ?_)
  have hiσ : i < σ.length := by rw [← r.len]; exact lt_of_get hx
  refine ⟨fun j m H' => m = ds.length - j ∧ j ≤ ds.length ∧ ∃ N' acc, Same N1 N' ∧ Same H1 H' ∧ Rep X.K H0 ρ σ H' N' ∧ N' D = none ∧ H' D = some (.lst acc) ∧ Ats X.K N' acc (((ds.take j).filter f).map g), ⟨_, rfl, Nat.zero_le _, N1, [], Same.refl _, Same.of_none hD, r1.grow (Same.of_none hD), r1.sub.free hD, upd_same, by simpa using Ats.nil⟩, ?_⟩
  rintro j m H' ⟨rfl, hj, N', acc, s', e', r', dN, dH, aa⟩
  have h0D : H0 D = none := r1.old.free hD
  have npD : ∀ (q : Nat) d, ρ[q]? = some (Ent.ow d) → σ[q]? ≠ some (some (V.ref D)) := no_own r1 hD
  obtain ⟨wg, wst⟩ := w (upd H0 D (.lst acc)) ρ σ H' N' j (Same.of_none h0D) s' (r'.toOld h0D dH dN npD)
  by_cases hlt : j < ds.length
  · obtain ⟨go, yl⟩ := wg hlt
    have et : ds.take (j + 1) = ds.take j ++ [ds[j]] := by rw [List.take_succ, List.getElem?_eq_getElem hlt]; rfl
    refine .inr ⟨go, fun H' => ∃ N' acc, Same N1 N' ∧ Same H1 H' ∧ Rep X.K H0 ρ σ H' N' ∧ N' D = none ∧ H' D = some (.lst acc) ∧ Ats X.K N' acc (((ds.take (j + 1)).filter f).map g), fun H2 q => ⟨_, by omega, rfl, hlt, q⟩, fun x H2 y => ?_⟩
    obtain ⟨N2, d, n2, e2, r2, e3, a2⟩ := yl x H2 y
    have ed : d = ds[j] := by
      rw [List.getElem?_eq_getElem hlt] at e3
      exact (Option.some.inj e3).symm
    subst ed
    have dH2 : H2 D = some (.lst acc) := e2 _ _ dH
    have np : ∀ (q : Nat) d, ρ[q]? = some (Ent.ow d) → σ[q]? ≠ some (some (V.ref D)) := no_own r1 hD
    have d0 : Same H0 (upd H0 D (.lst acc)) := Same.of_none h0D
    have mem : ds[j] ∈ ds := List.getElem_mem hlt
    have dH2 : H2 D = some (.lst acc) := e2 _ _ dH
    have r2' : Rep X.K (upd H0 D (.lst acc)) ρ σ H2 N2 := r2
    have rs := r2'.setE (i := i) (v := x) (e := .im ds[j]) a2
    have ws : (wipe σ [i]).set i (some x) = σ.set i (some x) := by show (σ.set i none).set i (some x) = _; rw [List.set_set]
    show wipe ((wipe σ [i]).set i (some x)) [i] = wipe σ [i] ∧ _
    refine ⟨by rw [ws]; show (σ.set i (some x)).set i none = σ.set i none; rw [List.set_set], ?_⟩
    rw [show (wipe σ (List.map (fun (x : Str × Nat) => x.snd) [(xn, i)])).set i (some x) = σ.set i (some x) from ws]
    have elem : ∀ H3 N3, f ds[j] = true → Same H2 H3 → Same N2 N3 → Rep X.K (upd H0 D (.lst acc)) (ρ.set i (.im ds[j])) (σ.set i (some x)) H3 N3 → ∀ s H' C cl fp, WE (X.blk s H' scope (compEnvC scope cl C X.env) fp) elt (σ.set i (some x)) H3 fun y H4 => ∃ acc', H4 D = some (.lst acc') ∧ acc'.length < sizeLine ∧
        ∃ N' a', Same N1 N' ∧ Same H1 (upd H4 D (.lst (acc' ++ [y]))) ∧ Rep X.K H0 ρ σ (upd H4 D (.lst (acc' ++ [y]))) N' ∧ N' D = none ∧ (upd H4 D (.lst (acc' ++ [y]))) D = some (.lst a') ∧ Ats X.K N' a' (((ds.take (j + 1)).filter f).map g) := fun H3 N3 hf e3' n3 r3 s H5 C cl fp => by
      refine (hel _ s H5 C cl fp d0 _ mem hf _ _ _ r3).imp fun y H4 ⟨N4, s4, n4, r4, a4⟩ => ?_
      have q4 : H4 D = some (.lst acc) := s4 _ _ (e3' _ _ dH2)
      refine ⟨acc, q4, ?_, N4, acc ++ [y], (((s'.trans n2).trans n3).trans n4), fun a u h => ?_, (r'.back hx d0 r4).updD h0D r4.notD np, r4.notD, upd_same, ?_⟩
      · rw [aa.length, List.length_map]
        have := List.length_filter_le f (ds.take j)
        have := List.length_take_le j ds
        omega
      · rw [upd_ne (ne_of_none h hD)]
        exact s4 _ _ (e3' _ _ (e2 _ _ (e' a u h)))
      · rw [et, List.filter_append, List.map_append]
        refine ((aa.mono n2).mono n3 |>.mono n4).append ?_
        rw [List.filter_cons, if_pos hf]
        exact .cons a4 .nil
    have skip : ∀ H3 N3, f ds[j] = false → Same H2 H3 → Same N2 N3 → Rep X.K (upd H0 D (.lst acc)) (ρ.set i (.im ds[j])) (σ.set i (some x)) H3 N3 → ∃ N' acc, Same N1 N' ∧ Same H1 H3 ∧ Rep X.K H0 ρ σ H3 N' ∧ N' D = none ∧ H3 D = some (.lst acc) ∧ Ats X.K N' acc (((ds.take (j + 1)).filter f).map g) := fun H3 N3 hf e3' n3 r3 => by
      refine ⟨N3, acc, (s'.trans n2).trans n3, (e'.trans e2).trans e3', r'.back hx d0 r3, r3.notD, e3' _ _ dH2, ?_⟩
      rw [et, List.filter_append, List.map_append, List.filter_cons, if_neg (by rw [hf]; exact Bool.false_ne_true)]
      simpa using (aa.mono n2).mono n3
    rcases hif with ⟨hne, hft⟩ | ⟨c, hc', ht⟩
    · exact .inl ⟨hne, iteT (elem H2 N2 (hft _ mem) (Same.refl _) (Same.refl _) rs)⟩
    · refine .inr ⟨c, hc', fun s H5 C cl fp => ?_⟩
      refine (ht _ s H5 C cl fp d0 _ mem _ _ _ rs).imp fun bb H3 ⟨eb, N3, s3, n3, r3⟩ => ?_
      subst eb
      cases hf : f ds[j] with
      | true => exact iteT (elem H3 N3 hf s3 n3 r3)
      | false => exact iteF (skip H3 N3 hf s3 n3 r3)
  · have e1 : j = ds.length := by omega
    subst e1
    rw [List.take_length] at aa
    exact .inl ⟨wst rfl, kk _ H' N' (n1.trans s') (hρ ▸ r'.setE (e := .ow (.lst _)) ⟨D, rfl, h0D, dN, ⟨acc, dH, aa⟩, fun q d' _ hq => npD q d' hq⟩)⟩
end
end B

namespace B
open PySem PySem.Spec PyProof.Rows L2
theorem idx_rev (n : Nat) : Builtin.Str.strSliceIndices none none (-1) n = (List.range n).reverse := by
  have e : Builtin.Str.strSliceIndices none none (-1) n = sliceRange ((n : Int) - 1) (-1) (-1) := rfl
  rw [e, PySem.W.krv_sliceRange, PySem.W.krv_range]
theorem pe_revS {X : Cx} {e : Expr} {te : TE} {k : Nat} {p1 p2 p3 pos : Pos} (he : PE X e te) : PE X (.Subscript e (.Slice none none (some (.UnaryOp .USub (.Constant (.int 1) k p1) p2)) p3) pos)
    (fun σ H Q => te σ H fun x H1 => ∃ l : List Nat, x = .str (SX.S l) ∧ l.length ≤ sizeLine ∧ Q (.str (SX.S l.reverse)) H1) := by
  refine ⟨fun pins s σ H Q I h => ?_⟩
  refine Subscript_ (thn (he.run pins s σ H _ I h) fun v s1 ⟨x, H1, I1, r1, q1⟩ => ?_)
  obtain ⟨a, rfl, hz, q⟩ := q1
  obtain ⟨t, rfl⟩ := r1
  have hst : PO X (some (.UnaryOp .USub (.Constant (.int 1) k p1) p2)) (tPart (tUn (rU fun i => .int (-i)) (tC (.int 1)))) := po_some (pe_un un_neg pe_int)
  refine wpAny_Slice (thn (po_none.run pins s1 σ H1 (fun o H2 => o = none ∧ H2 = H1) I1 ⟨rfl, rfl⟩) fun vl s2 ⟨l, H2, I2, pl, el, e2⟩ => ?_)
  subst el e2
  refine thn (po_none.run pins s2 σ H2 (fun o H3 => o = none ∧ H3 = H2) I2 ⟨rfl, rfl⟩) fun vu s3 ⟨u, H3, I3, pu, eu, e3⟩ => ?_
  subst eu e3
  refine thn (hst.run pins s3 σ H3 (fun o H4 => o = some (-1) ∧ H4 = H3) I3 ⟨1, rfl, -1, rfl, rfl, rfl⟩) fun vs s4 ⟨o, H4, I4, ps, eo, e4⟩ => ?_
  subst eo e4
  have I5 : Inv X pins σ H4 { s4 with heap := s4.heap.push { cls := .type "slice", data := .fields #[vl, vu, vs] } } := I4.kept (t' := s4.toks) fun b ob q => Heap.get?_push_of_some _ q
  obtain ⟨l, rfl, el⟩ := IsPart.raw pl
  obtain ⟨u, rfl, eu⟩ := IsPart.raw pu
  obtain ⟨w, rfl, ew⟩ := IsPart.raw ps
  have hs : (s4.heap.push { cls := .type "slice", data := .fields #[partValue l, partValue u, partValue w] }).IsSlice s4.heap.objs.size l u w := ⟨_, Heap.get?_push_size _ rfl, rfl, rfl⟩
  refine tail_any (ops := [.str (SX.S a) t, .ref s4.heap.objs.size]) (typeIs_str _ _ _) F.slot_str_getitem.lookup ?_ (by with_unfolding_all rfl)
  refine wpAny_getItem_str_slice (l := l) (u := u) (st := w) hs (by rw [ew]; rfl) ?_
  unfold sliceMade
  have e1 : ((w.map (·.1)).getD 1 == 1 && (slicePicked (SX.S a) l u w).length == (SX.S a).length) = false := by rw [ew]; rfl
  rw [if_neg (by rw [e1]; exact Bool.false_ne_true)]
  have e2 : (⟨((slicePicked (SX.S a) l u w).filterMap ((SX.S a).cps[·]?)).toArray⟩ : Str) = SX.S a.reverse := by
    unfold slicePicked
    rw [el, eu, ew]
    show (⟨((Builtin.Str.strSliceIndices none none (-1) (SX.S a).length).filterMap ((SX.S a).cps[·]?)).toArray⟩ : Str) = _
    rw [idx_rev, List.filterMap_reverse]
    have := PySem.W.krv_all (SX.S a).cps
    rw [show (SX.S a).length = (SX.S a).cps.size from rfl, this]
  rw [e2]
  refine ⟨by rw [SX.S_len, List.length_reverse]; exact hz, .str _, H4, I5.tok _, ⟨_, rfl⟩, q⟩
section
variable {X : Cx} {H0 : Hp} {ρ ρ1 ρ2 : Env'} {a b c e : Expr} {pos : Pos}
theorem ev_revX {l : List Nat} {k : Nat} {p1 p2 p3 : Pos} (ha : Ev X H0 ρ a (tx l)) (hz : l.length ≤ sizeLine) : Ev X H0 ρ (.Subscript a (.Slice none none (some (.UnaryOp .USub (.Constant (.int 1) k p1) p2)) p3) pos) (tx l.reverse) := fun σ H N r =>
  we_of (pe_revS pe_w) ((ha σ H N r).imp fun v H1 ⟨N1, s1, n1, r1, a1⟩ => ⟨l, at_str a1, hz, N1, s1, n1, r1, .str _⟩)
end
end B

namespace B
open PySem PySem.Spec PyProof.Rows L2

/-! ### find, count of one sign; startswith -/
theorem occ_stop (s sub : Str) (hi limit : Nat) : ∀ (l : List Nat) (st : Array Nat × Nat), ¬ st.1.size < limit → (forIn l st (StrLaws.occBody s sub hi limit)).run = st
  | [], st, _ => rfl
  | a :: l, st, h => by
    rw [List.forIn_cons]
    unfold StrLaws.occBody
    rw [if_neg (fun q => h q.1.1.1)]
    exact occ_stop s sub hi limit l st h
theorem occ_cond (L : List Nat) (c i free n limit : Nat) (acc : Array Nat) (hs : acc.size < limit) (hf : free ≤ i) :
    (((acc.size < limit ∧ free ≤ i) ∧ i + (SX.S [c]).length ≤ (SX.S L).length) ∧ Builtin.Str.subAt (SX.S L) (SX.S [c]) i = true) ↔ L[i]? = some c := by
  have := StrLaws.subAt_one (SX.S L) c i
  constructor
  · intro h; exact this.mp ⟨h.1.2, h.2⟩
  · intro h; have := this.mpr h; exact ⟨⟨⟨hs, hf⟩, this.1⟩, this.2⟩
theorem occ_at (L : List Nat) (c j : Nat) (hj : L[j]? = some c) : ∀ (n a free : Nat), free ≤ a → a ≤ j → j < a + n → (∀ i, a ≤ i → i < j → L[i]? ≠ some c) →
    (forIn (List.range' a n) ((#[] : Array Nat), free) (StrLaws.occBody (SX.S L) (SX.S [c]) (SX.S L).length 1)).run.1.toList = [j]
  | 0, a, _, _, h1, h2, _ => by omega
  | n + 1, a, free, hf, h1, h2, h3 => by
    rw [List.range'_succ, List.forIn_cons]
    unfold StrLaws.occBody
    by_cases e : a = j
    · subst e
      rw [if_pos ((occ_cond L c a free n 1 #[] (by decide) hf).mpr hj)]
      show (forIn (List.range' (a + 1) n) ((#[] : Array Nat).push a, a + 1) (StrLaws.occBody (SX.S L) (SX.S [c]) (SX.S L).length 1)).run.1.toList = [a]
      rw [occ_stop _ _ _ _ _ _ (by simp)]
      rfl
    · rw [if_neg (fun q => h3 a (Nat.le_refl _) (by omega) ((occ_cond L c a free n 1 #[] (by decide) hf).mp q))]
      exact occ_at L c j hj n (a + 1) free (by omega) (by omega) (by omega) (fun i q1 q2 => h3 i (by omega) q2)
theorem find_one {L : List Nat} {c : Nat} (h : c ∈ L) : Txt.find (SX.S L) (SX.S [c]) = ((L.idxOf c : Nat) : Int) := by
  have hlt : L.idxOf c < L.length := List.idxOf_lt_length_iff.mpr h
  have hg : L[L.idxOf c]? = some c := by rw [List.getElem?_eq_getElem hlt, List.getElem_idxOf hlt]
  have ho : Builtin.Str.occurrences (SX.S L) (SX.S [c]) 0 (SX.S L).length 1 = [L.idxOf c] := by
    rw [StrLaws.occ_eq]
    refine occ_at L c _ hg _ 0 0 (Nat.le_refl _) (Nat.zero_le _) (by rw [SX.S_len]; omega) (fun i _ hi e => ?_)
    have hil : i < L.length := by omega
    rw [List.getElem?_eq_getElem hil] at e
    have q := List.not_of_lt_findIdx (p := (· == c)) (xs := L) hi
    have e2 := Option.some.inj e
    simp [e2] at q
  unfold Txt.find
  rw [ho]
theorem starts_S (l m : List Nat) : Txt.startswith (SX.S l) (SX.S m) = decide (l.take m.length = m) := by
  unfold Txt.startswith
  rw [StrLaws.subAt_eq, SX.S_len, SX.S_len]
  show (decide (0 + m.length ≤ l.length) && ((l.drop 0).take (SX.S m).length == m)) = _
  rw [SX.S_len, List.drop_zero]
  by_cases h : l.take m.length = m
  · have : m.length ≤ l.length := by
      have := congrArg List.length h
      rw [List.length_take] at this
      omega
    rw [decide_eq_true h, decide_eq_true (by omega), h]
    simp
  · rw [decide_eq_false h]
    have : (l.take m.length == m) = false := by simpa using h
    rw [this, Bool.and_false]
theorem occ_count (L : List Nat) (c : Nat) : ∀ (n a free : Nat) (acc : Array Nat), free ≤ a → a + n = L.length + 1 → acc.size ≤ a →
    (forIn (List.range' a n) (acc, free) (StrLaws.occBody (SX.S L) (SX.S [c]) (SX.S L).length (L.length + 1))).run.1.size = acc.size + (L.drop a).count c
  | 0, a, free, acc, _, h2, _ => by
    have : L.drop a = [] := List.drop_of_length_le (by omega)
    rw [this]
    rfl
  | n + 1, a, free, acc, hf, h2, h3 => by
    rw [List.range'_succ, List.forIn_cons]
    unfold StrLaws.occBody
    by_cases e : L[a]? = some c
    · rw [if_pos ((occ_cond L c a free n _ acc (by omega) hf).mpr e)]
      have := occ_count L c n (a + 1) (a + 1) (acc.push a) (by omega) (by omega) (by rw [Array.size_push]; omega)
      refine Eq.trans this ?_
      obtain ⟨hlt, hv⟩ := List.getElem?_eq_some_iff.mp e
      rw [Array.size_push, List.drop_eq_getElem_cons hlt, hv, List.count_cons_self]
      omega
    · rw [if_neg (fun q => e ((occ_cond L c a free n _ acc (by omega) hf).mp q))]
      have := occ_count L c n (a + 1) free acc (by omega) (by omega) (by omega)
      refine Eq.trans this ?_
      by_cases hlt : a < L.length
      · rw [List.drop_eq_getElem_cons hlt, List.count_cons_of_ne]
        intro q
        exact e (by rw [List.getElem?_eq_getElem hlt, q])
      · rw [List.drop_of_length_le (by omega), List.drop_of_length_le (by omega)]
theorem count_one (L : List Nat) (c : Nat) : Txt.count (SX.S L) (SX.S [c]) = ((L.count c : Nat) : Int) := by
  unfold Txt.count
  rw [StrLaws.occ_eq, Array.length_toList, SX.S_len]
  have := occ_count L c (L.length + 1 - 0) 0 0 #[] (Nat.le_refl _) (by omega) (by decide)
  rw [SX.S_len] at this
  rw [this]
  simp
section
variable {X : Cx} {H0 : Hp} {ρ ρ1 ρ2 : Env'} {a b c e : Expr} {pos apos : Pos}
theorem ev_findX {l : List Nat} {k : Nat} (ha : Ev X H0 ρ a (tx l)) (hb : Ev X H0 ρ b (tx [k])) (hm : k ∈ l) (hs : starEach [b] X.env = [(false, eval b X.env)] := by rfl) (hline : (apos.endLine == pos.line) = true := by rfl) (hbase : attributeBase a "find" X.env (eval a X.env) = eval a X.env := by rfl) :
    Ev X H0 ρ (.Call (.Attribute a "find" apos) [b] [] pos) (.int ((l.idxOf k : Nat) : Int)) := by
  have := ev_find0 ha hb hs hline hbase
  rw [find_one hm] at this
  exact this
theorem ev_countX {l : List Nat} {k : Nat} (ha : Ev X H0 ρ a (tx l)) (hb : Ev X H0 ρ b (tx [k])) (hs : starEach [b] X.env = [(false, eval b X.env)] := by rfl) (hline : (apos.endLine == pos.line) = true := by rfl) (hbase : attributeBase a "count" X.env (eval a X.env) = eval a X.env := by rfl) :
    Ev X H0 ρ (.Call (.Attribute a "count" apos) [b] [] pos) (.int ((l.count k : Nat) : Int)) := by
  have := ev_count0 ha hb hs hline hbase
  rw [count_one] at this
  exact this
theorem ev_startsX {l m : List Nat} (ha : Ev X H0 ρ a (tx l)) (hb : Ev X H0 ρ b (tx m)) (hs : starEach [b] X.env = [(false, eval b X.env)] := by rfl) (hline : (apos.endLine == pos.line) = true := by rfl) (hbase : attributeBase a "startswith" X.env (eval a X.env) = eval a X.env := by rfl) :
    Ev X H0 ρ (.Call (.Attribute a "startswith" apos) [b] [] pos) (.bl (decide (l.take m.length = m))) := by
  have := ev_starts0 ha hb hs hline hbase
  rw [starts_S] at this
  exact this
end
end B

namespace B
open PySem PySem.Spec PyProof.Rows L2
/-- it goes through ds, while the names stay as they are -/
def WalksC (K : PySem.W.Frag) (H0 : Hp) (ρ : Env') (σ : L2.St) (J : It) (N1 : Hp) (ds : List Dat) : Prop := ∀ (H0' H N : Hp) (i : Nat), Same H0 H0' → Same N1 N → Rep K H0' ρ σ H N →
  (i < ds.length → J.go i H ∧ ∀ x H', J.yld i H x H' → ∃ N' d, Same N N' ∧ Same H H' ∧ Rep K H0' ρ σ H' N' ∧ ds[i]? = some d ∧ At K N' x d) ∧ (i = ds.length → J.stop i H)
def IterC (X : Cx) (H0 : Hp) (ρ : Env') (t e : Expr) (ds : List Dat) : Prop := ∃ wi, PI X t e wi ∧ ∀ σ H N, Rep X.K H0 ρ σ H N → ∀ R, (∀ J H1 N1, Same N N1 → Same H H1 → Rep X.K H0 ρ σ H1 N1 → WalksC X.K H0 ρ σ J N1 ds → R J H1) → wi σ H R
section
variable {X : Cx} {H0 : Hp} {ρ ρ1 ρ2 : Env'} {a b c e : Expr} {es : List Expr} {st : Stmt} {sts rest : List Stmt} {d d1 d2 : Dat} {ds : List Dat} {p pos : Pos} {o o1 : Outc} {x n : Str}
theorem it_ow (i : Nat) {t : Expr} {x : Str} (h : ρ[i]? = some (.ow (.lst ds))) (hN : X.N[i]? = some x := by rfl) (hv : Vis X.env.scope x := by first | exact Or.inl rfl | exact Or.inr (Or.inl rfl) | exact Or.inr (Or.inr rfl)) (hd : (x == ("__debug__" : Str)) = false := by decide)
    (hcd : (x == ("__classdict__" : Str)) = false := by decide) : IterC X H0 ρ t (.Name x pos) ds := ⟨_, pi_list (pv i hN hv hd hcd), fun σ H N r R k => by
  obtain ⟨p, e1, h0, hn, vs, hp, ha⟩ := r.ow i _ h
  refine ⟨_, e1, p, rfl, ⟨vs, .inl (.inl hp)⟩, k _ H N (Same.refl _) (Same.refl _) r fun H02 H2 N2 j s02 s2 r2 => ?_⟩
  obtain ⟨q, f1, f2, f3, us, f4, f5⟩ := r2.ow i _ h
  rw [e1] at f1
  cases f1
  refine ⟨fun hi => ?_, fun hi => ⟨us, .inl (.inl f4), by rw [f5.length]; exact Nat.le_of_eq hi.symm⟩⟩
  have hv : j < us.length := by rw [f5.length]; exact hi
  refine ⟨⟨us, us[j], .inl (.inl f4), by simp [hv]⟩, fun x H3 y => ?_⟩
  obtain ⟨rfl, y⟩ := y
  obtain ⟨d, g1, g2⟩ := f5.getV (y us (.inl (.inl f4)))
  exact ⟨N2, d, Same.refl _, Same.refl _, r2, g1, g2⟩⟩
/-- a comprehension over an owned list -/
theorem eo_compC {elt tg iter : Expr} {ifs : List Expr} {scope : Scope} {xn : Str} (i : Nat) {pos : Pos} (hc : X.calm = true) (nd : X.N.Nodup) (hi : IterC X H0 ρ tg iter ds) (ok : blkC X.N X.env.scope scope [(xn, i)] = true) (hx : ρ[i]? = some .no) (f : Dat → Bool) (g : Dat → Dat)
    (htg : ∀ (s : Shared) (H : Hp) (C : Addr) (cl : List (Str × Addr)) (fp : List Addr), PG (X.blk s H scope (compEnvC scope cl C X.env) fp) tg (gName i))
    (hif : (ifs = [] ∧ ∀ d ∈ ds, f d = true) ∨ ∃ c, ifs = [c] ∧ ∀ (H0' : Hp) (s : Shared) (H : Hp) (C : Addr) (cl : List (Str × Addr)) (fp : List Addr), Same H0 H0' → ∀ d ∈ ds, EvT (X.blk s H scope (compEnvC scope cl C X.env) fp) H0' (ρ.set i (.im d)) c (f d))
    (hel : ∀ (H0' : Hp) (s : Shared) (H : Hp) (C : Addr) (cl : List (Str × Addr)) (fp : List Addr), Same H0 H0' → ∀ d ∈ ds, f d = true → Ev (X.blk s H scope (compEnvC scope cl C X.env) fp) H0' (ρ.set i (.im d)) elt (g d))
    (hz : ds.length < sizeLine) (hs : ∀ x, foldedSetIterable iter X.env x = pure x := by intro _; rfl) : EvO X H0 ρ (.ListComp elt [⟨tg, iter, ifs, 0⟩] scope pos) (.lst ((ds.filter f).map g)) := fun σ H N r => by
  obtain ⟨wi, pi, hw⟩ := hi
  have pts : ∀ (s : Shared) (H : Hp) (C : Addr) (cl : List (Str × Addr)) (fp : List Addr), PTs (X.blk s H scope (compEnvC scope cl C X.env) fp) ifs
      (fun σ H Q => (ifs = [] ∧ Q true H) ∨ ∃ c, ifs = [c] ∧ ∀ s H' C cl fp, WT (X.blk s H' scope (compEnvC scope cl C X.env) fp) c σ H Q) := fun s H C cl fp => ⟨fun pins s' σ H Q I h => by
    rcases h with ⟨rfl, h⟩ | ⟨c, rfl, h⟩
    · exact pts_nil.run pins s' σ H Q I h
    · exact (pts_one pt_w).run pins s' σ H Q I (h _ _ _ _ _)⟩
  have pes : ∀ (s : Shared) (H : Hp) (C : Addr) (cl : List (Str × Addr)) (fp : List Addr), PE (X.blk s H scope (compEnvC scope cl C X.env) fp) elt
      (fun σ H Q => ∀ s H' C cl fp, WE (X.blk s H' scope (compEnvC scope cl C X.env) fp) elt σ H Q) := fun s H C cl fp => ⟨fun pins s' σ H Q I h => h _ _ _ _ _ pins s' I⟩
  refine we_of (pe_lc hc nd pi (blkOk_by ok) htg pts pes hs) (hw σ H N r _ fun J H1 N1 n1 s1 r1 w => fun D hD => ?_)
  have hiσ : i < σ.length := by rw [← r.len]; exact lt_of_get hx
  refine ⟨fun j m H' => m = ds.length - j ∧ j ≤ ds.length ∧ ∃ N' acc, Same N1 N' ∧ Same H1 H' ∧ Rep X.K H0 ρ σ H' N' ∧ N' D = none ∧ H' D = some (.lst acc) ∧ Ats X.K N' acc (((ds.take j).filter f).map g), ⟨_, rfl, Nat.zero_le _, N1, [], Same.refl _, Same.of_none hD, r1.grow (Same.of_none hD), r1.sub.free hD, upd_same, by simpa using Ats.nil⟩, ?_⟩
  rintro j m H' ⟨rfl, hj, N', acc, s', e', r', dN, dH, aa⟩
  have h0D : H0 D = none := r1.old.free hD
  have npD : ∀ (q : Nat) d, ρ[q]? = some (Ent.ow d) → σ[q]? ≠ some (some (V.ref D)) := no_own r1 hD
  obtain ⟨wg, wst⟩ := w (upd H0 D (.lst acc)) H' N' j (Same.of_none h0D) s' (r'.toOld h0D dH dN npD)
  by_cases hlt : j < ds.length
  · obtain ⟨go, yl⟩ := wg hlt
    have et : ds.take (j + 1) = ds.take j ++ [ds[j]] := by rw [List.take_succ, List.getElem?_eq_getElem hlt]; rfl
    refine .inr ⟨go, fun H' => ∃ N' acc, Same N1 N' ∧ Same H1 H' ∧ Rep X.K H0 ρ σ H' N' ∧ N' D = none ∧ H' D = some (.lst acc) ∧ Ats X.K N' acc (((ds.take (j + 1)).filter f).map g), fun H2 q => ⟨_, by omega, rfl, hlt, q⟩, fun x H2 y => ?_⟩
    obtain ⟨N2, d, n2, e2, r2, e3, a2⟩ := yl x H2 y
    have ed : d = ds[j] := by
      rw [List.getElem?_eq_getElem hlt] at e3
      exact (Option.some.inj e3).symm
    subst ed
    have dH2 : H2 D = some (.lst acc) := e2 _ _ dH
    have np : ∀ (q : Nat) d, ρ[q]? = some (Ent.ow d) → σ[q]? ≠ some (some (V.ref D)) := no_own r1 hD
    have d0 : Same H0 (upd H0 D (.lst acc)) := Same.of_none h0D
    have mem : ds[j] ∈ ds := List.getElem_mem hlt
    have dH2 : H2 D = some (.lst acc) := e2 _ _ dH
    have r2' : Rep X.K (upd H0 D (.lst acc)) ρ σ H2 N2 := r2
    have rs := r2'.setE (i := i) (v := x) (e := .im ds[j]) a2
    have ws : (wipe σ [i]).set i (some x) = σ.set i (some x) := by show (σ.set i none).set i (some x) = _; rw [List.set_set]
    show wipe ((wipe σ [i]).set i (some x)) [i] = wipe σ [i] ∧ _
    refine ⟨by rw [ws]; show (σ.set i (some x)).set i none = σ.set i none; rw [List.set_set], ?_⟩
    rw [show (wipe σ (List.map (fun (x : Str × Nat) => x.snd) [(xn, i)])).set i (some x) = σ.set i (some x) from ws]
    have elem : ∀ H3 N3, f ds[j] = true → Same H2 H3 → Same N2 N3 → Rep X.K (upd H0 D (.lst acc)) (ρ.set i (.im ds[j])) (σ.set i (some x)) H3 N3 → ∀ s H' C cl fp, WE (X.blk s H' scope (compEnvC scope cl C X.env) fp) elt (σ.set i (some x)) H3 fun y H4 => ∃ acc', H4 D = some (.lst acc') ∧ acc'.length < sizeLine ∧
        ∃ N' a', Same N1 N' ∧ Same H1 (upd H4 D (.lst (acc' ++ [y]))) ∧ Rep X.K H0 ρ σ (upd H4 D (.lst (acc' ++ [y]))) N' ∧ N' D = none ∧ (upd H4 D (.lst (acc' ++ [y]))) D = some (.lst a') ∧ Ats X.K N' a' (((ds.take (j + 1)).filter f).map g) := fun H3 N3 hf e3' n3 r3 s H5 C cl fp => by
      refine (hel _ s H5 C cl fp d0 _ mem hf _ _ _ r3).imp fun y H4 ⟨N4, s4, n4, r4, a4⟩ => ?_
      have q4 : H4 D = some (.lst acc) := s4 _ _ (e3' _ _ dH2)
      refine ⟨acc, q4, ?_, N4, acc ++ [y], (((s'.trans n2).trans n3).trans n4), fun a u h => ?_, (r'.back hx d0 r4).updD h0D r4.notD np, r4.notD, upd_same, ?_⟩
      · rw [aa.length, List.length_map]
        have := List.length_filter_le f (ds.take j)
        have := List.length_take_le j ds
        omega
      · rw [upd_ne (ne_of_none h hD)]
        exact s4 _ _ (e3' _ _ (e2 _ _ (e' a u h)))
      · rw [et, List.filter_append, List.map_append]
        refine ((aa.mono n2).mono n3 |>.mono n4).append ?_
        rw [List.filter_cons, if_pos hf]
        exact .cons a4 .nil
    have skip : ∀ H3 N3, f ds[j] = false → Same H2 H3 → Same N2 N3 → Rep X.K (upd H0 D (.lst acc)) (ρ.set i (.im ds[j])) (σ.set i (some x)) H3 N3 → ∃ N' acc, Same N1 N' ∧ Same H1 H3 ∧ Rep X.K H0 ρ σ H3 N' ∧ N' D = none ∧ H3 D = some (.lst acc) ∧ Ats X.K N' acc (((ds.take (j + 1)).filter f).map g) := fun H3 N3 hf e3' n3 r3 => by
      refine ⟨N3, acc, (s'.trans n2).trans n3, (e'.trans e2).trans e3', r'.back hx d0 r3, r3.notD, e3' _ _ dH2, ?_⟩
      rw [et, List.filter_append, List.map_append, List.filter_cons, if_neg (by rw [hf]; exact Bool.false_ne_true)]
      simpa using (aa.mono n2).mono n3
    rcases hif with ⟨hne, hft⟩ | ⟨c, hc', ht⟩
    · exact .inl ⟨hne, iteT (elem H2 N2 (hft _ mem) (Same.refl _) (Same.refl _) rs)⟩
    · refine .inr ⟨c, hc', fun s H5 C cl fp => ?_⟩
      refine (ht _ s H5 C cl fp d0 _ mem _ _ _ rs).imp fun bb H3 ⟨eb, N3, s3, n3, r3⟩ => ?_
      subst eb
      cases hf : f ds[j] with
      | true => exact iteT (elem H3 N3 hf s3 n3 r3)
      | false => exact iteF (skip H3 N3 hf s3 n3 r3)
  · have e1 : j = ds.length := by omega
    subst e1
    rw [List.take_length] at aa
    exact .inl ⟨wst rfl, N', D, rfl, s1.free hD, s1.trans e', n1.trans s', r', dN, acc, dH, aa⟩
end
end B

namespace B
open PySem PySem.Spec PyProof.Rows L2

def top (i : Nat) : Stmt := PySem.Challenge.pw_boughpress_k12_counts_of_knots.main.body.getD i (.Pass ⟨0, 0, 0, 0⟩)
abbrev s_checked : Stmt := top 17
abbrev n_checked : List Str := ["frame", "text", "sign"]
theorem sc_checked : FnScope n_checked ["frame", "text"] (defScope s_checked) := ⟨rfl, rfl, rfl, by decide +kernel, rfl, by decide +kernel, by decide +kernel⟩
abbrev s_signs_ahead : Stmt := top 19
abbrev n_signs_ahead : List Str := ["frame", "text", "at", "letters", "depth", "behind"]
theorem sc_signs_ahead : FnScope n_signs_ahead ["frame", "text", "at"] (defScope s_signs_ahead) := ⟨rfl, rfl, rfl, by decide +kernel, rfl, by decide +kernel, by decide +kernel⟩
abbrev s_need_knot : Stmt := top 21
abbrev n_need_knot : List Str := ["frame", "knot", "sign"]
theorem sc_need_knot : FnScope n_need_knot ["frame", "knot"] (defScope s_need_knot) := ⟨rfl, rfl, rfl, by decide +kernel, rfl, by decide +kernel, by decide +kernel⟩
abbrev s_counts : Stmt := top 22
abbrev n_counts : List Str := ["frame", "text", "knot", "found", "at", "sign"]
theorem sc_counts : FnScope n_counts ["frame", "text", "knot"] (defScope s_counts) := ⟨rfl, rfl, rfl, by decide +kernel, rfl, by decide +kernel, by decide +kernel⟩
abbrev s_law_cell_at : Stmt := top 24
abbrev n_law_cell_at : List Str := ["script", "k"]
theorem sc_law_cell_at : FnScope n_law_cell_at ["script", "k"] (defScope s_law_cell_at) := ⟨rfl, rfl, rfl, by decide +kernel, rfl, by decide +kernel, by decide +kernel⟩
abbrev s_law_whole : Stmt := top 25
abbrev n_law_whole : List Str := ["found"]
theorem sc_law_whole : FnScope n_law_whole ["found"] (defScope s_law_whole) := ⟨rfl, rfl, rfl, by decide +kernel, rfl, by decide +kernel, by decide +kernel⟩
abbrev s_law_signs : Stmt := top 26
abbrev n_law_signs : List Str := ["some"]
theorem sc_law_signs : FnScope n_law_signs [] (defScope s_law_signs) := ⟨rfl, rfl, rfl, by decide +kernel, rfl, by decide +kernel, by decide +kernel⟩
abbrev s_law_frame : Stmt := top 27
abbrev n_law_frame : List Str := ["cell", "some", "number", "letters", "k", "at"]
theorem sc_law_frame : FnScope n_law_frame ["cell"] (defScope s_law_frame) := ⟨rfl, rfl, rfl, by decide +kernel, rfl, by decide +kernel, by decide +kernel⟩
abbrev s_law_text : Stmt := top 28
abbrev n_law_text : List Str := ["letters", "cells", "way", "text", "cell", "far"]
theorem sc_law_text : FnScope n_law_text ["letters", "cells", "way"] (defScope s_law_text) := ⟨rfl, rfl, rfl, by decide +kernel, rfl, by decide +kernel, by decide +kernel⟩
abbrev s_law_elder : Stmt := top 29
abbrev n_law_elder : List Str := ["frame", "text", "at", "k"]
theorem sc_law_elder : FnScope n_law_elder ["frame", "text", "at", "k"] (defScope s_law_elder) := ⟨rfl, rfl, rfl, by decide +kernel, rfl, by decide +kernel, by decide +kernel⟩
abbrev s_law_counts : Stmt := top 30
abbrev n_law_counts : List Str := ["frame", "text", "knot", "found", "at", "k", "place", "sign"]
theorem sc_law_counts : FnScope n_law_counts ["frame", "text", "knot"] (defScope s_law_counts) := ⟨rfl, rfl, rfl, by decide +kernel, rfl, by decide +kernel, by decide +kernel⟩
abbrev s_law_drawn : Stmt := top 31
abbrev n_law_drawn : List Str := ["frame", "size", "cell", "told", "k"]
theorem sc_law_drawn : FnScope n_law_drawn ["frame", "size", "cell"] (defScope s_law_drawn) := ⟨rfl, rfl, rfl, by decide +kernel, rfl, by decide +kernel, by decide +kernel⟩
abbrev s_law_told : Stmt := top 32
abbrev n_law_told : List Str := ["frame", "text", "knot", "found", "due", "one"]
theorem sc_law_told : FnScope n_law_told ["frame", "text", "knot"] (defScope s_law_told) := ⟨rfl, rfl, rfl, by decide +kernel, rfl, by decide +kernel, by decide +kernel⟩
abbrev s_law_refused : Stmt := top 33
abbrev n_law_refused : List Str := ["frame", "text", "knot", "way", "kinds", "e"]
theorem sc_law_refused : FnScope n_law_refused ["frame", "text", "knot", "way"] (defScope s_law_refused) := ⟨rfl, rfl, rfl, by decide +kernel, rfl, by decide +kernel, by decide +kernel⟩
abbrev s_law : Stmt := top 34
abbrev n_law : List Str := ["script", "frame", "text", "cell", "at", "size", "knot", "more", "lacked", "sign", "where", "bad", "k"]
theorem sc_law : FnScope n_law ["script"] (defScope s_law) := ⟨rfl, rfl, rfl, by decide +kernel, rfl, by decide +kernel, by decide +kernel⟩
/-- what the top has left: the built-ins are what they were, the classes of errors stand -/
structure Txt (K : PySem.W.Frag) (mg : Str → Option Value) : Prop where
  b_ValueError : mg "ValueError" = none
  b_bool : mg "bool" = none
  b_int : mg "int" = none
  b_isinstance : mg "isinstance" = none
  b_len : mg "len" = none
  b_list : mg "list" = none
  b_max : mg "max" = none
  b_range : mg "range" = none
  e_NoKnot : Exc K mg "NoKnot"
  e_NoText : Exc K mg "NoText"
  x_NoKnot : ∃ C, ExcX K mg "NoKnot" [("PressError", true), ("NoFraction", false), ("NoFrame", false), ("NoText", false), ("NoPlace", false), ("NoKnot", true), ("NoTree", false), ("NoSign", false), ("NothingTaken", false), ("NoBits", false), ("NoPress", false), ("NoPacket", false), ("NoRow", false), ("NoName", false), ("NoNumber", false)] C
  x_NoText : ∃ C, ExcX K mg "NoText" [("PressError", true), ("NoFraction", false), ("NoFrame", false), ("NoText", true), ("NoPlace", false), ("NoKnot", false), ("NoTree", false), ("NoSign", false), ("NothingTaken", false), ("NoBits", false), ("NoPress", false), ("NoPacket", false), ("NoRow", false), ("NoName", false), ("NoNumber", false)] C
local macro_rules | `(tactic| walk_at "dlen") => `(tactic| first | with_reducible assumption | assumption | rfl)
local macro_rules | `(tactic| walk_at "ix") => `(tactic| first | with_reducible assumption | rfl | assumption | (simp at *; done))
local macro_rules | `(tactic| walk_at "pos") => `(tactic| first | with_reducible assumption | omega | decide)
local macro_rules | `(tactic| walk_at "log") => `(tactic| first | with_reducible assumption | decide +kernel)
local macro_rules | `(tactic| walk_at "mul") => `(tactic| first | with_reducible assumption | exact mul_l (by omega) (by omega) | exact mul_r (by omega) (by omega) | exact mul_r (by decide) (by decide) | exact mul_l (by decide) (by decide))
local macro_rules | `(tactic| walk_at "okd") => `(tactic| first | assumption | exact okD_ints _ | rfl | decide +kernel)
local macro_rules | `(tactic| walk_at "app") => `(tactic| first | with_reducible assumption | (simp [sizeLine]; omega) | decide)
local macro_rules | `(tactic| walk_at "rgc") => `(tactic| assumption)
local macro_rules | `(tactic| walk_at "flats") => `(tactic| first | assumption | exact flats_ints _ | rfl)
local macro_rules | `(tactic| walk_at "flat") => `(tactic| first | rfl | assumption)
local macro_rules | `(tactic| walk_at "pow") => `(tactic| first | assumption | exact ⟨by decide, by decide, by decide⟩ | exact ⟨by omega, by omega, by decide⟩)
local macro_rules | `(tactic| walk_at "nn") => `(tactic| first | with_reducible assumption | omega | decide)
local macro_rules | `(tactic| walk_at "rng") => `(tactic| first | with_reducible assumption | omega | exact ⟨by omega, by omega, by omega, by omega⟩ | decide)
local macro_rules | `(tactic| walk_at "R") => `(tactic| first | with_reducible assumption | assumption | exact ⟨_, rfl, rfl⟩ | exact ⟨_, _, rfl, rfl⟩ | exact ⟨_, _, _, rfl, rfl⟩ | exact ⟨_, _, _, _, rfl, rfl⟩)
local macro_rules | `(tactic| walk_at "cond") => `(tactic| first | rfl | simp_all | (simp; omega))
local macro_rules | `(tactic| walk_at "clen") => `(tactic| first | with_reducible assumption | (simp [sizeLine]; omega) | decide)
local macro_rules | `(tactic| walk_at "len") => `(tactic| first | with_reducible assumption | (simp [sizeLine]; omega) | decide)
local macro_rules | `(tactic| walk_at "cat") => `(tactic| first | with_reducible assumption | (simp [sizeLine]; omega) | decide)
local macro_rules | `(tactic| walk_at "join") => `(tactic| first | assumption | decide)
local macro_rules | `(tactic| walk_at "rep") => `(tactic| first | with_reducible assumption | rfl | assumption)
local macro_rules | `(tactic| walk_at "shl") => `(tactic| first | with_reducible assumption | rfl | assumption)
local macro_rules | `(tactic| walk_at "gix") => `(tactic| first | with_reducible assumption | rfl | assumption)
local macro_rules | `(tactic| walk_at "six") => `(tactic| first | with_reducible assumption | rfl | assumption)
local macro_rules | `(tactic| walk_at "strs") => `(tactic| first | with_reducible assumption | rfl | assumption)
local macro_rules | `(tactic| walk_at "mem") => `(tactic| first | with_reducible assumption | assumption | simp)

/-! ### the mathematics -/
/-- the fraction in lowest terms -/
def ftop (t b : Int) : Int := b.sign * (t / (Int.gcd t b : Int))
def fbot (t b : Int) : Int := (b.natAbs : Int) / (Int.gcd t b : Int)
theorem gcd_pos {t b : Int} (h : b ≠ 0) : (0 : Int) < (Int.gcd t b : Int) := by
  have : 0 < Int.gcd t b := Int.gcd_pos_of_ne_zero_right t h
  omega
theorem gcd_le {t b : Int} (h : b ≠ 0) : Int.gcd t b ≤ b.natAbs := Nat.le_of_dvd (by omega) (Int.gcd_dvd_natAbs_right t b)
theorem log2_mono {a b : Nat} (h : a ≤ b) (hb : b.log2 < 9000) : a.log2 < 9000 := by
  by_cases h0 : a = 0
  · subst h0; decide
  · have h1 : 2 ^ a.log2 ≤ a := Nat.log2_self_le h0
    have hb0 : b ≠ 0 := by omega
    have h2 : b < 2 ^ (b.log2 + 1) := Nat.lt_log2_self
    have h3 : 2 ^ a.log2 < 2 ^ (b.log2 + 1) := by omega
    have h4 : a.log2 < b.log2 + 1 := (Nat.pow_lt_pow_iff_right (by decide)).mp h3
    omega
theorem fdiv_top (t b : Int) (h : b ≠ 0) : t.fdiv (if b < 0 then -(Int.gcd t b : Int) else (Int.gcd t b : Int)) = ftop t b := by
  have g := gcd_pos (t := t) h
  have d : (Int.gcd t b : Int) ∣ t := Int.gcd_dvd_left t b
  unfold ftop
  split
  · rename_i hb
    rw [Int.fdiv_eq_ediv_of_dvd (by rwa [Int.neg_dvd]), Int.ediv_neg, Int.sign_eq_neg_one_of_neg hb]
    omega
  · rename_i hb
    rw [Int.fdiv_eq_ediv_of_dvd d, Int.sign_eq_one_of_pos (by omega)]
    omega
theorem fdiv_bot (t b : Int) (h : b ≠ 0) : b.fdiv (if b < 0 then -(Int.gcd t b : Int) else (Int.gcd t b : Int)) = fbot t b := by
  have d : (Int.gcd t b : Int) ∣ b := Int.gcd_dvd_right t b
  unfold fbot
  split
  · rename_i hb
    rw [Int.fdiv_eq_ediv_of_dvd (by rwa [Int.neg_dvd]), Int.ediv_neg, show (b.natAbs : Int) = -b by omega, Int.neg_ediv_of_dvd d]
  · rename_i hb
    rw [Int.fdiv_eq_ediv_of_dvd d, show (b.natAbs : Int) = b by omega]
theorem fbot_pos (t b : Int) (h : b ≠ 0) : 0 < fbot t b := by
  unfold fbot
  have g := gcd_pos (t := t) h
  have l := gcd_le (t := t) h
  exact Int.ediv_pos_of_pos_of_dvd (by omega) (by omega) (by rw [Int.dvd_natAbs]; exact Int.gcd_dvd_right t b)
theorem f_cross (t b : Int) : ftop t b * b = t * fbot t b := by
  unfold ftop fbot
  have h1 : (Int.gcd t b : Int) ∣ t := Int.gcd_dvd_left t b
  have h2 : (Int.gcd t b : Int) ∣ (b.natAbs : Int) := by rw [Int.dvd_natAbs]; exact Int.gcd_dvd_right t b
  have e : b.sign * b = (b.natAbs : Int) := by rw [Int.mul_comm]; exact Int.mul_sign_self b
  rw [Int.mul_right_comm, e, Int.mul_comm, ← Int.mul_ediv_assoc _ h2, Int.mul_comm, ← Int.mul_ediv_assoc _ h1, Int.mul_comm]
theorem f_coprime (t b : Int) (h : b ≠ 0) : Int.gcd (ftop t b) (fbot t b) = 1 := by
  unfold ftop fbot
  have g : 0 < Int.gcd t b := Int.gcd_pos_of_ne_zero_right t h
  have e1 : (b.sign * (t / (Int.gcd t b : Int))).natAbs = t.natAbs / Int.gcd t b := by
    rw [Int.natAbs_mul, Int.natAbs_sign, if_neg h, Nat.one_mul, Int.natAbs_ediv_of_dvd (Int.gcd_dvd_left t b), Int.natAbs_natCast]
  have e2 : ((b.natAbs : Int) / (Int.gcd t b : Int)).natAbs = b.natAbs / Int.gcd t b := by
    rw [← Int.natCast_ediv, Int.natAbs_natCast]
  show Nat.gcd _ _ = 1
  rw [e1, e2]
  exact Nat.gcd_div_gcd_div_gcd_of_pos_right (by omega)
theorem log_200 {b : Int} (h : b.natAbs < 2 ^ 200) : b.natAbs.log2 < 9000 := by
  by_cases h0 : b.natAbs = 0
  · rw [h0]; decide
  · exact Nat.lt_of_lt_of_le ((Nat.log2_lt h0).mpr h) (by decide)
theorem ftop_lt {t b : Int} (h : t.natAbs < 2 ^ 200) : (ftop t b).natAbs < 2 ^ 200 := by
  unfold ftop
  rw [Int.natAbs_mul]
  have h1 : b.sign.natAbs ≤ 1 := by rw [Int.natAbs_sign]; split <;> omega
  have h2 : (t / (Int.gcd t b : Int)).natAbs ≤ t.natAbs := by
    rw [Int.natAbs_ediv_of_dvd (Int.gcd_dvd_left t b), Int.natAbs_natCast]
    exact Nat.div_le_self _ _
  have h3 := Nat.mul_le_mul h1 h2
  omega
theorem fbot_lt {t b : Int} (h : b.natAbs < 2 ^ 200) : (fbot t b).natAbs < 2 ^ 200 := by
  unfold fbot
  rw [← Int.natCast_ediv, Int.natAbs_natCast]
  exact Nat.lt_of_le_of_lt (Nat.div_le_self _ _) h
theorem cell_ix {ns : List Int} {k : Nat} (h : k < ns.length) : atI (ns.map Dat.int) (k : Int) = some (.int (ns.getD k 0)) := by
  rw [atI_nat (v := .int (ns.getD k 0))]
  rw [List.getElem?_map, List.getD_eq_getElem?_getD, List.getElem?_eq_getElem h]
  rfl

theorem nat200 {x y : Int} {m : Nat} (hx : x.natAbs < 2 ^ m) (hy : y.natAbs < 2 ^ m) : (x * y).natAbs < 2 ^ (m + m) := by
  rw [Int.natAbs_mul, Nat.pow_add]
  exact Nat.mul_lt_mul_of_lt_of_lt hx hy
theorem log_9000 {b : Int} (h : b.natAbs < 2 ^ 3000) : b.natAbs.log2 < 9000 := by
  by_cases h0 : b.natAbs = 0
  · rw [h0]; decide
  · have h1 : 2 ^ b.natAbs.log2 ≤ b.natAbs := Nat.log2_self_le h0
    have h2 : 2 ^ b.natAbs.log2 < 2 ^ 3000 := by omega
    have h4 := (Nat.pow_lt_pow_iff_right (by decide)).mp h2
    omega
theorem up_200 {x : Int} {m n : Nat} (h : x.natAbs < 2 ^ m) (l : m ≤ n) : x.natAbs < 2 ^ n := Nat.lt_of_lt_of_le h (Nat.pow_le_pow_right (by decide) l)
theorem ftop_lt' {t b : Int} {m : Nat} (h : t.natAbs < 2 ^ m) : (ftop t b).natAbs < 2 ^ m := by
  unfold ftop
  rw [Int.natAbs_mul]
  have h1 : b.sign.natAbs ≤ 1 := by rw [Int.natAbs_sign]; split <;> omega
  have h2 : (t / (Int.gcd t b : Int)).natAbs ≤ t.natAbs := by
    rw [Int.natAbs_ediv_of_dvd (Int.gcd_dvd_left t b), Int.natAbs_natCast]
    exact Nat.div_le_self _ _
  have h3 := Nat.mul_le_mul h1 h2
  omega
theorem fbot_lt' {t b : Int} {m : Nat} (h : b.natAbs < 2 ^ m) : (fbot t b).natAbs < 2 ^ m := by
  unfold fbot
  rw [← Int.natCast_ediv, Int.natAbs_natCast]
  exact Nat.lt_of_le_of_lt (Nat.div_le_self _ _) h
theorem kmul {x : Int} {k : Int} (h : x.natAbs < 2 ^ 1000) (hk : k.natAbs ≤ 4) : (k * x).natAbs < 2 ^ 1002 := by
  rw [Int.natAbs_mul]
  have := Nat.mul_le_mul hk (Nat.le_of_lt h)
  have e : k.natAbs * x.natAbs ≤ 4 * x.natAbs := Nat.mul_le_mul hk (Nat.le_refl _)
  omega

theorem joinL_nil : ∀ yss : List (List Nat), TL.joinL [] yss = yss.flatten
  | [] => rfl
  | [p] => by show p = [p].flatten; simp
  | p :: q :: r => by
    show p ++ ([] ++ TL.joinL [] (q :: r)) = _
    rw [joinL_nil (q :: r), List.nil_append]
    rfl
theorem cut_map {α β : Type} (f : α → β) (l : List α) (lo hi : Option Int) : cut (l.map f) lo hi = (cut l lo hi).map f := by
  unfold cut
  rw [List.length_map, List.map_take, List.map_drop]
theorem cut_len {α : Type} (l : List α) (lo hi : Option Int) : (cut l lo hi).length ≤ l.length := by
  unfold cut
  rw [List.length_take, List.length_drop]; omega
theorem ones_flat (l : List Nat) : (l.map fun c => [c]).flatten = l := by
  induction l with
  | nil => rfl
  | cons c l ih => rw [List.map_cons, List.flatten_cons, ih]; rfl
theorem ones_len (l : List Nat) : ((l.map fun c => [c]).map (·.length)).sum = l.length := by
  induction l with
  | nil => rfl
  | cons c l ih => rw [List.map_cons, List.map_cons, List.sum_cons, ih, List.length_cons]; simp; omega
theorem rep_mem {l : List Nat} {n c : Nat} (h : c ∈ (List.replicate n l).flatten) : c ∈ l := by
  obtain ⟨m, hm, hc⟩ := List.mem_flatten.mp h
  rw [List.mem_replicate] at hm
  rw [hm.2] at hc
  exact hc
theorem rep_len {l : List Nat} {n : Nat} : (List.replicate n l).flatten.length = n * l.length := by
  induction n with
  | zero => simp
  | succ n ih => rw [List.replicate_succ, List.flatten_cons, List.length_append, ih, Nat.succ_mul]; omega

def chD : Dat → Nat
  | .str s => s.cps.toList.headD 0
  | _ => 0
def pick (l : List Nat) (i : Int) : Nat := l.getD (i % (l.length : Int)).toNat 0
theorem pick_at {l : List Nat} (i : Int) (h : 0 < l.length) : atI l (i % (l.length : Int)) = some (pick l i) := by
  have a1 := Int.emod_nonneg i (b := (l.length : Int)) (by omega)
  have a2 := Int.emod_lt_of_pos i (b := (l.length : Int)) (by omega)
  refine at_nat a1 ?_
  unfold pick
  rw [List.getD_eq_getElem?_getD, List.getElem?_eq_getElem (by omega)]
  rfl
theorem pick_mem {l : List Nat} (i : Int) (h : 0 < l.length) : pick l i ∈ l := by
  have := pick_at i h
  unfold atI at this
  cases e : ixN l.length (i % (l.length : Int)) with
  | none => rw [e] at this; cases this
  | some j =>
    rw [e] at this
    exact List.mem_of_getElem? this
theorem pick_atD {l : List Nat} (i : Int) (h : 0 < l.length) : atI (l.map fun k => tx [k]) (i % (l.length : Int)) = some (tx [pick l i]) := by
  have a1 := Int.emod_nonneg i (b := (l.length : Int)) (by omega)
  have a2 := Int.emod_lt_of_pos i (b := (l.length : Int)) (by omega)
  refine at_dat a1 ?_
  unfold pick
  rw [List.getElem?_map, List.getD_eq_getElem?_getD, List.getElem?_eq_getElem (by omega)]
  rfl

section
variable {P : Program} {w : World} {K : PySem.W.Frag} {mg : Str → Option Value} {base : Heap}
/-! ### checked -/
def R_checked : List Dat → Res → Prop := fun ds o => ∃ (L t : List Nat) (d : Dat), ds = [.tup [tx L, d], tx t] ∧ flat d = true ∧ ((∀ c ∈ t, c ∈ L) ∧ o = .val (tx t) ∨ (∃ c ∈ t, c ∉ L) ∧ o = .exc "NoText")
theorem ok_checked (T : Txt K mg)   (D : Df K mg "checked" s_checked ["frame", "text"]) : GFn P w K mg base "checked" 1 R_checked := by
  refine GFn.mk D sc_checked (fun ds o h => by obtain ⟨_, _, _, rfl, _⟩ := h; rfl) fun f cdv A outer s H E hr ds o hR => ?_
  obtain ⟨L, t, d, rfl, hd, hR⟩ := hR
  have hfl : flat (.tup [tx L, d]) = true := by
    show (flat (tx L) && (flat d && true)) = true
    rw [hd]; rfl
  rcases hR with ⟨hok, rfl⟩ | ⟨hbad, rfl⟩
  · refine ⟨_, (.im (by walk_at "flat") (.im (by walk_at "flat") .nil)), fun H0 => .ret ?_⟩
    refine ex_then (ρ1 := [.im (.tup [tx L, d]), .im (tx t), .no]) (sx_for (passes_of rfl) rfl (it_tx (ev_name 1 rfl)) (tg_name 2 sc_checked.nd) (fun _ _ => trivial) ?_) ?_
    · show ForT _ _ _ _ _ [.im (.tup [tx L, d]), .im (tx t), .no] _
      refine for_same fun e he => ?_
      obtain ⟨c, hc, rfl⟩ := List.mem_map.mp he
      have hm := hok c hc
      refine ex_then (sx_skip (et_to (et_ninX (ev_name 2 rfl) (ev_ixT (ev_name 0 rfl) ev_int (by walk_at "ix"))) (by simp [hm]))) ?_
      refine ex_drop 2 ?_
      exact ex_nil
    exact ex_one (sx_ret (ev_name 1 rfl))
  · skip
    refine ⟨_, (.im (by walk_at "flat") (.im (by walk_at "flat") .nil)), fun H0 => .exc (ρ1 := List.replicate 3 .no) ?_⟩
    refine ex_out (sx_for (passes_of rfl) rfl (it_tx (ev_name 1 rfl)) (tg_name 2 sc_checked.nd) (fun _ _ => trivial) ?_) (by trivial)
    show ForT _ _ _ _ _ [.im (.tup [tx L, d]), .im (tx t), .no] _
    generalize ht : tx t = T'
    clear ht
    induction t with
    | nil => obtain ⟨c, hc, _⟩ := hbad; cases hc
    | cons c r ih =>
      by_cases hc : c ∈ L
      · refine .turn (ρ1 := [.im (.tup [tx L, d]), .im T', .no]) ?_ (ih ?_)
        · skip
          refine ex_then (sx_skip (et_to (et_ninX (ev_name 2 rfl) (ev_ixT (ev_name 0 rfl) ev_int (by walk_at "ix"))) (by simp [hc]))) ?_
          refine ex_drop 2 ?_
          exact ex_nil
        · obtain ⟨b, hb, hb2⟩ := hbad
          rcases List.mem_cons.mp hb with h | h
          · subst h; exact absurd hc hb2
          · exact ⟨b, h, hb2⟩
      · refine .exc ?_
        refine ex_out (sx_ifT (et_to (et_ninX (ev_name 2 rfl) (ev_ixT (ev_name 0 rfl) ev_int (by walk_at "ix"))) (by simp [hc])) ?_) (by trivial)
        exact ex_nos (ex_one (sx_raise T.e_NoText rfl)) rfl

def R_law_cell_at : List Dat → Res → Prop := fun ds o => ∃ (ns : List Int) (k : Nat), ds = [.lst (ns.map .int), .int (k : Int)] ∧ ns.length ≤ 1000000 ∧ o = .val (.int (ns.getD k 0))
theorem ok_law_cell_at (T : Txt K mg)   (D : Df K mg "_law_cell_at" s_law_cell_at ["script", "k"]) : GFn P w K mg base "_law_cell_at" 1 R_law_cell_at := by
  refine GFn.mk D sc_law_cell_at (fun ds o h => by obtain ⟨_, _, rfl, _⟩ := h; rfl) fun f cdv A outer s H E hr ds o hR => ?_
  obtain ⟨ns, k, rfl, hn, rfl⟩ := hR
  refine ⟨_, (.ol (.im (by walk_at "flat") .nil)), fun H0 => .ret ?_⟩
  have hl : dlen (.lst (ns.map .int)) = some ns.length := by simp [dlen]
  by_cases hk : k < ns.length
  · have hix := cell_ix hk
    refine ex_out (sx_ifT (et_to (et_lt (ev_name 1 rfl) (ev_len (eb_name_ol 0 rfl) (by walk_at "dlen") T.b_len)) (by simp; omega)) ?_) (by trivial)
    exact ex_one (sx_ret ((eb_ixL (eb_name_ol 0 rfl) (ev_name 1 rfl) (by walk_at "ix")).flat rfl))
  · have e : ns.getD k 0 = 0 := by rw [List.getD_eq_getElem?_getD, List.getElem?_eq_none (by omega)]; rfl
    rw [e]
    refine ex_then (sx_skip (et_to (et_lt (ev_name 1 rfl) (ev_len (eb_name_ol 0 rfl) (by walk_at "dlen") T.b_len)) (by simp; omega))) ?_
    exact ex_one (sx_ret ev_int)

def R_law_whole : List Dat → Res → Prop := fun ds o => ∃ d : Dat, ds = [d] ∧ o = .val (.bl (match d with | .int _ => true | _ => false))
theorem ok_law_whole (T : Txt K mg)   (D : Df K mg "_law_whole" s_law_whole ["found"]) : GFn P w K mg base "_law_whole" 1 R_law_whole := by
  refine GFn.mk D sc_law_whole (fun ds o h => by obtain ⟨_, rfl, _⟩ := h; rfl) fun f cdv A outer s H E hr ds o hR => ?_
  obtain ⟨d, rfl, rfl⟩ := hR
  refine ⟨_, (.ol .nil), fun H0 => .ret ?_⟩
  cases d
  all_goals
    exact ex_one (sx_ret (ev_to (ev_andB (ev_isi_int (eb_name_ol 0 rfl) T.b_isinstance T.b_int) fun hq => (ev_one (ev_not (ev_isi_bool (eb_name_ol 0 rfl) T.b_isinstance T.b_bool)))) (by rfl)))

/-! ### the law's signs and frames -/
def sgA : List Nat := [32, 33, 34, 35, 36, 38, 39, 40, 41, 42, 43, 44, 45, 46, 47, 48, 49, 50, 51, 52, 53, 54, 55, 56, 57, 58, 59, 60, 61, 62, 63, 64, 65, 66, 67, 68, 69, 70, 71, 72, 73, 74, 75, 76, 77, 78, 79, 80, 81, 82, 83, 84, 85, 86, 87, 88, 89, 90, 91, 92, 93, 94, 95, 96]
def sgB : List Nat := [97, 98, 99, 100, 101, 102, 103, 104, 105, 106, 107, 108, 109, 110, 111, 112, 113, 114, 115, 116, 117, 118, 119, 120, 121, 122, 123, 124, 125, 126]
def sg : List Nat := sgA ++ sgB
theorem sg_len : sg.length = 94 := by decide +kernel
theorem sg_nodup : sg.Nodup := by decide +kernel
def R_law_signs : List Dat → Res → Prop := fun ds o => ds = [] ∧ o = .val (tx sg)
theorem ok_law_signs (T : Txt K mg)   (D : Df K mg "_law_signs" s_law_signs []) : GFn P w K mg base "_law_signs" 1 R_law_signs := by
  refine GFn.mk D sc_law_signs (fun ds o h => by obtain ⟨rfl, _⟩ := h; rfl) fun f cdv A outer s H E hr ds o hR => ?_
  obtain ⟨rfl, rfl⟩ := hR
  refine ⟨_, .nil, fun H0 => .ret ?_⟩
  refine ex_then (sx_set 0 (ev_lit (l := [32, 33, 34, 35, 36, 38, 39, 40, 41, 42, 43, 44, 45, 46, 47, 48, 49, 50, 51, 52, 53, 54, 55, 56, 57, 58, 59, 60, 61, 62, 63, 64, 65, 66, 67, 68, 69, 70, 71, 72, 73, 74, 75, 76, 77, 78, 79, 80, 81, 82, 83, 84, 85, 86, 87, 88, 89, 90, 91, 92, 93, 94, 95, 96])) sc_law_signs.nd) ?_
  exact ex_one (sx_ret (ev_catX (ev_name 0 rfl) (ev_lit (l := [97, 98, 99, 100, 101, 102, 103, 104, 105, 106, 107, 108, 109, 110, 111, 112, 113, 114, 115, 116, 117, 118, 119, 120, 121, 122, 123, 124, 125, 126])) (by walk_at "cat")))
theorem erase_perm {α : Type} : ∀ (l : List α) (i : Nat) (h : i < l.length), (l[i] :: l.eraseIdx i).Perm l
  | a :: l, 0, _ => .refl _
  | a :: l, i + 1, h => .trans (.swap _ _ _) (.cons _ (erase_perm l i (Nat.lt_of_succ_lt_succ h)))
/-- signs that are left, what is left of the number, the letters -/
def fstep (s : List Nat × Int × List Nat) : List Nat × Int × List Nat :=
  (s.1.eraseIdx (s.2.1 % (s.1.length : Int)).toNat, s.2.1 / (s.1.length : Int), s.2.2 ++ [s.1.getD (s.2.1 % (s.1.length : Int)).toNat 0])
def fiter (s : List Nat × Int × List Nat) : Nat → List Nat × Int × List Nat
  | 0 => s
  | n + 1 => fstep (fiter s n)
def fnum (c : Int) : Int := if c / 35 % 2 = 1 then c / 70 * 38429285755540266125959621032429186627936981 + 104729 else c / 70
def fst (c : Int) (k : Nat) : List Nat × Int × List Nat := fiter (sg, fnum c, []) k
/-- the letters -/
def lets (c : Int) : List Nat := (fst c (2 + c % 5).toNat).2.2
def frmD (c : Int) : Dat := .tup [tx (lets c), .int (c / 5 % 7)]
theorem fst_ok (c : Int) : ∀ k, k ≤ 94 → (fst c k).1.length = 94 - k ∧ (fst c k).2.2.length = k ∧ ((fst c k).2.2 ++ (fst c k).1).Perm sg
  | 0, _ => ⟨sg_len, rfl, .refl _⟩
  | k + 1, h => by
    obtain ⟨h1, h2, h3⟩ := fst_ok c k (by omega)
    have e : fst c (k + 1) = fstep (fst c k) := rfl
    rw [e]
    unfold fstep
    have hp : (0 : Int) < ((fst c k).1.length : Int) := by omega
    have hi : ((fst c k).2.1 % ((fst c k).1.length : Int)).toNat < (fst c k).1.length := by
      have a1 := Int.emod_nonneg (fst c k).2.1 (b := ((fst c k).1.length : Int)) (by omega)
      have a2 := Int.emod_lt_of_pos (fst c k).2.1 hp
      omega
    generalize ((fst c k).2.1 % ((fst c k).1.length : Int)).toNat = i at *
    refine ⟨?_, ?_, ?_⟩
    · simp only []
      rw [List.length_eraseIdx_of_lt hi]; omega
    · simp [h2]
    · refine .trans ?_ h3
      simp only []
      rw [List.append_assoc]
      refine .append_left _ ?_
      rw [List.getD_eq_getElem?_getD, List.getElem?_eq_getElem hi]
      exact erase_perm _ _ hi
theorem lets_ok (c : Int) : 2 ≤ (lets c).length ∧ (lets c).length ≤ 6 ∧ (lets c).Nodup ∧ ∀ x ∈ lets c, x ∈ sg := by
  obtain ⟨h1, h2, h3⟩ := fst_ok c (2 + c % 5).toNat (by omega)
  unfold lets
  refine ⟨by omega, by omega, ?_, fun x hx => h3.mem_iff.mp (List.mem_append_left _ hx)⟩
  exact (List.nodup_append.mp (h3.nodup_iff.mpr sg_nodup)).1
theorem lets_out (c : Int) : ∃ x ∈ sg, x ∉ lets c := by
  obtain ⟨h1, h2, h3⟩ := fst_ok c (2 + c % 5).toNat (by omega)
  unfold lets
  have hl : 0 < (fst c (2 + c % 5).toNat).1.length := by omega
  refine ⟨_, h3.mem_iff.mp (List.mem_append_right _ (List.getElem_mem hl)), fun hx => ?_⟩
  have := (List.nodup_append.mp (h3.nodup_iff.mpr sg_nodup)).2.2
  exact this _ hx _ (List.getElem_mem hl) rfl
theorem fnum_mul {c : Int} (h : Builtin.Int.intBits c ≤ 1048576) : IntMulOk (c / 70) 38429285755540266125959621032429186627936981 := by
  refine CMulX.ok ?_
  have h1 : Builtin.Int.intBits (c / 70) ≤ 1048576 := intBits_le_of_natAbs (by omega) h
  have h2 : Builtin.Int.intBits 38429285755540266125959621032429186627936981 ≤ 200 := intBits_le_iff.mpr (by decide)
  unfold CMulX
  omega
def R_law_frame : List Dat → Res → Prop := fun ds o => ∃ c : Int, ds = [.int c] ∧ Builtin.Int.intBits c ≤ 1048576 ∧ o = .val (frmD c)
theorem ok_law_frame (T : Txt K mg) (G_law_signs : GFn P w K mg base "_law_signs" 1 R_law_signs)  (D : Df K mg "_law_frame" s_law_frame ["cell"]) : GFn P w K mg base "_law_frame" 2 R_law_frame := by
  refine GFn.mk D sc_law_frame (fun ds o h => by obtain ⟨_, rfl, _⟩ := h; rfl) fun f cdv A outer s H E hr ds o hR => ?_
  obtain ⟨c, rfl, hb, rfl⟩ := hR
  refine ⟨_, (.im (by walk_at "flat") .nil), fun H0 => .ret ?_⟩
  have hm := fnum_mul hb
  have hsg : R_law_signs [] (.val (tx sg)) := ⟨rfl, rfl⟩
  refine ex_then (sx_set 1 (ev_call0 G_law_signs (hr.mono (by decide)) (by walk_at "R")) sc_law_frame.nd) ?_
  refine ex_then (sx_set 2 (ev_fdiv (ev_name 0 rfl) ev_int (by decide) (by decide +kernel)) sc_law_frame.nd) ?_
  refine ex_then (ρ1 := [.im (.int c), .im (tx sg), .im (.int (fnum c)), .no, .no, .no]) (sx_if (et_eq (ev_mod (ev_fdiv (ev_name 0 rfl) ev_int (by decide) (by decide +kernel)) ev_int (by decide)) ev_int) (fun hc => ?_) (fun hc => ?_)) ?_
  · have hc' : c / 35 % 2 = 1 := by simpa using hc
    rw [show fnum c = _ from if_pos hc']
    refine ex_then (sx_set 2 (ev_add (ev_mul (ev_name 2 rfl) (ev_powC ev_int ev_int (r := 38429285755540266125959621032429186627936981) ⟨by decide, by decide, by decide⟩ (by decide +kernel)) (by walk_at "mul")) ev_int) sc_law_frame.nd) ?_
    exact ex_nil
  · have hc' : ¬ c / 35 % 2 = 1 := by simpa using hc
    rw [show fnum c = _ from if_neg hc']
    exact ex_nil
  refine ex_then (sx_set 3 (ev_lit (l := [])) sc_law_frame.nd) ?_
  refine ex_then (ρ1 := [.im (.int c), .im (tx (fst c (2 + c % 5).toNat).1), .im (.int (fst c (2 + c % 5).toNat).2.1), .im (tx (lets c)), .no, .no]) (sx_for (passes_of rfl) rfl (it_range1 (ev_add ev_int (ev_mod (ev_name 0 rfl) ev_int (by decide))) (by walk_at "rng") (by walk_at "rng") T.b_range) (tg_name 4 sc_law_frame.nd) (fun _ _ => trivial) ?_) ?_
  · show ForT _ _ _ _ _ [.im (.int c), .im (tx (fst c 0).1), .im (.int (fst c 0).2.1), .im (tx (fst c 0).2.2), .no, .no] _
    refine for_steps (fun j => [.im (.int c), .im (tx (fst c j).1), .im (.int (fst c j).2.1), .im (tx (fst c j).2.2), .no, .no]) fun i hi => ?_
    have hi6 : i < 6 := by omega
    obtain ⟨h1, h2, h3⟩ := fst_ok c i (by omega)
    rw [show fst c (i + 1) = fstep (fst c i) from rfl]
    generalize fst c i = s at *
    obtain ⟨S, N, L⟩ := s
    simp only [] at h1 h2 ⊢
    unfold fstep
    simp only []
    have hz : S.length ≤ sizeLine := by simp [sizeLine]; omega
    have hl : dlen (tx S) = some S.length := dlen_tx hz
    have hp : (0 : Int) < (S.length : Int) := by omega
    have hlog : (S.length : Int).natAbs.log2 < 9000 := by
      rw [Int.natAbs_natCast]
      exact Nat.lt_of_le_of_lt (Nat.log2_le_self _) (by omega)
    have a1 := Int.emod_nonneg N (b := (S.length : Int)) (by omega)
    have a2 := Int.emod_lt_of_pos N hp
    have hix : atI S (N % (S.length : Int)) = some (S.getD (N % (S.length : Int)).toNat 0) := by
      refine at_nat a1 ?_
      rw [List.getD_eq_getElem?_getD, List.getElem?_eq_getElem (by omega)]
      rfl
    have hcat : L.length + [S.getD (N % (S.length : Int)).toNat 0].length ≤ sizeLine := by simp [sizeLine]; omega
    have hcut : cut S none (some (N % (S.length : Int))) ++ cut S (some (N % (S.length : Int) + 1)) none = S.eraseIdx (N % (S.length : Int)).toNat := by
      rw [cut_to a1, cut_from (by omega), List.eraseIdx_eq_take_drop_succ, show (N % (S.length : Int) + 1).toNat = (N % (S.length : Int)).toNat + 1 by omega]
    have L1 := cut_len S none (some (N % (S.length : Int)))
    have L2 := cut_len S (some (N % (S.length : Int) + 1)) none
    have hcat2 : (cut S none (some (N % (S.length : Int)))).length + (cut S (some (N % (S.length : Int) + 1)) none).length ≤ sizeLine := by simp [sizeLine]; omega
    rw [← hcut]
    refine ex_then (sx_set 5 (ev_mod (ev_name 2 rfl) (ev_len ((ev_name 1 rfl)).toB (by walk_at "dlen") T.b_len) (by walk_at "pos")) sc_law_frame.nd) ?_
    refine ex_then (sx_set 2 (ev_fdiv (ev_name 2 rfl) (ev_len ((ev_name 1 rfl)).toB (by walk_at "dlen") T.b_len) (by walk_at "pos") (by walk_at "log")) sc_law_frame.nd) ?_
    refine ex_then (sx_set 3 (ev_catX (ev_name 3 rfl) (ev_ixX (ev_name 1 rfl) (ev_name 5 rfl) (by walk_at "len") (by walk_at "ix")) (by walk_at "cat")) sc_law_frame.nd) ?_
    refine ex_then (sx_set 1 (ev_catX (ev_slX (ev_name 1 rfl) eo_none (eo_some (ev_name 5 rfl)) (by walk_at "len")) (ev_slX (ev_name 1 rfl) (eo_some (ev_add (ev_name 5 rfl) ev_int)) eo_none (by walk_at "len")) (by walk_at "cat")) sc_law_frame.nd) ?_
    refine ex_drop 4 (ex_drop 5 ?_)
    exact ex_nil
  exact ex_one (sx_ret (ev_tup (ea_cons (ev_name 3 rfl) (ea_cons (ev_mod (ev_fdiv (ev_name 0 rfl) ev_int (by decide) (by decide +kernel)) ev_int (by decide)) ea_nil)) (by show 2 ≤ sizeLine; decide)))

end
end B
namespace B
open PySem PySem.Spec PyProof.Rows L2

local macro_rules | `(tactic| walk_at "dlen") => `(tactic| first | with_reducible assumption | assumption | rfl)
local macro_rules | `(tactic| walk_at "ix") => `(tactic| first | with_reducible assumption | rfl | assumption | (simp at *; done))
local macro_rules | `(tactic| walk_at "pos") => `(tactic| first | with_reducible assumption | omega | decide)
local macro_rules | `(tactic| walk_at "log") => `(tactic| first | with_reducible assumption | decide +kernel)
local macro_rules | `(tactic| walk_at "mul") => `(tactic| first | with_reducible assumption | exact mul_l (by omega) (by omega) | exact mul_r (by omega) (by omega) | exact mul_r (by decide) (by decide) | exact mul_l (by decide) (by decide))
local macro_rules | `(tactic| walk_at "okd") => `(tactic| first | assumption | exact okD_ints _ | rfl | decide +kernel)
local macro_rules | `(tactic| walk_at "app") => `(tactic| first | with_reducible assumption | (simp [sizeLine]; omega) | decide)
local macro_rules | `(tactic| walk_at "rgc") => `(tactic| assumption)
local macro_rules | `(tactic| walk_at "flats") => `(tactic| first | assumption | exact flats_ints _ | rfl)
local macro_rules | `(tactic| walk_at "flat") => `(tactic| first | rfl | assumption)
local macro_rules | `(tactic| walk_at "pow") => `(tactic| first | assumption | exact ⟨by decide, by decide, by decide⟩ | exact ⟨by omega, by omega, by decide⟩)
local macro_rules | `(tactic| walk_at "nn") => `(tactic| first | with_reducible assumption | omega | decide)
local macro_rules | `(tactic| walk_at "rng") => `(tactic| first | with_reducible assumption | omega | exact ⟨by omega, by omega, by omega, by omega⟩ | decide)
local macro_rules | `(tactic| walk_at "R") => `(tactic| first | with_reducible assumption | assumption | exact ⟨_, rfl, rfl⟩ | exact ⟨_, _, rfl, rfl⟩ | exact ⟨_, _, _, rfl, rfl⟩ | exact ⟨_, _, _, _, rfl, rfl⟩)
local macro_rules | `(tactic| walk_at "cond") => `(tactic| first | rfl | simp_all | (simp; omega))
local macro_rules | `(tactic| walk_at "clen") => `(tactic| first | with_reducible assumption | (simp [sizeLine]; omega) | decide)
local macro_rules | `(tactic| walk_at "len") => `(tactic| first | with_reducible assumption | (simp [sizeLine]; omega) | decide)
local macro_rules | `(tactic| walk_at "cat") => `(tactic| first | with_reducible assumption | (simp [sizeLine]; omega) | decide)
local macro_rules | `(tactic| walk_at "join") => `(tactic| first | assumption | decide)
local macro_rules | `(tactic| walk_at "rep") => `(tactic| first | with_reducible assumption | rfl | assumption)
local macro_rules | `(tactic| walk_at "shl") => `(tactic| first | with_reducible assumption | rfl | assumption)
local macro_rules | `(tactic| walk_at "gix") => `(tactic| first | with_reducible assumption | rfl | assumption)
local macro_rules | `(tactic| walk_at "six") => `(tactic| first | with_reducible assumption | rfl | assumption)
local macro_rules | `(tactic| walk_at "strs") => `(tactic| first | with_reducible assumption | rfl | assumption)
local macro_rules | `(tactic| walk_at "mem") => `(tactic| first | with_reducible assumption | assumption | simp)

section
variable {P : Program} {w : World} {K : PySem.W.Frag} {mg : Str → Option Value} {base : Heap}
/-! ### elders -/
def frame (L : List Nat) (k : Nat) : Dat := .tup [tx L, .int (k : Int)]
theorem frame_flat {L : List Nat} {k : Nat} : flat (.tup [tx L, .int (k : Int)]) = true := rfl
/-- the elders of a place -/
def eld (x k : Nat) (t : List Nat) (i : Nat) : List Nat := (List.replicate k x ++ (t.take i).drop (i - k)).reverse.take k
theorem rep_one (n x : Nat) : (List.replicate n [x]).flatten = List.replicate n x := by
  induction n with
  | zero => rfl
  | succ n ih => rw [List.replicate_succ, List.flatten_cons, ih]; rfl
theorem eld_len (x k : Nat) (t : List Nat) (i : Nat) : (eld x k t i).length ≤ k := by
  unfold eld
  rw [List.length_take]; omega
theorem eld_eq {x k : Nat} {t : List Nat} {i : Nat} (h : i ≤ t.length) : eld x k t i = (List.range k).map fun j => if j + 1 ≤ i then t.getD (i - 1 - j) 0 else x := by
  unfold eld
  rw [List.reverse_append]
  have hl : ((t.take i).drop (i - k)).reverse.length = min i k := by simp; omega
  apply List.ext_getElem
  · simp <;> omega
  · intro j h1 h2
    have hj : j < k := by simpa using h2
    rw [List.getElem_take, List.getElem_map, List.getElem_range]
    by_cases hi : j + 1 ≤ i
    · rw [if_pos hi, List.getElem_append_left (by rw [hl]; omega), List.getElem_reverse, List.getElem_drop, List.getElem_take, List.getD_eq_getElem?_getD, List.getElem?_eq_getElem (by omega)]
      simp only [Option.getD_some]
      congr 1
      simp <;> omega
    · rw [if_neg hi, List.getElem_append_right (by rw [hl]; omega), List.getElem_reverse, List.getElem_replicate]
def R_signs_ahead : List Dat → Res → Prop := fun ds o => ∃ (x k : Nat) (L t : List Nat) (i : Nat), ds = [frame (x :: L) k, tx t, .int (i : Int)] ∧ L.length ≤ 1000 ∧ k ≤ 1000 ∧ t.length ≤ 100000 ∧ i ≤ t.length ∧ o = .val (tx (eld x k t i))
theorem ok_signs_ahead (T : Txt K mg)   (D : Df K mg "signs_ahead" s_signs_ahead ["frame", "text", "at"]) : GFn P w K mg base "signs_ahead" 1 R_signs_ahead := by
  refine GFn.mk D sc_signs_ahead (fun ds o h => by obtain ⟨_, _, _, _, _, rfl, _⟩ := h; rfl) fun f cdv A outer s H E hr ds o hR => ?_
  obtain ⟨x, k, L, t, i, rfl, hL, hk, ht, hi, rfl⟩ := hR
  show ∃ ρ, Ents ρ [.tup [tx (x :: L), .int (k : Int)], tx t, .int (i : Int)] ∧ _
  refine ⟨_, (.im (by walk_at "flat") (.im (by walk_at "flat") (.im (by walk_at "flat") .nil))), fun H0 => .ret ?_⟩
  have hz : (x :: L).length ≤ sizeLine := by simp [sizeLine]; omega
  have hix : atI (x :: L) 0 = some x := at_nat (by decide) rfl
  have hm : MulOk (SX.S [x]) (k : Int) := mulOk_small (by omega) (by omega) (by simp)
  have htz : t.length ≤ sizeLine := by simp [sizeLine]; omega
  have c1 := cut_len t (some (max 0 ((i : Int) - (k : Int)))) (some (i : Int))
  have hr1 : (List.replicate ((k : Int).toNat) [x]).flatten.length = k := by rw [rep_len, Int.toNat_natCast]; simp
  have hcat : (List.replicate ((k : Int).toNat) [x]).flatten.length + (cut t (some (max 0 ((i : Int) - (k : Int)))) (some (i : Int))).length ≤ sizeLine := by rw [hr1]; simp [sizeLine]; omega
  refine ex_then (sx_asg (ev_name 0 rfl) (tg_pair 3 4 sc_signs_ahead.nd rfl) ⟨_, _, rfl⟩) ?_
  refine ex_then (sx_set 5 (ev_catX (ev_repX (ev_ixX (ev_name 3 rfl) ev_int (by walk_at "len") (by walk_at "ix")) (ev_name 4 rfl) (by walk_at "rep")) (ev_slX (ev_name 1 rfl) (eo_some (ev_max2 ev_int (ev_sub (ev_name 2 rfl) (ev_name 4 rfl)) rfl T.b_max)) (eo_some (ev_name 2 rfl)) (by walk_at "len")) (by walk_at "cat")) sc_signs_ahead.nd) ?_
  have hb : (List.replicate ((k : Int).toNat) [x]).flatten ++ cut t (some (max 0 ((i : Int) - (k : Int)))) (some (i : Int)) = List.replicate k x ++ (t.take i).drop (i - k) := by
    rw [Int.toNat_natCast, rep_one, cut_mid (by omega) (by omega), Int.toNat_natCast, show (max 0 ((i : Int) - (k : Int))).toNat = i - k by omega]
  rw [hb]
  have hbl : (List.replicate k x ++ (t.take i).drop (i - k)).length ≤ sizeLine := by simp [sizeLine]; omega
  have hbl2 : (List.replicate k x ++ (t.take i).drop (i - k)).reverse.length ≤ sizeLine := by rw [List.length_reverse]; exact hbl
  exact ex_one (sx_ret (ev_to (ev_slX (ev_revX (ev_name 5 rfl) (by walk_at "len")) eo_none (eo_some (ev_name 4 rfl)) (by walk_at "len")) (by rw [cut_to (by omega), Int.toNat_natCast]; rfl)))

end
end B
namespace B
open PySem PySem.Spec PyProof.Rows L2

local macro_rules | `(tactic| walk_at "dlen") => `(tactic| first | with_reducible assumption | assumption | rfl)
local macro_rules | `(tactic| walk_at "ix") => `(tactic| first | with_reducible assumption | rfl | assumption | (simp at *; done))
local macro_rules | `(tactic| walk_at "pos") => `(tactic| first | with_reducible assumption | omega | decide)
local macro_rules | `(tactic| walk_at "log") => `(tactic| first | with_reducible assumption | decide +kernel)
local macro_rules | `(tactic| walk_at "mul") => `(tactic| first | with_reducible assumption | exact mul_l (by omega) (by omega) | exact mul_r (by omega) (by omega) | exact mul_r (by decide) (by decide) | exact mul_l (by decide) (by decide))
local macro_rules | `(tactic| walk_at "okd") => `(tactic| first | assumption | exact okD_ints _ | rfl | decide +kernel)
local macro_rules | `(tactic| walk_at "app") => `(tactic| first | with_reducible assumption | (simp [sizeLine]; omega) | decide)
local macro_rules | `(tactic| walk_at "rgc") => `(tactic| assumption)
local macro_rules | `(tactic| walk_at "flats") => `(tactic| first | assumption | exact flats_ints _ | rfl)
local macro_rules | `(tactic| walk_at "flat") => `(tactic| first | rfl | assumption)
local macro_rules | `(tactic| walk_at "pow") => `(tactic| first | assumption | exact ⟨by decide, by decide, by decide⟩ | exact ⟨by omega, by omega, by decide⟩)
local macro_rules | `(tactic| walk_at "nn") => `(tactic| first | with_reducible assumption | omega | decide)
local macro_rules | `(tactic| walk_at "rng") => `(tactic| first | with_reducible assumption | omega | exact ⟨by omega, by omega, by omega, by omega⟩ | decide)
local macro_rules | `(tactic| walk_at "R") => `(tactic| first | with_reducible assumption | assumption | exact ⟨_, rfl, rfl⟩ | exact ⟨_, _, rfl, rfl⟩ | exact ⟨_, _, _, rfl, rfl⟩ | exact ⟨_, _, _, _, rfl, rfl⟩)
local macro_rules | `(tactic| walk_at "cond") => `(tactic| first | rfl | simp_all | (simp; omega))
local macro_rules | `(tactic| walk_at "clen") => `(tactic| first | with_reducible assumption | (simp [sizeLine]; omega) | decide)
local macro_rules | `(tactic| walk_at "len") => `(tactic| first | with_reducible assumption | (simp [sizeLine]; omega) | decide)
local macro_rules | `(tactic| walk_at "cat") => `(tactic| first | with_reducible assumption | (simp [sizeLine]; omega) | decide)
local macro_rules | `(tactic| walk_at "join") => `(tactic| first | assumption | decide)
local macro_rules | `(tactic| walk_at "rep") => `(tactic| first | with_reducible assumption | rfl | assumption)
local macro_rules | `(tactic| walk_at "shl") => `(tactic| first | with_reducible assumption | rfl | assumption)
local macro_rules | `(tactic| walk_at "gix") => `(tactic| first | with_reducible assumption | rfl | assumption)
local macro_rules | `(tactic| walk_at "six") => `(tactic| first | with_reducible assumption | rfl | assumption)
local macro_rules | `(tactic| walk_at "strs") => `(tactic| first | with_reducible assumption | rfl | assumption)
local macro_rules | `(tactic| walk_at "mem") => `(tactic| first | with_reducible assumption | assumption | simp)

section
variable {P : Program} {w : World} {K : PySem.W.Frag} {mg : Str → Option Value} {base : Heap}
/-! ### counts -/
def badKnot (L : List Nat) (k : Nat) (m : List Nat) : Prop := k < m.length ∨ ∃ c ∈ m, c ∉ L
def R_need_knot : List Dat → Res → Prop := fun ds o => ∃ (k : Nat) (L m : List Nat), ds = [frame L k, tx m] ∧ m.length ≤ 100000 ∧ (badKnot L k m ∧ o = .exc "NoKnot" ∨ m.length ≤ k ∧ (∀ c ∈ m, c ∈ L) ∧ o = .val .non)
theorem ok_need_knot (T : Txt K mg)   (D : Df K mg "need_knot" s_need_knot ["frame", "knot"]) : GFn P w K mg base "need_knot" 1 R_need_knot := by
  refine GFn.mk D sc_need_knot (fun ds o h => by obtain ⟨_, _, _, rfl, _⟩ := h; rfl) fun f cdv A outer s H E hr ds o hR => ?_
  obtain ⟨k, L, m, rfl, hm, hR⟩ := hR
  show ∃ ρ, Ents ρ [.tup [tx L, .int (k : Int)], tx m] ∧ _
  have hl : dlen (tx m) = some m.length := dlen_tx (by simp [sizeLine]; omega)
  rcases hR with ⟨hbad, rfl⟩ | ⟨hk, hok, rfl⟩
  · refine ⟨_, (.im (by walk_at "flat") (.im (by walk_at "flat") .nil)), fun H0 => .exc (ρ1 := List.replicate 3 .no) ?_⟩
    by_cases h1 : k < m.length
    · refine ex_out (sx_ifT (et_to (et_gt (ev_len ((ev_name 1 rfl)).toB (by walk_at "dlen") T.b_len) (ev_ixT (ev_name 0 rfl) ev_int (by walk_at "ix"))) (by simp; omega)) ?_) (by trivial)
      exact ex_nos (ex_one (sx_raise T.e_NoKnot rfl)) rfl
    · skip
      refine ex_then (sx_skip (et_to (et_gt (ev_len ((ev_name 1 rfl)).toB (by walk_at "dlen") T.b_len) (ev_ixT (ev_name 0 rfl) ev_int (by walk_at "ix"))) (by simp; omega))) ?_
      have hb : ∃ c ∈ m, c ∉ L := by
        rcases hbad with h | h
        · exact absurd h h1
        · exact h
      refine ex_out (sx_for (passes_of rfl) rfl (it_tx (ev_name 1 rfl)) (tg_name 2 sc_need_knot.nd) (fun _ _ => trivial) ?_) (by trivial)
      show ForT _ _ _ _ _ [.im (.tup [tx L, .int (k : Int)]), .im (tx m), .no] _
      clear hl hbad h1 hm
      generalize ht : tx m = T'
      clear ht
      induction m with
      | nil => obtain ⟨c, hc, _⟩ := hb; cases hc
      | cons c r ih =>
        by_cases hc : c ∈ L
        · refine .turn (ρ1 := [.im (.tup [tx L, .int (k : Int)]), .im T', .no]) ?_ (ih ?_)
          · skip
            refine ex_then (sx_skip (et_to (et_ninX (ev_name 2 rfl) (ev_ixT (ev_name 0 rfl) ev_int (by walk_at "ix"))) (by simp [hc]))) ?_
            refine ex_drop 2 ?_
            exact ex_nil
          · obtain ⟨b, hb, hb2⟩ := hb
            rcases List.mem_cons.mp hb with h | h
            · subst h; exact absurd hc hb2
            · exact ⟨b, h, hb2⟩
        · refine .exc ?_
          refine ex_out (sx_ifT (et_to (et_ninX (ev_name 2 rfl) (ev_ixT (ev_name 0 rfl) ev_int (by walk_at "ix"))) (by simp [hc])) ?_) (by trivial)
          exact ex_nos (ex_one (sx_raise T.e_NoKnot rfl)) rfl
  · skip
    refine ⟨_, (.im (by walk_at "flat") (.im (by walk_at "flat") .nil)), fun H0 => .non (ρ1 := [.im (.tup [tx L, .int (k : Int)]), .im (tx m), .no]) ?_⟩
    refine ex_then (sx_skip (et_to (et_gt (ev_len ((ev_name 1 rfl)).toB (by walk_at "dlen") T.b_len) (ev_ixT (ev_name 0 rfl) ev_int (by walk_at "ix"))) (by simp; omega))) ?_
    refine ex_then (ρ1 := [.im (.tup [tx L, .int (k : Int)]), .im (tx m), .no]) (sx_for (passes_of rfl) rfl (it_tx (ev_name 1 rfl)) (tg_name 2 sc_need_knot.nd) (fun _ _ => trivial) ?_) ?_
    · show ForT _ _ _ _ _ [.im (.tup [tx L, .int (k : Int)]), .im (tx m), .no] _
      refine for_same fun e he => ?_
      obtain ⟨c, hc, rfl⟩ := List.mem_map.mp he
      have hm2 := hok c hc
      refine ex_then (sx_skip (et_to (et_ninX (ev_name 2 rfl) (ev_ixT (ev_name 0 rfl) ev_int (by walk_at "ix"))) (by simp [hm2]))) ?_
      refine ex_drop 2 ?_
      exact ex_nil
    exact ex_nil
theorem ints_get {f : List Int} {q : Nat} (h : q < f.length) : (f.map Dat.int)[q]? = some (.int (f.getD q 0)) := by
  rw [List.getElem?_map, List.getD_eq_getElem?_getD, List.getElem?_eq_getElem h]
  rfl
/-- one place more is counted -/
def cstep (L : List Nat) (x k : Nat) (t m : List Nat) (f : List Int) (i : Nat) : List Int := if (eld x k t i).take m.length = m then f.set (L.idxOf (t.getD i 0)) (f.getD (L.idxOf (t.getD i 0)) 0 + 1) else f
def cnts (L : List Nat) (x k : Nat) (t m : List Nat) (n : Nat) : List Int := (List.range n).foldl (cstep L x k t m) (List.replicate L.length 0)
theorem cnts_succ {L : List Nat} {x k : Nat} {t m : List Nat} {n : Nat} : cnts L x k t m (n + 1) = cstep L x k t m (cnts L x k t m n) n := by
  unfold cnts
  rw [List.range_succ, List.foldl_append]
  rfl
theorem cstep_len {L : List Nat} {x k : Nat} {t m : List Nat} {f : List Int} {i : Nat} : (cstep L x k t m f i).length = f.length := by
  unfold cstep
  split <;> simp
theorem cnts_len {L : List Nat} {x k : Nat} {t m : List Nat} : ∀ {n : Nat}, (cnts L x k t m n).length = L.length
  | 0 => by unfold cnts; simp
  | n + 1 => by rw [cnts_succ, cstep_len, cnts_len]
def R_counts : List Dat → Res → Prop := fun ds o => ∃ (x k : Nat) (L t m : List Nat), ds = [frame (x :: L) k, tx t, tx m] ∧ L.length ≤ 1000 ∧ k ≤ 1000 ∧ t.length ≤ 100000 ∧ m.length ≤ 100000 ∧
  ((∃ c ∈ t, c ∉ x :: L) ∧ o = .exc "NoText" ∨ (∀ c ∈ t, c ∈ x :: L) ∧ badKnot (x :: L) k m ∧ o = .exc "NoKnot" ∨ (∀ c ∈ t, c ∈ x :: L) ∧ m.length ≤ k ∧ (∀ c ∈ m, c ∈ x :: L) ∧ o = .own (.lst ((cnts (x :: L) x k t m t.length).map .int)))
theorem ok_counts (T : Txt K mg) (G_checked : GFn P w K mg base "checked" 1 R_checked) (G_need_knot : GFn P w K mg base "need_knot" 1 R_need_knot) (G_signs_ahead : GFn P w K mg base "signs_ahead" 1 R_signs_ahead)  (D : Df K mg "counts" s_counts ["frame", "text", "knot"]) : GFn P w K mg base "counts" 2 R_counts := by
  refine GFn.mk D sc_counts (fun ds o h => by obtain ⟨_, _, _, _, _, rfl, _⟩ := h; rfl) fun f cdv A outer s H E hr ds o hR => ?_
  obtain ⟨x, k, L, t, m, rfl, hL, hk, ht, hm, hR⟩ := hR
  have htz : t.length ≤ sizeLine := by simp [sizeLine]; omega
  have hl : dlen (tx t) = some t.length := dlen_tx htz
  rcases hR with ⟨hbad, rfl⟩ | ⟨hok, hbk, rfl⟩ | ⟨hok, hmk, hml, rfl⟩
  · have hS : R_checked [.tup [tx (x :: L), .int (k : Int)], tx t] (.exc "NoText") := ⟨_, t, _, rfl, rfl, .inr ⟨hbad, rfl⟩⟩
    show ∃ ρ, Ents ρ [.tup [tx (x :: L), .int (k : Int)], tx t, tx m] ∧ _
    refine ⟨_, (.im (by walk_at "flat") (.im (by walk_at "flat") (.im (by walk_at "flat") .nil))), fun H0 => .exc (ρ1 := List.replicate 6 .no) ?_⟩
    exact ex_nos (ex_cons (sx_exprX (exc_call G_checked (hr.mono (by decide)) (eab_cons ((ev_name 0 rfl)).toB (eab_cons ((ev_name 1 rfl)).toB eab_nil)) (by walk_at "R"))) rfl) rfl
  · have hS : R_checked [.tup [tx (x :: L), .int (k : Int)], tx t] (.val (tx t)) := ⟨_, t, _, rfl, rfl, .inl ⟨hok, rfl⟩⟩
    have hN : R_need_knot [.tup [tx (x :: L), .int (k : Int)], tx m] (.exc "NoKnot") := ⟨k, x :: L, m, rfl, hm, .inl ⟨hbk, rfl⟩⟩
    show ∃ ρ, Ents ρ [.tup [tx (x :: L), .int (k : Int)], tx t, tx m] ∧ _
    refine ⟨_, (.im (by walk_at "flat") (.im (by walk_at "flat") (.im (by walk_at "flat") .nil))), fun H0 => .exc (ρ1 := List.replicate 6 .no) ?_⟩
    refine ex_then (sx_expr (ev_call G_checked (hr.mono (by decide)) (eab_cons ((ev_name 0 rfl)).toB (eab_cons ((ev_name 1 rfl)).toB eab_nil)) (by walk_at "R"))) ?_
    exact ex_nos (ex_cons (sx_exprX (exc_call G_need_knot (hr.mono (by decide)) (eab_cons ((ev_name 0 rfl)).toB (eab_cons ((ev_name 2 rfl)).toB eab_nil)) (by walk_at "R"))) rfl) rfl
  · have hS : R_checked [.tup [tx (x :: L), .int (k : Int)], tx t] (.val (tx t)) := ⟨_, t, _, rfl, rfl, .inl ⟨hok, rfl⟩⟩
    have hN : R_need_knot [.tup [tx (x :: L), .int (k : Int)], tx m] (.val .non) := ⟨k, x :: L, m, rfl, hm, .inr ⟨hmk, hml, rfl⟩⟩
    show ∃ ρ, Ents ρ [.tup [tx (x :: L), .int (k : Int)], tx t, tx m] ∧ _
    refine ⟨_, (.im (by walk_at "flat") (.im (by walk_at "flat") (.im (by walk_at "flat") .nil))), fun H0 => ?_⟩
    refine xo_cons (sx_expr (ev_call G_checked (hr.mono (by decide)) (eab_cons ((ev_name 0 rfl)).toB (eab_cons ((ev_name 1 rfl)).toB eab_nil)) (by walk_at "R"))) ?_
    refine xo_cons (sx_expr (ev_call G_need_knot (hr.mono (by decide)) (eab_cons ((ev_name 0 rfl)).toB (eab_cons ((ev_name 2 rfl)).toB eab_nil)) (by walk_at "R"))) ?_
    have hcl : ((x :: L).map fun k => tx [k]).length < sizeLine := by simp [sizeLine]; omega
    refine xo_cons (sx_setLc 3 5 (xn := "sign") rfl sc_counts.nd (it_tx (ev_ixT (ev_name 0 rfl) ev_int (by walk_at "ix"))) rfl rfl (fun _ => true) (fun _ => .int 0) (fun _ _ _ _ _ => pg_name sc_counts.nd rfl (by first | exact Or.inl rfl | exact Or.inr rfl)) (.inl ⟨rfl, fun _ _ => rfl⟩) (fun H0' s' H' C' cl' fp' hs' d' hd' hf' => ?_) (by walk_at "clen")) ?_
    · exact ev_int
    have e0 : (((((x :: L).map fun k => tx [k]).filter fun _ => true).map fun _ => Dat.int 0)) = (cnts (x :: L) x k t m 0).map .int := by
      rw [List.filter_eq_self.mpr (fun _ _ => rfl), List.map_map]
      show List.map (fun _ => Dat.int 0) (x :: L) = List.map Dat.int (List.replicate (x :: L).length 0)
      rw [List.map_const', List.map_replicate]
    rw [e0]
    refine xo_cons (ρ1 := [.im (.tup [tx (x :: L), .int (k : Int)]), .im (tx t), .im (tx m), .ow (.lst ((cnts (x :: L) x k t m t.length).map .int)), .no, .no]) (sx_for (passes_of rfl) rfl (it_range1 (ev_len ((ev_name 1 rfl)).toB (by walk_at "dlen") T.b_len) (by walk_at "rng") (by walk_at "rng") T.b_range) (tg_name 4 sc_counts.nd) (fun _ _ => trivial) ?_) ?_
    · show ForT _ _ _ _ _ [.im (.tup [tx (x :: L), .int (k : Int)]), .im (tx t), .im (tx m), .ow (.lst ((cnts (x :: L) x k t m 0).map .int)), .no, .no] _
      refine for_steps (fun j => [.im (.tup [tx (x :: L), .int (k : Int)]), .im (tx t), .im (tx m), .ow (.lst ((cnts (x :: L) x k t m j).map .int)), .no, .no]) fun i hi => ?_
      rw [show (0 + (i : Int) * 1) = (i : Int) by omega]
      have hi2 : i < t.length := by omega
      have hsa : R_signs_ahead [.tup [tx (x :: L), .int (k : Int)], tx t, .int (i : Int)] (.val (tx (eld x k t i))) := ⟨x, k, L, t, i, rfl, hL, hk, ht, by omega, rfl⟩
      have hat : atI t (i : Int) = some (t.getD i 0) := by
        refine atI_nat ?_
        rw [List.getD_eq_getElem?_getD, List.getElem?_eq_getElem hi2]
        rfl
      have hmem : t.getD i 0 ∈ x :: L := by
        rw [List.getD_eq_getElem?_getD, List.getElem?_eq_getElem hi2]
        exact hok _ (List.getElem_mem hi2)
      rw [cnts_succ]
      have hfl := cnts_len (L := x :: L) (x := x) (k := k) (t := t) (m := m) (n := i)
      generalize cnts (x :: L) x k t m i = f at *
      by_cases hc : (eld x k t i).take m.length = m
      · rw [show cstep (x :: L) x k t m f i = _ from if_pos hc, List.map_set]
        have hj : (x :: L).idxOf (t.getD i 0) < f.length := by rw [hfl]; exact List.idxOf_lt_length_iff.mpr hmem
        have hgi := ints_get hj
        refine' ex_then (ρ1 := _) (sx_ifT (et_to (et_val (ev_startsX (ev_call G_signs_ahead (hr.mono (by decide)) (eab_cons ((ev_name 0 rfl)).toB (eab_cons ((ev_name 1 rfl)).toB (eab_cons ((ev_name 4 rfl)).toB eab_nil))) (by walk_at "R")) (ev_name 2 rfl))) (by simp [hc])) ?_) ?_
        rotate_left 1
        · refine ex_then (sx_augIx 3 rfl (ev_findX (ev_ixT (ev_name 0 rfl) ev_int (by walk_at "ix")) (ev_ixX (ev_name 1 rfl) (ev_name 4 rfl) (by walk_at "len") (by walk_at "ix")) (by walk_at "mem")) (by walk_at "gix") ev_int) ?_
          exact ex_nil
        refine ex_drop 4 ?_
        exact ex_nil
      · rw [show cstep (x :: L) x k t m f i = _ from if_neg hc]
        refine ex_then (sx_skip (et_to (et_val (ev_startsX (ev_call G_signs_ahead (hr.mono (by decide)) (eab_cons ((ev_name 0 rfl)).toB (eab_cons ((ev_name 1 rfl)).toB (eab_cons ((ev_name 4 rfl)).toB eab_nil))) (by walk_at "R")) (ev_name 2 rfl))) (by simp [hc]))) ?_
        refine ex_drop 4 ?_
        exact ex_nil
    exact xo_own 3 rfl

/-! ### the law's texts -/
def lfar (way : Int) : Nat := (1 + way / 2 % 4).toNat
def lstep (L : List Nat) (way : Int) (t : List Nat) (z : Int) : List Nat := if way % 2 = 1 ∧ z % 3 = 0 ∧ lfar way ≤ t.length then t ++ [t.getD (t.length - lfar way) 0] else t ++ [pick L (z / 3)]
def ltext (L : List Nat) (zs : List Int) (way : Int) : List Nat := zs.foldl (lstep L way) []
theorem lstep_len (L : List Nat) (way : Int) (t : List Nat) (z : Int) : (lstep L way t z).length = t.length + 1 := by
  unfold lstep
  split <;> simp
theorem lstep_mem {L : List Nat} {way : Int} {t : List Nat} {z : Int} (hL : 0 < L.length) (h : ∀ c ∈ t, c ∈ L) : ∀ c ∈ lstep L way t z, c ∈ L := by
  intro c hc
  unfold lstep at hc
  split at hc
  · rename_i q
    rcases List.mem_append.mp hc with m | m
    · exact h c m
    · rw [List.mem_singleton] at m
      subst m
      have hf : 0 < lfar way := by unfold lfar; omega
      rw [List.getD_eq_getElem?_getD, List.getElem?_eq_getElem (by omega)]
      exact h _ (List.getElem_mem _)
  · rcases List.mem_append.mp hc with m | m
    · exact h c m
    · rw [List.mem_singleton] at m
      subst m
      exact pick_mem _ hL
theorem lfold_ok {L : List Nat} {way : Int} (hL : 0 < L.length) : ∀ (zs : List Int) (t : List Nat), (∀ c ∈ t, c ∈ L) → (zs.foldl (lstep L way) t).length = t.length + zs.length ∧ ∀ c ∈ zs.foldl (lstep L way) t, c ∈ L
  | [], t, h => ⟨rfl, h⟩
  | z :: zs, t, h => by
    obtain ⟨a, b⟩ := lfold_ok (way := way) hL zs (lstep L way t z) (lstep_mem hL h)
    exact ⟨by rw [List.foldl_cons, a, lstep_len, List.length_cons]; omega, b⟩
theorem ltext_len {L : List Nat} {zs : List Int} {way : Int} (hL : 0 < L.length) : (ltext L zs way).length = zs.length := by
  have := (lfold_ok (way := way) hL zs [] (fun c hc => by cases hc)).1
  unfold ltext
  simpa using this
theorem ltext_mem {L : List Nat} {zs : List Int} {way : Int} (hL : 0 < L.length) : ∀ c ∈ ltext L zs way, c ∈ L := (lfold_ok (way := way) hL zs [] (fun c hc => by cases hc)).2
def R_law_text : List Dat → Res → Prop := fun ds o => ∃ (L : List Nat) (zs : List Int) (way : Int), ds = [tx L, .lst (zs.map .int), .int way] ∧ 0 < L.length ∧ L.length ≤ 1000 ∧ zs.length ≤ 1000 ∧ o = .val (tx (ltext L zs way))
theorem ok_law_text (T : Txt K mg)   (D : Df K mg "_law_text" s_law_text ["letters", "cells", "way"]) : GFn P w K mg base "_law_text" 1 R_law_text := by
  refine GFn.mk D sc_law_text (fun ds o h => by obtain ⟨_, _, _, rfl, _⟩ := h; rfl) fun f cdv A outer s H E hr ds o hR => ?_
  obtain ⟨L, zs, way, rfl, hL, hLm, hzs, rfl⟩ := hR
  refine ⟨_, (.im (by walk_at "flat") (.ol (.im (by walk_at "flat") .nil))), fun H0 => .ret ?_⟩
  have hLz : L.length ≤ sizeLine := by simp [sizeLine]; omega
  have hLl : dlen (tx L) = some L.length := dlen_tx hLz
  have hLp : (0 : Int) < (L.length : Int) := by omega
  refine ex_then (sx_set 3 (ev_lit (l := [])) sc_law_text.nd) ?_
  refine ex_then (ρ1 := [.im (tx L), .ol (.lst (zs.map .int)), .im (.int way), .im (tx (ltext L zs way)), .no, .no]) (sx_for (passes_of rfl) rfl (it_ol 1 rfl (by walk_at "flats")) (tg_name 4 sc_law_text.nd) (fun _ _ => trivial) ?_) ?_
  · show ForT _ _ _ _ _ [.im (tx L), .ol (.lst (zs.map .int)), .im (.int way), .im (tx []), .no, .no] _
    unfold ltext
    have key : ∀ (t : List Nat), t.length + zs.length ≤ 1000 → t.length + zs.length ≤ 1000 := fun t h => h
    have h0 := key [] (by simpa using hzs)
    clear key
    generalize Dat.lst (zs.map .int) = D
    generalize ([] : List Nat) = t at h0 ⊢
    clear hzs
    induction zs generalizing t with
    | nil => exact .nil
    | cons z zs ih =>
      have h1 : t.length + (zs.length + 1) ≤ 1000 := h0
      refine .turn (ρ1 := [.im (tx L), .ol D, .im (.int way), .im (tx (lstep L way t z)), .no, .no]) ?_ (ih _ (by rw [lstep_len]; omega))
      have htz : t.length ≤ sizeLine := by simp [sizeLine]; omega
      have htl : dlen (tx t) = some t.length := dlen_tx htz
      have hfar : ((lfar way : Nat) : Int) = 1 + way / 2 % 4 := by unfold lfar; omega
      have hpk := pick_at (z / 3) (l := L) hL
      have hcat : t.length + [pick L (z / 3)].length ≤ sizeLine := by simp [sizeLine]; omega
      refine ex_then (sx_set 5 (ev_add ev_int (ev_mod (ev_fdiv (ev_name 2 rfl) ev_int (by decide) (by decide +kernel)) ev_int (by decide))) sc_law_text.nd) ?_
      rw [← hfar]
      by_cases hc : way % 2 = 1 ∧ z % 3 = 0 ∧ lfar way ≤ t.length
      · rw [show lstep L way t z = _ from if_pos hc]
        have hf : 0 < lfar way := by unfold lfar; omega
        have hat : atI t (-((lfar way : Nat) : Int)) = some (t.getD (t.length - lfar way) 0) := by
          unfold atI ixN
          rw [if_neg (by omega), if_pos (by omega), List.getD_eq_getElem?_getD, List.getElem?_eq_getElem (by omega)]
          show t[(-((lfar way : Nat) : Int) + (t.length : Int)).toNat]? = _
          rw [show (-((lfar way : Nat) : Int) + (t.length : Int)).toNat = t.length - lfar way by omega, List.getElem?_eq_getElem (by omega)]
          rfl
        have hcat2 : t.length + [t.getD (t.length - lfar way) 0].length ≤ sizeLine := by simp [sizeLine]; omega
        refine' ex_then (ρ1 := _) (sx_ifT (et_to ((ew_and (et_eq (ev_mod (ev_name 2 rfl) ev_int (by decide)) ev_int) fun hq => (ew_and (et_eq (ev_mod (ev_name 4 rfl) ev_int (by decide)) ev_int) fun hq => (ew_and1 (et_ge (ev_len ((ev_name 3 rfl)).toB (by walk_at "dlen") T.b_len) (ev_name 5 rfl)))))).t (by simp [hc.1, hc.2.1]; omega)) ?_) ?_
        rotate_left 1
        · refine ex_then (sx_set 3 (ev_catX (ev_name 3 rfl) (ev_ixX (ev_name 3 rfl) (ev_neg (ev_name 5 rfl)) (by walk_at "len") (by walk_at "ix")) (by walk_at "cat")) sc_law_text.nd) ?_
          exact ex_nil
        refine ex_drop 4 (ex_drop 5 ?_)
        exact ex_nil
      · rw [show lstep L way t z = _ from if_neg hc]
        refine' ex_then (ρ1 := _) (sx_ifF (et_to ((ew_and (et_eq (ev_mod (ev_name 2 rfl) ev_int (by decide)) ev_int) fun hq => (ew_and (et_eq (ev_mod (ev_name 4 rfl) ev_int (by decide)) ev_int) fun hq => (ew_and1 (et_ge (ev_len ((ev_name 3 rfl)).toB (by walk_at "dlen") T.b_len) (ev_name 5 rfl)))))).t (by simp; omega)) ?_) ?_
        rotate_left 1
        · refine ex_then (sx_set 3 (ev_catX (ev_name 3 rfl) (ev_ixX (ev_name 0 rfl) (ev_mod (ev_fdiv (ev_name 4 rfl) ev_int (by decide) (by decide +kernel)) (ev_len ((ev_name 0 rfl)).toB (by walk_at "dlen") T.b_len) (by walk_at "pos")) (by walk_at "len") (by walk_at "ix")) (by walk_at "cat")) sc_law_text.nd) ?_
          exact ex_nil
        refine ex_drop 4 (ex_drop 5 ?_)
        exact ex_nil
  exact ex_one (sx_ret (ev_name 3 rfl))

end
end B
namespace B
open PySem PySem.Spec PyProof.Rows L2

local macro_rules | `(tactic| walk_at "dlen") => `(tactic| first | with_reducible assumption | assumption | rfl)
local macro_rules | `(tactic| walk_at "ix") => `(tactic| first | with_reducible assumption | rfl | assumption | (simp at *; done))
local macro_rules | `(tactic| walk_at "pos") => `(tactic| first | with_reducible assumption | omega | decide)
local macro_rules | `(tactic| walk_at "log") => `(tactic| first | with_reducible assumption | decide +kernel)
local macro_rules | `(tactic| walk_at "mul") => `(tactic| first | with_reducible assumption | exact mul_l (by omega) (by omega) | exact mul_r (by omega) (by omega) | exact mul_r (by decide) (by decide) | exact mul_l (by decide) (by decide))
local macro_rules | `(tactic| walk_at "okd") => `(tactic| first | assumption | exact okD_ints _ | rfl | decide +kernel)
local macro_rules | `(tactic| walk_at "app") => `(tactic| first | with_reducible assumption | (simp [sizeLine]; omega) | decide)
local macro_rules | `(tactic| walk_at "rgc") => `(tactic| assumption)
local macro_rules | `(tactic| walk_at "flats") => `(tactic| first | assumption | exact flats_ints _ | rfl)
local macro_rules | `(tactic| walk_at "flat") => `(tactic| first | rfl | assumption)
local macro_rules | `(tactic| walk_at "pow") => `(tactic| first | assumption | exact ⟨by decide, by decide, by decide⟩ | exact ⟨by omega, by omega, by decide⟩)
local macro_rules | `(tactic| walk_at "nn") => `(tactic| first | with_reducible assumption | omega | decide)
local macro_rules | `(tactic| walk_at "rng") => `(tactic| first | with_reducible assumption | omega | exact ⟨by omega, by omega, by omega, by omega⟩ | decide)
local macro_rules | `(tactic| walk_at "R") => `(tactic| first | with_reducible assumption | assumption | exact ⟨_, rfl, rfl⟩ | exact ⟨_, _, rfl, rfl⟩ | exact ⟨_, _, _, rfl, rfl⟩ | exact ⟨_, _, _, _, rfl, rfl⟩)
local macro_rules | `(tactic| walk_at "cond") => `(tactic| first | rfl | simp_all | (simp; omega))
local macro_rules | `(tactic| walk_at "clen") => `(tactic| first | with_reducible assumption | (simp [sizeLine]; omega) | decide)
local macro_rules | `(tactic| walk_at "len") => `(tactic| first | with_reducible assumption | (simp [sizeLine]; omega) | decide)
local macro_rules | `(tactic| walk_at "cat") => `(tactic| first | with_reducible assumption | (simp [sizeLine]; omega) | decide)
local macro_rules | `(tactic| walk_at "join") => `(tactic| first | assumption | decide)
local macro_rules | `(tactic| walk_at "rep") => `(tactic| first | with_reducible assumption | rfl | assumption)
local macro_rules | `(tactic| walk_at "shl") => `(tactic| first | with_reducible assumption | rfl | assumption)
local macro_rules | `(tactic| walk_at "gix") => `(tactic| first | with_reducible assumption | rfl | assumption)
local macro_rules | `(tactic| walk_at "six") => `(tactic| first | with_reducible assumption | rfl | assumption)
local macro_rules | `(tactic| walk_at "strs") => `(tactic| first | with_reducible assumption | rfl | assumption)
local macro_rules | `(tactic| walk_at "mem") => `(tactic| first | with_reducible assumption | assumption | simp)

section
variable {P : Program} {w : World} {K : PySem.W.Frag} {mg : Str → Option Value} {base : Heap}
/-- an elder by the law's own -/
def lel (x : Nat) (t : List Nat) (i j : Nat) : Nat := if j + 1 ≤ i then t.getD (i - 1 - j) 0 else x
theorem eld_take {x k : Nat} {t m : List Nat} {i : Nat} (hi : i ≤ t.length) (hm : m.length ≤ k) : (eld x k t i).take m.length = m ↔ ∀ j, j < m.length → lel x t i j = m.getD j 0 := by
  have e : (eld x k t i).take m.length = (List.range m.length).map (lel x t i) := by
    rw [eld_eq hi, ← List.map_take, List.take_range, Nat.min_eq_left hm]
    rfl
  rw [e]
  constructor
  · intro h j hj
    have := congrArg (fun l => l.getD j 0) h
    simp only [List.getD_eq_getElem?_getD, List.getElem?_map, List.getElem?_range hj, Option.map_some, Option.getD_some] at this
    rw [this, List.getD_eq_getElem?_getD]
  · intro h
    apply List.ext_getElem
    · simp
    · intro j h1 h2
      rw [List.getElem_map, List.getElem_range, h j h2, List.getD_eq_getElem?_getD, List.getElem?_eq_getElem h2]
      rfl
theorem first_miss (P : Nat → Prop) : ∀ n : Nat, ∃ q, q ≤ n ∧ (∀ j, j < q → P j) ∧ (q = n ∨ ¬ P q)
  | 0 => ⟨0, Nat.le_refl _, fun j h => absurd h (Nat.not_lt_zero j), .inl rfl⟩
  | n + 1 => by
    obtain ⟨q, h1, h2, h3⟩ := first_miss P n
    rcases h3 with h3 | h3
    · subst h3
      by_cases hp : P q
      · exact ⟨q + 1, Nat.le_refl _, fun j hj => by
          rcases Nat.lt_or_ge j q with h | h
          · exact h2 j h
          · have : j = q := by omega
            subst this; exact hp, .inl rfl⟩
      · exact ⟨q, by omega, h2, .inr hp⟩
    · exact ⟨q, by omega, h2, .inr h3⟩
def R_law_elder : List Dat → Res → Prop := fun ds o => ∃ (x k : Nat) (L t : List Nat) (i j : Nat), ds = [frame (x :: L) k, tx t, .int (i : Int), .int (j : Int)] ∧ L.length ≤ 1000 ∧ t.length ≤ 100000 ∧ i ≤ t.length ∧ o = .val (tx [lel x t i j])
theorem ok_law_elder (T : Txt K mg)   (D : Df K mg "_law_elder" s_law_elder ["frame", "text", "at", "k"]) : GFn P w K mg base "_law_elder" 1 R_law_elder := by
  refine GFn.mk D sc_law_elder (fun ds o h => by obtain ⟨_, _, _, _, _, _, rfl, _⟩ := h; rfl) fun f cdv A outer s H E hr ds o hR => ?_
  obtain ⟨x, k, L, t, i, j, rfl, hL, ht, hi, rfl⟩ := hR
  show ∃ ρ, Ents ρ [.tup [tx (x :: L), .int (k : Int)], tx t, .int (i : Int), .int (j : Int)] ∧ _
  refine ⟨_, (.im (by walk_at "flat") (.im (by walk_at "flat") (.im (by walk_at "flat") (.im (by walk_at "flat") .nil)))), fun H0 => .ret ?_⟩
  have hz : (x :: L).length ≤ sizeLine := by simp [sizeLine]; omega
  have hix : atI (x :: L) 0 = some x := at_nat (by decide) rfl
  have htz : t.length ≤ sizeLine := by simp [sizeLine]; omega
  unfold lel
  by_cases hc : j + 1 ≤ i
  · rw [if_pos hc]
    have hat : atI t ((i : Int) - 1 - (j : Int)) = some (t.getD (i - 1 - j) 0) := by
      refine at_nat (by omega) ?_
      rw [show ((i : Int) - 1 - (j : Int)).toNat = i - 1 - j by omega, List.getD_eq_getElem?_getD, List.getElem?_eq_getElem (by omega)]
      rfl
    refine ex_out (sx_ifT (et_to (et_ge (ev_sub (ev_sub (ev_name 2 rfl) ev_int) (ev_name 3 rfl)) ev_int) (by simp; omega)) ?_) (by trivial)
    exact ex_one (sx_ret (ev_ixX (ev_name 1 rfl) (ev_sub (ev_sub (ev_name 2 rfl) ev_int) (ev_name 3 rfl)) (by walk_at "len") (by walk_at "ix")))
  · rw [if_neg hc]
    refine ex_then (sx_skip (et_to (et_ge (ev_sub (ev_sub (ev_name 2 rfl) ev_int) (ev_name 3 rfl)) ev_int) (by simp; omega))) ?_
    exact ex_one (sx_ret (ev_ixX (ev_ixT (ev_name 0 rfl) ev_int (by walk_at "ix")) ev_int (by walk_at "len") (by walk_at "ix")))
def R_law_counts : List Dat → Res → Prop := fun ds o => ∃ (x k : Nat) (L t m : List Nat), ds = [frame (x :: L) k, tx t, tx m] ∧ L.length ≤ 1000 ∧ k ≤ 1000 ∧ t.length ≤ 100000 ∧ m.length ≤ k ∧ (∀ c ∈ t, c ∈ x :: L) ∧ o = .own (.lst ((cnts (x :: L) x k t m t.length).map .int))
theorem ok_law_counts (T : Txt K mg) (G_law_elder : GFn P w K mg base "_law_elder" 1 R_law_elder)  (D : Df K mg "_law_counts" s_law_counts ["frame", "text", "knot"]) : GFn P w K mg base "_law_counts" 2 R_law_counts := by
  refine GFn.mk D sc_law_counts (fun ds o h => by obtain ⟨_, _, _, _, _, rfl, _⟩ := h; rfl) fun f cdv A outer s H E hr ds o hR => ?_
  obtain ⟨x, k, L, t, m, rfl, hL, hk, ht, hm, hok, rfl⟩ := hR
  show ∃ ρ, Ents ρ [.tup [tx (x :: L), .int (k : Int)], tx t, tx m] ∧ _
  refine ⟨_, (.im (by walk_at "flat") (.im (by walk_at "flat") (.im (by walk_at "flat") .nil))), fun H0 => ?_⟩
  have htz : t.length ≤ sizeLine := by simp [sizeLine]; omega
  have hl : dlen (tx t) = some t.length := dlen_tx htz
  have hmz : m.length ≤ sizeLine := by simp [sizeLine]; omega
  have hml : dlen (tx m) = some m.length := dlen_tx hmz
  have hcl : ((x :: L).map fun k => tx [k]).length < sizeLine := by simp [sizeLine]; omega
  refine xo_cons (sx_setLc 3 7 (xn := "sign") rfl sc_law_counts.nd (it_tx (ev_ixT (ev_name 0 rfl) ev_int (by walk_at "ix"))) rfl rfl (fun _ => true) (fun _ => .int 0) (fun _ _ _ _ _ => pg_name sc_law_counts.nd rfl (by first | exact Or.inl rfl | exact Or.inr rfl)) (.inl ⟨rfl, fun _ _ => rfl⟩) (fun H0' s' H' C' cl' fp' hs' d' hd' hf' => ?_) (by walk_at "clen")) ?_
  · exact ev_int
  have e0 : (((((x :: L).map fun k => tx [k]).filter fun _ => true).map fun _ => Dat.int 0)) = (cnts (x :: L) x k t m 0).map .int := by
    rw [List.filter_eq_self.mpr (fun _ _ => rfl), List.map_map]
    show List.map (fun _ => Dat.int 0) (x :: L) = List.map Dat.int (List.replicate (x :: L).length 0)
    rw [List.map_const', List.map_replicate]
  rw [e0]
  refine xo_cons (ρ1 := [.im (.tup [tx (x :: L), .int (k : Int)]), .im (tx t), .im (tx m), .ow (.lst ((cnts (x :: L) x k t m t.length).map .int)), .no, .no, .no, .no]) (sx_for (passes_of rfl) rfl (it_range1 (ev_len ((ev_name 1 rfl)).toB (by walk_at "dlen") T.b_len) (by walk_at "rng") (by walk_at "rng") T.b_range) (tg_name 4 sc_law_counts.nd) (fun _ _ => trivial) ?_) ?_
  · show ForT _ _ _ _ _ [.im (.tup [tx (x :: L), .int (k : Int)]), .im (tx t), .im (tx m), .ow (.lst ((cnts (x :: L) x k t m 0).map .int)), .no, .no, .no, .no] _
    refine for_steps (fun j => [.im (.tup [tx (x :: L), .int (k : Int)]), .im (tx t), .im (tx m), .ow (.lst ((cnts (x :: L) x k t m j).map .int)), .no, .no, .no, .no]) fun i hi => ?_
    rw [show (0 + (i : Int) * 1) = (i : Int) by omega]
    have hi2 : i < t.length := by omega
    have hle : ∀ j : Nat, R_law_elder [.tup [tx (x :: L), .int (k : Int)], tx t, .int (i : Int), .int (j : Int)] (.val (tx [lel x t i j])) := fun j => ⟨x, k, L, t, i, j, rfl, hL, ht, by omega, rfl⟩
    have hat : atI t (i : Int) = some (t.getD i 0) := by
      refine atI_nat ?_
      rw [List.getD_eq_getElem?_getD, List.getElem?_eq_getElem hi2]
      rfl
    have hmem : t.getD i 0 ∈ x :: L := by
      rw [List.getD_eq_getElem?_getD, List.getElem?_eq_getElem hi2]
      exact hok _ (List.getElem_mem hi2)
    have htk := eld_take (x := x) (t := t) (m := m) (i := i) (by omega) hm
    obtain ⟨q, hq1, hq2, hq3⟩ := first_miss (fun j => lel x t i j = m.getD j 0) m.length
    rw [cnts_succ]
    have hfl := cnts_len (L := x :: L) (x := x) (k := k) (t := t) (m := m) (n := i)
    generalize cnts (x :: L) x k t m i = f at *
    refine ex_then (sx_set 5 ev_int sc_law_counts.nd) ?_
    refine ex_then (ρ1 := [.im (.tup [tx (x :: L), .int (k : Int)]), .im (tx t), .im (tx m), .ow (.lst (f.map .int)), .im (.int (i : Int)), .im (.int (q : Int)), .no, .no]) (sx_while (passes_of rfl) ?_) ?_
    · show WhileT _ _ _ _ [.im (.tup [tx (x :: L), .int (k : Int)]), .im (tx t), .im (tx m), .ow (.lst (f.map .int)), .im (.int (i : Int)), .im (.int ((0 : Nat) : Int)), .no, .no] _
      obtain ⟨a, ha, haq⟩ : ∃ a : Nat, 0 = a ∧ a ≤ q := ⟨0, rfl, Nat.zero_le _⟩
      rw [show ((0 : Nat) : Int) = (a : Int) by rw [ha]]
      clear ha
      obtain ⟨r, hr'⟩ : ∃ r, q - a = r := ⟨_, rfl⟩
      induction r generalizing a with
      | zero =>
        have ea : a = q := by omega
        subst ea
        have hla := hle a
        by_cases ham : a < m.length
        · have h : ¬ lel x t i a = m.getD a 0 := by
            rcases hq3 with h | h
            · omega
            · exact h
          have hixm : atI m (a : Int) = some (m.getD a 0) := by
            refine atI_nat ?_
            rw [List.getD_eq_getElem?_getD, List.getElem?_eq_getElem ham]
            rfl
          have h2 : decide ([lel x t i a] = [m.getD a 0]) = false := decide_eq_false (fun z => h (List.cons.inj z).1)
          exact .done (et_to ((ew_and (et_lt (ev_name 5 rfl) (ev_len ((ev_name 2 rfl)).toB (by walk_at "dlen") T.b_len)) fun hq => (ew_and1 (et_eqX (ev_call G_law_elder (hr.mono (by decide)) (eab_cons ((ev_name 0 rfl)).toB (eab_cons ((ev_name 1 rfl)).toB (eab_cons ((ev_name 4 rfl)).toB (eab_cons ((ev_name 5 rfl)).toB eab_nil)))) (by walk_at "R")) (ev_ixX (ev_name 2 rfl) (ev_name 5 rfl) (by walk_at "len") (by walk_at "ix")))))).t (by rw [h2, Bool.and_false]))
        · exact .done (et_to (ew_and (l := false) (et_lt (ev_name 5 rfl) (ev_len ((ev_name 2 rfl)).toB (by walk_at "dlen") T.b_len)) (fun hq => absurd hq (by simp; omega))).t (by simp))
      | succ r ih =>
        have hla := hle a
        have ham : a < m.length := by omega
        have heq := hq2 a (by omega)
        have hixm : atI m (a : Int) = some (m.getD a 0) := by
          refine atI_nat ?_
          rw [List.getD_eq_getElem?_getD, List.getElem?_eq_getElem ham]
          rfl
        refine .turn (ρ1 := [.im (.tup [tx (x :: L), .int (k : Int)]), .im (tx t), .im (tx m), .ow (.lst (f.map .int)), .im (.int (i : Int)), .im (.int ((a + 1 : Nat) : Int)), .no, .no]) (et_to ((ew_and (et_lt (ev_name 5 rfl) (ev_len ((ev_name 2 rfl)).toB (by walk_at "dlen") T.b_len)) fun hq => (ew_and1 (et_eqX (ev_call G_law_elder (hr.mono (by decide)) (eab_cons ((ev_name 0 rfl)).toB (eab_cons ((ev_name 1 rfl)).toB (eab_cons ((ev_name 4 rfl)).toB (eab_cons ((ev_name 5 rfl)).toB eab_nil)))) (by walk_at "R")) (ev_ixX (ev_name 2 rfl) (ev_name 5 rfl) (by walk_at "len") (by walk_at "ix")))))).t (by rw [heq]; simp [ham])) ?_ (ih (a + 1) (by omega) (by omega))
        rw [show ((a + 1 : Nat) : Int) = (a : Int) + 1 by omega]
        refine ex_then (sx_set 5 (ev_add (ev_name 5 rfl) ev_int) sc_law_counts.nd) ?_
        exact ex_nil
    by_cases hc : q = m.length
    · have hj : (x :: L).idxOf (t.getD i 0) < f.length := by rw [hfl]; exact List.idxOf_lt_length_iff.mpr hmem
      rw [show cstep (x :: L) x k t m f i = _ from if_pos (htk.mpr fun j hj => hq2 j (by omega)), List.map_set]
      have hgi := ints_get hj
      have hga : atI (f.map Dat.int) (((x :: L).idxOf (t.getD i 0) : Nat) : Int) = some (.int (f.getD ((x :: L).idxOf (t.getD i 0)) 0)) := atI_nat hgi
      have hsi : ixN (f.map Dat.int).length (((x :: L).idxOf (t.getD i 0) : Nat) : Int) = some ((x :: L).idxOf (t.getD i 0)) := by
        unfold ixN
        rw [if_pos (by omega), List.length_map, if_pos (by omega), Int.toNat_natCast]
      refine' ex_then (ρ1 := _) (sx_ifT (et_to (et_eq (ev_name 5 rfl) (ev_len ((ev_name 2 rfl)).toB (by walk_at "dlen") T.b_len)) (by simp [hc])) ?_) ?_
      rotate_left 1
      · refine ex_then (sx_set 6 (ev_findX (ev_ixT (ev_name 0 rfl) ev_int (by walk_at "ix")) (ev_ixX (ev_name 1 rfl) (ev_name 4 rfl) (by walk_at "len") (by walk_at "ix")) (by walk_at "mem")) sc_law_counts.nd) ?_
        refine ex_then (sx_setIx 3 rfl (ev_add ((eb_ixL (eb_name_ow 3 rfl) (ev_name 6 rfl) (by walk_at "ix")).flat rfl) ev_int) (ev_name 6 rfl) (by walk_at "six")) ?_
        refine ex_drop 6 ?_
        exact ex_nil
      refine ex_drop 4 (ex_drop 5 ?_)
      exact ex_nil
    · have hc2 : ¬ (eld x k t i).take m.length = m := fun z => by
        have := htk.mp z q (by omega)
        rcases hq3 with h | h
        · exact hc h
        · exact h this
      rw [show cstep (x :: L) x k t m f i = _ from if_neg hc2]
      refine ex_then (sx_skip (et_to (et_eq (ev_name 5 rfl) (ev_len ((ev_name 2 rfl)).toB (by walk_at "dlen") T.b_len)) (by simp; omega))) ?_
      refine ex_drop 4 (ex_drop 5 ?_)
      exact ex_nil
  exact xo_own 3 rfl
end
end B
namespace B
open PySem PySem.Spec PyProof.Rows L2

local macro_rules | `(tactic| walk_at "dlen") => `(tactic| first | with_reducible assumption | assumption | rfl)
local macro_rules | `(tactic| walk_at "ix") => `(tactic| first | with_reducible assumption | rfl | assumption | (simp at *; done))
local macro_rules | `(tactic| walk_at "pos") => `(tactic| first | with_reducible assumption | omega | decide)
local macro_rules | `(tactic| walk_at "log") => `(tactic| first | with_reducible assumption | decide +kernel)
local macro_rules | `(tactic| walk_at "mul") => `(tactic| first | with_reducible assumption | exact mul_l (by omega) (by omega) | exact mul_r (by omega) (by omega) | exact mul_r (by decide) (by decide) | exact mul_l (by decide) (by decide))
local macro_rules | `(tactic| walk_at "okd") => `(tactic| first | assumption | exact okD_ints _ | rfl | decide +kernel)
local macro_rules | `(tactic| walk_at "app") => `(tactic| first | with_reducible assumption | (simp [sizeLine]; omega) | decide)
local macro_rules | `(tactic| walk_at "rgc") => `(tactic| assumption)
local macro_rules | `(tactic| walk_at "flats") => `(tactic| first | assumption | exact flats_ints _ | rfl)
local macro_rules | `(tactic| walk_at "flat") => `(tactic| first | rfl | assumption)
local macro_rules | `(tactic| walk_at "pow") => `(tactic| first | assumption | exact ⟨by decide, by decide, by decide⟩ | exact ⟨by omega, by omega, by decide⟩)
local macro_rules | `(tactic| walk_at "nn") => `(tactic| first | with_reducible assumption | omega | decide)
local macro_rules | `(tactic| walk_at "rng") => `(tactic| first | with_reducible assumption | omega | exact ⟨by omega, by omega, by omega, by omega⟩ | decide)
local macro_rules | `(tactic| walk_at "R") => `(tactic| first | with_reducible assumption | assumption | exact ⟨_, rfl, rfl⟩ | exact ⟨_, _, rfl, rfl⟩ | exact ⟨_, _, _, rfl, rfl⟩ | exact ⟨_, _, _, _, rfl, rfl⟩)
local macro_rules | `(tactic| walk_at "cond") => `(tactic| first | rfl | simp_all | (simp; omega))
local macro_rules | `(tactic| walk_at "clen") => `(tactic| first | with_reducible assumption | (simp [sizeLine]; omega) | decide)
local macro_rules | `(tactic| walk_at "len") => `(tactic| first | with_reducible assumption | (simp [sizeLine]; omega) | decide)
local macro_rules | `(tactic| walk_at "cat") => `(tactic| first | with_reducible assumption | (simp [sizeLine]; omega) | decide)
local macro_rules | `(tactic| walk_at "join") => `(tactic| first | assumption | decide)
local macro_rules | `(tactic| walk_at "rep") => `(tactic| first | with_reducible assumption | rfl | assumption)
local macro_rules | `(tactic| walk_at "shl") => `(tactic| first | with_reducible assumption | rfl | assumption)
local macro_rules | `(tactic| walk_at "gix") => `(tactic| first | with_reducible assumption | rfl | assumption)
local macro_rules | `(tactic| walk_at "six") => `(tactic| first | with_reducible assumption | rfl | assumption)
local macro_rules | `(tactic| walk_at "strs") => `(tactic| first | with_reducible assumption | rfl | assumption)
local macro_rules | `(tactic| walk_at "mem") => `(tactic| first | with_reducible assumption | assumption | simp)

section
variable {P : Program} {w : World} {K : PySem.W.Frag} {mg : Str → Option Value} {base : Heap}
/-- the law's drawn signs -/
def drw (L : List Nat) (n : Nat) (c : Int) : List Nat := (List.range n).map fun j => pick L (c / 7 ^ j)
theorem drw_len {L : List Nat} {n : Nat} {c : Int} : (drw L n c).length = n := by unfold drw; simp
theorem drw_mem {L : List Nat} {n : Nat} {c : Int} (h : 0 < L.length) : ∀ y ∈ drw L n c, y ∈ L := by
  intro y hy
  unfold drw at hy
  obtain ⟨j, _, rfl⟩ := List.mem_map.mp hy
  exact pick_mem _ h
theorem div_seven (c : Int) (j : Nat) : c / 7 ^ j / 7 = c / 7 ^ (j + 1) := by
  have hp : (0 : Int) < 7 ^ j := Int.pow_pos (by decide)
  rw [Int.pow_succ, Int.ediv_ediv, if_neg (fun h => absurd h.1 (by omega)), Int.sub_zero]
def R_law_drawn : List Dat → Res → Prop := fun ds o => ∃ (k : Nat) (L : List Nat) (n : Nat) (c : Int), ds = [frame L k, .int (n : Int), .int c] ∧ 0 < L.length ∧ L.length ≤ 1000 ∧ n ≤ 1000 ∧ o = .val (tx (drw L n c))
theorem ok_law_drawn (T : Txt K mg)   (D : Df K mg "_law_drawn" s_law_drawn ["frame", "size", "cell"]) : GFn P w K mg base "_law_drawn" 1 R_law_drawn := by
  refine GFn.mk D sc_law_drawn (fun ds o h => by obtain ⟨_, _, _, _, rfl, _⟩ := h; rfl) fun f cdv A outer s H E hr ds o hR => ?_
  obtain ⟨k, L, n, c, rfl, hL0, hL, hn, rfl⟩ := hR
  show ∃ ρ, Ents ρ [.tup [tx L, .int (k : Int)], .int (n : Int), .int c] ∧ _
  refine ⟨_, (.im (by walk_at "flat") (.im (by walk_at "flat") (.im (by walk_at "flat") .nil))), fun H0 => .ret ?_⟩
  have hLz : L.length ≤ sizeLine := by simp [sizeLine]; omega
  have hLl : dlen (tx L) = some L.length := dlen_tx hLz
  have hLp : (0 : Int) < (L.length : Int) := by omega
  refine ex_then (sx_set 3 (ev_lit (l := [])) sc_law_drawn.nd) ?_
  refine ex_then (ρ1 := [.im (.tup [tx L, .int (k : Int)]), .im (.int (n : Int)), .im (.int (c / 7 ^ n)), .im (tx (drw L n c)), .no]) (sx_for (passes_of rfl) rfl (it_range1 (ev_name 1 rfl) (by walk_at "rng") (by walk_at "rng") T.b_range) (tg_name 4 sc_law_drawn.nd) (fun _ _ => trivial) ?_) ?_
  · have e0 : c = c / 7 ^ 0 := by simp
    show ForT _ _ _ _ _ [.im (.tup [tx L, .int (k : Int)]), .im (.int (n : Int)), .im (.int c), .im (tx []), .no] _
    rw [show Ent.im (.int c) = Ent.im (.int (c / 7 ^ 0)) by rw [← e0]]
    refine for_steps (fun j => [.im (.tup [tx L, .int (k : Int)]), .im (.int (n : Int)), .im (.int (c / 7 ^ j)), .im (tx (drw L j c)), .no]) fun j hj => ?_
    have hj2 : j < n := by omega
    have e : drw L (j + 1) c = drw L j c ++ [pick L (c / 7 ^ j)] := by
      unfold drw
      rw [List.range_succ, List.map_append]
      rfl
    rw [e, ← div_seven]
    have hat := pick_at (c / 7 ^ j) hL0
    have hdl := drw_len (L := L) (n := j) (c := c)
    generalize drw L j c = D at *
    generalize c / 7 ^ j = z at *
    have hcat : D.length + [pick L z].length ≤ sizeLine := by rw [hdl]; simp [sizeLine]; omega
    refine ex_then (sx_set 3 (ev_catX (ev_name 3 rfl) (ev_ixX (ev_ixT (ev_name 0 rfl) ev_int (by walk_at "ix")) (ev_mod (ev_name 2 rfl) (ev_len ((ev_ixT (ev_name 0 rfl) ev_int (by walk_at "ix"))).toB (by walk_at "dlen") T.b_len) (by walk_at "pos")) (by walk_at "len") (by walk_at "ix")) (by walk_at "cat")) sc_law_drawn.nd) ?_
    refine ex_then (sx_set 2 (ev_fdiv (ev_name 2 rfl) ev_int (by decide) (by decide +kernel)) sc_law_drawn.nd) ?_
    refine ex_drop 4 ?_
    exact ex_nil
  exact ex_one (sx_ret (ev_name 3 rfl))
def R_law_told : List Dat → Res → Prop := fun ds o => ∃ (x k : Nat) (L t m : List Nat), ds = [frame (x :: L) k, tx t, tx m] ∧ L.length ≤ 1000 ∧ k ≤ 1000 ∧ t.length ≤ 100000 ∧ m.length ≤ k ∧ (∀ c ∈ t, c ∈ x :: L) ∧ (∀ c ∈ m, c ∈ x :: L) ∧ o = .val (.bl true)
theorem ok_law_told (T : Txt K mg) (G_counts : GFn P w K mg base "counts" 2 R_counts) (G_law_counts : GFn P w K mg base "_law_counts" 2 R_law_counts) (G_law_whole : GFn P w K mg base "_law_whole" 1 R_law_whole)  (D : Df K mg "_law_told" s_law_told ["frame", "text", "knot"]) : GFn P w K mg base "_law_told" 3 R_law_told := by
  refine GFn.mk D sc_law_told (fun ds o h => by obtain ⟨_, _, _, _, _, rfl, _⟩ := h; rfl) fun f cdv A outer s H E hr ds o hR => ?_
  obtain ⟨x, k, L, t, m, rfl, hL, hk, ht, hm, hok, hom, rfl⟩ := hR
  have hC : R_counts [.tup [tx (x :: L), .int (k : Int)], tx t, tx m] (.own (.lst ((cnts (x :: L) x k t m t.length).map .int))) := ⟨x, k, L, t, m, rfl, hL, hk, ht, by omega, .inr (.inr ⟨hok, hm, hom, rfl⟩)⟩
  have hD : R_law_counts [.tup [tx (x :: L), .int (k : Int)], tx t, tx m] (.own (.lst ((cnts (x :: L) x k t m t.length).map .int))) := ⟨x, k, L, t, m, rfl, hL, hk, ht, hm, hok, rfl⟩
  show ∃ ρ, Ents ρ [.tup [tx (x :: L), .int (k : Int)], tx t, tx m] ∧ _
  refine ⟨_, (.im (by walk_at "flat") (.im (by walk_at "flat") (.im (by walk_at "flat") .nil))), fun H0 => .ret ?_⟩
  have hfl := cnts_len (L := x :: L) (x := x) (k := k) (t := t) (m := m) (n := t.length)
  generalize cnts (x :: L) x k t m t.length = f at *
  refine ex_then (sx_setO 3 (eo_call G_counts (hr.mono (by decide)) (eab_cons ((ev_name 0 rfl)).toB (eab_cons ((ev_name 1 rfl)).toB (eab_cons ((ev_name 2 rfl)).toB eab_nil))) (by walk_at "R")) sc_law_told.nd) ?_
  have hcl : (f.map Dat.int).length < sizeLine := by rw [List.length_map, hfl]; simp [sizeLine]; omega
  have hee : ((f.map Dat.int).filter fun _ => false).map (fun d => d) = [] := by simp
  have hok2 : okD (.lst (((f.map Dat.int).filter fun _ => false).map (fun d => d))) = true := by rw [hee]; rfl
  refine ex_then (sx_skip (et_to ((ew_or (et_not (et_val (ev_isi_list (eb_name_ow 3 rfl) T.b_isinstance T.b_list))) fun hq => (ew_or1 (et_neD (((eo_compC 5 (xn := "one") rfl sc_law_told.nd (it_ow 3 rfl) rfl rfl (fun _ => false) (fun d => d) (fun _ _ _ _ _ => pg_name sc_law_told.nd rfl (by first | exact Or.inl rfl | exact Or.inr rfl)) (.inr ⟨_, rfl, fun H0' s' H' C' cl' fp' hs' d' hd' => ?_⟩) (fun H0' s' H' C' cl' fp' hs' d' hd' hf' => ?_) (by walk_at "clen"))).ev).toB (((eo_lst ea_nil (by show 0 ≤ sizeLine; decide))).ev).toB hr.units (by walk_at "okd") (by walk_at "okd"))))).t (by rw [hee]; rfl))) ?_
  · obtain ⟨z, _, rfl⟩ := mem_ints hd'
    have hw : R_law_whole [.int z] (.val (.bl true)) := ⟨_, rfl, rfl⟩
    exact et_to (et_not (et_val (ev_call G_law_whole (by exact hr.mono (by decide)) (eab_cons ((ev_name 5 rfl)).toB eab_nil) (by walk_at "R")))) (by rfl)
  · exact absurd hf' (by simp)
  refine ex_then (sx_setO 4 (eo_call G_law_counts (hr.mono (by decide)) (eab_cons ((ev_name 0 rfl)).toB (eab_cons ((ev_name 1 rfl)).toB (eab_cons ((ev_name 2 rfl)).toB eab_nil))) (by walk_at "R")) sc_law_told.nd) ?_
  refine ex_then (sx_skip (et_to (et_neD (eb_name_ow 3 rfl) (eb_name_ow 4 rfl) hr.units (by walk_at "okd") (by walk_at "okd")) (by rw [eqv_ints]; simp))) ?_
  refine ex_then (sx_append 3 rfl ev_int (by walk_at "app")) ?_
  exact ex_one (sx_ret (ev_to (ev_eqD ((eo_call G_counts (hr.mono (by decide)) (eab_cons ((ev_name 0 rfl)).toB (eab_cons ((ev_name 1 rfl)).toB (eab_cons ((ev_name 2 rfl)).toB eab_nil))) (by walk_at "R")).ev).toB (eb_name_ow 4 rfl) hr.units (by walk_at "okd") (by walk_at "okd")) (by rw [eqv_ints]; simp)))
def R_law_refused : List Dat → Res → Prop := fun ds o => ∃ (d1 d2 d3 : Dat) (way : Int), ds = [d1, d2, d3, .int way] ∧ flat d1 = true ∧ flat d2 = true ∧ flat d3 = true ∧ (way = 0 ∧ R_counts [d1, d2, d3] (.exc "NoKnot") ∨ way = 1 ∧ R_counts [d1, d2, d3] (.exc "NoText")) ∧ o = .val (.bl true)
theorem ok_law_refused (T : Txt K mg) (G_counts : GFn P w K mg base "counts" 2 R_counts)  (D : Df K mg "_law_refused" s_law_refused ["frame", "text", "knot", "way"]) : GFn P w K mg base "_law_refused" 3 R_law_refused := by
  refine GFn.mk D sc_law_refused (fun ds o h => by obtain ⟨_, _, _, _, rfl, _⟩ := h; rfl) fun f cdv A outer s H E hr ds o hR => ?_
  obtain ⟨d1, d2, d3, way, rfl, f1, f2, f3, hR, rfl⟩ := hR
  rcases hR with ⟨rfl, hS⟩ | ⟨rfl, hS⟩
  · refine ⟨_, (.im (by walk_at "flat") (.im (by walk_at "flat") (.im (by walk_at "flat") (.im (by walk_at "flat") .nil)))), fun H0 => .ret ?_⟩
    obtain ⟨C, xc⟩ := T.x_NoKnot
    obtain ⟨Cp, hcp, hpe⟩ := xc.press
    refine ex_then (sx_setO 4 (eo_lst ea_nil (by show 0 ≤ sizeLine; decide)) sc_law_refused.nd) ?_
    refine ex_then (sx_try (i := 5) (m := "NoKnot") (ρ1 := [.im d1, .im d2, .im d3, .im (.int 0), .ow (.lst []), .no]) (o := .nx [.im d1, .im d2, .im d3, .im (.int 0), .ow (.lst [.bl true, .bl false, .bl true, .bl false, .bl false]), .no]) rfl rfl sc_law_refused.nd (names_of hcp) (fun C' h => by rw [xc.eq h]; exact hpe) (fun pn xe hp => ?_) (fun a C' oe pn hC hz hf => ?_) trivial) ?_
    · exact ex_one (sx_exprX (exc_call G_counts (hr.mono (by decide)) (eab_cons ((ev_name 0 rfl)).toB (eab_cons ((ev_name 1 rfl)).toB (eab_cons ((ev_name 2 rfl)).toB eab_nil))) hS))
    · have e := xc.eq hC
      subst e
      refine ex_then (sx_setO 4 (eo_lst (ea_cons (ev_isEo 5 (xc.kits.get "NoKnot" true (by decide +kernel)) xc.ec hz hf rfl T.b_isinstance) (ea_cons (ev_isEo 5 (xc.kits.get "NoText" false (by decide +kernel)) xc.ec hz hf rfl T.b_isinstance) (ea_cons (ev_isEv 5 xc.ve T.b_ValueError xc.ec hz hf rfl T.b_isinstance) ea_nil))) (by show 3 ≤ sizeLine; decide)) sc_law_refused.nd) ?_
      refine ex_then (sx_append 4 rfl (ev_isEs 5 (.cons (xc.kits.get "NoFraction" false (by decide +kernel)) (.cons (xc.kits.get "NoFrame" false (by decide +kernel)) (.cons (xc.kits.get "NoPlace" false (by decide +kernel)) (.cons (xc.kits.get "NoTree" false (by decide +kernel)) (.cons (xc.kits.get "NoSign" false (by decide +kernel)) (.cons (xc.kits.get "NothingTaken" false (by decide +kernel)) .nil)))))) xc.ec hz hf rfl T.b_isinstance) (by walk_at "app")) ?_
      refine ex_then (sx_append 4 rfl (ev_isEs 5 (.cons (xc.kits.get "NoBits" false (by decide +kernel)) (.cons (xc.kits.get "NoPress" false (by decide +kernel)) (.cons (xc.kits.get "NoPacket" false (by decide +kernel)) (.cons (xc.kits.get "NoRow" false (by decide +kernel)) (.cons (xc.kits.get "NoName" false (by decide +kernel)) (.cons (xc.kits.get "NoNumber" false (by decide +kernel)) .nil)))))) xc.ec hz hf rfl T.b_isinstance) (by walk_at "app")) ?_
      refine ex_drop 5 ?_
      exact ex_nil
    exact ex_one (sx_ret (ev_to (ev_eqD (eb_name_ow 4 rfl) (((eo_lst (ea_cons (ev_eq (ev_name 3 rfl) ev_int) (ea_cons (ev_eq (ev_name 3 rfl) ev_int) (ea_cons ev_bl (ea_cons ev_bl (ea_cons ev_bl ea_nil))))) (by show 5 ≤ sizeLine; decide))).ev).toB hr.units (by walk_at "okd") (by walk_at "okd")) (by rfl)))
  · skip
    refine ⟨_, (.im (by walk_at "flat") (.im (by walk_at "flat") (.im (by walk_at "flat") (.im (by walk_at "flat") .nil)))), fun H0 => .ret ?_⟩
    obtain ⟨C, xc⟩ := T.x_NoText
    obtain ⟨Cp, hcp, hpe⟩ := xc.press
    refine ex_then (sx_setO 4 (eo_lst ea_nil (by show 0 ≤ sizeLine; decide)) sc_law_refused.nd) ?_
    refine ex_then (sx_try (i := 5) (m := "NoText") (ρ1 := [.im d1, .im d2, .im d3, .im (.int 1), .ow (.lst []), .no]) (o := .nx [.im d1, .im d2, .im d3, .im (.int 1), .ow (.lst [.bl false, .bl true, .bl true, .bl false, .bl false]), .no]) rfl rfl sc_law_refused.nd (names_of hcp) (fun C' h => by rw [xc.eq h]; exact hpe) (fun pn xe hp => ?_) (fun a C' oe pn hC hz hf => ?_) trivial) ?_
    · exact ex_one (sx_exprX (exc_call G_counts (hr.mono (by decide)) (eab_cons ((ev_name 0 rfl)).toB (eab_cons ((ev_name 1 rfl)).toB (eab_cons ((ev_name 2 rfl)).toB eab_nil))) hS))
    · have e := xc.eq hC
      subst e
      refine ex_then (sx_setO 4 (eo_lst (ea_cons (ev_isEo 5 (xc.kits.get "NoKnot" false (by decide +kernel)) xc.ec hz hf rfl T.b_isinstance) (ea_cons (ev_isEo 5 (xc.kits.get "NoText" true (by decide +kernel)) xc.ec hz hf rfl T.b_isinstance) (ea_cons (ev_isEv 5 xc.ve T.b_ValueError xc.ec hz hf rfl T.b_isinstance) ea_nil))) (by show 3 ≤ sizeLine; decide)) sc_law_refused.nd) ?_
      refine ex_then (sx_append 4 rfl (ev_isEs 5 (.cons (xc.kits.get "NoFraction" false (by decide +kernel)) (.cons (xc.kits.get "NoFrame" false (by decide +kernel)) (.cons (xc.kits.get "NoPlace" false (by decide +kernel)) (.cons (xc.kits.get "NoTree" false (by decide +kernel)) (.cons (xc.kits.get "NoSign" false (by decide +kernel)) (.cons (xc.kits.get "NothingTaken" false (by decide +kernel)) .nil)))))) xc.ec hz hf rfl T.b_isinstance) (by walk_at "app")) ?_
      refine ex_then (sx_append 4 rfl (ev_isEs 5 (.cons (xc.kits.get "NoBits" false (by decide +kernel)) (.cons (xc.kits.get "NoPress" false (by decide +kernel)) (.cons (xc.kits.get "NoPacket" false (by decide +kernel)) (.cons (xc.kits.get "NoRow" false (by decide +kernel)) (.cons (xc.kits.get "NoName" false (by decide +kernel)) (.cons (xc.kits.get "NoNumber" false (by decide +kernel)) .nil)))))) xc.ec hz hf rfl T.b_isinstance) (by walk_at "app")) ?_
      refine ex_drop 5 ?_
      exact ex_nil
    exact ex_one (sx_ret (ev_to (ev_eqD (eb_name_ow 4 rfl) (((eo_lst (ea_cons (ev_eq (ev_name 3 rfl) ev_int) (ea_cons (ev_eq (ev_name 3 rfl) ev_int) (ea_cons ev_bl (ea_cons ev_bl (ea_cons ev_bl ea_nil))))) (by show 5 ≤ sizeLine; decide))).ev).toB hr.units (by walk_at "okd") (by walk_at "okd")) (by rfl)))
end
end B
namespace B
open PySem PySem.Spec PyProof.Rows L2

local macro_rules | `(tactic| walk_at "dlen") => `(tactic| first | with_reducible assumption | assumption | rfl)
local macro_rules | `(tactic| walk_at "ix") => `(tactic| first | with_reducible assumption | rfl | assumption | (simp at *; done))
local macro_rules | `(tactic| walk_at "pos") => `(tactic| first | with_reducible assumption | omega | decide)
local macro_rules | `(tactic| walk_at "log") => `(tactic| first | with_reducible assumption | decide +kernel)
local macro_rules | `(tactic| walk_at "mul") => `(tactic| first | with_reducible assumption | exact mul_l (by omega) (by omega) | exact mul_r (by omega) (by omega) | exact mul_r (by decide) (by decide) | exact mul_l (by decide) (by decide))
local macro_rules | `(tactic| walk_at "okd") => `(tactic| first | assumption | exact okD_ints _ | rfl | decide +kernel)
local macro_rules | `(tactic| walk_at "app") => `(tactic| first | with_reducible assumption | (simp [sizeLine]; omega) | decide)
local macro_rules | `(tactic| walk_at "rgc") => `(tactic| assumption)
local macro_rules | `(tactic| walk_at "flats") => `(tactic| first | assumption | exact flats_ints _ | rfl)
local macro_rules | `(tactic| walk_at "flat") => `(tactic| first | rfl | assumption)
local macro_rules | `(tactic| walk_at "pow") => `(tactic| first | assumption | exact ⟨by decide, by decide, by decide⟩ | exact ⟨by omega, by omega, by decide⟩)
local macro_rules | `(tactic| walk_at "nn") => `(tactic| first | with_reducible assumption | omega | decide)
local macro_rules | `(tactic| walk_at "rng") => `(tactic| first | with_reducible assumption | omega | exact ⟨by omega, by omega, by omega, by omega⟩ | decide)
local macro_rules | `(tactic| walk_at "R") => `(tactic| first | with_reducible assumption | assumption | exact ⟨_, rfl, rfl⟩ | exact ⟨_, _, rfl, rfl⟩ | exact ⟨_, _, _, rfl, rfl⟩ | exact ⟨_, _, _, _, rfl, rfl⟩)
local macro_rules | `(tactic| walk_at "cond") => `(tactic| first | rfl | simp_all | (simp; omega))
local macro_rules | `(tactic| walk_at "clen") => `(tactic| first | with_reducible assumption | (simp [sizeLine]; omega) | decide)
local macro_rules | `(tactic| walk_at "len") => `(tactic| first | with_reducible assumption | (simp [sizeLine]; omega) | decide)
local macro_rules | `(tactic| walk_at "cat") => `(tactic| first | with_reducible assumption | (simp [sizeLine]; omega) | decide)
local macro_rules | `(tactic| walk_at "join") => `(tactic| first | assumption | decide)
local macro_rules | `(tactic| walk_at "rep") => `(tactic| first | with_reducible assumption | rfl | assumption)
local macro_rules | `(tactic| walk_at "shl") => `(tactic| first | with_reducible assumption | rfl | assumption)
local macro_rules | `(tactic| walk_at "gix") => `(tactic| first | with_reducible assumption | rfl | assumption)
local macro_rules | `(tactic| walk_at "six") => `(tactic| first | with_reducible assumption | rfl | assumption)
local macro_rules | `(tactic| walk_at "strs") => `(tactic| first | with_reducible assumption | rfl | assumption)
local macro_rules | `(tactic| walk_at "mem") => `(tactic| first | with_reducible assumption | assumption | simp)

section
variable {P : Program} {w : World} {K : PySem.W.Frag} {mg : Str → Option Value} {base : Heap}
theorem lel_mem {x : Nat} {L t : List Nat} {i j : Nat} (hi : i ≤ t.length) (ht : ∀ c ∈ t, c ∈ x :: L) : lel x t i j ∈ x :: L := by
  unfold lel
  split
  · rw [List.getD_eq_getElem?_getD, List.getElem?_eq_getElem (by omega)]
    exact ht _ (List.getElem_mem _)
  · simp
theorem ok_law {f : Addr} {fd : FuncData} (T : Txt K mg) (G_law_frame : GFn P w K mg base "_law_frame" 2 R_law_frame) (G_law_text : GFn P w K mg base "_law_text" 1 R_law_text) (G_law_cell_at : GFn P w K mg base "_law_cell_at" 1 R_law_cell_at) (G_law_drawn : GFn P w K mg base "_law_drawn" 1 R_law_drawn) (G_law_told : GFn P w K mg base "_law_told" 3 R_law_told) (G_law_signs : GFn P w K mg base "_law_signs" 1 R_law_signs) (G_law_refused : GFn P w K mg base "_law_refused" 3 R_law_refused) (G_law_elder : GFn P w K mg base "_law_elder" 1 R_law_elder) (F : Fun K "law" "law" s_law f fd) : FnOk P w K mg base (L2.CX P w) 4 f fd ["script"] (spR K mg R_law) := by
  refine fn_mk F sc_law (fun ds o h => by obtain ⟨_, rfl, _⟩ := h; rfl) fun f cdv A outer s H E hr ds o hR => ?_
  obtain ⟨ns, rfl, hn, hbits, rfl⟩ := hR
  refine ⟨_, (.ol .nil), fun H0 => .ret ?_⟩
  have hc : ∀ k : Nat, R_law_cell_at [.lst (ns.map .int), .int (k : Int)] (.val (.int (ns.getD k 0))) := fun k => ⟨ns, k, rfl, by omega, rfl⟩
  have hc0 := hc 0
  have hc1 := hc 1
  have hc2 := hc 2
  have hc3 := hc 3
  have hb0 : Builtin.Int.intBits (ns.getD 0 0) ≤ 1048576 := by
    rw [List.getD_eq_getElem?_getD]
    cases e : ns[0]? with
    | none => decide
    | some z => exact hbits z (List.mem_of_getElem? e)
  generalize ns.getD 0 0 = c0 at *
  generalize ns.getD 1 0 = c1 at *
  generalize ns.getD 2 0 = c2 at *
  generalize ns.getD 3 0 = c3 at *
  have hfr : R_law_frame [.int c0] (.val (frmD c0)) := ⟨c0, rfl, hb0, rfl⟩
  refine ex_then (sx_set 1 (ev_call G_law_frame (hr.mono (by decide)) (eab_cons ((ev_call G_law_cell_at (hr.mono (by decide)) (eab_cons (eb_name_ol 0 rfl) (eab_cons (ev_int).toB eab_nil)) (by walk_at "R"))).toB eab_nil) (by walk_at "R")) sc_law.nd) ?_
  obtain ⟨l2, l6, lnd, lsg⟩ := lets_ok c0
  obtain ⟨xo, xo1, xo2⟩ := lets_out c0
  unfold frmD
  generalize lets c0 = L at *
  obtain ⟨k, hk, hk6⟩ : ∃ k : Nat, c0 / 5 % 7 = (k : Int) ∧ k ≤ 6 := ⟨(c0 / 5 % 7).toNat, by omega, by omega⟩
  rw [hk]
  obtain ⟨x, L', rfl⟩ : ∃ x L', L = x :: L' := by
    cases L with
    | nil => simp at l2
    | cons x L' => exact ⟨x, L', rfl⟩
  have hL1 : L'.length ≤ 1000 := by simp at l6; omega
  have hL0 : 0 < (x :: L').length := by simp
  have hLz : (x :: L').length ≤ sizeLine := by simp [sizeLine]; omega
  have hix : atI (x :: L') 0 = some x := at_nat (by decide) rfl
  have hzs : (cut ns (some 4) (some 100)).length ≤ 63 := Nat.le_trans (cut_len _ _ _) hn
  have htx : R_law_text [tx (x :: L'), .lst (cut (ns.map Dat.int) (some 4) (some 100)), .int c1] (.val (tx (ltext (x :: L') (cut ns (some 4) (some 100)) c1))) := by
    rw [cut_map]
    exact ⟨x :: L', _, c1, rfl, hL0, by omega, by omega, rfl⟩
  have ht1 := ltext_len (zs := cut ns (some 4) (some 100)) (way := c1) hL0
  have ht2 := ltext_mem (zs := cut ns (some 4) (some 100)) (way := c1) hL0
  refine ex_then (sx_set 2 (ev_call G_law_text (hr.mono (by decide)) (eab_cons ((ev_ixT (ev_name 1 rfl) ev_int (by walk_at "ix"))).toB (eab_cons ((eo_slL (eb_name_ol 0 rfl) (eo_some ev_int) (eo_some ev_int) (by walk_at "flats")).ev).toB (eab_cons ((ev_call G_law_cell_at (hr.mono (by decide)) (eab_cons (eb_name_ol 0 rfl) (eab_cons (ev_int).toB eab_nil)) (by walk_at "R"))).toB eab_nil))) (by walk_at "R")) sc_law.nd) ?_
  generalize ltext (x :: L') (cut ns (some 4) (some 100)) c1 = t at *
  have htl : t.length ≤ 63 := by omega
  have htz : t.length ≤ sizeLine := by simp [sizeLine]; omega
  have htd : dlen (tx t) = some t.length := dlen_tx htz
  have htp : (0 : Int) < (t.length : Int) + 1 := by omega
  refine ex_then (sx_set 3 (ev_call G_law_cell_at (hr.mono (by decide)) (eab_cons (eb_name_ol 0 rfl) (eab_cons (ev_int).toB eab_nil)) (by walk_at "R")) sc_law.nd) ?_
  refine ex_then (sx_set 4 (ev_mod (ev_name 3 rfl) (ev_add (ev_len ((ev_name 2 rfl)).toB (by walk_at "dlen") T.b_len) ev_int) (by walk_at "pos")) sc_law.nd) ?_
  obtain ⟨i, hi, hit⟩ : ∃ i : Nat, c2 % ((t.length : Int) + 1) = (i : Int) ∧ i ≤ t.length := by
    have a1 := Int.emod_nonneg c2 (b := (t.length : Int) + 1) (by omega)
    have a2 := Int.emod_lt_of_pos c2 htp
    exact ⟨(c2 % ((t.length : Int) + 1)).toNat, by omega, by omega⟩
  rw [hi]
  have hdr : ∀ (n : Nat), n ≤ 100 → R_law_drawn [.tup [tx (x :: L'), .int (k : Int)], .int (n : Int), .int c2] (.val (tx (drw (x :: L') n c2))) := fun n hn => ⟨k, x :: L', n, c2, rfl, hL0, by omega, by omega, rfl⟩
  have htold : ∀ m : List Nat, m.length ≤ k → (∀ c ∈ m, c ∈ x :: L') → R_law_told [.tup [tx (x :: L'), .int (k : Int)], tx t, tx m] (.val (.bl true)) := fun m h1 h2 => ⟨x, k, L', t, m, rfl, hL1, by omega, by omega, h1, ht2, h2, rfl⟩
  refine ex_then (ρ1 := [.ol (.lst (ns.map .int)), .im (.tup [tx (x :: L'), .int (k : Int)]), .im (tx t), .im (.int c2), .im (.int (i : Int)), .no, .no, .no, .no, .no, .no, .no, .no]) (sx_for (passes_of rfl) rfl (it_range1 (ev_add (ev_ixT (ev_name 1 rfl) ev_int (by walk_at "ix")) ev_int) (by walk_at "rng") (by walk_at "rng") T.b_range) (tg_name 5 sc_law.nd) (fun _ _ => trivial) ?_) ?_
  · show ForT _ _ _ _ _ [.ol (.lst (ns.map .int)), .im (.tup [tx (x :: L'), .int (k : Int)]), .im (tx t), .im (.int c2), .im (.int (i : Int)), .no, .no, .no, .no, .no, .no, .no, .no] _
    refine for_same fun d hd => ?_
    obtain ⟨n, hn', rfl⟩ := mem_steps hd
    rw [show (0 + (n : Int) * 1) = (n : Int) by omega]
    have hnk : n ≤ k := by omega
    have hcl : (steps 0 1 (n : Int).toNat).length < sizeLine := by rw [steps_len, Int.toNat_natCast]; simp [sizeLine]; omega
    obtain ⟨m, hm⟩ : ∃ m, m = (List.range n).map (lel x t i) := ⟨_, rfl⟩
    have hml : m.length = n := by rw [hm]; simp
    have hmm : ∀ c ∈ m, c ∈ x :: L' := fun c hc => by
      rw [hm] at hc
      obtain ⟨j, _, rfl⟩ := List.mem_map.mp hc
      exact lel_mem hit ht2
    have hstrs : Dat.lst (((steps 0 1 (n : Int).toNat).filter fun _ => true).map fun d => match d with | .int z => tx [lel x t i z.toNat] | d => d) = .lst ((m.map fun c => [c]).map tx) := by
      rw [List.filter_eq_self.mpr (fun _ _ => rfl), Int.toNat_natCast, hm]
      unfold steps
      rw [List.map_map, List.map_map, List.map_map]
      refine congrArg Dat.lst (List.map_congr_left fun j hj => ?_)
      show tx [lel x t i (0 + (j : Int) * 1).toNat] = tx [lel x t i j]
      rw [show (0 + (j : Int) * 1).toNat = j by omega]
    have hjoin : ((m.map fun c => [c]).map (·.length)).sum + (m.map fun c => [c]).length * ([] : List Nat).length ≤ 16777216 := by
      rw [ones_len]; simp; omega
    refine ex_then (sx_set 6 (ev_joinX (ev_lit (l := [])) (eb_to (((eo_comp 12 (xn := "k") rfl sc_law.nd (it_range1 (ev_name 5 rfl) (by walk_at "rng") (by walk_at "rng") T.b_range) rfl rfl (fun _ => true) (fun d => match d with | .int z => tx [lel x t i z.toNat] | d => d) (fun _ _ _ _ _ => pg_name sc_law.nd rfl (by first | exact Or.inl rfl | exact Or.inr rfl)) (.inl ⟨rfl, fun _ _ => rfl⟩) (fun H0' s' H' C' cl' fp' hs' d' hd' hf' => ?_) (by walk_at "clen"))).ev).toB (by walk_at "strs")) (by walk_at "join")) sc_law.nd) ?_
    · obtain ⟨j, hj, rfl⟩ := mem_steps hd'
      rw [show (0 + (j : Int) * 1) = (j : Int) by omega]
      have hle : R_law_elder [.tup [tx (x :: L'), .int (k : Int)], tx t, .int (i : Int), .int (j : Int)] (.val (tx [lel x t i j])) := ⟨x, k, L', t, i, j, rfl, hL1, by omega, hit, rfl⟩
      exact (ev_call G_law_elder (by exact hr.mono (by decide)) (eab_cons ((ev_name 1 rfl)).toB (eab_cons ((ev_name 2 rfl)).toB (eab_cons ((ev_name 4 rfl)).toB (eab_cons ((ev_name 12 rfl)).toB eab_nil)))) (by walk_at "R"))
    rw [joinL_nil, ones_flat]
    have hd1 := hdr n (by omega)
    have ht3 := htold m (by omega) hmm
    have ht4 := htold (drw (x :: L') n c2) (by rw [drw_len]; omega) (drw_mem hL0)
    refine ex_then (sx_skip (et_to ((ew_or (et_not (et_val (ev_call G_law_told (hr.mono (by decide)) (eab_cons ((ev_name 1 rfl)).toB (eab_cons ((ev_name 2 rfl)).toB (eab_cons ((ev_name 6 rfl)).toB eab_nil))) (by walk_at "R")))) fun hq => (ew_or1 (et_not (et_val (ev_call G_law_told (hr.mono (by decide)) (eab_cons ((ev_name 1 rfl)).toB (eab_cons ((ev_name 2 rfl)).toB (eab_cons ((ev_call G_law_drawn (hr.mono (by decide)) (eab_cons ((ev_name 1 rfl)).toB (eab_cons ((ev_name 5 rfl)).toB (eab_cons ((ev_name 3 rfl)).toB eab_nil))) (by walk_at "R"))).toB eab_nil))) (by walk_at "R"))))))).t (by rfl))) ?_
    refine ex_drop 5 (ex_drop 6 ?_)
    exact ex_nil
  refine ex_then (sx_set 7 (ev_call G_law_cell_at (hr.mono (by decide)) (eab_cons (eb_name_ol 0 rfl) (eab_cons (ev_int).toB eab_nil)) (by walk_at "R")) sc_law.nd) ?_
  have hsg : R_law_signs [] (.val (tx sg)) := ⟨rfl, rfl⟩
  have hcl2 : (sg.map fun k => tx [k]).length < sizeLine := by rw [List.length_map, sg_len]; decide
  obtain ⟨lk, hlk⟩ : ∃ lk, lk = sg.filter (fun k => !decide (k ∈ x :: L')) := ⟨_, rfl⟩
  have hlkD : (((sg.map fun k => tx [k]).filter fun d => !decide (chD d ∈ x :: L')).map fun d => d) = lk.map fun k => tx [k] := by
    rw [List.map_id', List.filter_map, hlk]
    rfl
  have hlk2 : ∀ c ∈ lk, c ∉ x :: L' := fun c hc => by
    rw [hlk] at hc
    have := (List.mem_filter.mp hc).2
    simpa only [Bool.not_eq_true', decide_eq_false_iff_not] using this
  have hlk0 : 0 < lk.length := by
    rw [hlk]
    exact List.length_pos_of_mem (List.mem_filter.mpr ⟨xo1, by simpa only [Bool.not_eq_true', decide_eq_false_iff_not] using xo2⟩)
  have hlkz : lk.length ≤ 94 := by rw [hlk, ← sg_len]; exact List.length_filter_le _ _
  refine ex_then (sx_setLc 8 9 (xn := "sign") rfl sc_law.nd (it_tx (ev_call0 G_law_signs (hr.mono (by decide)) (by walk_at "R"))) rfl rfl (fun d => !decide (chD d ∈ x :: L')) (fun d => d) (fun _ _ _ _ _ => pg_name sc_law.nd rfl (by first | exact Or.inl rfl | exact Or.inr rfl)) (.inr ⟨_, rfl, fun H0' s' H' C' cl' fp' hs' d' hd' => ?_⟩) (fun H0' s' H' C' cl' fp' hs' d' hd' hf' => ?_) (by walk_at "clen")) ?_
  · obtain ⟨k, _, rfl⟩ := List.mem_map.mp hd'
    exact (et_ninX (ev_name 9 rfl) (ev_ixT (ev_name 1 rfl) ev_int (by walk_at "ix")))
  · skip
    exact (ev_name 9 rfl)
  refine ex_freeze 8 rfl ?_
  rw [hlkD]
  have hkl : dlen (.lst (lk.map fun k => tx [k])) = some lk.length := by simp [dlen]
  have hkp : (0 : Int) < (lk.length : Int) := by omega
  have hk1 := pick_atD (c3 / 100) hlk0
  have hs1 := hlk2 _ (pick_mem (c3 / 100) hlk0)
  generalize pick lk (c3 / 100) = s1 at *
  refine ex_then (sx_set 9 (ev_ixL (ev_name 8 rfl) (ev_mod (ev_fdiv (ev_name 7 rfl) ev_int (by decide) (by decide +kernel)) (ev_len ((ev_name 8 rfl)).toB (by walk_at "dlen") T.b_len) (by walk_at "pos")) (by walk_at "ix")) sc_law.nd) ?_
  obtain ⟨n1, hn1, hn1b⟩ : ∃ n1 : Nat, (k : Int) + 1 + c3 % 3 = (n1 : Int) ∧ k < n1 ∧ n1 ≤ 20 := ⟨((k : Int) + 1 + c3 % 3).toNat, by omega, by omega, by omega⟩
  have hd1 : R_law_drawn [.tup [tx (x :: L'), .int (k : Int)], .int ((k : Int) + 1 + c3 % 3), .int c2] (.val (tx (drw (x :: L') n1 c2))) := by rw [hn1]; exact hdr n1 (by omega)
  refine ex_then (sx_set 6 (ev_call G_law_drawn (hr.mono (by decide)) (eab_cons ((ev_name 1 rfl)).toB (eab_cons ((ev_add (ev_add (ev_ixT (ev_name 1 rfl) ev_int (by walk_at "ix")) ev_int) (ev_mod (ev_name 7 rfl) ev_int (by decide)))).toB (eab_cons ((ev_name 3 rfl)).toB eab_nil))) (by walk_at "R")) sc_law.nd) ?_
  obtain ⟨W, hW⟩ : ∃ W : List Nat, W = if c3 % 2 = 1 ∧ 0 < k then cut (drw (x :: L') k c2) none (some (c3 / 2 % (k : Int))) ++ [s1] ++ cut (drw (x :: L') k c2) (some (c3 / 2 % (k : Int) + 1)) none else drw (x :: L') n1 c2 := ⟨_, rfl⟩
  have hWb : badKnot (x :: L') k W ∧ W.length ≤ 100 := by
    rw [hW]
    split
    · refine ⟨.inr ⟨s1, by simp, hs1⟩, ?_⟩
      have := cut_len (drw (x :: L') k c2) none (some (c3 / 2 % (k : Int)))
      have := cut_len (drw (x :: L') k c2) (some (c3 / 2 % (k : Int) + 1)) none
      rw [drw_len] at *
      simp
      omega
    · exact ⟨.inl (by rw [drw_len]; omega), by rw [drw_len]; omega⟩
  refine ex_then (ρ1 := [.ol (.lst (ns.map .int)), .im (.tup [tx (x :: L'), .int (k : Int)]), .im (tx t), .im (.int c2), .im (.int (i : Int)), .no, .im (tx W), .im (.int c3), .im (.lst (lk.map fun k => tx [k])), .im (tx [s1]), .no, .no, .no]) (sx_if ((ew_and (et_eq (ev_mod (ev_name 7 rfl) ev_int (by decide)) ev_int) fun hq => (ew_and1 (et_gt (ev_ixT (ev_name 1 rfl) ev_int (by walk_at "ix")) ev_int)))).t (fun hc => ?_) (fun hc => ?_)) ?_
  · have hc' : c3 % 2 = 1 ∧ 0 < k := by simpa using hc
    have hkp2 : (0 : Int) < (k : Int) := by omega
    rw [show W = _ from hW.trans (if_pos hc')]
    have hd2 := hdr k (by omega)
    have hdl := drw_len (L := x :: L') (n := k) (c := c2)
    have hdz : (drw (x :: L') k c2).length ≤ sizeLine := by rw [hdl]; simp [sizeLine]; omega
    have klog : (k : Int).natAbs.log2 < 9000 := by
      rw [Int.natAbs_natCast]
      exact Nat.lt_of_le_of_lt (Nat.log2_le_self _) (by omega)
    generalize drw (x :: L') k c2 = D at *
    have q1 := cut_len D none (some (c3 / 2 % (k : Int)))
    have q2 := cut_len D (some (c3 / 2 % (k : Int) + 1)) none
    have hcat1 : (cut D none (some (c3 / 2 % (k : Int)))).length + [s1].length ≤ sizeLine := by simp [sizeLine]; omega
    have hcat2 : (cut D none (some (c3 / 2 % (k : Int))) ++ [s1]).length + (cut D (some (c3 / 2 % (k : Int) + 1)) none).length ≤ sizeLine := by simp [sizeLine]; omega
    refine ex_then (sx_set 6 (ev_call G_law_drawn (hr.mono (by decide)) (eab_cons ((ev_name 1 rfl)).toB (eab_cons ((ev_ixT (ev_name 1 rfl) ev_int (by walk_at "ix"))).toB (eab_cons ((ev_name 3 rfl)).toB eab_nil))) (by walk_at "R")) sc_law.nd) ?_
    refine ex_then (sx_set 10 (ev_mod (ev_fdiv (ev_name 7 rfl) ev_int (by decide) (by decide +kernel)) (ev_ixT (ev_name 1 rfl) ev_int (by walk_at "ix")) (by walk_at "pos")) sc_law.nd) ?_
    refine ex_then (sx_set 6 (ev_catX (ev_catX (ev_slX (ev_name 6 rfl) eo_none (eo_some (ev_name 10 rfl)) (by walk_at "len")) (ev_name 9 rfl) (by walk_at "cat")) (ev_slX (ev_name 6 rfl) (eo_some (ev_add (ev_name 10 rfl) ev_int)) eo_none (by walk_at "len")) (by walk_at "cat")) sc_law.nd) ?_
    refine ex_drop 10 ?_
    exact ex_nil
  · have hc' : ¬ (c3 % 2 = 1 ∧ 0 < k) := by
      intro z
      simp [z.1] at hc
      omega
    rw [show W = _ from hW.trans (if_neg hc')]
    exact ex_nil
  have q1 := cut_len t none (some (i : Int))
  have q2 := cut_len t (some (i : Int)) none
  have hcat1 : (cut t none (some (i : Int))).length + [s1].length ≤ sizeLine := by simp [sizeLine]; omega
  have hcat2 : (cut t none (some (i : Int)) ++ [s1]).length + (cut t (some (i : Int)) none).length ≤ sizeLine := by simp [sizeLine]; omega
  refine ex_then (sx_set 11 (ev_catX (ev_catX (ev_slX (ev_name 2 rfl) eo_none (eo_some (ev_name 4 rfl)) (by walk_at "len")) (ev_name 9 rfl) (by walk_at "cat")) (ev_slX (ev_name 2 rfl) (eo_some (ev_name 4 rfl)) eo_none (by walk_at "len")) (by walk_at "cat")) sc_law.nd) ?_
  obtain ⟨bd, hbd⟩ : ∃ bd, bd = cut t none (some (i : Int)) ++ [s1] ++ cut t (some (i : Int)) none := ⟨_, rfl⟩
  rw [← hbd]
  have hbs : s1 ∈ bd := by rw [hbd]; simp
  have hbl : bd.length ≤ 200 := by rw [hbd]; simp; omega
  have hbad1 : ∀ m : List Nat, badKnot (x :: L') k m → m.length ≤ 100 → R_law_refused [.tup [tx (x :: L'), .int (k : Int)], tx t, tx m, .int 0] (.val (.bl true)) := fun m h1 h2 =>
    ⟨_, _, _, _, rfl, rfl, rfl, rfl, .inl ⟨rfl, ⟨x, k, L', t, m, rfl, hL1, by omega, by omega, by omega, .inr (.inl ⟨ht2, h1, rfl⟩)⟩⟩, rfl⟩
  have hbad2 : ∀ b m : List Nat, s1 ∈ b → b.length ≤ 300 → m.length ≤ 100 → R_law_refused [.tup [tx (x :: L'), .int (k : Int)], tx b, tx m, .int 1] (.val (.bl true)) := fun b m h1 h2 h3 =>
    ⟨_, _, _, _, rfl, rfl, rfl, rfl, .inr ⟨rfl, ⟨x, k, L', b, m, rfl, hL1, by omega, by omega, by omega, .inl ⟨⟨s1, h1, hs1⟩, rfl⟩⟩⟩, rfl⟩
  have hr1 := hbad1 W hWb.1 hWb.2
  have hr2 := hbad2 bd W hbs (by omega) hWb.2
  refine ex_then (sx_skip (et_to ((ew_or (et_not (et_val (ev_call G_law_refused (hr.mono (by decide)) (eab_cons ((ev_name 1 rfl)).toB (eab_cons ((ev_name 2 rfl)).toB (eab_cons ((ev_name 6 rfl)).toB (eab_cons (ev_int).toB eab_nil)))) (by walk_at "R")))) fun hq => (ew_or1 (et_not (et_val (ev_call G_law_refused (hr.mono (by decide)) (eab_cons ((ev_name 1 rfl)).toB (eab_cons ((ev_name 11 rfl)).toB (eab_cons ((ev_name 6 rfl)).toB (eab_cons (ev_int).toB eab_nil)))) (by walk_at "R"))))))).t (by rfl))) ?_
  have hm : MulOk (SX.S [s1]) 2 := mulOk_small (by omega) (by omega) (by simp)
  have hr3 := hbad1 (List.replicate (2 : Int).toNat [s1]).flatten (.inr ⟨s1, by simp, hs1⟩) (by rw [rep_len]; simp)
  refine ex_then (sx_skip (et_to ((ew_and (et_gt (ev_ixT (ev_name 1 rfl) ev_int (by walk_at "ix")) ev_int) fun hq => (ew_and1 (et_not (et_val (ev_call G_law_refused (hr.mono (by decide)) (eab_cons ((ev_name 1 rfl)).toB (eab_cons ((ev_name 2 rfl)).toB (eab_cons ((ev_repX (ev_name 9 rfl) ev_int (by walk_at "rep"))).toB (eab_cons (ev_int).toB eab_nil)))) (by walk_at "R"))))))).t (by simp))) ?_
  have hcat3 : bd.length + [s1].length ≤ sizeLine := by simp [sizeLine]; omega
  have hr4 := hbad2 bd [] hbs (by omega) (by decide)
  have hr5 := hbad2 (bd ++ [s1]) [] (by simp) (by simp; omega) (by decide)
  refine ex_then (sx_skip (et_to ((ew_or (et_not (et_val (ev_call G_law_refused (hr.mono (by decide)) (eab_cons ((ev_name 1 rfl)).toB (eab_cons ((ev_name 11 rfl)).toB (eab_cons ((ev_lit (l := []))).toB (eab_cons (ev_int).toB eab_nil)))) (by walk_at "R")))) fun hq => (ew_or1 (et_not (et_val (ev_call G_law_refused (hr.mono (by decide)) (eab_cons ((ev_name 1 rfl)).toB (eab_cons ((ev_catX (ev_name 11 rfl) (ev_name 9 rfl) (by walk_at "cat"))).toB (eab_cons ((ev_lit (l := []))).toB (eab_cons (ev_int).toB eab_nil)))) (by walk_at "R"))))))).t (by rfl))) ?_
  have ht5 := htold [] (by simp) (fun c hc => by cases hc)
  exact ex_one (sx_ret (ev_call G_law_told (hr.mono (by decide)) (eab_cons ((ev_name 1 rfl)).toB (eab_cons ((ev_name 2 rfl)).toB (eab_cons ((ev_lit (l := []))).toB eab_nil))) (by walk_at "R")))
end
end B
namespace B
open PySem PySem.Spec PyProof.Rows L2

local macro_rules | `(tactic| walk_at "dlen") => `(tactic| first | with_reducible assumption | assumption | rfl)
local macro_rules | `(tactic| walk_at "ix") => `(tactic| first | with_reducible assumption | rfl | assumption | (simp at *; done))
local macro_rules | `(tactic| walk_at "pos") => `(tactic| first | with_reducible assumption | omega | decide)
local macro_rules | `(tactic| walk_at "log") => `(tactic| first | with_reducible assumption | decide +kernel)
local macro_rules | `(tactic| walk_at "mul") => `(tactic| first | with_reducible assumption | exact mul_l (by omega) (by omega) | exact mul_r (by omega) (by omega) | exact mul_r (by decide) (by decide) | exact mul_l (by decide) (by decide))
local macro_rules | `(tactic| walk_at "okd") => `(tactic| first | assumption | exact okD_ints _ | rfl | decide +kernel)
local macro_rules | `(tactic| walk_at "app") => `(tactic| first | with_reducible assumption | (simp [sizeLine]; omega) | decide)
local macro_rules | `(tactic| walk_at "rgc") => `(tactic| assumption)
local macro_rules | `(tactic| walk_at "flats") => `(tactic| first | assumption | exact flats_ints _ | rfl)
local macro_rules | `(tactic| walk_at "flat") => `(tactic| first | rfl | assumption)
local macro_rules | `(tactic| walk_at "pow") => `(tactic| first | assumption | exact ⟨by decide, by decide, by decide⟩ | exact ⟨by omega, by omega, by decide⟩)
local macro_rules | `(tactic| walk_at "nn") => `(tactic| first | with_reducible assumption | omega | decide)
local macro_rules | `(tactic| walk_at "rng") => `(tactic| first | with_reducible assumption | omega | exact ⟨by omega, by omega, by omega, by omega⟩ | decide)
local macro_rules | `(tactic| walk_at "R") => `(tactic| first | with_reducible assumption | assumption | exact ⟨_, rfl, rfl⟩ | exact ⟨_, _, rfl, rfl⟩ | exact ⟨_, _, _, rfl, rfl⟩ | exact ⟨_, _, _, _, rfl, rfl⟩)
local macro_rules | `(tactic| walk_at "cond") => `(tactic| first | rfl | simp_all | (simp; omega))
local macro_rules | `(tactic| walk_at "clen") => `(tactic| first | with_reducible assumption | (simp [sizeLine]; omega) | decide)
local macro_rules | `(tactic| walk_at "len") => `(tactic| first | with_reducible assumption | (simp [sizeLine]; omega) | decide)
local macro_rules | `(tactic| walk_at "cat") => `(tactic| first | with_reducible assumption | (simp [sizeLine]; omega) | decide)
local macro_rules | `(tactic| walk_at "join") => `(tactic| first | assumption | decide)
local macro_rules | `(tactic| walk_at "rep") => `(tactic| first | with_reducible assumption | rfl | assumption)
local macro_rules | `(tactic| walk_at "shl") => `(tactic| first | with_reducible assumption | rfl | assumption)
local macro_rules | `(tactic| walk_at "gix") => `(tactic| first | with_reducible assumption | rfl | assumption)
local macro_rules | `(tactic| walk_at "six") => `(tactic| first | with_reducible assumption | rfl | assumption)
local macro_rules | `(tactic| walk_at "strs") => `(tactic| first | with_reducible assumption | rfl | assumption)
local macro_rules | `(tactic| walk_at "mem") => `(tactic| first | with_reducible assumption | assumption | simp)

section
variable {P : Program} {w : World} {K : PySem.W.Frag} {mg : Str → Option Value} {base : Heap}
end
theorem all_mk {P : Program} {w : World} {K : PySem.W.Frag} {h : Heap} {mg : Str → Option Value} {fa : Addr} (X : K.In h) (G : h.Ns mainGlobals mg) (hfa : mg "law" = some (.ref fa))
    {f1 : Addr} {od1 an1 : Option Addr} {sl1 : Array (Option Value)} {oc1 kV1 dc1 pm1 cd1 ct1 : Value}
    {f2 : Addr} {od2 an2 : Option Addr} {sl2 : Array (Option Value)} {oc2 kV2 dc2 pm2 cd2 ct2 : Value}
    {f3 : Addr} {od3 an3 : Option Addr} {sl3 : Array (Option Value)} {oc3 kV3 dc3 pm3 cd3 ct3 : Value}
    {f4 : Addr} {od4 an4 : Option Addr} {sl4 : Array (Option Value)} {oc4 kV4 dc4 pm4 cd4 ct4 : Value}
    {f5 : Addr} {od5 an5 : Option Addr} {sl5 : Array (Option Value)} {oc5 kV5 dc5 pm5 cd5 ct5 : Value}
    {f6 : Addr} {od6 an6 : Option Addr} {sl6 : Array (Option Value)} {oc6 kV6 dc6 pm6 cd6 ct6 : Value}
    {f7 : Addr} {od7 an7 : Option Addr} {sl7 : Array (Option Value)} {oc7 kV7 dc7 pm7 cd7 ct7 : Value}
    {f8 : Addr} {od8 an8 : Option Addr} {sl8 : Array (Option Value)} {oc8 kV8 dc8 pm8 cd8 ct8 : Value}
    {f9 : Addr} {od9 an9 : Option Addr} {sl9 : Array (Option Value)} {oc9 kV9 dc9 pm9 cd9 ct9 : Value}
    {f10 : Addr} {od10 an10 : Option Addr} {sl10 : Array (Option Value)} {oc10 kV10 dc10 pm10 cd10 ct10 : Value}
    {f11 : Addr} {od11 an11 : Option Addr} {sl11 : Array (Option Value)} {oc11 kV11 dc11 pm11 cd11 ct11 : Value}
    {f12 : Addr} {od12 an12 : Option Addr} {sl12 : Array (Option Value)} {oc12 kV12 dc12 pm12 cd12 ct12 : Value}
    {f13 : Addr} {od13 an13 : Option Addr} {sl13 : Array (Option Value)} {oc13 kV13 dc13 pm13 cd13 ct13 : Value}
    {f14 : Addr} {od14 an14 : Option Addr} {sl14 : Array (Option Value)} {oc14 kV14 dc14 pm14 cd14 ct14 : Value}
    {f15 : Addr} {od15 an15 : Option Addr} {sl15 : Array (Option Value)} {oc15 kV15 dc15 pm15 cd15 ct15 : Value}
    {C_NoKnot : Addr}
    {C_NoText : Addr}
    {C_PressError : Addr}
    {C_NoFraction : Addr}
    {C_NoFrame : Addr}
    {C_NoPlace : Addr}
    {C_NoTree : Addr}
    {C_NoSign : Addr}
    {C_NothingTaken : Addr}
    {C_NoBits : Addr}
    {C_NoPress : Addr}
    {C_NoPacket : Addr}
    {C_NoRow : Addr}
    {C_NoName : Addr}
    {C_NoNumber : Addr}
    (a1 : PySem.W.nsIn K mainGlobals "checked" = some (some (.ref f1))) (l1 : K.lookup f1 = some ⟨oc1, od1, .func (PySem.W.fnOf "checked" "checked" (defArgs s_checked) (defBody s_checked) (defScope s_checked) .none kV1 dc1 pm1 an1 cd1 ct1), sl1⟩) (c1 : PySem.W.codeIn K cd1 "checked" = true) (k1 : PySem.W.keepIn K (.ref f1) = true)
    (a2 : PySem.W.nsIn K mainGlobals "signs_ahead" = some (some (.ref f2))) (l2 : K.lookup f2 = some ⟨oc2, od2, .func (PySem.W.fnOf "signs_ahead" "signs_ahead" (defArgs s_signs_ahead) (defBody s_signs_ahead) (defScope s_signs_ahead) .none kV2 dc2 pm2 an2 cd2 ct2), sl2⟩) (c2 : PySem.W.codeIn K cd2 "signs_ahead" = true) (k2 : PySem.W.keepIn K (.ref f2) = true)
    (a3 : PySem.W.nsIn K mainGlobals "need_knot" = some (some (.ref f3))) (l3 : K.lookup f3 = some ⟨oc3, od3, .func (PySem.W.fnOf "need_knot" "need_knot" (defArgs s_need_knot) (defBody s_need_knot) (defScope s_need_knot) .none kV3 dc3 pm3 an3 cd3 ct3), sl3⟩) (c3 : PySem.W.codeIn K cd3 "need_knot" = true) (k3 : PySem.W.keepIn K (.ref f3) = true)
    (a4 : PySem.W.nsIn K mainGlobals "counts" = some (some (.ref f4))) (l4 : K.lookup f4 = some ⟨oc4, od4, .func (PySem.W.fnOf "counts" "counts" (defArgs s_counts) (defBody s_counts) (defScope s_counts) .none kV4 dc4 pm4 an4 cd4 ct4), sl4⟩) (c4 : PySem.W.codeIn K cd4 "counts" = true) (k4 : PySem.W.keepIn K (.ref f4) = true)
    (a5 : PySem.W.nsIn K mainGlobals "_law_cell_at" = some (some (.ref f5))) (l5 : K.lookup f5 = some ⟨oc5, od5, .func (PySem.W.fnOf "_law_cell_at" "_law_cell_at" (defArgs s_law_cell_at) (defBody s_law_cell_at) (defScope s_law_cell_at) .none kV5 dc5 pm5 an5 cd5 ct5), sl5⟩) (c5 : PySem.W.codeIn K cd5 "_law_cell_at" = true) (k5 : PySem.W.keepIn K (.ref f5) = true)
    (a6 : PySem.W.nsIn K mainGlobals "_law_whole" = some (some (.ref f6))) (l6 : K.lookup f6 = some ⟨oc6, od6, .func (PySem.W.fnOf "_law_whole" "_law_whole" (defArgs s_law_whole) (defBody s_law_whole) (defScope s_law_whole) .none kV6 dc6 pm6 an6 cd6 ct6), sl6⟩) (c6 : PySem.W.codeIn K cd6 "_law_whole" = true) (k6 : PySem.W.keepIn K (.ref f6) = true)
    (a7 : PySem.W.nsIn K mainGlobals "_law_signs" = some (some (.ref f7))) (l7 : K.lookup f7 = some ⟨oc7, od7, .func (PySem.W.fnOf "_law_signs" "_law_signs" (defArgs s_law_signs) (defBody s_law_signs) (defScope s_law_signs) .none kV7 dc7 pm7 an7 cd7 ct7), sl7⟩) (c7 : PySem.W.codeIn K cd7 "_law_signs" = true) (k7 : PySem.W.keepIn K (.ref f7) = true)
    (a8 : PySem.W.nsIn K mainGlobals "_law_frame" = some (some (.ref f8))) (l8 : K.lookup f8 = some ⟨oc8, od8, .func (PySem.W.fnOf "_law_frame" "_law_frame" (defArgs s_law_frame) (defBody s_law_frame) (defScope s_law_frame) .none kV8 dc8 pm8 an8 cd8 ct8), sl8⟩) (c8 : PySem.W.codeIn K cd8 "_law_frame" = true) (k8 : PySem.W.keepIn K (.ref f8) = true)
    (a9 : PySem.W.nsIn K mainGlobals "_law_text" = some (some (.ref f9))) (l9 : K.lookup f9 = some ⟨oc9, od9, .func (PySem.W.fnOf "_law_text" "_law_text" (defArgs s_law_text) (defBody s_law_text) (defScope s_law_text) .none kV9 dc9 pm9 an9 cd9 ct9), sl9⟩) (c9 : PySem.W.codeIn K cd9 "_law_text" = true) (k9 : PySem.W.keepIn K (.ref f9) = true)
    (a10 : PySem.W.nsIn K mainGlobals "_law_elder" = some (some (.ref f10))) (l10 : K.lookup f10 = some ⟨oc10, od10, .func (PySem.W.fnOf "_law_elder" "_law_elder" (defArgs s_law_elder) (defBody s_law_elder) (defScope s_law_elder) .none kV10 dc10 pm10 an10 cd10 ct10), sl10⟩) (c10 : PySem.W.codeIn K cd10 "_law_elder" = true) (k10 : PySem.W.keepIn K (.ref f10) = true)
    (a11 : PySem.W.nsIn K mainGlobals "_law_counts" = some (some (.ref f11))) (l11 : K.lookup f11 = some ⟨oc11, od11, .func (PySem.W.fnOf "_law_counts" "_law_counts" (defArgs s_law_counts) (defBody s_law_counts) (defScope s_law_counts) .none kV11 dc11 pm11 an11 cd11 ct11), sl11⟩) (c11 : PySem.W.codeIn K cd11 "_law_counts" = true) (k11 : PySem.W.keepIn K (.ref f11) = true)
    (a12 : PySem.W.nsIn K mainGlobals "_law_drawn" = some (some (.ref f12))) (l12 : K.lookup f12 = some ⟨oc12, od12, .func (PySem.W.fnOf "_law_drawn" "_law_drawn" (defArgs s_law_drawn) (defBody s_law_drawn) (defScope s_law_drawn) .none kV12 dc12 pm12 an12 cd12 ct12), sl12⟩) (c12 : PySem.W.codeIn K cd12 "_law_drawn" = true) (k12 : PySem.W.keepIn K (.ref f12) = true)
    (a13 : PySem.W.nsIn K mainGlobals "_law_told" = some (some (.ref f13))) (l13 : K.lookup f13 = some ⟨oc13, od13, .func (PySem.W.fnOf "_law_told" "_law_told" (defArgs s_law_told) (defBody s_law_told) (defScope s_law_told) .none kV13 dc13 pm13 an13 cd13 ct13), sl13⟩) (c13 : PySem.W.codeIn K cd13 "_law_told" = true) (k13 : PySem.W.keepIn K (.ref f13) = true)
    (a14 : PySem.W.nsIn K mainGlobals "_law_refused" = some (some (.ref f14))) (l14 : K.lookup f14 = some ⟨oc14, od14, .func (PySem.W.fnOf "_law_refused" "_law_refused" (defArgs s_law_refused) (defBody s_law_refused) (defScope s_law_refused) .none kV14 dc14 pm14 an14 cd14 ct14), sl14⟩) (c14 : PySem.W.codeIn K cd14 "_law_refused" = true) (k14 : PySem.W.keepIn K (.ref f14) = true)
    (a15 : PySem.W.nsIn K mainGlobals "law" = some (some (.ref f15))) (l15 : K.lookup f15 = some ⟨oc15, od15, .func (PySem.W.fnOf "law" "law" (defArgs s_law) (defBody s_law) (defScope s_law) .none kV15 dc15 pm15 an15 cd15 ct15), sl15⟩) (c15 : PySem.W.codeIn K cd15 "law" = true) (k15 : PySem.W.keepIn K (.ref f15) = true)
    (z_ValueError : PySem.W.nsIn K mainGlobals "ValueError" = some none)
    (z_bool : PySem.W.nsIn K mainGlobals "bool" = some none)
    (z_int : PySem.W.nsIn K mainGlobals "int" = some none)
    (z_isinstance : PySem.W.nsIn K mainGlobals "isinstance" = some none)
    (z_len : PySem.W.nsIn K mainGlobals "len" = some none)
    (z_list : PySem.W.nsIn K mainGlobals "list" = some none)
    (z_max : PySem.W.nsIn K mainGlobals "max" = some none)
    (z_range : PySem.W.nsIn K mainGlobals "range" = some none)
    (aC_NoKnot : PySem.W.nsIn K mainGlobals "NoKnot" = some (some (.ref C_NoKnot))) (xC_NoKnot : PySem.W.excIn K C_NoKnot [.type "ValueError", .type "Exception", .type "BaseException", .type "object"] "ValueError.__new__" = true) (kC_NoKnot : PySem.W.keepIn K (.ref C_NoKnot) = true) (bC_NoKnot : PySem.W.subIn K (.ref C_NoKnot) (.type "BaseException") = some true) (tC_NoKnot : PySem.W.typeIn K (.ref C_NoKnot) = some (.type "type"))
    (aC_NoText : PySem.W.nsIn K mainGlobals "NoText" = some (some (.ref C_NoText))) (xC_NoText : PySem.W.excIn K C_NoText [.type "ValueError", .type "Exception", .type "BaseException", .type "object"] "ValueError.__new__" = true) (kC_NoText : PySem.W.keepIn K (.ref C_NoText) = true) (bC_NoText : PySem.W.subIn K (.ref C_NoText) (.type "BaseException") = some true) (tC_NoText : PySem.W.typeIn K (.ref C_NoText) = some (.type "type"))
    (aC_PressError : PySem.W.nsIn K mainGlobals "PressError" = some (some (.ref C_PressError)))
    (aC_NoFraction : PySem.W.nsIn K mainGlobals "NoFraction" = some (some (.ref C_NoFraction)))
    (aC_NoFrame : PySem.W.nsIn K mainGlobals "NoFrame" = some (some (.ref C_NoFrame)))
    (aC_NoPlace : PySem.W.nsIn K mainGlobals "NoPlace" = some (some (.ref C_NoPlace)))
    (aC_NoTree : PySem.W.nsIn K mainGlobals "NoTree" = some (some (.ref C_NoTree)))
    (aC_NoSign : PySem.W.nsIn K mainGlobals "NoSign" = some (some (.ref C_NoSign)))
    (aC_NothingTaken : PySem.W.nsIn K mainGlobals "NothingTaken" = some (some (.ref C_NothingTaken)))
    (aC_NoBits : PySem.W.nsIn K mainGlobals "NoBits" = some (some (.ref C_NoBits)))
    (aC_NoPress : PySem.W.nsIn K mainGlobals "NoPress" = some (some (.ref C_NoPress)))
    (aC_NoPacket : PySem.W.nsIn K mainGlobals "NoPacket" = some (some (.ref C_NoPacket)))
    (aC_NoRow : PySem.W.nsIn K mainGlobals "NoRow" = some (some (.ref C_NoRow)))
    (aC_NoName : PySem.W.nsIn K mainGlobals "NoName" = some (some (.ref C_NoName)))
    (aC_NoNumber : PySem.W.nsIn K mainGlobals "NoNumber" = some (some (.ref C_NoNumber)))
    (gA_NoText : PySem.W.findIn K (.ref C_NoText) "__getattribute__" = some (some (.builtin "BaseException.__getattribute__")))
    (gB_NoText : PySem.W.findIn K (.ref C_NoText) "__getattr__" = some none)
    (gD_NoText : PySem.W.hasDictIn K C_NoText = true)
    (gC_NoText : PySem.W.findIn K (.ref C_NoText) "__class__" = some (some (.builtin "object.__class__")))
    (gM_NoText : PySem.W.mroIn K C_NoText (.type "object") = some true)
    (gA_NoKnot : PySem.W.findIn K (.ref C_NoKnot) "__getattribute__" = some (some (.builtin "BaseException.__getattribute__")))
    (gB_NoKnot : PySem.W.findIn K (.ref C_NoKnot) "__getattr__" = some none)
    (gD_NoKnot : PySem.W.hasDictIn K C_NoKnot = true)
    (gC_NoKnot : PySem.W.findIn K (.ref C_NoKnot) "__class__" = some (some (.builtin "object.__class__")))
    (gM_NoKnot : PySem.W.mroIn K C_NoKnot (.type "object") = some true)
    (sp1 : PySem.W.specialIn K (.builtin "object.__class__") "__get__" = some (some (.builtin "getset_descriptor.__get__"))) (sp2 : PySem.W.takesIn K (.builtin "object.__class__") = some true)
    (tC_PressError : PySem.W.typeIn K (.ref C_PressError) = some (.type "type"))
    (bC_PressError : PySem.W.subIn K (.ref C_PressError) (.type "BaseException") = some true)
    (gD_PressError : PySem.W.hasDictIn K C_PressError = true)
    (tC_NoFraction : PySem.W.typeIn K (.ref C_NoFraction) = some (.type "type"))
    (bC_NoFraction : PySem.W.subIn K (.ref C_NoFraction) (.type "BaseException") = some true)
    (gD_NoFraction : PySem.W.hasDictIn K C_NoFraction = true)
    (tC_NoFrame : PySem.W.typeIn K (.ref C_NoFrame) = some (.type "type"))
    (bC_NoFrame : PySem.W.subIn K (.ref C_NoFrame) (.type "BaseException") = some true)
    (gD_NoFrame : PySem.W.hasDictIn K C_NoFrame = true)
    (tC_NoPlace : PySem.W.typeIn K (.ref C_NoPlace) = some (.type "type"))
    (bC_NoPlace : PySem.W.subIn K (.ref C_NoPlace) (.type "BaseException") = some true)
    (gD_NoPlace : PySem.W.hasDictIn K C_NoPlace = true)
    (tC_NoTree : PySem.W.typeIn K (.ref C_NoTree) = some (.type "type"))
    (bC_NoTree : PySem.W.subIn K (.ref C_NoTree) (.type "BaseException") = some true)
    (gD_NoTree : PySem.W.hasDictIn K C_NoTree = true)
    (tC_NoSign : PySem.W.typeIn K (.ref C_NoSign) = some (.type "type"))
    (bC_NoSign : PySem.W.subIn K (.ref C_NoSign) (.type "BaseException") = some true)
    (gD_NoSign : PySem.W.hasDictIn K C_NoSign = true)
    (tC_NothingTaken : PySem.W.typeIn K (.ref C_NothingTaken) = some (.type "type"))
    (bC_NothingTaken : PySem.W.subIn K (.ref C_NothingTaken) (.type "BaseException") = some true)
    (gD_NothingTaken : PySem.W.hasDictIn K C_NothingTaken = true)
    (tC_NoBits : PySem.W.typeIn K (.ref C_NoBits) = some (.type "type"))
    (bC_NoBits : PySem.W.subIn K (.ref C_NoBits) (.type "BaseException") = some true)
    (gD_NoBits : PySem.W.hasDictIn K C_NoBits = true)
    (tC_NoPress : PySem.W.typeIn K (.ref C_NoPress) = some (.type "type"))
    (bC_NoPress : PySem.W.subIn K (.ref C_NoPress) (.type "BaseException") = some true)
    (gD_NoPress : PySem.W.hasDictIn K C_NoPress = true)
    (tC_NoPacket : PySem.W.typeIn K (.ref C_NoPacket) = some (.type "type"))
    (bC_NoPacket : PySem.W.subIn K (.ref C_NoPacket) (.type "BaseException") = some true)
    (gD_NoPacket : PySem.W.hasDictIn K C_NoPacket = true)
    (tC_NoRow : PySem.W.typeIn K (.ref C_NoRow) = some (.type "type"))
    (bC_NoRow : PySem.W.subIn K (.ref C_NoRow) (.type "BaseException") = some true)
    (gD_NoRow : PySem.W.hasDictIn K C_NoRow = true)
    (tC_NoName : PySem.W.typeIn K (.ref C_NoName) = some (.type "type"))
    (bC_NoName : PySem.W.subIn K (.ref C_NoName) (.type "BaseException") = some true)
    (gD_NoName : PySem.W.hasDictIn K C_NoName = true)
    (tC_NoNumber : PySem.W.typeIn K (.ref C_NoNumber) = some (.type "type"))
    (bC_NoNumber : PySem.W.subIn K (.ref C_NoNumber) (.type "BaseException") = some true)
    (gD_NoNumber : PySem.W.hasDictIn K C_NoNumber = true)
    (sV_NoText : PySem.W.subIn K (.ref C_NoText) (.type "ValueError") = some true)
    (s_NoText_PressError : PySem.W.subIn K (.ref C_NoText) (.ref C_PressError) = some true)
    (s_NoText_NoFraction : PySem.W.subIn K (.ref C_NoText) (.ref C_NoFraction) = some false)
    (s_NoText_NoFrame : PySem.W.subIn K (.ref C_NoText) (.ref C_NoFrame) = some false)
    (s_NoText_NoText : PySem.W.subIn K (.ref C_NoText) (.ref C_NoText) = some true)
    (s_NoText_NoPlace : PySem.W.subIn K (.ref C_NoText) (.ref C_NoPlace) = some false)
    (s_NoText_NoKnot : PySem.W.subIn K (.ref C_NoText) (.ref C_NoKnot) = some false)
    (s_NoText_NoTree : PySem.W.subIn K (.ref C_NoText) (.ref C_NoTree) = some false)
    (s_NoText_NoSign : PySem.W.subIn K (.ref C_NoText) (.ref C_NoSign) = some false)
    (s_NoText_NothingTaken : PySem.W.subIn K (.ref C_NoText) (.ref C_NothingTaken) = some false)
    (s_NoText_NoBits : PySem.W.subIn K (.ref C_NoText) (.ref C_NoBits) = some false)
    (s_NoText_NoPress : PySem.W.subIn K (.ref C_NoText) (.ref C_NoPress) = some false)
    (s_NoText_NoPacket : PySem.W.subIn K (.ref C_NoText) (.ref C_NoPacket) = some false)
    (s_NoText_NoRow : PySem.W.subIn K (.ref C_NoText) (.ref C_NoRow) = some false)
    (s_NoText_NoName : PySem.W.subIn K (.ref C_NoText) (.ref C_NoName) = some false)
    (s_NoText_NoNumber : PySem.W.subIn K (.ref C_NoText) (.ref C_NoNumber) = some false)
    (sV_NoKnot : PySem.W.subIn K (.ref C_NoKnot) (.type "ValueError") = some true)
    (s_NoKnot_PressError : PySem.W.subIn K (.ref C_NoKnot) (.ref C_PressError) = some true)
    (s_NoKnot_NoFraction : PySem.W.subIn K (.ref C_NoKnot) (.ref C_NoFraction) = some false)
    (s_NoKnot_NoFrame : PySem.W.subIn K (.ref C_NoKnot) (.ref C_NoFrame) = some false)
    (s_NoKnot_NoText : PySem.W.subIn K (.ref C_NoKnot) (.ref C_NoText) = some false)
    (s_NoKnot_NoPlace : PySem.W.subIn K (.ref C_NoKnot) (.ref C_NoPlace) = some false)
    (s_NoKnot_NoKnot : PySem.W.subIn K (.ref C_NoKnot) (.ref C_NoKnot) = some true)
    (s_NoKnot_NoTree : PySem.W.subIn K (.ref C_NoKnot) (.ref C_NoTree) = some false)
    (s_NoKnot_NoSign : PySem.W.subIn K (.ref C_NoKnot) (.ref C_NoSign) = some false)
    (s_NoKnot_NothingTaken : PySem.W.subIn K (.ref C_NoKnot) (.ref C_NothingTaken) = some false)
    (s_NoKnot_NoBits : PySem.W.subIn K (.ref C_NoKnot) (.ref C_NoBits) = some false)
    (s_NoKnot_NoPress : PySem.W.subIn K (.ref C_NoKnot) (.ref C_NoPress) = some false)
    (s_NoKnot_NoPacket : PySem.W.subIn K (.ref C_NoKnot) (.ref C_NoPacket) = some false)
    (s_NoKnot_NoRow : PySem.W.subIn K (.ref C_NoKnot) (.ref C_NoRow) = some false)
    (s_NoKnot_NoName : PySem.W.subIn K (.ref C_NoKnot) (.ref C_NoName) = some false)
    (s_NoKnot_NoNumber : PySem.W.subIn K (.ref C_NoKnot) (.ref C_NoNumber) = some false)
    : ∃ fd : FuncData, (∀ (s : Shared) (v : Value), BindsTo s fd ⟨[v], []⟩ [("script", v)]) ∧ ∀ base : Heap, K.In base → base.Ns mainGlobals mg → FnOk P w K mg base (L2.CX P w) 4 fa fd ["script"] (spLaw K) := by
  have F_checked := fun_mk (st := s_checked) l1 c1 k1
  have D_checked : Df K mg "checked" s_checked ["frame", "text"] := ⟨f1, _, F_checked, PySem.W.mg_of X G a1, F_checked.binds (ps := ["frame", "text"]) (fun _ _ _ _ _ _ us hl => match us, hl with | [_, _], _ => rfl)⟩
  have F_signs_ahead := fun_mk (st := s_signs_ahead) l2 c2 k2
  have D_signs_ahead : Df K mg "signs_ahead" s_signs_ahead ["frame", "text", "at"] := ⟨f2, _, F_signs_ahead, PySem.W.mg_of X G a2, F_signs_ahead.binds (ps := ["frame", "text", "at"]) (fun _ _ _ _ _ _ us hl => match us, hl with | [_, _, _], _ => rfl)⟩
  have F_need_knot := fun_mk (st := s_need_knot) l3 c3 k3
  have D_need_knot : Df K mg "need_knot" s_need_knot ["frame", "knot"] := ⟨f3, _, F_need_knot, PySem.W.mg_of X G a3, F_need_knot.binds (ps := ["frame", "knot"]) (fun _ _ _ _ _ _ us hl => match us, hl with | [_, _], _ => rfl)⟩
  have F_counts := fun_mk (st := s_counts) l4 c4 k4
  have D_counts : Df K mg "counts" s_counts ["frame", "text", "knot"] := ⟨f4, _, F_counts, PySem.W.mg_of X G a4, F_counts.binds (ps := ["frame", "text", "knot"]) (fun _ _ _ _ _ _ us hl => match us, hl with | [_, _, _], _ => rfl)⟩
  have F_law_cell_at := fun_mk (st := s_law_cell_at) l5 c5 k5
  have D_law_cell_at : Df K mg "_law_cell_at" s_law_cell_at ["script", "k"] := ⟨f5, _, F_law_cell_at, PySem.W.mg_of X G a5, F_law_cell_at.binds (ps := ["script", "k"]) (fun _ _ _ _ _ _ us hl => match us, hl with | [_, _], _ => rfl)⟩
  have F_law_whole := fun_mk (st := s_law_whole) l6 c6 k6
  have D_law_whole : Df K mg "_law_whole" s_law_whole ["found"] := ⟨f6, _, F_law_whole, PySem.W.mg_of X G a6, F_law_whole.binds (ps := ["found"]) (fun _ _ _ _ _ _ us hl => match us, hl with | [_], _ => rfl)⟩
  have F_law_signs := fun_mk (st := s_law_signs) l7 c7 k7
  have D_law_signs : Df K mg "_law_signs" s_law_signs [] := ⟨f7, _, F_law_signs, PySem.W.mg_of X G a7, F_law_signs.binds (ps := []) (fun _ _ _ _ _ _ us hl => match us, hl with | [], _ => rfl)⟩
  have F_law_frame := fun_mk (st := s_law_frame) l8 c8 k8
  have D_law_frame : Df K mg "_law_frame" s_law_frame ["cell"] := ⟨f8, _, F_law_frame, PySem.W.mg_of X G a8, F_law_frame.binds (ps := ["cell"]) (fun _ _ _ _ _ _ us hl => match us, hl with | [_], _ => rfl)⟩
  have F_law_text := fun_mk (st := s_law_text) l9 c9 k9
  have D_law_text : Df K mg "_law_text" s_law_text ["letters", "cells", "way"] := ⟨f9, _, F_law_text, PySem.W.mg_of X G a9, F_law_text.binds (ps := ["letters", "cells", "way"]) (fun _ _ _ _ _ _ us hl => match us, hl with | [_, _, _], _ => rfl)⟩
  have F_law_elder := fun_mk (st := s_law_elder) l10 c10 k10
  have D_law_elder : Df K mg "_law_elder" s_law_elder ["frame", "text", "at", "k"] := ⟨f10, _, F_law_elder, PySem.W.mg_of X G a10, F_law_elder.binds (ps := ["frame", "text", "at", "k"]) (fun _ _ _ _ _ _ us hl => match us, hl with | [_, _, _, _], _ => rfl)⟩
  have F_law_counts := fun_mk (st := s_law_counts) l11 c11 k11
  have D_law_counts : Df K mg "_law_counts" s_law_counts ["frame", "text", "knot"] := ⟨f11, _, F_law_counts, PySem.W.mg_of X G a11, F_law_counts.binds (ps := ["frame", "text", "knot"]) (fun _ _ _ _ _ _ us hl => match us, hl with | [_, _, _], _ => rfl)⟩
  have F_law_drawn := fun_mk (st := s_law_drawn) l12 c12 k12
  have D_law_drawn : Df K mg "_law_drawn" s_law_drawn ["frame", "size", "cell"] := ⟨f12, _, F_law_drawn, PySem.W.mg_of X G a12, F_law_drawn.binds (ps := ["frame", "size", "cell"]) (fun _ _ _ _ _ _ us hl => match us, hl with | [_, _, _], _ => rfl)⟩
  have F_law_told := fun_mk (st := s_law_told) l13 c13 k13
  have D_law_told : Df K mg "_law_told" s_law_told ["frame", "text", "knot"] := ⟨f13, _, F_law_told, PySem.W.mg_of X G a13, F_law_told.binds (ps := ["frame", "text", "knot"]) (fun _ _ _ _ _ _ us hl => match us, hl with | [_, _, _], _ => rfl)⟩
  have F_law_refused := fun_mk (st := s_law_refused) l14 c14 k14
  have D_law_refused : Df K mg "_law_refused" s_law_refused ["frame", "text", "knot", "way"] := ⟨f14, _, F_law_refused, PySem.W.mg_of X G a14, F_law_refused.binds (ps := ["frame", "text", "knot", "way"]) (fun _ _ _ _ _ _ us hl => match us, hl with | [_, _, _, _], _ => rfl)⟩
  have F_law := fun_mk (st := s_law) l15 c15 k15
  have T : Txt K mg := { b_ValueError := PySem.W.mg_none_of X G z_ValueError, b_bool := PySem.W.mg_none_of X G z_bool, b_int := PySem.W.mg_none_of X G z_int, b_isinstance := PySem.W.mg_none_of X G z_isinstance, b_len := PySem.W.mg_none_of X G z_len, b_list := PySem.W.mg_none_of X G z_list, b_max := PySem.W.mg_none_of X G z_max, b_range := PySem.W.mg_none_of X G z_range, e_NoKnot := ⟨C_NoKnot, PySem.W.mg_of X G aC_NoKnot, xC_NoKnot, kC_NoKnot, bC_NoKnot, tC_NoKnot⟩, e_NoText := ⟨C_NoText, PySem.W.mg_of X G aC_NoText, xC_NoText, kC_NoText, bC_NoText, tC_NoText⟩, x_NoText := ⟨C_NoText, ⟨PySem.W.mg_of X G aC_NoText, xC_NoText, kC_NoText, bC_NoText, tC_NoText⟩, ⟨gA_NoText, gB_NoText, bC_NoText, gD_NoText, gC_NoText, sp1, sp2, gM_NoText⟩, PySem.W.exm_ref bC_NoText gD_NoText tC_NoText s_NoText_NoText, ⟨C_PressError, PySem.W.mg_of X G aC_PressError, PySem.W.exm_ref bC_PressError gD_PressError tC_PressError s_NoText_PressError⟩, kit_ve sV_NoText, (kits_cons ⟨C_PressError, PySem.W.mg_of X G aC_PressError, kit_own s_NoText_NoText gD_PressError tC_PressError s_NoText_PressError⟩ (kits_cons ⟨C_NoFraction, PySem.W.mg_of X G aC_NoFraction, kit_own s_NoText_NoText gD_NoFraction tC_NoFraction s_NoText_NoFraction⟩ (kits_cons ⟨C_NoFrame, PySem.W.mg_of X G aC_NoFrame, kit_own s_NoText_NoText gD_NoFrame tC_NoFrame s_NoText_NoFrame⟩ (kits_cons ⟨C_NoText, PySem.W.mg_of X G aC_NoText, kit_own s_NoText_NoText gD_NoText tC_NoText s_NoText_NoText⟩ (kits_cons ⟨C_NoPlace, PySem.W.mg_of X G aC_NoPlace, kit_own s_NoText_NoText gD_NoPlace tC_NoPlace s_NoText_NoPlace⟩ (kits_cons ⟨C_NoKnot, PySem.W.mg_of X G aC_NoKnot, kit_own s_NoText_NoText gD_NoKnot tC_NoKnot s_NoText_NoKnot⟩ (kits_cons ⟨C_NoTree, PySem.W.mg_of X G aC_NoTree, kit_own s_NoText_NoText gD_NoTree tC_NoTree s_NoText_NoTree⟩ (kits_cons ⟨C_NoSign, PySem.W.mg_of X G aC_NoSign, kit_own s_NoText_NoText gD_NoSign tC_NoSign s_NoText_NoSign⟩ (kits_cons ⟨C_NothingTaken, PySem.W.mg_of X G aC_NothingTaken, kit_own s_NoText_NoText gD_NothingTaken tC_NothingTaken s_NoText_NothingTaken⟩ (kits_cons ⟨C_NoBits, PySem.W.mg_of X G aC_NoBits, kit_own s_NoText_NoText gD_NoBits tC_NoBits s_NoText_NoBits⟩ (kits_cons ⟨C_NoPress, PySem.W.mg_of X G aC_NoPress, kit_own s_NoText_NoText gD_NoPress tC_NoPress s_NoText_NoPress⟩ (kits_cons ⟨C_NoPacket, PySem.W.mg_of X G aC_NoPacket, kit_own s_NoText_NoText gD_NoPacket tC_NoPacket s_NoText_NoPacket⟩ (kits_cons ⟨C_NoRow, PySem.W.mg_of X G aC_NoRow, kit_own s_NoText_NoText gD_NoRow tC_NoRow s_NoText_NoRow⟩ (kits_cons ⟨C_NoName, PySem.W.mg_of X G aC_NoName, kit_own s_NoText_NoText gD_NoName tC_NoName s_NoText_NoName⟩ (kits_cons ⟨C_NoNumber, PySem.W.mg_of X G aC_NoNumber, kit_own s_NoText_NoText gD_NoNumber tC_NoNumber s_NoText_NoNumber⟩ kits_nil)))))))))))))))⟩, x_NoKnot := ⟨C_NoKnot, ⟨PySem.W.mg_of X G aC_NoKnot, xC_NoKnot, kC_NoKnot, bC_NoKnot, tC_NoKnot⟩, ⟨gA_NoKnot, gB_NoKnot, bC_NoKnot, gD_NoKnot, gC_NoKnot, sp1, sp2, gM_NoKnot⟩, PySem.W.exm_ref bC_NoKnot gD_NoKnot tC_NoKnot s_NoKnot_NoKnot, ⟨C_PressError, PySem.W.mg_of X G aC_PressError, PySem.W.exm_ref bC_PressError gD_PressError tC_PressError s_NoKnot_PressError⟩, kit_ve sV_NoKnot, (kits_cons ⟨C_PressError, PySem.W.mg_of X G aC_PressError, kit_own s_NoKnot_NoKnot gD_PressError tC_PressError s_NoKnot_PressError⟩ (kits_cons ⟨C_NoFraction, PySem.W.mg_of X G aC_NoFraction, kit_own s_NoKnot_NoKnot gD_NoFraction tC_NoFraction s_NoKnot_NoFraction⟩ (kits_cons ⟨C_NoFrame, PySem.W.mg_of X G aC_NoFrame, kit_own s_NoKnot_NoKnot gD_NoFrame tC_NoFrame s_NoKnot_NoFrame⟩ (kits_cons ⟨C_NoText, PySem.W.mg_of X G aC_NoText, kit_own s_NoKnot_NoKnot gD_NoText tC_NoText s_NoKnot_NoText⟩ (kits_cons ⟨C_NoPlace, PySem.W.mg_of X G aC_NoPlace, kit_own s_NoKnot_NoKnot gD_NoPlace tC_NoPlace s_NoKnot_NoPlace⟩ (kits_cons ⟨C_NoKnot, PySem.W.mg_of X G aC_NoKnot, kit_own s_NoKnot_NoKnot gD_NoKnot tC_NoKnot s_NoKnot_NoKnot⟩ (kits_cons ⟨C_NoTree, PySem.W.mg_of X G aC_NoTree, kit_own s_NoKnot_NoKnot gD_NoTree tC_NoTree s_NoKnot_NoTree⟩ (kits_cons ⟨C_NoSign, PySem.W.mg_of X G aC_NoSign, kit_own s_NoKnot_NoKnot gD_NoSign tC_NoSign s_NoKnot_NoSign⟩ (kits_cons ⟨C_NothingTaken, PySem.W.mg_of X G aC_NothingTaken, kit_own s_NoKnot_NoKnot gD_NothingTaken tC_NothingTaken s_NoKnot_NothingTaken⟩ (kits_cons ⟨C_NoBits, PySem.W.mg_of X G aC_NoBits, kit_own s_NoKnot_NoKnot gD_NoBits tC_NoBits s_NoKnot_NoBits⟩ (kits_cons ⟨C_NoPress, PySem.W.mg_of X G aC_NoPress, kit_own s_NoKnot_NoKnot gD_NoPress tC_NoPress s_NoKnot_NoPress⟩ (kits_cons ⟨C_NoPacket, PySem.W.mg_of X G aC_NoPacket, kit_own s_NoKnot_NoKnot gD_NoPacket tC_NoPacket s_NoKnot_NoPacket⟩ (kits_cons ⟨C_NoRow, PySem.W.mg_of X G aC_NoRow, kit_own s_NoKnot_NoKnot gD_NoRow tC_NoRow s_NoKnot_NoRow⟩ (kits_cons ⟨C_NoName, PySem.W.mg_of X G aC_NoName, kit_own s_NoKnot_NoKnot gD_NoName tC_NoName s_NoKnot_NoName⟩ (kits_cons ⟨C_NoNumber, PySem.W.mg_of X G aC_NoNumber, kit_own s_NoKnot_NoKnot gD_NoNumber tC_NoNumber s_NoKnot_NoNumber⟩ kits_nil)))))))))))))))⟩ }
  have e := hfa.symm.trans (PySem.W.mg_of X G a15)
  cases e
  refine ⟨PySem.W.fnOf "law" "law" (defArgs s_law) (defBody s_law) (defScope s_law) .none kV15 dc15 pm15 an15 cd15 ct15, fun s v => .of_eq rfl, fun base _ _ => ?_⟩
  have G_checked := ok_checked (P := P) (w := w) (base := base) T D_checked
  have G_law_cell_at := ok_law_cell_at (P := P) (w := w) (base := base) T D_law_cell_at
  have G_law_whole := ok_law_whole (P := P) (w := w) (base := base) T D_law_whole
  have G_law_signs := ok_law_signs (P := P) (w := w) (base := base) T D_law_signs
  have G_law_frame := ok_law_frame T G_law_signs D_law_frame
  have G_signs_ahead := ok_signs_ahead (P := P) (w := w) (base := base) T D_signs_ahead
  have G_need_knot := ok_need_knot (P := P) (w := w) (base := base) T D_need_knot
  have G_counts := ok_counts T G_checked G_need_knot G_signs_ahead D_counts
  have G_law_text := ok_law_text (P := P) (w := w) (base := base) T D_law_text
  have G_law_elder := ok_law_elder (P := P) (w := w) (base := base) T D_law_elder
  have G_law_counts := ok_law_counts T G_law_elder D_law_counts
  have G_law_drawn := ok_law_drawn (P := P) (w := w) (base := base) T D_law_drawn
  have G_law_told := ok_law_told T G_counts G_law_counts G_law_whole D_law_told
  have G_law_refused := ok_law_refused T G_counts D_law_refused
  exact law_imp (ok_law T G_law_frame G_law_text G_law_cell_at G_law_drawn G_law_told G_law_signs G_law_refused G_law_elder F_law)
end B
open PySem PySem.W PyProof.Rows
set_option maxRecDepth 100000 in
set_option maxHeartbeats 0 in
theorem PySem.Challenge.cw_boughpress_k12_counts_of_knots_holds : PySem.Challenge.rw_boughpress_k12_counts_of_knots.Holds := by
  w_on; o_law; k_head; (case hw => w_witness2)
  k_fill
  refine B.walk (l := PySem.Challenge.rw_boughpress_k12_counts_of_knots) (k := 4) rfl rfl ⟨rfl, by decide, by decide⟩ (fun w h Y => PySem.W.kIn_of Y) ?F
  case F =>
    intro w mg fa h KX G hmg
    refine' B.all_mk KX G hmg ?a1 ?l1 ?c1 ?k1 ?a2 ?l2 ?c2 ?k2 ?a3 ?l3 ?c3 ?k3 ?a4 ?l4 ?c4 ?k4 ?a5 ?l5 ?c5 ?k5 ?a6 ?l6 ?c6 ?k6 ?a7 ?l7 ?c7 ?k7 ?a8 ?l8 ?c8 ?k8 ?a9 ?l9 ?c9 ?k9 ?a10 ?l10 ?c10 ?k10 ?a11 ?l11 ?c11 ?k11 ?a12 ?l12 ?c12 ?k12 ?a13 ?l13 ?c13 ?k13 ?a14 ?l14 ?c14 ?k14 ?a15 ?l15 ?c15 ?k15 ?z_ValueError ?z_bool ?z_int ?z_isinstance ?z_len ?z_list ?z_max ?z_range ?aC_NoKnot ?xC_NoKnot ?kC_NoKnot ?bC_NoKnot ?tC_NoKnot ?aC_NoText ?xC_NoText ?kC_NoText ?bC_NoText ?tC_NoText ?aC_PressError ?aC_NoFraction ?aC_NoFrame ?aC_NoPlace ?aC_NoTree ?aC_NoSign ?aC_NothingTaken ?aC_NoBits ?aC_NoPress ?aC_NoPacket ?aC_NoRow ?aC_NoName ?aC_NoNumber ?gA_NoText ?gB_NoText ?gD_NoText ?gC_NoText ?gM_NoText ?gA_NoKnot ?gB_NoKnot ?gD_NoKnot ?gC_NoKnot ?gM_NoKnot ?sp1 ?sp2 ?tC_PressError ?bC_PressError ?gD_PressError ?tC_NoFraction ?bC_NoFraction ?gD_NoFraction ?tC_NoFrame ?bC_NoFrame ?gD_NoFrame ?tC_NoPlace ?bC_NoPlace ?gD_NoPlace ?tC_NoTree ?bC_NoTree ?gD_NoTree ?tC_NoSign ?bC_NoSign ?gD_NoSign ?tC_NothingTaken ?bC_NothingTaken ?gD_NothingTaken ?tC_NoBits ?bC_NoBits ?gD_NoBits ?tC_NoPress ?bC_NoPress ?gD_NoPress ?tC_NoPacket ?bC_NoPacket ?gD_NoPacket ?tC_NoRow ?bC_NoRow ?gD_NoRow ?tC_NoName ?bC_NoName ?gD_NoName ?tC_NoNumber ?bC_NoNumber ?gD_NoNumber ?sV_NoText ?s_NoText_PressError ?s_NoText_NoFraction ?s_NoText_NoFrame ?s_NoText_NoText ?s_NoText_NoPlace ?s_NoText_NoKnot ?s_NoText_NoTree ?s_NoText_NoSign ?s_NoText_NothingTaken ?s_NoText_NoBits ?s_NoText_NoPress ?s_NoText_NoPacket ?s_NoText_NoRow ?s_NoText_NoName ?s_NoText_NoNumber ?sV_NoKnot ?s_NoKnot_PressError ?s_NoKnot_NoFraction ?s_NoKnot_NoFrame ?s_NoKnot_NoText ?s_NoKnot_NoPlace ?s_NoKnot_NoKnot ?s_NoKnot_NoTree ?s_NoKnot_NoSign ?s_NoKnot_NothingTaken ?s_NoKnot_NoBits ?s_NoKnot_NoPress ?s_NoKnot_NoPacket ?s_NoKnot_NoRow ?s_NoKnot_NoName ?s_NoKnot_NoNumber
    (case a1 => k_is)
    (case l1 => k_is)
    (case c1 => k_is)
    (case k1 => k_is)
    (case a2 => k_is)
    (case l2 => k_is)
    (case c2 => k_is)
    (case k2 => k_is)
    (case a3 => k_is)
    (case l3 => k_is)
    (case c3 => k_is)
    (case k3 => k_is)
    (case a4 => k_is)
    (case l4 => k_is)
    (case c4 => k_is)
    (case k4 => k_is)
    (case a5 => k_is)
    (case l5 => k_is)
    (case c5 => k_is)
    (case k5 => k_is)
    (case a6 => k_is)
    (case l6 => k_is)
    (case c6 => k_is)
    (case k6 => k_is)
    (case a7 => k_is)
    (case l7 => k_is)
    (case c7 => k_is)
    (case k7 => k_is)
    (case a8 => k_is)
    (case l8 => k_is)
    (case c8 => k_is)
    (case k8 => k_is)
    (case a9 => k_is)
    (case l9 => k_is)
    (case c9 => k_is)
    (case k9 => k_is)
    (case a10 => k_is)
    (case l10 => k_is)
    (case c10 => k_is)
    (case k10 => k_is)
    (case a11 => k_is)
    (case l11 => k_is)
    (case c11 => k_is)
    (case k11 => k_is)
    (case a12 => k_is)
    (case l12 => k_is)
    (case c12 => k_is)
    (case k12 => k_is)
    (case a13 => k_is)
    (case l13 => k_is)
    (case c13 => k_is)
    (case k13 => k_is)
    (case a14 => k_is)
    (case l14 => k_is)
    (case c14 => k_is)
    (case k14 => k_is)
    (case a15 => k_is)
    (case l15 => k_is)
    (case c15 => k_is)
    (case k15 => k_is)
    (case z_ValueError => k_is)
    (case z_bool => k_is)
    (case z_int => k_is)
    (case z_isinstance => k_is)
    (case z_len => k_is)
    (case z_list => k_is)
    (case z_max => k_is)
    (case z_range => k_is)
    (case aC_NoKnot => k_is)
    (case xC_NoKnot => k_exc)
    (case kC_NoKnot => k_is)
    (case bC_NoKnot => k_is)
    (case tC_NoKnot => k_is)
    (case aC_NoText => k_is)
    (case xC_NoText => k_exc)
    (case kC_NoText => k_is)
    (case bC_NoText => k_is)
    (case tC_NoText => k_is)
    (case aC_PressError => k_is)
    (case aC_NoFraction => k_is)
    (case aC_NoFrame => k_is)
    (case aC_NoPlace => k_is)
    (case aC_NoTree => k_is)
    (case aC_NoSign => k_is)
    (case aC_NothingTaken => k_is)
    (case aC_NoBits => k_is)
    (case aC_NoPress => k_is)
    (case aC_NoPacket => k_is)
    (case aC_NoRow => k_is)
    (case aC_NoName => k_is)
    (case aC_NoNumber => k_is)
    (case gA_NoText => k_is)
    (case gB_NoText => k_is)
    (case gD_NoText => k_is)
    (case gC_NoText => k_is)
    (case gM_NoText => k_is)
    (case gA_NoKnot => k_is)
    (case gB_NoKnot => k_is)
    (case gD_NoKnot => k_is)
    (case gC_NoKnot => k_is)
    (case gM_NoKnot => k_is)
    (case sp1 => k_is)
    (case sp2 => k_is)
    (case tC_PressError => k_is)
    (case bC_PressError => k_is)
    (case gD_PressError => k_is)
    (case tC_NoFraction => k_is)
    (case bC_NoFraction => k_is)
    (case gD_NoFraction => k_is)
    (case tC_NoFrame => k_is)
    (case bC_NoFrame => k_is)
    (case gD_NoFrame => k_is)
    (case tC_NoPlace => k_is)
    (case bC_NoPlace => k_is)
    (case gD_NoPlace => k_is)
    (case tC_NoTree => k_is)
    (case bC_NoTree => k_is)
    (case gD_NoTree => k_is)
    (case tC_NoSign => k_is)
    (case bC_NoSign => k_is)
    (case gD_NoSign => k_is)
    (case tC_NothingTaken => k_is)
    (case bC_NothingTaken => k_is)
    (case gD_NothingTaken => k_is)
    (case tC_NoBits => k_is)
    (case bC_NoBits => k_is)
    (case gD_NoBits => k_is)
    (case tC_NoPress => k_is)
    (case bC_NoPress => k_is)
    (case gD_NoPress => k_is)
    (case tC_NoPacket => k_is)
    (case bC_NoPacket => k_is)
    (case gD_NoPacket => k_is)
    (case tC_NoRow => k_is)
    (case bC_NoRow => k_is)
    (case gD_NoRow => k_is)
    (case tC_NoName => k_is)
    (case bC_NoName => k_is)
    (case gD_NoName => k_is)
    (case tC_NoNumber => k_is)
    (case bC_NoNumber => k_is)
    (case gD_NoNumber => k_is)
    (case sV_NoText => k_is)
    (case s_NoText_PressError => k_is)
    (case s_NoText_NoFraction => k_is)
    (case s_NoText_NoFrame => k_is)
    (case s_NoText_NoText => first | rfl | k_is)
    (case s_NoText_NoPlace => k_is)
    (case s_NoText_NoKnot => k_is)
    (case s_NoText_NoTree => k_is)
    (case s_NoText_NoSign => k_is)
    (case s_NoText_NothingTaken => k_is)
    (case s_NoText_NoBits => k_is)
    (case s_NoText_NoPress => k_is)
    (case s_NoText_NoPacket => k_is)
    (case s_NoText_NoRow => k_is)
    (case s_NoText_NoName => k_is)
    (case s_NoText_NoNumber => k_is)
    (case sV_NoKnot => k_is)
    (case s_NoKnot_PressError => k_is)
    (case s_NoKnot_NoFraction => k_is)
    (case s_NoKnot_NoFrame => k_is)
    (case s_NoKnot_NoText => k_is)
    (case s_NoKnot_NoPlace => k_is)
    (case s_NoKnot_NoKnot => first | rfl | k_is)
    (case s_NoKnot_NoTree => k_is)
    (case s_NoKnot_NoSign => k_is)
    (case s_NoKnot_NothingTaken => k_is)
    (case s_NoKnot_NoBits => k_is)
    (case s_NoKnot_NoPress => k_is)
    (case s_NoKnot_NoPacket => k_is)
    (case s_NoKnot_NoRow => k_is)
    (case s_NoKnot_NoName => k_is)
    (case s_NoKnot_NoNumber => k_is)
#print axioms PySem.Challenge.cw_boughpress_k12_counts_of_knots_holds


