import PyProof.Rows.All
import HandS.Lambda
import Wide.All
import OpenK.AllK
import Wide.FinOn
import HandS.ForMost
import HandS.Exc
import HandS.TryOnly
import HandS.ExcOwn
import HandS.WordsExc
import HandS.ExcIs
import HandS.IsInst
import HandS.Wide
import HandS.EndBits
import HandS.Codes
import HandS.StrMore
import HandS.TupAny
import HandS.Rev
import HandS.Text
import HandS.WideBits
import HandS.Dict
import HandS.Small
import HandS.Style
import HandS.RevTup
import HandS.Conv
import HandS.More
import PyProof.ListStr
import HandS.Defaults
import PyProof.DictUpdate
import PyProof.Rows.SumAny
import PyProof.Draws
import PyProof.EnumMake
import HandS.CallSlots
import PyProof.Rows.StrPadFill
import PyProof.Rows.StrPadWhole
import PyProof.Laws
import HandS.SortInts
import HandS.ExcCtx
import HandS.SuiteRaise
import HandS.Zip
import KE.GoesMore
import KE.GoesEnum
import HandS.Strs
import PyProof.StrWalks
import KE.DataMinMax
import KE.SortKeyHeap
import HandS.Nested
import HandS.EndTab
import PySem.Challenge.RW_boughpress_k13_whole_knots_part_the_plac
set_option Elab.async false
set_option linter.all false
namespace B
open PySem
/-- the tables of code objects in which lambdas are made, each with the lambda's qualified name -/
def tabs0 : List (Addr × Str) := [((110 : Addr), "in_order.<locals>.<lambda>")]
end B

set_option maxRecDepth 100000
set_option maxHeartbeats 4000000
namespace B
open PySem PySem.Spec PyProof.Rows L2

/-! ### heaps that grow: all stays, tables of code objects may grow -/
class Nt (o : HO) : Prop where
  nt : ∀ ps, o ≠ .tbl ps
instance {xs} : Nt (.lst xs) := ⟨fun _ z => by cases z⟩
instance {xs} : Nt (.tup xs) := ⟨fun _ z => by cases z⟩
instance {xs} : Nt (.dK xs) := ⟨fun _ z => by cases z⟩
instance {xs} : Nt (.dT xs) := ⟨fun _ z => by cases z⟩
instance {x y} : Nt (.set x y) := ⟨fun _ z => by cases z⟩
instance {x y z} : Nt (.ins x y z) := ⟨fun _ z => by cases z⟩
instance {x} : Nt (.own x) := ⟨fun _ z => by cases z⟩
instance {x} : Nt (.xd x) := ⟨fun _ z => by cases z⟩
instance {x y} : Nt (.met x y) := ⟨fun _ z => by cases z⟩
instance {x y} : Nt (.rng x y) := ⟨fun _ z => by cases z⟩
instance {x y} : Nt (.frz x y) := ⟨fun _ z => by cases z⟩
instance {x} : Nt (.ext x) := ⟨fun _ z => by cases z⟩
inductive Cg : HO → Option HO → Prop where
  | eq (o : HO) : Cg o (some o)
  | grow (ps qs : Array Value) : Cg (.tbl ps) (some (.tbl qs))
theorem Cg.e {o : HO} {x : Option HO} [h : Nt o] (c : Cg o x) : x = some o := by
  cases c with
  | eq => rfl
  | grow ps more => exact absurd rfl (h.nt ps)
theorem Cg.of {o : HO} {x : Option HO} (h : x = some o) : Cg o x := by rw [h]; exact .eq o
theorem Cg.mu {o : HO} {x : Option HO} (c : Cg o x) (m : Mut (some o)) : x = some o := by
  cases c with
  | eq => rfl
  | grow ps more => exact m.elim
instance {o : HO} {x : Option HO} [Nt o] : Coe (Cg o x) (x = some o) := ⟨Cg.e⟩
instance {o : HO} {x : Option HO} : Coe (x = some o) (Cg o x) := ⟨Cg.of⟩
theorem Cg.tr {o : HO} {x : Option HO} {y : Option HO} (c : Cg o x) (d : ∀ u, x = some u → Cg u y) : Cg o y := by
  cases c with
  | eq => exact d _ rfl
  | grow ps qs =>
    have := d _ rfl
    cases this with
    | eq => exact .grow ps qs
    | grow _ rs => exact .grow ps rs
theorem Cg.swap {u w : HO} {y : Option HO} (c : Cg u y) (d : Cg w y) : Cg u (some w) := by
  cases c with
  | eq => cases d with
    | eq => exact .eq _
    | grow ps qs => exact .grow qs ps
  | grow ps qs => cases d with
    | eq => exact .grow ps qs
    | grow rs _ => exact .grow ps rs
theorem Cg.nm {u w : HO} (c : Cg u (some w)) (n : ¬ Mut (some u)) : ¬ Mut (some w) := by
  cases c with
  | eq => exact n
  | grow ps qs => exact fun z => z
def Same (H H' : Hp) : Prop := ∀ b o, H b = some o → Cg o (H' b)
theorem Same.of {H H' : Hp} (s : L2.Same H H') : Same H H' := fun b o e => Cg.of (s b o e)
theorem Same.refl (H : Hp) : Same H H := fun _ _ h => Cg.of h
theorem Same.trans {H H1 H2 : Hp} (a : Same H H1) (b : Same H1 H2) : Same H H2 := fun c o h => (a c o h).tr fun u e => b c u e
theorem Same.free {H H' : Hp} (e : Same H H') {l : Addr} (h : H' l = Option.none) : H l = Option.none := by
  cases q : H l with
  | none => rfl
  | some o =>
    have := e l o q
    rw [h] at this
    cases this
theorem Same.seq {K : PySem.W.Frag} {H H' : Hp} {a : Addr} {xs : List V} (e : Same H H') (h : SqL K H a xs) : SqL K H' a xs := by
  rcases h with (h | ⟨o, h⟩) | h
  · exact .inl (.inl (e _ _ h).e)
  · exact .inl (.inr ⟨o, (e _ _ h).e⟩)
  · exact .inr h
/-- the tables of code objects are good ones -/
def Tk (H : Hp) : Prop := ∀ p ∈ tabs0, ∀ ps, H p.1 = some (.tbl ps) → LamX.TabS H p.1 p.2
/-- .. and they are known -/
def Ts (H : Hp) : Prop := ∀ p ∈ tabs0, ∃ ps, H p.1 = some (.tbl ps)
theorem Tk.fresh {H : Hp} {p : Addr} {o : HO} [n : Nt o] (T : Tk H) (h : H p = none) : Tk (upd H p o) := fun x hx ps e => by
  by_cases q : x.1 = p
  · rw [q, upd_same] at e
    exact absurd (Option.some.inj e) (n.nt ps)
  · rw [upd_ne q] at e
    exact (T x hx ps e).ext fun b u z => by rw [upd_ne (ne_of_none z h)]; exact z
/-- neither a table nor a thing told by what is true of it -/
class Nx (o : HO) : Prop where
  nx : (∀ ps, o ≠ .tbl ps) ∧ ∀ φ, o ≠ .ext φ
instance {xs} : Nx (.lst xs) := ⟨(fun _ z => by cases z), fun _ z => by cases z⟩
instance {xs} : Nx (.tup xs) := ⟨(fun _ z => by cases z), fun _ z => by cases z⟩
instance {xs} : Nx (.dK xs) := ⟨(fun _ z => by cases z), fun _ z => by cases z⟩
instance {xs} : Nx (.dT xs) := ⟨(fun _ z => by cases z), fun _ z => by cases z⟩
instance {x y} : Nx (.set x y) := ⟨(fun _ z => by cases z), fun _ z => by cases z⟩
instance {x y z} : Nx (.ins x y z) := ⟨(fun _ z => by cases z), fun _ z => by cases z⟩
instance {x} : Nx (.own x) := ⟨(fun _ z => by cases z), fun _ z => by cases z⟩
instance {x y} : Nx (.frz x y) := ⟨(fun _ z => by cases z), fun _ z => by cases z⟩
theorem Tk.upd {H : Hp} {p : Addr} {o u : HO} [n : Nx u] [m : Nt o] (T : Tk H) (h : H p = some u) : Tk (upd H p o) := fun x hx ps0 e0 => by
  have ne : ∀ {d : Addr} {w : HO}, H d = some w → ((∃ ps, w = .tbl ps) ∨ ∃ φ, w = .ext φ) → d ≠ p := fun {d w} e k q => by
    rw [q, h] at e
    cases e
    rcases k with ⟨_, k⟩ | ⟨_, k⟩
    · exact n.nx.1 _ k
    · exact n.nx.2 _ k
  by_cases q : x.1 = p
  · rw [q, upd_same] at e0
    exact absurd (Option.some.inj e0) (m.nt ps0)
  rw [upd_ne q] at e0
  obtain ⟨ps, a, b, c⟩ := T x hx ps0 e0
  refine ⟨ps, by rw [upd_ne q]; exact a, b, fun pos cv hc => ?_⟩
  obtain ⟨d, e1, e2⟩ := c pos cv hc
  exact ⟨d, e1, by rw [upd_ne (ne e2 (.inr ⟨_, rfl⟩))]; exact e2⟩
/-! ### data without the heap -/
inductive Dat where
  | non
  | bl (b : Bool)
  | int (i : Int)
  | str (s : Str)
  | tup (ds : List Dat)
  | lst (ds : List Dat)
  | dic (kvs : List (Key × Dat))
  /-- an instance of the class of that name, its attributes -/
  | ins (n : Str) (fs : List Str) (ds : List Dat)
  /-- a tuple of ints and texts that H tracks by itself: a key -/
  | tix (ks : List Key)
  /-- a dict with such keys -/
  | dit (ks : List (List Key)) (ds : List Dat)

mutual
/-- nothing in it may be changed -/
def flat : Dat → Bool
  | .non => true
  | .bl _ => true
  | .int _ => true
  | .str _ => true
  | .tup ds => flats ds
  | .lst _ => false
  | .dic _ => false
  | .ins _ _ _ => false
  | .tix _ => false
  | .dit _ _ => false
def flats : List Dat → Bool
  | [] => true
  | d :: r => flat d && flats r
end

def kits : List String := ["int", "bool", "str", "tuple", "list", "dict"]
/-- what of the text a class must have, by its name -/
structure KCls (K : PySem.W.Frag) (n : Str) (C : Addr) : Prop where
  at_ : PySem.W.nsIn K mainGlobals n = some (some (.ref C))
  cl : Cls K C
  ha : PySem.W.findIn K (.ref C) "__class__" = some (some (.builtin "object.__class__"))
  hn : PySem.W.specialIn K (.builtin "object.__class__") "__get__" = some (some (.builtin "getset_descriptor.__get__"))
  htk : PySem.W.takesIn K (.builtin "object.__class__") = some true
  hm : PySem.W.mroIn K C (.type "object") = some true
  ki : ∀ T, kits.contains T = true → PySem.W.kitOne K (.ref C) (.type T) = some false
mutual
inductive At (K : PySem.W.Frag) (H : Hp) : V → Dat → Prop where
  | non : At K H .non .non
  | bl (b : Bool) : At K H (.bl b) (.bl b)
  | int (i : Int) : At K H (.int i) (.int i)
  | str (s : Str) : At K H (.str s) (.str s)
  | tup {p : Addr} {vs : List V} {ds : List Dat} : SqT K H p vs → Ats K H vs ds → At K H (.ref p) (.tup ds)
  | lst {p : Addr} {vs : List V} {ds : List Dat} : SqL K H p vs → Ats K H vs ds → At K H (.ref p) (.lst ds)
  | dic {p : Addr} {vs : List (Key × V)} {ds : List (Key × Dat)} : Rd H p (.dK vs) → Atk K H vs ds → At K H (.ref p) (.dic ds)
  | ins {p C dx : Addr} {n : Str} {fs : List Str} {vs : List V} {ds : List Dat} : H p = some (.ins C dx (fs.zip vs)) → KCls K n C → (∀ f ∈ fs, NoAttr K C f) → fs.length = ds.length → Ats K H vs ds → At K H (.ref p) (.ins n fs ds)
  | tix {p : Addr} {ks : List Key} : H p = some (.tup (ks.map kV)) → At K H (.ref p) (.tix ks)
  | dit {p : Addr} {ks : List (List Key)} {vs : List V} {ds : List Dat} : Rd H p (.dT (ks.zip vs)) → ks.length = ds.length → Ats K H vs ds → At K H (.ref p) (.dit ks ds)
inductive Ats (K : PySem.W.Frag) (H : Hp) : List V → List Dat → Prop where
  | nil : Ats K H [] []
  | cons {v : V} {d : Dat} {vs : List V} {ds : List Dat} : At K H v d → Ats K H vs ds → Ats K H (v :: vs) (d :: ds)
inductive Atk (K : PySem.W.Frag) (H : Hp) : List (Key × V) → List (Key × Dat) → Prop where
  | nil : Atk K H [] []
  | cons {k : Key} {v : V} {d : Dat} {vs : List (Key × V)} {ds : List (Key × Dat)} : At K H v d → Atk K H vs ds → Atk K H ((k, v) :: vs) ((k, d) :: ds)
end

theorem sql_same {K : PySem.W.Frag} {H H' : Hp} {a : Addr} {xs : List V} (e : Same H H') (h : SqL K H a xs) : SqL K H' a xs := e.seq h
theorem sqt_same {K : PySem.W.Frag} {H H' : Hp} {a : Addr} {xs : List V} (e : Same H H') (h : SqT K H a xs) : SqT K H' a xs := by
  rcases h with (h | ⟨o, h⟩) | h
  · exact .inl (.inl (e _ _ h))
  · exact .inl (.inr ⟨o, e _ _ h⟩)
  · exact .inr h

theorem rd_same {H H' : Hp} {a : Addr} {u : HO} [Nt u] (e : Same H H') (h : Rd H a u) : Rd H' a u := by
  rcases h with h | ⟨o, h⟩
  · exact .inl (e _ _ h).e
  · exact .inr ⟨o, (e _ _ h).e⟩
mutual
theorem At.mono {K : PySem.W.Frag} {H H' : Hp} (e : Same H H') : ∀ {v : V} {d : Dat}, At K H v d → At K H' v d
  | _, _, .non => .non
  | _, _, .bl b => .bl b
  | _, _, .int i => .int i
  | _, _, .str s => .str s
  | _, _, .tup h t => .tup (sqt_same e h) (Ats.mono e t)
  | _, _, .lst h t => .lst (sql_same e h) (Ats.mono e t)
  | _, _, .dic h t => .dic (rd_same e h) (Atk.mono e t)
  | _, _, .ins h c a l t => .ins (e _ _ h).e c a l (Ats.mono e t)
  | _, _, .tix h => .tix (e _ _ h).e
  | _, _, .dit h l t => .dit (rd_same e h) l (Ats.mono e t)
theorem Ats.mono {K : PySem.W.Frag} {H H' : Hp} (e : Same H H') : ∀ {vs : List V} {ds : List Dat}, Ats K H vs ds → Ats K H' vs ds
  | _, _, .nil => .nil
  | _, _, .cons a t => .cons (At.mono e a) (Ats.mono e t)
theorem Atk.mono {K : PySem.W.Frag} {H H' : Hp} (e : Same H H') : ∀ {vs : List (Key × V)} {ds : List (Key × Dat)}, Atk K H vs ds → Atk K H' vs ds
  | _, _, .nil => .nil
  | _, _, .cons a t => .cons (At.mono e a) (Atk.mono e t)
end

open Classical in
/-- what of a heap no one can change -/
noncomputable def Imm (H : Hp) : Hp := fun a => if Mut (H a) then none else H a
theorem imm_eq {H : Hp} {a : Addr} {o : HO} (h : Imm H a = some o) : H a = some o := by
  unfold Imm at h
  split at h
  · cases h
  · exact h
theorem imm_sub (H : Hp) : Same (Imm H) H := fun a o h => Cg.of (imm_eq h)
theorem imm_of {H : Hp} {a : Addr} {o : HO} (h : H a = some o) (n : ¬ Mut (some o)) : Imm H a = some o := by
  unfold Imm
  rw [if_neg (by rw [h]; exact n)]
  exact h
theorem imm_not {H : Hp} {a : Addr} {o : HO} (h : Imm H a = some o) : ¬ Mut (some o) := by
  intro m
  have e := imm_eq h
  unfold Imm at h
  rw [if_pos (by rw [e]; exact m)] at h
  cases h
theorem imm_same {H H' : Hp} (e : Same H H') : Same (Imm H) (Imm H') := fun a o h => by
  have n := imm_not h
  have c := e a o (imm_eq h)
  generalize q : H' a = x at c
  cases c with
  | eq => exact Cg.of (imm_of q n)
  | grow ps qs => rw [imm_of q (fun z => z)]; exact .grow ps qs
theorem sqt_imm {K : PySem.W.Frag} {H : Hp} {a : Addr} {xs : List V} (h : SqT K H a xs) : SqT K (Imm H) a xs := by
  rcases h with (h | ⟨o, h⟩) | h
  · exact .inl (.inl (imm_of h fun z => z))
  · exact .inl (.inr ⟨o, imm_of h fun z => z⟩)
  · exact .inr h
mutual
theorem At.imm {K : PySem.W.Frag} {H : Hp} : ∀ {v : V} {d : Dat}, At K H v d → flat d = true → At K (Imm H) v d
  | _, _, .non, _ => .non
  | _, _, .bl b, _ => .bl b
  | _, _, .int i, _ => .int i
  | _, _, .str s, _ => .str s
  | _, _, .tup h t, f => .tup (sqt_imm h) (Ats.imm t (by simpa only [flat] using f))
  | _, _, .lst _ _, f => by simp [flat] at f
  | _, _, .dic _ _, f => by simp [flat] at f
  | _, _, .ins _ _ _ _ _, f => by simp [flat] at f
  | _, _, .tix _, f => by simp [flat] at f
  | _, _, .dit _ _ _, f => by simp [flat] at f
theorem Ats.imm {K : PySem.W.Frag} {H : Hp} : ∀ {vs : List V} {ds : List Dat}, Ats K H vs ds → flats ds = true → Ats K (Imm H) vs ds
  | _, _, .nil, _ => .nil
  | _, _, .cons a t, f => by
    simp only [flats, Bool.and_eq_true] at f
    exact .cons (At.imm a f.1) (Ats.imm t f.2)
end
theorem Ats.length {K : PySem.W.Frag} {H : Hp} : ∀ {vs : List V} {ds : List Dat}, Ats K H vs ds → vs.length = ds.length
  | _, _, .nil => rfl
  | _, _, .cons _ t => by rw [List.length_cons, List.length_cons, Ats.length t]
theorem Ats.get {K : PySem.W.Frag} {H : Hp} : ∀ {vs : List V} {ds : List Dat} {i : Nat} {d : Dat}, Ats K H vs ds → ds[i]? = some d → ∃ v, vs[i]? = some v ∧ At K H v d
  | _, _, i, _, .nil, e => by simp at e
  | _, _, 0, _, .cons a _, e => by
    simp at e
    subst e
    exact ⟨_, rfl, a⟩
  | _, _, i + 1, d, .cons _ t, e => by
    obtain ⟨v, h1, h2⟩ := Ats.get (i := i) (d := d) t (by simpa using e)
    exact ⟨v, by simpa using h1, h2⟩
theorem Ats.getV {K : PySem.W.Frag} {H : Hp} : ∀ {vs : List V} {ds : List Dat} {i : Nat} {v : V}, Ats K H vs ds → vs[i]? = some v → ∃ d, ds[i]? = some d ∧ At K H v d
  | _, _, i, _, .nil, e => by simp at e
  | _, _, 0, _, .cons a _, e => by
    simp at e
    subst e
    exact ⟨_, rfl, a⟩
  | _, _, i + 1, d, .cons _ t, e => by
    obtain ⟨v, h1, h2⟩ := Ats.getV (i := i) (v := d) t (by simpa using e)
    exact ⟨v, by simpa using h1, h2⟩
theorem Ats.append {K : PySem.W.Frag} {H : Hp} : ∀ {vs us : List V} {ds es : List Dat}, Ats K H vs ds → Ats K H us es → Ats K H (vs ++ us) (ds ++ es)
  | _, _, _, _, .nil, s => s
  | _, _, _, _, .cons a t, s => .cons a (Ats.append t s)
theorem Ats.set {K : PySem.W.Frag} {H : Hp} {v : V} {d : Dat} (a : At K H v d) : ∀ {vs : List V} {ds : List Dat} (i : Nat), Ats K H vs ds → Ats K H (vs.set i v) (ds.set i d)
  | _, _, _, .nil => .nil
  | _, _, 0, .cons _ t => .cons a t
  | _, _, i + 1, .cons b t => .cons b (Ats.set a i t)
theorem Ats.take {K : PySem.W.Frag} {H : Hp} : ∀ {vs : List V} {ds : List Dat} (n : Nat), Ats K H vs ds → Ats K H (vs.take n) (ds.take n)
  | _, _, 0, _ => .nil
  | _, _, _ + 1, .nil => .nil
  | _, _, n + 1, .cons a t => .cons a (Ats.take n t)
theorem Ats.drop {K : PySem.W.Frag} {H : Hp} : ∀ {vs : List V} {ds : List Dat} (n : Nat), Ats K H vs ds → Ats K H (vs.drop n) (ds.drop n)
  | _, _, 0, r => r
  | _, _, _ + 1, .nil => .nil
  | _, _, n + 1, .cons _ t => Ats.drop n t
theorem Ats.ints {K : PySem.W.Frag} {H : Hp} : ∀ {vs : List V} {ns : List Int}, Ats K H vs (ns.map .int) → vs = ns.map .int
  | [], [], _ => rfl
  | _ :: _, n :: ns, .cons a t => by
    cases a
    rw [Ats.ints t]
    rfl
  | [], _ :: _, h => by cases h
  | _ :: _, [], h => by cases h
theorem Ats.ofInts {K : PySem.W.Frag} {H : Hp} : ∀ (ns : List Int), Ats K H (ns.map .int) (ns.map .int)
  | [] => .nil
  | n :: ns => .cons (.int n) (Ats.ofInts ns)

/-! ### what a def's names hold -/
inductive Ent where
  /-- no value, or one that is not asked for -/
  | no
  /-- data that nobody changes -/
  | im (d : Dat)
  /-- handed in: stands as it was at the entry -/
  | ol (d : Dat)
  /-- a list or dict of the def's own, that it may change -/
  | ow (d : Dat)
  /-- the thing at that address -/
  | rf (a : Addr)
abbrev Env' := List Ent

def Own (K : PySem.W.Frag) (H N : Hp) (p : Addr) : Dat → Prop
  | .lst ds => ∃ vs, H p = some (.lst vs) ∧ Ats K N vs ds
  | .dic ds => ∃ vs, H p = some (.dK vs) ∧ Atk K N vs ds
  | .dit ks ds => ∃ vs, H p = some (.dT (ks.zip vs)) ∧ ks.length = ds.length ∧ Ats K N vs ds
  | _ => False

structure Rep (K : PySem.W.Frag) (H0 : Hp) (ρ : Env') (σ : L2.St) (H N : Hp) : Prop where
  tab : Tk H
  old : Same H0 H
  sub : Same N H
  imm : Same (Imm H0) N
  fresh : ∀ a o, N a = some o → Mut (some o) → H0 a = none
  len : ρ.length = σ.length
  im : ∀ (i : Nat) d, ρ[i]? = some (Ent.im d) → ∃ v, σ[i]? = some (some v) ∧ At K N v d
  ol : ∀ (i : Nat) d, ρ[i]? = some (Ent.ol d) → ∃ v, σ[i]? = some (some v) ∧ At K H0 v d
  ow : ∀ (i : Nat) d, ρ[i]? = some (Ent.ow d) → ∃ p, σ[i]? = some (some (V.ref p)) ∧ H0 p = none ∧ N p = none ∧ Own K H N p d
  rf : ∀ (i : Nat) a, ρ[i]? = some (Ent.rf a) → σ[i]? = some (some (V.ref a))
  apart : ∀ (i j : Nat) d d' p, i ≠ j → ρ[i]? = some (Ent.ow d) → ρ[j]? = some (Ent.ow d') → σ[i]? = some (some (V.ref p)) → σ[j]? ≠ some (some (V.ref p))

/-- what is handed out: nothing of it was there ahead and may be changed -/
def Ret (K : PySem.W.Frag) (H0 : Hp) (v : V) (d : Dat) (H : Hp) : Prop := Tk H ∧ ∃ N, Same N H ∧ (∀ a o, N a = some o → Mut (some o) → H0 a = none) ∧ At K N v d

/-! ### the machine's own wishes, as readings -/
section
variable (X : Cx)
@[irreducible] def WE (e : Expr) : TE := fun σ H Q => ∀ (pins : List (Addr × Obj)) (s : Shared), Inv X pins σ H s → wpAny (model X.prog X.w) X.A (eval e X.env) (EP X pins σ Q) X.xe s
@[irreducible] def WT (e : Expr) : TT := fun σ H Q => ∀ (pins : List (Addr × Obj)) (s : Shared), Inv X pins σ H s → wpAny (model X.prog X.w) X.A (isTrue e X.env (eval e X.env)) (TP X pins σ Q) X.xe s
@[irreducible] def WW (e : Expr) : TT := fun σ H Q => ∀ (whole : Sem Value) (pins : List (Addr × Obj)) (s : Shared), Inv X pins σ H s → wpAny (model X.prog X.w) X.A (isTrue e X.env whole) (TP X pins σ Q) X.xe s
@[irreducible] def WA (es : List Expr) : TA := fun σ H Q => ∀ (pos : Pos) (pins : List (Addr × Obj)) (s : Shared), Inv X pins σ H s → wpAny (model X.prog X.w) X.A (spliced (backTo pos (starEach es X.env))) (AP X pins σ Q) X.xe s
@[irreducible] def WS (st : Stmt) : TS := fun D σ H => ∀ (pins : List (Addr × Obj)) (s : Shared), Inv X pins σ H s → wpAny (model X.prog X.w) X.A (exec st X.env) (SP X pins D) X.xe s
@[irreducible] def WB (sts : List Stmt) : TS := fun D σ H => ∀ (pins : List (Addr × Obj)) (s : Shared), Inv X pins σ H s → wpAny (model X.prog X.w) X.A (execs sts X.env) (SP X pins D) X.xe s
end
section
variable {X : Cx} {e : Expr} {es : List Expr} {st : Stmt} {sts : List Stmt}
theorem pe_w : PE X e (WE X e) := ⟨fun pins s _ _ _ I h => by unfold WE at h; exact h pins s I⟩
theorem pt_w : PT X e (WT X e) := ⟨fun pins s _ _ _ I h => by unfold WT at h; exact h pins s I⟩
theorem pw_w : PW X e (WW X e) := ⟨fun wh pins s _ _ _ I h => by unfold WW at h; exact h wh pins s I⟩
theorem pa_w : PA X es (WA X es) := ⟨fun pos pins s _ _ _ I h => by unfold WA at h; exact h pos pins s I⟩
theorem ps_w : PS X st (WS X st) := ⟨fun pins s _ _ _ I h => by unfold WS at h; exact h pins s I⟩
theorem pb_w : PSs X sts (WB X sts) := ⟨fun pins s _ _ _ I h => by unfold WB at h; exact h pins s I⟩
theorem WE.go {σ : L2.St} {H : Hp} {Q : VK} (h : WE X e σ H Q) : ∀ (pins : List (Addr × Obj)) (s : Shared), Inv X pins σ H s → wpAny (model X.prog X.w) X.A (eval e X.env) (EP X pins σ Q) X.xe s := by unfold WE at h; exact h
theorem WT.go {σ : L2.St} {H : Hp} {Q : Bool → Hp → Prop} (h : WT X e σ H Q) : ∀ (pins : List (Addr × Obj)) (s : Shared), Inv X pins σ H s → wpAny (model X.prog X.w) X.A (isTrue e X.env (eval e X.env)) (TP X pins σ Q) X.xe s := by unfold WT at h; exact h
theorem WS.go {D : Ends} {σ : L2.St} {H : Hp} (h : WS X st D σ H) : ∀ (pins : List (Addr × Obj)) (s : Shared), Inv X pins σ H s → wpAny (model X.prog X.w) X.A (exec st X.env) (SP X pins D) X.xe s := by unfold WS at h; exact h
theorem WB.go {D : Ends} {σ : L2.St} {H : Hp} (h : WB X sts D σ H) : ∀ (pins : List (Addr × Obj)) (s : Shared), Inv X pins σ H s → wpAny (model X.prog X.w) X.A (execs sts X.env) (SP X pins D) X.xe s := by unfold WB at h; exact h
theorem we_of {t : TE} {σ : L2.St} {H : Hp} {Q : VK} (p : PE X e t) (h : t σ H Q) : WE X e σ H Q := by unfold WE; exact fun pins s I => p.run pins s σ H Q I h
theorem wt_of {t : TT} {σ : L2.St} {H : Hp} {Q : Bool → Hp → Prop} (p : PT X e t) (h : t σ H Q) : WT X e σ H Q := by unfold WT; exact fun pins s I => p.run pins s σ H Q I h
theorem ww_of {t : TT} {σ : L2.St} {H : Hp} {Q : Bool → Hp → Prop} (p : PW X e t) (h : t σ H Q) : WW X e σ H Q := by unfold WW; exact fun wh pins s I => p.run wh pins s σ H Q I h
theorem wa_of {t : TA} {σ : L2.St} {H : Hp} {Q : List V → Hp → Prop} (p : PA X es t) (h : t σ H Q) : WA X es σ H Q := by unfold WA; exact fun pos pins s I => p.run pos pins s σ H Q I h
theorem ws_of {t : TS} {D : Ends} {σ : L2.St} {H : Hp} (p : PS X st t) (h : t D σ H) : WS X st D σ H := by unfold WS; exact fun pins s I => p.run pins s σ H D I h
theorem wb_of {t : TS} {D : Ends} {σ : L2.St} {H : Hp} (p : PSs X sts t) (h : t D σ H) : WB X sts D σ H := by unfold WB; exact fun pins s I => p.run pins s σ H D I h
theorem WE.imp {σ : L2.St} {H : Hp} {Q Q' : VK} (h : WE X e σ H Q) (k : ∀ v H', Q v H' → Q' v H') : WE X e σ H Q' := by unfold WE at h ⊢; exact fun pins s I => thn (h pins s I) fun _ _ ⟨v, H', I', r, q⟩ => ⟨v, H', I', r, k v H' q⟩
theorem WT.imp {σ : L2.St} {H : Hp} {Q Q' : Bool → Hp → Prop} (h : WT X e σ H Q) (k : ∀ v H', Q v H' → Q' v H') : WT X e σ H Q' := by unfold WT at h ⊢; exact fun pins s I => thn (h pins s I) fun _ _ ⟨H', I', q⟩ => ⟨H', I', k _ H' q⟩
theorem WW.imp {σ : L2.St} {H : Hp} {Q Q' : Bool → Hp → Prop} (h : WW X e σ H Q) (k : ∀ v H', Q v H' → Q' v H') : WW X e σ H Q' := by unfold WW at h ⊢; exact fun wh pins s I => thn (h wh pins s I) fun _ _ ⟨H', I', q⟩ => ⟨H', I', k _ H' q⟩
theorem WW.wt {σ : L2.St} {H : Hp} {Q : Bool → Hp → Prop} (h : WW X e σ H Q) : WT X e σ H Q := by unfold WW at h; unfold WT; exact fun pins s I => h _ pins s I
theorem WA.imp {σ : L2.St} {H : Hp} {Q Q' : List V → Hp → Prop} (h : WA X es σ H Q) (k : ∀ v H', Q v H' → Q' v H') : WA X es σ H Q' := by unfold WA at h ⊢; exact fun pos pins s I => thn (h pos pins s I) fun _ _ ⟨v, H', I', r, q⟩ => ⟨v, H', I', r, k v H' q⟩
theorem sp_imp {pins : List (Addr × Obj)} {D D' : Ends} {f : Flow} {s : Shared} (h : SP X pins D f s) (h1 : ∀ σ H, D.nx σ H → D'.nx σ H) (h2 : ∀ v H, D.rt v H → D'.rt v H) (h3 : ∀ σ H, D.bk σ H → D'.bk σ H) (h4 : ∀ σ H, D.ct σ H → D'.ct σ H) : SP X pins D' f s := by
  cases f with
  | next => obtain ⟨σ', H', I, q⟩ := h; exact ⟨σ', H', I, h1 _ _ q⟩
  | brk => obtain ⟨σ', H', I, q⟩ := h; exact ⟨σ', H', I, h3 _ _ q⟩
  | cont => obtain ⟨σ', H', I, q⟩ := h; exact ⟨σ', H', I, h4 _ _ q⟩
  | ret u => obtain ⟨v, σ', H', I, r, q⟩ := h; exact ⟨v, σ', H', I, r, h2 _ _ q⟩
end

/-! ### what an expression is worth -/
section
variable (X : Cx) (H0 : Hp) (ρ : Env')
/-- data that nobody changes -/
def Ev (e : Expr) (d : Dat) : Prop := ∀ σ H N, Rep X.K H0 ρ σ H N → WE X e σ H fun v H' => ∃ N', Same H H' ∧ Same N N' ∧ Rep X.K H0 ρ σ H' N' ∧ At X.K N' v d
/-- data to be read -/
def EvB (e : Expr) (d : Dat) : Prop := ∀ σ H N, Rep X.K H0 ρ σ H N → WE X e σ H fun v H' => ∃ N', Same H H' ∧ Same N N' ∧ Rep X.K H0 ρ σ H' N' ∧ At X.K H' v d
def EvT (e : Expr) (b : Bool) : Prop := ∀ σ H N, Rep X.K H0 ρ σ H N → WT X e σ H fun c H' => c = b ∧ ∃ N', Same H H' ∧ Same N N' ∧ Rep X.K H0 ρ σ H' N'
def EvW (e : Expr) (b : Bool) : Prop := ∀ σ H N, Rep X.K H0 ρ σ H N → WW X e σ H fun c H' => c = b ∧ ∃ N', Same H H' ∧ Same N N' ∧ Rep X.K H0 ρ σ H' N'
def EvA (es : List Expr) (ds : List Dat) : Prop := ∀ σ H N, Rep X.K H0 ρ σ H N → WA X es σ H fun vs H' => ∃ N', Same H H' ∧ Same N N' ∧ Rep X.K H0 ρ σ H' N' ∧ Ats X.K N' vs ds
def EvAB (es : List Expr) (ds : List Dat) : Prop := ∀ σ H N, Rep X.K H0 ρ σ H N → WA X es σ H fun vs H' => ∃ N', Same H H' ∧ Same N N' ∧ Rep X.K H0 ρ σ H' N' ∧ Ats X.K H' vs ds
/-- it raises the class of that name -/
def EvX (e : Expr) (n : Str) : Prop := ∀ σ H N, Rep X.K H0 ρ σ H N → ∀ W : WX, Takes X W → (∀ C H' N', X.mg n = some (.ref C) → Same N N' → Rep X.K H0 ρ σ H' N' → W (.ref C) none σ H') → ∀ Q, WE X e σ H Q
end
theorem Same.of_none {H : Hp} {p : Addr} {o : HO} (h : H p = none) : Same H (upd H p o) := fun b u e => by
  rw [upd_ne (ne_of_none e h)]
  exact Cg.of e
/-- the heap grows by a thing that nobody asks for -/
theorem Rep.grow {K : PySem.W.Frag} {H0 H N H' : Hp} {ρ : Env'} {σ : L2.St} (r : Rep K H0 ρ σ H N) (e : Same H H') (tk : Tk H') : Rep K H0 ρ σ H' N where
  tab := tk
  old := r.old.trans e
  sub := r.sub.trans e
  imm := r.imm
  fresh := r.fresh
  len := r.len
  im := r.im
  ol := r.ol
  ow := fun i d h => by
    obtain ⟨p, h1, h2, h3, h4⟩ := r.ow i d h
    refine ⟨p, h1, h2, h3, ?_⟩
    cases d with
    | lst ds =>
      obtain ⟨vs, q1, q2⟩ := h4
      exact ⟨vs, e _ _ q1, q2⟩
    | dic ds =>
      obtain ⟨vs, q1, q2⟩ := h4
      exact ⟨vs, e _ _ q1, q2⟩
    | dit ks ds =>
      obtain ⟨vs, q1, ql, q2⟩ := h4
      exact ⟨vs, e _ _ q1, ql, q2⟩
    | _ => exact h4
  rf := r.rf
  apart := r.apart
/-- more of the heap is data that nobody changes -/
theorem Rep.more {K : PySem.W.Frag} {H0 H N N' : Hp} {ρ : Env'} {σ : L2.St} (r : Rep K H0 ρ σ H N) (e : Same N N') (sub : Same N' H) (fresh : ∀ a o, N' a = some o → Mut (some o) → H0 a = none)
    (own : ∀ (i : Nat) d p, ρ[i]? = some (Ent.ow d) → σ[i]? = some (some (V.ref p)) → N p = none → N' p = none) : Rep K H0 ρ σ H N' where
  tab := r.tab
  old := r.old
  sub := sub
  imm := r.imm.trans e
  fresh := fresh
  len := r.len
  im := fun i d h => by
    obtain ⟨v, h1, h2⟩ := r.im i d h
    exact ⟨v, h1, h2.mono e⟩
  ol := r.ol
  ow := fun i d h => by
    obtain ⟨p, h1, h2, h3, h4⟩ := r.ow i d h
    refine ⟨p, h1, h2, own i d p h h1 h3, ?_⟩
    cases d with
    | lst ds =>
      obtain ⟨vs, q1, q2⟩ := h4
      exact ⟨vs, q1, q2.mono e⟩
    | dic ds =>
      obtain ⟨vs, q1, q2⟩ := h4
      exact ⟨vs, q1, q2.mono e⟩
    | dit ks ds =>
      obtain ⟨vs, q1, ql, q2⟩ := h4
      exact ⟨vs, q1, ql, q2.mono e⟩
    | _ => exact h4
  rf := r.rf
  apart := r.apart
/-- an owned thing stands in the heap -/
theorem Rep.own_some {K : PySem.W.Frag} {H0 H N : Hp} {ρ : Env'} {σ : L2.St} (r : Rep K H0 ρ σ H N) {i : Nat} {d : Dat} (h : ρ[i]? = some (Ent.ow d)) : ∃ p o, σ[i]? = some (some (V.ref p)) ∧ H p = some o ∧ Mut (some o) := by
  obtain ⟨p, h1, _, _, h4⟩ := r.ow i d h
  cases d with
  | lst ds =>
    obtain ⟨vs, q1, _⟩ := h4
    exact ⟨p, _, h1, q1, True.intro⟩
  | dic ds =>
    obtain ⟨vs, q1, _⟩ := h4
    exact ⟨p, _, h1, q1, True.intro⟩
  | dit ks ds =>
    obtain ⟨vs, q1, _⟩ := h4
    exact ⟨p, _, h1, q1, True.intro⟩
  | _ => exact h4.elim
/-- something new comes, that nobody changes -/
theorem Rep.new {K : PySem.W.Frag} {H0 H N : Hp} {ρ : Env'} {σ : L2.St} (r : Rep K H0 ρ σ H N) {p : Addr} {o : HO} [Nt o] (hp : H p = none) : Rep K H0 ρ σ (upd H p o) (upd N p o) ∧ Same N (upd N p o) := by
  have np : N p = none := r.sub.free hp
  have e : Same N (upd N p o) := Same.of_none np
  refine ⟨(r.grow (Same.of_none hp) (r.tab.fresh hp)).more e (fun b u h => ?_) (fun b u h m => ?_) (fun i d q h1 h2 h3 => ?_), e⟩
  · by_cases hb : b = p
    · subst hb; rw [upd_same] at h ⊢; exact Cg.of h
    · rw [upd_ne hb] at h ⊢; exact r.sub b u h
  · by_cases hb : b = p
    · subst hb; exact r.old.free hp
    · rw [upd_ne hb] at h; exact r.fresh b u h m
  · obtain ⟨p', o', e1, e2, _⟩ := r.own_some h1
    rw [h2] at e1
    cases e1
    rw [upd_ne (ne_of_none e2 hp)]
    exact h3
open Classical in
/-- two heaps of data, one beside the other -/
noncomputable def both (N M : Hp) : Hp := fun a => if N a = none then M a else N a
theorem both_l (N M : Hp) : Same N (both N M) := fun a o h => by
  unfold both
  rw [if_neg (by rw [h]; exact fun z => nomatch z)]
  exact Cg.of h
theorem both_sub {N M H : Hp} (a : Same N H) (b : Same M H) : Same (both N M) H := fun x o h => by
  unfold both at h
  split at h
  · exact b x o h
  · exact a x o h
theorem both_r {N M H : Hp} (a : Same N H) (b : Same M H) : Same M (both N M) := fun x o h => by
  unfold both
  split
  · exact Cg.of h
  · rename_i q
    cases e : N x with
    | none => exact (q e).elim
    | some u =>
      have c1 := a x u e
      have c2 := b x o h
      generalize H x = y at c1 c2
      cases c2 with
      | eq =>
        cases c1 with
        | eq => exact .eq o
        | grow ps qs => exact .grow qs ps
      | grow ps qs =>
        cases c1 with
        | eq => exact .grow ps qs
        | grow rs _ => exact .grow ps rs
/-- what a call hands out is data that nobody changes -/
theorem Rep.ret {K : PySem.W.Frag} {H0 H N H' : Hp} {ρ : Env'} {σ : L2.St} {v : V} {d : Dat} (r : Rep K H0 ρ σ H N) (e : Same H H') (h : Ret K H v d H') : ∃ N', Same N N' ∧ Rep K H0 ρ σ H' N' ∧ At K N' v d := by
  obtain ⟨tk, M, m1, m2, m3⟩ := h
  have r' := r.grow e tk
  refine ⟨both N M, both_l N M, r'.more (both_l N M) (both_sub r'.sub m1) (fun a o h m => ?_) (fun i d q h1 h2 h3 => ?_), m3.mono (both_r r'.sub m1)⟩
  · unfold both at h
    split at h
    · exact r.old.free (m2 a o h m)
    · exact r.fresh a o h m
  · unfold both
    rw [if_pos h3]
    obtain ⟨p', o', e1, e2, m⟩ := r.own_some h1
    rw [h2] at e1
    cases e1
    cases z : M q with
    | none => rfl
    | some u =>
      have e3 := m1 q u z
      have e4 := e _ _ e2
      generalize H' q = y at e3 e4
      have e5 : y = some o' := e4.mu m
      subst e5
      cases e3 with
      | eq =>
        have := m2 q _ z m
        rw [e2] at this
        cases this
      | grow ps qs => exact m.elim

/-! ### a name is given a value -/
theorem get_set {α : Type} {l : List α} {i j : Nat} {x y : α} (h : (l.set i x)[j]? = some y) : (j = i ∧ y = x) ∨ (j ≠ i ∧ l[j]? = some y) := by
  by_cases e : i = j
  · subst e
    by_cases hi : i < l.length
    · rw [List.getElem?_set_self hi] at h
      exact .inl ⟨rfl, (Option.some.inj h).symm⟩
    · rw [List.getElem?_eq_none (by rw [List.length_set]; omega)] at h
      cases h
  · rw [List.getElem?_set_ne e] at h
    exact .inr ⟨fun z => e z.symm, h⟩
theorem lt_of_get {α : Type} {l : List α} {i : Nat} {y : α} (h : l[i]? = some y) : i < l.length := (List.getElem?_eq_some_iff.mp h).1
/-- what holds of the value that entry i is to have -/
def EntOk (K : PySem.W.Frag) (H0 H N : Hp) (σ : L2.St) (ρ : Env') (i : Nat) (v : V) : Ent → Prop
  | .no => True
  | .im d => At K N v d
  | .ol d => At K H0 v d
  | .ow d => ∃ p, v = .ref p ∧ H0 p = none ∧ N p = none ∧ Own K H N p d ∧ ∀ j d', j ≠ i → ρ[j]? = some (.ow d') → σ[j]? ≠ some (some (V.ref p))
  | .rf a => v = .ref a
theorem Rep.setE {K : PySem.W.Frag} {H0 H N : Hp} {ρ : Env'} {σ : L2.St} (r : Rep K H0 ρ σ H N) {i : Nat} {v : V} {e : Ent} (h : EntOk K H0 H N σ ρ i v e) : Rep K H0 (ρ.set i e) (σ.set i (some v)) H N where
  tab := r.tab
  old := r.old
  sub := r.sub
  imm := r.imm
  fresh := r.fresh
  len := by rw [List.length_set, List.length_set, r.len]
  im := fun j d q => by
    have hj := lt_of_get q
    rcases get_set q with ⟨rfl, q'⟩ | ⟨n, q'⟩
    · subst q'
      rw [List.length_set, r.len] at hj
      exact ⟨v, List.getElem?_set_self hj, h⟩
    · obtain ⟨u, h1, h2⟩ := r.im j d q'
      exact ⟨u, by rw [List.getElem?_set_ne (Ne.symm n)]; exact h1, h2⟩
  ol := fun j d q => by
    have hj := lt_of_get q
    rcases get_set q with ⟨rfl, q'⟩ | ⟨n, q'⟩
    · subst q'
      rw [List.length_set, r.len] at hj
      exact ⟨v, List.getElem?_set_self hj, h⟩
    · obtain ⟨u, h1, h2⟩ := r.ol j d q'
      exact ⟨u, by rw [List.getElem?_set_ne (Ne.symm n)]; exact h1, h2⟩
  ow := fun j d q => by
    have hj := lt_of_get q
    rcases get_set q with ⟨rfl, q'⟩ | ⟨n, q'⟩
    · subst q'
      rw [List.length_set, r.len] at hj
      obtain ⟨p, rfl, h1, h2, h3, _⟩ := h
      exact ⟨p, List.getElem?_set_self hj, h1, h2, h3⟩
    · obtain ⟨u, h1, h2⟩ := r.ow j d q'
      exact ⟨u, by rw [List.getElem?_set_ne (Ne.symm n)]; exact h1, h2⟩
  rf := fun j a q => by
    have hj := lt_of_get q
    rcases get_set q with ⟨rfl, q'⟩ | ⟨n, q'⟩
    · subst q'
      rw [List.length_set, r.len] at hj
      have e : v = .ref a := h
      rw [List.getElem?_set_self hj, e]
    · rw [List.getElem?_set_ne (Ne.symm n)]
      exact r.rf j a q'
  apart := fun j k d d' p ne q1 q2 z1 z2 => by
    rcases get_set q1 with ⟨rfl, e1⟩ | ⟨n1, q1'⟩
    · subst e1
      rcases get_set q2 with ⟨rfl, e2⟩ | ⟨n2, q2'⟩
      · exact ne rfl
      · obtain ⟨p', rfl, _, _, _, h4⟩ := h
        rcases get_set z1 with ⟨_, z1'⟩ | ⟨n3, _⟩
        · cases z1'
          rw [List.getElem?_set_ne (Ne.symm n2)] at z2
          exact h4 k d' n2 q2' z2
        · exact n3 rfl
    · rw [List.getElem?_set_ne (Ne.symm n1)] at z1
      rcases get_set q2 with ⟨rfl, e2⟩ | ⟨n2, q2'⟩
      · subst e2
        obtain ⟨p', rfl, _, _, _, h4⟩ := h
        rcases get_set z2 with ⟨_, z2'⟩ | ⟨n3, _⟩
        · cases z2'
          exact h4 j d n1 q1' z1
        · exact n3 rfl
      · rw [List.getElem?_set_ne (Ne.symm n2)] at z2
        exact r.apart j k d d' p ne q1' q2' z1 z2
/-- an owned thing is changed in place -/
theorem Rep.write {K : PySem.W.Frag} {H0 H N : Hp} {ρ : Env'} {σ : L2.St} (r : Rep K H0 ρ σ H N) {i : Nat} {p : Addr} {d d' : Dat} {o : HO} (hi : ρ[i]? = some (.ow d)) (hp : σ[i]? = some (some (V.ref p))) (ho : Own K (upd H p o) N p d') : Rep K H0 (ρ.set i (.ow d')) σ (upd H p o) N := by
  obtain ⟨p', q1, q2, q3, q4⟩ := r.ow i d hi
  rw [hp] at q1
  cases q1
  have hl := lt_of_get hi
  have nto : Nt o := by
    cases d' with
    | lst _ => obtain ⟨vs, w1, _⟩ := ho; rw [upd_same] at w1; cases w1; infer_instance
    | dic _ => obtain ⟨vs, w1, _⟩ := ho; rw [upd_same] at w1; cases w1; infer_instance
    | dit _ _ => obtain ⟨vs, w1, _⟩ := ho; rw [upd_same] at w1; cases w1; infer_instance
    | _ => exact ho.elim
  have tk : Tk (upd H p o) := by
    cases d with
    | lst _ => obtain ⟨vs, w1, _⟩ := q4; exact r.tab.upd w1
    | dic _ => obtain ⟨vs, w1, _⟩ := q4; exact r.tab.upd w1
    | dit _ _ => obtain ⟨vs, w1, _⟩ := q4; exact r.tab.upd w1
    | _ => exact q4.elim
  refine ⟨tk, fun b u e => ?_, fun b u e => ?_, r.imm, r.fresh, by rw [List.length_set, r.len], fun j x q => ?_, fun j x q => ?_, fun j x q => ?_, fun j x q => ?_, fun j k x y z ne a b c => ?_⟩
  · rw [upd_ne (ne_of_none e q2)]
    exact r.old b u e
  · rw [upd_ne (ne_of_none e q3)]
    exact r.sub b u e
  · rcases get_set q with ⟨_, q'⟩ | ⟨_, q'⟩
    · cases q'
    · exact r.im j x q'
  · rcases get_set q with ⟨_, q'⟩ | ⟨_, q'⟩
    · cases q'
    · exact r.ol j x q'
  · rcases get_set q with ⟨rfl, q'⟩ | ⟨n, q'⟩
    · cases q'
      exact ⟨p, hp, q2, q3, ho⟩
    · obtain ⟨t, t1, t2, t3, t4⟩ := r.ow j x q'
      have tp : t ≠ p := by
        rintro rfl
        exact r.apart i j d x t (Ne.symm n) hi q' hp t1
      refine ⟨t, t1, t2, t3, ?_⟩
      cases x with
      | lst ds =>
        obtain ⟨vs, w1, w2⟩ := t4
        exact ⟨vs, by rw [upd_ne tp]; exact w1, w2⟩
      | dic ds =>
        obtain ⟨vs, w1, w2⟩ := t4
        exact ⟨vs, by rw [upd_ne tp]; exact w1, w2⟩
      | dit ks ds =>
        obtain ⟨vs, w1, ql, w2⟩ := t4
        exact ⟨vs, by rw [upd_ne tp]; exact w1, ql, w2⟩
      | _ => exact t4
  · rcases get_set q with ⟨_, q'⟩ | ⟨_, q'⟩
    · cases q'
    · exact r.rf j x q'
  · have own : ∀ {m : Nat} {w : Dat}, (ρ.set i (Ent.ow d'))[m]? = some (.ow w) → ∃ w', ρ[m]? = some (.ow w') := fun {m w} h => by
      rcases get_set h with ⟨rfl, _⟩ | ⟨_, h'⟩
      · exact ⟨_, hi⟩
      · exact ⟨_, h'⟩
    obtain ⟨x', a'⟩ := own a
    obtain ⟨y', b'⟩ := own b
    exact r.apart j k x' y' z ne a' b' c
/-- an owned thing is given out of hand: from now on nobody changes it -/
theorem Rep.freeze {K : PySem.W.Frag} {H0 H N : Hp} {ρ : Env'} {σ : L2.St} (r : Rep K H0 ρ σ H N) {p : Addr} {d : Dat} (h0 : H0 p = none) (hn : N p = none) (ho : Own K H N p d) (hx : ∀ (j : Nat) d', ρ[j]? = some (Ent.ow d') → σ[j]? ≠ some (some (V.ref p))) :
    ∃ N', Same N N' ∧ Rep K H0 ρ σ H N' ∧ At K N' (.ref p) d := by
  have go : ∀ o, H p = some o → Rep K H0 ρ σ H (upd N p o) ∧ Same N (upd N p o) := fun o e => by
    have s : Same N (upd N p o) := Same.of_none hn
    refine ⟨r.more s (fun b u q => ?_) (fun b u q m => ?_) (fun j x q a1 a2 a3 => ?_), s⟩
    · by_cases hb : b = p
      · subst hb; rw [upd_same] at q; rw [e]; exact Cg.of q
      · rw [upd_ne hb] at q; exact r.sub b u q
    · by_cases hb : b = p
      · subst hb; exact h0
      · rw [upd_ne hb] at q; exact r.fresh b u q m
    · rw [upd_ne]
      · exact a3
      · rintro rfl
        exact hx j x a1 a2
  cases d with
  | lst ds =>
    obtain ⟨vs, q1, q2⟩ := ho
    obtain ⟨r', s⟩ := go _ q1
    exact ⟨_, s, r', .lst (.inl (.inl upd_same)) (q2.mono s)⟩
  | dic ds =>
    obtain ⟨vs, q1, q2⟩ := ho
    obtain ⟨r', s⟩ := go _ q1
    exact ⟨_, s, r', .dic (.inl upd_same) (q2.mono s)⟩
  | dit ks ds =>
    obtain ⟨vs, q1, ql, q2⟩ := ho
    obtain ⟨r', s⟩ := go _ q1
    exact ⟨_, s, r', .dit (.inl upd_same) ql (q2.mono s)⟩
  | _ => exact ho.elim
/-- a slot is forgotten -/
theorem Rep.drop {K : PySem.W.Frag} {H0 H N : Hp} {ρ : Env'} {σ : L2.St} (r : Rep K H0 ρ σ H N) (i : Nat) : Rep K H0 (ρ.set i .no) σ H N where
  tab := r.tab
  old := r.old
  sub := r.sub
  imm := r.imm
  fresh := r.fresh
  len := by rw [List.length_set, r.len]
  im := fun j d q => by
    rcases get_set q with ⟨_, q'⟩ | ⟨_, q'⟩
    · cases q'
    · exact r.im j d q'
  ol := fun j d q => by
    rcases get_set q with ⟨_, q'⟩ | ⟨_, q'⟩
    · cases q'
    · exact r.ol j d q'
  ow := fun j d q => by
    rcases get_set q with ⟨_, q'⟩ | ⟨_, q'⟩
    · cases q'
    · exact r.ow j d q'
  rf := fun j d q => by
    rcases get_set q with ⟨_, q'⟩ | ⟨_, q'⟩
    · cases q'
    · exact r.rf j d q'
  apart := fun j k x y z ne a b c => by
    rcases get_set a with ⟨_, a'⟩ | ⟨_, a'⟩
    · cases a'
    · rcases get_set b with ⟨_, b'⟩ | ⟨_, b'⟩
      · cases b'
      · exact r.apart j k x y z ne a' b' c
/-- what is flat may be kept -/
theorem Rep.keep {K : PySem.W.Frag} {H0 H N : Hp} {ρ : Env'} {σ : L2.St} (r : Rep K H0 ρ σ H N) : ∃ N', Same N N' ∧ Rep K H0 ρ σ H N' ∧ Same (Imm H) N' := by
  refine ⟨both N (Imm H), both_l _ _, r.more (both_l _ _) (both_sub r.sub (imm_sub H)) (fun a o h m => ?_) (fun i d q h1 h2 h3 => ?_), both_r r.sub (imm_sub H)⟩
  · unfold both at h
    split at h
    · exact (imm_not h m).elim
    · exact r.fresh a o h m
  · unfold both
    rw [if_pos h3]
    obtain ⟨p', o', e1, e2, m⟩ := r.own_some h1
    rw [h2] at e1
    cases e1
    cases z : Imm H q with
    | none => rfl
    | some u =>
      have e3 := imm_eq z
      rw [e2] at e3
      cases e3
      exact (imm_not z m).elim
end B

namespace B
open PySem PySem.Spec PyProof.Rows L2

section
variable {X : Cx} {H0 : Hp} {ρ : Env'} {a b c e : Expr} {es : List Expr} {d d1 d2 d3 : Dat} {ds : List Dat} {pos : Pos}

theorem at_int {K : PySem.W.Frag} {H : Hp} {v : V} {i : Int} (h : At K H v (.int i)) : v = .int i := by cases h; rfl
theorem at_bl {K : PySem.W.Frag} {H : Hp} {v : V} {i : Bool} (h : At K H v (.bl i)) : v = .bl i := by cases h; rfl
theorem at_str {K : PySem.W.Frag} {H : Hp} {v : V} {i : Str} (h : At K H v (.str i)) : v = .str i := by cases h; rfl
theorem at_non {K : PySem.W.Frag} {H : Hp} {v : V} (h : At K H v .non) : v = .non := by cases h; rfl

theorem Ev.toB (h : Ev X H0 ρ e d) : EvB X H0 ρ e d := fun σ H N r => (h σ H N r).imp fun v H' ⟨N', s, n, r', a⟩ => ⟨N', s, n, r', a.mono r'.sub⟩
theorem EvB.flat (h : EvB X H0 ρ e d) (f : flat d = true) : Ev X H0 ρ e d := fun σ H N r => (h σ H N r).imp fun v H' ⟨N', s, n, r', a⟩ =>
  let ⟨N2, n2, r2, k⟩ := r'.keep
  ⟨N2, s, n.trans n2, r2, (a.imm f).mono k⟩

/-! ### names, constants -/
theorem ev_int {i j} : Ev X H0 ρ (.Constant (.int i) j pos) (.int i) := fun _ H N r => we_of pe_int ⟨N, Same.refl _, Same.refl _, r, .int i⟩
theorem ev_bl {i j} : Ev X H0 ρ (.Constant (.bool i) j pos) (.bl i) := fun _ H N r => we_of pe_bl ⟨N, Same.refl _, Same.refl _, r, .bl i⟩
theorem ev_str {i j} : Ev X H0 ρ (.Constant (.str i) j pos) (.str i) := fun _ H N r => we_of pe_str ⟨N, Same.refl _, Same.refl _, r, .str i⟩
theorem ev_non {j} : Ev X H0 ρ (.Constant .none j pos) .non := fun _ H N r => we_of pe_non ⟨N, Same.refl _, Same.refl _, r, .non⟩
theorem ev_name (i : Nat) {x : Str} (h : ρ[i]? = some (.im d)) (hN : X.N[i]? = some x := by rfl) (hv : Vis X.env.scope x := by first | exact Or.inl rfl | exact Or.inr (Or.inl rfl) | exact Or.inr (Or.inr rfl)) (hd : (x == ("__debug__" : Str)) = false := by decide)
    (hcd : (x == ("__classdict__" : Str)) = false := by decide) : Ev X H0 ρ (.Name x pos) d := fun σ H N r => we_of (pv i hN hv hd hcd)
  (let ⟨v, h1, h2⟩ := r.im i d h; ⟨v, h1, N, Same.refl _, Same.refl _, r, h2⟩)
theorem eb_name_ol (i : Nat) {x : Str} (h : ρ[i]? = some (.ol d)) (hN : X.N[i]? = some x := by rfl) (hv : Vis X.env.scope x := by first | exact Or.inl rfl | exact Or.inr (Or.inl rfl) | exact Or.inr (Or.inr rfl)) (hd : (x == ("__debug__" : Str)) = false := by decide)
    (hcd : (x == ("__classdict__" : Str)) = false := by decide) : EvB X H0 ρ (.Name x pos) d := fun σ H N r => we_of (pv i hN hv hd hcd)
  (let ⟨v, h1, h2⟩ := r.ol i d h; ⟨v, h1, N, Same.refl _, Same.refl _, r, h2.mono r.old⟩)
theorem own_at {K : PySem.W.Frag} {H N : Hp} {p : Addr} (s : Same N H) (h : Own K H N p d) : At K H (.ref p) d := by
  cases d with
  | lst ds => obtain ⟨vs, q1, q2⟩ := h; exact .lst (.inl (.inl q1)) (q2.mono s)
  | dic ds => obtain ⟨vs, q1, q2⟩ := h; exact .dic (.inl q1) (q2.mono s)
  | dit ks ds => obtain ⟨vs, q1, ql, q2⟩ := h; exact .dit (.inl q1) ql (q2.mono s)
  | _ => exact h.elim
theorem eb_name_ow (i : Nat) {x : Str} (h : ρ[i]? = some (.ow d)) (hN : X.N[i]? = some x := by rfl) (hv : Vis X.env.scope x := by first | exact Or.inl rfl | exact Or.inr (Or.inl rfl) | exact Or.inr (Or.inr rfl)) (hd : (x == ("__debug__" : Str)) = false := by decide)
    (hcd : (x == ("__classdict__" : Str)) = false := by decide) : EvB X H0 ρ (.Name x pos) d := fun σ H N r => we_of (pv i hN hv hd hcd)
  (let ⟨p, h1, _, _, h2⟩ := r.ow i d h; ⟨.ref p, h1, N, Same.refl _, Same.refl _, r, own_at r.sub h2⟩)

/-! ### two operands, one -/
/-- what an operation's reading is to lead to -/
abbrev Goes (K : PySem.W.Frag) (H0 : Hp) (ρ : Env') (σ : L2.St) (H N : Hp) (d : Dat) (Q : VK) : Prop := ∀ v H' N', Same H H' → Same N N' → Rep K H0 ρ σ H' N' → At K N' v d → Q v H'
theorem ev_bin {r : R2} (p : ∀ ta tb, PE X a ta → PE X b tb → PE X e (tOp r ta tb)) (ha : EvB X H0 ρ a d1) (hb : EvB X H0 ρ b d2)
    (hr : ∀ x y σ H N Q, Rep X.K H0 ρ σ H N → At X.K H x d1 → At X.K H y d2 → Goes X.K H0 ρ σ H N d Q → r x y H Q) : Ev X H0 ρ e d := fun σ H N rp =>
  we_of (p _ _ pe_w pe_w) ((ha σ H N rp).imp fun x H1 ⟨N1, s1, n1, r1, a1⟩ => (hb σ H1 N1 r1).imp fun y H2 ⟨N2, s2, n2, r2, a2⟩ =>
    hr x y σ H2 N2 _ r2 (a1.mono s2) a2 fun v H' N' s n rr aa => ⟨N', (s1.trans s2).trans s, (n1.trans n2).trans n, rr, aa⟩)
theorem evt_bin {r : R2} {k : Bool} (p : ∀ ta tb, PE X a ta → PE X b tb → PT X e (tTest (tOp r ta tb))) (ha : EvB X H0 ρ a d1) (hb : EvB X H0 ρ b d2)
    (hr : ∀ x y σ H N Q, Rep X.K H0 ρ σ H N → At X.K H x d1 → At X.K H y d2 → Goes X.K H0 ρ σ H N (.bl k) Q → r x y H Q) : EvT X H0 ρ e k := fun σ H N rp =>
  wt_of (p _ _ pe_w pe_w) ((ha σ H N rp).imp fun x H1 ⟨N1, s1, n1, r1, a1⟩ => (hb σ H1 N1 r1).imp fun y H2 ⟨N2, s2, n2, r2, a2⟩ =>
    hr x y σ H2 N2 _ r2 (a1.mono s2) a2 fun v H' N' s n rr aa => ⟨k, at_bl aa, rfl, N', (s1.trans s2).trans s, (n1.trans n2).trans n, rr⟩)
theorem goes_self {K : PySem.W.Frag} {H0 : Hp} {ρ : Env'} {σ : L2.St} {H N : Hp} {d : Dat} {Q : VK} {v : V} (g : Goes K H0 ρ σ H N d Q) (r : Rep K H0 ρ σ H N) (a : At K N v d) : Q v H := g v H N (Same.refl _) (Same.refl _) r a

section arith
variable {i j : Int} (ha : Ev X H0 ρ a (.int i)) (hb : Ev X H0 ρ b (.int j))
include ha hb
theorem ev_intop {op : Operator} {C : Int → Int → Prop} {g : Int → Int → Int} (o : OpR X (binaryOp op) (rI C fun i j => .int (g i j))) (hc : C i j) : Ev X H0 ρ (.BinOp a op b pos) (.int (g i j)) :=
  ev_bin (fun _ _ h k => pe_op o h k) ha.toB hb.toB fun x y σ H N Q r p q g => ⟨i, j, at_int p, at_int q, hc, goes_self g r (.int _)⟩
theorem ev_add : Ev X H0 ρ (.BinOp a .Add b pos) (.int (i + j)) := ev_bin (fun _ _ h k => pe_op op_add h k) ha.toB hb.toB fun x y σ H N Q r p q g => ⟨i, j, at_int p, at_int q, goes_self g r (.int _)⟩
theorem ev_sub : Ev X H0 ρ (.BinOp a .Sub b pos) (.int (i - j)) := ev_bin (fun _ _ h k => pe_op op_sub h k) ha.toB hb.toB fun x y σ H N Q r p q g => ⟨i, j, at_int p, at_int q, goes_self g r (.int _)⟩
theorem ev_mul (h : IntMulOk i j) : Ev X H0 ρ (.BinOp a .Mult b pos) (.int (i * j)) := ev_intop ha hb (op := .Mult) (C := IntMulOk) (g := fun i j => i * j) (opI fun _ _ _ _ _ _ _ hc q => mul_int q hc) h
theorem ev_fdiv (h0 : 0 < j) (h : j.natAbs.log2 < 9000) : Ev X H0 ρ (.BinOp a .FloorDiv b pos) (.int (i / j)) := ev_intop ha hb (g := fun i j => i / j) op_fdivW ⟨h0, h⟩
theorem ev_fdivN (h0 : j ≠ 0) (h : j.natAbs.log2 < 9000) : Ev X H0 ρ (.BinOp a .FloorDiv b pos) (.int (i.fdiv j)) := ev_intop ha hb (op := .FloorDiv) (C := fun _ j => j ≠ 0 ∧ j.natAbs.log2 < 9000) (g := fun i j => i.fdiv j)
  (opI fun _ _ _ _ _ _ _ hc q => floordiv_int hc.1 q (.inl (PyProof.noPylong_of_log2 hc.2))) ⟨h0, h⟩
theorem ev_mod (h : 0 < j) : Ev X H0 ρ (.BinOp a .Mod b pos) (.int (i % j)) := ev_intop ha hb (g := fun i j => i % j) op_mod h
theorem ev_modN (h : j ≠ 0) : Ev X H0 ρ (.BinOp a .Mod b pos) (.int (i.fmod j)) := ev_intop ha hb (g := fun i j => i.fmod j) op_modN h
theorem ev_pow (h : CPow i j) : Ev X H0 ρ (.BinOp a .Pow b pos) (.int (i ^ j.toNat)) := ev_intop ha hb (g := fun i j => i ^ j.toNat) op_pow h
theorem ev_shl (h : CPow i j) : Ev X H0 ρ (.BinOp a .LShift b pos) (.int (i * 2 ^ j.toNat)) := ev_intop ha hb (g := fun i j => i * 2 ^ j.toNat) op_shl h
theorem ev_shr (h : 0 ≤ j) : Ev X H0 ρ (.BinOp a .RShift b pos) (.int (i / 2 ^ j.toNat)) := ev_intop ha hb (g := fun i j => i / 2 ^ j.toNat) op_shr h
theorem ev_and : Ev X H0 ρ (.BinOp a .BitAnd b pos) (.int (Builtin.bitAnd i j)) := ev_bin (fun _ _ h k => pe_op op_and h k) ha.toB hb.toB fun x y σ H N Q r p q g => ⟨i, j, at_int p, at_int q, goes_self g r (.int _)⟩
theorem et_lt : EvT X H0 ρ (.Compare a [.Lt] [b] pos) (decide (i < j)) := evt_bin (fun _ _ h k => pt_cmpR op_lt h k (nomark _)) ha.toB hb.toB fun x y σ H N Q r p q g => ⟨i, j, at_int p, at_int q, goes_self g r (.bl _)⟩
theorem et_le : EvT X H0 ρ (.Compare a [.LtE] [b] pos) (decide (i ≤ j)) := evt_bin (fun _ _ h k => pt_cmpR op_le h k (nomark _)) ha.toB hb.toB fun x y σ H N Q r p q g => ⟨i, j, at_int p, at_int q, goes_self g r (.bl _)⟩
theorem et_gt : EvT X H0 ρ (.Compare a [.Gt] [b] pos) (decide (j < i)) := evt_bin (fun _ _ h k => pt_cmpR op_gt h k (nomark _)) ha.toB hb.toB fun x y σ H N Q r p q g => ⟨i, j, at_int p, at_int q, goes_self g r (.bl _)⟩
theorem et_ge : EvT X H0 ρ (.Compare a [.GtE] [b] pos) (decide (j ≤ i)) := evt_bin (fun _ _ h k => pt_cmpR op_ge h k (nomark _)) ha.toB hb.toB fun x y σ H N Q r p q g => ⟨i, j, at_int p, at_int q, goes_self g r (.bl _)⟩
theorem ev_lt : Ev X H0 ρ (.Compare a [.Lt] [b] pos) (.bl (decide (i < j))) := ev_bin (fun _ _ h k => pe_cmpR op_lt h k (nomark _)) ha.toB hb.toB fun x y σ H N Q r p q g => ⟨i, j, at_int p, at_int q, goes_self g r (.bl _)⟩
theorem ev_le : Ev X H0 ρ (.Compare a [.LtE] [b] pos) (.bl (decide (i ≤ j))) := ev_bin (fun _ _ h k => pe_cmpR op_le h k (nomark _)) ha.toB hb.toB fun x y σ H N Q r p q g => ⟨i, j, at_int p, at_int q, goes_self g r (.bl _)⟩
theorem ev_gt : Ev X H0 ρ (.Compare a [.Gt] [b] pos) (.bl (decide (j < i))) := ev_bin (fun _ _ h k => pe_cmpR op_gt h k (nomark _)) ha.toB hb.toB fun x y σ H N Q r p q g => ⟨i, j, at_int p, at_int q, goes_self g r (.bl _)⟩
theorem ev_ge : Ev X H0 ρ (.Compare a [.GtE] [b] pos) (.bl (decide (j ≤ i))) := ev_bin (fun _ _ h k => pe_cmpR op_ge h k (nomark _)) ha.toB hb.toB fun x y σ H N Q r p q g => ⟨i, j, at_int p, at_int q, goes_self g r (.bl _)⟩
theorem et_eq : EvT X H0 ρ (.Compare a [.Eq] [b] pos) (decide (i = j)) := evt_bin (fun _ _ h k => pt_cmpR op_eq h k (nomark _)) ha.toB hb.toB fun x y σ H N Q r p q g => by
  rw [at_int p, at_int q]
  exact ⟨rfl, goes_self (Q := Q) (by rw [show decide (V.int i = V.int j) = decide (i = j) from by simp]; exact g) r (.bl _)⟩
theorem et_ne : EvT X H0 ρ (.Compare a [.NotEq] [b] pos) (!decide (i = j)) := evt_bin (fun _ _ h k => pt_cmpR op_ne h k (nomark _)) ha.toB hb.toB fun x y σ H N Q r p q g => by
  rw [at_int p, at_int q]
  exact ⟨rfl, goes_self (Q := Q) (by rw [show decide (V.int i = V.int j) = decide (i = j) from by simp]; exact g) r (.bl _)⟩
theorem ev_eq : Ev X H0 ρ (.Compare a [.Eq] [b] pos) (.bl (decide (i = j))) := ev_bin (fun _ _ h k => pe_cmpR op_eq h k (nomark _)) ha.toB hb.toB fun x y σ H N Q r p q g => by
  rw [at_int p, at_int q]
  exact ⟨rfl, goes_self (Q := Q) (by rw [show decide (V.int i = V.int j) = decide (i = j) from by simp]; exact g) r (.bl _)⟩
theorem ev_ne : Ev X H0 ρ (.Compare a [.NotEq] [b] pos) (.bl (!decide (i = j))) := ev_bin (fun _ _ h k => pe_cmpR op_ne h k (nomark _)) ha.toB hb.toB fun x y σ H N Q r p q g => by
  rw [at_int p, at_int q]
  exact ⟨rfl, goes_self (Q := Q) (by rw [show decide (V.int i = V.int j) = decide (i = j) from by simp]; exact g) r (.bl _)⟩
end arith
theorem ev_neg {i : Int} (ha : Ev X H0 ρ a (.int i)) : Ev X H0 ρ (.UnaryOp .USub a pos) (.int (-i)) := fun σ H N rp =>
  we_of (pe_un un_neg pe_w) ((ha σ H N rp).imp fun x H1 ⟨N1, s1, n1, r1, a1⟩ => ⟨i, at_int a1, N1, s1, n1, r1, .int _⟩)
/-- texts, == and + -/
theorem et_eqS {i j : Str} (ha : Ev X H0 ρ a (.str i)) (hb : Ev X H0 ρ b (.str j)) : EvT X H0 ρ (.Compare a [.Eq] [b] pos) (decide (i = j)) := evt_bin (fun _ _ h k => pt_cmpR op_eq h k (nomark _)) ha.toB hb.toB fun x y σ H N Q r p q g => by
  rw [at_str p, at_str q]
  exact ⟨rfl, goes_self (Q := Q) (by rw [show decide (V.str i = V.str j) = decide (i = j) from by simp]; exact g) r (.bl _)⟩
theorem et_neS {i j : Str} (ha : Ev X H0 ρ a (.str i)) (hb : Ev X H0 ρ b (.str j)) : EvT X H0 ρ (.Compare a [.NotEq] [b] pos) (!decide (i = j)) := evt_bin (fun _ _ h k => pt_cmpR op_ne h k (nomark _)) ha.toB hb.toB fun x y σ H N Q r p q g => by
  rw [at_str p, at_str q]
  exact ⟨rfl, goes_self (Q := Q) (by rw [show decide (V.str i = V.str j) = decide (i = j) from by simp]; exact g) r (.bl _)⟩
theorem ev_eqS {i j : Str} (ha : Ev X H0 ρ a (.str i)) (hb : Ev X H0 ρ b (.str j)) : Ev X H0 ρ (.Compare a [.Eq] [b] pos) (.bl (decide (i = j))) := ev_bin (fun _ _ h k => pe_cmpR op_eq h k (nomark _)) ha.toB hb.toB fun x y σ H N Q r p q g => by
  rw [at_str p, at_str q]
  exact ⟨rfl, goes_self (Q := Q) (by rw [show decide (V.str i = V.str j) = decide (i = j) from by simp]; exact g) r (.bl _)⟩
theorem ev_neS {i j : Str} (ha : Ev X H0 ρ a (.str i)) (hb : Ev X H0 ρ b (.str j)) : Ev X H0 ρ (.Compare a [.NotEq] [b] pos) (.bl (!decide (i = j))) := ev_bin (fun _ _ h k => pe_cmpR op_ne h k (nomark _)) ha.toB hb.toB fun x y σ H N Q r p q g => by
  rw [at_str p, at_str q]
  exact ⟨rfl, goes_self (Q := Q) (by rw [show decide (V.str i = V.str j) = decide (i = j) from by simp]; exact g) r (.bl _)⟩
theorem ev_cat {i j : Str} (ha : Ev X H0 ρ a (.str i)) (hb : Ev X H0 ρ b (.str j)) (hz : i.length + j.length ≤ sizeLine) : Ev X H0 ρ (.BinOp a .Add b pos) (.str (i ++ j)) :=
  ev_bin (fun _ _ h k => pe_op op_add_str h k) ha.toB hb.toB fun x y σ H N Q r p q g => ⟨i, j, at_str p, at_str q, hz, goes_self g r (.str _)⟩
/-- is None -/
theorem isnon {K : PySem.W.Frag} {H : Hp} {v : V} (h : At K H v d) : decide (v = .non) = (match d with | .non => true | _ => false) := by
  cases h <;> simp
def isNon : Dat → Bool
  | .non => true
  | _ => false
theorem at_isNon {K : PySem.W.Frag} {H : Hp} {v : V} (h : At K H v d) : decide (v = .non) = isNon d := by cases h <;> simp [isNon]
theorem et_isN {j pos'} (ha : EvB X H0 ρ a d) : EvT X H0 ρ (.Compare a [.Is] [.Constant .none j pos'] pos) (isNon d) :=
  evt_bin (d2 := .non) (fun _ _ h k => pt_cmpR op_isN h k (nomark _)) ha ev_non.toB fun x y σ H N Q r p q g => ⟨at_non q, by rw [at_isNon p]; exact goes_self (Q := Q) g r (.bl _)⟩
theorem et_notN {j pos'} (ha : EvB X H0 ρ a d) : EvT X H0 ρ (.Compare a [.IsNot] [.Constant .none j pos'] pos) (!isNon d) :=
  evt_bin (d2 := .non) (fun _ _ h k => pt_cmpR op_notN h k (nomark _)) ha ev_non.toB fun x y σ H N Q r p q g => ⟨at_non q, by rw [at_isNon p]; exact goes_self (Q := Q) g r (.bl _)⟩

/-! ### and, or, not, if -/
theorem et_val {k : Bool} (h : Ev X H0 ρ e (.bl k)) (he : ∀ whole, isTrue e X.env whole = (do let v ← whole; standAt e.pos; holding [v] (truthy v)) := by intro _; rfl) : EvT X H0 ρ e k := fun σ H N rp =>
  wt_of (pt_val pe_w he) ((h σ H N rp).imp fun x H1 ⟨N1, s1, n1, r1, a1⟩ => ⟨k, at_bl a1, rfl, N1, s1, n1, r1⟩)
theorem ew_and1 {k : Bool} (h : EvT X H0 ρ a k) : EvW X H0 ρ (.BoolOp .And [a] pos) k := fun σ H N rp => ww_of (pw_and1 pt_w) (h σ H N rp)
theorem ew_or1 {k : Bool} (h : EvT X H0 ρ a k) : EvW X H0 ρ (.BoolOp .Or [a] pos) k := fun σ H N rp => ww_of (pw_or1 pt_w) (h σ H N rp)
theorem ew_and {k l : Bool} {rest : List Expr} (h : EvT X H0 ρ a k) (g : k = true → EvW X H0 ρ (.BoolOp .And (b :: rest) pos) l) : EvW X H0 ρ (.BoolOp .And (a :: b :: rest) pos) (k && l) := fun σ H N rp =>
  ww_of (pw_and pt_w pw_w) ((h σ H N rp).imp fun c H1 ⟨e1, N1, s1, n1, r1⟩ => by
    subst e1
    cases c with
    | true => exact (g rfl σ H1 N1 r1).imp fun c2 H2 ⟨e2, N2, s2, n2, r2⟩ => ⟨e2, N2, s1.trans s2, n1.trans n2, r2⟩
    | false => exact ⟨rfl, N1, s1, n1, r1⟩)
theorem ew_or {k l : Bool} {rest : List Expr} (h : EvT X H0 ρ a k) (g : k = false → EvW X H0 ρ (.BoolOp .Or (b :: rest) pos) l) : EvW X H0 ρ (.BoolOp .Or (a :: b :: rest) pos) (k || l) := fun σ H N rp =>
  ww_of (pw_or pt_w pw_w) ((h σ H N rp).imp fun c H1 ⟨e1, N1, s1, n1, r1⟩ => by
    subst e1
    cases c with
    | false => exact (g rfl σ H1 N1 r1).imp fun c2 H2 ⟨e2, N2, s2, n2, r2⟩ => ⟨e2, N2, s1.trans s2, n1.trans n2, r2⟩
    | true => exact ⟨rfl, N1, s1, n1, r1⟩)
theorem EvW.t {k : Bool} (h : EvW X H0 ρ e k) : EvT X H0 ρ e k := fun σ H N rp => (h σ H N rp).wt
theorem et_not {k : Bool} (h : EvT X H0 ρ a k) : EvT X H0 ρ (.UnaryOp .Not a pos) (!k) := fun σ H N rp =>
  wt_of (pt_not pt_w) ((h σ H N rp).imp fun c H1 ⟨e1, N1, s1, n1, r1⟩ => ⟨by rw [e1], N1, s1, n1, r1⟩)
theorem ev_one {op} (h : Ev X H0 ρ a d) : Ev X H0 ρ (.BoolOp op [a] pos) d := fun σ H N rp => we_of (pe_one pe_w) (h σ H N rp)
theorem ev_andB {k l : Bool} {rest : List Expr} (h : Ev X H0 ρ a (.bl k)) (g : k = true → Ev X H0 ρ (.BoolOp .And (b :: rest) pos) (.bl l)) : Ev X H0 ρ (.BoolOp .And (a :: b :: rest) pos) (.bl (k && l)) := fun σ H N rp =>
  we_of (pe_and pe_w pe_w) ((h σ H N rp).imp fun x H1 ⟨N1, s1, n1, r1, a1⟩ => ⟨k, at_bl a1, by
    cases k with
    | true => exact iteT ((g rfl σ H1 N1 r1).imp fun x2 H2 ⟨N2, s2, n2, r2, a2⟩ => ⟨N2, s1.trans s2, n1.trans n2, r2, a2⟩)
    | false => exact iteF ⟨N1, s1, n1, r1, .bl _⟩⟩)
theorem ev_orB {k l : Bool} {rest : List Expr} (h : Ev X H0 ρ a (.bl k)) (g : k = false → Ev X H0 ρ (.BoolOp .Or (b :: rest) pos) (.bl l)) : Ev X H0 ρ (.BoolOp .Or (a :: b :: rest) pos) (.bl (k || l)) := fun σ H N rp =>
  we_of (pe_or pe_w pe_w) ((h σ H N rp).imp fun x H1 ⟨N1, s1, n1, r1, a1⟩ => ⟨k, at_bl a1, by
    cases k with
    | false => exact iteF ((g rfl σ H1 N1 r1).imp fun x2 H2 ⟨N2, s2, n2, r2, a2⟩ => ⟨N2, s1.trans s2, n1.trans n2, r2, a2⟩)
    | true => exact iteT ⟨N1, s1, n1, r1, .bl _⟩⟩)
theorem ev_not {k : Bool} (h : Ev X H0 ρ a (.bl k)) : Ev X H0 ρ (.UnaryOp .Not a pos) (.bl (!k)) := fun σ H N rp =>
  we_of (pe_not pe_w) ((h σ H N rp).imp fun x H1 ⟨N1, s1, n1, r1, a1⟩ => ⟨k, at_bl a1, N1, s1, n1, r1, .bl _⟩)
theorem ev_ifT (hc : EvT X H0 ρ c true) (h : Ev X H0 ρ a d) : Ev X H0 ρ (.IfExp c a b pos) d := fun σ H N rp =>
  we_of (pe_ifExp pt_w pe_w pe_w) ((hc σ H N rp).imp fun x H1 ⟨e1, N1, s1, n1, r1⟩ => by
    subst e1
    exact iteT ((h σ H1 N1 r1).imp fun x2 H2 ⟨N2, s2, n2, r2, a2⟩ => ⟨N2, s1.trans s2, n1.trans n2, r2, a2⟩))
theorem ev_ifF (hc : EvT X H0 ρ c false) (h : Ev X H0 ρ b d) : Ev X H0 ρ (.IfExp c a b pos) d := fun σ H N rp =>
  we_of (pe_ifExp pt_w pe_w pe_w) ((hc σ H N rp).imp fun x H1 ⟨e1, N1, s1, n1, r1⟩ => by
    subst e1
    exact iteF ((h σ H1 N1 r1).imp fun x2 H2 ⟨N2, s2, n2, r2, a2⟩ => ⟨N2, s1.trans s2, n1.trans n2, r2, a2⟩))

/-! ### argument lists, displays -/
theorem ea_nil : EvA X H0 ρ [] [] := fun σ H N rp => wa_of pa_nil ⟨N, Same.refl _, Same.refl _, rp, .nil⟩
theorem ea_cons (h : Ev X H0 ρ e d) (t : EvA X H0 ρ es ds) (hs : starEach (e :: es) X.env = (false, eval e X.env) :: starEach es X.env := by rfl) : EvA X H0 ρ (e :: es) (d :: ds) := fun σ H N rp =>
  wa_of (pa_cons pe_w pa_w hs) ((h σ H N rp).imp fun x H1 ⟨N1, s1, n1, r1, a1⟩ => (t σ H1 N1 r1).imp fun xs H2 ⟨N2, s2, n2, r2, a2⟩ => ⟨N2, s1.trans s2, n1.trans n2, r2, .cons (a1.mono n2) a2⟩)
theorem eab_nil : EvAB X H0 ρ [] [] := fun σ H N rp => wa_of pa_nil ⟨N, Same.refl _, Same.refl _, rp, .nil⟩
theorem eab_cons (h : EvB X H0 ρ e d) (t : EvAB X H0 ρ es ds) (hs : starEach (e :: es) X.env = (false, eval e X.env) :: starEach es X.env := by rfl) : EvAB X H0 ρ (e :: es) (d :: ds) := fun σ H N rp =>
  wa_of (pa_cons pe_w pa_w hs) ((h σ H N rp).imp fun x H1 ⟨N1, s1, n1, r1, a1⟩ => (t σ H1 N1 r1).imp fun xs H2 ⟨N2, s2, n2, r2, a2⟩ => ⟨N2, s1.trans s2, n1.trans n2, r2, .cons (a1.mono s2) a2⟩)
theorem ev_tup {x1} (h : EvA X H0 ρ es ds) (hz : ds.length ≤ sizeLine) : Ev X H0 ρ (.Tuple es x1 pos) (.tup ds) := fun σ H N rp =>
  we_of (pe_tup pa_w) ((h σ H N rp).imp fun xs H1 ⟨N1, s1, n1, r1, a1⟩ => ⟨by rw [a1.length]; exact hz, fun p hp =>
    let ⟨r2, n2⟩ := r1.new (o := .tup xs) hp
    ⟨_, s1.trans (Same.of_none hp), n1.trans n2, r2, .tup (.inl (.inl upd_same)) (a1.mono n2)⟩⟩)

/-- a new list or dict, for one to own -/
def EvO (X : Cx) (H0 : Hp) (ρ : Env') (e : Expr) (d : Dat) : Prop := ∀ σ H N, Rep X.K H0 ρ σ H N → WE X e σ H fun v H' => ∃ N' p, v = .ref p ∧ H p = none ∧ Same H H' ∧ Same N N' ∧ Rep X.K H0 ρ σ H' N' ∧ N' p = none ∧ Own X.K H' N' p d
theorem no_own {K : PySem.W.Frag} {H N : Hp} {σ : L2.St} (r : Rep K H0 ρ σ H N) {p : Addr} (h : H p = none) (j : Nat) (d' : Dat) (q : ρ[j]? = some (.ow d')) : σ[j]? ≠ some (some (V.ref p)) := fun z => by
  obtain ⟨p', o, e1, e2, _⟩ := r.own_some q
  rw [z] at e1
  cases e1
  rw [h] at e2
  cases e2
theorem EvO.ev (h : EvO X H0 ρ e d) : Ev X H0 ρ e d := fun σ H N rp => (h σ H N rp).imp fun v H' ⟨N', p, e1, hp, s, n, r, np, o⟩ => by
  subst e1
  obtain ⟨N2, n2, r2, a2⟩ := r.freeze (rp.old.free hp) np o (no_own rp hp)
  exact ⟨N2, s, n.trans n2, r2, a2⟩
theorem eo_new {H' : Hp} {K : PySem.W.Frag} {N : Hp} {σ : L2.St} {p : Addr} {o : HO} [Nt o] (r : Rep K H0 ρ σ H' N) (hp : H' p = none) : Rep K H0 ρ σ (upd H' p o) N ∧ N p = none := ⟨r.grow (Same.of_none hp) (r.tab.fresh hp), r.sub.free hp⟩
theorem eo_lst (h : EvA X H0 ρ es ds) (hz : ds.length ≤ sizeLine) : EvO X H0 ρ (.List es pos) (.lst ds) := fun σ H N rp =>
  we_of (pe_lst pa_w) ((h σ H N rp).imp fun xs H1 ⟨N1, s1, n1, r1, a1⟩ => ⟨by rw [a1.length]; exact hz, fun p hp =>
    let ⟨r2, n2⟩ := eo_new (o := .lst xs) r1 hp
    ⟨N1, p, rfl, s1.free hp, s1.trans (Same.of_none hp), n1, r2, n2, xs, upd_same, a1⟩⟩)
theorem eo_dic0 : EvO X H0 ρ (.Dict [] [] pos) (.dic []) := fun σ H N rp => we_of pe_dnewK (fun p hp =>
    let ⟨r2, n2⟩ := eo_new (o := .dK []) rp hp
    ⟨N, p, rfl, hp, Same.of_none hp, Same.refl _, r2, n2, [], upd_same, .nil⟩)

/-! ### items, slices -/
theorem at_seq {K : PySem.W.Frag} {H : Hp} {v : V} (h : At K H v (.tup ds)) : ∃ p vs, v = .ref p ∧ SqT K H p vs ∧ Ats K H vs ds := by cases h with | tup a b => exact ⟨_, _, rfl, a, b⟩
theorem at_lst {K : PySem.W.Frag} {H : Hp} {v : V} (h : At K H v (.lst ds)) : ∃ p vs, v = .ref p ∧ SqL K H p vs ∧ Ats K H vs ds := by cases h with | lst a b => exact ⟨_, _, rfl, a, b⟩
theorem atI_ats {K : PySem.W.Frag} {H : Hp} {vs : List V} (h : Ats K H vs ds) {i : Int} (q : atI ds i = some d) : ∃ v, atI vs i = some v ∧ At K H v d := by
  unfold atI at q ⊢
  rw [h.length]
  cases e : ixN ds.length i with
  | none => rw [e] at q; cases q
  | some j =>
    rw [e] at q
    exact h.get q
theorem eb_ixT {i : Int} (ha : EvB X H0 ρ a (.tup ds)) (hb : Ev X H0 ρ b (.int i)) (q : atI ds i = some d) (hs : PlainIx b := by exact fun _ _ => rfl) : EvB X H0 ρ (.Subscript a b pos) d := fun σ H N rp =>
  we_of (pe_ix ix_tup pe_w pe_w hs) ((ha σ H N rp).imp fun x H1 ⟨N1, s1, n1, r1, a1⟩ => (hb.toB σ H1 N1 r1).imp fun y H2 ⟨N2, s2, n2, r2, a2⟩ =>
    let ⟨p, vs, e1, h1, h2⟩ := at_seq (a1.mono s2)
    let ⟨v, g1, g2⟩ := atI_ats h2 q
    ⟨p, vs, i, v, e1, at_int a2, h1, g1, N2, s1.trans s2, n1.trans n2, r2, g2⟩)
theorem eb_ixL {i : Int} (ha : EvB X H0 ρ a (.lst ds)) (hb : Ev X H0 ρ b (.int i)) (q : atI ds i = some d) (hs : PlainIx b := by exact fun _ _ => rfl) : EvB X H0 ρ (.Subscript a b pos) d := fun σ H N rp =>
  we_of (pe_ix ix_list pe_w pe_w hs) ((ha σ H N rp).imp fun x H1 ⟨N1, s1, n1, r1, a1⟩ => (hb.toB σ H1 N1 r1).imp fun y H2 ⟨N2, s2, n2, r2, a2⟩ =>
    let ⟨p, vs, e1, h1, h2⟩ := at_lst (a1.mono s2)
    let ⟨v, g1, g2⟩ := atI_ats h2 q
    ⟨p, vs, i, v, e1, at_int a2, h1, g1, N2, s1.trans s2, n1.trans n2, r2, g2⟩)
theorem ev_ixT {i : Int} (ha : Ev X H0 ρ a (.tup ds)) (hb : Ev X H0 ρ b (.int i)) (q : atI ds i = some d) (hs : PlainIx b := by exact fun _ _ => rfl) : Ev X H0 ρ (.Subscript a b pos) d := fun σ H N rp =>
  we_of (pe_ix ix_tup pe_w pe_w hs) ((ha σ H N rp).imp fun x H1 ⟨N1, s1, n1, r1, a1⟩ => (hb.toB σ H1 N1 r1).imp fun y H2 ⟨N2, s2, n2, r2, a2⟩ =>
    let ⟨p, vs, e1, h1, h2⟩ := at_seq (a1.mono n2)
    let ⟨v, g1, g2⟩ := atI_ats h2 q
    ⟨p, vs, i, v, e1, at_int a2, sqt_same r2.sub h1, g1, N2, s1.trans s2, n1.trans n2, r2, g2⟩)
theorem ev_ixL {i : Int} (ha : Ev X H0 ρ a (.lst ds)) (hb : Ev X H0 ρ b (.int i)) (q : atI ds i = some d) (hs : PlainIx b := by exact fun _ _ => rfl) : Ev X H0 ρ (.Subscript a b pos) d := fun σ H N rp =>
  we_of (pe_ix ix_list pe_w pe_w hs) ((ha σ H N rp).imp fun x H1 ⟨N1, s1, n1, r1, a1⟩ => (hb.toB σ H1 N1 r1).imp fun y H2 ⟨N2, s2, n2, r2, a2⟩ =>
    let ⟨p, vs, e1, h1, h2⟩ := at_lst (a1.mono n2)
    let ⟨v, g1, g2⟩ := atI_ats h2 q
    ⟨p, vs, i, v, e1, at_int a2, sql_same r2.sub h1, g1, N2, s1.trans s2, n1.trans n2, r2, g2⟩)
theorem ev_ixS {z : Str} {i : Int} {k : Nat} (ha : Ev X H0 ρ a (.str z)) (hb : Ev X H0 ρ b (.int i)) (hz : z.length ≤ sizeLine) (q : atI z.cps.toList i = some k) (hs : PlainIx b := by exact fun _ _ => rfl) : Ev X H0 ρ (.Subscript a b pos) (.str ⟨#[k]⟩) :=
  ev_bin (fun _ _ h k => pe_ix ix_str h k hs) ha.toB hb.toB fun x y σ H N Q r p p2 g => ⟨z, i, k, at_str p, at_int p2, hz, q, goes_self g r (.str _)⟩
end
end B

namespace B
open PySem PySem.Spec PyProof.Rows L2

/-! ### how a block ends -/
inductive Outc where
  | nx (ρ : Env')
  | rt (d : Dat)
  | ex (n : Str) (ρ : Env')
  | bk (ρ : Env')
  | ct (ρ : Env')
  /-- an owned thing is handed out -/
  | ro (d : Dat)
def Cont (X : Cx) (H0 N : Hp) (D : Ends) : Outc → Prop
  | .nx ρ => ∀ σ H N', Same N N' → Rep X.K H0 ρ σ H N' → D.nx σ H
  | .rt d => ∀ v H, Same H0 H → Same N H → Ret X.K H0 v d H → D.rt v H
  | .ex n ρ => ∃ W, Takes X W ∧ ∀ C σ H N', X.mg n = some (.ref C) → Same N N' → Rep X.K H0 ρ σ H N' → W (.ref C) none σ H
  | .bk ρ => ∀ σ H N', Same N N' → Rep X.K H0 ρ σ H N' → D.bk σ H
  | .ct ρ => ∀ σ H N', Same N N' → Rep X.K H0 ρ σ H N' → D.ct σ H
  | .ro d => ∀ p H' N', Tk H' → Same H0 H' → Same N H' → Same N' H' → (∀ a u, N' a = some u → Mut (some u) → H0 a = none) → H0 p = none → N' p = none → Own X.K H' N' p d → D.rt (.ref p) H'
theorem Cont.mono {X : Cx} {H0 N N' : Hp} {D : Ends} {o : Outc} (c : Cont X H0 N D o) (s : Same N N') : Cont X H0 N' D o := by
  cases o with
  | nx ρ => exact fun σ H N2 s2 r => c σ H N2 (s.trans s2) r
  | rt d => exact fun v H a b r => c v H a (s.trans b) r
  | ex n ρ =>
    obtain ⟨W, t, k⟩ := c
    exact ⟨W, t, fun C σ H N2 m s2 r => k C σ H N2 m (s.trans s2) r⟩
  | bk ρ => exact fun σ H N2 s2 r => c σ H N2 (s.trans s2) r
  | ct ρ => exact fun σ H N2 s2 r => c σ H N2 (s.trans s2) r
  | ro d => exact fun p H' N2 tk a b r => c p H' N2 tk a (s.trans b) r
section
variable (X : Cx) (H0 : Hp) (ρ : Env')
def Exec (sts : List Stmt) (o : Outc) : Prop := ∀ D σ H N, Rep X.K H0 ρ σ H N → Cont X H0 N D o → WB X sts D σ H
def ExS (st : Stmt) (o : Outc) : Prop := ∀ D σ H N, Rep X.K H0 ρ σ H N → Cont X H0 N D o → WS X st D σ H
end
/-- what follows behind an end -/
def Thn (X : Cx) (H0 : Hp) (rest : List Stmt) (o1 o : Outc) : Prop := match o1 with
  | .nx ρ => Exec X H0 ρ rest o
  | o1 => o = o1

section
variable {X : Cx} {H0 : Hp} {ρ ρ1 ρ2 : Env'} {a b c e : Expr} {es : List Expr} {st : Stmt} {sts rest : List Stmt} {d d1 d2 : Dat} {ds : List Dat} {pos : Pos} {o o1 : Outc}
theorem ex_nil : Exec X H0 ρ [] (.nx ρ) := fun D σ H N r k => wb_of pss_nil (k σ H N (Same.refl _) r)
theorem ex_cons (h : ExS X H0 ρ st o1) (t : Thn X H0 rest o1 o) : Exec X H0 ρ (st :: rest) o := fun D σ H N r k => by
  refine wb_of (pss_cons ps_w pb_w) ?_
  show WS X st { D with nx := WB X rest D } σ H
  refine h _ σ H N r ?_
  cases o1 with
  | nx ρ' => exact fun σ' H' N' s r' => t D σ' H' N' r' (k.mono s)
  | rt d => cases (show o = _ from t); exact k
  | ex n ρ => cases (show o = _ from t); exact k
  | bk ρ => cases (show o = _ from t); exact k
  | ct ρ => cases (show o = _ from t); exact k
  | ro d => cases (show o = _ from t); exact k
theorem ex_one (h : ExS X H0 ρ st o) : Exec X H0 ρ [st] o := by
  refine ex_cons h ?_
  cases o with
  | nx ρ => exact ex_nil
  | _ => rfl
theorem ex_then (h : ExS X H0 ρ st (.nx ρ1)) (t : Exec X H0 ρ1 rest o) : Exec X H0 ρ (st :: rest) o := ex_cons h t
/-- an owned thing will not be changed any more -/
theorem ex_freeze (i : Nat) (hi : ρ[i]? = some (.ow d)) (h : Exec X H0 (ρ.set i (.im d)) sts o) : Exec X H0 ρ sts o := fun D σ H N r k => by
  obtain ⟨p, e1, h0, hn, ho⟩ := r.ow i d hi
  have r1 := r.drop i
  obtain ⟨N', s, r2, a⟩ := r1.freeze h0 hn ho (fun j d' q z => by
    rcases get_set q with ⟨_, q'⟩ | ⟨ne, q'⟩
    · cases q'
    · exact r.apart i j d d' p (Ne.symm ne) hi q' e1 z)
  have r3 := r2.setE (i := i) (v := .ref p) (e := .im d) a
  have eσ : σ.set i (some (V.ref p)) = σ := by
    apply List.ext_getElem?
    intro j
    by_cases hj : i = j
    · subst hj
      rw [List.getElem?_set_self (lt_of_get e1), e1]
    · rw [List.getElem?_set_ne hj]
  rw [eσ, List.set_set] at r3
  exact h D σ H N' r3 (k.mono s)
theorem ex_drop (i : Nat) (h : Exec X H0 (ρ.set i .no) sts o) : Exec X H0 ρ sts o := fun D σ H N r k => h D σ H N (r.drop i) k

/-! ### statements -/
theorem sx_pass : ExS X H0 ρ (.Pass pos) (.nx ρ) := fun D σ H N r k => ws_of ps_pass (k σ H N (Same.refl _) r)
theorem sx_break : ExS X H0 ρ (.Break pos) (.bk ρ) := fun D σ H N r k => ws_of ps_break (k σ H N (Same.refl _) r)
theorem sx_continue : ExS X H0 ρ (.Continue pos) (.ct ρ) := fun D σ H N r k => ws_of ps_continue (k σ H N (Same.refl _) r)
theorem sx_ret (h : Ev X H0 ρ e d) : ExS X H0 ρ (.Return (some e) pos) (.rt d) := fun D σ H N r k => ws_of (ps_ret pe_w) ((h σ H N r).imp fun v H' ⟨N', s, n, r', a⟩ => k v H' r'.old (n.trans r'.sub) ⟨r'.tab, N', r'.sub, r'.fresh, a⟩)
theorem sx_retN : ExS X H0 ρ (.Return none pos) (.rt .non) := fun D σ H N r k => ws_of ps_retN (k .non H r.old r.sub ⟨r.tab, N, r.sub, r.fresh, .non⟩)
theorem sx_set (i : Nat) {x : Str} {pos' : Pos} (h : Ev X H0 ρ e d) (nd : X.N.Nodup) (hρ : ρ.set i (.im d) = ρ1 := by rfl) (hi : X.N[i]? = some x := by rfl) (hx : Loc X.env.scope x := by first | exact Or.inl rfl | exact Or.inr rfl)
    (hs : swapsWith e (some (.Name x pos')) pos.line X.env = pure false := by rfl) (hf : X.fn x = true ∨ X.env.scope.names.lookup x = some .local := by first | exact .inl rfl | exact .inr rfl | assumption) : ExS X H0 ρ (.Assign [.Name x pos'] e pos) (.nx ρ1) := fun D σ H N r k =>
  ws_of (ps_set nd hi hx pe_w hs hf) ((h σ H N r).imp fun v H' ⟨N', s, n, r', a⟩ => k _ H' N' n (hρ ▸ r'.setE a))
theorem sx_setO (i : Nat) {x : Str} {pos' : Pos} (h : EvO X H0 ρ e d) (nd : X.N.Nodup) (hρ : ρ.set i (.ow d) = ρ1 := by rfl) (hi : X.N[i]? = some x := by rfl) (hx : Loc X.env.scope x := by first | exact Or.inl rfl | exact Or.inr rfl)
    (hs : swapsWith e (some (.Name x pos')) pos.line X.env = pure false := by rfl) (hf : X.fn x = true ∨ X.env.scope.names.lookup x = some .local := by first | exact .inl rfl | exact .inr rfl | assumption) : ExS X H0 ρ (.Assign [.Name x pos'] e pos) (.nx ρ1) := fun D σ H N r k =>
  ws_of (ps_set nd hi hx pe_w hs hf) ((h σ H N r).imp fun v H' ⟨N', p, e1, hp, s, n, r', np, ow⟩ => k _ H' N' n (hρ ▸ r'.setE (e := .ow d) ⟨p, e1, r.old.free hp, np, ow, fun j d' _ q => no_own r hp j d' q⟩))
theorem sx_expr (h : Ev X H0 ρ e d) (hs : swapsWith e none pos.line X.env = pure false := by rfl) : ExS X H0 ρ (.Expr e pos) (.nx ρ) := fun D σ H N r k => ws_of (ps_expr pe_w hs) ((h σ H N r).imp fun v H' ⟨N', s, n, r', a⟩ => k _ H' N' n r')
theorem sx_ifT {as bs : List Stmt} (hc : EvT X H0 ρ c true) (h : Exec X H0 ρ as o) : ExS X H0 ρ (.If c as bs pos) o := fun D σ H N r k => ws_of (ps_if pt_w pb_w pb_w) ((hc σ H N r).imp fun v H' ⟨e1, N', s, n, r'⟩ => by
  subst e1
  exact iteT (h D σ H' N' r' (k.mono n)))
theorem sx_ifF {as bs : List Stmt} (hc : EvT X H0 ρ c false) (h : Exec X H0 ρ bs o) : ExS X H0 ρ (.If c as bs pos) o := fun D σ H N r k => ws_of (ps_if pt_w pb_w pb_w) ((hc σ H N r).imp fun v H' ⟨e1, N', s, n, r'⟩ => by
  subst e1
  exact iteF (h D σ H' N' r' (k.mono n)))
/-- an if without else that is not taken -/
theorem sx_skip {as : List Stmt} (hc : EvT X H0 ρ c false) : ExS X H0 ρ (.If c as [] pos) (.nx ρ) := sx_ifF hc ex_nil
theorem sx_if {as bs : List Stmt} {k : Bool} (hc : EvT X H0 ρ c k) (h1 : k = true → Exec X H0 ρ as o) (h2 : k = false → Exec X H0 ρ bs o) : ExS X H0 ρ (.If c as bs pos) o := by
  cases k with
  | true => exact sx_ifT hc (h1 rfl)
  | false => exact sx_ifF hc (h2 rfl)
theorem ex_if {as bs : List Stmt} {k : Bool} (hc : EvT X H0 ρ c k) (h1 : k = true → Exec X H0 ρ (.If c as bs pos :: rest) o) (h2 : k = false → Exec X H0 ρ (.If c as bs pos :: rest) o) : Exec X H0 ρ (.If c as bs pos :: rest) o := by
  cases k with
  | true => exact h1 rfl
  | false => exact h2 rfl

/-! ### while -/
/-- the turns of a while -/
inductive WhileT (X : Cx) (H0 : Hp) (c : Expr) (body : List Stmt) : Env' → Outc → Prop where
  | done {ρ : Env'} : EvT X H0 ρ c false → WhileT X H0 c body ρ (.nx ρ)
  | turn {ρ ρ1 : Env'} {o : Outc} : EvT X H0 ρ c true → Exec X H0 ρ body (.nx ρ1) → WhileT X H0 c body ρ1 o → WhileT X H0 c body ρ o
  | turnC {ρ ρ1 : Env'} {o : Outc} : EvT X H0 ρ c true → Exec X H0 ρ body (.ct ρ1) → WhileT X H0 c body ρ1 o → WhileT X H0 c body ρ o
  | brk {ρ ρ1 : Env'} : EvT X H0 ρ c true → Exec X H0 ρ body (.bk ρ1) → WhileT X H0 c body ρ (.nx ρ1)
  | ret {ρ : Env'} {d : Dat} : EvT X H0 ρ c true → Exec X H0 ρ body (.rt d) → WhileT X H0 c body ρ (.rt d)
  | exc {ρ ρ1 : Env'} {n : Str} : EvT X H0 ρ c true → Exec X H0 ρ body (.ex n ρ1) → WhileT X H0 c body ρ (.ex n ρ1)
  | retO {ρ : Env'} {d : Dat} : EvT X H0 ρ c true → Exec X H0 ρ body (.ro d) → WhileT X H0 c body ρ (.ro d)
/-- .. counted -/
def WhileN (X : Cx) (H0 : Hp) (c : Expr) (body : List Stmt) (o : Outc) : Nat → Env' → Prop
  | 0, ρ => (EvT X H0 ρ c false ∧ o = .nx ρ) ∨ (EvT X H0 ρ c true ∧ ((∃ ρ1, Exec X H0 ρ body (.bk ρ1) ∧ o = .nx ρ1) ∨ (∃ d, Exec X H0 ρ body (.rt d) ∧ o = .rt d) ∨ (∃ d, Exec X H0 ρ body (.ro d) ∧ o = .ro d) ∨ ∃ n ρ1, Exec X H0 ρ body (.ex n ρ1) ∧ o = .ex n ρ1))
  | m + 1, ρ => ∃ ρ1, EvT X H0 ρ c true ∧ (Exec X H0 ρ body (.nx ρ1) ∨ Exec X H0 ρ body (.ct ρ1)) ∧ WhileN X H0 c body o m ρ1
theorem WhileT.count {body : List Stmt} (h : WhileT X H0 c body ρ o) : ∃ m, WhileN X H0 c body o m ρ := by
  induction h with
  | done h => exact ⟨0, .inl ⟨h, rfl⟩⟩
  | turn h1 h2 _ ih => obtain ⟨m, q⟩ := ih; exact ⟨m + 1, _, h1, .inl h2, q⟩
  | turnC h1 h2 _ ih => obtain ⟨m, q⟩ := ih; exact ⟨m + 1, _, h1, .inr h2, q⟩
  | brk h1 h2 => exact ⟨0, .inr ⟨h1, .inl ⟨_, h2, rfl⟩⟩⟩
  | ret h1 h2 => exact ⟨0, .inr ⟨h1, .inr (.inl ⟨_, h2, rfl⟩)⟩⟩
  | exc h1 h2 => exact ⟨0, .inr ⟨h1, .inr (.inr (.inr ⟨_, _, h2, rfl⟩))⟩⟩
  | retO h1 h2 => exact ⟨0, .inr ⟨h1, .inr (.inr (.inl ⟨_, h2, rfl⟩))⟩⟩
theorem sx_while {body : List Stmt} (hp : PassesOwn (model X.prog X.w) X.A X.env X.xe) (h : WhileT X H0 c body ρ o) : ExS X H0 ρ (.While c body [] pos) o := fun D σ H N r k => by
  obtain ⟨m0, h0⟩ := h.count
  refine ws_of (ps_while hp pt_w pb_w) ⟨fun m σ' H' => ∃ ρ' N', Same N N' ∧ Rep X.K H0 ρ' σ' H' N' ∧ WhileN X H0 c body o m ρ', ⟨m0, ρ, N, Same.refl _, r, h0⟩, ?_⟩
  rintro m σ' H' ⟨ρ', N', s, r', w⟩
  cases m with
  | zero =>
    rcases w with ⟨hc, eo⟩ | ⟨hc, w⟩
    · refine (hc σ' H' N' r').imp fun b H1 ⟨eb, N1, s1, n1, r1⟩ => ?_
      subst eb
      subst eo
      exact iteF (k σ' H1 N1 (s.trans n1) r1)
    · refine (hc σ' H' N' r').imp fun b H1 ⟨eb, N1, s1, n1, r1⟩ => ?_
      subst eb
      refine iteT ⟨fun _ _ => False, fun _ _ z => z.elim, ?_⟩
      rcases w with ⟨ρ1, hb, eo⟩ | ⟨d, hb, eo⟩ | ⟨d, hb, eo⟩ | ⟨n, ρ1, hb, eo⟩
      · subst eo
        exact hb _ σ' H1 N1 r1 fun σ2 H2 N2 s2 r2 => k σ2 H2 N2 ((s.trans n1).trans s2) r2
      · subst eo
        exact hb _ σ' H1 N1 r1 (Cont.mono (o := .rt d) k (s.trans n1))
      · subst eo
        exact hb _ σ' H1 N1 r1 (Cont.mono (o := .ro d) k (s.trans n1))
      · subst eo
        exact hb _ σ' H1 N1 r1 (Cont.mono (o := .ex n ρ1) k (s.trans n1))
  | succ m =>
    obtain ⟨ρ1, hc, hb, w⟩ := w
    refine (hc σ' H' N' r').imp fun b H1 ⟨eb, N1, s1, n1, r1⟩ => ?_
    subst eb
    refine iteT ⟨fun σ2 H2 => ∃ N2, Same N N2 ∧ Rep X.K H0 ρ1 σ2 H2 N2, fun σ2 H2 ⟨N2, s2, r2⟩ => ⟨m, Nat.lt_succ_self m, ρ1, N2, s2, r2, w⟩, ?_⟩
    rcases hb with hb | hb
    · exact hb _ σ' H1 N1 r1 fun σ2 H2 N2 s2 r2 => ⟨N2, (s.trans n1).trans s2, r2⟩
    · exact hb _ σ' H1 N1 r1 fun σ2 H2 N2 s2 r2 => ⟨N2, (s.trans n1).trans s2, r2⟩


/-! ### what is walked -/
/-- it goes through ds -/
def Walks (K : PySem.W.Frag) (H0 : Hp) (J : It) (N1 : Hp) (ds : List Dat) : Prop := ∀ (H0' : Hp) (ρ : Env') (σ : L2.St) (H N : Hp) (i : Nat), Same H0 H0' → Same N1 N → Rep K H0' ρ σ H N →
  (i < ds.length → J.go i H ∧ ∀ x H', J.yld i H x H' → ∃ N' d, Same N N' ∧ Same H H' ∧ Rep K H0' ρ σ H' N' ∧ ds[i]? = some d ∧ At K N' x d) ∧ (i = ds.length → J.stop i H)
def Iter (X : Cx) (H0 : Hp) (ρ : Env') (t e : Expr) (ds : List Dat) : Prop := ∃ wi, PI X t e wi ∧ ∀ σ H N, Rep X.K H0 ρ σ H N → ∀ R, (∀ J H1 N1, Same N N1 → Same H H1 → Rep X.K H0 ρ σ H1 N1 → Walks X.K H0 J N1 ds → R J H1) → wi σ H R
theorem it_list {t : Expr} (h : Ev X H0 ρ e (.lst ds)) : Iter X H0 ρ t e ds := ⟨_, pi_list pe_w, fun σ H N r R k => (h σ H N r).imp fun v H' ⟨N', s, n, r', a⟩ => by
  obtain ⟨p, vs, rfl, h1, h2⟩ := at_lst a
  refine ⟨p, rfl, ⟨vs, sql_same r'.sub h1⟩, k _ H' N' n s r' fun H02 ρ2 σ2 H2 N2 i s02 s2 r2 => ⟨fun hi => ?_, fun hi => ⟨vs, sql_same (s2.trans r2.sub) h1, by rw [h2.length]; exact Nat.le_of_eq hi.symm⟩⟩⟩
  have hv : i < vs.length := by rw [h2.length]; exact hi
  refine ⟨⟨vs, vs[i], sql_same (s2.trans r2.sub) h1, by simp [hv]⟩, fun x H3 y => ?_⟩
  obtain ⟨rfl, y⟩ := y
  obtain ⟨d, e1, e2⟩ := h2.getV (y vs (sql_same (s2.trans r2.sub) h1))
  exact ⟨N2, d, Same.refl _, Same.refl _, r2, e1, e2.mono s2⟩⟩
theorem it_ol (i : Nat) {t : Expr} {x : Str} (h : ρ[i]? = some (.ol (.lst ds))) (f : flats ds = true) (hN : X.N[i]? = some x := by rfl) (hv : Vis X.env.scope x := by first | exact Or.inl rfl | exact Or.inr (Or.inl rfl) | exact Or.inr (Or.inr rfl)) (hd : (x == ("__debug__" : Str)) = false := by decide)
    (hcd : (x == ("__classdict__" : Str)) = false := by decide) : Iter X H0 ρ t (.Name x pos) ds := ⟨_, pi_list (pv i hN hv hd hcd), fun σ H N r R k => by
  obtain ⟨v, e1, a⟩ := r.ol i _ h
  obtain ⟨p, vs, rfl, h1, h2⟩ := at_lst a
  refine ⟨_, e1, p, rfl, ⟨vs, sql_same r.old h1⟩, k _ H N (Same.refl _) (Same.refl _) r fun H02 ρ2 σ2 H2 N2 j s02 s2 r2 => ⟨fun hi => ?_, fun hi => ⟨vs, sql_same (s02.trans r2.old) h1, by rw [h2.length]; exact Nat.le_of_eq hi.symm⟩⟩⟩
  have hv : j < vs.length := by rw [h2.length]; exact hi
  refine ⟨⟨vs, vs[j], sql_same (s02.trans r2.old) h1, by simp [hv]⟩, fun x H3 y => ?_⟩
  obtain ⟨rfl, y⟩ := y
  obtain ⟨d, e2, e3⟩ := (h2.imm f).getV (y vs (sql_same (s02.trans r2.old) h1))
  exact ⟨N2, d, Same.refl _, Same.refl _, r2, e2, (e3.mono (imm_same s02)).mono r2.imm⟩⟩
theorem it_tup {t : Expr} (h : Ev X H0 ρ e (.tup ds)) : Iter X H0 ρ t e ds := ⟨_, pi_tup pe_w, fun σ H N r R k => (h σ H N r).imp fun v H' ⟨N', s, n, r', a⟩ => by
  obtain ⟨p, vs, rfl, h1, h2⟩ := at_seq a
  refine ⟨p, rfl, ⟨vs, sqt_same r'.sub h1⟩, k _ H' N' n s r' fun H02 ρ2 σ2 H2 N2 i s02 s2 r2 => ⟨fun hi => ?_, fun hi => ⟨vs, sqt_same (s2.trans r2.sub) h1, by rw [h2.length]; exact Nat.le_of_eq hi.symm⟩⟩⟩
  have hv : i < vs.length := by rw [h2.length]; exact hi
  refine ⟨⟨vs, vs[i], sqt_same (s2.trans r2.sub) h1, by simp [hv]⟩, fun x H3 y => ?_⟩
  obtain ⟨rfl, y⟩ := y
  obtain ⟨d, e1, e2⟩ := h2.getV (y vs (sqt_same (s2.trans r2.sub) h1))
  exact ⟨N2, d, Same.refl _, Same.refl _, r2, e1, e2.mono s2⟩⟩
/-- the signs of a text, each a text -/
def signs (z : Str) : List Dat := z.cps.toList.map fun c => .str ⟨#[c]⟩
theorem it_str {t : Expr} {z : Str} (h : Ev X H0 ρ e (.str z)) : Iter X H0 ρ t e (signs z) := ⟨_, pi_str pe_w, fun σ H N r R k => (h σ H N r).imp fun v H' ⟨N', s, n, r', a⟩ => by
  refine ⟨z, at_str a, k _ H' N' n s r' fun H02 ρ2 σ2 H2 N2 i s02 s2 r2 => ⟨fun hi => ?_, fun hi => ?_⟩⟩
  · have hz : i < z.cps.size := by simpa [signs] using hi
    refine ⟨hz, fun x H3 y => ?_⟩
    obtain ⟨rfl, c, y1, rfl⟩ := y
    refine ⟨N2, .str ⟨#[c]⟩, Same.refl _, Same.refl _, r2, ?_, .str _⟩
    unfold signs
    rw [List.getElem?_map, Array.getElem?_toList, y1]
    rfl
  · show z.cps.size ≤ i
    rw [hi]
    simp [signs]⟩
/-- lo, lo + c, .. -/
def steps (lo c : Int) (n : Nat) : List Dat := (List.range n).map fun i : Nat => .int (lo + (i : Int) * c)
theorem steps_len {lo c : Int} {n : Nat} : (steps lo c n).length = n := by simp [steps]
theorem steps_get {lo c : Int} {n i : Nat} (h : i < n) : (steps lo c n)[i]? = some (.int (lo + (i : Int) * c)) := by
  unfold steps
  rw [List.getElem?_map, List.getElem?_range h]
  rfl
theorem wlk_r {K : PySem.W.Frag} {lo : Int} {n : Nat} {N1 : Hp} : Walks K H0 (Itr lo n) N1 (steps lo 1 n) := fun H02 ρ2 σ2 H2 N2 i s02 s2 r2 => by
  refine ⟨fun hi => ?_, fun hi => by rw [steps_len] at hi; exact Nat.le_of_eq hi.symm⟩
  rw [steps_len] at hi
  refine ⟨hi, fun x H3 y => ?_⟩
  obtain ⟨rfl, rfl⟩ := y
  exact ⟨N2, _, Same.refl _, Same.refl _, r2, steps_get hi, by rw [Int.mul_one]; exact .int _⟩
theorem wlk_c {K : PySem.W.Frag} {lo c : Int} {n : Nat} {N1 : Hp} : Walks K H0 (Itc lo c n) N1 (steps lo c n) := fun H02 ρ2 σ2 H2 N2 i s02 s2 r2 => by
  refine ⟨fun hi => ?_, fun hi => by rw [steps_len] at hi; exact Nat.le_of_eq hi.symm⟩
  rw [steps_len] at hi
  refine ⟨hi, fun x H3 y => ?_⟩
  obtain ⟨rfl, rfl⟩ := y
  exact ⟨N2, _, Same.refl _, Same.refl _, r2, steps_get hi, .int _⟩
theorem ats1 {K : PySem.W.Frag} {H : Hp} {vs : List V} {i : Int} (h : Ats K H vs [.int i]) : vs = [.int i] := Ats.ints (ns := [i]) h
theorem ats2 {K : PySem.W.Frag} {H : Hp} {vs : List V} {i j : Int} (h : Ats K H vs [.int i, .int j]) : vs = [.int i, .int j] := Ats.ints (ns := [i, j]) h
theorem ats3 {K : PySem.W.Frag} {H : Hp} {vs : List V} {i j k : Int} (h : Ats K H vs [.int i, .int j, .int k]) : vs = [.int i, .int j, .int k] := Ats.ints (ns := [i, j, k]) h
theorem it_range1 {t : Expr} {p : Pos} {j : Int} (h : Ev X H0 ρ a (.int j)) (b1 : -(2 ^ 62) ≤ j) (b2 : j < 2 ^ 62) (hm : X.mg "range" = none) (hg : Gl X "range" := by rfl) (hs : starEach [a] X.env = [(false, eval a X.env)] := by rfl) :
    Iter X H0 ρ t (.Call (.Name "range" p) [a] [] pos) (steps 0 1 j.toNat) := ⟨_, pi_range1 hg hm pa_w hs, fun σ H N r R k => (ea_cons h ea_nil (hs := hs) σ H N r).imp fun vs H' ⟨N', s, n, r', q⟩ => ⟨j, ats1 q, b1, b2, k _ H' N' n s r' wlk_r⟩⟩
theorem it_range2 {t : Expr} {p : Pos} {i j : Int} (h : Ev X H0 ρ a (.int i)) (h2 : Ev X H0 ρ b (.int j)) (bb : -(2 ^ 62) ≤ i ∧ i < 2 ^ 62 ∧ -(2 ^ 62) ≤ j ∧ j < 2 ^ 62) (hm : X.mg "range" = none) (hg : Gl X "range" := by rfl)
    (hs : starEach [a, b] X.env = [(false, eval a X.env), (false, eval b X.env)] := by rfl) (hs2 : starEach [b] X.env = [(false, eval b X.env)] := by rfl) :
    Iter X H0 ρ t (.Call (.Name "range" p) [a, b] [] pos) (steps i 1 (j - i).toNat) := ⟨_, pi_range2 hg hm pa_w hs hs2, fun σ H N r R k => (ea_cons h (ea_cons h2 ea_nil (hs := hs2)) (hs := by rw [hs, hs2]) σ H N r).imp fun vs H' ⟨N', s, n, r', q⟩ => ⟨i, j, ats2 q, bb, k _ H' N' n s r' wlk_r⟩⟩
theorem it_range3 {t : Expr} {p : Pos} {i j c' : Int} {n : Nat} (h : Ev X H0 ρ a (.int i)) (h2 : Ev X H0 ρ b (.int j)) (h3 : Ev X H0 ρ c (.int c')) (hr : RgC i j c' n) (hm : X.mg "range" = none) (hg : Gl X "range" := by rfl)
    (hs : ∀ l, PA X [a, b, c] l → PI X t (.Call (.Name "range" p) [a, b, c] [] pos) (iRng3 l) := by exact fun _ h => pi_range3 rfl (by assumption) h) (s1 : starEach [a, b, c] X.env = (false, eval a X.env) :: starEach [b, c] X.env := by rfl) (s2 : starEach [b, c] X.env = (false, eval b X.env) :: starEach [c] X.env := by rfl) (s3 : starEach [c] X.env = (false, eval c X.env) :: starEach [] X.env := by rfl) :
    Iter X H0 ρ t (.Call (.Name "range" p) [a, b, c] [] pos) (steps i c' n) := ⟨_, hs _ pa_w, fun σ H N r R k => (ea_cons h (ea_cons h2 (ea_cons h3 ea_nil (hs := s3)) (hs := s2)) (hs := s1) σ H N r).imp fun vs H' ⟨N', s, n', r', q⟩ => ⟨i, j, c', n, ats3 q, hr, k _ H' N' n' s r' wlk_c⟩⟩

/-! ### for -/
/-- what a target makes of an item: the names' entries -/
structure Tgt (X : Cx) (H0 : Hp) (t : Expr) (ok : Dat → Prop) (B : Dat → Env' → Env') : Prop where
  pg : ∃ g, PG X t g ∧ ∀ (ρ : Env') (σ : L2.St) (H N : Hp) (v : V) (d : Dat), Rep X.K H0 ρ σ H N → At X.K N v d → ok d → ∀ Q, (∀ σ' H' N', Same N N' → Rep X.K H0 (B d ρ) σ' H' N' → Q σ' H') → g v σ H Q
theorem tg_name (i : Nat) {x : Str} (nd : X.N.Nodup) (hi : X.N[i]? = some x := by rfl) (hx : Loc X.env.scope x := by first | exact Or.inl rfl | exact Or.inr rfl)
    (hf : X.fn x = true ∨ X.env.scope.names.lookup x = some .local := by first | exact .inl rfl | exact .inr rfl | assumption) : Tgt X H0 (.Name x pos) (fun _ => True) (fun d ρ => ρ.set i (.im d)) :=
  ⟨gName i, pg_name nd hi hx hf, fun ρ σ H N v d r a _ Q k => k _ H N (Same.refl _) (r.setE (e := .im d) a)⟩
/-- the turns of a for, what is left to be walked first -/
inductive ForT (X : Cx) (H0 : Hp) (B : Dat → Env' → Env') (body : List Stmt) : List Dat → Env' → Outc → Prop where
  | nil {ρ : Env'} : ForT X H0 B body [] ρ (.nx ρ)
  | turn {ρ ρ1 : Env'} {d : Dat} {ds : List Dat} {o : Outc} : Exec X H0 (B d ρ) body (.nx ρ1) → ForT X H0 B body ds ρ1 o → ForT X H0 B body (d :: ds) ρ o
  | turnC {ρ ρ1 : Env'} {d : Dat} {ds : List Dat} {o : Outc} : Exec X H0 (B d ρ) body (.ct ρ1) → ForT X H0 B body ds ρ1 o → ForT X H0 B body (d :: ds) ρ o
  | brk {ρ ρ1 : Env'} {d : Dat} {ds : List Dat} : Exec X H0 (B d ρ) body (.bk ρ1) → ForT X H0 B body (d :: ds) ρ (.nx ρ1)
  | ret {ρ : Env'} {d r : Dat} {ds : List Dat} : Exec X H0 (B d ρ) body (.rt r) → ForT X H0 B body (d :: ds) ρ (.rt r)
  | exc {ρ ρ1 : Env'} {d : Dat} {ds : List Dat} {n : Str} : Exec X H0 (B d ρ) body (.ex n ρ1) → ForT X H0 B body (d :: ds) ρ (.ex n ρ1)
  | retO {ρ : Env'} {d r : Dat} {ds : List Dat} : Exec X H0 (B d ρ) body (.ro r) → ForT X H0 B body (d :: ds) ρ (.ro r)
theorem sx_for {t iter : Expr} {body : List Stmt} {bd : Dat → Env' → Env'} {ok : Dat → Prop} (hp : PassesOwn (model X.prog X.w) X.A X.env X.xe) (hc : X.calm = true) (hi : Iter X H0 ρ t iter ds) (hg : Tgt X H0 t ok bd) (hk : ∀ d ∈ ds, ok d) (h : ForT X H0 bd body ds ρ o)
    (hs : ∀ x, foldedSetIterable iter X.env x = pure x := by intro _; rfl) : ExS X H0 ρ (.For t iter body [] pos) o := fun D σ H N r k => by
  obtain ⟨wi, pi, hw⟩ := hi
  obtain ⟨g, pg, hgg⟩ := hg.pg
  refine ws_of (ps_for hp hc pi pg pb_w hs) (hw σ H N r _ fun J H1 N1 n1 s1 r1 w => ?_)
  refine ⟨fun i m σ' H' => m = ds.length - i ∧ i ≤ ds.length ∧ ∃ ρ' N', Same N1 N' ∧ Rep X.K H0 ρ' σ' H' N' ∧ ForT X H0 bd body (ds.drop i) ρ' o, ⟨_, rfl, Nat.zero_le _, ρ, N1, Same.refl _, r1, h⟩, ?_⟩
  rintro i m σ' H' ⟨rfl, hi, ρ', N', s', r', f⟩
  obtain ⟨wg, wst⟩ := w H0 ρ' σ' H' N' i (Same.refl _) s' r'
  by_cases hlt : i < ds.length
  · obtain ⟨go, yl⟩ := wg hlt
    have e1 : ds.drop i = ds[i] :: ds.drop (i + 1) := List.drop_eq_getElem_cons hlt
    rw [e1] at f
    have base : ∀ (O : Outc) (Dx : Ends), Exec X H0 (bd ds[i] ρ') body O → (∀ N3, Same N1 N3 → Cont X H0 N3 Dx O) → ∀ x H2, J.yld i H' x H2 → g x σ' H2 fun σ3 H3 => WB X body Dx σ3 H3 := fun O Dx ex kk x H2 y => by
      obtain ⟨N3, d, n3, s3, r3, e3, a3⟩ := yl x H2 y
      have ed : d = ds[i] := by
        rw [List.getElem?_eq_getElem hlt] at e3
        exact (Option.some.inj e3).symm
      subst ed
      exact hgg ρ' σ' H2 N3 x _ r3 a3 (hk _ (List.getElem_mem hlt)) _ fun σ4 H4 N4 n4 r4 => ex Dx σ4 H4 N4 r4 (kk N4 ((s'.trans n3).trans n4))
    have again : ∀ ρ1, ForT X H0 bd body (ds.drop (i + 1)) ρ1 o → ∀ σ3 H3, (∃ N3, Same N1 N3 ∧ Rep X.K H0 ρ1 σ3 H3 N3) → ∃ m', m' < ds.length - i ∧ m' = ds.length - (i + 1) ∧ i + 1 ≤ ds.length ∧ ∃ ρ' N', Same N1 N' ∧ Rep X.K H0 ρ' σ3 H3 N' ∧ ForT X H0 bd body (ds.drop (i + 1)) ρ' o :=
      fun ρ1 ff σ3 H3 ⟨N3, q1, q2⟩ => ⟨ds.length - (i + 1), by omega, rfl, hlt, ρ1, N3, q1, q2, ff⟩
    cases f with
    | @turn _ ρ1 _ _ _ ex ff => exact .inr ⟨go, fun σ3 H3 => ∃ N3, Same N1 N3 ∧ Rep X.K H0 ρ1 σ3 H3 N3, again ρ1 ff, base (.nx ρ1) _ ex fun N3 q3 σ3 H3 N4 q4 r4 => ⟨N4, q3.trans q4, r4⟩⟩
    | @turnC _ ρ1 _ _ _ ex ff => exact .inr ⟨go, fun σ3 H3 => ∃ N3, Same N1 N3 ∧ Rep X.K H0 ρ1 σ3 H3 N3, again ρ1 ff, base (.ct ρ1) _ ex fun N3 q3 σ3 H3 N4 q4 r4 => ⟨N4, q3.trans q4, r4⟩⟩
    | @brk _ ρ1 _ _ ex => exact .inr ⟨go, fun _ _ => False, fun _ _ z => z.elim, base (.bk ρ1) _ ex fun N3 q3 σ3 H3 N4 q4 r4 => k σ3 H3 N4 ((n1.trans q3).trans q4) r4⟩
    | ret ex => exact .inr ⟨go, fun _ _ => False, fun _ _ z => z.elim, base _ _ ex fun N3 q3 => Cont.mono (o := .rt _) k (n1.trans q3)⟩
    | retO ex => exact .inr ⟨go, fun _ _ => False, fun _ _ z => z.elim, base _ _ ex fun N3 q3 => Cont.mono (o := .ro _) k (n1.trans q3)⟩
    | @exc _ ρ1 _ _ n ex => exact .inr ⟨go, fun _ _ => False, fun _ _ z => z.elim, base (.ex n ρ1) _ ex fun N3 q3 => Cont.mono (o := .ex n ρ1) k (n1.trans q3)⟩
  · have e1 : i = ds.length := by omega
    subst e1
    rw [List.drop_length] at f
    cases f
    exact .inl ⟨wst rfl, k σ' H' N' (n1.trans s') r'⟩
end
end B

namespace B
open PySem PySem.Spec PyProof.Rows L2

/-! ### what a def does: R of the data handed in and of its end -/
inductive Res where
  | val (d : Dat)
  /-- a new list or dict, the caller's own -/
  | own (d : Dat)
  | exc (n : Str)
def spR (K : PySem.W.Frag) (mg : Str → Option Value) (R : List Dat → Res → Prop) : Sp := fun vs H Q E => Tk H ∧ ∃ ds o, R ds o ∧ Ats K H vs ds ∧ match o with
  | .val d => ∀ v H', Same H H' → Ret K H v d H' → Q v H'
  | .own d => ∀ p H' N, Tk H' → Same H H' → Same N H' → (∀ a u, N a = some u → Mut (some u) → H a = none) → H p = none → N p = none → Own K H' N p d → Q (.ref p) H'
  | .exc n => ∀ C H', mg n = some (.ref C) → Tk H' → Same H H' → E (.ref C) none H'
def GFn (P : Program) (w : World) (K : PySem.W.Frag) (mg : Str → Option Value) (base : Heap) (x : Str) (k : Nat) (R : List Dat → Res → Prop) : Prop :=
  ∃ f fd ps, FnOk P w K mg base (L2.CX P w) k f fd ps (spR K mg R) ∧ mg x = some (.ref f) ∧ PySem.W.keepIn K (.ref f) = true ∧ Binds K fd ps []
/-- a def of the text as it stands behind the top -/
def Df (K : PySem.W.Frag) (mg : Str → Option Value) (x : Str) (st : Stmt) (ps : List Str) : Prop := ∃ f fd, Fun K x x st f fd ∧ mg x = some (.ref f) ∧ Binds K fd ps []

inductive Ents : List Ent → List Dat → Prop where
  | nil : Ents [] []
  | im {d : Dat} {es : List Ent} {ds : List Dat} (f : flat d = true) : Ents es ds → Ents (.im d :: es) (d :: ds)
  | ol {d : Dat} {es : List Ent} {ds : List Dat} : Ents es ds → Ents (.ol d :: es) (d :: ds)
/-- a block's end as a def's -/
def Outc.ok : Outc → Res → Prop
  | .nx _, .val .non => True
  | .rt d, .val e => d = e
  | .ex n _, .exc m => n = m
  | _, _ => False
theorem Ents.get {K : PySem.W.Frag} {H : Hp} : ∀ {es : List Ent} {ds : List Dat} {vs : List V}, Ents es ds → Ats K H vs ds → ∀ i : Nat, (es[i]? = none ∧ vs[i]? = none) ∨ ∃ v, vs[i]? = some v ∧ ((∃ d, es[i]? = some (Ent.im d) ∧ At K (Imm H) v d) ∨ ∃ d, es[i]? = some (Ent.ol d) ∧ At K H v d)
  | _, _, _, .nil, .nil, i => .inl ⟨by simp, by simp⟩
  | _, _, _, .im f _, .cons a _, 0 => .inr ⟨_, rfl, .inl ⟨_, rfl, a.imm f⟩⟩
  | _, _, _, .ol _, .cons a _, 0 => .inr ⟨_, rfl, .inr ⟨_, rfl, a⟩⟩
  | _, _, _, .im _ t, .cons _ b, i + 1 => by simpa using Ents.get t b i
  | _, _, _, .ol t, .cons _ b, i + 1 => by simpa using Ents.get t b i
theorem Ents.length : ∀ {es : List Ent} {ds : List Dat}, Ents es ds → es.length = ds.length
  | _, _, .nil => rfl
  | _, _, .im _ t => congrArg (· + 1) (Ents.length t)
  | _, _, .ol t => congrArg (· + 1) (Ents.length t)
theorem rep_start {K : PySem.W.Frag} {H : Hp} {es : List Ent} {ds : List Dat} {vs : List V} {N : List Str} (tk : Tk H) (e : Ents es ds) (a : Ats K H vs ds) : Rep K H (es ++ List.replicate (N.length - vs.length) .no) (L2.start N vs) H (Imm H) := by
  have hl : es.length = vs.length := by rw [e.length, a.length]
  have geE : ∀ (i : Nat) x, (es ++ List.replicate (N.length - vs.length) Ent.no)[i]? = some x → x ≠ .no → es[i]? = some x := fun i x h n => by
    by_cases hi : i < es.length
    · rw [List.getElem?_append_left hi] at h; exact h
    · rw [List.getElem?_append_right (by omega), List.getElem?_replicate] at h
      split at h
      · cases h; exact (n rfl).elim
      · cases h
  have geV : ∀ (i : Nat) v, vs[i]? = some v → (L2.start N vs)[i]? = some (some v) := fun i v h => by
    unfold L2.start
    rw [List.getElem?_append_left (by rw [List.length_map]; exact (List.getElem?_eq_some_iff.mp h).1), List.getElem?_map, h]
    rfl
  refine ⟨tk, Same.refl _, imm_sub H, Same.refl _, fun b u h m => (imm_not h m).elim, ?_, fun i d h => ?_, fun i d h => ?_, fun i d h => ?_, fun i d h => ?_, fun i j d d' p ne h => ?_⟩
  · unfold L2.start
    simp [hl]
  · have h1 := geE i _ h (fun z => nomatch z)
    rcases e.get a i with ⟨h2, _⟩ | ⟨v, hv, ⟨d', h2, q⟩ | ⟨d', h2, q⟩⟩
    · rw [h1] at h2; cases h2
    · rw [h1] at h2; cases h2; exact ⟨v, geV i v hv, q⟩
    · rw [h1] at h2; cases h2
  · have h1 := geE i _ h (fun z => nomatch z)
    rcases e.get a i with ⟨h2, _⟩ | ⟨v, hv, ⟨d', h2, q⟩ | ⟨d', h2, q⟩⟩
    · rw [h1] at h2; cases h2
    · rw [h1] at h2; cases h2
    · rw [h1] at h2; cases h2; exact ⟨v, geV i v hv, q⟩
  · have h1 := geE i _ h (fun z => nomatch z)
    rcases e.get a i with ⟨h2, _⟩ | ⟨v, hv, ⟨d', h2, q⟩ | ⟨d', h2, q⟩⟩ <;> (rw [h1] at h2; cases h2)
  · have h1 := geE i _ h (fun z => nomatch z)
    rcases e.get a i with ⟨h2, _⟩ | ⟨v, hv, ⟨d', h2, q⟩ | ⟨d', h2, q⟩⟩ <;> (rw [h1] at h2; cases h2)
  · have h1 := geE i _ h (fun z => nomatch z)
    rcases e.get a i with ⟨h2, _⟩ | ⟨v, hv, ⟨d', h2, q⟩ | ⟨d', h2, q⟩⟩ <;> (rw [h1] at h2; cases h2)
/-- the context of a def's body -/
abbrev XX (P : Program) (w : World) (K : PySem.W.Frag) (mg : Str → Option Value) (base : Heap) (N : List Str) (x : Str) (st : Stmt) (f : Addr) (cdv : Value) (A : Around) (outer : List PySem.Env) (s : Shared) (H : Hp) (E : XK) : Cx :=
  cxOf (L2.CX P w) P w K mg base N x (defScope st) f cdv A outer s H E
/-- a block's end as it is asked of a def's body -/
inductive Ends' (X : Cx) (H0 : Hp) (ρ : Env') (body : List Stmt) : Res → Prop where
  | ret {d : Dat} : Exec X H0 ρ body (.rt d) → Ends' X H0 ρ body (.val d)
  | non {ρ1 : Env'} : Exec X H0 ρ body (.nx ρ1) → Ends' X H0 ρ body (.val .non)
  | exc {ρ1 : Env'} {n : Str} : Exec X H0 ρ body (.ex n ρ1) → Ends' X H0 ρ body (.exc n)
  | own {d : Dat} : Exec X H0 ρ body (.ro d) → Ends' X H0 ρ body (.own d)
/-- an owned thing is handed out -/
def ExecO (X : Cx) (H0 : Hp) (ρ : Env') (sts : List Stmt) (d : Dat) : Prop := ∀ D σ H N, Rep X.K H0 ρ σ H N → (∀ p H' N', Tk H' → Same H0 H' → Same N' H' → (∀ a u, N' a = some u → Mut (some u) → H0 a = none) → H0 p = none → N' p = none → Own X.K H' N' p d → D.rt (.ref p) H') → WB X sts D σ H
section
variable {P : Program} {w : World} {K : PySem.W.Frag} {mg : Str → Option Value} {base : Heap} {x : Str} {st : Stmt} {ps N : List Str} {k : Nat} {R : List Dat → Res → Prop}
/-- THE RULE for a def -/
theorem GFn.mk (D : Df K mg x st ps) (S : FnScope N ps (defScope st)) (hl : ∀ ds o, R ds o → ds.length = ps.length)
    (body : ∀ (f : Addr) (cdv : Value) (A : Around) (outer : List PySem.Env) (s : Shared) (H : Hp) (E : XK), Room k (XX P w K mg base N x st f cdv A outer s H E).A → ∀ ds o, R ds o → ∃ es, Ents es ds ∧ ∀ H0, match o with
      | .own d => ExecO (XX P w K mg base N x st f cdv A outer s H E) H0 (es ++ List.replicate (N.length - ps.length) .no) (defBody st) d
      | o => Ends' (XX P w K mg base N x st f cdv A outer s H E) H0 (es ++ List.replicate (N.length - ps.length) .no) (defBody st) o) : GFn P w K mg base x (k + 1) R := by
  obtain ⟨f, fd, F, hm, hb⟩ := D
  refine ⟨f, fd, ps, ?_, hm, F.kp, hb⟩
  refine F.okX S (fun vs H Q E ⟨_, ds, o, hr, a, _⟩ => by rw [a.length]; exact hl ds o hr) fun cdv A outer s H vs Q E hr hsp => ?_
  obtain ⟨tk, ds, o, hR, a, q⟩ := hsp
  obtain ⟨es, he, hbody⟩ := body f cdv A outer s H E hr ds o hR
  have hlen : vs.length = ps.length := by rw [a.length]; exact hl ds o hR
  have r : Rep K H (es ++ List.replicate (N.length - ps.length) .no) (L2.start N vs) H (Imm H) := hlen ▸ rep_start tk he a
  have hb := hbody H
  refine ⟨_, pb_w, ?_⟩
  cases o with
  | val d =>
    cases hb with
    | ret h => exact h { nx := fun _ H' => Q .non H', rt := Q } _ _ _ r fun v H' s _ rt => q v H' s rt
    | non h => exact h { nx := fun _ H' => Q .non H', rt := Q } _ _ _ r fun σ H' N' s r' => q .non H' r'.old ⟨r'.tab, N', r'.sub, r'.fresh, .non⟩
  | own d => exact hb { nx := fun _ H' => Q .non H', rt := Q } _ _ _ r fun p H' N' s1 s2 s3 s4 s5 s6 s7 => q p H' N' s1 s2 s3 s4 s5 s6 s7
  | exc n =>
    cases hb with
    | exc h => exact h { nx := fun _ H' => Q .non H', rt := Q } _ _ _ r ⟨_, takes_of rfl rfl rfl rfl, fun C σ H' N' hm s r' => q C H' hm r'.tab r'.old⟩
end
section
variable {X : Cx} {H0 : Hp} {ρ ρ1 ρ2 : Env'} {a b c e : Expr} {es : List Expr} {st : Stmt} {sts rest : List Stmt} {d d1 d2 : Dat} {ds : List Dat} {p pos : Pos} {o o1 : Outc} {x n : Str} {k k' : Nat} {R : List Dat → Res → Prop}
theorem xo_cons (h : ExS X H0 ρ st (.nx ρ1)) (t : ExecO X H0 ρ1 rest d) : ExecO X H0 ρ (st :: rest) d := fun D σ H N r q => by
  refine wb_of (pss_cons ps_w pb_w) ?_
  show WS X st { D with nx := WB X rest D } σ H
  exact h _ σ H N r fun σ' H' N' s r' => t D σ' H' N' r' q
theorem xo_ret (h : EvO X H0 ρ e d) : ExecO X H0 ρ [.Return (some e) pos] d := fun D σ H N r q => wb_of (pss_one (ps_ret pe_w)) ((h σ H N r).imp fun v H' ⟨N', p, e1, hp, s, n, r', np, ow⟩ => by
  subst e1
  exact q p H' N' r'.tab r'.old r'.sub r'.fresh (r.old.free hp) np ow)
theorem xo_own (i : Nat) (h : ρ[i]? = some (.ow d)) (hN : X.N[i]? = some x := by rfl) (hv : Vis X.env.scope x := by first | exact Or.inl rfl | exact Or.inr (Or.inl rfl) | exact Or.inr (Or.inr rfl)) (hd : (x == ("__debug__" : Str)) = false := by decide)
    (hcd : (x == ("__classdict__" : Str)) = false := by decide) {pos'} : ExecO X H0 ρ [.Return (some (.Name x pos')) pos] d := fun D σ H N r q => wb_of (pss_one (ps_ret (pv i hN hv hd hcd)))
  (let ⟨p, h1, h2, h3, h4⟩ := r.ow i d h; ⟨.ref p, h1, q p H N r.tab r.old r.sub r.fresh h2 h3 h4⟩)

/-! ### calls of the text's defs -/
theorem GFn.mono {P : Program} {w : World} {K : PySem.W.Frag} {mg : Str → Option Value} {base : Heap} (G : GFn P w K mg base x k R) (h : k ≤ k') : GFn P w K mg base x k' R := by
  obtain ⟨f, fd, ps, F, r⟩ := G
  exact ⟨f, fd, ps, F.mono h, r⟩
theorem ev_call (G : GFn X.prog X.w X.K X.mg X.base x k R) (hr : Room k X.A) (ha : EvAB X H0 ρ (e :: es) ds) (q : R ds (.val d)) (hg : Gl X x := by rfl) (hdb : (x == ("__debug__" : Str)) = false := by decide)
    (he : starEach (e :: es) X.env = (false, eval e X.env) :: starEach es X.env := by rfl) (hpl : (backTo pos (starEach es X.env)).any (·.1) = false := by rfl) : Ev X H0 ρ (.Call (.Name x p) (e :: es) [] pos) d := fun σ H N r => by
  obtain ⟨f, fd, ps, F, hm, hk, hb⟩ := G
  refine we_of (pe_call F hr hg hm hk hb .nil passL pa_w hdb he hpl) ((ha σ H N r).imp fun vs H1 ⟨N1, s1, n1, r1, a1⟩ => ⟨r1.tab, ds, .val d, q, by rw [List.append_nil]; exact a1, fun v H' s' rt => ?_⟩)
  obtain ⟨N2, n2, r2, a2⟩ := r1.ret s' rt
  exact ⟨N2, s1.trans s', n1.trans n2, r2, a2⟩
theorem ev_call0 (G : GFn X.prog X.w X.K X.mg X.base x k R) (hr : Room k X.A) (q : R [] (.val d)) (hg : Gl X x := by rfl) (hdb : (x == ("__debug__" : Str)) = false := by decide) : Ev X H0 ρ (.Call (.Name x p) [] [] pos) d := fun σ H N r => by
  obtain ⟨f, fd, ps, F, hm, hk, hb⟩ := G
  refine we_of (pe_call0 F hr hg hm hk hb .nil passL hdb) ⟨r.tab, [], .val d, q, .nil, fun v H' s' rt => ?_⟩
  obtain ⟨N2, n2, r2, a2⟩ := r.ret s' rt
  exact ⟨N2, s', n2, r2, a2⟩
theorem eo_call (G : GFn X.prog X.w X.K X.mg X.base x k R) (hr : Room k X.A) (ha : EvAB X H0 ρ (e :: es) ds) (q : R ds (.own d)) (hg : Gl X x := by rfl) (hdb : (x == ("__debug__" : Str)) = false := by decide)
    (he : starEach (e :: es) X.env = (false, eval e X.env) :: starEach es X.env := by rfl) (hpl : (backTo pos (starEach es X.env)).any (·.1) = false := by rfl) : EvO X H0 ρ (.Call (.Name x p) (e :: es) [] pos) d := fun σ H N r => by
  obtain ⟨f, fd, ps, F, hm, hk, hb⟩ := G
  refine we_of (pe_call F hr hg hm hk hb .nil passL pa_w hdb he hpl) ((ha σ H N r).imp fun vs H1 ⟨N1, s1, n1, r1, a1⟩ => ⟨r1.tab, ds, .own d, q, by rw [List.append_nil]; exact a1, fun p H' M tk s' m1 m2 m3 m4 ow => ?_⟩)
  have mN : N1 p = none := r1.sub.free m3
  have r1' := r1.grow s' tk
  have bp : both N1 M p = none := by unfold both; rw [if_pos mN]; exact m4
  refine ⟨both N1 M, p, rfl, s1.free m3, s1.trans s', n1.trans (both_l _ _), r1'.more (both_l N1 M) (both_sub r1'.sub m1) (fun a o h m => ?_) (fun i d q h1 h2 h3 => ?_), bp, ?_⟩
  · unfold both at h
    split at h
    · exact r1.old.free (m2 a o h m)
    · exact r1.fresh a o h m
  · unfold both
    rw [if_pos h3]
    obtain ⟨p', o', e1, e2, m⟩ := r1.own_some h1
    rw [h2] at e1
    cases e1
    cases z : M q with
    | none => rfl
    | some u =>
      have e3 := m1 q u z
      rw [(s' _ _ e2).mu m] at e3
      cases e3 with
      | eq =>
        have := m2 q _ z m
        rw [e2] at this
        cases this
      | grow _ _ => exact m.elim
  · cases d with
    | lst ds => obtain ⟨vs, q1, q2⟩ := ow; exact ⟨vs, q1, q2.mono (both_r r1'.sub m1)⟩
    | dic ds => obtain ⟨vs, q1, q2⟩ := ow; exact ⟨vs, q1, q2.mono (both_r r1'.sub m1)⟩
    | dit ks ds => obtain ⟨vs, q1, ql, q2⟩ := ow; exact ⟨vs, q1, ql, q2.mono (both_r r1'.sub m1)⟩
    | _ => exact ow
theorem exc_call (G : GFn X.prog X.w X.K X.mg X.base x k R) (hr : Room k X.A) (ha : EvAB X H0 ρ (e :: es) ds) (q : R ds (.exc n)) (hg : Gl X x := by rfl) (hdb : (x == ("__debug__" : Str)) = false := by decide)
    (he : starEach (e :: es) X.env = (false, eval e X.env) :: starEach es X.env := by rfl) (hpl : (backTo pos (starEach es X.env)).any (·.1) = false := by rfl) : EvX X H0 ρ (.Call (.Name x p) (e :: es) [] pos) n := fun σ H N r W tk kw Q => by
  obtain ⟨f, fd, ps, F, hm, hk, hb⟩ := G
  refine we_of (pe_callS F hr hg hm hk hb (fun σ => passAt tk σ) pa_w hdb he hpl) ((ha σ H N r).imp fun vs H1 ⟨N1, s1, n1, r1, a1⟩ => ⟨r1.tab, ds, .exc n, q, a1, fun C H' hC tk' s' => ?_⟩)
  exact kw C H' N1 hC n1 (r1.grow s' tk')
/-! .. that raise -/
theorem sx_retX (h : EvX X H0 ρ e n) : ExS X H0 ρ (.Return (some e) pos) (.ex n ρ) := fun D σ H N r ⟨W, tk, q⟩ => ws_of (ps_ret pe_w) (h σ H N r W tk (fun C H' N' hC s r' => q C σ H' N' hC s r') _)
theorem sx_exprX (h : EvX X H0 ρ e n) (hs : swapsWith e none pos.line X.env = pure false := by rfl) : ExS X H0 ρ (.Expr e pos) (.ex n ρ) := fun D σ H N r ⟨W, tk, q⟩ => ws_of (ps_expr pe_w hs) (h σ H N r W tk (fun C H' N' hC s r' => q C σ H' N' hC s r') _)
theorem sx_setX {i : Nat} {x : Str} {pos' : Pos} (h : EvX X H0 ρ e n) (nd : X.N.Nodup) (hi : X.N[i]? = some x := by rfl) (hx : Loc X.env.scope x := by first | exact Or.inl rfl | exact Or.inr rfl)
    (hs : swapsWith e (some (.Name x pos')) pos.line X.env = pure false := by rfl) (hf : X.fn x = true ∨ X.env.scope.names.lookup x = some .local := by first | exact .inl rfl | exact .inr rfl | assumption) : ExS X H0 ρ (.Assign [.Name x pos'] e pos) (.ex n ρ) := fun D σ H N r ⟨W, tk, q⟩ =>
  ws_of (ps_set nd hi hx pe_w hs hf) (h σ H N r W tk (fun C H' N' hC s r' => q C σ H' N' hC s r') _)
theorem sx_asgX {t : Expr} {ok : Dat → Prop} {bd : Dat → Env' → Env'} (h : EvX X H0 ρ e n) (hg : Tgt X H0 t ok bd) (hs : swapsWithSole [t] e pos.line X.env = pure false := by rfl) (hw : swappedStores [t] e X.env = pure none := by rfl)
    (h1 : (assignEach [t] X.env).map (·.2) = [assign t X.env] := by rfl) : ExS X H0 ρ (.Assign [t] e pos) (.ex n ρ) := fun D σ H N r ⟨W, tk, q⟩ => by
  obtain ⟨g, pg, _⟩ := hg.pg
  exact ws_of (ps_asg pe_w pg hs hw h1) (h σ H N r W tk (fun C H' N' hC s r' => q C σ H' N' hC s r') _)
theorem sx_asg {t : Expr} {ok : Dat → Prop} {bd : Dat → Env' → Env'} (h : Ev X H0 ρ e d) (hg : Tgt X H0 t ok bd) (hk : ok d) (hρ : bd d ρ = ρ1 := by rfl) (hs : swapsWithSole [t] e pos.line X.env = pure false := by rfl) (hw : swappedStores [t] e X.env = pure none := by rfl)
    (h1 : (assignEach [t] X.env).map (·.2) = [assign t X.env] := by rfl) : ExS X H0 ρ (.Assign [t] e pos) (.nx ρ1) := fun D σ H N r q => by
  obtain ⟨g, pg, gg⟩ := hg.pg
  exact ws_of (ps_asg pe_w pg hs hw h1) ((h σ H N r).imp fun v H' ⟨N', s, n, r', a⟩ => gg ρ σ H' N' v d r' a hk _ fun σ2 H2 N2 n2 r2 => q σ2 H2 N2 (n.trans n2) (hρ ▸ r2))
/-- (a, b) = a pair -/
theorem tg_pair (i j : Nat) {y z : Str} {p1 p2 : Pos} {kk : Nat} (nd : X.N.Nodup) (hc : X.calm = true) (hi : X.N[i]? = some y := by rfl) (hj : X.N[j]? = some z := by rfl) (hx : Loc X.env.scope y := by first | exact Or.inl rfl | exact Or.inr rfl) (hx2 : Loc X.env.scope z := by first | exact Or.inl rfl | exact Or.inr rfl)
    (hf : X.fn y = true ∨ X.env.scope.names.lookup y = some .local := by first | exact .inl rfl | exact .inr rfl | assumption) (hf2 : X.fn z = true ∨ X.env.scope.names.lookup z = some .local := by first | exact .inl rfl | exact .inr rfl | assumption)
    (hn : (assignEach [Expr.Name y p1, .Name z p2] X.env).length = 2 := by rfl) (hst : (assignEach [Expr.Name y p1, .Name z p2] X.env).findIdx? (·.1) = none := by rfl)
    (h1 : (assignEach [Expr.Name y p1, .Name z p2] X.env).map (·.2) = assign (.Name y p1) X.env :: (assignEach [Expr.Name z p2] X.env).map (·.2) := by rfl) (h2 : (assignEach [Expr.Name z p2] X.env).map (·.2) = assign (.Name z p2) X.env :: (assignEach [] X.env).map (·.2) := by rfl) :
    Tgt X H0 (.Tuple [.Name y p1, .Name z p2] kk pos) (fun d => ∃ a b, d = .tup [a, b]) (fun d ρ => match d with | .tup [a, b] => (ρ.set i (.im a)).set j (.im b) | _ => ρ) := by
  refine ⟨_, pg_tup hc (pgs_cons (pg_name nd hi hx hf) (pgs_cons (pg_name nd hj hx2 hf2) pgs_nil h2) h1) hn hst, fun ρ σ H N v d r a ok Q k => ?_⟩
  obtain ⟨d1, d2, rfl⟩ := ok
  obtain ⟨p, vs, rfl, q1, q2⟩ := at_seq a
  cases q2 with
  | cons a1 t =>
    cases t with
    | cons a2 t2 =>
      cases t2
      exact ⟨p, _, rfl, sqt_same r.sub q1, rfl, _, _, rfl, _, _, rfl, rfl, k _ H N (Same.refl _) ((r.setE (e := .im d1) a1).setE (e := .im d2) a2)⟩
/-- a, b = x, y -/
theorem sx_par (i j : Nat) {y z : Str} {px py pt : Pos} {kt k2 pt2} (ha : Ev X H0 ρ a d1) (hb : Ev X H0 ρ b d2) (nd : X.N.Nodup) (hc : X.calm = true) (hij : i ≠ j) (hρ : (ρ.set i (.im d1)).set j (.im d2) = ρ1 := by rfl) (hi : X.N[i]? = some y := by rfl) (hj : X.N[j]? = some z := by rfl)
    (hx : X.env.scope.names.lookup y = some .local := by rfl) (hy : X.env.scope.names.lookup z = some .local := by rfl) (hw : swappedStores [.Tuple [.Name y px, .Name z py] kt pt] (.Tuple [a, b] k2 pt2) X.env = pure (some [y, z]) := by rfl)
    (hs : swapsWithSole [.Tuple [.Name y px, .Name z py] kt pt] (.Tuple [a, b] k2 pt2) pos.line X.env = pure false := by rfl) (h1 : starEach [a, b] X.env = (false, eval a X.env) :: starEach [b] X.env := by rfl) (h2 : starEach [b] X.env = (false, eval b X.env) :: starEach [] X.env := by rfl) :
    ExS X H0 ρ (.Assign [.Tuple [.Name y px, .Name z py] kt pt] (.Tuple [a, b] k2 pt2) pos) (.nx ρ1) := fun D σ H N r q =>
  ws_of (ps_par hc nd hi hj hij hx hy pa_w hw hs) ((ea_cons ha (ea_cons hb ea_nil (hs := h2)) (hs := h1) σ H N r).imp fun vs H' ⟨N', s, n, r', a⟩ => by
    cases a with
    | cons a1 t =>
      cases t with
      | cons a2 t2 =>
        cases t2
        exact ⟨_, _, rfl, q _ H' N' n (hρ ▸ (r'.setE (e := .im d1) a1).setE (e := .im d2) a2)⟩)

/-! ### calls of built-ins -/
theorem ev_blt {r : List V → Hp → VK → Prop} {id : String} (cr : CallR X (.builtin id) r) (hm : X.mg x = none) (hv : bootBuiltins x = some (.builtin id)) (ha : EvAB X H0 ρ (e :: es) ds)
    (hr : ∀ vs σ H N Q, Rep X.K H0 ρ σ H N → Ats X.K H vs ds → Goes X.K H0 ρ σ H N d Q → r vs H Q) (hg : Gl X x := by rfl) (hn : x ≠ "__name__" := by decide) (hdb : (x == ("__debug__" : Str)) = false := by decide)
    (he : starEach (e :: es) X.env = (false, eval e X.env) :: starEach es X.env := by rfl) (hpl : (backTo pos (starEach es X.env)).any (·.1) = false := by rfl) : Ev X H0 ρ (.Call (.Name x p) (e :: es) [] pos) d := fun σ H N rp =>
  we_of (pe_callB cr hg hm hv pa_w hn hdb he hpl) ((ha σ H N rp).imp fun vs H1 ⟨N1, s1, n1, r1, a1⟩ => hr vs σ H1 N1 _ r1 a1 fun v H' N' s n rr aa => ⟨N', s1.trans s, n1.trans n, rr, aa⟩)
theorem ev_ty {r : List V → Hp → VK → Prop} {T : String} (cr : CallR X (.type T) r) (hm : X.mg x = none) (hv : bootBuiltins x = some (.type T)) (ha : EvAB X H0 ρ (e :: es) ds)
    (hr : ∀ vs σ H N Q, Rep X.K H0 ρ σ H N → Ats X.K H vs ds → Goes X.K H0 ρ σ H N d Q → r vs H Q) (hg : Gl X x := by rfl) (hn : x ≠ "__name__" := by decide) (hdb : (x == ("__debug__" : Str)) = false := by decide)
    (he : starEach (e :: es) X.env = (false, eval e X.env) :: starEach es X.env := by rfl) (hpl : (backTo pos (starEach es X.env)).any (·.1) = false := by rfl) : Ev X H0 ρ (.Call (.Name x p) (e :: es) [] pos) d := fun σ H N rp =>
  we_of (pe_callTy cr hg hm hv pa_w hn hdb he hpl) ((ha σ H N rp).imp fun vs H1 ⟨N1, s1, n1, r1, a1⟩ => hr vs σ H1 N1 _ r1 a1 fun v H' N' s n rr aa => ⟨N', s1.trans s, n1.trans n, rr, aa⟩)
def dlen : Dat → Option Nat
  | .str z => if z.length ≤ sizeLine then some z.length else none
  | .tup ds => some ds.length
  | .lst ds => some ds.length
  | _ => none
theorem at_len {K : PySem.W.Frag} {H : Hp} {v : V} {m : Nat} (h : At K H v d) (e : dlen d = some m) : LenV K v H m := by
  cases h with
  | str z =>
    by_cases hz : z.length ≤ sizeLine
    · rw [show dlen (.str z) = some z.length from if_pos hz] at e
      cases e
      exact ⟨hz, rfl⟩
    · rw [show dlen (.str z) = none from if_neg hz] at e
      cases e
  | tup a b => cases e; exact .inr ⟨_, a, b.length.symm⟩
  | lst a b => cases e; exact .inl ⟨_, a, b.length.symm⟩
  | _ => cases e
section one
variable {hs : starEach [a] X.env = (false, eval a X.env) :: starEach [] X.env}
theorem eab1 (h : EvB X H0 ρ a d) (hs : starEach [a] X.env = (false, eval a X.env) :: starEach [] X.env) : EvAB X H0 ρ [a] [d] := eab_cons h eab_nil hs
end one
theorem ats_one {K : PySem.W.Frag} {H : Hp} {vs : List V} (h : Ats K H vs [d]) : ∃ v, vs = [v] ∧ At K H v d := by
  cases h with | cons a t => cases t; exact ⟨_, rfl, a⟩
theorem ats_two {K : PySem.W.Frag} {H : Hp} {vs : List V} (h : Ats K H vs [d1, d2]) : ∃ v w, vs = [v, w] ∧ At K H v d1 ∧ At K H w d2 := by
  cases h with | cons a t => cases t with | cons b t2 => cases t2; exact ⟨_, _, rfl, a, b⟩
theorem ev_len {m : Nat} (ha : EvB X H0 ρ a d) (e : dlen d = some m) (hm : X.mg "len" = none) (hg : Gl X "len" := by rfl) (he : starEach [a] X.env = (false, eval a X.env) :: starEach [] X.env := by rfl) (hpl : (backTo pos (starEach [] X.env)).any (·.1) = false := by rfl) : Ev X H0 ρ (.Call (.Name "len" p) [a] [] pos) (.int m) :=
  ev_blt call_len hm PySem.boot_len (eab1 ha he) (fun vs σ H N Q r q g => let ⟨v, e1, e2⟩ := ats_one q; ⟨v, m, e1, at_len e2 e, goes_self g r (.int _)⟩) hg (by decide) (by decide) he hpl
theorem abs_eq (i : Int) : (if i < 0 then -i else i) = ((i.natAbs : Nat) : Int) := by split <;> omega
theorem ev_abs {i : Int} (ha : Ev X H0 ρ a (.int i)) (hm : X.mg "abs" = none) (hg : Gl X "abs" := by rfl) (he : starEach [a] X.env = (false, eval a X.env) :: starEach [] X.env := by rfl) (hpl : (backTo pos (starEach [] X.env)).any (·.1) = false := by rfl) : Ev X H0 ρ (.Call (.Name "abs" p) [a] [] pos) (.int ((i.natAbs : Nat) : Int)) :=
  ev_blt call_abs hm (by decide +kernel) (eab1 ha.toB he) (fun vs σ H N Q r q g => ⟨i, ats1 q, by rw [abs_eq]; exact goes_self g r (.int _)⟩) hg (by decide) (by decide) he hpl
theorem ev_min2 {i j : Int} (ha : Ev X H0 ρ a (.int i)) (hb : Ev X H0 ρ b (.int j)) (hc : X.calm = true) (hm : X.mg "min" = none) (hg : Gl X "min" := by rfl) (he : starEach [a, b] X.env = (false, eval a X.env) :: starEach [b] X.env := by rfl) (he2 : starEach [b] X.env = (false, eval b X.env) :: starEach [] X.env := by rfl) (hpl : (backTo pos (starEach [b] X.env)).any (·.1) = false := by rfl) :
    Ev X H0 ρ (.Call (.Name "min" p) [a, b] [] pos) (.int (min i j)) := ev_blt (call_min2 hc) hm (by decide +kernel) (eab_cons ha.toB (eab_cons hb.toB eab_nil he2) he) (fun vs σ H N Q r q g => ⟨i, j, ats2 q, by rw [show (if j < i then j else i) = min i j by omega]; exact goes_self g r (.int _)⟩) hg (by decide) (by decide) he hpl
theorem ev_max2 {i j : Int} (ha : Ev X H0 ρ a (.int i)) (hb : Ev X H0 ρ b (.int j)) (hc : X.calm = true) (hm : X.mg "max" = none) (hg : Gl X "max" := by rfl) (he : starEach [a, b] X.env = (false, eval a X.env) :: starEach [b] X.env := by rfl) (he2 : starEach [b] X.env = (false, eval b X.env) :: starEach [] X.env := by rfl) (hpl : (backTo pos (starEach [b] X.env)).any (·.1) = false := by rfl) :
    Ev X H0 ρ (.Call (.Name "max" p) [a, b] [] pos) (.int (max i j)) := ev_blt (call_max2 hc) hm (by decide +kernel) (eab_cons ha.toB (eab_cons hb.toB eab_nil he2) he) (fun vs σ H N Q r q g => ⟨i, j, ats2 q, by rw [show (if j > i then j else i) = max i j by omega]; exact goes_self g r (.int _)⟩) hg (by decide) (by decide) he hpl
/-! isinstance -/
def tyName : Dat → String
  | .non => "NoneType" | .bl _ => "bool" | .int _ => "int" | .str _ => "str" | .tup _ => "tuple" | .lst _ => "list" | .dic _ => "dict" | .ins _ _ _ => "NoneType" | .tix _ => "tuple" | .dit _ _ => "dict"
theorem kit_non : ∀ {T : String} {k : Bool}, kits.contains T = true → kitB "NoneType" T = some k → k = false := fun {T k} h e => by
  have : T = "int" ∨ T = "bool" ∨ T = "str" ∨ T = "tuple" ∨ T = "list" ∨ T = "dict" := by simpa [kits] using h
  have go : ∀ s : String, kitB "NoneType" s = some false → T = s → k = false := fun s a b => by
    rw [b, a] at e
    cases e
    rfl
  rcases this with h | h | h | h | h | h
  · exact go _ (by decide +kernel) h
  · exact go _ (by decide +kernel) h
  · exact go _ (by decide +kernel) h
  · exact go _ (by decide +kernel) h
  · exact go _ (by decide +kernel) h
  · exact go _ (by decide +kernel) h
/-- .. a dict with tuple keys, too, that a loop walks -/
def TyY (K : PySem.W.Frag) (H : Hp) (v : V) (t : Value) : Prop := TyX K H v t ∨ ∃ a o kvs, v = .ref a ∧ t = .type "dict" ∧ H a = some (.frz o (.dT kvs))
theorem call_isiY {X : Cx} : CallR X (.builtin "isinstance") (fun xs H Q => ∃ (x c : V) (t u : Value) (b : Bool), xs = [x, c] ∧ ClsV c u ∧ TyY X.K H x t ∧ PySem.W.kitOne X.K t u = some b ∧ Q (.bl b) H) := fun pins s σ H xs us Q I r h => by
  obtain ⟨x, c, t, u, b, e1, k, ty, e, q⟩ := h
  rcases ty with ty | ⟨a, o, kvs, ea, et, ha⟩
  · exact call_isi pins s σ H xs us Q I r ⟨x, c, t, u, b, e1, k, ty, e, q⟩
  · subst e1 ea et
    obtain ⟨u1, u2, rfl, r1, r2⟩ := vals2 r
    cases (show u1 = Value.ref a from r1)
    have e2 := k.eq r2
    subst e2
    have ob := (show ObjOk X.prog X.w H s.heap a (.frz o (.dT kvs)) from I.hok a _ ha)
    obtain ⟨_, _, _, vs, _, o', es, ep, h1, h2, _⟩ := ob
    exact PySem.W.kia_one PySem.W.kitx_dict I.kIn ⟨o', h1, h2.1⟩ e (fun z => nomatch z) fun tk => ⟨.bl b, H, I.tok tk, rfl, q⟩
theorem at_ty {K : PySem.W.Frag} {H : Hp} {v : V} {T : String} {k : Bool} (h : At K H v d) (e : kitB (tyName d) T = some k) (hT : kits.contains T = true) : ∃ t, TyY K H v t ∧ PySem.W.kitOne K t (.type T) = some k := by
  have go : ∀ {s : String}, kitB s T = some k → TyX K H v (.type s) → ∃ t, TyY K H v t ∧ PySem.W.kitOne K t (.type T) = some k := fun e t => ⟨_, .inl t, kit_ty e⟩
  cases h with
  | ins h c a l t =>
    rw [kit_non hT e]
    exact ⟨_, .inl (.base (.ins h c.cl c.ha c.hn c.htk c.hm)), c.ki T hT⟩
  | non => exact go e (.base .non)
  | bl b => exact go e (.base (.bl b))
  | int b => exact go e (.base (.int b))
  | str b => exact go e (.base (.str b))
  | tup h _ =>
    rcases h with (h | ⟨o, h⟩) | ⟨o, its, n, h, hc, _⟩
    · exact go e (.base (.tup h))
    · exact go e (.fTuple h)
    · exact go e (.kTuple h hc)
  | lst h _ =>
    rcases h with (h | ⟨o, h⟩) | ⟨o, its, n, h, hc, _⟩
    · exact go e (.base (.lst h))
    · exact go e (.base (.frz h))
    · exact go e (.kList h hc)
  | dic h _ =>
    rcases h with h | ⟨o, h⟩
    · exact go e (.base (.dK h))
    · exact go e (.fDict h)
  | tix h => exact go e (.base (.tup h))
  | dit h _ _ =>
    rcases h with h | ⟨o, h⟩
    · exact go e (.base (.dT h))
    · exact ⟨_, .inr ⟨_, _, _, rfl, rfl, h⟩, kit_ty e⟩
theorem ev_isi {T : String} {y : Str} {p2 : Pos} {k : Bool} (ha : EvB X H0 ρ a d) (e : kitB (tyName d) T = some k) (hm : X.mg "isinstance" = none) (hmT : X.mg y = none) (hv : bootBuiltins y = some (.type T) := by decide +kernel) (hg : Gl X "isinstance" := by rfl) (hgT : Gl X y := by rfl) (hn : y ≠ "__name__" := by decide) (hdb : (y == ("__debug__" : Str)) = false := by decide)
    (he : starEach [a, .Name y p2] X.env = (false, eval a X.env) :: starEach [.Name y p2] X.env := by rfl) (he2 : starEach [.Name y p2] X.env = (false, eval (.Name y p2) X.env) :: starEach [] X.env := by rfl) (hpl : (backTo pos (starEach [.Name y p2] X.env)).any (·.1) = false := by rfl) (hT : kits.contains T = true := by decide +kernel) :
    Ev X H0 ρ (.Call (.Name "isinstance" p) [a, .Name y p2] [] pos) (.bl k) := fun σ H N r =>
  we_of (pe_callB call_isiY hg hm (by decide +kernel) (pa_cons pe_w (pa_cons (pe_bltn (v := .ty T) hgT hmT hv rfl hn hdb) pa_nil he2) he) (by decide) (by decide) he hpl)
    ((ha σ H N r).imp fun v H1 ⟨N1, s1, n1, r1, a1⟩ => let ⟨t, t1, t2⟩ := at_ty a1 e hT; ⟨v, .ty T, t, .type T, k, rfl, .ty T, t1, t2, N1, s1, n1, r1, .bl _⟩)
end
end B

namespace PySem.W
open PySem PySem.Spec PySem.Calls PyProof.Rows
end PySem.W
namespace B
open PySem PySem.Spec PyProof.Rows L2

/-! ### own exceptions: classes over ValueError, no __init__, made with a text -/
structure ExcAt (K : PySem.W.Frag) (mg : Str → Option Value) (n : Str) (C : Addr) : Prop where
  g : mg n = some (.ref C)
  x : PySem.W.excIn K C [.type "ValueError", .type "Exception", .type "BaseException", .type "object"] "ValueError.__new__" = true
  k : PySem.W.keepIn K (.ref C) = true
  b : PySem.W.subIn K (.ref C) (.type "BaseException") = some true
  t : PySem.W.typeIn K (.ref C) = some (.type "type")
def Exc (K : PySem.W.Frag) (mg : Str → Option Value) (n : Str) : Prop := ∃ C, ExcAt K mg n C
section
variable {X : Cx} {H0 : Hp} {ρ ρ1 ρ2 : Env'} {a b c e : Expr} {es : List Expr} {st : Stmt} {sts rest : List Stmt} {d d1 d2 : Dat} {ds : List Dat} {p pos : Pos} {o o1 : Outc} {x n : Str}
theorem sx_raise {m : Str} {j : Nat} {p p2 pos pos2 : Pos} (T : Exc X.K X.mg n) (hc : X.calm = true) (hg : Gl X n := by rfl) (hdb : (n == ("__debug__" : Str)) = false := by decide) : ExS X H0 ρ (.Raise (some (.Call (.Name n p) [.Constant (.str m) j p2] [] pos)) none pos2) (.ex n ρ) := fun D σ H N r ⟨W, tk, q⟩ => by
  obtain ⟨C, T⟩ := T
  exact ws_of (ps_raise hc tk (pmk_own PySem.F.excBase_ValueError T.x T.g T.k (raises_own T.b T.t) hg hdb)) (q C σ H N T.g (Same.refl _) r)
/-- the name of an except clause goes -/
theorem Rep.unset {K : PySem.W.Frag} {H0 H N : Hp} {ρ : Env'} {σ : L2.St} (r : Rep K H0 ρ σ H N) (i : Nat) : Rep K H0 (ρ.set i .no) (σ.set i none) H N := by
  have g : ∀ (j : Nat) (v : V), j ≠ i → σ[j]? = some (some v) → (σ.set i none)[j]? = some (some v) := fun j v n h => by rw [List.getElem?_set_ne (Ne.symm n)]; exact h
  have g' : ∀ (j : Nat) (v : V), (σ.set i none)[j]? = some (some v) → σ[j]? = some (some v) := fun j v h => by
    rcases get_set h with ⟨_, h'⟩ | ⟨_, h'⟩
    · cases h'
    · exact h'
  refine ⟨r.tab, r.old, r.sub, r.imm, r.fresh, by rw [List.length_set, List.length_set, r.len], fun j d q => ?_, fun j d q => ?_, fun j d q => ?_, fun j d q => ?_, fun j k d d' p ne q1 q2 z1 z2 => ?_⟩
  · rcases get_set q with ⟨_, q'⟩ | ⟨n, q'⟩
    · cases q'
    · obtain ⟨v, h1, h2⟩ := r.im j d q'
      exact ⟨v, g j v n h1, h2⟩
  · rcases get_set q with ⟨_, q'⟩ | ⟨n, q'⟩
    · cases q'
    · obtain ⟨v, h1, h2⟩ := r.ol j d q'
      exact ⟨v, g j v n h1, h2⟩
  · rcases get_set q with ⟨_, q'⟩ | ⟨n, q'⟩
    · cases q'
    · obtain ⟨v, h1, h2⟩ := r.ow j d q'
      exact ⟨v, g j _ n h1, h2⟩
  · rcases get_set q with ⟨_, q'⟩ | ⟨n, q'⟩
    · cases q'
    · exact g j _ n (r.rf j d q')
  · rcases get_set q1 with ⟨_, q1'⟩ | ⟨n1, q1'⟩
    · cases q1'
    · rcases get_set q2 with ⟨_, q2'⟩ | ⟨n2, q2'⟩
      · cases q2'
      · exact r.apart j k d d' p ne q1' q2' (g' j _ z1) (g' k _ z2)
/-- behind the suite of «except .. as n» -/
def Outc.un (i : Nat) : Outc → Outc
  | .nx ρ => .nx (ρ.set i .no)
  | .rt d => .rt d
  | .ex n ρ => .ex n ρ
  | .bk ρ => .bk (ρ.set i .no)
  | .ct ρ => .ct (ρ.set i .no)
  | .ro d => .ro d
def Outc.noex : Outc → Prop
  | .ex _ _ => False
  | _ => True
/-- try: body, that raises m; except x as n: suite -/
theorem sx_try {m : Str} {i : Nat} {c : Value} {body suite : List Stmt} {b₀ : Stmt} {np pos pos' : Pos} (hs : X.stack = X.env :: X.outer) (hf : X.env.frame = some X.env.locals) (nd : X.N.Nodup) (hc : Names X x c) (he : ∀ C, X.mg m = some (.ref C) → PySem.W.exmOne X.K (.ref C) c = some true)
    (hb : ∀ (pn : List (Addr × Obj)) (xe : Value → Shared → Prop), PassesOwn (model X.prog X.w) X.A X.env xe → Exec (X.tr pn xe) H0 ρ body (.ex m ρ1))
    (hsu : ∀ (a C : Addr) (oe : Obj) (pn : List (Addr × Obj)), X.mg m = some (.ref C) → Zc (.ref C) none oe → (∃ vs, oe.data = .fields vs) → Exec (X.suite a ((a, oe) :: pn)) H0 (ρ1.set i (.rf a)) (b₀ :: suite) o)
    (ho : o.noex) (hi : X.N[i]? = some n := by rfl) (hln : X.env.kindOf n = some .local := by rfl) :
    ExS X H0 ρ (.Try body [.ExceptHandler (some (.Name x np)) (some n) (b₀ :: suite) pos'] [] [] pos) (o.un i) := fun D σ H N r k => by
  refine ws_of (ps_try_as (i := i) (c := c) (tb := fun W D σ H => ∀ pn xe, Takes (X.tr pn xe) W → PassesOwn (model X.prog X.w) X.A X.env xe → WB (X.tr pn xe) body D σ H)
    (ts := fun a cls d D σ H => ∀ oe pn, Zc cls d oe → (∃ vs, oe.data = .fields vs) → WB (X.suite a ((a, oe) :: pn)) (b₀ :: suite) D σ H) (Wout := fun _ _ _ _ => False) hs hf nd hi hln hc takes0 (fun W pn xe tk hp => ⟨fun pins s σ H D I h => (h pn xe tk hp).go pins s I⟩) (fun a oe cls d pn hz hd => ⟨fun pins s σ H D I h => (h oe pn hz hd).go pins s I⟩)) ?_
  intro pn xe tk hp
  refine hb pn xe hp _ σ H N r ⟨_, tk, fun C σ1 H1 N1 hC n1 r1 => ⟨true, he C hC, fun _ a ha oe pn' hz hd => ?_, fun z => nomatch z⟩⟩
  refine hsu a C oe pn' hC hz hd _ _ H1 N1 (r1.setE (v := .ref a) (e := .rf a) rfl) ?_
  cases o with
  | nx ρ2 => exact fun σ2 H2 N2 n2 r2 => k _ H2 N2 (n1.trans n2) (r2.unset i)
  | rt d => exact fun v H a b r => k v H a (n1.trans b) r
  | ex n ρ2 => exact ho.elim
  | bk ρ2 => exact fun σ2 H2 N2 n2 r2 => k _ H2 N2 (n1.trans n2) (r2.unset i)
  | ct ρ2 => exact fun σ2 H2 N2 n2 r2 => k _ H2 N2 (n1.trans n2) (r2.unset i)
  | ro d => exact fun p H' N2 tk a b r => k p H' N2 tk a (n1.trans b) r
/-- .. that raises nothing -/
theorem sx_tryN {i : Nat} {c : Value} {body suite : List Stmt} {b₀ : Stmt} {np pos pos' : Pos} (hs : X.stack = X.env :: X.outer) (hf : X.env.frame = some X.env.locals) (nd : X.N.Nodup) (hc : Names X x c)
    (hb : ∀ (pn : List (Addr × Obj)) (xe : Value → Shared → Prop), PassesOwn (model X.prog X.w) X.A X.env xe → Exec (X.tr pn xe) H0 ρ body o)
    (hsu : ∀ (a : Addr) (oe : Obj) (cls : Value) (d : Option Addr) (pn : List (Addr × Obj)), PSs (X.suite a ((a, oe) :: pn)) (b₀ :: suite) (WB (X.suite a ((a, oe) :: pn)) (b₀ :: suite)) := fun _ _ _ _ _ => pb_w)
    (ho : o.noex) (hi : X.N[i]? = some n := by rfl) (hln : X.env.kindOf n = some .local := by rfl) :
    ExS X H0 ρ (.Try body [.ExceptHandler (some (.Name x np)) (some n) (b₀ :: suite) pos'] [] [] pos) o := fun D σ H N r k => by
  refine ws_of (ps_try_as (i := i) (c := c) (tb := fun W D σ H => ∀ pn xe, Takes (X.tr pn xe) W → PassesOwn (model X.prog X.w) X.A X.env xe → WB (X.tr pn xe) body D σ H)
    (ts := fun a cls d D σ H => ∀ oe pn, Zc cls d oe → (∃ vs, oe.data = .fields vs) → WB (X.suite a ((a, oe) :: pn)) (b₀ :: suite) D σ H) (Wout := fun _ _ _ _ => False) hs hf nd hi hln hc takes0 (fun W pn xe tk hp => ⟨fun pins s σ H D I h => (h pn xe tk hp).go pins s I⟩) (fun a oe cls d pn hz hd => ⟨fun pins s σ H D I h => (h oe pn hz hd).go pins s I⟩)) ?_
  intro pn xe tk hp
  refine hb pn xe hp D σ H N r ?_
  cases o with
  | ex n ρ2 => exact ho.elim
  | nx ρ2 => exact k
  | rt d => exact k
  | bk ρ2 => exact k
  | ct ρ2 => exact k
  | ro d => exact k

/-! ### isinstance of the caught error -/
theorem call_isET {X : Cx} {a D : Addr} {oe : Obj} {pn : List (Addr × Obj)} (C : ExcC X.K D) (hz : Zc (.ref D) none oe) (hf : ∃ vs, oe.data = .fields vs) : CallR (X.suite a ((a, oe) :: pn)) (.builtin "isinstance")
    (fun xs H Q => ∃ (tp : Addr) (cs : List V) (us : List Value) (b : Bool), xs = [.ref a, .ref tp] ∧ H tp = some (.tup cs) ∧ Paired ClsV cs us ∧ PySem.W.kitAny X.K (.ref D) us = some b ∧ Q (.bl b) H) := by
  intro pins s σ H xs us Q I r h
  obtain ⟨tp, cs, ws, b, rfl, hT, k, e, q⟩ := h
  obtain ⟨u1, u2, rfl, r1, r2⟩ := vals2 r
  cases (show u1 = Value.ref a from r1)
  cases (show u2 = Value.ref tp from r2)
  obtain ⟨hget, _⟩ := I.pin (a, oe) (List.mem_append.mpr (.inl List.mem_cons_self))
  obtain ⟨vs, hv⟩ := hf
  have J : PySem.W.InstAt s.heap a oe D none := by
    obtain ⟨oc, od, oda, osl⟩ := oe
    obtain ⟨h1, h2⟩ := hz
    dsimp only at h1 h2 hv
    subst h1 h2 hv
    exact ⟨hget, rfl, rfl, trivial⟩
  obtain ⟨_, its, rv, o, h1, h2, n, h3⟩ := (show ObjOk X.prog X.w H s.heap tp (.tup cs) from I.hok tp _ hT)
  have e3 := ClsV.all k rv
  subst e3
  obtain ⟨oc, od, dt, sl⟩ := o
  simp only at h2 h3
  subst h2 h3
  exact PySem.W.kia_tup (PySem.W.handS_kitx_exc C.hg C.hk C.hs C.hd C.ha C.hn C.ht C.hm) I.kIn J h1 e (fun z => nomatch z) fun tk => ⟨.bl b, H, I.kept (t' := tk) fun _ _ z => z, rfl, q⟩
/-- a class of the text, or a built-in one, by its name -/
structure ClsN (X : Cx) (y : Str) (c : V) (u : Value) : Prop where
  v : ClsV c u
  g : Gl X y
  d : (y == ("__debug__" : Str)) = false
  m : X.mg y = some u ∨ (X.mg y = none ∧ bootBuiltins y = some u ∧ y ≠ "__name__")
theorem pe_cls {y : Str} {c : V} {u : Value} (h : ClsN X y c u) : PE X (.Name y pos) (tC c) := by
  have r : RelV c u := by
    obtain ⟨v, _, _, _⟩ := h
    cases v <;> rfl
  rcases h.m with m | ⟨m, b, n⟩
  · exact pe_glob h.g m r h.d
  · exact pe_bltn h.g m b r n h.d
theorem ev_isE {a D : Addr} {oe : Obj} {pn : List (Addr × Obj)} {y ee : Str} {p1 p2 : Pos} {k : Bool} {c : V} {u : Value} (i : Nat) (C : ExcC X.K D) (hz : Zc (.ref D) none oe) (hf : ∃ vs, oe.data = .fields vs) (hρ : ρ[i]? = some (.rf a)) (N : ClsN X y c u) (e : PySem.W.kitOne X.K (.ref D) u = some k)
    (hm : X.mg "isinstance" = none) (hN : X.N[i]? = some ee := by rfl) (hv : Vis X.env.scope ee := by first | exact Or.inl rfl | exact Or.inr (Or.inl rfl) | exact Or.inr (Or.inr rfl)) (hg : Gl X "isinstance" := by rfl) (hd : (ee == ("__debug__" : Str)) = false := by decide) (hcd : (ee == ("__classdict__" : Str)) = false := by decide)
    (he : starEach [.Name ee p1, .Name y p2] X.env = (false, eval (.Name ee p1) X.env) :: starEach [.Name y p2] X.env := by rfl) (he2 : starEach [.Name y p2] X.env = (false, eval (.Name y p2) X.env) :: starEach [] X.env := by rfl) (hpl : (backTo pos (starEach [.Name y p2] X.env)).any (·.1) = false := by rfl) :
    Ev (X.suite a ((a, oe) :: pn)) H0 ρ (.Call (.Name "isinstance" p) [.Name ee p1, .Name y p2] [] pos) (.bl k) := fun σ H N' r => by
  have N2 : ClsN (X.suite a ((a, oe) :: pn)) y c u := ⟨N.v, N.g, N.d, N.m⟩
  refine we_of (pe_callB (X := X.suite a ((a, oe) :: pn)) (call_isE C hz hf) hg hm (by decide +kernel) (pa_cons (pv (X := X.suite a ((a, oe) :: pn)) i hN hv hd hcd) (pa_cons (pe_cls N2) pa_nil he2) he) (by decide) (by decide) he hpl) ?_
  exact ⟨_, r.rf i a hρ, c, u, k, rfl, fun w q => N.v.eq q, e, N', Same.refl _, Same.refl _, r, .bl k⟩
/-- a row of classes -/
inductive ClsNs (X : Cx) : List Expr → List V → List Value → Prop where
  | nil : ClsNs X [] [] []
  | cons {y : Str} {c : V} {u : Value} {pp : Pos} {es : List Expr} {cs : List V} {us : List Value} : ClsN X y c u → ClsNs X es cs us → ClsNs X (.Name y pp :: es) (c :: cs) (u :: us)
theorem ClsNs.paired : ∀ {es : List Expr} {cs : List V} {us : List Value}, ClsNs X es cs us → Paired ClsV cs us
  | _, _, _, .nil => .nil
  | _, _, _, .cons h t => .cons h.v (ClsNs.paired t)
theorem ClsNs.len : ∀ {es : List Expr} {cs : List V} {us : List Value}, ClsNs X es cs us → cs.length = es.length
  | _, _, _, .nil => rfl
  | _, _, _, .cons h t => congrArg (· + 1) (ClsNs.len t)
/-- star-free rows of names -/
theorem wa_cls : ∀ {es : List Expr} {cs : List V} {us : List Value}, ClsNs X es cs us → (∀ y pp r, starEach (Expr.Name y pp :: r) X.env = (false, eval (Expr.Name y pp) X.env) :: starEach r X.env) → ∀ σ H Q, Q cs H → WA X es σ H Q
  | _, _, _, .nil, _, σ, H, Q, q => wa_of pa_nil q
  | _, _, _, .cons h t, hs, σ, H, Q, q => wa_of (pa_cons (pe_cls h) pa_w (hs _ _ _)) (wa_cls t hs σ H _ q)
theorem ev_isET {a D : Addr} {oe : Obj} {pn : List (Addr × Obj)} {ee : Str} {p1 p2 : Pos} {kk : Nat} {k : Bool} {cs : List V} {us : List Value} (i : Nat) (C : ExcC X.K D) (hz : Zc (.ref D) none oe) (hf : ∃ vs, oe.data = .fields vs) (hρ : ρ[i]? = some (.rf a)) (T : ClsNs (X.suite a ((a, oe) :: pn)) es cs us) (e : PySem.W.kitAny X.K (.ref D) us = some k)
    (hm : X.mg "isinstance" = none) (hl : es.length ≤ sizeLine) (hst : ∀ y pp r, starEach (Expr.Name y pp :: r) X.env = (false, eval (Expr.Name y pp) X.env) :: starEach r X.env := by intro _ _ _; rfl) (hN : X.N[i]? = some ee := by rfl) (hv : Vis X.env.scope ee := by first | exact Or.inl rfl | exact Or.inr (Or.inl rfl) | exact Or.inr (Or.inr rfl)) (hg : Gl X "isinstance" := by rfl)
    (hd : (ee == ("__debug__" : Str)) = false := by decide) (hcd : (ee == ("__classdict__" : Str)) = false := by decide)
    (he : starEach [.Name ee p1, .Tuple es kk p2] X.env = (false, eval (.Name ee p1) X.env) :: starEach [.Tuple es kk p2] X.env := by rfl) (he2 : starEach [.Tuple es kk p2] X.env = (false, eval (.Tuple es kk p2) X.env) :: starEach [] X.env := by rfl) (hpl : (backTo pos (starEach [.Tuple es kk p2] X.env)).any (·.1) = false := by rfl) :
    Ev (X.suite a ((a, oe) :: pn)) H0 ρ (.Call (.Name "isinstance" p) [.Name ee p1, .Tuple es kk p2] [] pos) (.bl k) := fun σ H N' r => by
  refine we_of (pe_callB (X := X.suite a ((a, oe) :: pn)) (call_isET C hz hf) hg hm (by decide +kernel) (pa_cons (pv (X := X.suite a ((a, oe) :: pn)) i hN hv hd hcd) (pa_cons (pe_tup pa_w) pa_nil he2) he) (by decide) (by decide) he hpl) ?_
  refine ⟨_, r.rf i a hρ, wa_cls T hst σ H _ ⟨by rw [T.len]; exact hl, fun tp hp => ?_⟩⟩
  have r2 := r.grow (Same.of_none (o := .tup cs) hp) (r.tab.fresh hp)
  exact ⟨tp, cs, us, k, rfl, upd_same, T.paired, e, N', Same.of_none hp, Same.refl _, r2, .bl k⟩

/-! ### lists of one's own -/
theorem pa1 {t : TE} (h : PE X e t) (he : starEach [e] X.env = (false, eval e X.env) :: starEach [] X.env := by rfl) : PA X [e] (tCons t tNil) := pa_cons h pa_nil he
theorem sx_append (i : Nat) {y : Str} {p1 p2 p3 : Pos} (hi : ρ[i]? = some (.ow (.lst ds))) (h : Ev X H0 ρ e d) (hz : ds.length < sizeLine) (hρ : ρ.set i (.ow (.lst (ds ++ [d]))) = ρ1 := by rfl) (hN : X.N[i]? = some y := by rfl) (hv : Vis X.env.scope y := by first | exact Or.inl rfl | exact Or.inr (Or.inl rfl) | exact Or.inr (Or.inr rfl))
    (hd : (y == ("__debug__" : Str)) = false := by decide) (hcd : (y == ("__classdict__" : Str)) = false := by decide)
    (hpe : ∀ to t, PE X (.Name y p1) to → PA X [e] t → PE X (.Call (.Attribute (.Name y p1) "append" p2) [e] [] p3) (tBM X.K "list" rAppend to t) := by exact fun _ _ h g => pe_bm PySem.F.plainAttrs_list PySem.F.slot_list_append PySem.F.type_list_append mt_append h g)
    (he : starEach [e] X.env = (false, eval e X.env) :: starEach [] X.env := by rfl) (hs : swapsWith (.Call (.Attribute (.Name y p1) "append" p2) [e] [] p3) none pos.line X.env = pure false := by rfl) :
    ExS X H0 ρ (.Expr (.Call (.Attribute (.Name y p1) "append" p2) [e] [] p3) pos) (.nx ρ1) := fun D σ H N r k => by
  obtain ⟨q, g1, g2, g3, vs, g4, g5⟩ := r.ow i _ hi
  refine ws_of (ps_expr (hpe _ _ (pv i hN hv hd hcd) (pa_cons pe_w pa_nil he)) hs) ⟨_, g1, .inl ⟨rfl, _, .inl (.inl g4)⟩, (h σ H N r).imp fun v H1 ⟨N1, s1, n1, r1, a1⟩ => ?_⟩
  obtain ⟨q', f1, f2, f3, us, f4, f5⟩ := r1.ow i _ hi
  rw [g1] at f1
  cases f1
  refine ⟨q, us, v, rfl, rfl, f4, by rw [f5.length]; exact hz, k σ _ N1 n1 ?_⟩
  exact hρ ▸ r1.write hi g1 ⟨us ++ [v], upd_same, f5.append (.cons a1 .nil)⟩

/-! ### == of data -/
mutual
def pd : Dat → PyData
  | .non => .none
  | .bl b => .bool b
  | .int i => .int i
  | .str s => .str s
  | .tup ds => .tuple (pds ds)
  | .lst ds => .list (pds ds)
  | .dic _ => .dict []
  | .ins _ _ _ => .none
  | .tix _ => .none
  | .dit _ _ => .none
def pds : List Dat → List PyData
  | [] => []
  | d :: r => pd d :: pds r
end
mutual
/-- no dict in it -/
def nodic : Dat → Bool
  | .tup ds => nodics ds
  | .lst ds => nodics ds
  | .dic _ => false
  | .ins _ _ _ => false
  | .tix _ => false
  | .dit _ _ => false
  | .non => true
  | .bl _ => true
  | .int _ => true
  | .str _ => true
def nodics : List Dat → Bool
  | [] => true
  | d :: r => nodic d && nodics r
end
mutual
theorem At.dp {K : PySem.W.Frag} {H : Hp} : ∀ {v : V} {d : Dat}, At K H v d → nodic d = true → Dp K H v (pd d)
  | _, _, .non, _ => .non
  | _, _, .bl b, _ => .bl b
  | _, _, .int i, _ => .int i
  | _, _, .str s, _ => .str s
  | _, _, .tup h t, f => .tup h (Ats.dp t (by simpa only [nodic] using f))
  | _, _, .lst h t, f => .lst h (Ats.dp t (by simpa only [nodic] using f))
  | _, _, .dic _ _, f => by simp [nodic] at f
  | _, _, .ins _ _ _ _ _, f => by simp [nodic] at f
  | _, _, .tix _, f => by simp [nodic] at f
  | _, _, .dit _ _ _, f => by simp [nodic] at f
theorem Ats.dp {K : PySem.W.Frag} {H : Hp} : ∀ {vs : List V} {ds : List Dat}, Ats K H vs ds → nodics ds = true → DpAll K H vs (pds ds)
  | _, _, .nil, _ => .nil
  | _, _, .cons a t, f => by
    simp only [nodics, Bool.and_eq_true] at f
    exact .cons (At.dp a f.1) (Ats.dp t f.2)
end
def okD (d : Dat) : Bool := nodic d && SeqAt.shaped (pd d)
theorem okD_1 {d : Dat} (h : okD d = true) : nodic d = true := (Bool.and_eq_true_iff.mp h).1
theorem okD_2 {d : Dat} (h : okD d = true) : SeqAt.shaped (pd d) = true := (Bool.and_eq_true_iff.mp h).2
theorem ev_eqD (ha : EvB X H0 ρ a d1) (hb : EvB X H0 ρ b d2) (hu : X.A.units + 64 < cLine) (h1 : okD d1 = true) (h2 : okD d2 = true) : Ev X H0 ρ (.Compare a [.Eq] [b] pos) (.bl (PyData.eqv (pd d1) (pd d2))) :=
  ev_bin (fun _ _ h k => pe_cmpR (op_eqD hu) h k (nomark _)) ha hb fun x y σ H N Q r p q g => ⟨_, _, p.dp (okD_1 h1), q.dp (okD_1 h2), okD_2 h1, okD_2 h2, goes_self g r (.bl _)⟩
theorem ev_neD (ha : EvB X H0 ρ a d1) (hb : EvB X H0 ρ b d2) (hu : X.A.units + 64 < cLine) (h1 : okD d1 = true) (h2 : okD d2 = true) : Ev X H0 ρ (.Compare a [.NotEq] [b] pos) (.bl (!PyData.eqv (pd d1) (pd d2))) :=
  ev_bin (fun _ _ h k => pe_cmpR (op_neD hu) h k (nomark _)) ha hb fun x y σ H N Q r p q g => ⟨_, _, p.dp (okD_1 h1), q.dp (okD_1 h2), okD_2 h1, okD_2 h2, goes_self g r (.bl _)⟩
theorem et_eqD (ha : EvB X H0 ρ a d1) (hb : EvB X H0 ρ b d2) (hu : X.A.units + 64 < cLine) (h1 : okD d1 = true) (h2 : okD d2 = true) : EvT X H0 ρ (.Compare a [.Eq] [b] pos) (PyData.eqv (pd d1) (pd d2)) :=
  evt_bin (fun _ _ h k => pt_cmpR (op_eqD hu) h k (nomark _)) ha hb fun x y σ H N Q r p q g => ⟨_, _, p.dp (okD_1 h1), q.dp (okD_1 h2), okD_2 h1, okD_2 h2, goes_self g r (.bl _)⟩
theorem et_neD (ha : EvB X H0 ρ a d1) (hb : EvB X H0 ρ b d2) (hu : X.A.units + 64 < cLine) (h1 : okD d1 = true) (h2 : okD d2 = true) : EvT X H0 ρ (.Compare a [.NotEq] [b] pos) (!PyData.eqv (pd d1) (pd d2)) :=
  evt_bin (fun _ _ h k => pt_cmpR (op_neD hu) h k (nomark _)) ha hb fun x y σ H N Q r p q g => ⟨_, _, p.dp (okD_1 h1), q.dp (okD_1 h2), okD_2 h1, okD_2 h2, goes_self g r (.bl _)⟩

end
/-! ### list comprehensions -/
section
variable {K : PySem.W.Frag} {H0 H0' H H' N N' : Hp} {ρ : Env'} {σ : L2.St} {D : Addr} {acc : List V}
/-- the list at D, that no name holds, is taken for old -/
theorem Rep.toOld (r : Rep K H0 ρ σ H N) (h0 : H0 D = none) (hD : H D = some (.lst acc)) (hN : N D = none) (hp : ∀ (i : Nat) d, ρ[i]? = some (Ent.ow d) → σ[i]? ≠ some (some (V.ref D))) : Rep K (upd H0 D (.lst acc)) ρ σ H N where
  tab := r.tab
  old := fun a o h => by
    by_cases ha : a = D
    · subst ha; rw [upd_same] at h; rw [hD]; exact Cg.of h
    · rw [upd_ne ha] at h; exact r.old a o h
  sub := r.sub
  imm := fun a o h => by
    by_cases ha : a = D
    · subst ha
      have h1 := imm_eq h
      rw [upd_same] at h1
      cases h1
      exact (imm_not h True.intro).elim
    · have h1 := imm_eq h
      rw [upd_ne ha] at h1
      exact r.imm a o (imm_of h1 (imm_not h))
  fresh := fun a o h m => by
    by_cases ha : a = D
    · subst ha; rw [hN] at h; cases h
    · rw [upd_ne ha]; exact r.fresh a o h m
  len := r.len
  im := r.im
  ol := fun i d h => by
    obtain ⟨v, h1, h2⟩ := r.ol i d h
    exact ⟨v, h1, h2.mono (Same.of_none h0)⟩
  ow := fun i d h => by
    obtain ⟨p, h1, h2, h3⟩ := r.ow i d h
    exact ⟨p, h1, by rw [upd_ne (fun e => hp i d h (by rw [← e]; exact h1))]; exact h2, h3⟩
  rf := r.rf
  apart := r.apart
theorem Rep.back0 (r : Rep K H0 ρ σ H N) (s : Same H0 H0') (r' : Rep K H0' ρ σ H' N') : Rep K H0 ρ σ H' N' where
  tab := r'.tab
  old := s.trans r'.old
  sub := r'.sub
  imm := (imm_same s).trans r'.imm
  fresh := fun a o h m => s.free (r'.fresh a o h m)
  len := r.len
  im := r'.im
  ol := r.ol
  ow := fun i d h => by
    obtain ⟨p, h1, h2, h3⟩ := r'.ow i d h
    exact ⟨p, h1, s.free h2, h3⟩
  rf := r.rf
  apart := r.apart
theorem Rep.back {i : Nat} {x : V} {e : Ent} (r : Rep K H0 ρ σ H N) (hx : ρ[i]? = some .no) (s : Same H0 H0') (r' : Rep K H0' (ρ.set i e) (σ.set i (some x)) H' N') : Rep K H0 ρ σ H' N' := by
  have ne : ∀ {j : Nat} {t : Ent}, ρ[j]? = some t → t ≠ .no → i ≠ j := fun {j t} h n z => by
    subst z
    rw [hx] at h
    cases h
    exact n rfl
  refine ⟨r'.tab, s.trans r'.old, r'.sub, (imm_same s).trans r'.imm, fun a o h m => s.free (r'.fresh a o h m), r.len, fun j d h => ?_, r.ol, fun j d h => ?_, r.rf, r.apart⟩
  · have n := ne h (fun z => nomatch z)
    obtain ⟨v, h1, h2⟩ := r'.im j d (by rw [List.getElem?_set_ne n]; exact h)
    rw [List.getElem?_set_ne n] at h1
    exact ⟨v, h1, h2⟩
  · have n := ne h (fun z => nomatch z)
    obtain ⟨p, h1, h2, h3⟩ := r'.ow j d (by rw [List.getElem?_set_ne n]; exact h)
    rw [List.getElem?_set_ne n] at h1
    exact ⟨p, h1, s.free h2, h3⟩
theorem Rep.updD {o : HO} (r : Rep K H0 ρ σ H N) (tk : Tk (upd H D o)) (h0 : H0 D = none) (hN : N D = none) (hp : ∀ (i : Nat) d, ρ[i]? = some (Ent.ow d) → σ[i]? ≠ some (some (V.ref D))) : Rep K H0 ρ σ (upd H D o) N where
  tab := tk
  old := fun a u h => by rw [upd_ne (ne_of_none h h0)]; exact r.old a u h
  sub := fun a u h => by rw [upd_ne (ne_of_none h hN)]; exact r.sub a u h
  imm := r.imm
  fresh := r.fresh
  len := r.len
  im := r.im
  ol := r.ol
  ow := fun i d h => by
    obtain ⟨p, h1, h2, h3, h4⟩ := r.ow i d h
    have n : p ≠ D := fun e => hp i d h (e ▸ h1)
    refine ⟨p, h1, h2, h3, ?_⟩
    cases d with
    | lst ds => obtain ⟨vs, q1, q2⟩ := h4; exact ⟨vs, by rw [upd_ne n]; exact q1, q2⟩
    | dic ds => obtain ⟨vs, q1, q2⟩ := h4; exact ⟨vs, by rw [upd_ne n]; exact q1, q2⟩
    | dit ks ds => obtain ⟨vs, q1, ql, q2⟩ := h4; exact ⟨vs, by rw [upd_ne n]; exact q1, ql, q2⟩
    | _ => exact h4
  rf := r.rf
  apart := r.apart
/-- what stands at D is nobody's data -/
theorem Rep.notD {ρ' : Env'} {σ' : L2.St} (r : Rep K (upd H0 D (.lst acc)) ρ' σ' H N) : N D = none := by
  cases e : N D with
  | none => rfl
  | some o =>
    have h1 := r.sub _ _ e
    have h2 := (r.old D (.lst acc) upd_same).e
    rw [h2] at h1
    cases h1
    have := r.fresh _ _ e True.intro
    rw [upd_same] at this
    cases this
end
section
variable {X : Cx} {H0 : Hp} {ρ ρ1 ρ2 : Env'} {a b c e : Expr} {es : List Expr} {st : Stmt} {sts rest : List Stmt} {d d1 d2 : Dat} {ds : List Dat} {p pos : Pos} {o o1 : Outc} {x n : Str}
/-- what a comprehension makes of its items: the test of each, the element -/
theorem eo_comp {elt tg iter : Expr} {ifs : List Expr} {scope : Scope} {xn : Str} (i : Nat) {pos : Pos} (hc : X.calm = true) (nd : X.N.Nodup) (hi : Iter X H0 ρ tg iter ds) (ok : blkC X.N X.env.scope scope [(xn, i)] = true) (hx : ρ[i]? = some .no) (f : Dat → Bool) (g : Dat → Dat)
    (htg : ∀ (s : Shared) (H : Hp) (C : Addr) (cl : List (Str × Addr)) (fp : List Addr), PG (X.blk s H scope (compEnvC scope cl C X.env) fp) tg (gName i))
    (hif : (ifs = [] ∧ ∀ d ∈ ds, f d = true) ∨ ∃ c, ifs = [c] ∧ ∀ (H0' : Hp) (s : Shared) (H : Hp) (C : Addr) (cl : List (Str × Addr)) (fp : List Addr), Same H0 H0' → ∀ d ∈ ds, EvT (X.blk s H scope (compEnvC scope cl C X.env) fp) H0' (ρ.set i (.im d)) c (f d))
    (hel : ∀ (H0' : Hp) (s : Shared) (H : Hp) (C : Addr) (cl : List (Str × Addr)) (fp : List Addr), Same H0 H0' → ∀ d ∈ ds, f d = true → Ev (X.blk s H scope (compEnvC scope cl C X.env) fp) H0' (ρ.set i (.im d)) elt (g d))
    (hz : ds.length < sizeLine) (hs : ∀ x, foldedSetIterable iter X.env x = pure x := by intro _; rfl) : EvO X H0 ρ (.ListComp elt [⟨tg, iter, ifs, 0⟩] scope pos) (.lst ((ds.filter f).map g)) := fun σ H N r => by
  obtain ⟨wi, pi, hw⟩ := hi
  have pts : ∀ (s : Shared) (H : Hp) (C : Addr) (cl : List (Str × Addr)) (fp : List Addr), PTs (X.blk s H scope (compEnvC scope cl C X.env) fp) ifs
      (fun σ H Q => (ifs = [] ∧ Q true H) ∨ ∃ c, ifs = [c] ∧ ∀ s H' C cl fp, WT (X.blk s H' scope (compEnvC scope cl C X.env) fp) c σ H Q) := fun s H C cl fp => ⟨fun pins s' σ H Q I h => by
    rcases h with ⟨rfl, h⟩ | ⟨c, rfl, h⟩
    · exact pts_nil.run pins s' σ H Q I h
    · exact (pts_one pt_w).run pins s' σ H Q I (h _ _ _ _ _)⟩
  have pes : ∀ (s : Shared) (H : Hp) (C : Addr) (cl : List (Str × Addr)) (fp : List Addr), PE (X.blk s H scope (compEnvC scope cl C X.env) fp) elt
      (fun σ H Q => ∀ s H' C cl fp, WE (X.blk s H' scope (compEnvC scope cl C X.env) fp) elt σ H Q) := fun s H C cl fp => ⟨fun pins s' σ H Q I h => (h _ _ _ _ _).go pins s' I⟩
  refine we_of (pe_lc hc nd pi (blkOk_by ok) htg pts pes hs) (hw σ H N r _ fun J H1 N1 n1 s1 r1 w => fun D hD => ?_)
  have hiσ : i < σ.length := by rw [← r.len]; exact lt_of_get hx
  refine ⟨fun j m H' => m = ds.length - j ∧ j ≤ ds.length ∧ ∃ N' acc, Same N1 N' ∧ Same H1 H' ∧ Rep X.K H0 ρ σ H' N' ∧ N' D = none ∧ H' D = some (.lst acc) ∧ Ats X.K N' acc (((ds.take j).filter f).map g), ⟨_, rfl, Nat.zero_le _, N1, [], Same.refl _, Same.of_none hD, r1.grow (Same.of_none hD) (r1.tab.fresh hD), r1.sub.free hD, upd_same, by simpa using Ats.nil⟩, ?_⟩
  rintro j m H' ⟨rfl, hj, N', acc, s', e', r', dN, dH, aa⟩
  have h0D : H0 D = none := r1.old.free hD
  have npD : ∀ (q : Nat) d, ρ[q]? = some (Ent.ow d) → σ[q]? ≠ some (some (V.ref D)) := no_own r1 hD
  obtain ⟨wg, wst⟩ := w (upd H0 D (.lst acc)) ρ σ H' N' j (Same.of_none h0D) s' (r'.toOld h0D dH dN npD)
  by_cases hlt : j < ds.length
  · obtain ⟨go, yl⟩ := wg hlt
    have et : ds.take (j + 1) = ds.take j ++ [ds[j]] := by rw [List.take_succ, List.getElem?_eq_getElem hlt]; rfl
    refine .inr ⟨go, fun H' => ∃ N' acc, Same N1 N' ∧ Same H1 H' ∧ Rep X.K H0 ρ σ H' N' ∧ N' D = none ∧ H' D = some (.lst acc) ∧ Ats X.K N' acc (((ds.take (j + 1)).filter f).map g), fun H2 q => ⟨_, by omega, rfl, hlt, q⟩, fun x H2 y => ?_⟩
    obtain ⟨N2, d, n2, e2, r2, e3, a2⟩ := yl x H2 y
    have ed : d = ds[j] := by
      rw [List.getElem?_eq_getElem hlt] at e3
      exact (Option.some.inj e3).symm
    subst ed
    have dH2 : H2 D = some (.lst acc) := e2 _ _ dH
    have np : ∀ (q : Nat) d, ρ[q]? = some (Ent.ow d) → σ[q]? ≠ some (some (V.ref D)) := no_own r1 hD
    have d0 : Same H0 (upd H0 D (.lst acc)) := Same.of_none h0D
    have mem : ds[j] ∈ ds := List.getElem_mem hlt
    have dH2 : H2 D = some (.lst acc) := e2 _ _ dH
    have r2' : Rep X.K (upd H0 D (.lst acc)) ρ σ H2 N2 := r2
    have rs := r2'.setE (i := i) (v := x) (e := .im ds[j]) a2
    have ws : (wipe σ [i]).set i (some x) = σ.set i (some x) := by show (σ.set i none).set i (some x) = _; rw [List.set_set]
    show wipe ((wipe σ [i]).set i (some x)) [i] = wipe σ [i] ∧ _
    refine ⟨by rw [ws]; show (σ.set i (some x)).set i none = σ.set i none; rw [List.set_set], ?_⟩
    rw [show (wipe σ (List.map (fun (x : Str × Nat) => x.snd) [(xn, i)])).set i (some x) = σ.set i (some x) from ws]
    have elem : ∀ H3 N3, f ds[j] = true → Same H2 H3 → Same N2 N3 → Rep X.K (upd H0 D (.lst acc)) (ρ.set i (.im ds[j])) (σ.set i (some x)) H3 N3 → ∀ s H' C cl fp, WE (X.blk s H' scope (compEnvC scope cl C X.env) fp) elt (σ.set i (some x)) H3 fun y H4 => ∃ acc', H4 D = some (.lst acc') ∧ acc'.length < sizeLine ∧
        ∃ N' a', Same N1 N' ∧ Same H1 (upd H4 D (.lst (acc' ++ [y]))) ∧ Rep X.K H0 ρ σ (upd H4 D (.lst (acc' ++ [y]))) N' ∧ N' D = none ∧ (upd H4 D (.lst (acc' ++ [y]))) D = some (.lst a') ∧ Ats X.K N' a' (((ds.take (j + 1)).filter f).map g) := fun H3 N3 hf e3' n3 r3 s H5 C cl fp => by
      refine (hel _ s H5 C cl fp d0 _ mem hf _ _ _ r3).imp fun y H4 ⟨N4, s4, n4, r4, a4⟩ => ?_
      have q4 : H4 D = some (.lst acc) := (s4 _ _ (e3' _ _ dH2).e).e
      refine ⟨acc, q4, ?_, N4, acc ++ [y], (((s'.trans n2).trans n3).trans n4), fun a u h => ?_, (r'.back hx d0 r4).updD (r4.tab.upd q4) h0D r4.notD np, r4.notD, upd_same, ?_⟩
      · rw [aa.length, List.length_map]
        have := List.length_filter_le f (ds.take j)
        have := List.length_take_le j ds
        omega
      · rw [upd_ne (ne_of_none h hD)]
        exact (((Same.trans e' e2).trans e3').trans s4) a u h
      · rw [et, List.filter_append, List.map_append]
        refine ((aa.mono n2).mono n3 |>.mono n4).append ?_
        rw [List.filter_cons, if_pos hf]
        exact .cons a4 .nil
    have skip : ∀ H3 N3, f ds[j] = false → Same H2 H3 → Same N2 N3 → Rep X.K (upd H0 D (.lst acc)) (ρ.set i (.im ds[j])) (σ.set i (some x)) H3 N3 → ∃ N' acc, Same N1 N' ∧ Same H1 H3 ∧ Rep X.K H0 ρ σ H3 N' ∧ N' D = none ∧ H3 D = some (.lst acc) ∧ Ats X.K N' acc (((ds.take (j + 1)).filter f).map g) := fun H3 N3 hf e3' n3 r3 => by
      refine ⟨N3, acc, (s'.trans n2).trans n3, (e'.trans e2).trans e3', r'.back hx d0 r3, r3.notD, e3' _ _ dH2, ?_⟩
      rw [et, List.filter_append, List.map_append, List.filter_cons, if_neg (by rw [hf]; exact Bool.false_ne_true)]
      simpa using (aa.mono n2).mono n3
    rcases hif with ⟨hne, hft⟩ | ⟨c, hc', ht⟩
    · exact .inl ⟨hne, iteT (elem H2 N2 (hft _ mem) (Same.refl _) (Same.refl _) rs)⟩
    · refine .inr ⟨c, hc', fun s H5 C cl fp => ?_⟩
      refine (ht _ s H5 C cl fp d0 _ mem _ _ _ rs).imp fun bb H3 ⟨eb, N3, s3, n3, r3⟩ => ?_
      subst eb
      cases hf : f ds[j] with
      | true => exact iteT (elem H3 N3 hf s3 n3 r3)
      | false => exact iteF (skip H3 N3 hf s3 n3 r3)
  · have e1 : j = ds.length := by omega
    subst e1
    rw [List.take_length] at aa
    exact .inl ⟨wst rfl, N', D, rfl, s1.free hD, s1.trans e', n1.trans s', r', dN, acc, dH, aa⟩
end
end B

namespace B
open PySem PySem.Spec PyProof.Rows L2
def Outc.out : Outc → Prop
  | .nx _ => False
  | _ => True
section
variable {X : Cx} {H0 : Hp} {ρ ρ1 ρ2 : Env'} {a b c e : Expr} {es : List Expr} {st : Stmt} {sts rest : List Stmt} {d d1 d2 : Dat} {ds : List Dat} {p pos : Pos} {o o1 : Outc} {x n : Str}
theorem et_to {k l : Bool} (h : EvT X H0 ρ e k) (hk : k = l) : EvT X H0 ρ e l := hk ▸ h
theorem ev_to (h : Ev X H0 ρ e d1) (hk : d1 = d) : Ev X H0 ρ e d := hk ▸ h
theorem ex_out (h : ExS X H0 ρ st o) (ho : o.out) : Exec X H0 ρ (st :: rest) o := by
  refine ex_cons h ?_
  cases o with
  | nx ρ => exact ho.elim
  | _ => rfl
theorem ev_powC {i j r : Int} (ha : Ev X H0 ρ a (.int i)) (hb : Ev X H0 ρ b (.int j)) (h : CPow i j) (e : i ^ j.toNat = r) : Ev X H0 ρ (.BinOp a .Pow b pos) (.int r) := ev_to (ev_pow ha hb h) (by rw [e])
theorem ev_shlC {i j r : Int} (ha : Ev X H0 ρ a (.int i)) (hb : Ev X H0 ρ b (.int j)) (h : CPow i j) (e : i * 2 ^ j.toNat = r) : Ev X H0 ρ (.BinOp a .LShift b pos) (.int r) := ev_to (ev_shl ha hb h) (by rw [e])
theorem mul_ok {i j : Int} (m n : Nat) (h1 : i.natAbs < 2 ^ m) (h2 : j.natAbs < 2 ^ n) (h0 : 0 < m) (h0' : 0 < n) (h : m + n ≤ 1000000) : IntMulOk i j := (wide_mul h1 h2 h0 h0' h).ok
theorem mul_l {i j : Int} (h1 : -(2 ^ 64) < i) (h2 : i < 2 ^ 64) : IntMulOk i j := .of_left (intBits_le_64 h1 h2)
theorem mul_r {i j : Int} (h1 : -(2 ^ 64) < j) (h2 : j < 2 ^ 64) : IntMulOk i j := .of_right (intBits_le_64 h1 h2)
end
section
variable {P : Program} {w : World} {K : PySem.W.Frag} {mg : Str → Option Value} {base : Heap} {x : Str} {st : Stmt} {ps N : List Str} {k : Nat} {R : List Dat → Res → Prop} {f : Addr} {fd : FuncData}
/-- THE RULE for a def, its address told -/
theorem fn_mk (F : Fun K x x st f fd) (S : FnScope N ps (defScope st)) (hl : ∀ ds o, R ds o → ds.length = ps.length)
    (body : ∀ (f : Addr) (cdv : Value) (A : Around) (outer : List PySem.Env) (s : Shared) (H : Hp) (E : XK), Room k (XX P w K mg base N x st f cdv A outer s H E).A → ∀ ds o, R ds o → ∃ es, Ents es ds ∧ ∀ H0, match o with
      | .own d => ExecO (XX P w K mg base N x st f cdv A outer s H E) H0 (es ++ List.replicate (N.length - ps.length) .no) (defBody st) d
      | o => Ends' (XX P w K mg base N x st f cdv A outer s H E) H0 (es ++ List.replicate (N.length - ps.length) .no) (defBody st) o) : FnOk P w K mg base (L2.CX P w) (k + 1) f fd ps (spR K mg R) := by
  refine F.okX S (fun vs H Q E ⟨_, ds, o, hr, a, _⟩ => by rw [a.length]; exact hl ds o hr) fun cdv A outer s H vs Q E hr hsp => ?_
  obtain ⟨tk, ds, o, hR, a, q⟩ := hsp
  obtain ⟨es, he, hbody⟩ := body f cdv A outer s H E hr ds o hR
  have hlen : vs.length = ps.length := by rw [a.length]; exact hl ds o hR
  have r : Rep K H (es ++ List.replicate (N.length - ps.length) .no) (L2.start N vs) H (Imm H) := hlen ▸ rep_start tk he a
  have hb := hbody H
  refine ⟨_, pb_w, ?_⟩
  cases o with
  | val d =>
    cases hb with
    | ret h => exact h { nx := fun _ H' => Q .non H', rt := Q } _ _ _ r fun v H' s _ rt => q v H' s rt
    | non h => exact h { nx := fun _ H' => Q .non H', rt := Q } _ _ _ r fun σ H' N' s r' => q .non H' r'.old ⟨r'.tab, N', r'.sub, r'.fresh, .non⟩
  | own d => exact hb { nx := fun _ H' => Q .non H', rt := Q } _ _ _ r fun p H' N' s1 s2 s3 s4 s5 s6 s7 => q p H' N' s1 s2 s3 s4 s5 s6 s7
  | exc n =>
    cases hb with
    | exc h => exact h { nx := fun _ H' => Q .non H', rt := Q } _ _ _ r ⟨_, takes_of rfl rfl rfl rfl, fun C σ H' N' hm s r' => q C H' hm r'.tab r'.old⟩
/-- the law's: at most 63 ints, of so many bits -/
def R_law : List Dat → Res → Prop := fun ds o => ∃ ns : List Int, ds = [.lst (ns.map .int)] ∧ ns.length ≤ 63 ∧ (∀ z ∈ ns, Builtin.Int.intBits z ≤ 1048576) ∧ o = .val (.bl true)
def spLaw (K : PySem.W.Frag) : Sp := fun vs H Q _ => ∃ (a : Addr) (ns : List Int), Tk H ∧ vs = [.ref a] ∧ SqL K H a (ns.map V.int) ∧ ns.length ≤ 63 ∧ (∀ z ∈ ns, Builtin.Int.intBits z ≤ 1048576) ∧ ∀ v H', v = .bl true → Q v H'
theorem ats_ints {K : PySem.W.Frag} {H : Hp} (ns : List Int) : Ats K H (ns.map .int) (ns.map .int) := Ats.ofInts ns
theorem law_imp (F : FnOk P w K mg base (L2.CX P w) k f fd ["script"] (spR K mg R_law)) : FnOk P w K mg base (L2.CX P w) k f fd ["script"] (spLaw K) := F.imp fun vs H Q E ⟨a, ns, tk, e, hS, hl, hb, q⟩ => by
  subst e
  exact ⟨tk, [.lst (ns.map .int)], .val (.bl true), ⟨ns, rfl, hl, hb, rfl⟩, .cons (.lst hS (ats_ints ns)) .nil, fun v H' _ ⟨_, N, _, _, a⟩ => q v H' (at_bl a)⟩
end
theorem walk {l : PySem.W.OpenLaw} {k : Nat} {q : Program} {loose : List Str} {XP : (Str → Option Value) → Heap → Prop} {YP : World → Heap → Prop} {d : DefRec} {K : Params → PySem.W.Frag} (hn : l.most = some 63) (hdf : d.params.defaults = []) (hr : Room k callerA)
    (hY : ∀ (w : World) (h : Heap), YP w h → (K w.params).In h)
    (F : ∀ (w : World) (mg : Str → Option Value) (fa : Addr) (h : Heap), (K w.params).In h → h.Ns mainGlobals mg → mg d.name = some (.ref fa) →
      ∃ fd : FuncData, (∀ (s : Shared) (u : Value), BindsTo s fd ⟨[u], []⟩ [("script", u)]) ∧ ∀ base : Heap, (K w.params).In base → base.Ns mainGlobals mg → FnOk l.prog w (K w.params) mg base (L2.CX l.prog w) k fa fd ["script"] (spLaw (K w.params)))
    (ht : tabs0 = [] := by rfl) : PySem.W.WalkO q loose XP YP l.row.toRowW d [] (fun f vs => PySem.call f vs) :=
  L2.walk_ofB (n := 63) (k := k) (x := "script") (CX := fun w => L2.CX l.prog w) (sp := fun w => spLaw (K w.params)) hn (by decide) hdf hr hY F
    (fun _ _ a ns hl hb _ hS => ⟨a, ns, (by unfold Tk; rw [ht]; exact fun p hp => by cases hp), rfl, hS, hl, hb, fun _ _ e => e⟩) fun _ _ _ _ _ h => by
      obtain ⟨_, _, _, _, _, _, _, _, _, _, _, _, z⟩ := h
      exact z.elim

/-! ### the classes of errors among one another -/
def Kit (K : PySem.W.Frag) (mg : Str → Option Value) (C : Addr) (n : Str) (b : Bool) : Prop := ∃ D, mg n = some (.ref D) ∧ PySem.W.kitOne K (.ref C) (.ref D) = some b
def Exm (K : PySem.W.Frag) (mg : Str → Option Value) (C : Addr) (n : Str) : Prop := ∃ D, mg n = some (.ref D) ∧ PySem.W.exmOne K (.ref C) (.ref D) = some true
theorem kit_own {K : PySem.W.Frag} {C D : Addr} {b : Bool} (hs : PySem.W.subIn K (.ref C) (.ref C) = some true) (hd : PySem.W.hasDictIn K D = true) (ht : PySem.W.typeIn K (.ref D) = some (.type "type")) (h : PySem.W.subIn K (.ref C) (.ref D) = some b) : PySem.W.kitOne K (.ref C) (.ref D) = some b := by
  obtain ⟨cd, hc, _⟩ := PySem.W.any_some hd
  by_cases e : C = D
  · subst e
    rw [hs] at h
    cases h
    show (if (Value.ref C == Value.ref C) = true then some true else _) = _
    rw [if_pos (by simp)]
  · show (if (Value.ref C == Value.ref D) = true then some true else (if ((PySem.W.clsIn K D).isSome && PySem.W.typeIn K (.ref D) == some (.type "type")) = true then PySem.W.subIn K (.ref C) (.ref D) else none)) = _
    rw [if_neg (by intro q; exact e (Value.ref.inj (beq_iff_eq.mp q))), if_pos (by rw [hc, ht] <;> rfl)]
    exact h
theorem kit_ve {K : PySem.W.Frag} {C : Addr} (h : PySem.W.subIn K (.ref C) (.type "ValueError") = some true) : PySem.W.kitOne K (.ref C) (.type "ValueError") = some true := by
  show (if (Value.ref C == Value.type "ValueError") = true then some true else (if PySem.W.kitMeta "ValueError" = true then PySem.W.subIn K (.ref C) (.type "ValueError") else none)) = _
  rw [if_neg (by intro e; cases (beq_iff_eq.mp e)), if_pos (by decide +kernel)]
  exact h

def Kits (K : PySem.W.Frag) (mg : Str → Option Value) (C : Addr) : List (Str × Bool) → Prop
  | [] => True
  | p :: r => Kit K mg C p.1 p.2 ∧ Kits K mg C r
theorem kits_nil {K : PySem.W.Frag} {mg : Str → Option Value} {C : Addr} : Kits K mg C [] := trivial
theorem kits_cons {K : PySem.W.Frag} {mg : Str → Option Value} {C : Addr} {n : Str} {b : Bool} {r : List (Str × Bool)} (h : Kit K mg C n b) (t : Kits K mg C r) : Kits K mg C ((n, b) :: r) := ⟨h, t⟩
theorem Kits.get {K : PySem.W.Frag} {mg : Str → Option Value} {C : Addr} : ∀ {l : List (Str × Bool)} (n : Str) (b : Bool), Kits K mg C l → (n, b) ∈ l → Kit K mg C n b
  | [], _, _, _, h => by cases h
  | p :: r, n, b, k, h => by
    rcases List.mem_cons.mp h with e | h
    · have e1 : p.1 = n := by rw [← e]
      have e2 : p.2 = b := by rw [← e]
      rw [← e1, ← e2]
      exact k.1
    · exact Kits.get n b k.2 h
/-- what is known of the class that a refusal has -/
structure ExcX (K : PySem.W.Frag) (mg : Str → Option Value) (n : Str) (l : List (Str × Bool)) (C : Addr) : Prop where
  at_ : ExcAt K mg n C
  ec : ExcC K C
  self : PySem.W.exmOne K (.ref C) (.ref C) = some true
  press : Exm K mg C "PressError"
  ve : PySem.W.kitOne K (.ref C) (.type "ValueError") = some true
  kits : Kits K mg C l
section
variable {X : Cx} {H0 : Hp} {ρ ρ1 ρ2 : Env'} {a b c e : Expr} {es : List Expr} {st : Stmt} {sts rest : List Stmt} {d d1 d2 : Dat} {ds : List Dat} {p pos : Pos} {o o1 : Outc} {x n : Str}
theorem ev_isEo {a D : Addr} {oe : Obj} {pn : List (Addr × Obj)} {y ee : Str} {p1 p2 : Pos} {k : Bool} (i : Nat) (N : Kit X.K X.mg D y k) (C : ExcC X.K D) (hz : Zc (.ref D) none oe) (hf : ∃ vs, oe.data = .fields vs) (hρ : ρ[i]? = some (.rf a))
    (hm : X.mg "isinstance" = none) (hgy : Gl X y := by rfl) (hdy : (y == ("__debug__" : Str)) = false := by decide) (hN : X.N[i]? = some ee := by rfl) (hv : Vis X.env.scope ee := by first | exact Or.inl rfl | exact Or.inr (Or.inl rfl) | exact Or.inr (Or.inr rfl)) (hg : Gl X "isinstance" := by rfl) (hd : (ee == ("__debug__" : Str)) = false := by decide) (hcd : (ee == ("__classdict__" : Str)) = false := by decide)
    (he : starEach [.Name ee p1, .Name y p2] X.env = (false, eval (.Name ee p1) X.env) :: starEach [.Name y p2] X.env := by rfl) (he2 : starEach [.Name y p2] X.env = (false, eval (.Name y p2) X.env) :: starEach [] X.env := by rfl) (hpl : (backTo pos (starEach [.Name y p2] X.env)).any (·.1) = false := by rfl) :
    Ev (X.suite a ((a, oe) :: pn)) H0 ρ (.Call (.Name "isinstance" p) [.Name ee p1, .Name y p2] [] pos) (.bl k) := by
  obtain ⟨D2, m, q⟩ := N
  exact ev_isE (c := .ref D2) (u := .ref D2) i C hz hf hρ ⟨.own D2, hgy, hdy, .inl m⟩ q hm hN hv hg hd hcd he he2 hpl
theorem ev_isEv {a D : Addr} {oe : Obj} {pn : List (Addr × Obj)} {ee : Str} {p1 p2 : Pos} (i : Nat) (N : PySem.W.kitOne X.K (.ref D) (.type "ValueError") = some true) (hb : X.mg "ValueError" = none) (C : ExcC X.K D) (hz : Zc (.ref D) none oe) (hf : ∃ vs, oe.data = .fields vs) (hρ : ρ[i]? = some (.rf a))
    (hm : X.mg "isinstance" = none) (hgy : Gl X "ValueError" := by rfl) (hN : X.N[i]? = some ee := by rfl) (hv : Vis X.env.scope ee := by first | exact Or.inl rfl | exact Or.inr (Or.inl rfl) | exact Or.inr (Or.inr rfl)) (hg : Gl X "isinstance" := by rfl) (hd : (ee == ("__debug__" : Str)) = false := by decide) (hcd : (ee == ("__classdict__" : Str)) = false := by decide)
    (he : starEach [.Name ee p1, .Name "ValueError" p2] X.env = (false, eval (.Name ee p1) X.env) :: starEach [.Name "ValueError" p2] X.env := by rfl) (he2 : starEach [.Name "ValueError" p2] X.env = (false, eval (.Name "ValueError" p2) X.env) :: starEach [] X.env := by rfl) (hpl : (backTo pos (starEach [.Name "ValueError" p2] X.env)).any (·.1) = false := by rfl) :
    Ev (X.suite a ((a, oe) :: pn)) H0 ρ (.Call (.Name "isinstance" p) [.Name ee p1, .Name "ValueError" p2] [] pos) (.bl true) :=
  ev_isE (c := .ty "ValueError") (u := .type "ValueError") i C hz hf hρ ⟨.ty _, hgy, by decide, .inr ⟨hb, by decide +kernel, by decide⟩⟩ N hm hN hv hg hd hcd he he2 hpl
inductive NoKits (X : Cx) (D : Addr) : List Expr → Prop where
  | nil : NoKits X D []
  | cons {y : Str} {pp : Pos} {es : List Expr} (k : Kit X.K X.mg D y false) (t : NoKits X D es) (g : Gl X y := by rfl) (hd : (y == ("__debug__" : Str)) = false := by decide) : NoKits X D (.Name y pp :: es)
theorem NoKits.get {D : Addr} : ∀ {es : List Expr}, NoKits X D es → ∃ cs us, ClsNs X es cs us ∧ PySem.W.kitAny X.K (.ref D) us = some false
  | _, .nil => ⟨[], [], .nil, rfl⟩
  | _, .cons k t g hd => by
    obtain ⟨cs, us, h1, h2⟩ := NoKits.get t
    obtain ⟨E, m, q⟩ := k
    exact ⟨.ref E :: cs, .ref E :: us, .cons ⟨.own E, g, hd, .inl m⟩ h1, kitAny_cons q (fun _ => h2) (fun z => nomatch z)⟩
theorem NoKits.suite {D a : Addr} {pn : List (Addr × Obj)} : ∀ {es : List Expr}, NoKits X D es → NoKits (X.suite a pn) D es
  | _, .nil => .nil
  | _, .cons k t g hd => .cons k (NoKits.suite t) g hd
theorem ev_isEs {a D : Addr} {oe : Obj} {pn : List (Addr × Obj)} {ee : Str} {p1 p2 : Pos} {kk : Nat} (i : Nat) (N : NoKits X D es) (C : ExcC X.K D) (hz : Zc (.ref D) none oe) (hf : ∃ vs, oe.data = .fields vs) (hρ : ρ[i]? = some (.rf a))
    (hm : X.mg "isinstance" = none) (hl : es.length ≤ sizeLine := by decide) (hst : ∀ y pp r, starEach (Expr.Name y pp :: r) X.env = (false, eval (Expr.Name y pp) X.env) :: starEach r X.env := by intro _ _ _; rfl) (hN : X.N[i]? = some ee := by rfl) (hv : Vis X.env.scope ee := by first | exact Or.inl rfl | exact Or.inr (Or.inl rfl) | exact Or.inr (Or.inr rfl)) (hg : Gl X "isinstance" := by rfl)
    (hd : (ee == ("__debug__" : Str)) = false := by decide) (hcd : (ee == ("__classdict__" : Str)) = false := by decide)
    (he : starEach [.Name ee p1, .Tuple es kk p2] X.env = (false, eval (.Name ee p1) X.env) :: starEach [.Tuple es kk p2] X.env := by rfl) (he2 : starEach [.Tuple es kk p2] X.env = (false, eval (.Tuple es kk p2) X.env) :: starEach [] X.env := by rfl) (hpl : (backTo pos (starEach [.Tuple es kk p2] X.env)).any (·.1) = false := by rfl) :
    Ev (X.suite a ((a, oe) :: pn)) H0 ρ (.Call (.Name "isinstance" p) [.Name ee p1, .Tuple es kk p2] [] pos) (.bl false) := by
  obtain ⟨cs, us, h1, h2⟩ := (N.suite (a := a) (pn := (a, oe) :: pn)).get
  exact ev_isET i C hz hf hρ h1 h2 hm hl hst hN hv hg hd hcd he he2 hpl
/-- except x: the class of that name -/
theorem names_of {C : Addr} (h : X.mg x = some (.ref C)) (g : Gl X x := by rfl) (hd : (x == ("__debug__" : Str)) = false := by decide) : Names X x (.ref C) := ⟨g, hd, .inl h⟩
end
def isInt : Dat → Bool
  | .int _ => true
  | .bl _ => true
  | _ => false
theorem kit_isInt : ∀ (d : Dat), kitB (tyName d) "int" = some (isInt d)
  | .non => (by decide +kernel : kitB "NoneType" "int" = some false)
  | .bl _ => (by decide +kernel : kitB "bool" "int" = some true)
  | .int _ => (by decide +kernel : kitB "int" "int" = some true)
  | .str _ => (by decide +kernel : kitB "str" "int" = some false)
  | .tup _ => (by decide +kernel : kitB "tuple" "int" = some false)
  | .lst _ => (by decide +kernel : kitB "list" "int" = some false)
  | .dic _ => (by decide +kernel : kitB "dict" "int" = some false)
  | .ins _ _ _ => (by decide +kernel : kitB "NoneType" "int" = some false)
  | .tix _ => (by decide +kernel : kitB "tuple" "int" = some false)
  | .dit _ _ => (by decide +kernel : kitB "dict" "int" = some false)
def isBool : Dat → Bool
  | .bl _ => true
  | _ => false
theorem kit_isBool : ∀ (d : Dat), kitB (tyName d) "bool" = some (isBool d)
  | .non => (by decide +kernel : kitB "NoneType" "bool" = some false)
  | .bl _ => (by decide +kernel : kitB "bool" "bool" = some true)
  | .int _ => (by decide +kernel : kitB "int" "bool" = some false)
  | .str _ => (by decide +kernel : kitB "str" "bool" = some false)
  | .tup _ => (by decide +kernel : kitB "tuple" "bool" = some false)
  | .lst _ => (by decide +kernel : kitB "list" "bool" = some false)
  | .dic _ => (by decide +kernel : kitB "dict" "bool" = some false)
  | .ins _ _ _ => (by decide +kernel : kitB "NoneType" "bool" = some false)
  | .tix _ => (by decide +kernel : kitB "tuple" "bool" = some false)
  | .dit _ _ => (by decide +kernel : kitB "dict" "bool" = some false)
def isStr : Dat → Bool
  | .str _ => true
  | _ => false
theorem kit_isStr : ∀ (d : Dat), kitB (tyName d) "str" = some (isStr d)
  | .non => (by decide +kernel : kitB "NoneType" "str" = some false)
  | .bl _ => (by decide +kernel : kitB "bool" "str" = some false)
  | .int _ => (by decide +kernel : kitB "int" "str" = some false)
  | .str _ => (by decide +kernel : kitB "str" "str" = some true)
  | .tup _ => (by decide +kernel : kitB "tuple" "str" = some false)
  | .lst _ => (by decide +kernel : kitB "list" "str" = some false)
  | .dic _ => (by decide +kernel : kitB "dict" "str" = some false)
  | .ins _ _ _ => (by decide +kernel : kitB "NoneType" "str" = some false)
  | .tix _ => (by decide +kernel : kitB "tuple" "str" = some false)
  | .dit _ _ => (by decide +kernel : kitB "dict" "str" = some false)
def isTup : Dat → Bool
  | .tup _ => true
  | .tix _ => true
  | _ => false
theorem kit_isTup : ∀ (d : Dat), kitB (tyName d) "tuple" = some (isTup d)
  | .non => (by decide +kernel : kitB "NoneType" "tuple" = some false)
  | .bl _ => (by decide +kernel : kitB "bool" "tuple" = some false)
  | .int _ => (by decide +kernel : kitB "int" "tuple" = some false)
  | .str _ => (by decide +kernel : kitB "str" "tuple" = some false)
  | .tup _ => (by decide +kernel : kitB "tuple" "tuple" = some true)
  | .lst _ => (by decide +kernel : kitB "list" "tuple" = some false)
  | .dic _ => (by decide +kernel : kitB "dict" "tuple" = some false)
  | .ins _ _ _ => (by decide +kernel : kitB "NoneType" "tuple" = some false)
  | .tix _ => (by decide +kernel : kitB "tuple" "tuple" = some true)
  | .dit _ _ => (by decide +kernel : kitB "dict" "tuple" = some false)
def isLst : Dat → Bool
  | .lst _ => true
  | _ => false
theorem kit_isLst : ∀ (d : Dat), kitB (tyName d) "list" = some (isLst d)
  | .non => (by decide +kernel : kitB "NoneType" "list" = some false)
  | .bl _ => (by decide +kernel : kitB "bool" "list" = some false)
  | .int _ => (by decide +kernel : kitB "int" "list" = some false)
  | .str _ => (by decide +kernel : kitB "str" "list" = some false)
  | .tup _ => (by decide +kernel : kitB "tuple" "list" = some false)
  | .lst _ => (by decide +kernel : kitB "list" "list" = some true)
  | .dic _ => (by decide +kernel : kitB "dict" "list" = some false)
  | .ins _ _ _ => (by decide +kernel : kitB "NoneType" "list" = some false)
  | .tix _ => (by decide +kernel : kitB "tuple" "list" = some false)
  | .dit _ _ => (by decide +kernel : kitB "dict" "list" = some false)
def isDic : Dat → Bool
  | .dic _ => true
  | .dit _ _ => true
  | _ => false
theorem kit_isDic : ∀ (d : Dat), kitB (tyName d) "dict" = some (isDic d)
  | .non => (by decide +kernel : kitB "NoneType" "dict" = some false)
  | .bl _ => (by decide +kernel : kitB "bool" "dict" = some false)
  | .int _ => (by decide +kernel : kitB "int" "dict" = some false)
  | .str _ => (by decide +kernel : kitB "str" "dict" = some false)
  | .tup _ => (by decide +kernel : kitB "tuple" "dict" = some false)
  | .lst _ => (by decide +kernel : kitB "list" "dict" = some false)
  | .dic _ => (by decide +kernel : kitB "dict" "dict" = some true)
  | .ins _ _ _ => (by decide +kernel : kitB "NoneType" "dict" = some false)
  | .tix _ => (by decide +kernel : kitB "tuple" "dict" = some false)
  | .dit _ _ => (by decide +kernel : kitB "dict" "dict" = some true)
section
variable {X : Cx} {H0 : Hp} {ρ ρ1 ρ2 : Env'} {a b c e : Expr} {es : List Expr} {st : Stmt} {sts rest : List Stmt} {d d1 d2 : Dat} {ds : List Dat} {p pos : Pos} {o o1 : Outc} {x n : Str}
theorem ev_isi_int {p2 : Pos} (ha : EvB X H0 ρ a d) (hm : X.mg "isinstance" = none) (hmT : X.mg "int" = none) (hg : Gl X "isinstance" := by rfl) (hgT : Gl X "int" := by rfl)
    (he : starEach [a, .Name "int" p2] X.env = (false, eval a X.env) :: starEach [.Name "int" p2] X.env := by rfl) (he2 : starEach [.Name "int" p2] X.env = (false, eval (.Name "int" p2) X.env) :: starEach [] X.env := by rfl) (hpl : (backTo pos (starEach [.Name "int" p2] X.env)).any (·.1) = false := by rfl) :
    Ev X H0 ρ (.Call (.Name "isinstance" p) [a, .Name "int" p2] [] pos) (.bl (isInt d)) := ev_isi ha (kit_isInt d) hm hmT (by decide +kernel) hg hgT (by decide) (by decide) he he2 hpl
theorem ev_isi_bool {p2 : Pos} (ha : EvB X H0 ρ a d) (hm : X.mg "isinstance" = none) (hmT : X.mg "bool" = none) (hg : Gl X "isinstance" := by rfl) (hgT : Gl X "bool" := by rfl)
    (he : starEach [a, .Name "bool" p2] X.env = (false, eval a X.env) :: starEach [.Name "bool" p2] X.env := by rfl) (he2 : starEach [.Name "bool" p2] X.env = (false, eval (.Name "bool" p2) X.env) :: starEach [] X.env := by rfl) (hpl : (backTo pos (starEach [.Name "bool" p2] X.env)).any (·.1) = false := by rfl) :
    Ev X H0 ρ (.Call (.Name "isinstance" p) [a, .Name "bool" p2] [] pos) (.bl (isBool d)) := ev_isi ha (kit_isBool d) hm hmT (by decide +kernel) hg hgT (by decide) (by decide) he he2 hpl
theorem ev_isi_str {p2 : Pos} (ha : EvB X H0 ρ a d) (hm : X.mg "isinstance" = none) (hmT : X.mg "str" = none) (hg : Gl X "isinstance" := by rfl) (hgT : Gl X "str" := by rfl)
    (he : starEach [a, .Name "str" p2] X.env = (false, eval a X.env) :: starEach [.Name "str" p2] X.env := by rfl) (he2 : starEach [.Name "str" p2] X.env = (false, eval (.Name "str" p2) X.env) :: starEach [] X.env := by rfl) (hpl : (backTo pos (starEach [.Name "str" p2] X.env)).any (·.1) = false := by rfl) :
    Ev X H0 ρ (.Call (.Name "isinstance" p) [a, .Name "str" p2] [] pos) (.bl (isStr d)) := ev_isi ha (kit_isStr d) hm hmT (by decide +kernel) hg hgT (by decide) (by decide) he he2 hpl
theorem ev_isi_tuple {p2 : Pos} (ha : EvB X H0 ρ a d) (hm : X.mg "isinstance" = none) (hmT : X.mg "tuple" = none) (hg : Gl X "isinstance" := by rfl) (hgT : Gl X "tuple" := by rfl)
    (he : starEach [a, .Name "tuple" p2] X.env = (false, eval a X.env) :: starEach [.Name "tuple" p2] X.env := by rfl) (he2 : starEach [.Name "tuple" p2] X.env = (false, eval (.Name "tuple" p2) X.env) :: starEach [] X.env := by rfl) (hpl : (backTo pos (starEach [.Name "tuple" p2] X.env)).any (·.1) = false := by rfl) :
    Ev X H0 ρ (.Call (.Name "isinstance" p) [a, .Name "tuple" p2] [] pos) (.bl (isTup d)) := ev_isi ha (kit_isTup d) hm hmT (by decide +kernel) hg hgT (by decide) (by decide) he he2 hpl
theorem ev_isi_list {p2 : Pos} (ha : EvB X H0 ρ a d) (hm : X.mg "isinstance" = none) (hmT : X.mg "list" = none) (hg : Gl X "isinstance" := by rfl) (hgT : Gl X "list" := by rfl)
    (he : starEach [a, .Name "list" p2] X.env = (false, eval a X.env) :: starEach [.Name "list" p2] X.env := by rfl) (he2 : starEach [.Name "list" p2] X.env = (false, eval (.Name "list" p2) X.env) :: starEach [] X.env := by rfl) (hpl : (backTo pos (starEach [.Name "list" p2] X.env)).any (·.1) = false := by rfl) :
    Ev X H0 ρ (.Call (.Name "isinstance" p) [a, .Name "list" p2] [] pos) (.bl (isLst d)) := ev_isi ha (kit_isLst d) hm hmT (by decide +kernel) hg hgT (by decide) (by decide) he he2 hpl
theorem ev_isi_dict {p2 : Pos} (ha : EvB X H0 ρ a d) (hm : X.mg "isinstance" = none) (hmT : X.mg "dict" = none) (hg : Gl X "isinstance" := by rfl) (hgT : Gl X "dict" := by rfl)
    (he : starEach [a, .Name "dict" p2] X.env = (false, eval a X.env) :: starEach [.Name "dict" p2] X.env := by rfl) (he2 : starEach [.Name "dict" p2] X.env = (false, eval (.Name "dict" p2) X.env) :: starEach [] X.env := by rfl) (hpl : (backTo pos (starEach [.Name "dict" p2] X.env)).any (·.1) = false := by rfl) :
    Ev X H0 ρ (.Call (.Name "isinstance" p) [a, .Name "dict" p2] [] pos) (.bl (isDic d)) := ev_isi ha (kit_isDic d) hm hmT (by decide +kernel) hg hgT (by decide) (by decide) he he2 hpl
end

theorem ExcX.eq {K : PySem.W.Frag} {mg : Str → Option Value} {n : Str} {l : List (Str × Bool)} {C C' : Addr} (x : ExcX K mg n l C) (h : mg n = some (.ref C')) : C' = C := by
  rw [x.at_.g] at h
  cases h
  rfl
theorem ExcX.exm {K : PySem.W.Frag} {mg : Str → Option Value} {n : Str} {l : List (Str × Bool)} {C : Addr} (x : ExcX K mg n l C) : ∀ C', mg n = some (.ref C') → PySem.W.exmOne K (.ref C') (.ref C) = some true := fun C' h => by
  rw [x.eq h]
  exact x.self

theorem fits_small {i : Int} (h1 : -(2 ^ 40) ≤ i) (h2 : i ≤ 2 ^ 40) : Builtin.Range.rangeFitsLong i = true := by
  unfold Builtin.Range.rangeFitsLong
  rw [Bool.and_eq_true]
  exact ⟨decide_eq_true (by omega), decide_eq_true (by omega)⟩
/-- range(i, j, c), c above 0 -/
theorem rgc_pos {i j c : Int} {n : Nat} (hc : 0 < c) (hc2 : c < 1073741824) (hi : -(2 ^ 39) ≤ i) (hi2 : i ≤ 2 ^ 39) (hj : -(2 ^ 39) ≤ j) (hj2 : j ≤ 2 ^ 39) (hn : (n : Int) = if i < j then (j - i - 1) / c + 1 else 0) : RgC i j c n := by
  have e : Builtin.Range.rangeSize i j c = (n : Int) := by
    unfold Builtin.Range.rangeSize
    rw [if_pos hc, hn]
  have hb : (n : Int) ≤ 2 ^ 40 := by
    rw [hn]
    split
    · have : (j - i - 1) / c ≤ j - i - 1 := Int.ediv_le_self _ (by omega)
      omega
    · decide
  refine ⟨by omega, by omega, ?_, e⟩
  unfold Builtin.Range.small
  rw [e, fits_small (by omega) (by omega), fits_small (by omega) (by omega), fits_small (by omega) (by omega), fits_small (i := (n : Int)) (by omega) hb, if_pos hc, fits_small (by omega) (by omega)]
  simp

/-- each turn leads back to the same -/
theorem for_same {X : Cx} {H0 : Hp} {bd : Dat → Env' → Env'} {body : List Stmt} {ρ : Env'} : ∀ {ds : List Dat}, (∀ d ∈ ds, Exec X H0 (bd d ρ) body (.nx ρ)) → ForT X H0 bd body ds ρ (.nx ρ)
  | [], _ => .nil
  | d :: ds, h => .turn (h d List.mem_cons_self) (for_same fun e he => h e (List.mem_cons_of_mem _ he))
theorem mem_steps {lo c : Int} {n : Nat} {d : Dat} (h : d ∈ steps lo c n) : ∃ i : Nat, i < n ∧ d = .int (lo + (i : Int) * c) := by
  unfold steps at h
  obtain ⟨i, hi, rfl⟩ := List.mem_map.mp h
  exact ⟨i, List.mem_range.mp hi, rfl⟩
theorem mem_ints {ns : List Int} {d : Dat} (h : d ∈ ns.map Dat.int) : ∃ z, z ∈ ns ∧ d = .int z := by
  obtain ⟨i, hi, rfl⟩ := List.mem_map.mp h
  exact ⟨i, hi, rfl⟩
end B

namespace B
open PySem PySem.Spec PyProof.Rows L2

/-- a text -/
abbrev tx (l : List Nat) : Dat := .str (SX.S l)
/-- the part of a row from lo to hi -/
def cut {α : Type} (xs : List α) (lo hi : Option Int) : List α := (xs.drop (HT.sIx xs.length 0 lo)).take (HT.sIx xs.length xs.length hi - HT.sIx xs.length 0 lo)
theorem flats_cut {ds : List Dat} (f : flats ds = true) (lo hi : Option Int) : flats (cut ds lo hi) = true := by
  have h1 : ∀ (l : List Dat), flats l = l.all flat := by
    intro l
    induction l with
    | nil => rfl
    | cons d r ih => show (flat d && flats r) = _; rw [ih]; rfl
  rw [h1, List.all_eq_true] at f ⊢
  intro d hd
  exact f d (List.mem_of_mem_drop (List.mem_of_mem_take hd))

section
variable {X : Cx} {H0 : Hp} {ρ ρ1 ρ2 : Env'} {a b c e : Expr} {es : List Expr} {st : Stmt} {sts rest : List Stmt} {d d1 d2 : Dat} {ds : List Dat} {p pos : Pos} {o o1 : Outc} {x n : Str}

/-! ### sum, list, ord, int -/
theorem ev_sum {ns : List Int} (ha : EvB X H0 ρ a (.lst (ns.map .int))) (hc : X.calm = true) (hm : X.mg "sum" = none) (hg : Gl X "sum" := by rfl) (he : starEach [a] X.env = (false, eval a X.env) :: starEach [] X.env := by rfl) (hpl : (backTo pos (starEach [] X.env)).any (·.1) = false := by rfl) :
    Ev X H0 ρ (.Call (.Name "sum" p) [a] [] pos) (.int ns.sum) := ev_blt (cr_sum hc) hm (by decide +kernel) (eab1 ha he) (fun vs σ H N Q r q g => by
    obtain ⟨v, e1, e2⟩ := ats_one q
    obtain ⟨pp, us, e3, h1, h2⟩ := at_lst e2
    rw [h2.ints] at h1
    exact ⟨pp, ns, by rw [e1, e3], h1, goes_self g r (.int _)⟩) hg (by decide) (by decide) he hpl
theorem eo_list (ha : EvB X H0 ρ a (.lst ds)) (f : flats ds = true) (hm : X.mg "list" = none) (hg : Gl X "list" := by rfl) (he : starEach [a] X.env = (false, eval a X.env) :: starEach [] X.env := by rfl) (hpl : (backTo pos (starEach [] X.env)).any (·.1) = false := by rfl) :
    EvO X H0 ρ (.Call (.Name "list" p) [a] [] pos) (.lst ds) := fun σ H N rp =>
  we_of (pe_callTy call_list_of hg hm (by decide +kernel) pa_w (by decide) (by decide) he hpl) ((eab1 ha he σ H N rp).imp fun vs H1 ⟨N1, s1, n1, r1, a1⟩ => by
    obtain ⟨v, e1, e2⟩ := ats_one a1
    obtain ⟨pp, us, e3, h1, h2⟩ := at_lst e2
    obtain ⟨N2, n2, r2, k⟩ := r1.keep
    refine ⟨pp, us, by rw [e1, e3], .inl h1, fun l hl => ?_⟩
    obtain ⟨r3, n3⟩ := eo_new (o := .lst us) r2 hl
    exact ⟨N2, l, rfl, s1.free hl, s1.trans (Same.of_none hl), n1.trans n2, r3, n3, us, upd_same, (h2.imm f).mono k⟩)
theorem eo_listT (ha : EvB X H0 ρ a (.tup ds)) (f : flats ds = true) (hm : X.mg "list" = none) (hg : Gl X "list" := by rfl) (he : starEach [a] X.env = (false, eval a X.env) :: starEach [] X.env := by rfl) (hpl : (backTo pos (starEach [] X.env)).any (·.1) = false := by rfl) :
    EvO X H0 ρ (.Call (.Name "list" p) [a] [] pos) (.lst ds) := fun σ H N rp =>
  we_of (pe_callTy call_list_of hg hm (by decide +kernel) pa_w (by decide) (by decide) he hpl) ((eab1 ha he σ H N rp).imp fun vs H1 ⟨N1, s1, n1, r1, a1⟩ => by
    obtain ⟨v, e1, e2⟩ := ats_one a1
    obtain ⟨pp, us, e3, h1, h2⟩ := at_seq e2
    obtain ⟨N2, n2, r2, k⟩ := r1.keep
    refine ⟨pp, us, by rw [e1, e3], .inr h1, fun l hl => ?_⟩
    obtain ⟨r3, n3⟩ := eo_new (o := .lst us) r2 hl
    exact ⟨N2, l, rfl, s1.free hl, s1.trans (Same.of_none hl), n1.trans n2, r3, n3, us, upd_same, (h2.imm f).mono k⟩)
theorem ev_ord {k : Nat} (ha : Ev X H0 ρ a (tx [k])) (hm : X.mg "ord" = none) (hg : Gl X "ord" := by rfl) (he : starEach [a] X.env = (false, eval a X.env) :: starEach [] X.env := by rfl) (hpl : (backTo pos (starEach [] X.env)).any (·.1) = false := by rfl) :
    Ev X H0 ρ (.Call (.Name "ord" p) [a] [] pos) (.int (k : Int)) := ev_blt call_ord hm (by decide +kernel) (eab1 ha.toB he) (fun vs σ H N Q r q g => by
    obtain ⟨v, e1, e2⟩ := ats_one q
    rw [at_str e2] at e1
    exact ⟨_, e1, rfl, goes_self g r (.int _)⟩) hg (by decide) (by decide) he hpl
theorem ev_intB {k : Bool} (ha : Ev X H0 ρ a (.bl k)) (hm : X.mg "int" = none) (hg : Gl X "int" := by rfl) (he : starEach [a] X.env = (false, eval a X.env) :: starEach [] X.env := by rfl) (hpl : (backTo pos (starEach [] X.env)).any (·.1) = false := by rfl) :
    Ev X H0 ρ (.Call (.Name "int" p) [a] [] pos) (.int (if k then 1 else 0)) := ev_ty call_int1 hm (by decide +kernel) (eab1 ha.toB he) (fun vs σ H N Q r q g => by
    obtain ⟨v, e1, e2⟩ := ats_one q
    rw [at_bl e2] at e1
    exact .inr ⟨k, e1, goes_self g r (.int _)⟩) hg (by decide) (by decide) he hpl

/-! ### slices -/
/-- a part of a slice -/
def EvP (X : Cx) (H0 : Hp) (ρ : Env') (e : Option Expr) (o : Option Int) : Prop := ∃ t : TO, PO X e t ∧ ∀ σ H N, Rep X.K H0 ρ σ H N → ∀ Q : Option Int → Hp → Prop, (∀ H' N', Same H H' → Same N N' → Rep X.K H0 ρ σ H' N' → Q o H') → t σ H Q
theorem eo_none : EvP X H0 ρ none none := ⟨_, po_none, fun σ H N r Q k => k H N (Same.refl _) (Same.refl _) r⟩
theorem eo_some {i : Int} (h : Ev X H0 ρ e (.int i)) : EvP X H0 ρ (some e) (some i) := ⟨_, po_some pe_w, fun σ H N r Q k => (h σ H N r).imp fun v H' ⟨N', s, n, r', a⟩ => ⟨i, at_int a, k H' N' s n r'⟩⟩
section
variable {lo hi : Option Expr} {l h : Option Int} {p2 : Pos}
theorem ev_slS {z : Str} (ha : Ev X H0 ρ a (.str z)) (hl : EvP X H0 ρ lo l) (hh : EvP X H0 ρ hi h) (hz : z.length ≤ sizeLine) : Ev X H0 ρ (.Subscript a (.Slice lo hi none p2) pos) (.str (Txt.slice z l h)) := fun σ H N rp => by
  obtain ⟨tl, pl, kl⟩ := hl
  obtain ⟨th, ph, kh⟩ := hh
  exact we_of (pe_slice C8.sl_txt pe_w pl ph) ((ha σ H N rp).imp fun v H1 ⟨N1, s1, n1, r1, a1⟩ => kl σ H1 N1 r1 _ fun H2 N2 s2 n2 r2 => kh σ H2 N2 r2 _ fun H3 N3 s3 n3 r3 =>
    ⟨z, at_str a1, hz, N3, (s1.trans s2).trans s3, (n1.trans n2).trans n3, r3, .str _⟩)
theorem eo_slL (ha : EvB X H0 ρ a (.lst ds)) (hl : EvP X H0 ρ lo l) (hh : EvP X H0 ρ hi h) (f : flats ds = true) : EvO X H0 ρ (.Subscript a (.Slice lo hi none p2) pos) (.lst (cut ds l h)) := fun σ H N rp => by
  obtain ⟨tl, pl, kl⟩ := hl
  obtain ⟨th, ph, kh⟩ := hh
  refine we_of (pe_slice sl_list pe_w pl ph) ((ha σ H N rp).imp fun v H1 ⟨N1, s1, n1, r1, a1⟩ => kl σ H1 N1 r1 _ fun H2 N2 s2 n2 r2 => kh σ H2 N2 r2 _ fun H3 N3 s3 n3 r3 => ?_)
  obtain ⟨pp, us, e3, h1, h2⟩ := at_lst ((a1.mono s2).mono s3)
  obtain ⟨N4, n4, r4, k⟩ := r3.keep
  refine ⟨pp, us, e3, h1, fun q hq => ?_⟩
  obtain ⟨r5, n5⟩ := eo_new (o := .lst (cutV us l h)) r4 hq
  refine ⟨N4, q, rfl, ((s1.trans s2).trans s3).free hq, ((s1.trans s2).trans s3).trans (Same.of_none hq), ((n1.trans n2).trans n3).trans n4, r5, n5, _, upd_same, ?_⟩
  have := ((h2.imm f).mono k)
  unfold cutV cut
  rw [h2.length]
  exact (this.drop _).take _
theorem ev_slT (ha : Ev X H0 ρ a (.tup ds)) (hl : EvP X H0 ρ lo l) (hh : EvP X H0 ρ hi h) : Ev X H0 ρ (.Subscript a (.Slice lo hi none p2) pos) (.tup (cut ds l h)) := fun σ H N rp => by
  obtain ⟨tl, pl, kl⟩ := hl
  obtain ⟨th, ph, kh⟩ := hh
  refine we_of (pe_slice sl_tupA pe_w pl ph) ((ha σ H N rp).imp fun v H1 ⟨N1, s1, n1, r1, a1⟩ => kl σ H1 N1 r1 _ fun H2 N2 s2 n2 r2 => kh σ H2 N2 r2 _ fun H3 N3 s3 n3 r3 => ?_)
  obtain ⟨pp, us, e3, h1, h2⟩ := at_seq ((a1.mono n2).mono n3)
  refine ⟨pp, us, e3, sqt_same r3.sub h1, fun hw => ?_, fun hw q hq => ?_⟩
  · refine ⟨N3, (s1.trans s2).trans s3, (n1.trans n2).trans n3, r3, ?_⟩
    have e : cut ds l h = ds := by
      unfold cut
      rw [h2.length] at hw
      rw [hw.1, hw.2]
      simp
    rw [e]
    exact .tup h1 h2
  · obtain ⟨r5, n5⟩ := r3.new (o := .tup (cutV us l h)) hq
    have hh : ∀ Z, Ats X.K Z us ds → Ats X.K Z (cutV us l h) (cut ds l h) := fun Z z => by
      unfold cutV cut
      rw [h2.length]
      exact (z.drop _).take _
    exact ⟨_, ((s1.trans s2).trans s3).trans (Same.of_none hq), ((n1.trans n2).trans n3).trans n5, r5, .tup (.inl (.inl upd_same)) (hh _ (h2.mono n5))⟩
end

/-! ### texts -/
theorem ev_ixX {l : List Nat} {i : Int} {k : Nat} (ha : Ev X H0 ρ a (tx l)) (hb : Ev X H0 ρ b (.int i)) (hz : l.length ≤ sizeLine) (q : atI l i = some k) (hs : PlainIx b := by exact fun _ _ => rfl) : Ev X H0 ρ (.Subscript a b pos) (tx [k]) :=
  ev_ixS (z := SX.S l) ha hb (by rw [SX.S_len]; exact hz) q hs
theorem ev_catX {l m : List Nat} (ha : Ev X H0 ρ a (tx l)) (hb : Ev X H0 ρ b (tx m)) (hz : l.length + m.length ≤ sizeLine) : Ev X H0 ρ (.BinOp a .Add b pos) (tx (l ++ m)) := by
  have := ev_cat (pos := pos) ha hb (by rw [SX.S_len, SX.S_len]; exact hz)
  rw [SX.S_cat] at this
  exact this
theorem et_eqX {l m : List Nat} (ha : Ev X H0 ρ a (tx l)) (hb : Ev X H0 ρ b (tx m)) : EvT X H0 ρ (.Compare a [.Eq] [b] pos) (decide (l = m)) := by
  have := et_eqS (pos := pos) ha hb
  rw [show decide (SX.S l = SX.S m) = decide (l = m) from decide_eq_decide.mpr ⟨SX.S_inj, fun e => by rw [e]⟩] at this
  exact this
theorem ev_eqX {l m : List Nat} (ha : Ev X H0 ρ a (tx l)) (hb : Ev X H0 ρ b (tx m)) : Ev X H0 ρ (.Compare a [.Eq] [b] pos) (.bl (decide (l = m))) := by
  have := ev_eqS (pos := pos) ha hb
  rw [show decide (SX.S l = SX.S m) = decide (l = m) from decide_eq_decide.mpr ⟨SX.S_inj, fun e => by rw [e]⟩] at this
  exact this
theorem et_neX {l m : List Nat} (ha : Ev X H0 ρ a (tx l)) (hb : Ev X H0 ρ b (tx m)) : EvT X H0 ρ (.Compare a [.NotEq] [b] pos) (!decide (l = m)) := by
  have := et_neS (pos := pos) ha hb
  rw [show decide (SX.S l = SX.S m) = decide (l = m) from decide_eq_decide.mpr ⟨SX.S_inj, fun e => by rw [e]⟩] at this
  exact this
theorem ev_neX {l m : List Nat} (ha : Ev X H0 ρ a (tx l)) (hb : Ev X H0 ρ b (tx m)) : Ev X H0 ρ (.Compare a [.NotEq] [b] pos) (.bl (!decide (l = m))) := by
  have := ev_neS (pos := pos) ha hb
  rw [show decide (SX.S l = SX.S m) = decide (l = m) from decide_eq_decide.mpr ⟨SX.S_inj, fun e => by rw [e]⟩] at this
  exact this
theorem et_inX {k : Nat} {l : List Nat} (ha : Ev X H0 ρ a (tx [k])) (hb : Ev X H0 ρ b (tx l)) (hm : behindInMarks .In b = false := by rfl) : EvT X H0 ρ (.Compare a [.In] [b] pos) (decide (k ∈ l)) :=
  evt_bin (fun _ _ h k => pt_cmpR op_in_sign h k hm) ha.toB hb.toB fun x y σ H N Q r p q g => ⟨k, SX.S l, at_str p, at_str q, goes_self g r (.bl _)⟩
theorem et_ninX {k : Nat} {l : List Nat} (ha : Ev X H0 ρ a (tx [k])) (hb : Ev X H0 ρ b (tx l)) (hm : behindInMarks .NotIn b = false := by rfl) : EvT X H0 ρ (.Compare a [.NotIn] [b] pos) (!decide (k ∈ l)) :=
  evt_bin (fun _ _ h k => pt_cmpR op_notIn_sign h k hm) ha.toB hb.toB fun x y σ H N Q r p q g => ⟨k, SX.S l, at_str p, at_str q, goes_self g r (.bl _)⟩
theorem ev_inX {k : Nat} {l : List Nat} (ha : Ev X H0 ρ a (tx [k])) (hb : Ev X H0 ρ b (tx l)) (hm : behindInMarks .In b = false := by rfl) : Ev X H0 ρ (.Compare a [.In] [b] pos) (.bl (decide (k ∈ l))) :=
  ev_bin (fun _ _ h k => pe_cmpR op_in_sign h k hm) ha.toB hb.toB fun x y σ H N Q r p q g => ⟨k, SX.S l, at_str p, at_str q, goes_self g r (.bl _)⟩
theorem ev_ninX {k : Nat} {l : List Nat} (ha : Ev X H0 ρ a (tx [k])) (hb : Ev X H0 ρ b (tx l)) (hm : behindInMarks .NotIn b = false := by rfl) : Ev X H0 ρ (.Compare a [.NotIn] [b] pos) (.bl (!decide (k ∈ l))) :=
  ev_bin (fun _ _ h k => pe_cmpR op_notIn_sign h k hm) ha.toB hb.toB fun x y σ H N Q r p q g => ⟨k, SX.S l, at_str p, at_str q, goes_self g r (.bl _)⟩
theorem it_tx {t : Expr} {l : List Nat} (h : Ev X H0 ρ e (tx l)) : Iter X H0 ρ t e (l.map fun k => tx [k]) := it_str (z := SX.S l) h

theorem ev_lit {z : Str} {l : List Nat} {j} (h : z = SX.S l := by decide +kernel) : Ev X H0 ρ (.Constant (.str z) j pos) (tx l) := by
  subst h
  exact ev_str

/-! ### methods of texts -/
theorem ev_m1 {id : String} {name : Str} {apos : Pos} {r : V → List V → Hp → VK → Prop} {z : Str} (slot : Slot "str" name id) (ty : typeOf (.builtin id) = pure (.type "method_descriptor")) (rule : MtR X id r) (ha : Ev X H0 ρ a (.str z)) (hb : EvB X H0 ρ b d1)
    (hr : ∀ y σ H N Q, Rep X.K H0 ρ σ H N → At X.K H y d1 → Goes X.K H0 ρ σ H N d Q → r (.str z) [y] H Q)
    (hs : starEach [b] X.env = [(false, eval b X.env)] := by rfl) (hbase : attributeBase a name X.env (eval a X.env) = eval a X.env := by rfl) (hline : (apos.endLine == pos.line) = true := by rfl) :
    Ev X H0 ρ (.Call (.Attribute a name apos) [b] [] pos) d := fun σ H N rp =>
  we_of (pe_m1 slot ty rule pe_w pe_w hs hbase hline) ((ha σ H N rp).imp fun v H1 ⟨N1, s1, n1, r1, a1⟩ => by
    rw [at_str a1]
    exact ⟨⟨z, rfl⟩, (hb σ H1 N1 r1).imp fun y H2 ⟨N2, s2, n2, r2, a2⟩ => hr y σ H2 N2 _ r2 a2 fun v H' N' s n rr aa => ⟨N', (s1.trans s2).trans s, (n1.trans n2).trans n, rr, aa⟩⟩)
section
variable {z y : Str} {apos : Pos} (ha : Ev X H0 ρ a (.str z)) (hb : Ev X H0 ρ b (.str y)) (hs : starEach [b] X.env = [(false, eval b X.env)]) (hline : (apos.endLine == pos.line) = true)
include ha hb hs hline
theorem ev_find0 (hbase : attributeBase a "find" X.env (eval a X.env) = eval a X.env) : Ev X H0 ρ (.Call (.Attribute a "find" apos) [b] [] pos) (.int (Txt.find z y)) :=
  ev_m1 F.slot_str_find F.type_str_find mt_find ha hb.toB (fun v σ H N Q r q g => ⟨z, y, rfl, by rw [at_str q], goes_self g r (.int _)⟩) hs hbase hline
theorem ev_count0 (hbase : attributeBase a "count" X.env (eval a X.env) = eval a X.env) : Ev X H0 ρ (.Call (.Attribute a "count" apos) [b] [] pos) (.int (Txt.count z y)) :=
  ev_m1 F.slot_str_count F.type_str_count mt_count ha hb.toB (fun v σ H N Q r q g => ⟨z, y, rfl, by rw [at_str q], goes_self g r (.int _)⟩) hs hbase hline
theorem ev_starts0 (hbase : attributeBase a "startswith" X.env (eval a X.env) = eval a X.env) : Ev X H0 ρ (.Call (.Attribute a "startswith" apos) [b] [] pos) (.bl (Txt.startswith z y)) :=
  ev_m1 F.slot_str_startswith F.type_str_startswith mt_startswith ha hb.toB (fun v σ H N Q r q g => ⟨z, y, rfl, by rw [at_str q], goes_self g r (.bl _)⟩) hs hbase hline
end
theorem ats_strs {K : PySem.W.Frag} {H : Hp} : ∀ {vs : List V} {ys : List Str}, Ats K H vs (ys.map .str) → vs = ys.map .str
  | [], [], _ => rfl
  | _ :: _, n :: ns, .cons a t => by
    cases a
    rw [ats_strs t]
    rfl
  | [], _ :: _, h => by cases h
  | _ :: _, [], h => by cases h
theorem ev_join {z : Str} {ys : List Str} {apos : Pos} (ha : Ev X H0 ρ a (.str z)) (hb : EvB X H0 ρ b (.lst (ys.map .str))) (hz : (ys.map (·.length)).sum + ys.length * z.length ≤ 16777216)
    (hs : starEach [b] X.env = [(false, eval b X.env)] := by rfl) (hbase : attributeBase a "join" X.env (eval a X.env) = eval a X.env := by rfl) (hline : (apos.endLine == pos.line) = true := by rfl) :
    Ev X H0 ρ (.Call (.Attribute a "join" apos) [b] [] pos) (.str (Txt.join z ys)) :=
  ev_m1 F.slot_str_join F.type_str_join mt_join ha hb (fun v σ H N Q r q g => by
    obtain ⟨pp, us, e3, h1, h2⟩ := at_lst q
    rw [ats_strs h2] at h1
    exact ⟨z, pp, ys, rfl, by rw [e3], .inl h1, hz, goes_self g r (.str _)⟩) hs hbase hline
end

/-! ### data that may be compared -/
def okn : Nat → Dat → Bool
  | _, .non => true
  | _, .bl _ => true
  | _, .int _ => true
  | _, .str s => PyData.strOk s
  | n + 1, .tup ds => ds.all (okn n)
  | n + 1, .lst ds => ds.all (okn n)
  | 0, .tup _ => false
  | 0, .lst _ => false
  | _, .dic _ => false
  | _, .ins _ _ _ => false
  | _, .tix _ => false
  | _, .dit _ _ => false
theorem okn_ok : ∀ (n : Nat) (d : Dat), okn n d = true → nodic d = true ∧ (pd d).canLay0 = true ∧ (pd d).depth ≤ n
  | n, .non, _ => ⟨rfl, rfl, Nat.zero_le _⟩
  | n, .bl _, _ => ⟨rfl, rfl, Nat.zero_le _⟩
  | n, .int _, _ => ⟨rfl, rfl, Nat.zero_le _⟩
  | n, .str s, h => by
    have h' : PyData.strOk s = true := by cases n <;> exact h
    exact ⟨rfl, h', Nat.zero_le _⟩
  | n + 1, .tup ds, h => by
    have k : ∀ ds : List Dat, ds.all (okn n) = true → nodics ds = true ∧ PyData.canLayAll0 (pds ds) = true ∧ PyData.depthAll (pds ds) ≤ n := by
      intro ds
      induction ds with
      | nil => intro _; exact ⟨rfl, rfl, Nat.zero_le _⟩
      | cons d r ih =>
        intro q
        rw [List.all_cons, Bool.and_eq_true] at q
        obtain ⟨a1, a2, a3⟩ := okn_ok n d q.1
        obtain ⟨b1, b2, b3⟩ := ih q.2
        refine ⟨?_, ?_, ?_⟩
        · show (nodic d && nodics r) = true; rw [a1, b1]; rfl
        · show ((pd d).canLay0 && PyData.canLayAll0 (pds r)) = true; rw [a2, b2]; rfl
        · show max (pd d).depth (PyData.depthAll (pds r)) ≤ n; omega
    obtain ⟨c1, c2, c3⟩ := k ds h
    exact ⟨c1, c2, Nat.succ_le_succ c3⟩
  | n + 1, .lst ds, h => by
    have k : ∀ ds : List Dat, ds.all (okn n) = true → nodics ds = true ∧ PyData.canLayAll0 (pds ds) = true ∧ PyData.depthAll (pds ds) ≤ n := by
      intro ds
      induction ds with
      | nil => intro _; exact ⟨rfl, rfl, Nat.zero_le _⟩
      | cons d r ih =>
        intro q
        rw [List.all_cons, Bool.and_eq_true] at q
        obtain ⟨a1, a2, a3⟩ := okn_ok n d q.1
        obtain ⟨b1, b2, b3⟩ := ih q.2
        refine ⟨?_, ?_, ?_⟩
        · show (nodic d && nodics r) = true; rw [a1, b1]; rfl
        · show ((pd d).canLay0 && PyData.canLayAll0 (pds r)) = true; rw [a2, b2]; rfl
        · show max (pd d).depth (PyData.depthAll (pds r)) ≤ n; omega
    obtain ⟨c1, c2, c3⟩ := k ds h
    exact ⟨c1, c2, Nat.succ_le_succ c3⟩
  | 0, .tup _, h => by cases h
  | 0, .lst _, h => by cases h
  | n, .dic _, h => by cases n <;> cases h
  | n, .ins _ _ _, h => by cases n <;> cases h
  | n, .tix _, h => by cases n <;> cases h
  | n, .dit _ _, h => by cases n <;> cases h
theorem okD_of {n : Nat} {d : Dat} (h : okn n d = true) (hn : n ≤ 64 := by decide) : okD d = true := by
  obtain ⟨a1, a2, a3⟩ := okn_ok n d h
  unfold okD SeqAt.shaped
  rw [a1, a2, decide_eq_true (Nat.le_trans a3 hn)]
  rfl
theorem okD_ints (ns : List Int) : okD (.lst (ns.map .int)) = true := okD_of (n := 1) (by show (ns.map Dat.int).all (okn 0) = true; rw [List.all_map]; exact List.all_eq_true.mpr fun _ _ => rfl)
theorem eqv_ints : ∀ (ns ms : List Int), PyData.eqv (pd (.lst (ns.map .int))) (pd (.lst (ms.map .int))) = decide (ns = ms)
  | [], [] => rfl
  | [], _ :: _ => rfl
  | _ :: _, [] => rfl
  | n :: ns, m :: ms => by
    have ih := eqv_ints ns ms
    show ((n == m) && PyData.eqvAll (pds (ns.map .int)) (pds (ms.map .int))) = _
    have ih' : PyData.eqvAll (pds (ns.map .int)) (pds (ms.map .int)) = decide (ns = ms) := ih
    rw [ih']
    by_cases h1 : n = m
    · subst h1
      simp
    · simp [h1]
/-- a loop over a row, the state by the number of turns -/
theorem for_rows {X : Cx} {H0 : Hp} {bd : Dat → Env' → Env'} {body : List Stmt} : ∀ {ds : List Dat} (ρ : Nat → Env'), (∀ (i : Nat) (d : Dat), ds[i]? = some d → Exec X H0 (bd d (ρ i)) body (.nx (ρ (i + 1)))) → ForT X H0 bd body ds (ρ 0) (.nx (ρ ds.length))
  | [], _, _ => .nil
  | d :: ds, ρ, h => .turn (h 0 d rfl) (for_rows (fun i => ρ (i + 1)) fun i e he => h (i + 1) e he)
theorem for_steps {X : Cx} {H0 : Hp} {bd : Dat → Env' → Env'} {body : List Stmt} {lo c : Int} {n : Nat} (ρ : Nat → Env') (h : ∀ i : Nat, i < n → Exec X H0 (bd (.int (lo + (i : Int) * c)) (ρ i)) body (.nx (ρ (i + 1)))) : ForT X H0 bd body (steps lo c n) (ρ 0) (.nx (ρ n)) := by
  have := for_rows (X := X) (H0 := H0) (bd := bd) (body := body) (ds := steps lo c n) ρ (fun i d hd => by
    have hi : i < n := by have := lt_of_get hd; rwa [steps_len] at this
    rw [steps_get hi] at hd
    cases hd
    exact h i hi)
  rwa [steps_len] at this
theorem flats_ints (ns : List Int) : flats (ns.map .int) = true := by
  induction ns with
  | nil => rfl
  | cons n ns ih => exact ih
end B

namespace B
open PySem PySem.Spec PyProof.Rows L2

/-! ### a text so many times -/
theorem foldl_cat {α : Type} (l : List α) : ∀ (k : Nat) (acc : Array α), ((List.replicate k l.toArray).foldl (· ++ ·) acc) = (acc.toList ++ (List.replicate k l).flatten).toArray
  | 0, acc => by simp
  | k + 1, acc => by
    rw [List.replicate_succ, List.foldl_cons, foldl_cat l k, List.replicate_succ, List.flatten_cons]
    simp [List.append_assoc]
theorem mul_S {l : List Nat} {n : Int} : Txt.mul (SX.S l) n = SX.S (List.replicate n.toNat l).flatten := by
  unfold Txt.mul
  by_cases h1 : n < 1
  · rw [if_pos h1, show n.toNat = 0 by omega]
    rfl
  · rw [if_neg h1]
    split
    · rename_i h
      rw [Bool.or_eq_true] at h
      rcases h with h | h
      · rw [eq_of_beq h]
        show _ = SX.S (List.replicate 1 l).flatten
        simp
      · have e : l = [] := by
          have := eq_of_beq h
          rw [SX.S_len] at this
          exact List.length_eq_zero_iff.mp this
        subst e
        simp
    · have := foldl_cat l n.toNat #[]
      show (⟨(List.replicate n.toNat l.toArray).foldl (· ++ ·) #[]⟩ : Str) = _
      rw [this]
      simp
theorem op_mul_str {X : Cx} : OpR X (binaryOp .Mult) (fun x y H Q => ∃ z n, x = .str z ∧ y = .int n ∧ MulOk z n ∧ Q (.str (Txt.mul z n)) H) := by
  intro pins s σ H x y v u Q I rx ry h
  obtain ⟨i, j, rfl, rfl, hz, q⟩ := h
  obtain ⟨t, rfl⟩ := rx
  obtain ⟨t', rfl⟩ := ry
  exact SB.mul hz fun t' k => ⟨.str _, H, I.tok k, ⟨_, rfl⟩, q⟩
theorem mulOk_small {l : List Nat} {n : Int} (h1 : -100000 ≤ n) (h2 : n ≤ 100000) (h3 : l.length ≤ 100) : MulOk (SX.S l) n := by
  refine ⟨?_, fun a b => ?_, fun a b => ?_⟩
  · rw [decide_eq_false (by omega), decide_eq_false (by omega)]; rfl
  · rw [SX.S_len]
    have : (2 ^ 63 - 1) / 100000 ≤ (2 ^ 63 - 1) / n := by
      rw [Int.le_ediv_iff_mul_le (by omega)]
      have : (2 ^ 63 - 1) / 100000 * n ≤ (2 ^ 63 - 1) / 100000 * 100000 := Int.mul_le_mul_of_nonneg_left h2 (by decide)
      omega
    omega
  · rw [SX.S_len]
    have : l.length * n.toNat ≤ 100 * 100000 := Nat.mul_le_mul h3 (by omega)
    have e : sizeLine = 16777216 := by decide
    unfold Builtin.Str.tooLong
    first | exact decide_eq_false (by omega) | (simp; omega)

section
variable {X : Cx} {H0 : Hp} {ρ ρ1 ρ2 : Env'} {a b c e : Expr} {es : List Expr} {st : Stmt} {sts rest : List Stmt} {d d1 d2 : Dat} {ds : List Dat} {p pos : Pos} {o o1 : Outc} {x n : Str} {k : Nat}
theorem ev_repX {l : List Nat} {k : Int} (ha : Ev X H0 ρ a (tx l)) (hb : Ev X H0 ρ b (.int k)) (h : MulOk (SX.S l) k) : Ev X H0 ρ (.BinOp a .Mult b pos) (tx (List.replicate k.toNat l).flatten) :=
  ev_bin (fun _ _ h k => pe_op op_mul_str h k) ha.toB hb.toB fun x y σ H N Q r p q g => ⟨_, _, at_str p, at_int q, h, by rw [mul_S]; exact goes_self g r (.str _)⟩

/-! ### shifts to the left, wide -/
theorem ev_shlW {i : Int} {k : Nat} (ha : Ev X H0 ρ a (.int i)) (hb : Ev X H0 ρ b (.int (k : Int))) (h : CShl i (k : Int)) : Ev X H0 ρ (.BinOp a .LShift b pos) (.int (i * 2 ^ k)) := by
  have := ev_intop (pos := pos) ha hb (g := fun i j => i * 2 ^ j.toNat) op_shlW h
  rwa [Int.toNat_natCast] at this

/-! ### x += y -/
theorem sx_augI (i : Nat) {y : Str} {pos' : Pos} {k j : Int} (hi : ρ[i]? = some (.im (.int k))) (h : Ev X H0 ρ e (.int j)) (nd : X.N.Nodup) (hρ : ρ.set i (.im (.int (k + j))) = ρ1 := by rfl) (hN : X.N[i]? = some y := by rfl) (hx : Loc X.env.scope y := by first | exact Or.inl rfl | exact Or.inr rfl)
    (hp : ∀ te, PE X e te → PS X (.AugAssign (.Name y pos') .Add e pos) (tAug i te (ipI fun i j => i + j)) := by exact fun te h => ps_aug (by assumption) rfl (by first | exact Or.inl rfl | exact Or.inr rfl) h ip_add) :
    ExS X H0 ρ (.AugAssign (.Name y pos') .Add e pos) (.nx ρ1) := fun D σ H N r k => by
  obtain ⟨v, h1, h2⟩ := r.im i _ hi
  refine ws_of (hp _ pe_w) ⟨v, h1, (h σ H N r).imp fun w H' ⟨N', s, n, r', a⟩ => ⟨_, _, at_int h2, at_int a, k _ H' N' n (hρ ▸ r'.setE (e := .im (.int _)) (.int _))⟩⟩

/-! ### items of an owned list are set -/
theorem sx_setIx (i : Nat) {y : Str} {p1 p2 : Pos} {ix : Expr} {k : Int} {j : Nat} (hi : ρ[i]? = some (.ow (.lst ds))) (hv : Ev X H0 ρ e d) (hx : Ev X H0 ρ ix (.int k)) (hj : ixN ds.length k = some j) (hρ : ρ.set i (.ow (.lst (ds.set j d))) = ρ1 := by rfl) (hN : X.N[i]? = some y := by rfl)
    (hvis : Vis X.env.scope y := by first | exact Or.inl rfl | exact Or.inr (Or.inl rfl) | exact Or.inr (Or.inr rfl)) (hd : (y == ("__debug__" : Str)) = false := by decide) (hcd : (y == ("__classdict__" : Str)) = false := by decide)
    (hp : ∀ te to ti, PE X e te → PE X (.Name y p1) to → PE X ix ti → PS X (.Assign [.Subscript (.Name y p1) ix p2] e pos) (tAsg te (gSub to ti rSetL)) := by exact fun te to ti h g f => ps_asg h (pg_sub g f set_list)) :
    ExS X H0 ρ (.Assign [.Subscript (.Name y p1) ix p2] e pos) (.nx ρ1) := fun D σ H N r kk => by
  refine ws_of (hp _ _ _ pe_w (pv i hN hvis hd hcd) pe_w) ((hv σ H N r).imp fun v H1 ⟨N1, s1, n1, r1, a1⟩ => ?_)
  obtain ⟨q, g1, g2, g3, vs, g4, g5⟩ := r1.ow i _ hi
  refine ⟨_, g1, (hx σ H1 N1 r1).imp fun w H2 ⟨N2, s2, n2, r2, a2⟩ => ?_⟩
  obtain ⟨q', f1, f2, f3, us, f4, f5⟩ := r2.ow i _ hi
  rw [g1] at f1
  cases f1
  refine ⟨q, us, k, j, rfl, at_int a2, f4, by rw [f5.length]; exact hj, kk σ _ N2 (n1.trans n2) ?_⟩
  exact hρ ▸ r2.write hi g1 ⟨us.set j v, upd_same, f5.set (a1.mono n2) j⟩
/-- o[i], an item of a list, by values -/
def rGetL : V → V → Hp → VK → Prop := fun o i H Q => ∃ p xs j v, o = .ref p ∧ i = .int ((j : Nat) : Int) ∧ H p = some (.lst xs) ∧ xs[j]? = some v ∧ Q v H
theorem get_list : PGet X rGetL := by
  intro pins s σ H o i ov iv Q I ro ri h
  obtain ⟨p, xs, j, z, rfl, rfl, hp, he, q⟩ := h
  cases ro
  obtain ⟨t, rfl⟩ := ri
  obtain ⟨its, r, pl, hz⟩ := I.list (.inl (.inl hp))
  obtain ⟨w, ew, rw'⟩ := r.get he
  have hj := lt_of_get he
  have hl := r.length
  have hn := line63
  exact wpAny_getItem_list pl.isList (by omega) (by omega) (by simpa using ew) ⟨z, H, I, rw', q⟩
theorem sx_augIx (i : Nat) {y : Str} {p1 p2 : Pos} {ix : Expr} {k l : Int} {j : Nat} (hi : ρ[i]? = some (.ow (.lst ds))) (hx : Ev X H0 ρ ix (.int (j : Int))) (hj : ds[j]? = some (.int k)) (hv : Ev X H0 ρ e (.int l)) (hρ : ρ.set i (.ow (.lst (ds.set j (.int (k + l))))) = ρ1 := by rfl) (hN : X.N[i]? = some y := by rfl)
    (hvis : Vis X.env.scope y := by first | exact Or.inl rfl | exact Or.inr (Or.inl rfl) | exact Or.inr (Or.inr rfl)) (hd : (y == ("__debug__" : Str)) = false := by decide) (hcd : (y == ("__classdict__" : Str)) = false := by decide)
    (hp : ∀ te to ti, PE X e te → PE X (.Name y p1) to → PE X ix ti → PS X (.AugAssign (.Subscript (.Name y p1) ix p2) .Add e pos) (tAugS to ti te rGetL (ipI fun i j => i + j) rSetL) := by exact fun te to ti h g f => ps_augS g f get_list h ip_add set_list) :
    ExS X H0 ρ (.AugAssign (.Subscript (.Name y p1) ix p2) .Add e pos) (.nx ρ1) := fun D σ H N r kk => by
  obtain ⟨q, g1, g2, g3, vs, g4, g5⟩ := r.ow i _ hi
  refine ws_of (hp _ _ _ pe_w (pv i hN hvis hd hcd) pe_w) ⟨_, g1, (hx σ H N r).imp fun w H1 ⟨N1, s1, n1, r1, a1⟩ => ?_⟩
  obtain ⟨q', f1, f2, f3, us, f4, f5⟩ := r1.ow i _ hi
  rw [g1] at f1
  cases f1
  obtain ⟨z, z1, z2⟩ := f5.get hj
  refine ⟨q, us, j, z, rfl, at_int a1, f4, z1, (hv σ H1 N1 r1).imp fun u H2 ⟨N2, s2, n2, r2, a2⟩ => ⟨k, l, at_int z2, at_int a2, ?_⟩⟩
  obtain ⟨q', f1, f2, f3, us2, f6, f7⟩ := r2.ow i _ hi
  rw [g1] at f1
  cases f1
  have hlt : j < us2.length := by rw [f7.length]; exact lt_of_get hj
  refine ⟨q, us2, j, j, rfl, at_int a1, f6, ?_, kk σ _ N2 (n1.trans n2) ?_⟩
  · unfold ixN
    rw [if_pos (by omega), if_pos (by omega), Int.toNat_natCast]
  · exact hρ ▸ r2.write hi g1 ⟨us2.set j (.int (k + l)), upd_same, f7.set (.int _) j⟩

/-! ### casts, joins, ends by an error -/
theorem eb_to (h : EvB X H0 ρ e d1) (hk : d1 = d) : EvB X H0 ρ e d := hk ▸ h
theorem eo_to (h : EvO X H0 ρ e d1) (hk : d1 = d) : EvO X H0 ρ e d := hk ▸ h
theorem ev_joinX {l : List Nat} {yss : List (List Nat)} {apos : Pos} (ha : Ev X H0 ρ a (tx l)) (hb : EvB X H0 ρ b (.lst (yss.map tx))) (hz : (yss.map (·.length)).sum + yss.length * l.length ≤ 16777216)
    (hs : starEach [b] X.env = [(false, eval b X.env)] := by rfl) (hbase : attributeBase a "join" X.env (eval a X.env) = eval a X.env := by rfl) (hline : (apos.endLine == pos.line) = true := by rfl) :
    Ev X H0 ρ (.Call (.Attribute a "join" apos) [b] [] pos) (tx (TL.joinL l yss)) := by
  have h := ev_join (z := SX.S l) (ys := yss.map SX.S) (apos := apos) (pos := pos) ha (by rw [List.map_map]; exact hb) (by rw [SX.lens, List.length_map, SX.S_len]; exact hz) hs hbase hline
  rw [SX.join_S] at h
  exact h
theorem Rep.nos {K : PySem.W.Frag} {H N : Hp} {σ : L2.St} (r : Rep K H0 ρ σ H N) : Rep K H0 (List.replicate ρ.length .no) σ H N where
  tab := r.tab
  old := r.old
  sub := r.sub
  imm := r.imm
  fresh := r.fresh
  len := by rw [List.length_replicate, r.len]
  im := fun i d h => by rw [List.getElem?_replicate] at h; split at h <;> cases h
  ol := fun i d h => by rw [List.getElem?_replicate] at h; split at h <;> cases h
  ow := fun i d h => by rw [List.getElem?_replicate] at h; split at h <;> cases h
  rf := fun i a h => by rw [List.getElem?_replicate] at h; split at h <;> cases h
  apart := fun i j d d' p _ h => by rw [List.getElem?_replicate] at h; split at h <;> cases h
/-- behind an error nothing is asked of the names -/
theorem ex_nos (h : Exec X H0 ρ sts (.ex n ρ1)) (hk : ρ1.length = k) : Exec X H0 ρ sts (.ex n (List.replicate k .no)) := fun D σ H N r ⟨W, tk, q⟩ =>
  h D σ H N r ⟨W, tk, fun C σ' H' N' m s r' => q C σ' H' N' m s (hk ▸ r'.nos)⟩
end
theorem slice_cut (l : List Nat) (lo hi : Option Int) : Txt.slice (SX.S l) lo hi = SX.S (cut l lo hi) := by
  rw [← C8.cutS_slice]
  unfold cutS cut
  rw [SX.S_len]
theorem ev_slX {X : Cx} {H0 : Hp} {ρ : Env'} {a : Expr} {pos p2 : Pos} {lo hi : Option Expr} {i j : Option Int} {l : List Nat} (ha : Ev X H0 ρ a (tx l)) (hl : EvP X H0 ρ lo i) (hh : EvP X H0 ρ hi j) (hz : l.length ≤ sizeLine) : Ev X H0 ρ (.Subscript a (.Slice lo hi none p2) pos) (tx (cut l i j)) := by
  have := ev_slS (pos := pos) (p2 := p2) (z := SX.S l) ha hl hh (by rw [SX.S_len]; exact hz)
  rw [slice_cut] at this
  exact this
theorem cut_to {α : Type} {l : List α} {i : Int} (h : 0 ≤ i) : cut l none (some i) = l.take i.toNat := by
  obtain ⟨k, rfl⟩ := Int.eq_ofNat_of_zero_le h
  show (l.drop 0).take (HT.sIx l.length l.length (some ((k : Nat) : Int)) - 0) = _
  rw [HT.sIx_nat, List.drop_zero, Nat.sub_zero, Int.toNat_natCast]
  by_cases hk : k ≤ l.length
  · rw [Nat.min_eq_left hk]
  · rw [Nat.min_eq_right (by omega), List.take_of_length_le (Nat.le_refl _), List.take_of_length_le (by omega)]
theorem cut_from {α : Type} {l : List α} {i : Int} (h : 0 ≤ i) : cut l (some i) none = l.drop i.toNat := by
  obtain ⟨k, rfl⟩ := Int.eq_ofNat_of_zero_le h
  show (l.drop (HT.sIx l.length 0 (some ((k : Nat) : Int)))).take (l.length - HT.sIx l.length 0 (some ((k : Nat) : Int))) = _
  rw [HT.sIx_nat, Int.toNat_natCast]
  by_cases hk : k ≤ l.length
  · rw [Nat.min_eq_left hk, List.take_of_length_le (by rw [List.length_drop]; omega)]
  · rw [Nat.min_eq_right (by omega), List.drop_of_length_le (Nat.le_refl _), List.drop_of_length_le (by omega)]
    simp
theorem cut_mid {α : Type} {l : List α} {i j : Int} (h : 0 ≤ i) (h2 : 0 ≤ j) : cut l (some i) (some j) = (l.take j.toNat).drop i.toNat := by
  obtain ⟨k, rfl⟩ := Int.eq_ofNat_of_zero_le h
  obtain ⟨m, rfl⟩ := Int.eq_ofNat_of_zero_le h2
  show (l.drop (HT.sIx l.length 0 (some ((k : Nat) : Int)))).take (HT.sIx l.length l.length (some ((m : Nat) : Int)) - HT.sIx l.length 0 (some ((k : Nat) : Int))) = _
  rw [HT.sIx_nat, HT.sIx_nat, Int.toNat_natCast, Int.toNat_natCast, ← List.drop_take]
  by_cases hk : k ≤ l.length
  · rw [Nat.min_eq_left hk]
    by_cases hm : m ≤ l.length
    · rw [Nat.min_eq_left hm]
    · rw [Nat.min_eq_right (by omega), List.take_of_length_le (Nat.le_refl _), List.take_of_length_le (by omega)]
  · rw [Nat.min_eq_right (by omega)]
    rw [List.drop_of_length_le (by rw [List.length_take]; omega), List.drop_of_length_le (by rw [List.length_take]; omega)]
theorem dlen_tx {l : List Nat} (h : l.length ≤ sizeLine) : dlen (tx l) = some l.length := by
  show (if (SX.S l).length ≤ sizeLine then some (SX.S l).length else none) = _
  rw [SX.S_len, if_pos h]
theorem at_nat {l : List Nat} {i : Int} {k : Nat} (h0 : 0 ≤ i) (h : l[i.toNat]? = some k) : atI l i = some k := by
  have := atI_nat (v := k) h
  rwa [Int.toNat_of_nonneg h0] at this
theorem at_dat {l : List Dat} {i : Int} {k : Dat} (h0 : 0 ≤ i) (h : l[i.toNat]? = some k) : atI l i = some k := by
  have := atI_nat (v := k) h
  rwa [Int.toNat_of_nonneg h0] at this
end B

namespace B
open PySem PySem.Spec PyProof.Rows L2
section
variable {X : Cx} {H0 : Hp} {ρ ρ1 ρ2 : Env'} {a b c e : Expr} {es : List Expr} {st : Stmt} {sts rest : List Stmt} {d d1 d2 : Dat} {ds : List Dat} {p pos : Pos} {o o1 : Outc} {x n : Str}
/-- a name is given what a comprehension makes -/
theorem sx_setLc (j0 : Nat) {elt tg iter : Expr} {ifs : List Expr} {scope : Scope} {xn y : Str} (i : Nat) {pos py spos : Pos} (hc : X.calm = true) (nd : X.N.Nodup) (hi : Iter X H0 ρ tg iter ds) (ok : blkC X.N X.env.scope scope [(xn, i)] = true) (hx : ρ[i]? = some .no) (f : Dat → Bool) (g : Dat → Dat)
    (htg : ∀ (s : Shared) (H : Hp) (C : Addr) (cl : List (Str × Addr)) (fp : List Addr), PG (X.blk s H scope (compEnvC scope cl C X.env) fp) tg (gName i))
    (hif : (ifs = [] ∧ ∀ d ∈ ds, f d = true) ∨ ∃ c, ifs = [c] ∧ ∀ (H0' : Hp) (s : Shared) (H : Hp) (C : Addr) (cl : List (Str × Addr)) (fp : List Addr), Same H0 H0' → ∀ d ∈ ds, EvT (X.blk s H scope (compEnvC scope cl C X.env) fp) H0' (ρ.set i (.im d)) c (f d))
    (hel : ∀ (H0' : Hp) (s : Shared) (H : Hp) (C : Addr) (cl : List (Str × Addr)) (fp : List Addr), Same H0 H0' → ∀ d ∈ ds, f d = true → Ev (X.blk s H scope (compEnvC scope cl C X.env) fp) H0' (ρ.set i (.im d)) elt (g d))
    (hz : ds.length < sizeLine) (hρ : ρ.set j0 (.ow (.lst ((ds.filter f).map g))) = ρ1 := by rfl) (hs : ∀ x, foldedSetIterable iter X.env x = pure x := by intro _; rfl) (hy : X.N[j0]? = some y := by rfl) (hyl : X.env.scope.names.lookup y = some .local := by rfl)
    (hsw : swapsWith (.ListComp elt [⟨tg, iter, ifs, 0⟩] scope pos) (some (.Name y py)) spos.line X.env = pure true := by rfl) :
    ExS X H0 ρ (.Assign [.Name y py] (.ListComp elt [⟨tg, iter, ifs, 0⟩] scope pos) spos) (.nx ρ1) := fun DD σ H N r kk => by
  obtain ⟨wi, pi, hw⟩ := hi
  have pts : ∀ (s : Shared) (H : Hp) (C : Addr) (cl : List (Str × Addr)) (fp : List Addr), PTs (X.blk s H scope (compEnvC scope cl C X.env) fp) ifs
      (fun σ H Q => (ifs = [] ∧ Q true H) ∨ ∃ c, ifs = [c] ∧ ∀ s H' C cl fp, WT (X.blk s H' scope (compEnvC scope cl C X.env) fp) c σ H Q) := fun s H C cl fp => ⟨fun pins s' σ H Q I h => by
    rcases h with ⟨rfl, h⟩ | ⟨c, rfl, h⟩
    · exact pts_nil.run pins s' σ H Q I h
    · exact (pts_one pt_w).run pins s' σ H Q I (h _ _ _ _ _)⟩
  have pes : ∀ (s : Shared) (H : Hp) (C : Addr) (cl : List (Str × Addr)) (fp : List Addr), PE (X.blk s H scope (compEnvC scope cl C X.env) fp) elt
      (fun σ H Q => ∀ s H' C cl fp, WE (X.blk s H' scope (compEnvC scope cl C X.env) fp) elt σ H Q) := fun s H C cl fp => ⟨fun pins s' σ H Q I h => (h _ _ _ _ _).go pins s' I⟩
  refine ws_of (ps_setLc hc nd hy hyl hsw pi (blkOk_by ok) htg pts pes hs) (hw σ H N r _ fun J H1 N1 n1 s1 r1 w => fun D hD => ?_)
  have hiσ : i < σ.length := by rw [← r.len]; exact lt_of_get hx
  refine ⟨fun j m H' => m = ds.length - j ∧ j ≤ ds.length ∧ ∃ N' acc, Same N1 N' ∧ Same H1 H' ∧ Rep X.K H0 ρ σ H' N' ∧ N' D = none ∧ H' D = some (.lst acc) ∧ Ats X.K N' acc (((ds.take j).filter f).map g), ⟨_, rfl, Nat.zero_le _, N1, [], Same.refl _, Same.of_none hD, r1.grow (Same.of_none hD) (r1.tab.fresh hD), r1.sub.free hD, upd_same, by simpa using Ats.nil⟩, ?_⟩
  rintro j m H' ⟨rfl, hj, N', acc, s', e', r', dN, dH, aa⟩
  have h0D : H0 D = none := r1.old.free hD
  have npD : ∀ (q : Nat) d, ρ[q]? = some (Ent.ow d) → σ[q]? ≠ some (some (V.ref D)) := no_own r1 hD
  obtain ⟨wg, wst⟩ := w (upd H0 D (.lst acc)) ρ σ H' N' j (Same.of_none h0D) s' (r'.toOld h0D dH dN npD)
  by_cases hlt : j < ds.length
  · obtain ⟨go, yl⟩ := wg hlt
    have et : ds.take (j + 1) = ds.take j ++ [ds[j]] := by rw [List.take_succ, List.getElem?_eq_getElem hlt]; rfl
    refine .inr ⟨go, fun H' => ∃ N' acc, Same N1 N' ∧ Same H1 H' ∧ Rep X.K H0 ρ σ H' N' ∧ N' D = none ∧ H' D = some (.lst acc) ∧ Ats X.K N' acc (((ds.take (j + 1)).filter f).map g), fun H2 q => ⟨_, by omega, rfl, hlt, q⟩, fun x H2 y => ?_⟩
    obtain ⟨N2, d, n2, e2, r2, e3, a2⟩ := yl x H2 y
    have ed : d = ds[j] := by
      rw [List.getElem?_eq_getElem hlt] at e3
      exact (Option.some.inj e3).symm
    subst ed
    have dH2 : H2 D = some (.lst acc) := e2 _ _ dH
    have np : ∀ (q : Nat) d, ρ[q]? = some (Ent.ow d) → σ[q]? ≠ some (some (V.ref D)) := no_own r1 hD
    have d0 : Same H0 (upd H0 D (.lst acc)) := Same.of_none h0D
    have mem : ds[j] ∈ ds := List.getElem_mem hlt
    have dH2 : H2 D = some (.lst acc) := e2 _ _ dH
    have r2' : Rep X.K (upd H0 D (.lst acc)) ρ σ H2 N2 := r2
    have rs := r2'.setE (i := i) (v := x) (e := .im ds[j]) a2
    have ws : (wipe σ [i]).set i (some x) = σ.set i (some x) := by show (σ.set i none).set i (some x) = _; rw [List.set_set]
    show wipe ((wipe σ [i]).set i (some x)) [i] = wipe σ [i] ∧ _
    refine ⟨by rw [ws]; show (σ.set i (some x)).set i none = σ.set i none; rw [List.set_set], ?_⟩
    rw [show (wipe σ (List.map (fun (x : Str × Nat) => x.snd) [(xn, i)])).set i (some x) = σ.set i (some x) from ws]
    have elem : ∀ H3 N3, f ds[j] = true → Same H2 H3 → Same N2 N3 → Rep X.K (upd H0 D (.lst acc)) (ρ.set i (.im ds[j])) (σ.set i (some x)) H3 N3 → ∀ s H' C cl fp, WE (X.blk s H' scope (compEnvC scope cl C X.env) fp) elt (σ.set i (some x)) H3 fun y H4 => ∃ acc', H4 D = some (.lst acc') ∧ acc'.length < sizeLine ∧
        ∃ N' a', Same N1 N' ∧ Same H1 (upd H4 D (.lst (acc' ++ [y]))) ∧ Rep X.K H0 ρ σ (upd H4 D (.lst (acc' ++ [y]))) N' ∧ N' D = none ∧ (upd H4 D (.lst (acc' ++ [y]))) D = some (.lst a') ∧ Ats X.K N' a' (((ds.take (j + 1)).filter f).map g) := fun H3 N3 hf e3' n3 r3 s H5 C cl fp => by
      refine (hel _ s H5 C cl fp d0 _ mem hf _ _ _ r3).imp fun y H4 ⟨N4, s4, n4, r4, a4⟩ => ?_
      have q4 : H4 D = some (.lst acc) := (s4 _ _ (e3' _ _ dH2).e).e
      refine ⟨acc, q4, ?_, N4, acc ++ [y], (((s'.trans n2).trans n3).trans n4), fun a u h => ?_, (r'.back hx d0 r4).updD (r4.tab.upd q4) h0D r4.notD np, r4.notD, upd_same, ?_⟩
      · rw [aa.length, List.length_map]
        have := List.length_filter_le f (ds.take j)
        have := List.length_take_le j ds
        omega
      · rw [upd_ne (ne_of_none h hD)]
        exact (((Same.trans e' e2).trans e3').trans s4) a u h
      · rw [et, List.filter_append, List.map_append]
        refine ((aa.mono n2).mono n3 |>.mono n4).append ?_
        rw [List.filter_cons, if_pos hf]
        exact .cons a4 .nil
    have skip : ∀ H3 N3, f ds[j] = false → Same H2 H3 → Same N2 N3 → Rep X.K (upd H0 D (.lst acc)) (ρ.set i (.im ds[j])) (σ.set i (some x)) H3 N3 → ∃ N' acc, Same N1 N' ∧ Same H1 H3 ∧ Rep X.K H0 ρ σ H3 N' ∧ N' D = none ∧ H3 D = some (.lst acc) ∧ Ats X.K N' acc (((ds.take (j + 1)).filter f).map g) := fun H3 N3 hf e3' n3 r3 => by
      refine ⟨N3, acc, (s'.trans n2).trans n3, (e'.trans e2).trans e3', r'.back hx d0 r3, r3.notD, e3' _ _ dH2, ?_⟩
      rw [et, List.filter_append, List.map_append, List.filter_cons, if_neg (by rw [hf]; exact Bool.false_ne_true)]
      simpa using (aa.mono n2).mono n3
    rcases hif with ⟨hne, hft⟩ | ⟨c, hc', ht⟩
    · exact .inl ⟨hne, iteT (elem H2 N2 (hft _ mem) (Same.refl _) (Same.refl _) rs)⟩
    · refine .inr ⟨c, hc', fun s H5 C cl fp => ?_⟩
      refine (ht _ s H5 C cl fp d0 _ mem _ _ _ rs).imp fun bb H3 ⟨eb, N3, s3, n3, r3⟩ => ?_
      subst eb
      cases hf : f ds[j] with
      | true => exact iteT (elem H3 N3 hf s3 n3 r3)
      | false => exact iteF (skip H3 N3 hf s3 n3 r3)
  · have e1 : j = ds.length := by omega
    subst e1
    rw [List.take_length] at aa
    exact .inl ⟨wst rfl, kk _ H' N' (n1.trans s') (hρ ▸ r'.setE (e := .ow (.lst _)) ⟨D, rfl, h0D, dN, ⟨acc, dH, aa⟩, fun q d' _ hq => npD q d' hq⟩)⟩
end
end B

namespace B
open PySem PySem.Spec PyProof.Rows L2
theorem idx_rev (n : Nat) : Builtin.Str.strSliceIndices none none (-1) n = (List.range n).reverse := by
  have e : Builtin.Str.strSliceIndices none none (-1) n = sliceRange ((n : Int) - 1) (-1) (-1) := rfl
  rw [e, PySem.W.krv_sliceRange, PySem.W.krv_range]
theorem pe_revS {X : Cx} {e : Expr} {te : TE} {k : Nat} {p1 p2 p3 pos : Pos} (he : PE X e te) : PE X (.Subscript e (.Slice none none (some (.UnaryOp .USub (.Constant (.int 1) k p1) p2)) p3) pos)
    (fun σ H Q => te σ H fun x H1 => ∃ l : List Nat, x = .str (SX.S l) ∧ l.length ≤ sizeLine ∧ Q (.str (SX.S l.reverse)) H1) := by
  refine ⟨fun pins s σ H Q I h => ?_⟩
  refine Subscript_ (thn (he.run pins s σ H _ I h) fun v s1 ⟨x, H1, I1, r1, q1⟩ => ?_)
  obtain ⟨a, rfl, hz, q⟩ := q1
  obtain ⟨t, rfl⟩ := r1
  have hst : PO X (some (.UnaryOp .USub (.Constant (.int 1) k p1) p2)) (tPart (tUn (rU fun i => .int (-i)) (tC (.int 1)))) := po_some (pe_un un_neg pe_int)
  refine wpAny_Slice (thn (po_none.run pins s1 σ H1 (fun o H2 => o = none ∧ H2 = H1) I1 ⟨rfl, rfl⟩) fun vl s2 ⟨l, H2, I2, pl, el, e2⟩ => ?_)
  subst el e2
  refine thn (po_none.run pins s2 σ H2 (fun o H3 => o = none ∧ H3 = H2) I2 ⟨rfl, rfl⟩) fun vu s3 ⟨u, H3, I3, pu, eu, e3⟩ => ?_
  subst eu e3
  refine thn (hst.run pins s3 σ H3 (fun o H4 => o = some (-1) ∧ H4 = H3) I3 ⟨1, rfl, -1, rfl, rfl, rfl⟩) fun vs s4 ⟨o, H4, I4, ps, eo, e4⟩ => ?_
  subst eo e4
  have I5 : Inv X pins σ H4 { s4 with heap := s4.heap.push { cls := .type "slice", data := .fields #[vl, vu, vs] } } := I4.kept (t' := s4.toks) fun b ob q => Heap.get?_push_of_some _ q
  obtain ⟨l, rfl, el⟩ := IsPart.raw pl
  obtain ⟨u, rfl, eu⟩ := IsPart.raw pu
  obtain ⟨w, rfl, ew⟩ := IsPart.raw ps
  have hs : (s4.heap.push { cls := .type "slice", data := .fields #[partValue l, partValue u, partValue w] }).IsSlice s4.heap.objs.size l u w := ⟨_, Heap.get?_push_size _ rfl, rfl, rfl⟩
  refine tail_any (ops := [.str (SX.S a) t, .ref s4.heap.objs.size]) (typeIs_str _ _ _) F.slot_str_getitem.lookup ?_ (by with_unfolding_all rfl)
  refine wpAny_getItem_str_slice (l := l) (u := u) (st := w) hs (by rw [ew]; rfl) ?_
  unfold sliceMade
  have e1 : ((w.map (·.1)).getD 1 == 1 && (slicePicked (SX.S a) l u w).length == (SX.S a).length) = false := by rw [ew]; rfl
  rw [if_neg (by rw [e1]; exact Bool.false_ne_true)]
  have e2 : (⟨((slicePicked (SX.S a) l u w).filterMap ((SX.S a).cps[·]?)).toArray⟩ : Str) = SX.S a.reverse := by
    unfold slicePicked
    rw [el, eu, ew]
    show (⟨((Builtin.Str.strSliceIndices none none (-1) (SX.S a).length).filterMap ((SX.S a).cps[·]?)).toArray⟩ : Str) = _
    rw [idx_rev, List.filterMap_reverse]
    have := PySem.W.krv_all (SX.S a).cps
    rw [show (SX.S a).length = (SX.S a).cps.size from rfl, this]
  rw [e2]
  refine ⟨by rw [SX.S_len, List.length_reverse]; exact hz, .str _, H4, I5.tok _, ⟨_, rfl⟩, q⟩
section
variable {X : Cx} {H0 : Hp} {ρ ρ1 ρ2 : Env'} {a b c e : Expr} {pos : Pos}
theorem ev_revX {l : List Nat} {k : Nat} {p1 p2 p3 : Pos} (ha : Ev X H0 ρ a (tx l)) (hz : l.length ≤ sizeLine) : Ev X H0 ρ (.Subscript a (.Slice none none (some (.UnaryOp .USub (.Constant (.int 1) k p1) p2)) p3) pos) (tx l.reverse) := fun σ H N r =>
  we_of (pe_revS pe_w) ((ha σ H N r).imp fun v H1 ⟨N1, s1, n1, r1, a1⟩ => ⟨l, at_str a1, hz, N1, s1, n1, r1, .str _⟩)
end
end B

namespace B
open PySem PySem.Spec PyProof.Rows L2

/-! ### find, count of one sign; startswith -/
theorem occ_stop (s sub : Str) (hi limit : Nat) : ∀ (l : List Nat) (st : Array Nat × Nat), ¬ st.1.size < limit → (forIn l st (StrLaws.occBody s sub hi limit)).run = st
  | [], st, _ => rfl
  | a :: l, st, h => by
    rw [List.forIn_cons]
    unfold StrLaws.occBody
    rw [if_neg (fun q => h q.1.1.1)]
    exact occ_stop s sub hi limit l st h
theorem occ_cond (L : List Nat) (c i free n limit : Nat) (acc : Array Nat) (hs : acc.size < limit) (hf : free ≤ i) :
    (((acc.size < limit ∧ free ≤ i) ∧ i + (SX.S [c]).length ≤ (SX.S L).length) ∧ Builtin.Str.subAt (SX.S L) (SX.S [c]) i = true) ↔ L[i]? = some c := by
  have := StrLaws.subAt_one (SX.S L) c i
  constructor
  · intro h; exact this.mp ⟨h.1.2, h.2⟩
  · intro h; have := this.mpr h; exact ⟨⟨⟨hs, hf⟩, this.1⟩, this.2⟩
theorem occ_at (L : List Nat) (c j : Nat) (hj : L[j]? = some c) : ∀ (n a free : Nat), free ≤ a → a ≤ j → j < a + n → (∀ i, a ≤ i → i < j → L[i]? ≠ some c) →
    (forIn (List.range' a n) ((#[] : Array Nat), free) (StrLaws.occBody (SX.S L) (SX.S [c]) (SX.S L).length 1)).run.1.toList = [j]
  | 0, a, _, _, h1, h2, _ => by omega
  | n + 1, a, free, hf, h1, h2, h3 => by
    rw [List.range'_succ, List.forIn_cons]
    unfold StrLaws.occBody
    by_cases e : a = j
    · subst e
      rw [if_pos ((occ_cond L c a free n 1 #[] (by decide) hf).mpr hj)]
      show (forIn (List.range' (a + 1) n) ((#[] : Array Nat).push a, a + 1) (StrLaws.occBody (SX.S L) (SX.S [c]) (SX.S L).length 1)).run.1.toList = [a]
      rw [occ_stop _ _ _ _ _ _ (by simp)]
      rfl
    · rw [if_neg (fun q => h3 a (Nat.le_refl _) (by omega) ((occ_cond L c a free n 1 #[] (by decide) hf).mp q))]
      exact occ_at L c j hj n (a + 1) free (by omega) (by omega) (by omega) (fun i q1 q2 => h3 i (by omega) q2)
theorem find_one {L : List Nat} {c : Nat} (h : c ∈ L) : Txt.find (SX.S L) (SX.S [c]) = ((L.idxOf c : Nat) : Int) := by
  have hlt : L.idxOf c < L.length := List.idxOf_lt_length_iff.mpr h
  have hg : L[L.idxOf c]? = some c := by rw [List.getElem?_eq_getElem hlt, List.getElem_idxOf hlt]
  have ho : Builtin.Str.occurrences (SX.S L) (SX.S [c]) 0 (SX.S L).length 1 = [L.idxOf c] := by
    rw [StrLaws.occ_eq]
    refine occ_at L c _ hg _ 0 0 (Nat.le_refl _) (Nat.zero_le _) (by rw [SX.S_len]; omega) (fun i _ hi e => ?_)
    have hil : i < L.length := by omega
    rw [List.getElem?_eq_getElem hil] at e
    have q := List.not_of_lt_findIdx (p := (· == c)) (xs := L) hi
    have e2 := Option.some.inj e
    simp [e2] at q
  unfold Txt.find
  rw [ho]
theorem starts_S (l m : List Nat) : Txt.startswith (SX.S l) (SX.S m) = decide (l.take m.length = m) := by
  unfold Txt.startswith
  rw [StrLaws.subAt_eq, SX.S_len, SX.S_len]
  show (decide (0 + m.length ≤ l.length) && ((l.drop 0).take (SX.S m).length == m)) = _
  rw [SX.S_len, List.drop_zero]
  by_cases h : l.take m.length = m
  · have : m.length ≤ l.length := by
      have := congrArg List.length h
      rw [List.length_take] at this
      omega
    rw [decide_eq_true h, decide_eq_true (by omega), h]
    simp
  · rw [decide_eq_false h]
    have : (l.take m.length == m) = false := by simpa using h
    rw [this, Bool.and_false]
theorem occ_count (L : List Nat) (c : Nat) : ∀ (n a free : Nat) (acc : Array Nat), free ≤ a → a + n = L.length + 1 → acc.size ≤ a →
    (forIn (List.range' a n) (acc, free) (StrLaws.occBody (SX.S L) (SX.S [c]) (SX.S L).length (L.length + 1))).run.1.size = acc.size + (L.drop a).count c
  | 0, a, free, acc, _, h2, _ => by
    have : L.drop a = [] := List.drop_of_length_le (by omega)
    rw [this]
    rfl
  | n + 1, a, free, acc, hf, h2, h3 => by
    rw [List.range'_succ, List.forIn_cons]
    unfold StrLaws.occBody
    by_cases e : L[a]? = some c
    · rw [if_pos ((occ_cond L c a free n _ acc (by omega) hf).mpr e)]
      have := occ_count L c n (a + 1) (a + 1) (acc.push a) (by omega) (by omega) (by rw [Array.size_push]; omega)
      refine Eq.trans this ?_
      obtain ⟨hlt, hv⟩ := List.getElem?_eq_some_iff.mp e
      rw [Array.size_push, List.drop_eq_getElem_cons hlt, hv, List.count_cons_self]
      omega
    · rw [if_neg (fun q => e ((occ_cond L c a free n _ acc (by omega) hf).mp q))]
      have := occ_count L c n (a + 1) free acc (by omega) (by omega) (by omega)
      refine Eq.trans this ?_
      by_cases hlt : a < L.length
      · rw [List.drop_eq_getElem_cons hlt, List.count_cons_of_ne]
        intro q
        exact e (by rw [List.getElem?_eq_getElem hlt, q])
      · rw [List.drop_of_length_le (by omega), List.drop_of_length_le (by omega)]
theorem count_one (L : List Nat) (c : Nat) : Txt.count (SX.S L) (SX.S [c]) = ((L.count c : Nat) : Int) := by
  unfold Txt.count
  rw [StrLaws.occ_eq, Array.length_toList, SX.S_len]
  have := occ_count L c (L.length + 1 - 0) 0 0 #[] (Nat.le_refl _) (by omega) (by decide)
  rw [SX.S_len] at this
  rw [this]
  simp
section
variable {X : Cx} {H0 : Hp} {ρ ρ1 ρ2 : Env'} {a b c e : Expr} {pos apos : Pos}
theorem ev_findX {l : List Nat} {k : Nat} (ha : Ev X H0 ρ a (tx l)) (hb : Ev X H0 ρ b (tx [k])) (hm : k ∈ l) (hs : starEach [b] X.env = [(false, eval b X.env)] := by rfl) (hline : (apos.endLine == pos.line) = true := by rfl) (hbase : attributeBase a "find" X.env (eval a X.env) = eval a X.env := by rfl) :
    Ev X H0 ρ (.Call (.Attribute a "find" apos) [b] [] pos) (.int ((l.idxOf k : Nat) : Int)) := by
  have := ev_find0 ha hb hs hline hbase
  rw [find_one hm] at this
  exact this
theorem ev_countX {l : List Nat} {k : Nat} (ha : Ev X H0 ρ a (tx l)) (hb : Ev X H0 ρ b (tx [k])) (hs : starEach [b] X.env = [(false, eval b X.env)] := by rfl) (hline : (apos.endLine == pos.line) = true := by rfl) (hbase : attributeBase a "count" X.env (eval a X.env) = eval a X.env := by rfl) :
    Ev X H0 ρ (.Call (.Attribute a "count" apos) [b] [] pos) (.int ((l.count k : Nat) : Int)) := by
  have := ev_count0 ha hb hs hline hbase
  rw [count_one] at this
  exact this
theorem ev_startsX {l m : List Nat} (ha : Ev X H0 ρ a (tx l)) (hb : Ev X H0 ρ b (tx m)) (hs : starEach [b] X.env = [(false, eval b X.env)] := by rfl) (hline : (apos.endLine == pos.line) = true := by rfl) (hbase : attributeBase a "startswith" X.env (eval a X.env) = eval a X.env := by rfl) :
    Ev X H0 ρ (.Call (.Attribute a "startswith" apos) [b] [] pos) (.bl (decide (l.take m.length = m))) := by
  have := ev_starts0 ha hb hs hline hbase
  rw [starts_S] at this
  exact this
end
end B

namespace B
open PySem PySem.Spec PyProof.Rows L2
/-- it goes through ds, while the names stay as they are -/
def WalksC (K : PySem.W.Frag) (H0 : Hp) (ρ : Env') (σ : L2.St) (J : It) (N1 : Hp) (ds : List Dat) : Prop := ∀ (H0' H N : Hp) (i : Nat), Same H0 H0' → Same N1 N → Rep K H0' ρ σ H N →
  (i < ds.length → J.go i H ∧ ∀ x H', J.yld i H x H' → ∃ N' d, Same N N' ∧ Same H H' ∧ Rep K H0' ρ σ H' N' ∧ ds[i]? = some d ∧ At K N' x d) ∧ (i = ds.length → J.stop i H)
def IterC (X : Cx) (H0 : Hp) (ρ : Env') (t e : Expr) (ds : List Dat) : Prop := ∃ wi, PI X t e wi ∧ ∀ σ H N, Rep X.K H0 ρ σ H N → ∀ R, (∀ J H1 N1, Same N N1 → Same H H1 → Rep X.K H0 ρ σ H1 N1 → WalksC X.K H0 ρ σ J N1 ds → R J H1) → wi σ H R
section
variable {X : Cx} {H0 : Hp} {ρ ρ1 ρ2 : Env'} {a b c e : Expr} {es : List Expr} {st : Stmt} {sts rest : List Stmt} {d d1 d2 : Dat} {ds : List Dat} {p pos : Pos} {o o1 : Outc} {x n : Str}
theorem it_ow (i : Nat) {t : Expr} {x : Str} (h : ρ[i]? = some (.ow (.lst ds))) (hN : X.N[i]? = some x := by rfl) (hv : Vis X.env.scope x := by first | exact Or.inl rfl | exact Or.inr (Or.inl rfl) | exact Or.inr (Or.inr rfl)) (hd : (x == ("__debug__" : Str)) = false := by decide)
    (hcd : (x == ("__classdict__" : Str)) = false := by decide) : IterC X H0 ρ t (.Name x pos) ds := ⟨_, pi_list (pv i hN hv hd hcd), fun σ H N r R k => by
  obtain ⟨p, e1, h0, hn, vs, hp, ha⟩ := r.ow i _ h
  refine ⟨_, e1, p, rfl, ⟨vs, .inl (.inl hp)⟩, k _ H N (Same.refl _) (Same.refl _) r fun H02 H2 N2 j s02 s2 r2 => ?_⟩
  obtain ⟨q, f1, f2, f3, us, f4, f5⟩ := r2.ow i _ h
  rw [e1] at f1
  cases f1
  refine ⟨fun hi => ?_, fun hi => ⟨us, .inl (.inl f4), by rw [f5.length]; exact Nat.le_of_eq hi.symm⟩⟩
  have hv : j < us.length := by rw [f5.length]; exact hi
  refine ⟨⟨us, us[j], .inl (.inl f4), by simp [hv]⟩, fun x H3 y => ?_⟩
  obtain ⟨rfl, y⟩ := y
  obtain ⟨d, g1, g2⟩ := f5.getV (y us (.inl (.inl f4)))
  exact ⟨N2, d, Same.refl _, Same.refl _, r2, g1, g2⟩⟩
/-- a comprehension over an owned list -/
theorem eo_compC {elt tg iter : Expr} {ifs : List Expr} {scope : Scope} {xn : Str} (i : Nat) {pos : Pos} (hc : X.calm = true) (nd : X.N.Nodup) (hi : IterC X H0 ρ tg iter ds) (ok : blkC X.N X.env.scope scope [(xn, i)] = true) (hx : ρ[i]? = some .no) (f : Dat → Bool) (g : Dat → Dat)
    (htg : ∀ (s : Shared) (H : Hp) (C : Addr) (cl : List (Str × Addr)) (fp : List Addr), PG (X.blk s H scope (compEnvC scope cl C X.env) fp) tg (gName i))
    (hif : (ifs = [] ∧ ∀ d ∈ ds, f d = true) ∨ ∃ c, ifs = [c] ∧ ∀ (H0' : Hp) (s : Shared) (H : Hp) (C : Addr) (cl : List (Str × Addr)) (fp : List Addr), Same H0 H0' → ∀ d ∈ ds, EvT (X.blk s H scope (compEnvC scope cl C X.env) fp) H0' (ρ.set i (.im d)) c (f d))
    (hel : ∀ (H0' : Hp) (s : Shared) (H : Hp) (C : Addr) (cl : List (Str × Addr)) (fp : List Addr), Same H0 H0' → ∀ d ∈ ds, f d = true → Ev (X.blk s H scope (compEnvC scope cl C X.env) fp) H0' (ρ.set i (.im d)) elt (g d))
    (hz : ds.length < sizeLine) (hs : ∀ x, foldedSetIterable iter X.env x = pure x := by intro _; rfl) : EvO X H0 ρ (.ListComp elt [⟨tg, iter, ifs, 0⟩] scope pos) (.lst ((ds.filter f).map g)) := fun σ H N r => by
  obtain ⟨wi, pi, hw⟩ := hi
  have pts : ∀ (s : Shared) (H : Hp) (C : Addr) (cl : List (Str × Addr)) (fp : List Addr), PTs (X.blk s H scope (compEnvC scope cl C X.env) fp) ifs
      (fun σ H Q => (ifs = [] ∧ Q true H) ∨ ∃ c, ifs = [c] ∧ ∀ s H' C cl fp, WT (X.blk s H' scope (compEnvC scope cl C X.env) fp) c σ H Q) := fun s H C cl fp => ⟨fun pins s' σ H Q I h => by
    rcases h with ⟨rfl, h⟩ | ⟨c, rfl, h⟩
    · exact pts_nil.run pins s' σ H Q I h
    · exact (pts_one pt_w).run pins s' σ H Q I (h _ _ _ _ _)⟩
  have pes : ∀ (s : Shared) (H : Hp) (C : Addr) (cl : List (Str × Addr)) (fp : List Addr), PE (X.blk s H scope (compEnvC scope cl C X.env) fp) elt
      (fun σ H Q => ∀ s H' C cl fp, WE (X.blk s H' scope (compEnvC scope cl C X.env) fp) elt σ H Q) := fun s H C cl fp => ⟨fun pins s' σ H Q I h => (h _ _ _ _ _).go pins s' I⟩
  refine we_of (pe_lc hc nd pi (blkOk_by ok) htg pts pes hs) (hw σ H N r _ fun J H1 N1 n1 s1 r1 w => fun D hD => ?_)
  have hiσ : i < σ.length := by rw [← r.len]; exact lt_of_get hx
  refine ⟨fun j m H' => m = ds.length - j ∧ j ≤ ds.length ∧ ∃ N' acc, Same N1 N' ∧ Same H1 H' ∧ Rep X.K H0 ρ σ H' N' ∧ N' D = none ∧ H' D = some (.lst acc) ∧ Ats X.K N' acc (((ds.take j).filter f).map g), ⟨_, rfl, Nat.zero_le _, N1, [], Same.refl _, Same.of_none hD, r1.grow (Same.of_none hD) (r1.tab.fresh hD), r1.sub.free hD, upd_same, by simpa using Ats.nil⟩, ?_⟩
  rintro j m H' ⟨rfl, hj, N', acc, s', e', r', dN, dH, aa⟩
  have h0D : H0 D = none := r1.old.free hD
  have npD : ∀ (q : Nat) d, ρ[q]? = some (Ent.ow d) → σ[q]? ≠ some (some (V.ref D)) := no_own r1 hD
  obtain ⟨wg, wst⟩ := w (upd H0 D (.lst acc)) H' N' j (Same.of_none h0D) s' (r'.toOld h0D dH dN npD)
  by_cases hlt : j < ds.length
  · obtain ⟨go, yl⟩ := wg hlt
    have et : ds.take (j + 1) = ds.take j ++ [ds[j]] := by rw [List.take_succ, List.getElem?_eq_getElem hlt]; rfl
    refine .inr ⟨go, fun H' => ∃ N' acc, Same N1 N' ∧ Same H1 H' ∧ Rep X.K H0 ρ σ H' N' ∧ N' D = none ∧ H' D = some (.lst acc) ∧ Ats X.K N' acc (((ds.take (j + 1)).filter f).map g), fun H2 q => ⟨_, by omega, rfl, hlt, q⟩, fun x H2 y => ?_⟩
    obtain ⟨N2, d, n2, e2, r2, e3, a2⟩ := yl x H2 y
    have ed : d = ds[j] := by
      rw [List.getElem?_eq_getElem hlt] at e3
      exact (Option.some.inj e3).symm
    subst ed
    have dH2 : H2 D = some (.lst acc) := e2 _ _ dH
    have np : ∀ (q : Nat) d, ρ[q]? = some (Ent.ow d) → σ[q]? ≠ some (some (V.ref D)) := no_own r1 hD
    have d0 : Same H0 (upd H0 D (.lst acc)) := Same.of_none h0D
    have mem : ds[j] ∈ ds := List.getElem_mem hlt
    have dH2 : H2 D = some (.lst acc) := e2 _ _ dH
    have r2' : Rep X.K (upd H0 D (.lst acc)) ρ σ H2 N2 := r2
    have rs := r2'.setE (i := i) (v := x) (e := .im ds[j]) a2
    have ws : (wipe σ [i]).set i (some x) = σ.set i (some x) := by show (σ.set i none).set i (some x) = _; rw [List.set_set]
    show wipe ((wipe σ [i]).set i (some x)) [i] = wipe σ [i] ∧ _
    refine ⟨by rw [ws]; show (σ.set i (some x)).set i none = σ.set i none; rw [List.set_set], ?_⟩
    rw [show (wipe σ (List.map (fun (x : Str × Nat) => x.snd) [(xn, i)])).set i (some x) = σ.set i (some x) from ws]
    have elem : ∀ H3 N3, f ds[j] = true → Same H2 H3 → Same N2 N3 → Rep X.K (upd H0 D (.lst acc)) (ρ.set i (.im ds[j])) (σ.set i (some x)) H3 N3 → ∀ s H' C cl fp, WE (X.blk s H' scope (compEnvC scope cl C X.env) fp) elt (σ.set i (some x)) H3 fun y H4 => ∃ acc', H4 D = some (.lst acc') ∧ acc'.length < sizeLine ∧
        ∃ N' a', Same N1 N' ∧ Same H1 (upd H4 D (.lst (acc' ++ [y]))) ∧ Rep X.K H0 ρ σ (upd H4 D (.lst (acc' ++ [y]))) N' ∧ N' D = none ∧ (upd H4 D (.lst (acc' ++ [y]))) D = some (.lst a') ∧ Ats X.K N' a' (((ds.take (j + 1)).filter f).map g) := fun H3 N3 hf e3' n3 r3 s H5 C cl fp => by
      refine (hel _ s H5 C cl fp d0 _ mem hf _ _ _ r3).imp fun y H4 ⟨N4, s4, n4, r4, a4⟩ => ?_
      have q4 : H4 D = some (.lst acc) := (s4 _ _ (e3' _ _ dH2).e).e
      refine ⟨acc, q4, ?_, N4, acc ++ [y], (((s'.trans n2).trans n3).trans n4), fun a u h => ?_, (r'.back hx d0 r4).updD (r4.tab.upd q4) h0D r4.notD np, r4.notD, upd_same, ?_⟩
      · rw [aa.length, List.length_map]
        have := List.length_filter_le f (ds.take j)
        have := List.length_take_le j ds
        omega
      · rw [upd_ne (ne_of_none h hD)]
        exact (((Same.trans e' e2).trans e3').trans s4) a u h
      · rw [et, List.filter_append, List.map_append]
        refine ((aa.mono n2).mono n3 |>.mono n4).append ?_
        rw [List.filter_cons, if_pos hf]
        exact .cons a4 .nil
    have skip : ∀ H3 N3, f ds[j] = false → Same H2 H3 → Same N2 N3 → Rep X.K (upd H0 D (.lst acc)) (ρ.set i (.im ds[j])) (σ.set i (some x)) H3 N3 → ∃ N' acc, Same N1 N' ∧ Same H1 H3 ∧ Rep X.K H0 ρ σ H3 N' ∧ N' D = none ∧ H3 D = some (.lst acc) ∧ Ats X.K N' acc (((ds.take (j + 1)).filter f).map g) := fun H3 N3 hf e3' n3 r3 => by
      refine ⟨N3, acc, (s'.trans n2).trans n3, (e'.trans e2).trans e3', r'.back hx d0 r3, r3.notD, e3' _ _ dH2, ?_⟩
      rw [et, List.filter_append, List.map_append, List.filter_cons, if_neg (by rw [hf]; exact Bool.false_ne_true)]
      simpa using (aa.mono n2).mono n3
    rcases hif with ⟨hne, hft⟩ | ⟨c, hc', ht⟩
    · exact .inl ⟨hne, iteT (elem H2 N2 (hft _ mem) (Same.refl _) (Same.refl _) rs)⟩
    · refine .inr ⟨c, hc', fun s H5 C cl fp => ?_⟩
      refine (ht _ s H5 C cl fp d0 _ mem _ _ _ rs).imp fun bb H3 ⟨eb, N3, s3, n3, r3⟩ => ?_
      subst eb
      cases hf : f ds[j] with
      | true => exact iteT (elem H3 N3 hf s3 n3 r3)
      | false => exact iteF (skip H3 N3 hf s3 n3 r3)
  · have e1 : j = ds.length := by omega
    subst e1
    rw [List.take_length] at aa
    exact .inl ⟨wst rfl, N', D, rfl, s1.free hD, s1.trans e', n1.trans s', r', dN, acc, dH, aa⟩
end
end B

namespace B
open PySem PySem.Spec PyProof.Rows L2
theorem Ats.rep {K : PySem.W.Frag} {H : Hp} {vs : List V} {ds : List Dat} (h : Ats K H vs ds) : ∀ n : Nat, Ats K H (List.replicate n vs).flatten (List.replicate n ds).flatten
  | 0 => .nil
  | n + 1 => by
    rw [List.replicate_succ, List.replicate_succ, List.flatten_cons, List.flatten_cons]
    exact h.append (Ats.rep h n)
section
variable {X : Cx} {H0 : Hp} {ρ ρ1 ρ2 : Env'} {a b c e : Expr} {es : List Expr} {st : Stmt} {sts rest : List Stmt} {d d1 d2 d3 : Dat} {ds : List Dat} {p pos : Pos} {o o1 : Outc} {x n : Str}
/-- a new list, so many times -/
theorem eo_repO {k : Int} (ha : EvO X H0 ρ a (.lst ds)) (hb : Ev X H0 ρ b (.int k)) (h1 : -(2 ^ 63) ≤ k) (h2 : k < 2 ^ 63) (hz : ds.length * k.toNat ≤ sizeLine) : EvO X H0 ρ (.BinOp a .Mult b pos) (.lst (List.replicate k.toNat ds).flatten) := fun σ H N rp =>
  we_of (pe_op op_rep pe_w pe_w) ((ha σ H N rp).imp fun v H1 ⟨N1, q, e1, hp, s1, n1, r1, np, ow⟩ => (hb σ H1 N1 r1).imp fun w H2 ⟨N2, s2, n2, r2, a2⟩ => by
    obtain ⟨vs, q1, q2⟩ := ow
    refine ⟨q, k, vs, e1, at_int a2, s2 _ _ q1, h1, h2, by rw [q2.length]; exact hz, fun l hl => ?_⟩
    obtain ⟨r3, n3⟩ := eo_new (o := .lst (List.replicate k.toNat vs).flatten) r2 hl
    exact ⟨N2, l, rfl, (s1.trans s2).free hl, (s1.trans s2).trans (Same.of_none hl), n1.trans n2, r3, n3, _, upd_same, (q2.mono n2).rep _⟩)
/-- an owned list, so many times -/
theorem eo_repN {k : Int} (i : Nat) {y : Str} {p1 : Pos} (hi : ρ[i]? = some (.ow (.lst ds))) (hb : Ev X H0 ρ b (.int k)) (h1 : -(2 ^ 63) ≤ k) (h2 : k < 2 ^ 63) (hz : ds.length * k.toNat ≤ sizeLine) (hN : X.N[i]? = some y := by rfl) (hv : Vis X.env.scope y := by first | exact Or.inl rfl | exact Or.inr (Or.inl rfl) | exact Or.inr (Or.inr rfl))
    (hd : (y == ("__debug__" : Str)) = false := by decide) (hcd : (y == ("__classdict__" : Str)) = false := by decide) : EvO X H0 ρ (.BinOp (.Name y p1) .Mult b pos) (.lst (List.replicate k.toNat ds).flatten) := fun σ H N rp => by
  obtain ⟨q, g1, g2, g3, us, g4, g5⟩ := rp.ow i _ hi
  refine we_of (pe_op op_rep (pv i hN hv hd hcd) pe_w) ⟨_, g1, (hb σ H N rp).imp fun w H2 ⟨N2, s2, n2, r2, a2⟩ => ?_⟩
  refine ⟨q, k, us, rfl, at_int a2, s2 _ _ g4, h1, h2, by rw [g5.length]; exact hz, fun l hl => ?_⟩
  obtain ⟨r3, n3⟩ := eo_new (o := .lst (List.replicate k.toNat us).flatten) r2 hl
  exact ⟨N2, l, rfl, s2.free hl, s2.trans (Same.of_none hl), n2, r3, n3, _, upd_same, (g5.mono n2).rep _⟩
/-- (a, b, c) = a triple -/
theorem tg_three (i j l : Nat) {y z u : Str} {p1 p2 p3 : Pos} {kk : Nat} (nd : X.N.Nodup) (hc : X.calm = true) (hi : X.N[i]? = some y := by rfl) (hj : X.N[j]? = some z := by rfl) (hl : X.N[l]? = some u := by rfl) (hx : Loc X.env.scope y := by first | exact Or.inl rfl | exact Or.inr rfl) (hx2 : Loc X.env.scope z := by first | exact Or.inl rfl | exact Or.inr rfl) (hx3 : Loc X.env.scope u := by first | exact Or.inl rfl | exact Or.inr rfl)
    (hf : X.fn y = true ∨ X.env.scope.names.lookup y = some .local := by first | exact .inl rfl | exact .inr rfl | assumption) (hf2 : X.fn z = true ∨ X.env.scope.names.lookup z = some .local := by first | exact .inl rfl | exact .inr rfl | assumption) (hf3 : X.fn u = true ∨ X.env.scope.names.lookup u = some .local := by first | exact .inl rfl | exact .inr rfl | assumption)
    (hn : (assignEach [Expr.Name y p1, .Name z p2, .Name u p3] X.env).length = 3 := by rfl) (hst : (assignEach [Expr.Name y p1, .Name z p2, .Name u p3] X.env).findIdx? (·.1) = none := by rfl)
    (h1 : (assignEach [Expr.Name y p1, .Name z p2, .Name u p3] X.env).map (·.2) = assign (.Name y p1) X.env :: (assignEach [Expr.Name z p2, .Name u p3] X.env).map (·.2) := by rfl) (h2 : (assignEach [Expr.Name z p2, .Name u p3] X.env).map (·.2) = assign (.Name z p2) X.env :: (assignEach [Expr.Name u p3] X.env).map (·.2) := by rfl)
    (h3 : (assignEach [Expr.Name u p3] X.env).map (·.2) = assign (.Name u p3) X.env :: (assignEach [] X.env).map (·.2) := by rfl) :
    Tgt X H0 (.Tuple [.Name y p1, .Name z p2, .Name u p3] kk pos) (fun d => ∃ a b c, d = .tup [a, b, c]) (fun d ρ => match d with | .tup [a, b, c] => ((ρ.set i (.im a)).set j (.im b)).set l (.im c) | _ => ρ) := by
  refine ⟨_, pg_tup hc (pgs_cons (pg_name nd hi hx hf) (pgs_cons (pg_name nd hj hx2 hf2) (pgs_cons (pg_name nd hl hx3 hf3) pgs_nil h3) h2) h1) hn hst, fun ρ σ H N v d r a ok Q k => ?_⟩
  obtain ⟨d1, d2, d3, rfl⟩ := ok
  obtain ⟨p, vs, rfl, q1, q2⟩ := at_seq a
  cases q2 with
  | cons a1 t =>
    cases t with
    | cons a2 t2 =>
      cases t2 with
      | cons a3 t3 =>
        cases t3
        exact ⟨p, _, rfl, sqt_same r.sub q1, rfl, _, _, rfl, _, _, rfl, _, _, rfl, rfl, k _ H N (Same.refl _) (((r.setE (e := .im d1) a1).setE (e := .im d2) a2).setE (e := .im d3) a3)⟩
end
end B

namespace B
open PySem PySem.Spec PyProof.Rows L2 RT
section
variable {prog : Program} {w : World} {A : Around} {E : Value → Shared → Prop} {s : Shared}
/-- list(reversed(a list)) -/
theorem call_list_rev {it l : Addr} {items : Array Value} {Q : Value → Shared → Prop} (hh : A.handled = none) (hit : s.heap.IsRevIter it l ((items.size : Int) - 1)) (hl : s.heap.IsList l items) (hne : l ≠ it) (hn : items.size ≤ sizeLine)
    (hQ : ∀ (h' : Heap) (tk : Nat) (acc : Array Value) (c' : Nat), (∀ b o, b ≠ it → s.heap.get? b = some o → h'.get? b = some o) → h'.get? s.heap.objs.size = some { cls := .type "list", dict := none, data := .seq acc c', slots := #[] } →
      ItemsOf (fun i v => items[items.size - 1 - i]? = some v) acc items.size → Q (.ref s.heap.objs.size) { s with heap := h', toks := tk }) :
    wpAny (model prog w) A (call (.type "list") [.ref it]) Q E s := by
  have W := (Walks.listRev (prog := prog) (w := w) (A := A.in1.in1) hh it l hne items).toS
  obtain ⟨oi, hoi, _⟩ := id hit
  obtain ⟨ol, hol, _⟩ := id hl
  have hSi : s.heap.objs.size ≠ it := Nat.ne_of_gt (Heap.lt_size hoi)
  have hSl : s.heap.objs.size ≠ l := Nat.ne_of_gt (Heap.lt_size hol)
  have hSf : s.heap.objs.size ∉ [it, l] := by simp only [List.mem_cons, List.not_mem_nil, or_false, not_or]; exact ⟨hSi, hSl⟩
  refine callType_codes (Q₁ := fun obj s₁ => obj = .ref s.heap.objs.size ∧ s₁ = { s with heap := s.heap.push { cls := .type "list", data := .seq #[] } }) F.called_list (F.typeCall_list_1 _) F.entry_list_init
    (code_list_new _ ⟨rfl, rfl⟩) fun obj s₁ h₁ => ?_
  obtain ⟨rfl, rfl⟩ := h₁
  have hS : (s.heap.push { cls := .type "list", data := .seq #[] }).get? s.heap.objs.size = some { cls := .type "list", data := .seq #[] } := Heap.get?_push_size _ rfl
  refine ⟨⟨_, hS, rfl⟩, F.args_list_init_2 _ _, ?_⟩
  show wpAny _ A.in1.in1 (do let old ← Builtin.List.listItems (.ref s.heap.objs.size); Builtin.List.listUpdate (.ref s.heap.objs.size) (fun _ => #[]); letGo old.toList.reverse; Builtin.List.listExtendWith (.ref s.heap.objs.size) (.ref it) .none) _ _ _
  refine wpAny_bind ?_
  unfold Builtin.List.listItems
  refine wpAny_bind (wpAny_seqItems hS rfl (wpAny_pure ?_))
  show wpAny _ A.in1.in1 (updateSeq s.heap.objs.size (fun _ => #[]) >>= fun _ => letGo (#[] : Array Value).toList.reverse >>= fun _ => Builtin.List.listExtendWith (.ref s.heap.objs.size) (.ref it) .none) _ _ _
  refine wpAny_bind (wpAny_updateSeq hS rfl ?_)
  have hS₂ := Heap.get?_update_self (Obj.mapSeq (fun _ => (#[] : Array Value))) hS rfl
  have oth : ∀ b o, b ≠ s.heap.objs.size → s.heap.get? b = some o → ((s.heap.push { cls := .type "list", data := .seq #[] }).update s.heap.objs.size (Obj.mapSeq (fun _ => (#[] : Array Value)))).get? b = some o :=
    fun b o hb e => (Heap.get?_update_other _ _ (Ne.symm hb)).trans (Heap.get?_push_of_some _ e)
  refine wpAny_bind (wpAny_letGo ?_)
  generalize hH : (s.heap.push { cls := .type "list", data := .seq #[] }).update s.heap.objs.size (Obj.mapSeq (fun _ => (#[] : Array Value))) = H2 at *
  have hit1 : H2.IsRevIter it l ((items.size : Int) - 1) := hit.at fun o e => oth _ _ (Ne.symm hSi) e
  have hl1 : H2.IsList l items := hl.at fun o e => oth _ _ (Ne.symm hSl) e
  have hT : ({ s with heap := H2 } : Shared).TypeIs (.ref it) "list_reverseiterator" := Heap.IsRevIter.typeIs (s := { s with heap := H2 }) hit1
  have h1 : Builtin.List.listSameRef (.ref s.heap.objs.size) (.ref it) = false := by simp [Builtin.List.listSameRef, hSi]
  unfold Builtin.List.listExtendWith
  refine wpAny_bind (wpAny_typeOf hT ?_)
  rw [if_neg (by rw [h1]; decide)]
  refine wpAny_bind (wpAny_pyIter_revIter (s := { s with heap := H2 }) hit1 ?_)
  refine wpAny_bind (wpAny_holding ?_)
  unfold Builtin.List.listLengthHint
  refine wpAny_bind (wpAny_specialOf hT nolen_lri ?_)
  show wpAny _ A.in1.in1 (specialOf (Value.ref it) (Str.ofString "__length_hint__") >>= _) _ _ _
  refine wpAny_bind (wpAny_specialOf hT hint_lri ?_)
  generalize hid : ("list_reverseiterator.__length_hint__" : String) = id0
  wp_delta
  rw [show splitId id0 = some ("list_reverseiterator", "__length_hint__") from by subst hid; decide +kernel]
  subst hid
  refine wpAny_bind (wpAny_isInstance (b := true) hT (by rw [isSubtype_type]; kernel_rfl) ?_)
  refine wpAny_pure ?_
  rw [if_neg (by decide)]
  have e0 : ((items.size : Nat) : Int) - 1 - ((0 : Nat) : Int) = (items.size : Int) - 1 := by omega
  refine wpAny_pure ⟨plainId_quiet F.plain_extend_loop _, codeAny_extend_loopS W hn _ hSf _ items.size 0 _ _ _ rfl (Nat.zero_le _) ⟨Nat.zero_le _, by rw [e0]; exact hit1, hl1⟩ hS₂ (ItemsOf.nil _) fun s' acc' c' hm hS' hacc => ?_⟩
  rw [Moved.eq_with hm]
  refine ⟨rfl, hQ s'.heap s'.toks acc' c' (fun b o hb e => hm.heap b o (fun hmem => ?_) (oth b o (Nat.ne_of_lt (Heap.lt_size e)) e)) hS' hacc⟩
  rcases List.mem_cons.mp hmem with e' | hmem
  · exact absurd (Heap.lt_size e) (by rw [e']; exact Nat.lt_irrefl _)
  · exact hb (List.mem_singleton.mp hmem)
end
theorem Ats.reverse {K : PySem.W.Frag} {H : Hp} : ∀ {vs : List V} {ds : List Dat}, Ats K H vs ds → Ats K H vs.reverse ds.reverse
  | _, _, .nil => .nil
  | _, _, .cons a t => by
    rw [List.reverse_cons, List.reverse_cons]
    exact (Ats.reverse t).append (.cons a .nil)
section
variable {X : Cx}
theorem pe_listRev {e : Expr} {te : TE} {p p2 pos pos2 : Pos} (hc : X.calm = true) (hg : Gl X "list") (hm : X.mg "list" = none) (hg2 : Gl X "reversed") (hm2 : X.mg "reversed" = none) (he : PE X e te)
    (hs : starEach [e] X.env = (false, eval e X.env) :: starEach [] X.env := by rfl)
    (hs2 : starEach [.Call (.Name "reversed" p2) [e] [] pos2] X.env = (false, eval (.Call (.Name "reversed" p2) [e] [] pos2) X.env) :: starEach [] X.env := by rfl) :
    PE X (.Call (.Name "list" p) [.Call (.Name "reversed" p2) [e] [] pos2] [] pos) (fun σ H Q => te σ H fun v H1 => ∃ (a : Addr) (xs : List V), v = .ref a ∧ SqL X.K H1 a xs ∧ ∀ q, H1 q = none → Q (.ref q) (upd H1 q (.lst xs.reverse))) := by
  refine ⟨fun pins s σ H Q I h => ?_⟩
  refine Call_ (ld_blt I hg hm boot_list (PyProof.Rows.callWith_type1 (args_cons (Call_ (ld_blt I hg2 hm2 PyProof.Rows.boot_reversed (PyProof.Rows.callWith_type1 (args_cons (thn (he.run pins s σ H _ I h) fun u s1 ⟨v, H1, I1, r1, q1⟩ => args_nil ?_) hs) hs rfl))) hs2) hs2 rfl))
  obtain ⟨a, xs, ev, hq, q⟩ := q1
  subst ev
  obtain rfl : u = Value.ref a := r1
  obtain ⟨its, rv, p', hz⟩ := I1.list hq
  refine call_reversed_list p'.isList (args_nil ?_)
  have k0 : ∀ b o, s1.heap.get? b = some o → (s1.heap.push (revObj a ((its.toArray.size : Int) - 1))).get? b = some o := fun b o e => Heap.get?_push_of_some _ e
  have hl := p'.isList
  obtain ⟨ol, hol, _⟩ := id hl
  have hne : a ≠ s1.heap.objs.size := Nat.ne_of_lt (Heap.lt_size hol)
  have hn : its.toArray.size ≤ sizeLine := by rw [List.size_toArray, ← rv.length]; exact hz
  refine call_list_rev (s := { s1 with heap := s1.heap.push (revObj a ((its.toArray.size : Int) - 1)) }) (I1.ok.hd hc) ⟨_, Heap.get?_push_size _ rfl, rfl, rfl⟩ (hl.push _) hne hn fun h' tk acc c' hk hS hi => ?_
  have hk1 : ∀ b u, s1.heap.get? b = some u → h'.get? b = some u := fun b u e => hk b u (Nat.ne_of_lt (Heap.lt_size e)) (k0 b u e)
  have hle : s1.heap.objs.size ≤ (s1.heap.push (revObj a ((its.toArray.size : Int) - 1))).objs.size := by simp [Heap.push]
  refine ⟨.ref _, upd H1 _ (.lst xs.reverse), I1.laid (t' := tk) hk1 hle (show ObjOk X.prog X.w _ _ _ (.lst xs.reverse) from ⟨by rw [List.length_reverse]; exact hz, acc.toList, c', vals_rev rv hi, ?_⟩), rfl, q _ (I1.hok.fresh hle)⟩
  rw [Array.toArray_toList]
  exact hS
variable {H0 : Hp} {ρ : Env'} {a : Expr} {ds : List Dat} {p p2 pos pos2 : Pos}
theorem eo_listRev (ha : EvB X H0 ρ a (.lst ds)) (f : flats ds = true) (hc : X.calm = true) (hm : X.mg "list" = none) (hm2 : X.mg "reversed" = none) (hg : Gl X "list" := by rfl) (hg2 : Gl X "reversed" := by rfl) (hs : starEach [a] X.env = (false, eval a X.env) :: starEach [] X.env := by rfl)
    (hs2 : starEach [.Call (.Name "reversed" p2) [a] [] pos2] X.env = (false, eval (.Call (.Name "reversed" p2) [a] [] pos2) X.env) :: starEach [] X.env := by rfl) : EvO X H0 ρ (.Call (.Name "list" p) [.Call (.Name "reversed" p2) [a] [] pos2] [] pos) (.lst ds.reverse) := fun σ H N rp =>
  we_of (pe_listRev hc hg hm hg2 hm2 pe_w hs hs2) ((ha σ H N rp).imp fun v H1 ⟨N1, s1, n1, r1, a1⟩ => by
    obtain ⟨q, us, e3, h1, h2⟩ := at_lst a1
    obtain ⟨N2, n2, r2, k⟩ := r1.keep
    refine ⟨q, us, e3, h1, fun l hl => ?_⟩
    obtain ⟨r3, n3⟩ := eo_new (o := .lst us.reverse) r2 hl
    refine ⟨N2, l, rfl, s1.free hl, s1.trans (Same.of_none hl), n1.trans n2, r3, n3, us.reverse, upd_same, ?_⟩
    have h3 : Ats X.K N2 us ds := (h2.imm f).mono k
    exact h3.reverse)
end
end B

namespace B
open PySem PySem.Spec PyProof.Rows L2

/-! ### what a text's part comes to: a value, an error, or out of reach -/
inductive M (α : Type) where
  | ok (a : α)
  | ex (n : Str)
  | far
namespace M
variable {α β : Type}
def bind (m : M α) (k : α → M β) : M β := match m with
  | .ok a => k a
  | .ex n => .ex n
  | .far => .far
def nox (m : M α) : M α := match m with
  | .ok a => .ok a
  | _ => .far
def gd (b : Bool) (m : M α) : M α := match b with
  | true => m
  | false => .far
def ofO (o : Option α) : M α := match o with
  | some a => .ok a
  | none => .far
def lt (v : α) (k : α → M β) : M β := k v
@[simp] theorem bind_ok (a : α) (k : α → M β) : (M.ok a).bind k = k a := id rfl
@[simp] theorem bind_ex (n : Str) (k : α → M β) : (M.ex n : M α).bind k = .ex n := id rfl
@[simp] theorem bind_far (k : α → M β) : (M.far : M α).bind k = .far := id rfl
@[simp] theorem nox_ok (a : α) : (M.ok a).nox = .ok a := id rfl
@[simp] theorem nox_ex (n : Str) : (M.ex n : M α).nox = .far := id rfl
@[simp] theorem nox_far : (M.far : M α).nox = .far := id rfl
@[simp] theorem gd_true (m : M α) : gd true m = m := id rfl
@[simp] theorem ofO_some (a : α) : ofO (some a) = .ok a := id rfl
@[simp] theorem lt_eq (v : α) (k : α → M β) : lt v k = k v := id rfl
theorem gd_of {b : Bool} (m : M α) (h : b = true) : gd b m = m := by rw [h]; rfl
theorem ofO_of {o : Option α} {a : α} (h : o = some a) : ofO o = .ok a := by rw [h]; rfl
theorem nox_of {m : M α} {a : α} (h : m = .ok a) : m.nox = .ok a := by rw [h]; rfl
theorem bind_of {m : M α} {a : α} {k : α → M β} (h : m = .ok a) : m.bind k = k a := by rw [h]; rfl
end M
/-- how a block goes on -/
inductive Fl (S L R : Type) where
  | nx (s : S)
  | ct (s : L)
  | bk (s : L)
  | rt (r : R)
section
variable {α S S' L L' R : Type}
def M.seq (m : M (Fl S L R)) (k : S → M (Fl S' L R)) : M (Fl S' L R) := match m with
  | .ok (.nx s) => k s
  | .ok (.ct s) => .ok (.ct s)
  | .ok (.bk s) => .ok (.bk s)
  | .ok (.rt r) => .ok (.rt r)
  | .ex n => .ex n
  | .far => .far
def M.seqT (m : M (Fl S L R)) (k : S → M R) : M R := match m with
  | .ok (.nx s) => k s
  | .ok (.rt r) => .ok r
  | .ex n => .ex n
  | _ => .far
@[simp] theorem M.seq_nx (s : S) (k : S → M (Fl S' L R)) : (M.ok (Fl.nx s)).seq k = k s := id rfl
@[simp] theorem M.seq_ct (s : L) (k : S → M (Fl S' L R)) : (M.ok (Fl.ct s)).seq k = .ok (.ct s) := id rfl
@[simp] theorem M.seq_bk (s : L) (k : S → M (Fl S' L R)) : (M.ok (Fl.bk s)).seq k = .ok (.bk s) := id rfl
@[simp] theorem M.seq_rt (s : R) (k : S → M (Fl S' L R)) : (M.ok (Fl.rt s)).seq k = .ok (.rt s) := id rfl
@[simp] theorem M.seqT_nx (s : S) (k : S → M R) : (M.ok (Fl.nx s : Fl S L R)).seqT k = k s := id rfl
@[simp] theorem M.seqT_rt (s : R) (k : S → M R) : (M.ok (Fl.rt s : Fl S L R)).seqT k = .ok s := id rfl
@[simp] theorem M.seq_ex (n : Str) (k : S → M (Fl S' L R)) : (M.ex n).seq k = .ex n := id rfl
@[simp] theorem M.seqT_ex (n : Str) (k : S → M R) : (M.ex n : M (Fl S L R)).seqT k = .ex n := id rfl
/-- a for whose body only falls through -/
def forM (f : α → S → M S) : List α → S → M S
  | [], s => .ok s
  | x :: xs, s => (f x s).bind fun s' => forM f xs s'
def forF (f : α → S → M (Fl S S R)) : List α → S → M (Fl S L R)
  | [], s => .ok (.nx s)
  | x :: xs, s => match f x s with
    | .ok (.nx s') => forF f xs s'
    | .ok (.ct s') => forF f xs s'
    | .ok (.bk s') => .ok (.nx s')
    | .ok (.rt r) => .ok (.rt r)
    | .ex n => .ex n
    | .far => .far
def whileM (c : S → M Bool) (f : S → M S) : Nat → S → M S
  | 0, _ => .far
  | n + 1, s => (c s).bind fun t => if t = true then (f s).bind fun s' => whileM c f n s' else .ok s
def whileF (c : S → M Bool) (f : S → M (Fl S S R)) : Nat → S → M (Fl S L R)
  | 0, _ => .far
  | n + 1, s => (c s).bind fun t => if t = true then (match f s with
    | .ok (.nx s') => whileF c f n s'
    | .ok (.ct s') => whileF c f n s'
    | .ok (.bk s') => .ok (.nx s')
    | .ok (.rt r) => .ok (.rt r)
    | .ex n => .ex n
    | .far => .far) else .ok (.nx s)
def compM {β : Type} (f : α → M Bool) (g : α → M β) : List α → M (List β)
  | [] => .ok []
  | x :: xs => (f x).bind fun b => if b = true then (g x).bind fun y => (compM f g xs).bind fun ys => .ok (y :: ys) else compM f g xs
end

section
variable (X : Cx) (H0 : Hp) (ρ : Env') {α β : Type}
def EvM (e : Expr) (en : α → Dat) (m : M α) : Prop := match m with
  | .ok v => Ev X H0 ρ e (en v)
  | .ex n => EvX X H0 ρ e n
  | .far => True
def EtM (e : Expr) (m : M Bool) : Prop := match m with
  | .ok v => EvT X H0 ρ e v
  | .ex _ => False
  | .far => True
def EwM (e : Expr) (m : M Bool) : Prop := match m with
  | .ok v => EvW X H0 ρ e v
  | .ex _ => False
  | .far => True
def EoM (e : Expr) (en : α → Dat) (m : M α) : Prop := match m with
  | .ok v => EvO X H0 ρ e (en v)
  | .ex n => EvX X H0 ρ e n
  | .far => True
/-- a block -/
def ExM (k : Nat) (sts : List Stmt) (D : α → Outc) (m : M α) : Prop := match m with
  | .ok v => Exec X H0 ρ sts (D v)
  | .ex n => Exec X H0 ρ sts (.ex n (List.replicate k .no))
  | .far => True
end
/-- a statement -/
def ExSM (X : Cx) (H0 : Hp) (ρ : Env') {α : Type} (k : Nat) (st : Stmt) (D : α → Outc) (m : M α) : Prop := match m with
  | .ok v => ExS X H0 ρ st (D v)
  | .ex n => ExS X H0 ρ st (.ex n (List.replicate k .no))
  | .far => True
/-- a def's promise -/
def Rm {α : Type} (en : α → Dat) (m : M α) (o : Res) : Prop := match m with
  | .ok v => o = .val (en v)
  | .ex n => o = .exc n
  | .far => False
def RmO {α : Type} (en : α → Dat) (m : M α) (o : Res) : Prop := match m with
  | .ok v => o = .own (en v)
  | .ex n => o = .exc n
  | .far => False
theorem rm_ok {α : Type} {en : α → Dat} {m : M α} {v : α} (h : m = .ok v) : Rm en m (.val (en v)) := by subst h; rfl
theorem rm_ex {α : Type} {en : α → Dat} {m : M α} {n : Str} (h : m = .ex n) : Rm en m (.exc n) := by subst h; rfl
theorem rmO_ok {α : Type} {en : α → Dat} {m : M α} {v : α} (h : m = .ok v) : RmO en m (.own (en v)) := by subst h; rfl
theorem rmO_ex {α : Type} {en : α → Dat} {m : M α} {n : Str} (h : m = .ex n) : RmO en m (.exc n) := by subst h; rfl
def Fl.D {S L R : Type} (eS : S → Env') (eL : L → Env') (oR : R → Outc) : Fl S L R → Outc
  | .nx s => .nx (eS s)
  | .ct s => .ct (eL s)
  | .bk s => .bk (eL s)
  | .rt r => oR r
/-- the names that are let go -/
def drops (ρ : Env') : List Nat → Env'
  | [] => ρ
  | i :: is => drops (ρ.set i .no) is

section
variable {X : Cx} {H0 : Hp} {ρ ρ0 ρ1 ρ2 : Env'} {α β S S' L L' R : Type} {a b c e : Expr} {es : List Expr} {st : Stmt} {sts as bs body rest : List Stmt} {d d1 d2 : Dat} {ds : List Dat} {p pos : Pos} {o o1 : Outc} {x n : Str} {k : Nat} {D : α → Outc} {m : M α} {en : α → Dat} {g : Bool}
/-! ### expressions -/
theorem evm_gd (h : g = true → EvM X H0 ρ e en m) : EvM X H0 ρ e en (M.gd g m) := by
  cases g with
  | true => exact h rfl
  | false => trivial
theorem evm_bind {mb : M β} {f : β → M α} (h : ∀ r, mb = .ok r → EvM X H0 ρ e en (f r)) : EvM X H0 ρ e en (M.bind (M.nox mb) f) := by
  cases mb with
  | ok r => exact h r rfl
  | ex _ => trivial
  | far => trivial
theorem evm_ofO {ob : Option β} {f : β → M α} (h : ∀ r, ob = some r → EvM X H0 ρ e en (f r)) : EvM X H0 ρ e en (M.bind (M.ofO ob) f) := by
  cases ob with
  | some r => exact h r rfl
  | none => trivial
theorem evm_ok {v : α} (h : Ev X H0 ρ e (en v)) : EvM X H0 ρ e en (.ok v) := h
theorem evm_get {v : α} (h : EvM X H0 ρ e en m) (q : m = .ok v) : Ev X H0 ρ e (en v) := by subst q; exact h
theorem etm_gd {m : M Bool} (h : g = true → EtM X H0 ρ e m) : EtM X H0 ρ e (M.gd g m) := by
  cases g with
  | true => exact h rfl
  | false => trivial
theorem etm_bind {mb : M β} {f : β → M Bool} (h : ∀ r, mb = .ok r → EtM X H0 ρ e (f r)) : EtM X H0 ρ e (M.bind (M.nox mb) f) := by
  cases mb with
  | ok r => exact h r rfl
  | ex _ => trivial
  | far => trivial
theorem etm_ofO {ob : Option β} {f : β → M Bool} (h : ∀ r, ob = some r → EtM X H0 ρ e (f r)) : EtM X H0 ρ e (M.bind (M.ofO ob) f) := by
  cases ob with
  | some r => exact h r rfl
  | none => trivial
theorem etm_ok {v : Bool} (h : EvT X H0 ρ e v) : EtM X H0 ρ e (.ok v) := h
theorem etm_get {m : M Bool} {v : Bool} (h : EtM X H0 ρ e m) (q : m = .ok v) : EvT X H0 ρ e v := by subst q; exact h
theorem ewm_get {m : M Bool} {v : Bool} (h : EwM X H0 ρ e m) (q : m = .ok v) : EvW X H0 ρ e v := by subst q; exact h
theorem ewm_gd {m : M Bool} (h : g = true → EwM X H0 ρ e m) : EwM X H0 ρ e (M.gd g m) := by
  cases g with
  | true => exact h rfl
  | false => trivial
theorem ewm_bind {mb : M β} {f : β → M Bool} (h : ∀ r, mb = .ok r → EwM X H0 ρ e (f r)) : EwM X H0 ρ e (M.bind (M.nox mb) f) := by
  cases mb with
  | ok r => exact h r rfl
  | ex _ => trivial
  | far => trivial
theorem ewm_ofO {ob : Option β} {f : β → M Bool} (h : ∀ r, ob = some r → EwM X H0 ρ e (f r)) : EwM X H0 ρ e (M.bind (M.ofO ob) f) := by
  cases ob with
  | some r => exact h r rfl
  | none => trivial
theorem ewm_ok {v : Bool} (h : EvW X H0 ρ e v) : EwM X H0 ρ e (.ok v) := h
/-- x and y, where y may be out of reach -/
theorem ewm_and {u : Bool} {m : M Bool} {rs : List Expr} (h : EvT X H0 ρ a u) (q : u = true → EwM X H0 ρ (.BoolOp .And (b :: rs) pos) m) : EwM X H0 ρ (.BoolOp .And (a :: b :: rs) pos) (if u = true then m else .ok false) := by
  cases u with
  | true =>
    rw [if_pos rfl]
    have q := q rfl
    cases m with
    | ok v => exact ew_and (k := true) h (fun _ => q)
    | ex n => exact q.elim
    | far => trivial
  | false =>
    rw [if_neg (by decide)]
    exact ew_and (k := false) (l := false) h (fun z => nomatch z)
theorem ewm_or {u : Bool} {m : M Bool} {rs : List Expr} (h : EvT X H0 ρ a u) (q : u = false → EwM X H0 ρ (.BoolOp .Or (b :: rs) pos) m) : EwM X H0 ρ (.BoolOp .Or (a :: b :: rs) pos) (if u = true then .ok true else m) := by
  cases u with
  | true =>
    rw [if_pos rfl]
    exact ew_or (k := true) (l := true) h (fun z => nomatch z)
  | false =>
    rw [if_neg (by decide)]
    have q := q rfl
    cases m with
    | ok v => exact ew_or (k := false) h (fun _ => q)
    | ex n => exact q.elim
    | far => trivial
theorem evm_and {u : Bool} {m : M Bool} {rs : List Expr} (h : Ev X H0 ρ a (.bl u)) (q : u = true → EvM X H0 ρ (.BoolOp .And (b :: rs) pos) Dat.bl m) (hx : ∀ n, m ≠ .ex n) : EvM X H0 ρ (.BoolOp .And (a :: b :: rs) pos) Dat.bl (if u = true then m else .ok false) := by
  cases u with
  | true =>
    rw [if_pos rfl]
    have q := q rfl
    cases m with
    | ok v => exact ev_andB (k := true) h (fun _ => q)
    | ex n => exact (hx n rfl).elim
    | far => trivial
  | false =>
    rw [if_neg (by decide)]
    exact ev_andB (k := false) (l := false) h (fun z => nomatch z)
theorem evm_or {u : Bool} {m : M Bool} {rs : List Expr} (h : Ev X H0 ρ a (.bl u)) (q : u = false → EvM X H0 ρ (.BoolOp .Or (b :: rs) pos) Dat.bl m) (hx : ∀ n, m ≠ .ex n) : EvM X H0 ρ (.BoolOp .Or (a :: b :: rs) pos) Dat.bl (if u = true then .ok true else m) := by
  cases u with
  | true =>
    rw [if_pos rfl]
    exact ev_orB (k := true) (l := true) h (fun z => nomatch z)
  | false =>
    rw [if_neg (by decide)]
    have q := q rfl
    cases m with
    | ok v => exact ev_orB (k := false) h (fun _ => q)
    | ex n => exact (hx n rfl).elim
    | far => trivial
theorem evm_ife {u : Bool} {m1 m2 : M α} (h : EvT X H0 ρ c u) (q1 : u = true → EvM X H0 ρ a en m1) (q2 : u = false → EvM X H0 ρ b en m2) (hx1 : ∀ n, m1 ≠ .ex n) (hx2 : ∀ n, m2 ≠ .ex n) : EvM X H0 ρ (.IfExp c a b pos) en (if u = true then m1 else m2) := by
  cases u with
  | true =>
    rw [if_pos rfl]
    have q := q1 rfl
    cases m1 with
    | ok v => exact ev_ifT h q
    | ex n => exact (hx1 n rfl).elim
    | far => trivial
  | false =>
    rw [if_neg (by decide)]
    have q := q2 rfl
    cases m2 with
    | ok v => exact ev_ifF h q
    | ex n => exact (hx2 n rfl).elim
    | far => trivial
theorem ev_ife {u : Bool} {v1 v2 : α} (h : EvT X H0 ρ c u) (q1 : Ev X H0 ρ a (en v1)) (q2 : Ev X H0 ρ b (en v2)) : Ev X H0 ρ (.IfExp c a b pos) (en (if u = true then v1 else v2)) := by
  cases u with
  | true => exact ev_ifT h q1
  | false => exact ev_ifF h q2
theorem evm_nox (h : EvM X H0 ρ e en m) : EvM X H0 ρ e en m.nox := by
  cases m with
  | ok v => exact h
  | ex n => trivial
  | far => trivial
theorem nox_ne {m : M α} : ∀ n, m.nox ≠ .ex n := fun n => by cases m <;> exact fun z => nomatch z

/-! ### blocks: what stands ahead of a statement -/
theorem xm_gd (h : g = true → ExM X H0 ρ k sts D m) : ExM X H0 ρ k sts D (M.gd g m) := by
  cases g with
  | true => exact h rfl
  | false => trivial
theorem xm_bind {mb : M β} {f : β → M α} (h : ∀ r, mb = .ok r → ExM X H0 ρ k sts D (f r)) : ExM X H0 ρ k sts D (M.bind (M.nox mb) f) := by
  cases mb with
  | ok r => exact h r rfl
  | ex _ => trivial
  | far => trivial
theorem xm_ofO {ob : Option β} {f : β → M α} (h : ∀ r, ob = some r → ExM X H0 ρ k sts D (f r)) : ExM X H0 ρ k sts D (M.bind (M.ofO ob) f) := by
  cases ob with
  | some r => exact h r rfl
  | none => trivial
theorem ex_drops : ∀ (is : List Nat) {ρ : Env'}, Exec X H0 (drops ρ is) sts o → Exec X H0 ρ sts o
  | [], _, h => h
  | i :: is, _, h => ex_drop i (ex_drops is h)
theorem xm_drops (is : List Nat) (h : ExM X H0 (drops ρ is) k sts D m) : ExM X H0 ρ k sts D m := by
  cases m with
  | ok v => exact ex_drops is h
  | ex n => exact ex_drops is h
  | far => trivial
theorem xm_freeze (i : Nat) (hi : ρ[i]? = some (.ow d)) (h : ExM X H0 (ρ.set i (.im d)) k sts D m) : ExM X H0 ρ k sts D m := by
  cases m with
  | ok v => exact ex_freeze i hi h
  | ex n => exact ex_freeze i hi h
  | far => trivial
theorem xm_env (h : ExM X H0 ρ1 k sts D m) (e : ρ = ρ1 := by rfl) : ExM X H0 ρ k sts D m := e ▸ h
theorem xm_then (h : ExS X H0 ρ st (.nx ρ1)) (t : ExM X H0 ρ1 k rest D m) : ExM X H0 ρ k (st :: rest) D m := by
  cases m with
  | ok v => exact ex_then h t
  | ex n => exact ex_then h t
  | far => trivial
theorem xm_then' {f : β → M α} {v : β} (h : ExS X H0 ρ st (.nx ρ1)) (t : ExM X H0 ρ1 k rest D (f v)) : ExM X H0 ρ k (st :: rest) D (M.lt v f) := xm_then h t
/-- a statement that raises -/
theorem ex_raises (h : ExS X H0 ρ st (.ex n ρ)) (hk : ρ.length = k) : Exec X H0 ρ (st :: rest) (.ex n (List.replicate k .no)) := ex_nos (ex_cons h rfl) hk
/-- x = f(..), which may raise -/
theorem xm_setM {eb : β → Dat} {mb : M β} {f : β → M α} (i : Nat) {x : Str} {pos' : Pos} (h : EvM X H0 ρ e eb mb) (nd : X.N.Nodup) (t : ∀ r, ExM X H0 (ρ.set i (.im (eb r))) k rest D (f r)) (hk : ρ.length = k := by rfl) (hi : X.N[i]? = some x := by rfl) (hx : Loc X.env.scope x := by first | exact Or.inl rfl | exact Or.inr rfl)
    (hs : swapsWith e (some (.Name x pos')) pos.line X.env = pure false := by rfl) (hf : X.fn x = true ∨ X.env.scope.names.lookup x = some .local := by first | exact .inl rfl | exact .inr rfl | assumption) : ExM X H0 ρ k (.Assign [.Name x pos'] e pos :: rest) D (M.bind mb f) := by
  cases mb with
  | ok r => exact xm_then (sx_set i h nd rfl hi hx hs hf) (t r)
  | ex n => exact ex_raises (sx_setX h nd hi hx hs hf) hk
  | far => trivial
theorem xm_setMO {eb : β → Dat} {mb : M β} {f : β → M α} (i : Nat) {x : Str} {pos' : Pos} (h : EoM X H0 ρ e eb mb) (nd : X.N.Nodup) (t : ∀ r, ExM X H0 (ρ.set i (.ow (eb r))) k rest D (f r)) (hk : ρ.length = k := by rfl) (hi : X.N[i]? = some x := by rfl) (hx : Loc X.env.scope x := by first | exact Or.inl rfl | exact Or.inr rfl)
    (hs : swapsWith e (some (.Name x pos')) pos.line X.env = pure false := by rfl) (hf : X.fn x = true ∨ X.env.scope.names.lookup x = some .local := by first | exact .inl rfl | exact .inr rfl | assumption) : ExM X H0 ρ k (.Assign [.Name x pos'] e pos :: rest) D (M.bind mb f) := by
  cases mb with
  | ok r => exact xm_then (sx_setO i h nd rfl hi hx hs hf) (t r)
  | ex n => exact ex_raises (sx_setX h nd hi hx hs hf) hk
  | far => trivial
theorem xm_asgM {eb : β → Dat} {mb : M β} {f : β → M α} {t : Expr} {ok : Dat → Prop} {bd : Dat → Env' → Env'} (h : EvM X H0 ρ e eb mb) (hg : Tgt X H0 t ok bd) (hok : ∀ r, ok (eb r)) (tt : ∀ r, ExM X H0 (bd (eb r) ρ) k rest D (f r)) (hk : ρ.length = k := by rfl) (hs : swapsWithSole [t] e pos.line X.env = pure false := by rfl) (hw : swappedStores [t] e X.env = pure none := by rfl)
    (h1 : (assignEach [t] X.env).map (·.2) = [assign t X.env] := by rfl) : ExM X H0 ρ k (.Assign [t] e pos :: rest) D (M.bind mb f) := by
  cases mb with
  | ok r => exact xm_then (sx_asg h hg (hok r) rfl hs hw h1) (tt r)
  | ex n => exact ex_raises (sx_asgX h hg hs hw h1) hk
  | far => trivial
theorem xm_exprM {eb : β → Dat} {mb : M β} {f : β → M α} (h : EvM X H0 ρ e eb mb) (t : ∀ r, ExM X H0 ρ k rest D (f r)) (hk : ρ.length = k := by rfl) (hs : swapsWith e none pos.line X.env = pure false := by rfl) : ExM X H0 ρ k (.Expr e pos :: rest) D (M.bind mb f) := by
  cases mb with
  | ok r => exact xm_then (sx_expr h hs) (t r)
  | ex n => exact ex_raises (sx_exprX h hs) hk
  | far => trivial
/-! ### returns -/
theorem xm_ret {v : α} (h : Ev X H0 ρ e d) (hD : D v = .rt d := by rfl) : ExM X H0 ρ k (.Return (some e) pos :: rest) D (.ok v) := by
  show Exec X H0 ρ _ (D v)
  rw [hD]
  exact ex_cons (sx_ret h) rfl
theorem sx_retO (h : EvO X H0 ρ e d) : ExS X H0 ρ (.Return (some e) pos) (.ro d) := fun Dd σ H N r q => ws_of (ps_ret pe_w) ((h σ H N r).imp fun v H' ⟨N', p, e1, hp, s, n, r', np, ow⟩ => by
  subst e1
  exact q p H' N' r'.tab r'.old (n.trans r'.sub) r'.sub r'.fresh (r.old.free hp) np ow)
theorem sx_retOw (i : Nat) (h : ρ[i]? = some (.ow d)) (hN : X.N[i]? = some x := by rfl) (hv : Vis X.env.scope x := by first | exact Or.inl rfl | exact Or.inr (Or.inl rfl) | exact Or.inr (Or.inr rfl)) (hd : (x == ("__debug__" : Str)) = false := by decide)
    (hcd : (x == ("__classdict__" : Str)) = false := by decide) {pos'} : ExS X H0 ρ (.Return (some (.Name x pos')) pos) (.ro d) := fun Dd σ H N r q => ws_of (ps_ret (pv i hN hv hd hcd))
  (let ⟨p, h1, h2, h3, h4⟩ := r.ow i d h; ⟨.ref p, h1, q p H N r.tab r.old r.sub r.sub r.fresh h2 h3 h4⟩)
theorem xm_retO {v : α} (h : EvO X H0 ρ e d) (hD : D v = .ro d := by rfl) : ExM X H0 ρ k (.Return (some e) pos :: rest) D (.ok v) := by
  show Exec X H0 ρ _ (D v)
  rw [hD]
  exact ex_cons (sx_retO h) rfl
theorem xm_retOw {v : α} (i : Nat) (h : ρ[i]? = some (.ow d)) (hD : D v = .ro d := by rfl) (hN : X.N[i]? = some x := by rfl) (hv : Vis X.env.scope x := by first | exact Or.inl rfl | exact Or.inr (Or.inl rfl) | exact Or.inr (Or.inr rfl)) (hd : (x == ("__debug__" : Str)) = false := by decide)
    (hcd : (x == ("__classdict__" : Str)) = false := by decide) {pos'} : ExM X H0 ρ k (.Return (some (.Name x pos')) pos :: rest) D (.ok v) := by
  show Exec X H0 ρ _ (D v)
  rw [hD]
  exact ex_cons (sx_retOw i h hN hv hd hcd) rfl
theorem xm_retM {eb : β → Dat} {mb : M β} {f : β → α} (h : EvM X H0 ρ e eb mb) (hD : ∀ r, D (f r) = .rt (eb r) := by intro _; rfl) (hk : ρ.length = k := by rfl) : ExM X H0 ρ k (.Return (some e) pos :: rest) D (M.bind mb fun r => .ok (f r)) := by
  cases mb with
  | ok r => exact xm_ret h (hD r)
  | ex n => exact ex_raises (sx_retX h) hk
  | far => trivial
theorem xm_retMO {eb : β → Dat} {mb : M β} {f : β → α} (h : EoM X H0 ρ e eb mb) (hD : ∀ r, D (f r) = .ro (eb r) := by intro _; rfl) (hk : ρ.length = k := by rfl) : ExM X H0 ρ k (.Return (some e) pos :: rest) D (M.bind mb fun r => .ok (f r)) := by
  cases mb with
  | ok r => exact xm_retO h (hD r)
  | ex n => exact ex_raises (sx_retX h) hk
  | far => trivial
theorem xm_raise {mm : Str} {j : Nat} {p p2 pos pos2 : Pos} (T : Exc X.K X.mg n) (hc : X.calm = true) (hk : ρ.length = k := by rfl) (hg : Gl X n := by rfl) (hdb : (n == ("__debug__" : Str)) = false := by decide) : ExM X H0 ρ k (.Raise (some (.Call (.Name n p) [.Constant (.str mm) j p2] [] pos)) none pos2 :: rest) D (.ex n) :=
  ex_raises (sx_raise T hc hg hdb) hk
/-! ### ends of a block -/
theorem xm_end {v : α} (is : List Nat) (hD : D v = .nx (drops ρ is) := by rfl) : ExM X H0 ρ k [] D (.ok v) := by
  show Exec X H0 ρ [] (D v)
  rw [hD]
  exact ex_drops is ex_nil
theorem xm_brk {v : α} (is : List Nat) (hD : D v = .bk (drops ρ is) := by rfl) : ExM X H0 ρ k (.Break pos :: rest) D (.ok v) := by
  show Exec X H0 ρ _ (D v)
  rw [hD]
  exact ex_drops is (ex_cons sx_break rfl)
theorem xm_cnt {v : α} (is : List Nat) (hD : D v = .ct (drops ρ is) := by rfl) : ExM X H0 ρ k (.Continue pos :: rest) D (.ok v) := by
  show Exec X H0 ρ _ (D v)
  rw [hD]
  exact ex_drops is (ex_cons sx_continue rfl)
/-! ### if -/
theorem out_cons {o : Outc} (h : ExS X H0 ρ st o) (ho : o.out) : Exec X H0 ρ (st :: rest) o := ex_out h ho
/-- the first way leaves the def -/
theorem xm_ifX {m2 : M α} (hD : ∀ v, (D v).out) (hc : EvT X H0 ρ c g) (h1 : g = true → ExM X H0 ρ k as D m) (h2 : g = false → ExM X H0 ρ k rest D m2) : ExM X H0 ρ k (.If c as [] pos :: rest) D (if g = true then m else m2) := by
  cases g with
  | true =>
    rw [if_pos rfl]
    have h1 := h1 rfl
    cases m with
    | ok v => exact ex_out (sx_ifT hc h1) (hD v)
    | ex n => exact ex_out (sx_ifT hc h1) trivial
    | far => trivial
  | false =>
    rw [if_neg (by decide)]
    exact xm_then (sx_skip hc) (h2 rfl)
/-- both leave it -/
theorem xm_ifXX {m2 : M α} (hD : ∀ v, (D v).out) (hc : EvT X H0 ρ c g) (h1 : g = true → ExM X H0 ρ k as D m) (h2 : g = false → ExM X H0 ρ k bs D m2) : ExM X H0 ρ k (.If c as bs pos :: rest) D (if g = true then m else m2) := by
  cases g with
  | true =>
    rw [if_pos rfl]
    have h1 := h1 rfl
    cases m with
    | ok v => exact ex_out (sx_ifT hc h1) (hD v)
    | ex n => exact ex_out (sx_ifT hc h1) trivial
    | far => trivial
  | false =>
    rw [if_neg (by decide)]
    have h2 := h2 rfl
    cases m2 with
    | ok v => exact ex_out (sx_ifF hc h2) (hD v)
    | ex n => exact ex_out (sx_ifF hc h2) trivial
    | far => trivial
/-- both fall through -/
theorem xm_ifN {eS : S → Env'} {m1 m2 : M S} {f : S → M α} (hc : EvT X H0 ρ c g) (h1 : g = true → ExM X H0 ρ k as (fun s => .nx (eS s)) m1) (h2 : g = false → ExM X H0 ρ k bs (fun s => .nx (eS s)) m2) (t : ∀ s, ExM X H0 (eS s) k rest D (f s)) : ExM X H0 ρ k (.If c as bs pos :: rest) D (M.bind (if g = true then m1 else m2) f) := by
  cases g with
  | true =>
    rw [if_pos rfl]
    have h1 := h1 rfl
    cases m1 with
    | ok v => exact xm_then (sx_ifT hc h1) (t v)
    | ex n => exact ex_out (sx_ifT hc h1) trivial
    | far => trivial
  | false =>
    rw [if_neg (by decide)]
    have h2 := h2 rfl
    cases m2 with
    | ok v => exact xm_then (sx_ifF hc h2) (t v)
    | ex n => exact ex_out (sx_ifF hc h2) trivial
    | far => trivial
theorem ex_flow {eS : S → Env'} {eL : L → Env'} {oR : R → Outc} {eS' : S' → Env'} {mf : M (Fl S L R)} {f : S → M (Fl S' L R)} (hR : ∀ r, (oR r).out) (h : ExSM X H0 ρ k st (Fl.D eS eL oR) mf) (t : ∀ s, ExM X H0 (eS s) k rest (Fl.D eS' eL oR) (f s)) : ExM X H0 ρ k (st :: rest) (Fl.D eS' eL oR) (M.seq mf f) := by
  cases mf with
  | ok v =>
    cases v with
    | nx s => exact xm_then h (t s)
    | ct s => exact ex_cons h rfl
    | bk s => exact ex_cons h rfl
    | rt r => exact ex_out h (hR r)
  | ex n => exact ex_cons h rfl
  | far => trivial
theorem ex_flowT {eS : S → Env'} {eL : L → Env'} {oR : R → Outc} {mf : M (Fl S L R)} {f : S → M R} (hR : ∀ r, (oR r).out) (h : ExSM X H0 ρ k st (Fl.D eS eL oR) mf) (t : ∀ s, ExM X H0 (eS s) k rest oR (f s)) : ExM X H0 ρ k (st :: rest) oR (M.seqT mf f) := by
  cases mf with
  | ok v =>
    cases v with
    | nx s => exact xm_then h (t s)
    | ct s => trivial
    | bk s => trivial
    | rt r => exact ex_out h (hR r)
  | ex n => exact ex_cons h rfl
  | far => trivial
theorem sx_ifM {D : β → Outc} {m1 m2 : M β} (hc : EvT X H0 ρ c g) (h1 : g = true → ExM X H0 ρ k as D m1) (h2 : g = false → ExM X H0 ρ k bs D m2) : ExSM X H0 ρ k (.If c as bs pos) D (if g = true then m1 else m2) := by
  cases g with
  | true =>
    rw [if_pos rfl]
    have h1 := h1 rfl
    cases m1 with
    | ok v => exact sx_ifT hc h1
    | ex n => exact sx_ifT hc h1
    | far => trivial
  | false =>
    rw [if_neg (by decide)]
    have h2 := h2 rfl
    cases m2 with
    | ok v => exact sx_ifF hc h2
    | ex n => exact sx_ifF hc h2
    | far => trivial
theorem xm_ifJ {eS : S → Env'} {eL : L → Env'} {oR : R → Outc} {eS' : S' → Env'} {m1 m2 : M (Fl S L R)} {f : S → M (Fl S' L R)} (hR : ∀ r, (oR r).out) (hc : EvT X H0 ρ c g) (h1 : g = true → ExM X H0 ρ k as (Fl.D eS eL oR) m1) (h2 : g = false → ExM X H0 ρ k bs (Fl.D eS eL oR) m2) (t : ∀ s, ExM X H0 (eS s) k rest (Fl.D eS' eL oR) (f s)) :
    ExM X H0 ρ k (.If c as bs pos :: rest) (Fl.D eS' eL oR) (M.seq (if g = true then m1 else m2) f) := ex_flow hR (sx_ifM hc h1 h2) t
theorem xm_ifJT {eS : S → Env'} {eL : L → Env'} {oR : R → Outc} {m1 m2 : M (Fl S L R)} {f : S → M R} (hR : ∀ r, (oR r).out) (hc : EvT X H0 ρ c g) (h1 : g = true → ExM X H0 ρ k as (Fl.D eS eL oR) m1) (h2 : g = false → ExM X H0 ρ k bs (Fl.D eS eL oR) m2) (t : ∀ s, ExM X H0 (eS s) k rest oR (f s)) :
    ExM X H0 ρ k (.If c as bs pos :: rest) oR (M.seqT (if g = true then m1 else m2) f) := ex_flowT hR (sx_ifM hc h1 h2) t
/-! ### for -/
section
variable {ea : β → Dat} {t iter : Expr} {bd : Dat → Env' → Env'} {ok : Dat → Prop}
theorem forM_T {eS : S → Env'} {f : β → S → M S} (hb : ∀ x s, ExM X H0 (bd (ea x) (eS s)) k body (fun s => .nx (eS s)) (f x s)) : ∀ (xs : List β) (s : S), match forM f xs s with | .ok s' => ForT X H0 bd body (xs.map ea) (eS s) (.nx (eS s')) | .ex n => ForT X H0 bd body (xs.map ea) (eS s) (.ex n (List.replicate k .no)) | .far => True
  | [], s => .nil
  | x :: xs, s => by
    have h := hb x s
    show match (f x s).bind fun s' => forM f xs s' with | .ok s' => _ | .ex n => _ | .far => True
    cases e : f x s with
    | ok s1 =>
      rw [e] at h
      have ih := forM_T hb xs s1
      show match forM f xs s1 with | .ok s' => _ | .ex n => _ | .far => True
      cases e2 : forM f xs s1 with
      | ok s2 => rw [e2] at ih; exact .turn h ih
      | ex n => rw [e2] at ih; exact .turn h ih
      | far => trivial
    | ex n => rw [e] at h; exact .exc h
    | far => trivial
theorem forF_T {eS : S → Env'} {eL : L → Env'} {oR : R → Outc} {f : β → S → M (Fl S S R)} (hR : ∀ r, ∃ d, oR r = .rt d ∨ oR r = .ro d) (hb : ∀ x s, ExM X H0 (bd (ea x) (eS s)) k body (Fl.D eS eS oR) (f x s)) : ∀ (xs : List β) (s : S), match (forF f xs s : M (Fl S L R)) with | .ok v => ForT X H0 bd body (xs.map ea) (eS s) (Fl.D eS eL oR v) | .ex n => ForT X H0 bd body (xs.map ea) (eS s) (.ex n (List.replicate k .no)) | .far => True
  | [], s => .nil
  | x :: xs, s => by
    have h := hb x s
    unfold forF
    cases e : f x s with
    | ok v =>
      rw [e] at h
      cases v with
      | nx s1 =>
        have ih := forF_T (eL := eL) hR hb xs s1
        show match (forF f xs s1 : M (Fl S L R)) with | .ok v => _ | .ex n => _ | .far => True
        cases e2 : (forF f xs s1 : M (Fl S L R)) with
        | ok s2 => rw [e2] at ih; exact .turn h ih
        | ex n => rw [e2] at ih; exact .turn h ih
        | far => trivial
      | ct s1 =>
        have ih := forF_T (eL := eL) hR hb xs s1
        show match (forF f xs s1 : M (Fl S L R)) with | .ok v => _ | .ex n => _ | .far => True
        cases e2 : (forF f xs s1 : M (Fl S L R)) with
        | ok s2 => rw [e2] at ih; exact .turnC h ih
        | ex n => rw [e2] at ih; exact .turnC h ih
        | far => trivial
      | bk s1 => exact .brk h
      | rt r =>
        have h : Exec X H0 (bd (ea x) (eS s)) body (oR r) := h
        show ForT X H0 bd body ((x :: xs).map ea) (eS s) (oR r)
        obtain ⟨d, q | q⟩ := hR r
        · rw [q] at h ⊢; exact .ret h
        · rw [q] at h ⊢; exact .retO h
    | ex n => rw [e] at h; exact .exc h
    | far => trivial
theorem xm_for {eS : S → Env'} {xs : List β} {s0 : S} {f : β → S → M S} {fk : S → M α} (hp : PassesOwn (model X.prog X.w) X.A X.env X.xe) (hc : X.calm = true) (hi : Iter X H0 ρ t iter (xs.map ea)) (hg : Tgt X H0 t ok bd) (hok : ∀ d ∈ xs.map ea, ok d) (h0 : ρ = eS s0) (hb : ∀ x s, ExM X H0 (bd (ea x) (eS s)) k body (fun s => .nx (eS s)) (f x s)) (tt : ∀ s, ExM X H0 (eS s) k rest D (fk s))
    (hs : ∀ x, foldedSetIterable iter X.env x = pure x := by intro _; rfl) : ExM X H0 ρ k (.For t iter body [] pos :: rest) D (M.bind (forM f xs s0) fk) := by
  have h := forM_T hb xs s0
  cases e : forM f xs s0 with
  | ok s =>
    rw [e] at h
    exact xm_then (sx_for hp hc hi hg hok (h0 ▸ h) hs) (tt s)
  | ex n =>
    rw [e] at h
    exact ex_out (o := .ex n (List.replicate k .no)) (sx_for hp hc hi hg hok (h0 ▸ h) hs) trivial
  | far => trivial
theorem sx_forM {eS : S → Env'} {eL : L → Env'} {oR : R → Outc} {xs : List β} {s0 : S} {f : β → S → M (Fl S S R)} (hR : ∀ r, ∃ d, oR r = .rt d ∨ oR r = .ro d) (hp : PassesOwn (model X.prog X.w) X.A X.env X.xe) (hc : X.calm = true) (hi : Iter X H0 ρ t iter (xs.map ea)) (hg : Tgt X H0 t ok bd) (hok : ∀ d ∈ xs.map ea, ok d) (h0 : ρ = eS s0) (hb : ∀ x s, ExM X H0 (bd (ea x) (eS s)) k body (Fl.D eS eS oR) (f x s))
    (hs : ∀ x, foldedSetIterable iter X.env x = pure x := by intro _; rfl) : ExSM X H0 ρ k (.For t iter body [] pos) (Fl.D eS eL oR) (forF f xs s0 : M (Fl S L R)) := by
  have h := forF_T (eL := eL) hR hb xs s0
  cases e : (forF f xs s0 : M (Fl S L R)) with
  | ok s => rw [e] at h; exact sx_for hp hc hi hg hok (h0 ▸ h) hs
  | ex n => rw [e] at h; exact sx_for hp hc hi hg hok (h0 ▸ h) hs
  | far => trivial
theorem out_of {o : Outc} (h : ∃ d, o = .rt d ∨ o = .ro d) : o.out := by
  obtain ⟨d, q | q⟩ := h <;> (rw [q]; trivial)
theorem xm_forJ {eS : S → Env'} {eL : L → Env'} {eS' : S' → Env'} {oR : R → Outc} {xs : List β} {s0 : S} {f : β → S → M (Fl S S R)} {fk : S → M (Fl S' L R)} (hR : ∀ r, ∃ d, oR r = .rt d ∨ oR r = .ro d) (hp : PassesOwn (model X.prog X.w) X.A X.env X.xe) (hc : X.calm = true) (hi : Iter X H0 ρ t iter (xs.map ea)) (hg : Tgt X H0 t ok bd) (hok : ∀ d ∈ xs.map ea, ok d) (h0 : ρ = eS s0) (hb : ∀ x s, ExM X H0 (bd (ea x) (eS s)) k body (Fl.D eS eS oR) (f x s)) (tt : ∀ s, ExM X H0 (eS s) k rest (Fl.D eS' eL oR) (fk s))
    (hs : ∀ x, foldedSetIterable iter X.env x = pure x := by intro _; rfl) : ExM X H0 ρ k (.For t iter body [] pos :: rest) (Fl.D eS' eL oR) (M.seq (forF f xs s0) fk) := ex_flow (fun r => out_of (hR r)) (sx_forM hR hp hc hi hg hok h0 hb hs) tt
theorem xm_forJT {eS : S → Env'} {oR : R → Outc} {xs : List β} {s0 : S} {f : β → S → M (Fl S S R)} {fk : S → M R} (hR : ∀ r, ∃ d, oR r = .rt d ∨ oR r = .ro d) (hp : PassesOwn (model X.prog X.w) X.A X.env X.xe) (hc : X.calm = true) (hi : Iter X H0 ρ t iter (xs.map ea)) (hg : Tgt X H0 t ok bd) (hok : ∀ d ∈ xs.map ea, ok d) (h0 : ρ = eS s0) (hb : ∀ x s, ExM X H0 (bd (ea x) (eS s)) k body (Fl.D eS eS oR) (f x s)) (tt : ∀ s, ExM X H0 (eS s) k rest oR (fk s))
    (hs : ∀ x, foldedSetIterable iter X.env x = pure x := by intro _; rfl) : ExM X H0 ρ k (.For t iter body [] pos :: rest) oR (M.seqT (forF f xs s0 : M (Fl S S R)) fk) := ex_flowT (eL := eS) (fun r => out_of (hR r)) (sx_forM hR hp hc hi hg hok h0 hb hs) tt
end
/-! ### while -/
theorem whileM_T {eS : S → Env'} {cm : S → M Bool} {f : S → M S} (hc : ∀ s, EtM X H0 (eS s) c (cm s)) (hb : ∀ s, ExM X H0 (eS s) k body (fun s => .nx (eS s)) (f s)) : ∀ (q : Nat) (s : S), match whileM cm f q s with | .ok s' => WhileT X H0 c body (eS s) (.nx (eS s')) | .ex n => WhileT X H0 c body (eS s) (.ex n (List.replicate k .no)) | .far => True
  | 0, s => trivial
  | q + 1, s => by
    have h := hb s
    have hc1 := hc s
    unfold whileM
    cases ec : cm s with
    | ok u =>
      rw [ec] at hc1
      cases u with
      | false => exact .done hc1
      | true =>
        show match (f s).bind fun s' => whileM cm f q s' with | .ok s' => _ | .ex n => _ | .far => True
        cases e : f s with
        | ok s1 =>
          rw [e] at h
          have ih := whileM_T hc hb q s1
          show match whileM cm f q s1 with | .ok s' => _ | .ex n => _ | .far => True
          cases e2 : whileM cm f q s1 with
          | ok s2 => rw [e2] at ih; exact .turn hc1 h ih
          | ex n => rw [e2] at ih; exact .turn hc1 h ih
          | far => trivial
        | ex n => rw [e] at h; exact .exc hc1 h
        | far => trivial
    | ex n => rw [ec] at hc1; exact hc1.elim
    | far => trivial
theorem whileF_T {eS : S → Env'} {eL : L → Env'} {oR : R → Outc} {cm : S → M Bool} {f : S → M (Fl S S R)} (hR : ∀ r, ∃ d, oR r = .rt d ∨ oR r = .ro d) (hc : ∀ s, EtM X H0 (eS s) c (cm s)) (hb : ∀ s, ExM X H0 (eS s) k body (Fl.D eS eS oR) (f s)) : ∀ (q : Nat) (s : S), match (whileF cm f q s : M (Fl S L R)) with | .ok v => WhileT X H0 c body (eS s) (Fl.D eS eL oR v) | .ex n => WhileT X H0 c body (eS s) (.ex n (List.replicate k .no)) | .far => True
  | 0, s => trivial
  | q + 1, s => by
    have h := hb s
    have hc1 := hc s
    unfold whileF
    cases ec : cm s with
    | ok u =>
      rw [ec] at hc1
      cases u with
      | false => exact .done hc1
      | true =>
        show match (match f s with | .ok (.nx s') => whileF cm f q s' | .ok (.ct s') => whileF cm f q s' | .ok (.bk s') => .ok (.nx s') | .ok (.rt r) => .ok (.rt r) | .ex n => .ex n | .far => .far : M (Fl S L R)) with | .ok v => _ | .ex n => _ | .far => True
        cases e : f s with
        | ok v =>
          rw [e] at h
          cases v with
          | nx s1 =>
            have ih := whileF_T (eL := eL) hR hc hb q s1
            show match (whileF cm f q s1 : M (Fl S L R)) with | .ok v => _ | .ex n => _ | .far => True
            cases e2 : (whileF cm f q s1 : M (Fl S L R)) with
            | ok s2 => rw [e2] at ih; exact .turn hc1 h ih
            | ex n => rw [e2] at ih; exact .turn hc1 h ih
            | far => trivial
          | ct s1 =>
            have ih := whileF_T (eL := eL) hR hc hb q s1
            show match (whileF cm f q s1 : M (Fl S L R)) with | .ok v => _ | .ex n => _ | .far => True
            cases e2 : (whileF cm f q s1 : M (Fl S L R)) with
            | ok s2 => rw [e2] at ih; exact .turnC hc1 h ih
            | ex n => rw [e2] at ih; exact .turnC hc1 h ih
            | far => trivial
          | bk s1 => exact .brk hc1 h
          | rt r =>
            have h : Exec X H0 (eS s) body (oR r) := h
            show WhileT X H0 c body (eS s) (oR r)
            obtain ⟨d, q | q⟩ := hR r
            · rw [q] at h ⊢; exact .ret hc1 h
            · rw [q] at h ⊢; exact .retO hc1 h
        | ex n => rw [e] at h; exact .exc hc1 h
        | far => trivial
    | ex n => rw [ec] at hc1; exact hc1.elim
    | far => trivial
theorem xm_while {eS : S → Env'} {s0 : S} {cm : S → M Bool} {f : S → M S} {fk : S → M α} {fuel : Nat} (hp : PassesOwn (model X.prog X.w) X.A X.env X.xe) (h0 : ρ = eS s0) (hc : ∀ s, EtM X H0 (eS s) c (cm s)) (hb : ∀ s, ExM X H0 (eS s) k body (fun s => .nx (eS s)) (f s)) (tt : ∀ s, ExM X H0 (eS s) k rest D (fk s)) : ExM X H0 ρ k (.While c body [] pos :: rest) D (M.bind (whileM cm f fuel s0) fk) := by
  have h := whileM_T hc hb fuel s0
  cases e : whileM cm f fuel s0 with
  | ok s => rw [e] at h; exact xm_then (sx_while hp (h0 ▸ h)) (tt s)
  | ex n => rw [e] at h; exact ex_out (o := .ex n (List.replicate k .no)) (sx_while hp (h0 ▸ h)) trivial
  | far => trivial
theorem sx_whileM {eS : S → Env'} {eL : L → Env'} {oR : R → Outc} {s0 : S} {cm : S → M Bool} {f : S → M (Fl S S R)} {fuel : Nat} (hR : ∀ r, ∃ d, oR r = .rt d ∨ oR r = .ro d) (hp : PassesOwn (model X.prog X.w) X.A X.env X.xe) (h0 : ρ = eS s0) (hc : ∀ s, EtM X H0 (eS s) c (cm s)) (hb : ∀ s, ExM X H0 (eS s) k body (Fl.D eS eS oR) (f s)) :
    ExSM X H0 ρ k (.While c body [] pos) (Fl.D eS eL oR) (whileF cm f fuel s0 : M (Fl S L R)) := by
  have h := whileF_T (eL := eL) hR hc hb fuel s0
  cases e : (whileF cm f fuel s0 : M (Fl S L R)) with
  | ok s => rw [e] at h; exact sx_while hp (h0 ▸ h)
  | ex n => rw [e] at h; exact sx_while hp (h0 ▸ h)
  | far => trivial
theorem xm_whileJ {eS : S → Env'} {eL : L → Env'} {eS' : S' → Env'} {oR : R → Outc} {s0 : S} {cm : S → M Bool} {f : S → M (Fl S S R)} {fk : S → M (Fl S' L R)} {fuel : Nat} (hR : ∀ r, ∃ d, oR r = .rt d ∨ oR r = .ro d) (hp : PassesOwn (model X.prog X.w) X.A X.env X.xe) (h0 : ρ = eS s0) (hc : ∀ s, EtM X H0 (eS s) c (cm s)) (hb : ∀ s, ExM X H0 (eS s) k body (Fl.D eS eS oR) (f s)) (tt : ∀ s, ExM X H0 (eS s) k rest (Fl.D eS' eL oR) (fk s)) :
    ExM X H0 ρ k (.While c body [] pos :: rest) (Fl.D eS' eL oR) (M.seq (whileF cm f fuel s0) fk) := ex_flow (fun r => out_of (hR r)) (sx_whileM hR hp h0 hc hb) tt
theorem xm_whileJT {eS : S → Env'} {oR : R → Outc} {s0 : S} {cm : S → M Bool} {f : S → M (Fl S S R)} {fk : S → M R} {fuel : Nat} (hR : ∀ r, ∃ d, oR r = .rt d ∨ oR r = .ro d) (hp : PassesOwn (model X.prog X.w) X.A X.env X.xe) (h0 : ρ = eS s0) (hc : ∀ s, EtM X H0 (eS s) c (cm s)) (hb : ∀ s, ExM X H0 (eS s) k body (Fl.D eS eS oR) (f s)) (tt : ∀ s, ExM X H0 (eS s) k rest oR (fk s)) :
    ExM X H0 ρ k (.While c body [] pos :: rest) oR (M.seqT (whileF cm f fuel s0 : M (Fl S S R)) fk) := ex_flowT (eL := eS) (fun r => out_of (hR r)) (sx_whileM hR hp h0 hc hb) tt
/-! ### calls -/
theorem evm_call {R : List Dat → Res → Prop} {kk : Nat} (G : GFn X.prog X.w X.K X.mg X.base x kk R) (hr : Room kk X.A) (ha : EvAB X H0 ρ (e :: es) ds) (q : ∀ o, Rm en m o → R ds o) (hg : Gl X x := by rfl) (hdb : (x == ("__debug__" : Str)) = false := by decide)
    (he : starEach (e :: es) X.env = (false, eval e X.env) :: starEach es X.env := by rfl) (hpl : (backTo pos (starEach es X.env)).any (·.1) = false := by rfl) : EvM X H0 ρ (.Call (.Name x p) (e :: es) [] pos) en m := by
  cases m with
  | ok v => exact ev_call G hr ha (q _ rfl) hg hdb he hpl
  | ex n => exact exc_call G hr ha (q _ rfl) hg hdb he hpl
  | far => trivial
theorem eom_call {R : List Dat → Res → Prop} {kk : Nat} (G : GFn X.prog X.w X.K X.mg X.base x kk R) (hr : Room kk X.A) (ha : EvAB X H0 ρ (e :: es) ds) (q : ∀ o, RmO en m o → R ds o) (hg : Gl X x := by rfl) (hdb : (x == ("__debug__" : Str)) = false := by decide)
    (he : starEach (e :: es) X.env = (false, eval e X.env) :: starEach es X.env := by rfl) (hpl : (backTo pos (starEach es X.env)).any (·.1) = false := by rfl) : EoM X H0 ρ (.Call (.Name x p) (e :: es) [] pos) en m := by
  cases m with
  | ok v => exact eo_call G hr ha (q _ rfl) hg hdb he hpl
  | ex n => exact exc_call G hr ha (q _ rfl) hg hdb he hpl
  | far => trivial
/-! ### defs -/
theorem ends_m (h : ExM X H0 ρ k sts (fun r => .rt (en r)) m) : ∀ o, Rm en m o → Ends' X H0 ρ sts o := fun o q => by
  cases m with
  | ok v => cases (show o = _ from q); exact .ret h
  | ex n => cases (show o = _ from q); exact .exc h
  | far => exact (show False from q).elim
theorem ends_mO (h : ExM X H0 ρ k sts (fun r => .ro (en r)) m) : ∀ o, RmO en m o → Ends' X H0 ρ sts o := fun o q => by
  cases m with
  | ok v => cases (show o = _ from q); exact .own h
  | ex n => cases (show o = _ from q); exact .exc h
  | far => exact (show False from q).elim
/-- a def without a return -/
theorem ends_mN {m : M Unit} {ρ1 : Env'} (h : ExM X H0 ρ k sts (fun _ => .nx ρ1) m) : ∀ o, Rm (fun _ : Unit => Dat.non) m o → Ends' X H0 ρ sts o := fun o q => by
  cases m with
  | ok v => cases (show o = _ from q); exact .non h
  | ex n => cases (show o = _ from q); exact .exc h
  | far => exact (show False from q).elim
end
section
variable {P : Program} {w : World} {K : PySem.W.Frag} {mg : Str → Option Value} {base : Heap} {x : Str} {st : Stmt} {ps N : List Str} {k : Nat} {R : List Dat → Res → Prop} {f : Addr} {fd : FuncData}
/-- THE RULE for a def -/
theorem fn_mk2 (F : Fun K x x st f fd) (S : FnScope N ps (defScope st)) (hl : ∀ ds o, R ds o → ds.length = ps.length)
    (body : ∀ (f : Addr) (cdv : Value) (A : Around) (outer : List PySem.Env) (s : Shared) (H : Hp) (E : XK), Room k (XX P w K mg base N x st f cdv A outer s H E).A → ∀ ds o, R ds o → ∃ es, Ents es ds ∧ ∀ H0, Ends' (XX P w K mg base N x st f cdv A outer s H E) H0 (es ++ List.replicate (N.length - ps.length) .no) (defBody st) o) : FnOk P w K mg base (L2.CX P w) (k + 1) f fd ps (spR K mg R) := by
  refine F.okX S (fun vs H Q E ⟨_, ds, o, hr, a, _⟩ => by rw [a.length]; exact hl ds o hr) fun cdv A outer s H vs Q E hr hsp => ?_
  obtain ⟨tk, ds, o, hR, a, q⟩ := hsp
  obtain ⟨es, he, hbody⟩ := body f cdv A outer s H E hr ds o hR
  have hlen : vs.length = ps.length := by rw [a.length]; exact hl ds o hR
  have r : Rep K H (es ++ List.replicate (N.length - ps.length) .no) (L2.start N vs) H (Imm H) := hlen ▸ rep_start tk he a
  have hb := hbody H
  refine ⟨_, pb_w, ?_⟩
  cases hb with
  | ret h => exact h { nx := fun _ H' => Q .non H', rt := Q } _ _ _ r fun v H' s _ rt => q v H' s rt
  | non h => exact h { nx := fun _ H' => Q .non H', rt := Q } _ _ _ r fun σ H' N' s r' => q .non H' r'.old ⟨r'.tab, N', r'.sub, r'.fresh, .non⟩
  | own h => exact h { nx := fun _ H' => Q .non H', rt := Q } _ _ _ r fun p H' N' tk s1 _ s2 s3 s4 s5 s6 => q p H' N' tk s1 s2 s3 s4 s5 s6
  | exc h => exact h { nx := fun _ H' => Q .non H', rt := Q } _ _ _ r ⟨_, takes_of rfl rfl rfl rfl, fun C σ H' N' hm s r' => q C H' hm r'.tab r'.old⟩
theorem GFn.mk2 (D : Df K mg x st ps) (S : FnScope N ps (defScope st)) (hl : ∀ ds o, R ds o → ds.length = ps.length)
    (body : ∀ (f : Addr) (cdv : Value) (A : Around) (outer : List PySem.Env) (s : Shared) (H : Hp) (E : XK), Room k (XX P w K mg base N x st f cdv A outer s H E).A → ∀ ds o, R ds o → ∃ es, Ents es ds ∧ ∀ H0, Ends' (XX P w K mg base N x st f cdv A outer s H E) H0 (es ++ List.replicate (N.length - ps.length) .no) (defBody st) o) : GFn P w K mg base x (k + 1) R := by
  obtain ⟨f, fd, F, hm, hb⟩ := D
  exact ⟨f, fd, ps, fn_mk2 F S hl body, hm, F.kp, hb⟩
end
end B

namespace B
open PySem PySem.Spec PyProof.Rows L2
/-! ### kinds of values -/
abbrev chd (c : Nat) : Dat := tx [c]
abbrev nond (_ : Unit) : Dat := .non
abbrev idd (d : Dat) : Dat := d
section
variable {α β γ δ : Type}
abbrev lstd (e : α → Dat) (l : List α) : Dat := .lst (l.map e)
abbrev tpnd (e : α → Dat) (l : List α) : Dat := .tup (l.map e)
abbrev tup1 (ea : α → Dat) (p : α) : Dat := .tup [ea p]
abbrev tup2 (ea : α → Dat) (eb : β → Dat) (p : α × β) : Dat := .tup [ea p.1, eb p.2]
abbrev tup3 (ea : α → Dat) (eb : β → Dat) (ec : γ → Dat) (p : α × β × γ) : Dat := .tup [ea p.1, eb p.2.1, ec p.2.2]
abbrev tup4 (ea : α → Dat) (eb : β → Dat) (ec : γ → Dat) (ed : δ → Dat) (p : α × β × γ × δ) : Dat := .tup [ea p.1, eb p.2.1, ec p.2.2.1, ed p.2.2.2]
abbrev optd (e : α → Dat) : Option α → Dat
  | none => .non
  | some a => e a
abbrev dicd (e : α → Dat) (l : List (List Nat × α)) : Dat := .dic (l.map fun p => (Sum.inr (SX.S p.1), e p.2))
theorem flats_map {e : α → Dat} (h : ∀ a, flat (e a) = true) (l : List α) : flats (l.map e) = true := by
  induction l with
  | nil => rfl
  | cons a l ih => show (flat (e a) && flats (l.map e)) = true; rw [h a, ih]; rfl
theorem flat_tup1 {ea : α → Dat} (h1 : ∀ a, flat (ea a) = true) : ∀ p, flat (tup1 ea p) = true := fun p => by
  show (flat (ea p) && true) = true; rw [h1]; rfl
theorem flat_tup2 {ea : α → Dat} {eb : β → Dat} (h1 : ∀ a, flat (ea a) = true) (h2 : ∀ a, flat (eb a) = true) : ∀ p, flat (tup2 ea eb p) = true := fun p => by
  show (flat (ea p.1) && (flat (eb p.2) && true)) = true; rw [h1, h2]; rfl
theorem flat_tup3 {ea : α → Dat} {eb : β → Dat} {ec : γ → Dat} (h1 : ∀ a, flat (ea a) = true) (h2 : ∀ a, flat (eb a) = true) (h3 : ∀ a, flat (ec a) = true) : ∀ p, flat (tup3 ea eb ec p) = true := fun p => by
  show (flat (ea p.1) && (flat (eb p.2.1) && (flat (ec p.2.2) && true))) = true; rw [h1, h2, h3]; rfl
theorem flat_tpn {e : α → Dat} (h : ∀ a, flat (e a) = true) : ∀ l, flat (tpnd e l) = true := fun l => by
  show flats (l.map e) = true; exact flats_map h l
theorem cutm (f : α → β) (l : List α) (lo hi : Option Int) : cut (l.map f) lo hi = (cut l lo hi).map f := by
  unfold cut
  rw [List.length_map, List.map_take, List.map_drop]
theorem atIm (f : α → β) (l : List α) (i : Int) {r : α} (h : atI l i = some r) : atI (l.map f) i = some (f r) := by
  unfold atI at h ⊢
  rw [List.length_map]
  cases e : ixN l.length i with
  | none => rw [e] at h; cases h
  | some j =>
    rw [e] at h
    show (l.map f)[j]? = _
    rw [List.getElem?_map, show l[j]? = some r from h]
    rfl
/-- lo, lo + c, .. -/
def rng (lo c : Int) (n : Nat) : List Int := (List.range n).map fun i : Nat => lo + (i : Int) * c
theorem rng_steps (lo c : Int) (n : Nat) : steps lo c n = (rng lo c n).map Dat.int := by
  unfold steps rng
  rw [List.map_map]
  rfl
theorem tx_map (l : List Nat) : (l.map fun k => tx [k]) = l.map chd := rfl
/-! ### == of values -/
def Eqs [DecidableEq α] (e : α → Dat) : Prop := ∀ a b, PyData.eqv (pd (e a)) (pd (e b)) = decide (a = b)
def Okn (n : Nat) (e : α → Dat) : Prop := ∀ a, okn n (e a) = true
theorem eqs_int : Eqs Dat.int := fun a b => by
  show (a == b) = decide (a = b)
  by_cases h : a = b <;> simp [h]
theorem eqs_bool : Eqs Dat.bl := fun a b => by
  show (PyData.eqv (.bool a) (.bool b)) = decide (a = b)
  cases a <;> cases b <;> rfl
theorem eqs_str : Eqs tx := fun a b => by
  show (SX.S a == SX.S b) = decide (a = b)
  by_cases h : a = b
  · subst h; simp
  · rw [decide_eq_false h]
    exact beq_eq_false_iff_ne.mpr fun q => h (SX.S_inj q)
theorem eqvAll_map [DecidableEq α] {e : α → Dat} (h : Eqs e) : ∀ a b : List α, PyData.eqvAll (pds (a.map e)) (pds (b.map e)) = decide (a = b)
  | [], [] => rfl
  | [], _ :: _ => rfl
  | _ :: _, [] => rfl
  | x :: a, y :: b => by
    show (PyData.eqv (pd (e x)) (pd (e y)) && PyData.eqvAll (pds (a.map e)) (pds (b.map e))) = _
    rw [h x y, eqvAll_map h a b]
    by_cases h1 : x = y <;> simp [h1]
theorem eqs_lst [DecidableEq α] {e : α → Dat} (h : Eqs e) : Eqs (lstd e) := fun a b => eqvAll_map h a b
theorem eqs_tpn [DecidableEq α] {e : α → Dat} (h : Eqs e) : Eqs (tpnd e) := fun a b => eqvAll_map h a b
theorem eqs_tup2 [DecidableEq α] [DecidableEq β] {ea : α → Dat} {eb : β → Dat} (h : Eqs ea) (g : Eqs eb) : Eqs (tup2 ea eb) := fun a b => by
  show (PyData.eqv (pd (ea a.1)) (pd (ea b.1)) && (PyData.eqv (pd (eb a.2)) (pd (eb b.2)) && true)) = _
  rw [h, g, Bool.and_true]
  obtain ⟨a1, a2⟩ := a
  obtain ⟨b1, b2⟩ := b
  by_cases h1 : a1 = b1 <;> simp [h1]
theorem eqs_tup3 [DecidableEq α] [DecidableEq β] [DecidableEq γ] {ea : α → Dat} {eb : β → Dat} {ec : γ → Dat} (h : Eqs ea) (g : Eqs eb) (k : Eqs ec) : Eqs (tup3 ea eb ec) := fun a b => by
  show (PyData.eqv (pd (ea a.1)) (pd (ea b.1)) && (PyData.eqv (pd (eb a.2.1)) (pd (eb b.2.1)) && (PyData.eqv (pd (ec a.2.2)) (pd (ec b.2.2)) && true))) = _
  rw [h, g, k, Bool.and_true]
  obtain ⟨a1, a2, a3⟩ := a
  obtain ⟨b1, b2, b3⟩ := b
  by_cases h1 : a1 = b1 <;> by_cases h2 : a2 = b2 <;> simp [h1, h2]
theorem okn_i {n : Nat} : Okn n Dat.int := fun a => by cases n <;> rfl
theorem okn_b {n : Nat} : Okn n Dat.bl := fun a => by cases n <;> rfl
theorem okn_lst {n : Nat} {e : α → Dat} (h : Okn n e) : Okn (n + 1) (lstd e) := fun a => by
  show (a.map e).all (okn n) = true
  rw [List.all_map]
  exact List.all_eq_true.mpr fun x _ => h x
theorem okn_tpn {n : Nat} {e : α → Dat} (h : Okn n e) : Okn (n + 1) (tpnd e) := fun a => by
  show (a.map e).all (okn n) = true
  rw [List.all_map]
  exact List.all_eq_true.mpr fun x _ => h x
theorem okn_tup2 {n : Nat} {ea : α → Dat} {eb : β → Dat} (h : Okn n ea) (g : Okn n eb) : Okn (n + 1) (tup2 ea eb) := fun a => by
  show (okn n (ea a.1) && (okn n (eb a.2) && true)) = true
  rw [h, g]; rfl
theorem okn_tup3 {n : Nat} {ea : α → Dat} {eb : β → Dat} {ec : γ → Dat} (h : Okn n ea) (g : Okn n eb) (k : Okn n ec) : Okn (n + 1) (tup3 ea eb ec) := fun a => by
  show (okn n (ea a.1) && (okn n (eb a.2.1) && (okn n (ec a.2.2) && true))) = true
  rw [h, g, k]; rfl
/-- texts that may be compared -/
@[irreducible] def txOk (l : List Nat) : Bool := okn 0 (tx l)
theorem inj_int : ∀ a b : Int, Dat.int a = Dat.int b → a = b := fun _ _ h => Dat.int.inj h
theorem inj_bool : ∀ a b : Bool, Dat.bl a = Dat.bl b → a = b := fun _ _ h => Dat.bl.inj h
theorem inj_str : ∀ a b : List Nat, tx a = tx b → a = b := fun _ _ h => SX.S_inj (Dat.str.inj h)
theorem inj_chr : ∀ a b : Nat, chd a = chd b → a = b := fun _ _ h => by
  have := inj_str _ _ h
  exact List.cons.inj this |>.1
theorem inj_dat : ∀ a b : Dat, idd a = idd b → a = b := fun _ _ h => h
theorem inj_map {e : α → Dat} (h : ∀ a b, e a = e b → a = b) : ∀ a b : List α, a.map e = b.map e → a = b
  | [], [], _ => rfl
  | [], _ :: _, q => by cases q
  | _ :: _, [], q => by cases q
  | x :: a, y :: b, q => by
    rw [List.map_cons, List.map_cons] at q
    injection q with q1 q2
    rw [h _ _ q1, inj_map h _ _ q2]
theorem inj_lst {e : α → Dat} (h : ∀ a b, e a = e b → a = b) : ∀ a b : List α, lstd e a = lstd e b → a = b := fun a b q => inj_map h a b (Dat.lst.inj q)
theorem inj_tpn {e : α → Dat} (h : ∀ a b, e a = e b → a = b) : ∀ a b : List α, tpnd e a = tpnd e b → a = b := fun a b q => inj_map h a b (Dat.tup.inj q)
theorem inj_tup2 {ea : α → Dat} {eb : β → Dat} (h : ∀ a b, ea a = ea b → a = b) (g : ∀ a b, eb a = eb b → a = b) : ∀ a b : α × β, tup2 ea eb a = tup2 ea eb b → a = b := fun a b q => by
  have q := Dat.tup.inj q
  injection q with q1 q2
  injection q2 with q2 _
  exact Prod.ext (h _ _ q1) (g _ _ q2)
end
/-! ### what is within reach -/
noncomputable def cl (p : Prop) : Bool := @decide p (Classical.propDecidable p)
theorem cl_of {p : Prop} (h : cl p = true) : p := @of_decide_eq_true p (Classical.propDecidable p) h
theorem cl_i {p : Prop} (h : p) : cl p = true := @decide_eq_true p (Classical.propDecidable p) h
instance (i j : Int) : Decidable (IntMulOk i j) := by unfold IntMulOk; infer_instance
instance (i j : Int) : Decidable (CShl i j) := by unfold CShl; infer_instance
instance (i j : Int) : Decidable (CPow i j) := by unfold CPow; infer_instance
@[irreducible] noncomputable def mulOk (i j : Int) : Bool := cl (IntMulOk i j)
theorem mulOk_ok {i j : Int} (h : mulOk i j = true) : IntMulOk i j := by unfold mulOk at h; exact cl_of h
@[irreducible] noncomputable def divOk (j : Int) : Bool := cl (0 < j ∧ j.natAbs.log2 < 9000)
theorem divOk_1 {j : Int} (h : divOk j = true) : 0 < j := by unfold divOk at h; exact (cl_of h).1
theorem divOk_2 {j : Int} (h : divOk j = true) : j.natAbs.log2 < 9000 := by unfold divOk at h; exact (cl_of h).2
@[irreducible] noncomputable def fdivOk (j : Int) : Bool := cl (j ≠ 0 ∧ j.natAbs.log2 < 9000)
theorem fdivOk_1 {j : Int} (h : fdivOk j = true) : j ≠ 0 := by unfold fdivOk at h; exact (cl_of h).1
theorem fdivOk_2 {j : Int} (h : fdivOk j = true) : j.natAbs.log2 < 9000 := by unfold fdivOk at h; exact (cl_of h).2
@[irreducible] noncomputable def shlOk (i j : Int) : Bool := cl (CShl i j)
theorem shlOk_ok {i j : Int} (h : shlOk i j = true) : CShl i j := by unfold shlOk at h; exact cl_of h
@[irreducible] noncomputable def powOk (i j : Int) : Bool := cl (CPow i j)
theorem powOk_ok {i j : Int} (h : powOk i j = true) : CPow i j := by unfold powOk at h; exact cl_of h
@[irreducible] noncomputable def lenOk {α : Type} (l : List α) : Bool := cl (l.length ≤ 16777216)
theorem sizeLine_is : sizeLine = 16777216 := by decide
theorem lenOk_ok {α : Type} {l : List α} (h : lenOk l = true) : l.length ≤ sizeLine := by unfold lenOk at h; rw [sizeLine_is]; exact cl_of h
@[irreducible] noncomputable def lenLt {α : Type} (l : List α) : Bool := cl (l.length < 16777216)
theorem lenLt_ok {α : Type} {l : List α} (h : lenLt l = true) : l.length < sizeLine := by unfold lenLt at h; rw [sizeLine_is]; exact cl_of h
theorem lenLt_m {α : Type} {l : List α} {e : α → Dat} (h : lenLt l = true) : (l.map e).length < sizeLine := by rw [List.length_map]; exact lenLt_ok h
@[irreducible] noncomputable def catOk {α : Type} (l m : List α) : Bool := cl (l.length + m.length ≤ 16777216)
theorem catOk_ok {α : Type} {l m : List α} (h : catOk l m = true) : l.length + m.length ≤ sizeLine := by unfold catOk at h; rw [sizeLine_is]; exact cl_of h
@[irreducible] noncomputable def rngOk (i j : Int) : Bool := cl (-(2 ^ 62) ≤ i ∧ i < 2 ^ 62 ∧ -(2 ^ 62) ≤ j ∧ j < 2 ^ 62)
theorem rngOk_ok {i j : Int} (h : rngOk i j = true) : -(2 ^ 62) ≤ i ∧ i < 2 ^ 62 ∧ -(2 ^ 62) ≤ j ∧ j < 2 ^ 62 := by unfold rngOk at h; exact cl_of h
@[irreducible] noncomputable def repOk {α : Type} (l : List α) (n : Int) : Bool := cl (-100000 ≤ n ∧ n ≤ 100000 ∧ l.length ≤ 100)
def repS {α : Type} (l : List α) (n : Int) : List α := (List.replicate n.toNat l).flatten
theorem repOk_S {l : List Nat} {n : Int} (h : repOk l n = true) : MulOk (SX.S l) n := by unfold repOk at h; obtain ⟨a, b, c⟩ := cl_of h; exact mulOk_small a b c
section
variable {X : Cx} {H0 : Hp} {ρ ρ0 ρ1 ρ2 : Env'} {α β γ : Type} {a b c e t : Expr} {es : List Expr} {st : Stmt} {sts rest : List Stmt} {d d1 d2 : Dat} {ds : List Dat} {p pos : Pos} {o o1 : Outc} {x n : Str} {k : Nat} {D : γ → Outc} {m : M α} {en : α → Dat}
/-! ### numbers -/
theorem ev_shlT {i j : Int} (ha : Ev X H0 ρ a (.int i)) (hb : Ev X H0 ρ b (.int j)) (h : CShl i j) : Ev X H0 ρ (.BinOp a .LShift b pos) (.int (i * 2 ^ j.toNat)) := ev_intop ha hb (g := fun i j => i * 2 ^ j.toNat) op_shlW h
theorem ev_repXm {l : List Nat} {i : Int} (ha : Ev X H0 ρ a (tx l)) (hb : Ev X H0 ρ b (.int i)) (h : repOk l i = true) : Ev X H0 ρ (.BinOp a .Mult b pos) (tx (repS l i)) := ev_repX ha hb (repOk_S h)
/-! ### lists -/
theorem ev_ixLm {l : List α} {i : Int} {r : α} (ha : Ev X H0 ρ a (lstd en l)) (hb : Ev X H0 ρ b (.int i)) (q : atI l i = some r) (hs : PlainIx b := by exact fun _ _ => rfl) : Ev X H0 ρ (.Subscript a b pos) (en r) := ev_ixL ha hb (atIm en l i q) hs
theorem eb_ixLm {l : List α} {i : Int} {r : α} (ha : EvB X H0 ρ a (lstd en l)) (hb : Ev X H0 ρ b (.int i)) (q : atI l i = some r) (hs : PlainIx b := by exact fun _ _ => rfl) : EvB X H0 ρ (.Subscript a b pos) (en r) := eb_ixL ha hb (atIm en l i q) hs
theorem ev_ixTm {l : List α} {i : Int} {r : α} (ha : Ev X H0 ρ a (tpnd en l)) (hb : Ev X H0 ρ b (.int i)) (q : atI l i = some r) (hs : PlainIx b := by exact fun _ _ => rfl) : Ev X H0 ρ (.Subscript a b pos) (en r) := ev_ixT ha hb (atIm en l i q) hs
theorem ev_lenm {l : List α} (ha : EvB X H0 ρ a (lstd en l)) (hm : X.mg "len" = none) (hg : Gl X "len" := by rfl) (he : starEach [a] X.env = (false, eval a X.env) :: starEach [] X.env := by rfl) (hpl : (backTo pos (starEach [] X.env)).any (·.1) = false := by rfl) : Ev X H0 ρ (.Call (.Name "len" p) [a] [] pos) (.int (l.length : Int)) :=
  ev_len ha (by show some (l.map en).length = _; rw [List.length_map]) hm hg he hpl
theorem ev_lenTm {l : List α} (ha : EvB X H0 ρ a (tpnd en l)) (hm : X.mg "len" = none) (hg : Gl X "len" := by rfl) (he : starEach [a] X.env = (false, eval a X.env) :: starEach [] X.env := by rfl) (hpl : (backTo pos (starEach [] X.env)).any (·.1) = false := by rfl) : Ev X H0 ρ (.Call (.Name "len" p) [a] [] pos) (.int (l.length : Int)) :=
  ev_len ha (by show some (l.map en).length = _; rw [List.length_map]) hm hg he hpl
theorem eo_slLm {l : List α} {lo hi : Option Expr} {i j : Option Int} {p2 : Pos} (f : ∀ a, flat (en a) = true) (ha : EvB X H0 ρ a (lstd en l)) (hl : EvP X H0 ρ lo i) (hh : EvP X H0 ρ hi j) : EvO X H0 ρ (.Subscript a (.Slice lo hi none p2) pos) (lstd en (cut l i j)) := by
  have := eo_slL (pos := pos) (p2 := p2) ha hl hh (flats_map f l)
  rw [cutm] at this
  exact this
theorem ev_slTm {l : List α} {lo hi : Option Expr} {i j : Option Int} {p2 : Pos} (ha : Ev X H0 ρ a (tpnd en l)) (hl : EvP X H0 ρ lo i) (hh : EvP X H0 ρ hi j) : Ev X H0 ρ (.Subscript a (.Slice lo hi none p2) pos) (tpnd en (cut l i j)) := by
  have := ev_slT (pos := pos) (p2 := p2) ha hl hh
  rw [cutm] at this
  exact this
theorem eo_listm {l : List α} (f : ∀ a, flat (en a) = true) (ha : EvB X H0 ρ a (lstd en l)) (hm : X.mg "list" = none) (hg : Gl X "list" := by rfl) (he : starEach [a] X.env = (false, eval a X.env) :: starEach [] X.env := by rfl) (hpl : (backTo pos (starEach [] X.env)).any (·.1) = false := by rfl) :
    EvO X H0 ρ (.Call (.Name "list" p) [a] [] pos) (lstd en l) := eo_list ha (flats_map f l) hm hg he hpl
theorem eo_listTm {l : List α} (f : ∀ a, flat (en a) = true) (ha : EvB X H0 ρ a (tpnd en l)) (hm : X.mg "list" = none) (hg : Gl X "list" := by rfl) (he : starEach [a] X.env = (false, eval a X.env) :: starEach [] X.env := by rfl) (hpl : (backTo pos (starEach [] X.env)).any (·.1) = false := by rfl) :
    EvO X H0 ρ (.Call (.Name "list" p) [a] [] pos) (lstd en l) := eo_listT ha (flats_map f l) hm hg he hpl
theorem eo_listRevm {l : List α} {p2 pos2 : Pos} (f : ∀ a, flat (en a) = true) (ha : EvB X H0 ρ a (lstd en l)) (hc : X.calm = true) (hm : X.mg "list" = none) (hm2 : X.mg "reversed" = none) (hg : Gl X "list" := by rfl) (hg2 : Gl X "reversed" := by rfl) (hs : starEach [a] X.env = (false, eval a X.env) :: starEach [] X.env := by rfl)
    (hs2 : starEach [.Call (.Name "reversed" p2) [a] [] pos2] X.env = (false, eval (.Call (.Name "reversed" p2) [a] [] pos2) X.env) :: starEach [] X.env := by rfl) : EvO X H0 ρ (.Call (.Name "list" p) [.Call (.Name "reversed" p2) [a] [] pos2] [] pos) (lstd en l.reverse) := by
  have := eo_listRev (p := p) (pos := pos) ha (flats_map f l) hc hm hm2 hg hg2 hs hs2
  rw [← List.map_reverse] at this
  exact this
theorem repm (f : α → β) (l : List α) (n : Nat) : (List.replicate n (l.map f)).flatten = (List.replicate n l).flatten.map f := by
  induction n with
  | zero => rfl
  | succ n ih => rw [List.replicate_succ, List.replicate_succ, List.flatten_cons, List.flatten_cons, List.map_append, ih]
theorem repOk_L {l : List α} {n : Int} (h : repOk l n = true) : -(2 ^ 63) ≤ n ∧ n < 2 ^ 63 ∧ (l.map en).length * n.toNat ≤ sizeLine := by
  unfold repOk at h
  obtain ⟨a, b, c⟩ := cl_of h
  refine ⟨by omega, by omega, ?_⟩
  rw [List.length_map, sizeLine_is]
  have : l.length * n.toNat ≤ 100 * 100000 := Nat.mul_le_mul c (by omega)
  omega
theorem eo_repOm {l : List α} {i : Int} (ha : EvO X H0 ρ a (lstd en l)) (hb : Ev X H0 ρ b (.int i)) (h : repOk l i = true) : EvO X H0 ρ (.BinOp a .Mult b pos) (lstd en (repS l i)) := by
  obtain ⟨h1, h2, h3⟩ := repOk_L (en := en) h
  have := eo_repO (pos := pos) ha hb h1 h2 h3
  rw [repm] at this
  exact this
theorem eo_repNm {l : List α} {i : Int} (j : Nat) {y : Str} {p1 : Pos} (hi : ρ[j]? = some (.ow (lstd en l))) (hb : Ev X H0 ρ b (.int i)) (h : repOk l i = true) (hN : X.N[j]? = some y := by rfl) (hv : Vis X.env.scope y := by first | exact Or.inl rfl | exact Or.inr (Or.inl rfl) | exact Or.inr (Or.inr rfl))
    (hd : (y == ("__debug__" : Str)) = false := by decide) (hcd : (y == ("__classdict__" : Str)) = false := by decide) : EvO X H0 ρ (.BinOp (.Name y p1) .Mult b pos) (lstd en (repS l i)) := by
  obtain ⟨h1, h2, h3⟩ := repOk_L (en := en) h
  have := eo_repN (pos := pos) (p1 := p1) j hi hb h1 h2 h3 hN hv hd hcd
  rw [repm] at this
  exact this
/-- the rows [e for ..] -/
theorem compM_len {f : α → M Bool} {g : α → M β} : ∀ {xs : List α} {ys : List β}, compM f g xs = .ok ys → ys.length ≤ xs.length
  | [], _, h => by cases h; exact Nat.le_refl _
  | x :: xs, ys, h => by
    unfold compM at h
    cases ef : f x with
    | ok b =>
      rw [ef] at h
      cases b with
      | false => exact Nat.le_succ_of_le (compM_len (by simpa using h))
      | true =>
        cases eg : g x with
        | ok y =>
          rw [eg] at h
          cases ec : compM f g xs with
          | ok zs =>
            rw [ec] at h
            simp at h
            subst h
            exact Nat.succ_le_succ (compM_len ec)
          | ex n => rw [ec] at h; simp at h
          | far => rw [ec] at h; simp at h
        | ex n => rw [eg] at h; simp at h
        | far => rw [eg] at h; simp at h
    | ex n => rw [ef] at h; simp at h
    | far => rw [ef] at h; simp at h
open Classical in
theorem compM_fn {ea : α → Dat} {eb : β → Dat} (inj : ∀ x y, ea x = ea y → x = y) {f : α → M Bool} {g : α → M β} : ∀ {xs : List α} {ys : List β}, compM f g xs = .ok ys →
    (∀ x ∈ xs, ∃ u, f x = .ok u) ∧ (∀ x ∈ xs, f x = .ok true → ∃ y, g x = .ok y) ∧
    ∀ (F : Dat → Bool) (G : Dat → Dat), (∀ x ∈ xs, f x = .ok (F (ea x))) → (∀ x ∈ xs, f x = .ok true → ∀ y, g x = .ok y → G (ea x) = eb y) → ((xs.map ea).filter F).map G = ys.map eb
  | [], _, h => by cases h; exact ⟨by simp, by simp, fun _ _ _ _ => rfl⟩
  | x :: xs, ys, h => by
    unfold compM at h
    cases ef : f x with
    | ok b =>
      rw [ef] at h
      cases b with
      | false =>
        obtain ⟨i1, i2, i3⟩ := compM_fn (ea := ea) (eb := eb) inj (xs := xs) (ys := ys) (by simpa using h)
        refine ⟨fun z hz => ?_, fun z hz hf => ?_, fun F G hF hG => ?_⟩
        · rcases List.mem_cons.mp hz with rfl | hz
          · exact ⟨false, ef⟩
          · exact i1 z hz
        · rcases List.mem_cons.mp hz with rfl | hz
          · rw [ef] at hf; cases hf
          · exact i2 z hz hf
        · have e1 : F (ea x) = false := by have := hF x List.mem_cons_self; rw [ef] at this; exact (M.ok.inj this).symm
          rw [List.map_cons, List.filter_cons, if_neg (by rw [e1]; decide)]
          exact i3 F G (fun z hz => hF z (List.mem_cons_of_mem _ hz)) (fun z hz => hG z (List.mem_cons_of_mem _ hz))
      | true =>
        cases eg : g x with
        | ok y =>
          rw [eg] at h
          cases ec : compM f g xs with
          | ok zs =>
            rw [ec] at h
            simp at h
            subst h
            obtain ⟨i1, i2, i3⟩ := compM_fn (ea := ea) (eb := eb) inj ec
            refine ⟨fun z hz => ?_, fun z hz hf => ?_, fun F G hF hG => ?_⟩
            · rcases List.mem_cons.mp hz with rfl | hz
              · exact ⟨true, ef⟩
              · exact i1 z hz
            · rcases List.mem_cons.mp hz with rfl | hz
              · exact ⟨y, eg⟩
              · exact i2 z hz hf
            · have e1 : F (ea x) = true := by have := hF x List.mem_cons_self; rw [ef] at this; exact (M.ok.inj this).symm
              rw [List.map_cons, List.filter_cons, if_pos e1, List.map_cons, List.map_cons, hG x List.mem_cons_self ef y eg, i3 F G (fun z hz => hF z (List.mem_cons_of_mem _ hz)) (fun z hz => hG z (List.mem_cons_of_mem _ hz))]
          | ex n => rw [ec] at h; simp at h
          | far => rw [ec] at h; simp at h
        | ex n => rw [eg] at h; simp at h
        | far => rw [eg] at h; simp at h
    | ex n => rw [ef] at h; simp at h
    | far => rw [ef] at h; simp at h
open Classical in
/-- .. as functions of the data -/
theorem compM_get {ea : α → Dat} {eb : β → Dat} (inj : ∀ x y, ea x = ea y → x = y) {f : α → M Bool} {g : α → M β} {xs : List α} {ys : List β} (h : compM f g xs = .ok ys) :
    ∃ (F : Dat → Bool) (G : Dat → Dat), ((xs.map ea).filter F).map G = ys.map eb ∧ (∀ d ∈ xs.map ea, ∃ x, d = ea x ∧ f x = .ok (F d) ∧ (F d = true → ∃ y, g x = .ok y ∧ G d = eb y)) := by
  obtain ⟨i1, i2, i3⟩ := compM_fn (ea := ea) (eb := eb) inj h
  let F : Dat → Bool := fun d => if q : ∃ x, d = ea x ∧ ∃ u, f x = .ok u then Classical.choose (Classical.choose_spec q).2 else false
  let G : Dat → Dat := fun d => if q : ∃ x, d = ea x ∧ ∃ y, g x = .ok y then eb (Classical.choose (Classical.choose_spec q).2) else .non
  have hF : ∀ x u, f x = .ok u → F (ea x) = u := fun x u hu => by
    have q : ∃ z, ea x = ea z ∧ ∃ u, f z = .ok u := ⟨x, rfl, u, hu⟩
    show (if q : ∃ z, ea x = ea z ∧ ∃ u, f z = .ok u then Classical.choose (Classical.choose_spec q).2 else false) = u
    rw [dif_pos q]
    have e := inj _ _ (Classical.choose_spec q).1
    have h2 := Classical.choose_spec (Classical.choose_spec q).2
    exact M.ok.inj (((hu.symm.trans (congrArg f e)).trans h2).symm)
  have hG : ∀ x y, g x = .ok y → G (ea x) = eb y := fun x y hy => by
    have q : ∃ z, ea x = ea z ∧ ∃ u, g z = .ok u := ⟨x, rfl, y, hy⟩
    show (if q : ∃ z, ea x = ea z ∧ ∃ u, g z = .ok u then eb (Classical.choose (Classical.choose_spec q).2) else .non) = eb y
    rw [dif_pos q]
    have e := inj _ _ (Classical.choose_spec q).1
    have h2 := Classical.choose_spec (Classical.choose_spec q).2
    exact congrArg eb (M.ok.inj (((hy.symm.trans (congrArg g e)).trans h2).symm))
  refine ⟨F, G, i3 F G (fun x hx => ?_) (fun x hx _ y hy => hG x y hy), fun d hd => ?_⟩
  · obtain ⟨u, hu⟩ := i1 x hx
    rw [hF x u hu, hu]
  · obtain ⟨x, hx, rfl⟩ := List.mem_map.mp hd
    obtain ⟨u, hu⟩ := i1 x hx
    refine ⟨x, rfl, by rw [hF x u hu, hu], fun hT => ?_⟩
    rw [hF x u hu] at hT
    subst hT
    obtain ⟨y, hy⟩ := i2 x hx hu
    exact ⟨y, hy, hG x y hy⟩
theorem eo_compM {elt tg iter : Expr} {ifs : List Expr} {scope : Scope} {xn : Str} {ea : α → Dat} {eb : β → Dat} {xs : List α} {ys : List β} {f : α → M Bool} {g : α → M β} (i : Nat) {pos : Pos} (inj : ∀ x y, ea x = ea y → x = y) (hc : X.calm = true) (nd : X.N.Nodup) (hi : Iter X H0 ρ tg iter (xs.map ea)) (ok : blkC X.N X.env.scope scope [(xn, i)] = true) (hx : ρ[i]? = some .no)
    (htg : ∀ (s : Shared) (H : Hp) (C : Addr) (cl : List (Str × Addr)) (fp : List Addr), PG (X.blk s H scope (compEnvC scope cl C X.env) fp) tg (gName i)) (h : compM f g xs = .ok ys)
    (hif : (ifs = [] ∧ ∀ x, f x = .ok true) ∨ ∃ c, ifs = [c] ∧ ∀ (H0' : Hp) (s : Shared) (H : Hp) (C : Addr) (cl : List (Str × Addr)) (fp : List Addr), ∀ x, EtM (X.blk s H scope (compEnvC scope cl C X.env) fp) H0' (ρ.set i (.im (ea x))) c (f x))
    (hel : ∀ (H0' : Hp) (s : Shared) (H : Hp) (C : Addr) (cl : List (Str × Addr)) (fp : List Addr), Same H0 H0' → ∀ x, EvM (X.blk s H scope (compEnvC scope cl C X.env) fp) H0' (ρ.set i (.im (ea x))) elt eb (g x))
    (hz : lenLt xs = true) (hs : ∀ x, foldedSetIterable iter X.env x = pure x := by intro _; rfl) : EvO X H0 ρ (.ListComp elt [⟨tg, iter, ifs, 0⟩] scope pos) (lstd eb ys) := by
  obtain ⟨F, G, e, q⟩ := compM_get (eb := eb) inj h
  have := eo_comp (X := X) (H0 := H0) (ρ := ρ) (elt := elt) (tg := tg) (iter := iter) (ifs := ifs) (scope := scope) (xn := xn) (pos := pos) i hc nd hi ok hx F G htg (by
    rcases hif with ⟨h1, h2⟩ | ⟨c, h1, h2⟩
    · refine .inl ⟨h1, fun d hd => ?_⟩
      obtain ⟨x, rfl, q1, _⟩ := q d hd
      rw [h2 x] at q1
      exact (M.ok.inj q1).symm
    · refine .inr ⟨c, h1, fun H0' s H C cl fp hs d hd => ?_⟩
      obtain ⟨x, rfl, q1, _⟩ := q d hd
      exact etm_get (h2 H0' s H C cl fp x) q1) (fun H0' s H C cl fp hs d hd hF => by
      obtain ⟨x, rfl, q1, q2⟩ := q d hd
      obtain ⟨y, q3, q4⟩ := q2 hF
      rw [q4]
      exact evm_get (hel H0' s H C cl fp hs x) q3) (lenLt_m hz) hs
  rw [e] at this
  exact this
theorem xm_setLcM {f2 : List β → M γ} {elt tg iter : Expr} {ifs : List Expr} {scope : Scope} {xn y : Str} {ea : α → Dat} {eb : β → Dat} {xs : List α} {f : α → M Bool} {g : α → M β} (j0 : Nat) (i : Nat) {pos py spos : Pos} (inj : ∀ x y, ea x = ea y → x = y) (hc : X.calm = true) (nd : X.N.Nodup) (hi : Iter X H0 ρ tg iter (xs.map ea)) (ok : blkC X.N X.env.scope scope [(xn, i)] = true) (hx : ρ[i]? = some .no)
    (htg : ∀ (s : Shared) (H : Hp) (C : Addr) (cl : List (Str × Addr)) (fp : List Addr), PG (X.blk s H scope (compEnvC scope cl C X.env) fp) tg (gName i))
    (hif : (ifs = [] ∧ ∀ x, f x = .ok true) ∨ ∃ c, ifs = [c] ∧ ∀ (H0' : Hp) (s : Shared) (H : Hp) (C : Addr) (cl : List (Str × Addr)) (fp : List Addr), ∀ x, EtM (X.blk s H scope (compEnvC scope cl C X.env) fp) H0' (ρ.set i (.im (ea x))) c (f x))
    (hel : ∀ (H0' : Hp) (s : Shared) (H : Hp) (C : Addr) (cl : List (Str × Addr)) (fp : List Addr), Same H0 H0' → ∀ x, EvM (X.blk s H scope (compEnvC scope cl C X.env) fp) H0' (ρ.set i (.im (ea x))) elt eb (g x))
    (hz : lenLt xs = true) (tt : ∀ ys, ExM X H0 (ρ.set j0 (.ow (lstd eb ys))) k rest D (f2 ys)) (hs : ∀ x, foldedSetIterable iter X.env x = pure x := by intro _; rfl) (hy : X.N[j0]? = some y := by rfl) (hyl : X.env.scope.names.lookup y = some .local := by rfl)
    (hsw : swapsWith (.ListComp elt [⟨tg, iter, ifs, 0⟩] scope pos) (some (.Name y py)) spos.line X.env = pure true := by rfl) :
    ExM X H0 ρ k (.Assign [.Name y py] (.ListComp elt [⟨tg, iter, ifs, 0⟩] scope pos) spos :: rest) D (M.bind (M.nox (compM f g xs)) f2) := by
  cases h : compM f g xs with
  | ok ys =>
    obtain ⟨F, G, e, q⟩ := compM_get (eb := eb) inj h
    have := sx_setLc (X := X) (H0 := H0) (ρ := ρ) (ρ1 := ρ.set j0 (.ow (lstd eb ys))) (elt := elt) (tg := tg) (iter := iter) (ifs := ifs) (scope := scope) (xn := xn) (pos := pos) (spos := spos) (py := py) (y := y) j0 i hc nd hi ok hx F G htg (by
      rcases hif with ⟨h1, h2⟩ | ⟨c, h1, h2⟩
      · refine .inl ⟨h1, fun d hd => ?_⟩
        obtain ⟨x, rfl, q1, _⟩ := q d hd
        rw [h2 x] at q1
        exact (M.ok.inj q1).symm
      · refine .inr ⟨c, h1, fun H0' s H C cl fp hs d hd => ?_⟩
        obtain ⟨x, rfl, q1, _⟩ := q d hd
        exact etm_get (h2 H0' s H C cl fp x) q1) (fun H0' s H C cl fp hs d hd hF => by
        obtain ⟨x, rfl, q1, q2⟩ := q d hd
        obtain ⟨y, q3, q4⟩ := q2 hF
        rw [q4]
        exact evm_get (hel H0' s H C cl fp hs x) q3) (lenLt_m hz) (by rw [e]) hs hy hyl hsw
    exact xm_then this (tt ys)
  | ex n => trivial
  | far => trivial
/-! ### assignments -/
theorem xm_set {en : β → Dat} {v : β} {f : β → M γ} (i : Nat) {x : Str} {pos' : Pos} (h : Ev X H0 ρ e (en v)) (nd : X.N.Nodup) (t : ∀ x, ExM X H0 (ρ.set i (.im (en x))) k rest D (f x)) (hi : X.N[i]? = some x := by rfl) (hx : Loc X.env.scope x := by first | exact Or.inl rfl | exact Or.inr rfl)
    (hs : swapsWith e (some (.Name x pos')) pos.line X.env = pure false := by rfl) (hf : X.fn x = true ∨ X.env.scope.names.lookup x = some .local := by first | exact .inl rfl | exact .inr rfl | assumption) : ExM X H0 ρ k (.Assign [.Name x pos'] e pos :: rest) D (M.lt v f) := xm_then (sx_set i h nd rfl hi hx hs hf) (t v)
theorem xm_setO {en : β → Dat} {v : β} {f : β → M γ} (i : Nat) {x : Str} {pos' : Pos} (h : EvO X H0 ρ e (en v)) (nd : X.N.Nodup) (t : ∀ x, ExM X H0 (ρ.set i (.ow (en x))) k rest D (f x)) (hi : X.N[i]? = some x := by rfl) (hx : Loc X.env.scope x := by first | exact Or.inl rfl | exact Or.inr rfl)
    (hs : swapsWith e (some (.Name x pos')) pos.line X.env = pure false := by rfl) (hf : X.fn x = true ∨ X.env.scope.names.lookup x = some .local := by first | exact .inl rfl | exact .inr rfl | assumption) : ExM X H0 ρ k (.Assign [.Name x pos'] e pos :: rest) D (M.lt v f) := xm_then (sx_setO i h nd rfl hi hx hs hf) (t v)
theorem xm_asg {en : β → Dat} {v : β} {f : β → M γ} {t : Expr} {ok : Dat → Prop} {bd : Dat → Env' → Env'} (h : Ev X H0 ρ e (en v)) (hg : Tgt X H0 t ok bd) (hok : ∀ r, ok (en r)) (tt : ∀ r, ExM X H0 (bd (en r) ρ) k rest D (f r)) (hs : swapsWithSole [t] e pos.line X.env = pure false := by rfl) (hw : swappedStores [t] e X.env = pure none := by rfl)
    (h1 : (assignEach [t] X.env).map (·.2) = [assign t X.env] := by rfl) : ExM X H0 ρ k (.Assign [t] e pos :: rest) D (M.lt v f) := xm_then (sx_asg h hg (hok v) rfl hs hw h1) (tt v)
theorem xm_par {ea : α → Dat} {eb : β → Dat} {v : α} {u : β} {f : α → β → M γ} (i j : Nat) {y z : Str} {px py pt : Pos} {kt k2 pt2} (ha : Ev X H0 ρ a (ea v)) (hb : Ev X H0 ρ b (eb u)) (nd : X.N.Nodup) (hc : X.calm = true) (hij : i ≠ j) (tt : ∀ v u, ExM X H0 ((ρ.set i (.im (ea v))).set j (.im (eb u))) k rest D (f v u)) (hi : X.N[i]? = some y := by rfl) (hj : X.N[j]? = some z := by rfl)
    (hx : X.env.scope.names.lookup y = some .local := by rfl) (hy : X.env.scope.names.lookup z = some .local := by rfl) (hw : swappedStores [.Tuple [.Name y px, .Name z py] kt pt] (.Tuple [a, b] k2 pt2) X.env = pure (some [y, z]) := by rfl)
    (hs : swapsWithSole [.Tuple [.Name y px, .Name z py] kt pt] (.Tuple [a, b] k2 pt2) pos.line X.env = pure false := by rfl) (h1 : starEach [a, b] X.env = (false, eval a X.env) :: starEach [b] X.env := by rfl) (h2 : starEach [b] X.env = (false, eval b X.env) :: starEach [] X.env := by rfl) :
    ExM X H0 ρ k (.Assign [.Tuple [.Name y px, .Name z py] kt pt] (.Tuple [a, b] k2 pt2) pos :: rest) D (M.lt (v, u) fun q => f q.1 q.2) := xm_then (sx_par i j ha hb nd hc hij rfl hi hj hx hy hw hs h1 h2) (tt v u)
theorem xm_append {en : β → Dat} {l : List β} {v : β} {f : List β → M γ} (i : Nat) {y : Str} {p1 p2 p3 : Pos} (hi : ρ[i]? = some (.ow (lstd en l))) (h : Ev X H0 ρ e (en v)) (hz : lenLt l = true) (tt : ∀ l, ExM X H0 (ρ.set i (.ow (lstd en l))) k rest D (f l)) (hN : X.N[i]? = some y := by rfl) (hv : Vis X.env.scope y := by first | exact Or.inl rfl | exact Or.inr (Or.inl rfl) | exact Or.inr (Or.inr rfl))
    (hd : (y == ("__debug__" : Str)) = false := by decide) (hcd : (y == ("__classdict__" : Str)) = false := by decide)
    (hpe : ∀ to t, PE X (.Name y p1) to → PA X [e] t → PE X (.Call (.Attribute (.Name y p1) "append" p2) [e] [] p3) (tBM X.K "list" rAppend to t) := by exact fun _ _ h g => pe_bm PySem.F.plainAttrs_list PySem.F.slot_list_append PySem.F.type_list_append mt_append h g)
    (he : starEach [e] X.env = (false, eval e X.env) :: starEach [] X.env := by rfl) (hs : swapsWith (.Call (.Attribute (.Name y p1) "append" p2) [e] [] p3) none pos.line X.env = pure false := by rfl) :
    ExM X H0 ρ k (.Expr (.Call (.Attribute (.Name y p1) "append" p2) [e] [] p3) pos :: rest) D (M.lt (l ++ [v]) f) := by
  have h0 := sx_append (pos := pos) (p1 := p1) (p2 := p2) (p3 := p3) i hi h (lenLt_m hz) rfl hN hv hd hcd hpe he hs
  have t1 := tt (l ++ [v])
  unfold lstd at t1
  rw [List.map_append] at t1
  exact xm_then h0 t1
theorem xm_augI {v u : Int} {f : Int → M γ} (i : Nat) {y : Str} {pos' : Pos} (hi : ρ[i]? = some (.im (.int v))) (h : Ev X H0 ρ e (.int u)) (nd : X.N.Nodup) (tt : ∀ x, ExM X H0 (ρ.set i (.im (.int x))) k rest D (f x)) (hN : X.N[i]? = some y := by rfl) (hx : Loc X.env.scope y := by first | exact Or.inl rfl | exact Or.inr rfl)
    (hp : ∀ te, PE X e te → PS X (.AugAssign (.Name y pos') .Add e pos) (tAug i te (ipI fun i j => i + j)) := by exact fun te h => ps_aug (by assumption) rfl (by first | exact Or.inl rfl | exact Or.inr rfl) h ip_add) :
    ExM X H0 ρ k (.AugAssign (.Name y pos') .Add e pos :: rest) D (M.lt (v + u) f) := xm_then (sx_augI i hi h nd rfl hN hx hp) (tt (v + u))
/-- l[i] = v -/
def setI {α : Type} (l : List α) (i : Int) (v : α) : Option (List α) := (ixN l.length i).map fun j => l.set j v
theorem xm_setIx {en : β → Dat} {l l2 : List β} {v : β} {f : List β → M γ} {u : Int} (i : Nat) {y : Str} {p1 p2 : Pos} {ix : Expr} (hi : ρ[i]? = some (.ow (lstd en l))) (hv : Ev X H0 ρ e (en v)) (hx : Ev X H0 ρ ix (.int u)) (hj : setI l u v = some l2) (tt : ∀ l, ExM X H0 (ρ.set i (.ow (lstd en l))) k rest D (f l)) (hN : X.N[i]? = some y := by rfl)
    (hvis : Vis X.env.scope y := by first | exact Or.inl rfl | exact Or.inr (Or.inl rfl) | exact Or.inr (Or.inr rfl)) (hd : (y == ("__debug__" : Str)) = false := by decide) (hcd : (y == ("__classdict__" : Str)) = false := by decide)
    (hp : ∀ te to ti, PE X e te → PE X (.Name y p1) to → PE X ix ti → PS X (.Assign [.Subscript (.Name y p1) ix p2] e pos) (tAsg te (gSub to ti rSetL)) := by exact fun te to ti h g f => ps_asg h (pg_sub g f set_list)) :
    ExM X H0 ρ k (.Assign [.Subscript (.Name y p1) ix p2] e pos :: rest) D (M.lt l2 f) := by
  unfold setI at hj
  obtain ⟨j, hj1, hj2⟩ := Option.map_eq_some_iff.mp hj
  have h0 := sx_setIx (pos := pos) (p1 := p1) (p2 := p2) i hi hv hx (by rw [List.length_map]; exact hj1) rfl hN hvis hd hcd hp
  have t1 := tt l2
  unfold lstd at t1
  rw [← hj2, List.map_set] at t1
  rw [M.lt, ← hj2]
  exact xm_then h0 t1
/-- l[i] += v -/
theorem xm_augIx {l l2 : List Int} {f : List Int → M γ} {j w u : Int} (i : Nat) {y : Str} {p1 p2 : Pos} {ix : Expr} (hi : ρ[i]? = some (.ow (lstd Dat.int l))) (hx : Ev X H0 ρ ix (.int j)) (h0 : decide (0 ≤ j) = true) (hj : atI l j = some w) (hv : Ev X H0 ρ e (.int u)) (hl : setI l j (w + u) = some l2) (tt : ∀ l, ExM X H0 (ρ.set i (.ow (lstd Dat.int l))) k rest D (f l)) (hN : X.N[i]? = some y := by rfl)
    (hvis : Vis X.env.scope y := by first | exact Or.inl rfl | exact Or.inr (Or.inl rfl) | exact Or.inr (Or.inr rfl)) (hd : (y == ("__debug__" : Str)) = false := by decide) (hcd : (y == ("__classdict__" : Str)) = false := by decide)
    (hp : ∀ te to ti, PE X e te → PE X (.Name y p1) to → PE X ix ti → PS X (.AugAssign (.Subscript (.Name y p1) ix p2) .Add e pos) (tAugS to ti te rGetL (ipI fun i j => i + j) rSetL) := by exact fun te to ti h g f => ps_augS g f get_list h ip_add set_list) :
    ExM X H0 ρ k (.AugAssign (.Subscript (.Name y p1) ix p2) .Add e pos :: rest) D (M.lt l2 f) := by
  have h0 := of_decide_eq_true h0
  obtain ⟨q, rfl⟩ := Int.eq_ofNat_of_zero_le h0
  unfold setI at hl
  obtain ⟨q2, hj1, hj2⟩ := Option.map_eq_some_iff.mp hl
  have e1 : q2 = q ∧ q < l.length := by
    unfold ixN at hj1
    rw [if_pos (by omega)] at hj1
    split at hj1
    · have := Option.some.inj hj1
      rw [Int.toNat_natCast] at this
      omega
    · cases hj1
  obtain ⟨rfl, e2⟩ := e1
  have hg : (l.map Dat.int)[q2]? = some (.int w) := by
    unfold atI at hj
    rw [hj1] at hj
    rw [List.getElem?_map, show l[q2]? = some w from hj]
    rfl
  have h1 := sx_augIx (pos := pos) (p1 := p1) (p2 := p2) i hi hx hg hv rfl hN hvis hd hcd hp
  have t1 := tt l2
  unfold lstd at t1
  rw [← hj2, List.map_set] at t1
  rw [M.lt, ← hj2]
  exact xm_then h1 t1
/-! ### walks -/
theorem itm_r1 {j : Int} {t : Expr} {p : Pos} (h : Ev X H0 ρ a (.int j)) (bb : rngOk 0 j = true) (hm : X.mg "range" = none) (hg : Gl X "range" := by rfl) (hs : starEach [a] X.env = [(false, eval a X.env)] := by rfl) : Iter X H0 ρ t (.Call (.Name "range" p) [a] [] pos) ((rng 0 1 j.toNat).map Dat.int) := by
  obtain ⟨_, _, b1, b2⟩ := rngOk_ok bb
  have := it_range1 (pos := pos) (p := p) (t := t) h b1 b2 hm hg hs
  rw [rng_steps] at this
  exact this
theorem itm_r2 {i j : Int} {t : Expr} {p : Pos} (h : Ev X H0 ρ a (.int i)) (h2 : Ev X H0 ρ b (.int j)) (bb : rngOk i j = true) (hm : X.mg "range" = none) (hg : Gl X "range" := by rfl)
    (hs : starEach [a, b] X.env = [(false, eval a X.env), (false, eval b X.env)] := by rfl) (hs2 : starEach [b] X.env = [(false, eval b X.env)] := by rfl) : Iter X H0 ρ t (.Call (.Name "range" p) [a, b] [] pos) ((rng i 1 (j - i).toNat).map Dat.int) := by
  have := it_range2 (pos := pos) (p := p) (t := t) h h2 (rngOk_ok bb) hm hg hs hs2
  rw [rng_steps] at this
  exact this
/-- range(i, j, -1) -/
theorem itm_rdn {i j : Int} {t : Expr} {p : Pos} (h : Ev X H0 ρ a (.int i)) (h2 : Ev X H0 ρ b (.int j)) (h3 : Ev X H0 ρ c (.int (-1))) (bb : rngOk i j = true) (hm : X.mg "range" = none) (hg : Gl X "range" := by rfl)
    (hs : ∀ l, PA X [a, b, c] l → PI X t (.Call (.Name "range" p) [a, b, c] [] pos) (iRng3 l)) (s1 : starEach [a, b, c] X.env = (false, eval a X.env) :: starEach [b, c] X.env := by rfl) (s2 : starEach [b, c] X.env = (false, eval b X.env) :: starEach [c] X.env := by rfl) (s3 : starEach [c] X.env = (false, eval c X.env) :: starEach [] X.env := by rfl) : Iter X H0 ρ t (.Call (.Name "range" p) [a, b, c] [] pos) ((rng i (-1) (i - j).toNat).map Dat.int) := by
  obtain ⟨b1, b2, b3, b4⟩ := rngOk_ok bb
  have := it_range3 (pos := pos) (p := p) (t := t) h h2 h3 (RgC.neg b1 b2 b3 b4) hm hg hs s1 s2 s3
  rw [rng_steps] at this
  exact this
@[irreducible] noncomputable def stepOk (i j c : Int) : Bool := cl (0 < c ∧ c < 1073741824 ∧ -(2 ^ 39) ≤ i ∧ i ≤ 2 ^ 39 ∧ -(2 ^ 39) ≤ j ∧ j ≤ 2 ^ 39)
def stepN (i j c : Int) : Nat := if i < j then ((j - i - 1) / c + 1).toNat else 0
/-- range(i, j, c), c above 0 -/
theorem itm_rup {i j c' : Int} {t : Expr} {p : Pos} (h : Ev X H0 ρ a (.int i)) (h2 : Ev X H0 ρ b (.int j)) (h3 : Ev X H0 ρ c (.int c')) (bb : stepOk i j c' = true) (hm : X.mg "range" = none) (hg : Gl X "range" := by rfl)
    (hs : ∀ l, PA X [a, b, c] l → PI X t (.Call (.Name "range" p) [a, b, c] [] pos) (iRng3 l)) (s1 : starEach [a, b, c] X.env = (false, eval a X.env) :: starEach [b, c] X.env := by rfl) (s2 : starEach [b, c] X.env = (false, eval b X.env) :: starEach [c] X.env := by rfl) (s3 : starEach [c] X.env = (false, eval c X.env) :: starEach [] X.env := by rfl) : Iter X H0 ρ t (.Call (.Name "range" p) [a, b, c] [] pos) ((rng i c' (stepN i j c')).map Dat.int) := by
  unfold stepOk at bb
  obtain ⟨b1, b2, b3, b4, b5, b6⟩ := cl_of bb
  have hn : ((stepN i j c' : Nat) : Int) = if i < j then (j - i - 1) / c' + 1 else 0 := by
    unfold stepN
    split
    · have : 0 ≤ (j - i - 1) / c' := Int.ediv_nonneg (by omega) (by omega)
      omega
    · rfl
  have := it_range3 (pos := pos) (p := p) (t := t) h h2 h3 (rgc_pos b1 b2 b3 b4 b5 b6 hn) hm hg hs s1 s2 s3
  rw [rng_steps] at this
  exact this
theorem itm_ol {l : List α} (f : ∀ a, flat (en a) = true) (i : Nat) {t : Expr} {x : Str} (h : ρ[i]? = some (.ol (lstd en l))) (hN : X.N[i]? = some x := by rfl) (hv : Vis X.env.scope x := by first | exact Or.inl rfl | exact Or.inr (Or.inl rfl) | exact Or.inr (Or.inr rfl)) (hd : (x == ("__debug__" : Str)) = false := by decide)
    (hcd : (x == ("__classdict__" : Str)) = false := by decide) : Iter X H0 ρ t (.Name x pos) (l.map en) := it_ol i h (flats_map f l) hN hv hd hcd
end
end B

namespace B
open PySem PySem.Spec PyProof.Rows L2
section
variable {S S' L R α : Type}
def M.seqN (m : M (Fl S L Empty)) (k : S → M α) : M α := match m with
  | .ok (.nx s) => k s
  | .ex n => .ex n
  | _ => .far
@[simp] theorem M.seqN_nx (s : S) (k : S → M α) : (M.ok (Fl.nx s : Fl S L Empty)).seqN k = k s := id rfl
end
/-- what data are -/
def strOf : Dat → Option (List Nat)
  | .str s => some s.cps.toList
  | _ => none
theorem strOf_ok {d : Dat} {l : List Nat} (h : strOf d = some l) : d = tx l := by
  cases d <;> simp [strOf] at h
  subst h
  rfl
@[simp] theorem strOf_tx (l : List Nat) : strOf (tx l) = some l := id rfl
def intOf : Dat → Option Int
  | .int i => some i
  | _ => none
theorem intOf_ok {d : Dat} {i : Int} (h : intOf d = some i) : d = .int i := by
  cases d <;> simp [intOf] at h
  subst h
  rfl
@[simp] theorem intOf_int (i : Int) : intOf (.int i) = some i := id rfl
def tupOf : Dat → Option (List Dat)
  | .tup ds => some ds
  | _ => none
theorem tupOf_ok {d : Dat} {l : List Dat} (h : tupOf d = some l) : d = tpnd idd l := by
  cases d <;> simp [tupOf] at h
  subst h
  simp [tpnd]
def datIx (d : Dat) (i : Int) : Option Dat := match d with
  | .tup ds => atI ds i
  | .lst ds => atI ds i
  | _ => none
abbrev fndX (l m : List Nat) : Int := Txt.find (SX.S l) (SX.S m)
abbrev cntX (l m : List Nat) : Int := Txt.count (SX.S l) (SX.S m)
theorem fndX_one {l : List Nat} {c : Nat} (h : c ∈ l) : fndX l [c] = ((l.idxOf c : Nat) : Int) := find_one h
theorem cntX_one (l : List Nat) (c : Nat) : cntX l [c] = ((l.count c : Nat) : Int) := count_one l c
@[irreducible] noncomputable def joinOk (l : List Nat) (yss : List (List Nat)) : Bool := cl ((yss.map (·.length)).sum + yss.length * l.length ≤ 16777216)
theorem joinOk_ok {l : List Nat} {yss : List (List Nat)} (h : joinOk l yss = true) : (yss.map (·.length)).sum + yss.length * l.length ≤ 16777216 := by unfold joinOk at h; exact cl_of h
/-- sep.join of signs -/
def joinC (l : List Nat) (cs : List Nat) : List Nat := TL.joinL l (cs.map fun c => [c])
noncomputable def joinOkC (l : List Nat) (cs : List Nat) : Bool := joinOk l (cs.map fun c => [c])
section
variable {X : Cx} {H0 : Hp} {ρ ρ0 ρ1 ρ2 : Env'} {α β γ S S' L L' R : Type} {a b c e t iter : Expr} {es : List Expr} {st : Stmt} {sts rest body : List Stmt} {d d1 d2 : Dat} {ds : List Dat} {p pos : Pos} {o o1 : Outc} {x n : Str} {k : Nat} {D : γ → Outc} {m : M α} {en : α → Dat}
theorem eom_get {v : α} (h : EoM X H0 ρ e en m) (q : m = .ok v) : EvO X H0 ρ e (en v) := by subst q; exact h
theorem evm_call0 {R : List Dat → Res → Prop} {kk : Nat} (G : GFn X.prog X.w X.K X.mg X.base x kk R) (hr : Room kk X.A) (q : ∀ o, Rm en m o → R [] o) (hg : Gl X x := by rfl) (hdb : (x == ("__debug__" : Str)) = false := by decide) : EvM X H0 ρ (.Call (.Name x p) [] [] pos) en m.nox := by
  cases m with
  | ok v => exact ev_call0 G hr (q _ rfl) hg hdb
  | ex n => trivial
  | far => trivial
theorem ev_datIx {v : Dat} {i : Int} (ha : Ev X H0 ρ a d) (hb : Ev X H0 ρ b (.int i)) (h : datIx d i = some v) (hs : PlainIx b := by exact fun _ _ => rfl) : Ev X H0 ρ (.Subscript a b pos) v := by
  cases d with
  | tup ds => exact ev_ixT ha hb h hs
  | lst ds => exact ev_ixL ha hb h hs
  | _ => cases h
theorem eb_datIx {v : Dat} {i : Int} (ha : EvB X H0 ρ a d) (hb : Ev X H0 ρ b (.int i)) (h : datIx d i = some v) (hs : PlainIx b := by exact fun _ _ => rfl) : EvB X H0 ρ (.Subscript a b pos) v := by
  cases d with
  | tup ds => exact eb_ixT ha hb h hs
  | lst ds => exact eb_ixL ha hb h hs
  | _ => cases h
theorem it_tupD {l : List Dat} (h : Ev X H0 ρ e d) (q : tupOf d = some l) : Iter X H0 ρ t e (l.map idd) := by
  rw [tupOf_ok q] at h
  exact it_tup h
theorem optd_isN (o : Option α) : isNon (optd en o) = isNon (optd en o) := rfl
/-! ### constants of the module -/
theorem ev_cstI {i : Int} (h : ∃ t, X.mg x = some (.int i t)) (hg : Gl X x := by rfl) (hd : (x == ("__debug__" : Str)) = false := by decide) : Ev X H0 ρ (.Name x pos) (.int i) := fun σ H N r => by
  obtain ⟨t, h⟩ := h
  exact we_of (pe_glob (v := .int i) hg h ⟨_, rfl⟩ hd) ⟨N, Same.refl _, Same.refl _, r, .int _⟩
theorem ev_cstS {l : List Nat} (h : ∃ t, X.mg x = some (.str (SX.S l) t)) (hg : Gl X x := by rfl) (hd : (x == ("__debug__" : Str)) = false := by decide) : Ev X H0 ρ (.Name x pos) (tx l) := fun σ H N r => by
  obtain ⟨t, h⟩ := h
  exact we_of (pe_glob (v := .str (SX.S l)) hg h ⟨_, rfl⟩ hd) ⟨N, Same.refl _, Same.refl _, r, .str _⟩
/-! ### flows without return -/
theorem ex_flowN {eS : S → Env'} {eL : L → Env'} {oR : Empty → Outc} {mf : M (Fl S L Empty)} {f : S → M γ} (h : ExSM X H0 ρ k st (Fl.D eS eL oR) mf) (tt : ∀ s, ExM X H0 (eS s) k rest D (f s)) : ExM X H0 ρ k (st :: rest) D (M.seqN mf f) := by
  cases mf with
  | ok v =>
    cases v with
    | nx s => exact xm_then h (tt s)
    | ct s => trivial
    | bk s => trivial
    | rt r => exact nomatch r
  | ex n => exact ex_out (o := .ex n (List.replicate k .no)) h trivial
  | far => trivial
section
variable {ea : β → Dat} {bd : Dat → Env' → Env'} {ok : Dat → Prop}
theorem xm_forN {eS : S → Env'} {xs : List β} {s0 : S} {f : β → S → M (Fl S S Empty)} {fk : S → M γ} (hp : PassesOwn (model X.prog X.w) X.A X.env X.xe) (hc : X.calm = true) (hi : Iter X H0 ρ t iter (xs.map ea)) (hg : Tgt X H0 t ok bd) (hok : ∀ d ∈ xs.map ea, ok d) (h0 : ρ = eS s0) (hb : ∀ x s, ExM X H0 (bd (ea x) (eS s)) k body (Fl.D eS eS (fun (r : Empty) => nomatch r)) (f x s)) (tt : ∀ s, ExM X H0 (eS s) k rest D (fk s))
    (hs : ∀ x, foldedSetIterable iter X.env x = pure x := by intro _; rfl) : ExM X H0 ρ k (.For t iter body [] pos :: rest) D (M.seqN (forF f xs s0 : M (Fl S S Empty)) fk) := ex_flowN (eL := eS) (sx_forM (fun r => nomatch r) hp hc hi hg hok h0 hb hs) tt
end
theorem xm_whileN {eS : S → Env'} {s0 : S} {cm : S → M Bool} {f : S → M (Fl S S Empty)} {fk : S → M γ} {fuel : Nat} (hp : PassesOwn (model X.prog X.w) X.A X.env X.xe) (h0 : ρ = eS s0) (hc : ∀ s, EtM X H0 (eS s) c (cm s)) (hb : ∀ s, ExM X H0 (eS s) k body (Fl.D eS eS (fun (r : Empty) => nomatch r)) (f s)) (tt : ∀ s, ExM X H0 (eS s) k rest D (fk s)) :
    ExM X H0 ρ k (.While c body [] pos :: rest) D (M.seqN (whileF cm f fuel s0 : M (Fl S S Empty)) fk) := ex_flowN (eL := eS) (sx_whileM (fun r => nomatch r) hp h0 hc hb) tt
theorem xm_par2 {ea : α → Dat} {eb : β → Dat} {v : α} {u : β} {f : α × β → M γ} (i j : Nat) {y z : Str} {px py pt : Pos} {kt k2 pt2} (ha : Ev X H0 ρ a (ea v)) (hb : Ev X H0 ρ b (eb u)) (nd : X.N.Nodup) (hc : X.calm = true) (hij : i ≠ j) (tt : ∀ q : α × β, ExM X H0 ((ρ.set i (.im (ea q.1))).set j (.im (eb q.2))) k rest D (f q)) (hi : X.N[i]? = some y := by rfl) (hj : X.N[j]? = some z := by rfl)
    (hx : X.env.scope.names.lookup y = some .local := by rfl) (hy : X.env.scope.names.lookup z = some .local := by rfl) (hw : swappedStores [.Tuple [.Name y px, .Name z py] kt pt] (.Tuple [a, b] k2 pt2) X.env = pure (some [y, z]) := by rfl)
    (hs : swapsWithSole [.Tuple [.Name y px, .Name z py] kt pt] (.Tuple [a, b] k2 pt2) pos.line X.env = pure false := by rfl) (h1 : starEach [a, b] X.env = (false, eval a X.env) :: starEach [b] X.env := by rfl) (h2 : starEach [b] X.env = (false, eval b X.env) :: starEach [] X.env := by rfl) :
    ExM X H0 ρ k (.Assign [.Tuple [.Name y px, .Name z py] kt pt] (.Tuple [a, b] k2 pt2) pos :: rest) D (M.lt (v, u) f) := xm_then (sx_par i j ha hb nd hc hij rfl hi hj hx hy hw hs h1 h2) (tt (v, u))
/-! ### further expressions -/
theorem ev_joinCm {l cs : List Nat} {apos : Pos} (ha : Ev X H0 ρ a (tx l)) (hb : EvB X H0 ρ b (lstd chd cs)) (hz : joinOkC l cs = true)
    (hs : starEach [b] X.env = [(false, eval b X.env)] := by rfl) (hbase : attributeBase a "join" X.env (eval a X.env) = eval a X.env := by rfl) (hline : (apos.endLine == pos.line) = true := by rfl) :
    Ev X H0 ρ (.Call (.Attribute a "join" apos) [b] [] pos) (tx (joinC l cs)) := ev_joinX ha (eb_to hb (by show Dat.lst (cs.map chd) = .lst ((cs.map fun c => [c]).map tx); rw [List.map_map]; rfl)) (joinOk_ok hz) hs hbase hline
/-- list + list, both new -/
theorem eo_catLm {l m : List α} (ha : EvO X H0 ρ a (lstd en l)) (hb : EvO X H0 ρ b (lstd en m)) (h : catOk l m = true) : EvO X H0 ρ (.BinOp a .Add b pos) (lstd en (l ++ m)) := fun σ H N rp =>
  we_of (pe_op op_cat pe_w pe_w) ((ha σ H N rp).imp fun v H1 ⟨N1, p1, e1, hp1, s1, n1, r1, np1, vs, g1, h2⟩ => (hb σ H1 N1 r1).imp fun w H2 ⟨N2, p2, e2, hp2, s2, n2, r2, np2, ws, g2, h4⟩ => by
    have hz := catOk_ok h
    refine ⟨p1, p2, vs, ws, e1, e2, s2 _ _ g1, g2, by rw [h2.length, h4.length, List.length_map, List.length_map]; exact hz, fun q hq => ?_⟩
    obtain ⟨r5, n5⟩ := eo_new (o := .lst (vs ++ ws)) r2 hq
    refine ⟨N2, q, rfl, (s1.trans s2).free hq, (s1.trans s2).trans (Same.of_none hq), n1.trans n2, r5, n5, vs ++ ws, upd_same, ?_⟩
    rw [List.map_append]
    exact (h2.mono n2).append h4)
/-- x += y of texts -/
theorem xm_augS {v u : List Nat} {f : List Nat → M γ} (i : Nat) {y : Str} {pos' : Pos} (hi : ρ[i]? = some (.im (tx v))) (h : Ev X H0 ρ e (tx u)) (hz : v.length + u.length ≤ sizeLine) (nd : X.N.Nodup) (tt : ∀ x, ExM X H0 (ρ.set i (.im (tx x))) k rest D (f x)) (hN : X.N[i]? = some y := by rfl) (hx : Loc X.env.scope y := by first | exact Or.inl rfl | exact Or.inr rfl)
    (hp : ∀ te, PE X e te → PS X (.AugAssign (.Name y pos') .Add e pos) (tAug i te (fun x y H Q => ∃ i j, x = .str i ∧ y = .str j ∧ i.length + j.length ≤ sizeLine ∧ Q (.str (i ++ j)) H)) := by exact fun te h => ps_aug (by assumption) rfl (by first | exact Or.inl rfl | exact Or.inr rfl) h iop_add_str) :
    ExM X H0 ρ k (.AugAssign (.Name y pos') .Add e pos :: rest) D (M.lt (v ++ u) f) := by
  refine xm_then (ρ1 := ρ.set i (.im (tx (v ++ u)))) (fun Dd σ H N r kk => ?_) (tt (v ++ u))
  obtain ⟨w, h1, h2⟩ := r.im i _ hi
  refine ws_of (hp _ pe_w) ⟨w, h1, (h σ H N r).imp fun w2 H' ⟨N', s, n, r', a⟩ => ⟨_, _, at_str h2, at_str a, by rw [SX.S_len, SX.S_len]; exact hz, kk _ H' N' n ?_⟩⟩
  rw [SX.S_cat]
  exact r'.setE (e := .im (tx _)) (.str _)
end
theorem FnOk_sub {P : Program} {w : World} {K : PySem.W.Frag} {mg : Str → Option Value} {base : Heap} {k : Nat} {f : Addr} {fd : FuncData} {ps : List Str} {R R' : List Dat → Res → Prop} (h : ∀ ds o, R' ds o → R ds o) (F : FnOk P w K mg base (L2.CX P w) k f fd ps (spR K mg R)) : FnOk P w K mg base (L2.CX P w) k f fd ps (spR K mg R') := F.imp fun vs H Q E ⟨tk, ds, o, q, r⟩ => ⟨tk, ds, o, h ds o q, r⟩
end B

namespace B
open PySem PySem.Spec PyProof.Rows L2
/-! ### plain words on mirrors -/
theorem mulOk_i {i j : Int} (m n : Nat) (h1 : i.natAbs < 2 ^ m) (h2 : j.natAbs < 2 ^ n) (h0 : 0 < m) (h0' : 0 < n) (h : m + n ≤ 1000000) : mulOk i j = true := by unfold mulOk; exact cl_i (mul_ok m n h1 h2 h0 h0' h)
theorem mulOk_l {i j : Int} (h1 : -(2 ^ 64) < i) (h2 : i < 2 ^ 64) : mulOk i j = true := by unfold mulOk; exact cl_i (mul_l h1 h2)
theorem mulOk_r {i j : Int} (h1 : -(2 ^ 64) < j) (h2 : j < 2 ^ 64) : mulOk i j = true := by unfold mulOk; exact cl_i (mul_r h1 h2)
theorem mulOk_x {i j : Int} (h : (Builtin.Int.intBits i : Int) + (Builtin.Int.intBits j : Int) ≤ 134217728) : mulOk i j = true := by unfold mulOk; exact cl_i (CMulX.ok h)
theorem divOk_i {j : Int} (h1 : 0 < j) (h2 : j.natAbs.log2 < 9000) : divOk j = true := by unfold divOk; exact cl_i ⟨h1, h2⟩
theorem fdivOk_i {j : Int} (h1 : j ≠ 0) (h2 : j.natAbs.log2 < 9000) : fdivOk j = true := by unfold fdivOk; exact cl_i ⟨h1, h2⟩
theorem shlOk_i {i j : Int} (h0 : 0 ≤ j) (h : (Builtin.Int.intBits i : Int) + j ≤ 2 ^ 27) : shlOk i j = true := by unfold shlOk; exact cl_i ⟨h0, h⟩
theorem powOk_i {i j : Int} (h : CPow i j) : powOk i j = true := by unfold powOk; exact cl_i h
theorem lenOk_i {α : Type} {l : List α} (h : l.length ≤ 16777216) : lenOk l = true := by unfold lenOk; exact cl_i h
theorem lenLt_i {α : Type} {l : List α} (h : l.length < 16777216) : lenLt l = true := by unfold lenLt; exact cl_i h
theorem catOk_i {α : Type} {l m : List α} (h : l.length + m.length ≤ 16777216) : catOk l m = true := by unfold catOk; exact cl_i h
theorem rngOk_i {i j : Int} (h1 : -(2 ^ 62) ≤ i) (h2 : i < 2 ^ 62) (h3 : -(2 ^ 62) ≤ j) (h4 : j < 2 ^ 62) : rngOk i j = true := by unfold rngOk; exact cl_i ⟨h1, h2, h3, h4⟩
theorem repOk_i {α : Type} {l : List α} {n : Int} (h1 : -100000 ≤ n) (h2 : n ≤ 100000) (h3 : l.length ≤ 100) : repOk l n = true := by unfold repOk; exact cl_i ⟨h1, h2, h3⟩
theorem log2_9000 {j : Nat} {m : Nat} (h : j < 2 ^ m) (hm : m ≤ 9000) : j.log2 < 9000 := by
  by_cases h0 : j = 0
  · rw [h0]; decide
  · have h1 : 2 ^ j.log2 ≤ j := Nat.log2_self_le h0
    have h2 : 2 ^ j.log2 < 2 ^ m := by omega
    have h4 := (Nat.pow_lt_pow_iff_right (by decide)).mp h2
    omega
section
variable {α β S S' L R : Type}
theorem forM_ix {f : α → S → M S} : ∀ {xs : List α} (st : Nat → S), (∀ i (h : i < xs.length), f xs[i] (st i) = .ok (st (i + 1))) → forM f xs (st 0) = .ok (st xs.length)
  | [], st, _ => rfl
  | x :: xs, st, h => by
    show (f x (st 0)).bind _ = _
    rw [show f x (st 0) = .ok (st 1) from h 0 (Nat.succ_pos _)]
    exact forM_ix (fun i => st (i + 1)) fun i hi => h (i + 1) (Nat.succ_lt_succ hi)
theorem forM_fold {f : α → S → M S} {g : S → α → S} {I : S → Prop} : ∀ {xs : List α} {s : S}, I s → (∀ x ∈ xs, ∀ s, I s → f x s = .ok (g s x) ∧ I (g s x)) → forM f xs s = .ok (xs.foldl g s) ∧ I (xs.foldl g s)
  | [], s, h, _ => ⟨rfl, h⟩
  | x :: xs, s, h, k => by
    obtain ⟨h1, h2⟩ := k x List.mem_cons_self s h
    show (f x s).bind _ = _ ∧ _
    rw [h1]
    exact forM_fold h2 fun y hy => k y (List.mem_cons_of_mem _ hy)
theorem rng_len (lo c : Int) (n : Nat) : (rng lo c n).length = n := by unfold rng; simp
theorem rng_get (lo c : Int) (n i : Nat) (h : i < (rng lo c n).length) : (rng lo c n)[i] = lo + (i : Int) * c := by simp only [rng, List.getElem_map, List.getElem_range]
theorem rng_mem {lo c : Int} {n : Nat} {x : Int} (h : x ∈ rng lo c n) : ∃ i : Nat, i < n ∧ x = lo + (i : Int) * c := by
  unfold rng at h
  obtain ⟨i, h1, rfl⟩ := List.mem_map.mp h
  exact ⟨i, List.mem_range.mp h1, rfl⟩
theorem forM_rng {f : Int → S → M S} {n : Nat} (st : Nat → S) (h : ∀ i : Nat, i < n → f (i : Int) (st i) = .ok (st (i + 1))) : forM f (rng 0 1 n) (st 0) = .ok (st n) := by
  have := forM_ix (f := f) (xs := rng 0 1 n) st fun i hi => by
    rw [rng_get, show (0 + (i : Int) * 1) = (i : Int) by omega]
    exact h i (by rwa [rng_len] at hi)
  rwa [rng_len] at this
theorem forM_rngS {f : Int → S → M S} {n : Nat} {s0 : S} (st : Nat → S) (h0 : st 0 = s0) (h : ∀ i : Nat, i < n → f (i : Int) (st i) = .ok (st (i + 1))) : forM f (rng 0 1 n) s0 = .ok (st n) := h0 ▸ forM_rng st h
theorem bind_rng {β : Type} {f : Int → S → M S} {n : Nat} {s0 : S} {k : S → M β} {r : M β} (st : Nat → S) (h0 : st 0 = s0) (h : ∀ i : Nat, i < n → f (i : Int) (st i) = .ok (st (i + 1))) (hk : k (st n) = r) : M.bind (forM f (rng 0 1 n) s0) k = r := by rw [forM_rngS st h0 h]; exact hk
theorem forF_ix {f : α → S → M (Fl S S R)} : ∀ {xs : List α} (st : Nat → S), (∀ i (h : i < xs.length), f xs[i] (st i) = .ok (.nx (st (i + 1))) ∨ f xs[i] (st i) = .ok (.ct (st (i + 1)))) → (forF f xs (st 0) : M (Fl S L R)) = .ok (.nx (st xs.length))
  | [], st, _ => rfl
  | x :: xs, st, h => by
    unfold forF
    rcases h 0 (Nat.succ_pos _) with h0 | h0
    · rw [show f x (st 0) = .ok (.nx (st 1)) from h0]
      exact forF_ix (fun i => st (i + 1)) fun i hi => h (i + 1) (Nat.succ_lt_succ hi)
    · rw [show f x (st 0) = .ok (.ct (st 1)) from h0]
      exact forF_ix (fun i => st (i + 1)) fun i hi => h (i + 1) (Nat.succ_lt_succ hi)
theorem forF_rng {f : Int → S → M (Fl S S R)} {n : Nat} (st : Nat → S) (h : ∀ i : Nat, i < n → f (i : Int) (st i) = .ok (.nx (st (i + 1))) ∨ f (i : Int) (st i) = .ok (.ct (st (i + 1)))) : (forF f (rng 0 1 n) (st 0) : M (Fl S L R)) = .ok (.nx (st n)) := by
  have := forF_ix (L := L) (f := f) (xs := rng 0 1 n) st fun i hi => by
    rw [rng_get, show (0 + (i : Int) * 1) = (i : Int) by omega]
    exact h i (by rwa [rng_len] at hi)
  rwa [rng_len] at this
theorem forF_rngS {f : Int → S → M (Fl S S R)} {n : Nat} {s0 : S} (st : Nat → S) (h0 : st 0 = s0) (h : ∀ i : Nat, i < n → f (i : Int) (st i) = .ok (.nx (st (i + 1))) ∨ f (i : Int) (st i) = .ok (.ct (st (i + 1)))) : (forF f (rng 0 1 n) s0 : M (Fl S L R)) = .ok (.nx (st n)) := h0 ▸ forF_rng st h
/-- each turn goes on, some state that keeps I -/
theorem forF_inv {f : α → S → M (Fl S S R)} {I : S → Prop} : ∀ {xs : List α} {s : S}, I s → (∀ x ∈ xs, ∀ s, I s → ∃ s', (f x s = .ok (.nx s') ∨ f x s = .ok (.ct s')) ∧ I s') → ∃ s', (forF f xs s : M (Fl S L R)) = .ok (.nx s') ∧ I s'
  | [], s, h, _ => ⟨s, rfl, h⟩
  | x :: xs, s, h, k => by
    obtain ⟨s1, h1, h2⟩ := k x List.mem_cons_self s h
    obtain ⟨s2, h3, h4⟩ := forF_inv (xs := xs) h2 fun y hy => k y (List.mem_cons_of_mem _ hy)
    refine ⟨s2, ?_, h4⟩
    unfold forF
    rcases h1 with h1 | h1 <;> rw [h1] <;> exact h3
theorem forM_inv {f : α → S → M S} {I : S → Prop} : ∀ {xs : List α} {s : S}, I s → (∀ x ∈ xs, ∀ s, I s → ∃ s', f x s = .ok s' ∧ I s') → ∃ s', forM f xs s = .ok s' ∧ I s'
  | [], s, h, _ => ⟨s, rfl, h⟩
  | x :: xs, s, h, k => by
    obtain ⟨s1, h1, h2⟩ := k x List.mem_cons_self s h
    obtain ⟨s2, h3, h4⟩ := forM_inv (xs := xs) h2 fun y hy => k y (List.mem_cons_of_mem _ hy)
    refine ⟨s2, ?_, h4⟩
    show (f x s).bind _ = _
    rw [h1]
    exact h3
theorem forM_invN {f : α → S → M S} : ∀ {xs : List α} {s : S} (I : Nat → S → Prop), I 0 s → (∀ (i : Nat) (x : α), xs[i]? = some x → ∀ s, I i s → ∃ s', f x s = .ok s' ∧ I (i + 1) s') → ∃ s', forM f xs s = .ok s' ∧ I xs.length s'
  | [], s, I, h, _ => ⟨s, rfl, h⟩
  | x :: xs, s, I, h, k => by
    obtain ⟨s1, h1, h2⟩ := k 0 x rfl s h
    obtain ⟨s2, h3, h4⟩ := forM_invN (xs := xs) (fun i => I (i + 1)) h2 fun i y hy => k (i + 1) y hy
    refine ⟨s2, ?_, h4⟩
    show (f x s).bind _ = _
    rw [h1]
    exact h3
theorem forF_invN {f : α → S → M (Fl S S R)} : ∀ {xs : List α} {s : S} (I : Nat → S → Prop), I 0 s → (∀ (i : Nat) (x : α), xs[i]? = some x → ∀ s, I i s → ∃ s', (f x s = .ok (.nx s') ∨ f x s = .ok (.ct s')) ∧ I (i + 1) s') → ∃ s', (forF f xs s : M (Fl S L R)) = .ok (.nx s') ∧ I xs.length s'
  | [], s, I, h, _ => ⟨s, rfl, h⟩
  | x :: xs, s, I, h, k => by
    obtain ⟨s1, h1, h2⟩ := k 0 x rfl s h
    obtain ⟨s2, h3, h4⟩ := forF_invN (xs := xs) (fun i => I (i + 1)) h2 fun i y hy => k (i + 1) y hy
    refine ⟨s2, ?_, h4⟩
    unfold forF
    rcases h1 with h1 | h1 <;> rw [h1] <;> exact h3
section
variable {Q : M β → Prop} {xs : List α} {s0 : S}
/-- loops in a goal: an invariant by the number of turns -/
theorem bind_forN {f : α → S → M S} {k : S → M β} (I : Nat → S → Prop) (h0 : I 0 s0) (h : ∀ (i : Nat) (x : α), xs[i]? = some x → ∀ s, I i s → ∃ s', f x s = .ok s' ∧ I (i + 1) s') (hk : ∀ s, I xs.length s → Q (k s)) : Q (M.bind (forM f xs s0) k) := by
  obtain ⟨s', h1, h2⟩ := forM_invN I h0 h
  rw [h1]
  exact hk s' h2
/-- .. by the state alone -/
theorem bind_forI {f : α → S → M S} {k : S → M β} (I : S → Prop) (h0 : I s0) (h : ∀ x ∈ xs, ∀ s, I s → ∃ s', f x s = .ok s' ∧ I s') (hk : ∀ s, I s → Q (k s)) : Q (M.bind (forM f xs s0) k) := by
  obtain ⟨s', h1, h2⟩ := forM_inv (I := I) h0 h
  rw [h1]
  exact hk s' h2
/-- .. as a fold -/
theorem bind_forG {f : α → S → M S} {k : S → M β} (g : S → α → S) (I : S → Prop) (h0 : I s0) (h : ∀ x ∈ xs, ∀ s, I s → f x s = .ok (g s x) ∧ I (g s x)) (hk : I (xs.foldl g s0) → Q (k (xs.foldl g s0))) : Q (M.bind (forM f xs s0) k) := by
  obtain ⟨h1, h2⟩ := forM_fold (I := I) h0 h
  rw [h1]
  exact hk h2
theorem seqT_forN {Q : M R → Prop} {f : α → S → M (Fl S S R)} {k : S → M R} (I : Nat → S → Prop) (h0 : I 0 s0) (h : ∀ (i : Nat) (x : α), xs[i]? = some x → ∀ s, I i s → ∃ s', (f x s = .ok (.nx s') ∨ f x s = .ok (.ct s')) ∧ I (i + 1) s') (hk : ∀ s, I xs.length s → Q (k s)) : Q (M.seqT (forF f xs s0 : M (Fl S L R)) k) := by
  obtain ⟨s', h1, h2⟩ := forF_invN (L := L) I h0 h
  rw [h1]
  exact hk s' h2
theorem seqT_forI {Q : M R → Prop} {f : α → S → M (Fl S S R)} {k : S → M R} (I : S → Prop) (h0 : I s0) (h : ∀ x ∈ xs, ∀ s, I s → ∃ s', (f x s = .ok (.nx s') ∨ f x s = .ok (.ct s')) ∧ I s') (hk : ∀ s, I s → Q (k s)) : Q (M.seqT (forF f xs s0 : M (Fl S L R)) k) := by
  obtain ⟨s', h1, h2⟩ := forF_inv (L := L) (I := I) h0 h
  rw [h1]
  exact hk s' h2
theorem seq_forI {L' S' : Type} {Q : M (Fl S' L R) → Prop} {f : α → S → M (Fl S S R)} {k : S → M (Fl S' L R)} (I : S → Prop) (h0 : I s0) (h : ∀ x ∈ xs, ∀ s, I s → ∃ s', (f x s = .ok (.nx s') ∨ f x s = .ok (.ct s')) ∧ I s') (hk : ∀ s, I s → Q (k s)) : Q (M.seq (forF f xs s0 : M (Fl S L R)) k) := by
  obtain ⟨s', h1, h2⟩ := forF_inv (L := L) (I := I) h0 h
  rw [h1]
  exact hk s' h2
end
/-- the first turn that leaves the def -/
theorem forF_rt {f : α → S → M (Fl S S R)} {r : R} : ∀ (pre : List α) {x : α} {suf : List α} (st : Nat → S), (∀ i (h : i < pre.length), f pre[i] (st i) = .ok (.nx (st (i + 1)))) → f x (st pre.length) = .ok (.rt r) → (forF f (pre ++ x :: suf) (st 0) : M (Fl S L R)) = .ok (.rt r)
  | [], x, suf, st, _, h => by
    show (forF f (x :: suf) (st 0) : M (Fl S L R)) = _
    unfold forF
    rw [show f x (st 0) = _ from h]
  | y :: pre, x, suf, st, k, h => by
    show (forF f (y :: (pre ++ x :: suf)) (st 0) : M (Fl S L R)) = _
    unfold forF
    rw [show f y (st 0) = .ok (.nx (st 1)) from k 0 (Nat.succ_pos _)]
    exact forF_rt pre (fun i => st (i + 1)) (fun i hi => k (i + 1) (Nat.succ_lt_succ hi)) h
theorem whileM_le {c : S → M Bool} {f : S → M S} : ∀ {n m : Nat} {s s' : S}, whileM c f n s = .ok s' → n ≤ m → whileM c f m s = .ok s'
  | 0, _, _, _, h, _ => by unfold whileM at h; cases h
  | n + 1, 0, _, _, _, hm => by omega
  | n + 1, m + 1, s, s', h, hm => by
    unfold whileM at h ⊢
    cases ec : c s with
    | ok b =>
      rw [ec] at h
      cases b with
      | false => exact h
      | true =>
        cases ef : f s with
        | ok s1 =>
          simp only [M.bind_ok, ↓reduceIte, ef] at h ⊢
          exact whileM_le h (Nat.le_of_succ_le_succ hm)
        | ex n => simp [ef] at h
        | far => simp [ef] at h
    | ex n => rw [ec] at h; cases h
    | far => rw [ec] at h; cases h
theorem whileM_done {c : S → M Bool} {f : S → M S} {n : Nat} {s : S} (h : c s = .ok false) : whileM c f (n + 1) s = .ok s := by unfold whileM; rw [h]; rfl
theorem whileM_turn {c : S → M Bool} {f : S → M S} {n : Nat} {s s' : S} (h : c s = .ok true) (h2 : f s = .ok s') : whileM c f (n + 1) s = whileM c f n s' := by
  conv => lhs; unfold whileM
  rw [h, M.bind_ok, if_pos rfl, h2, M.bind_ok]
/-- a while by a measure -/
theorem whileM_by {c : S → M Bool} {f : S → M S} {I : S → Prop} (μ : S → Nat) (h : ∀ s, I s → (c s = .ok false) ∨ (c s = .ok true ∧ ∃ s', f s = .ok s' ∧ I s' ∧ μ s' < μ s)) : ∀ (n : Nat) {s : S}, I s → μ s < n → ∃ s', whileM c f n s = .ok s' ∧ I s' ∧ c s' = .ok false
  | 0, _, _, hn => by omega
  | n + 1, s, hI, hn => by
    rcases h s hI with h0 | ⟨h1, s1, h2, h3, h4⟩
    · exact ⟨s, whileM_done h0, hI, h0⟩
    · rw [whileM_turn h1 h2]
      exact whileM_by μ h n h3 (by omega)
variable {Q : M β → Prop} {s0 : S}
theorem bind_while {c : S → M Bool} {f : S → M S} {n : Nat} {k : S → M β} (I : S → Prop) (μ : S → Nat) (h0 : I s0) (hn : μ s0 < n) (h : ∀ s, I s → (c s = .ok false) ∨ (c s = .ok true ∧ ∃ s', f s = .ok s' ∧ I s' ∧ μ s' < μ s)) (hk : ∀ s, I s → c s = .ok false → Q (k s)) : Q (M.bind (whileM c f n s0) k) := by
  obtain ⟨s', h1, h2, h3⟩ := whileM_by (I := I) μ h n h0 hn
  rw [h1]
  exact hk s' h2 h3
theorem compM_map {f : α → M Bool} {g : α → M β} {k : α → β} : ∀ {xs : List α}, (∀ x ∈ xs, f x = .ok true) → (∀ x ∈ xs, g x = .ok (k x)) → compM f g xs = .ok (xs.map k)
  | [], _, _ => rfl
  | x :: xs, h1, h2 => by
    unfold compM
    rw [h1 x List.mem_cons_self, M.bind_ok, if_pos rfl, h2 x List.mem_cons_self, M.bind_ok, compM_map (fun y hy => h1 y (List.mem_cons_of_mem _ hy)) (fun y hy => h2 y (List.mem_cons_of_mem _ hy))]
    rfl
theorem compM_filter {f : α → M Bool} {g : α → M β} {p : α → Bool} {k : α → β} : ∀ {xs : List α}, (∀ x ∈ xs, f x = .ok (p x)) → (∀ x ∈ xs, p x = true → g x = .ok (k x)) → compM f g xs = .ok ((xs.filter p).map k)
  | [], _, _ => rfl
  | x :: xs, h1, h2 => by
    unfold compM
    have ih := compM_filter (f := f) (g := g) (p := p) (k := k) (xs := xs) (fun y hy => h1 y (List.mem_cons_of_mem _ hy)) (fun y hy => h2 y (List.mem_cons_of_mem _ hy))
    rw [h1 x List.mem_cons_self, M.bind_ok]
    cases e : p x with
    | true => rw [if_pos rfl, h2 x List.mem_cons_self e, M.bind_ok, ih, List.filter_cons, if_pos e]; rfl
    | false => rw [if_neg (by decide), ih, List.filter_cons, if_neg (by rw [e]; decide)]
end
/-! ### items -/
theorem atI_n {α : Type} {l : List α} {i : Nat} (h : i < l.length) : atI l (i : Int) = some l[i] := by
  have := atI_nat (xs := l) (j := i) (v := l[i]) (by rw [List.getElem?_eq_getElem h])
  exact this
theorem atI_i {α : Type} {l : List α} {i : Int} (h0 : 0 ≤ i) (h : i.toNat < l.length) : atI l i = some l[i.toNat] := by
  have := atI_n h
  rwa [Int.toNat_of_nonneg h0] at this
theorem atI_neg {α : Type} {l : List α} {k : Nat} (h0 : 0 < k) (h : k ≤ l.length) : atI l (-(k : Int)) = some (l[l.length - k]'(by omega)) := by
  unfold atI ixN
  rw [if_neg (by omega), if_pos (by omega)]
  show l[(-(k : Int) + (l.length : Int)).toNat]? = _
  rw [show (-(k : Int) + (l.length : Int)).toNat = l.length - k by omega, List.getElem?_eq_getElem]
theorem setI_n {α : Type} {l : List α} {i : Nat} {v : α} (h : i < l.length) : setI l (i : Int) v = some (l.set i v) := by
  unfold setI ixN
  rw [if_pos (by omega), if_pos (by omega), Int.toNat_natCast]
  rfl
theorem cut_map2 {α β : Type} (f : α → β) (l : List α) (lo hi : Option Int) : cut (l.map f) lo hi = (cut l lo hi).map f := cutm f l lo hi
theorem cut_len2 {α : Type} (l : List α) (lo hi : Option Int) : (cut l lo hi).length ≤ l.length := by
  unfold cut
  rw [List.length_take, List.length_drop]; omega
theorem cut_len3 {α : Type} (l : List α) {i j : Nat} : (cut l (some (i : Int)) (some (j : Int))).length ≤ j - i := by
  have := cut_mid (l := l) (i := (i : Int)) (j := (j : Int)) (by omega) (by omega)
  rw [this]
  simp
  omega
theorem cut_mem {α : Type} {l : List α} {lo hi : Option Int} {x : α} (h : x ∈ cut l lo hi) : x ∈ l := List.mem_of_mem_drop (List.mem_of_mem_take h)
end B

namespace B
open PySem PySem.Spec PyProof.Rows L2
/-! ### try: f(..) except C as e: suite -/
def lookM {S : Type} (n : Str) : List (Str × M S) → M S
  | [] => .far
  | p :: r => if n = p.1 then p.2.nox else lookM n r
def tryM {β S : Type} (mb : M β) (s0 : S) (hs : List (Str × M S)) : M S := match mb with
  | .ok _ => .ok s0
  | .ex n => lookM n hs
  | .far => .far
@[simp] theorem tryM_ok {β S : Type} (b : β) (s0 : S) (hs : List (Str × M S)) : tryM (M.ok b) s0 hs = .ok s0 := id rfl
@[simp] theorem tryM_ex {β S : Type} (n : Str) (s0 : S) (hs : List (Str × M S)) : tryM (M.ex n : M β) s0 hs = lookM n hs := id rfl
theorem lookM_here {S : Type} {n : Str} {h : M S} {r : List (Str × M S)} : lookM n ((n, h) :: r) = h.nox := if_pos rfl
theorem lookM_next {S : Type} {n n' : Str} {h : M S} {r : List (Str × M S)} (q : n ≠ n') : lookM n ((n', h) :: r) = lookM n r := if_neg q
def AllH {S : Type} (P : Str → M S → Prop) : List (Str × M S) → Prop
  | [] => True
  | p :: r => P p.1 p.2 ∧ AllH P r
section
variable {X : Cx} {H0 : Hp} {ρ ρ0 ρ1 ρ2 : Env'} {α β γ S S' L R : Type} {a b c e call : Expr} {es : List Expr} {st : Stmt} {sts rest body : List Stmt} {d d1 d2 : Dat} {ds : List Dat} {p pos : Pos} {o o1 : Outc} {x n : Str} {k : Nat} {D : γ → Outc} {m : M α} {en : α → Dat}
theorem xm_try1 {mb : M β} {eb : β → Dat} {s0 : S} {hs : List (Str × M S)} {eS : S → Env'} {f : S → M γ} {c : Value} {suite : List Stmt} {b₀ : Stmt} {np pos pos' pos'' : Pos} (i : Nat) (is : List Nat)
    (hst : X.stack = X.env :: X.outer) (hfr : X.env.frame = some X.env.locals) (nd : X.N.Nodup) (hc : Names X x c)
    (hb : ∀ (pn : List (Addr × Obj)) (xe : Value → Shared → Prop), PassesOwn (model X.prog X.w) X.A X.env xe → EvM (X.tr pn xe) H0 ρ call eb mb)
    (hok : eS s0 = drops ρ is)
    (hh : AllH (fun n h => (∀ C, X.mg n = some (.ref C) → PySem.W.exmOne X.K (.ref C) c = some true) ∧ ∀ (a C : Addr) (oe : Obj) (pn : List (Addr × Obj)), X.mg n = some (.ref C) → Zc (.ref C) none oe → (∃ vs, oe.data = .fields vs) → ExM (X.suite a ((a, oe) :: pn)) H0 (ρ.set i (.rf a)) k (b₀ :: suite) (fun s => .nx (eS s)) h) hs)
    (hno : ∀ s, (eS s).set i .no = eS s) (tt : ∀ s, ExM X H0 (eS s) k rest D (f s)) (hi : X.N[i]? = some n := by rfl) (hln : X.env.kindOf n = some .local := by rfl)
    (hsw : ∀ pn xe, swapsWith call none pos.line (X.tr pn xe).env = pure false := by intro _ _; rfl) :
    ExM X H0 ρ k (.Try [.Expr call pos] [.ExceptHandler (some (.Name x np)) (some n) (b₀ :: suite) pos'] [] [] pos'' :: rest) D (M.bind (tryM mb s0 hs) f) := by
  cases mb with
  | ok r =>
    have h1 : ExS X H0 ρ (.Try [.Expr call pos] [.ExceptHandler (some (.Name x np)) (some n) (b₀ :: suite) pos'] [] [] pos'') (.nx (eS s0)) :=
      sx_tryN (i := i) hst hfr nd hc (fun pn xe hp => ex_then (sx_expr (hb pn xe hp) (hsw pn xe)) (hok ▸ ex_drops is ex_nil)) (ho := trivial) (hi := hi) (hln := hln)
    exact xm_then h1 (tt s0)
  | ex n' =>
    show ExM X H0 ρ k _ D (M.bind (lookM n' hs) f)
    induction hs with
    | nil => trivial
    | cons q r ih =>
      obtain ⟨⟨he, h1⟩, h2⟩ := hh
      unfold lookM
      by_cases e : n' = q.1
      · rw [if_pos e]
        subst e
        cases eh : q.2 with
        | ok s =>
          have h3 : ExS X H0 ρ (.Try [.Expr call pos] [.ExceptHandler (some (.Name x np)) (some n) (b₀ :: suite) pos'] [] [] pos'') (Outc.un i (.nx (eS s))) :=
            sx_try (i := i) (m := q.1) (ρ1 := ρ) hst hfr nd hc he (fun pn xe hp => ex_one (sx_exprX (hb pn xe hp) (hsw pn xe))) (fun a C oe pn hC hz hf => by
              have := h1 a C oe pn hC hz hf
              rw [eh] at this
              exact this) trivial hi hln
          have h4 : Outc.un i (.nx (eS s)) = .nx (eS s) := by
            show Outc.nx ((eS s).set i .no) = _
            rw [hno s]
          rw [h4] at h3
          exact xm_then h3 (tt s)
        | ex _ => trivial
        | far => trivial
      · rw [if_neg e]
        exact ih h2
  | far => trivial
/-! ### an item of an owned list -/
theorem ev_ixLw {l : List α} {i : Int} {r : α} (j : Nat) {y : Str} {p1 : Pos} (hi : ρ[j]? = some (.ow (lstd en l))) (hb : Ev X H0 ρ b (.int i)) (q : atI l i = some r) (hs : PlainIx b := by exact fun _ _ => rfl) (hN : X.N[j]? = some y := by rfl) (hv : Vis X.env.scope y := by first | exact Or.inl rfl | exact Or.inr (Or.inl rfl) | exact Or.inr (Or.inr rfl))
    (hd : (y == ("__debug__" : Str)) = false := by decide) (hcd : (y == ("__classdict__" : Str)) = false := by decide) : Ev X H0 ρ (.Subscript (.Name y p1) b pos) (en r) := fun σ H N rp => by
  obtain ⟨q0, g1, g2, g3, us, g4, g5⟩ := rp.ow j _ hi
  refine we_of (pe_ix ix_list (pv j hN hv hd hcd) pe_w hs) ⟨_, g1, (hb σ H N rp).imp fun w H2 ⟨N2, s2, n2, r2, a2⟩ => ?_⟩
  obtain ⟨v, e1, e2⟩ := atI_ats (g5.mono n2) (atIm en l i q)
  exact ⟨q0, us, i, v, rfl, at_int a2, .inl (.inl (s2 _ _ g4)), e1, N2, s2, n2, r2, e2⟩
/-! ### is of truths -/
theorem ev_isB {u v : Bool} (ha : Ev X H0 ρ a (.bl u)) (hb : Ev X H0 ρ b (.bl v)) : Ev X H0 ρ (.Compare a [.Is] [b] pos) (.bl (decide (u = v))) :=
  ev_bin (fun _ _ h k => pe_cmpR op_isBl h k (nomark _)) ha.toB hb.toB fun x y σ H N Q r p q g => ⟨u, v, at_bl p, at_bl q, goes_self g r (.bl _)⟩
theorem ev_isnotB {u v : Bool} (ha : Ev X H0 ρ a (.bl u)) (hb : Ev X H0 ρ b (.bl v)) : Ev X H0 ρ (.Compare a [.IsNot] [b] pos) (.bl (!decide (u = v))) :=
  ev_bin (fun _ _ h k => pe_cmpR op_notBl h k (nomark _)) ha.toB hb.toB fun x y σ H N Q r p q g => ⟨u, v, at_bl p, at_bl q, goes_self g r (.bl _)⟩
theorem et_isB {u v : Bool} (ha : Ev X H0 ρ a (.bl u)) (hb : Ev X H0 ρ b (.bl v)) : EvT X H0 ρ (.Compare a [.Is] [b] pos) (decide (u = v)) :=
  evt_bin (fun _ _ h k => pt_cmpR op_isBl h k (nomark _)) ha.toB hb.toB fun x y σ H N Q r p q g => ⟨u, v, at_bl p, at_bl q, goes_self g r (.bl _)⟩
theorem et_isnotB {u v : Bool} (ha : Ev X H0 ρ a (.bl u)) (hb : Ev X H0 ρ b (.bl v)) : EvT X H0 ρ (.Compare a [.IsNot] [b] pos) (!decide (u = v)) :=
  evt_bin (fun _ _ h k => pt_cmpR op_notBl h k (nomark _)) ha.toB hb.toB fun x y σ H N Q r p q g => ⟨u, v, at_bl p, at_bl q, goes_self g r (.bl _)⟩
/-! ### list of a text; tuples of lists -/
end
end B

namespace B
open PySem PySem.Spec PyProof.Rows L2
section
variable {α : Type}
/-! ### dicts whose keys are texts -/
def dget (l : List (List Nat × α)) (k : List Nat) : Option α := (l.find? fun p => decide (p.1 = k)).map (·.2)
def dhas (l : List (List Nat × α)) (k : List Nat) : Bool := (dget l k).isSome
def dput (l : List (List Nat × α)) (k : List Nat) (v : α) : List (List Nat × α) := if (l.any fun p => decide (p.1 = k)) = true then l.map (fun p => if p.1 = k then (p.1, v) else p) else l ++ [(k, v)]
abbrev dm (e : α → Dat) (l : List (List Nat × α)) : List (Key × Dat) := l.map fun p => (Sum.inr (SX.S p.1), e p.2)
theorem keq {a b : List Nat} : ((Sum.inr (SX.S a) : Key) = Sum.inr (SX.S b)) ↔ a = b := ⟨fun h => SX.S_inj (Sum.inr.inj h), fun h => by rw [h]⟩
theorem dget_cons {p : List Nat × α} {l : List (List Nat × α)} {k : List Nat} : dget (p :: l) k = if p.1 = k then some p.2 else dget l k := by
  unfold dget
  rw [List.find?_cons]
  by_cases h : p.1 = k <;> simp [h]
theorem atk_get {K : PySem.W.Frag} {H : Hp} {e : α → Dat} : ∀ {l : List (List Nat × α)} {vs : List (Key × V)}, Atk K H vs (dm e l) → ∀ k : List Nat, (∀ v, dget l k = some v → ∃ w, valV vs (Sum.inr (SX.S k) : Key) = some w ∧ At K H w (e v)) ∧ (dget l k = none → valV vs (Sum.inr (SX.S k) : Key) = none)
  | [], vs, h, k => by
    cases h
    exact ⟨fun v q => (by cases q), fun _ => rfl⟩
  | p :: l, vs, h, k => by
    cases h with
    | @cons _ v _ vs _ ha ht =>
      obtain ⟨i1, i2⟩ := atk_get ht k
      rw [dget_cons]
      by_cases e1 : p.1 = k
      · rw [if_pos e1]
        refine ⟨fun v q => ?_, fun q => (by cases q)⟩
        cases q
        exact ⟨_, valV_pos (by exact keq.mpr e1), ha⟩
      · rw [if_neg e1]
        have n1 : ¬ (Sum.inr (SX.S p.1) : Key) = Sum.inr (SX.S k) := fun z => e1 (keq.mp z)
        refine ⟨fun v q => ?_, fun q => ?_⟩
        · rw [valV_neg (by exact n1)]; exact i1 v q
        · rw [valV_neg (by exact n1)]; exact i2 q
theorem atk_any {K : PySem.W.Frag} {H : Hp} {e : α → Dat} : ∀ {l : List (List Nat × α)} {vs : List (Key × V)}, Atk K H vs (dm e l) → ∀ k : List Nat, (vs.any fun kv => decide (kv.1 = (Sum.inr (SX.S k) : Key))) = l.any fun p => decide (p.1 = k)
  | [], vs, h, k => by cases h; rfl
  | p :: l, vs, h, k => by
    cases h with
    | cons ha ht =>
      rw [List.any_cons, List.any_cons, atk_any ht k]
      congr 1
      exact decide_eq_decide.mpr keq
theorem atk_len {K : PySem.W.Frag} {H : Hp} : ∀ {ds : List (Key × Dat)} {vs : List (Key × V)}, Atk K H vs ds → vs.length = ds.length
  | _, _, .nil => rfl
  | _, _, .cons _ t => congrArg (· + 1) (atk_len t)
theorem atk_append {K : PySem.W.Frag} {H : Hp} : ∀ {ds es : List (Key × Dat)} {vs us : List (Key × V)}, Atk K H vs ds → Atk K H us es → Atk K H (vs ++ us) (ds ++ es)
  | _, _, _, _, .nil, h => h
  | _, _, _, _, .cons a t, h => .cons a (atk_append t h)
theorem atk_repl {K : PySem.W.Frag} {H : Hp} {e : α → Dat} {k : List Nat} {w : V} {v : α} (hw : At K H w (e v)) : ∀ {l : List (List Nat × α)} {vs : List (Key × V)}, Atk K H vs (dm e l) → Atk K H (vs.map fun kv => if kv.1 = (Sum.inr (SX.S k) : Key) then (kv.1, w) else kv) (dm e (l.map fun p => if p.1 = k then (p.1, v) else p))
  | [], vs, h => by cases h; exact .nil
  | p :: l, vs, h => by
    cases h with
    | @cons _ u _ vs _ ha ht =>
      have ih := atk_repl (k := k) hw ht
      show Atk K H ((if (Sum.inr (SX.S p.1) : Key) = Sum.inr (SX.S k) then ((Sum.inr (SX.S p.1) : Key), w) else (Sum.inr (SX.S p.1), u)) :: _) ((Sum.inr (SX.S (if p.1 = k then (p.1, v) else p).1), e (if p.1 = k then (p.1, v) else p).2) :: dm e (l.map fun p => if p.1 = k then (p.1, v) else p))
      by_cases e1 : p.1 = k
      · rw [if_pos (keq.mpr e1), if_pos e1]
        exact .cons hw ih
      · rw [if_neg (fun z => e1 (keq.mp z)), if_neg e1]
        exact .cons ha ih
theorem atk_put {K : PySem.W.Frag} {H : Hp} {e : α → Dat} {l : List (List Nat × α)} {vs : List (Key × V)} (h : Atk K H vs (dm e l)) (k : List Nat) {w : V} {v : α} (hw : At K H w (e v)) : Atk K H (putK vs (Sum.inr (SX.S k) : Key) w) (dm e (dput l k v)) := by
  unfold putK dput
  rw [atk_any h k]
  split
  · exact atk_repl hw h
  · rw [dm, List.map_append]
    exact atk_append h (.cons hw .nil)
end
section
variable {X : Cx} {H0 : Hp} {ρ ρ0 ρ1 ρ2 : Env'} {α β γ S S' L R : Type} {a b c e call : Expr} {es : List Expr} {st : Stmt} {sts rest body : List Stmt} {d d1 d2 : Dat} {ds : List Dat} {p pos : Pos} {o o1 : Outc} {x n : Str} {k : Nat} {D : γ → Outc} {m : M α} {en : α → Dat} {l : List (List Nat × α)} {key : List Nat}
theorem at_dic {K : PySem.W.Frag} {H : Hp} {v : V} {ds : List (Key × Dat)} (h : At K H v (.dic ds)) : ∃ p vs, v = .ref p ∧ Rd H p (.dK vs) ∧ Atk K H vs ds := by cases h with | dic a b => exact ⟨_, _, rfl, a, b⟩
theorem rd_mono {H H' : Hp} {p : Addr} {u : HO} [Nt u] (s : Same H H') (h : Rd H p u) : Rd H' p u := rd_same s h
theorem dget_of {K : PySem.W.Frag} {H : Hp} {q : Addr} {vs : List (Key × V)} {y : V} (hr : Rd H q (.dK vs)) (ha : Atk K H vs (dm en l)) (hy : y = .str (SX.S key)) : ∃ o, DGet H q y o ∧ (∀ v, dget l key = some v → ∃ w, o = some w ∧ At K H w (en v)) ∧ (dget l key = none → o = none) := by
  subst hy
  obtain ⟨i1, i2⟩ := atk_get ha key
  exact ⟨_, .inl ⟨vs, Sum.inr (SX.S key), hr, rfl, rfl⟩, i1, i2⟩
theorem eb_dgetm {v : α} (ha : EvB X H0 ρ a (dicd en l)) (hb : Ev X H0 ρ b (tx key)) (h : dget l key = some v) (hu : X.A.units + 1 < cLine) (hs : NoSl b := by exact fun _ _ => rfl) : EvB X H0 ρ (.Subscript a b pos) (en v) := fun σ H N rp =>
  we_of (pe_dget hu pe_w pe_w hs) ((ha σ H N rp).imp fun u H1 ⟨N1, s1, n1, r1, a1⟩ => (hb σ H1 N1 r1).imp fun y H2 ⟨N2, s2, n2, r2, a2⟩ => by
    obtain ⟨q, vs, e1, h1, h2⟩ := at_dic (a1.mono s2)
    obtain ⟨o, g1, g2, _⟩ := dget_of h1 h2 (at_str a2)
    obtain ⟨w, rfl, g3⟩ := g2 v h
    exact ⟨q, w, e1, g1, N2, s1.trans s2, n1.trans n2, r2, g3⟩)
theorem ev_dgetm {v : α} (ha : Ev X H0 ρ a (dicd en l)) (hb : Ev X H0 ρ b (tx key)) (h : dget l key = some v) (hu : X.A.units + 1 < cLine) (hs : NoSl b := by exact fun _ _ => rfl) : Ev X H0 ρ (.Subscript a b pos) (en v) := fun σ H N rp =>
  we_of (pe_dget hu pe_w pe_w hs) ((ha σ H N rp).imp fun u H1 ⟨N1, s1, n1, r1, a1⟩ => (hb σ H1 N1 r1).imp fun y H2 ⟨N2, s2, n2, r2, a2⟩ => by
    obtain ⟨q, vs, e1, h1, h2⟩ := at_dic (a1.mono n2)
    obtain ⟨o, g1, g2, _⟩ := dget_of h1 h2 (at_str a2)
    obtain ⟨w, rfl, g3⟩ := g2 v h
    refine ⟨q, w, e1, ?_, N2, s1.trans s2, n1.trans n2, r2, g3⟩
    rcases g1 with ⟨kvs, k', q1, q2⟩ | ⟨kvs, k', b', q1, q2, q3, q4⟩
    · exact .inl ⟨kvs, k', rd_mono r2.sub q1, q2⟩
    · exact .inr ⟨kvs, k', b', rd_mono r2.sub q1, q2, r2.sub _ _ q3, q4⟩)
section
variable (i : Nat) {y : Str} {p1 : Pos} (hi : ρ[i]? = some (.ow (dicd en l)))
theorem ev_dgetw {v : α} (hb : Ev X H0 ρ b (tx key)) (h : dget l key = some v) (hu : X.A.units + 1 < cLine) (hs : NoSl b := by exact fun _ _ => rfl) (hN : X.N[i]? = some y := by rfl) (hv : Vis X.env.scope y := by first | exact Or.inl rfl | exact Or.inr (Or.inl rfl) | exact Or.inr (Or.inr rfl))
    (hd : (y == ("__debug__" : Str)) = false := by decide) (hcd : (y == ("__classdict__" : Str)) = false := by decide) (hi : ρ[i]? = some (.ow (dicd en l)) := by rfl) : Ev X H0 ρ (.Subscript (.Name y p1) b pos) (en v) := fun σ H N rp => by
  obtain ⟨q, g1, g2, g3, vs, g4, g5⟩ := rp.ow i _ hi
  refine we_of (pe_dget hu (pv i hN hv hd hcd) pe_w hs) ⟨_, g1, (hb σ H N rp).imp fun w H2 ⟨N2, s2, n2, r2, a2⟩ => ?_⟩
  obtain ⟨q', f1, f2, f3, us, f4, f5⟩ := r2.ow i _ hi
  rw [g1] at f1
  cases f1
  have h5 := at_str a2
  subst h5
  obtain ⟨i1, _⟩ := atk_get f5 key
  obtain ⟨z, z1, z2⟩ := i1 v h
  exact ⟨q, z, rfl, .inl ⟨us, Sum.inr (SX.S key), .inl f4, rfl, z1.symm⟩, N2, s2, n2, r2, z2⟩
theorem ev_dget2w {u : α} (hb : Ev X H0 ρ b (tx key)) (hc : Ev X H0 ρ c (en u)) (hu : X.A.units + 1 < cLine) {apos : Pos} (hm : M2 X (.Name y p1) "get" apos b c pos := by exact ⟨rfl, rfl, rfl, rfl⟩) (hN : X.N[i]? = some y := by rfl) (hv : Vis X.env.scope y := by first | exact Or.inl rfl | exact Or.inr (Or.inl rfl) | exact Or.inr (Or.inr rfl))
    (hd : (y == ("__debug__" : Str)) = false := by decide) (hcd : (y == ("__classdict__" : Str)) = false := by decide) (hi : ρ[i]? = some (.ow (dicd en l)) := by rfl) : Ev X H0 ρ (.Call (.Attribute (.Name y p1) "get" apos) [b, c] [] pos) (en ((dget l key).getD u)) := fun σ H N rp => by
  obtain ⟨q, g1, g2, g3, vs, g4, g5⟩ := rp.ow i _ hi
  refine we_of (pe_dget2 hu (pv i hN hv hd hcd) pe_w pe_w hm) ⟨_, g1, q, rfl, .inl ⟨vs, .inl g4⟩, (hb σ H N rp).imp fun w H2 ⟨N2, s2, n2, r2, a2⟩ => (hc σ H2 N2 r2).imp fun z H3 ⟨N3, s3, n3, r3, a3⟩ => ?_⟩
  obtain ⟨q', f1, f2, f3, us, f4, f5⟩ := r3.ow i _ hi
  rw [g1] at f1
  cases f1
  have h5 := at_str a2
  subst h5
  obtain ⟨i1, i2⟩ := atk_get f5 key
  refine ⟨_, .inl ⟨us, Sum.inr (SX.S key), .inl f4, rfl, rfl⟩, N3, s2.trans s3, n2.trans n3, r3, ?_⟩
  cases e : dget l key with
  | none => rw [i2 e]; exact a3
  | some v =>
    obtain ⟨z, z1, z2⟩ := i1 v e
    rw [z1]; exact z2
theorem xm_dput {v : α} {f : List (List Nat × α) → M γ} {p2 : Pos} (he : Ev X H0 ρ e (en v)) (hb : Ev X H0 ρ b (tx key)) (hz : lenLt l = true) (hu : X.A.units + 1 < cLine) (tt : ∀ l, ExM X H0 (ρ.set i (.ow (dicd en l))) k rest D (f l)) (hN : X.N[i]? = some y := by rfl) (hv : Vis X.env.scope y := by first | exact Or.inl rfl | exact Or.inr (Or.inl rfl) | exact Or.inr (Or.inr rfl))
    (hd : (y == ("__debug__" : Str)) = false := by decide) (hcd : (y == ("__classdict__" : Str)) = false := by decide) (hi : ρ[i]? = some (.ow (dicd en l)) := by rfl)
    (hs : swapsWith e (some (.Subscript (.Name y p1) b p2)) pos.line X.env = pure false := by rfl) : ExM X H0 ρ k (.Assign [.Subscript (.Name y p1) b p2] e pos :: rest) D (M.lt (dput l key v) f) := by
  refine xm_then (ρ1 := ρ.set i (.ow (dicd en (dput l key v)))) (fun Dd σ H N r kk => ?_) (tt (dput l key v))
  refine ws_of (ps_dput hu (pv i hN hv hd hcd) pe_w pe_w hs) ((he σ H N r).imp fun w H1 ⟨N1, s1, n1, r1, a1⟩ => ?_)
  obtain ⟨q, g1, g2, g3, vs, g4, g5⟩ := r1.ow i _ hi
  refine ⟨_, g1, (hb σ H1 N1 r1).imp fun z H2 ⟨N2, s2, n2, r2, a2⟩ => ?_⟩
  obtain ⟨q', f1, f2, f3, us, f4, f5⟩ := r2.ow i _ hi
  rw [g1] at f1
  cases f1
  have h5 := at_str a2
  subst h5
  refine ⟨q, _, rfl, .inl ⟨us, Sum.inr (SX.S key), f4, rfl, ?_, rfl⟩, kk σ _ N2 (n1.trans n2) ?_⟩
  · rw [atk_len f5, List.length_map]; exact lenLt_ok hz
  · exact r2.write hi g1 ⟨_, upd_same, atk_put f5 key (a1.mono n2)⟩
end
theorem ev_inKm (hb : Ev X H0 ρ b (tx key)) (ha : EvB X H0 ρ a (dicd en l)) (hu : X.A.units + 1 < cLine) (hm : behindInMarks .In a = false := by rfl) : Ev X H0 ρ (.Compare b [.In] [a] pos) (.bl (dhas l key)) := fun σ H N rp =>
  we_of (pe_cmp (pc_din hu pe_w pe_w) hm) ((hb σ H N rp).imp fun y H1 ⟨N1, s1, n1, r1, a1⟩ => (ha σ H1 N1 r1).imp fun u H2 ⟨N2, s2, n2, r2, a2⟩ => by
    obtain ⟨q, vs, e1, h1, h2⟩ := at_dic a2
    obtain ⟨o, g1, g2, g3⟩ := dget_of h1 h2 (at_str a1)
    refine ⟨q, o, e1, g1, N2, s1.trans s2, n1.trans n2, r2, ?_⟩
    have : o.isSome = dhas l key := by
      unfold dhas
      cases e : dget l key with
      | none => rw [g3 e]; rfl
      | some v => obtain ⟨w, rfl, _⟩ := g2 v e; rfl
    rw [this]
    exact .bl _)
theorem ev_ninKm (hb : Ev X H0 ρ b (tx key)) (ha : EvB X H0 ρ a (dicd en l)) (hu : X.A.units + 1 < cLine) (hm : behindInMarks .NotIn a = false := by rfl) : Ev X H0 ρ (.Compare b [.NotIn] [a] pos) (.bl (!dhas l key)) := fun σ H N rp =>
  we_of (pe_cmp (pc_dnotin hu pe_w pe_w) hm) ((hb σ H N rp).imp fun y H1 ⟨N1, s1, n1, r1, a1⟩ => (ha σ H1 N1 r1).imp fun u H2 ⟨N2, s2, n2, r2, a2⟩ => by
    obtain ⟨q, vs, e1, h1, h2⟩ := at_dic a2
    obtain ⟨o, g1, g2, g3⟩ := dget_of h1 h2 (at_str a1)
    refine ⟨q, o, e1, g1, N2, s1.trans s2, n1.trans n2, r2, ?_⟩
    have : o.isSome = dhas l key := by
      unfold dhas
      cases e : dget l key with
      | none => rw [g3 e]; rfl
      | some v => obtain ⟨w, rfl, _⟩ := g2 v e; rfl
    rw [this]
    exact .bl _)
theorem et_inKm (hb : Ev X H0 ρ b (tx key)) (ha : EvB X H0 ρ a (dicd en l)) (hu : X.A.units + 1 < cLine) (hm : behindInMarks .In a = false := by rfl) : EvT X H0 ρ (.Compare b [.In] [a] pos) (dhas l key) := fun σ H N rp =>
  wt_of (pt_cmp (pc_din hu pe_w pe_w) hm) ((hb σ H N rp).imp fun y H1 ⟨N1, s1, n1, r1, a1⟩ => (ha σ H1 N1 r1).imp fun u H2 ⟨N2, s2, n2, r2, a2⟩ => by
    obtain ⟨q, vs, e1, h1, h2⟩ := at_dic a2
    obtain ⟨o, g1, g2, g3⟩ := dget_of h1 h2 (at_str a1)
    have : o.isSome = dhas l key := by
      unfold dhas
      cases e : dget l key with
      | none => rw [g3 e]; rfl
      | some v => obtain ⟨w, rfl, _⟩ := g2 v e; rfl
    exact ⟨q, o, e1, g1, _, rfl, by rw [this], N2, s1.trans s2, n1.trans n2, r2⟩)
theorem et_ninKm (hb : Ev X H0 ρ b (tx key)) (ha : EvB X H0 ρ a (dicd en l)) (hu : X.A.units + 1 < cLine) (hm : behindInMarks .NotIn a = false := by rfl) : EvT X H0 ρ (.Compare b [.NotIn] [a] pos) (!dhas l key) := fun σ H N rp =>
  wt_of (pt_cmp (pc_dnotin hu pe_w pe_w) hm) ((hb σ H N rp).imp fun y H1 ⟨N1, s1, n1, r1, a1⟩ => (ha σ H1 N1 r1).imp fun u H2 ⟨N2, s2, n2, r2, a2⟩ => by
    obtain ⟨q, vs, e1, h1, h2⟩ := at_dic a2
    obtain ⟨o, g1, g2, g3⟩ := dget_of h1 h2 (at_str a1)
    have : o.isSome = dhas l key := by
      unfold dhas
      cases e : dget l key with
      | none => rw [g3 e]; rfl
      | some v => obtain ⟨w, rfl, _⟩ := g2 v e; rfl
    exact ⟨q, o, e1, g1, _, rfl, by rw [this], N2, s1.trans s2, n1.trans n2, r2⟩)
/-- list(d): the keys -/
theorem atk_keys {K : PySem.W.Frag} {H N : Hp} : ∀ {l : List (List Nat × α)} {vs : List (Key × V)}, Atk K H vs (dm en l) → Ats K N (vs.map fun kv => kV kv.1) ((l.map (·.1)).map tx)
  | [], _, h => by cases h; exact .nil
  | p :: l, _, h => by
    cases h with
    | cons a t => exact .cons (.str _) (atk_keys t)
theorem eo_listDm (ha : EvB X H0 ρ a (dicd en l)) (hc : X.calm = true) (hm : X.mg "list" = none) (hg : Gl X "list" := by rfl) (he : starEach [a] X.env = (false, eval a X.env) :: starEach [] X.env := by rfl) (hpl : (backTo pos (starEach [] X.env)).any (·.1) = false := by rfl) :
    EvO X H0 ρ (.Call (.Name "list" p) [a] [] pos) (lstd tx (l.map (·.1))) := fun σ H N rp =>
  we_of (pe_callTy (call_listD hc) hg hm (by decide +kernel) pa_w (by decide) (by decide) he hpl) ((eab1 ha he σ H N rp).imp fun vs H1 ⟨N1, s1, n1, r1, a1⟩ => by
    obtain ⟨v, e1, e2⟩ := ats_one a1
    obtain ⟨q, us, e3, h1, h2⟩ := at_dic e2
    refine ⟨q, us, by rw [e1, e3], h1, fun q2 hq => ?_⟩
    obtain ⟨r3, n3⟩ := eo_new (o := .lst (us.map fun kv => kV kv.1)) r1 hq
    exact ⟨N1, q2, rfl, s1.free hq, s1.trans (Same.of_none hq), n1, r3, n3, _, upd_same, atk_keys h2⟩)
/-- list(text) -/
theorem call_listS (hc : X.calm = true) : CallR X (.type "list") (fun xs H Q => ∃ l : List Nat, xs = [.str (SX.S l)] ∧ l.length ≤ sizeLine ∧ ∀ q, H q = none → Q (.ref q) (upd H q (.lst (l.map fun c => .str (SX.S [c]))))) := by
  intro pins s σ H xs us Q I r h
  obtain ⟨l, e, hz, q⟩ := h
  subst e
  obtain ⟨u, eu, rx⟩ := vals1 r
  subst eu
  obtain ⟨t, rfl⟩ := (show ∃ t, u = Value.str (SX.S l) t from rx)
  refine call_list_str (I.ok.hd hc) (SX.S l) t (fun h' tk acc' c' hkeep hS hacc => ?_) (by simpa using hz)
  have hsz : acc'.toList.length = l.length := by
    have := hacc.1
    simpa using this
  refine ⟨.ref s.heap.objs.size, upd H s.heap.objs.size (.lst (l.map fun c => .str (SX.S [c]))), I.laid hkeep (Nat.le_refl _) (show ObjOk X.prog X.w _ _ _ (.lst (l.map fun c => V.str (SX.S [c]))) from ⟨by rw [List.length_map]; exact hz, acc'.toList, c', ?_, ?_⟩), rfl, q _ (I.hok.fresh (Nat.le_refl _))⟩
  · refine vals_of_at (by rw [List.length_map, hsz]) fun j x w h1 h2 => ?_
    obtain ⟨c, t', g1, g2⟩ := hacc.2 j w (by rw [← Array.getElem?_toList]; exact h2)
    rw [List.getElem?_map] at h1
    have g3 : l[j]? = some c := by simpa using g1
    rw [g3] at h1
    cases h1
    exact ⟨t', g2⟩
  · rw [Array.toArray_toList]; exact hS
theorem ats_chd {K : PySem.W.Frag} {N : Hp} : ∀ l : List Nat, Ats K N (l.map fun c => V.str (SX.S [c])) (l.map chd)
  | [] => .nil
  | c :: l => .cons (.str _) (ats_chd l)
theorem eo_listSm {l : List Nat} (ha : Ev X H0 ρ a (tx l)) (hz : lenOk l = true) (hc : X.calm = true) (hm : X.mg "list" = none) (hg : Gl X "list" := by rfl) (he : starEach [a] X.env = (false, eval a X.env) :: starEach [] X.env := by rfl) (hpl : (backTo pos (starEach [] X.env)).any (·.1) = false := by rfl) :
    EvO X H0 ρ (.Call (.Name "list" p) [a] [] pos) (lstd chd l) := fun σ H N rp =>
  we_of (pe_callTy (call_listS hc) hg hm (by decide +kernel) pa_w (by decide) (by decide) he hpl) ((eab1 ha.toB he σ H N rp).imp fun vs H1 ⟨N1, s1, n1, r1, a1⟩ => by
    obtain ⟨v, e1, e2⟩ := ats_one a1
    refine ⟨l, by rw [e1, at_str e2], lenOk_ok hz, fun q2 hq => ?_⟩
    obtain ⟨r3, n3⟩ := eo_new (o := .lst (l.map fun c => .str (SX.S [c]))) r1 hq
    refine ⟨N1, q2, rfl, s1.free hq, s1.trans (Same.of_none hq), n1, r3, n3, _, upd_same, ?_⟩
    exact ats_chd l)
/-- tuple(list) -/
theorem ev_tupleLm {l : List α} (f : ∀ a, flat (en a) = true) (ha : EvB X H0 ρ a (lstd en l)) (hm : X.mg "tuple" = none) (hg : Gl X "tuple" := by rfl) (na : starEach [a] X.env = (false, eval a X.env) :: starEach [] X.env := by rfl) : Ev X H0 ρ (.Call (.Name "tuple" p) [a] [] pos) (tpnd en l) := fun σ H N rp =>
  we_of (pe_tupleOf hg hm pe_w na) ((ha σ H N rp).imp fun v H1 ⟨N1, s1, n1, r1, a1⟩ => by
    obtain ⟨q, us, e3, h1, h2⟩ := at_lst a1
    obtain ⟨N2, n2, r2, kp⟩ := r1.keep
    refine .inl ⟨q, us, e3, h1, fun q2 hq => ?_⟩
    obtain ⟨r3, n3⟩ := r2.new (o := .tup us) hq
    exact ⟨_, s1.trans (Same.of_none hq), (n1.trans n2).trans n3, r3, .tup (.inl (.inl upd_same)) ((h2.imm (flats_map f l)).mono (kp.trans n3))⟩)
end
end B

namespace B
open PySem PySem.Spec PyProof.Rows L2
/-! ### sum of a tuple of ints -/
section
variable {prog : Program} {w : World} {A : Around} {E : Value → Shared → Prop} {s : Shared} {l : Addr} {xs : Array (Int × Tok)} {its : List Value} {ns : List Int}
theorem sum_intTupG {Q : Value → Shared → Prop} (hh : A.handled = none) (hl : s.heap.IsTuple l (intItems xs))
    (h : ∀ h' tk t', (∀ b o, s.heap.get? b = some o → h'.get? b = some o) → Q (.int (preSum (numAt xs) xs.size) t') { s with heap := h', toks := tk }) :
    wpAny (model prog w) A (call (.builtin "sum") [.ref l]) Q E s := by
  have hlt : l < s.heap.objs.size := by obtain ⟨_, e, _⟩ := id hl; exact Heap.lt_size e
  refine call_sum_walkG (wpAny_pyIter_tuple hl ?_)
  refine ⟨_, [_, l], [_], _, _, _, numAt xs, rfl, Walks.tuple (A := A.in1) hh _ l (Nat.ne_of_lt hlt) (intItems xs), ⟨⟨_, Heap.get?_push_size _ rfl, rfl, rfl⟩, hl.push _⟩, fun b hb => ?_, (fun _ _ => intItems_at), fun h' tk t' hk => ?_⟩
  · show b < (s.heap.push _).objs.size
    rw [Heap.size_push]
    rcases List.mem_cons.mp hb with rfl | hb
    · exact Nat.lt_succ_self _
    · rcases List.mem_cons.mp hb with rfl | hb
      · exact Nat.lt_succ_of_lt hlt
      · cases hb
  · have := h h' tk t' (fun b o e => hk b o (by simp; exact Nat.ne_of_lt (Heap.lt_size e)) (Heap.get?_push_of_some _ e))
    simpa [intItems] using this
theorem sum_rawT {Q : Value → Shared → Prop} (hh : A.handled = none) (hl : s.heap.IsTuple l its.toArray) (hi : IntsAre its ns)
    (h : ∀ h' tk t', (∀ b o, s.heap.get? b = some o → h'.get? b = some o) → Q (.int ns.sum t') { s with heap := h', toks := tk }) : wpAny (model prog w) A (call (.builtin "sum") [.ref l]) Q E s := by
  obtain ⟨xs, e⟩ := hi.allInts.items
  have hn : numsOf (intItems xs).toList = ns := by rw [← e]; exact hi.numsOf
  rw [nums_intItems] at hn
  rw [e] at hl
  refine sum_intTupG hh hl fun h' tk t' hk => ?_
  have := h h' tk t' hk
  rw [preSum_eq, List.take_of_length_le (by simp), hn]; exact this
end
theorem cr_sumT {X : Cx} (hc : X.calm = true) : CallR X (.builtin "sum") (fun vs H Q => ∃ (a : Addr) (ns : List Int), vs = [V.ref a] ∧ SqT X.K H a (ns.map V.int) ∧ Q (.int ns.sum) H) := by
  intro pins s σ H vs us Q I r h
  obtain ⟨a, ns, rfl, hs, q⟩ := h
  obtain ⟨its, rv, hl, _⟩ := I.tuple hs
  rw [Vals.ref1 r]
  exact sum_rawT (I.ok.hd hc) (show s.heap.IsTuple a its.toArray from hl) rv.ints fun h' tk t' hk => ⟨.int _, H, I.kept hk, ⟨_, rfl⟩, q⟩
/-! ### d.update(d2) -/
theorem KV.merge {kvs : List (Key × V)} {vs : List (Key × Value)} (r : KV kvs vs) : ∀ {more : List (Key × V)} {ms : List (Key × Value)}, KV more ms → KV (more.foldl (fun acc p => putK acc p.1 p.2) kvs) (merged vs ms) := fun {more ms} h => by
  unfold KV at h
  induction h generalizing kvs vs with
  | nil => exact r
  | @cons p q ps qs h t ih =>
    obtain ⟨h1, h2⟩ := h
    have := ih (KV.put r p.1 h2)
    rw [List.foldl_cons]
    show KV _ (List.foldl _ (stored vs q.1 q.2) qs)
    rw [← h1]
    exact this
theorem len_mergeK : ∀ (more kvs : List (Key × V)), (more.foldl (fun acc p => putK acc p.1 p.2) kvs).length ≤ kvs.length + more.length
  | [], kvs => Nat.le_refl _
  | p :: more, kvs => by
    have h1 := len_mergeK more (putK kvs p.1 p.2)
    have h2 := length_putK kvs p.1 p.2
    rw [List.foldl_cons, List.length_cons]
    omega
def rUpd : V → List V → Hp → VK → Prop := fun x xs H Q => ∃ (a b : Addr) (kvs more : List (Key × V)), x = .ref a ∧ xs = [.ref b] ∧ H a = some (.dK kvs) ∧ Rd H b (.dK more) ∧ a ≠ b ∧ kvs.length + more.length ≤ sizeLine ∧ Q .non (upd H a (.dK (more.foldl (fun acc p => putK acc p.1 p.2) kvs)))
theorem mt_update {X : Cx} : MtM X "dict.update" rUpd := by
  intro pins s σ H x vs v us Q I rx rv h
  obtain ⟨a, b, kvs, more, rfl, rfl, ha, hb, hne, hz, q⟩ := h
  cases rx
  obtain ⟨u, rfl, ru⟩ := rv.one
  cases (show u = Value.ref b from ru)
  obtain ⟨z1, hd1, ks, rel1, dd1⟩ := dk_of I.hok ha
  obtain ⟨z2, hd2, ms, rel2, dd2⟩ := dk_rd I.hok hb
  refine call_meetsIn PySem.F.slot_dict_update dd1.typeIs PySem.F.entry_dict_update (PySem.F.args_dict_update_2 _ _) (meets_dict_update (mixKind X.prog X.w) a b hne hd2) ⟨ks, ms, dd1, dd2, by rw [← rel1.length, ← rel2.length]; exact hz, fun h' dd' _ hs => ?_⟩
  have he : ∃ q, h'.get? a = some q := let ⟨q, _, _, hq, _⟩ := dd'; ⟨q, hq⟩
  exact ⟨.non, _, d_write I (by rw [ha]; exact True.intro) hs he (dk_new (Nat.le_trans (len_mergeK more kvs) hz) hd1 (KV.merge rel1 rel2) dd'), rfl, q⟩
/-- one dict put into another -/
def dmerge {α : Type} (l m : List (List Nat × α)) : List (List Nat × α) := m.foldl (fun acc p => dput acc p.1 p.2) l
theorem atk_merge {α : Type} {K : PySem.W.Frag} {H : Hp} {e : α → Dat} : ∀ {m l : List (List Nat × α)} {vs ws : List (Key × V)}, Atk K H vs (dm e l) → Atk K H ws (dm e m) → Atk K H (ws.foldl (fun acc p => putK acc p.1 p.2) vs) (dm e (dmerge l m))
  | [], l, vs, ws, h, g => by cases g; exact h
  | p :: m, l, vs, ws, h, g => by
    cases g with
    | @cons _ v _ ws _ ha ht => exact atk_merge (m := m) (l := dput l p.1 p.2) (vs := putK vs (Sum.inr (SX.S p.1)) v) (ws := ws) (atk_put h p.1 ha) ht
section
variable {X : Cx} {H0 : Hp} {ρ ρ0 ρ1 ρ2 : Env'} {α β γ S S' L R : Type} {a b c e call : Expr} {es : List Expr} {st : Stmt} {sts rest body : List Stmt} {d d1 d2 : Dat} {ds : List Dat} {p pos : Pos} {o o1 : Outc} {x n : Str} {k : Nat} {D : γ → Outc} {m : M α} {en : α → Dat}
theorem ev_sumT {ns : List Int} (ha : EvB X H0 ρ a (tpnd Dat.int ns)) (hc : X.calm = true) (hm : X.mg "sum" = none) (hg : Gl X "sum" := by rfl) (he : starEach [a] X.env = (false, eval a X.env) :: starEach [] X.env := by rfl) (hpl : (backTo pos (starEach [] X.env)).any (·.1) = false := by rfl) :
    Ev X H0 ρ (.Call (.Name "sum" p) [a] [] pos) (.int ns.sum) := ev_blt (cr_sumT hc) hm (by decide +kernel) (eab1 ha he) (fun vs σ H N Q r q g => by
    obtain ⟨v, e1, e2⟩ := ats_one q
    obtain ⟨pp, us, e3, h1, h2⟩ := at_seq e2
    rw [h2.ints] at h1
    exact ⟨pp, ns, by rw [e1, e3], h1, goes_self g r (.int _)⟩) hg (by decide) (by decide) he hpl
/-- tuple + tuple -/
theorem ev_catTm {l m : List α} (ha : Ev X H0 ρ a (tpnd en l)) (hb : Ev X H0 ρ b (tpnd en m)) (h : catOk l m = true) : Ev X H0 ρ (.BinOp a .Add b pos) (tpnd en (l ++ m)) := fun σ H N rp =>
  we_of (pe_op op_catA pe_w pe_w) ((ha σ H N rp).imp fun v H1 ⟨N1, s1, n1, r1, a1⟩ => (hb σ H1 N1 r1).imp fun w H2 ⟨N2, s2, n2, r2, a2⟩ => by
    have a1' := a1.mono n2
    obtain ⟨p1, vs, e1, h1, h2⟩ := at_seq a1'
    obtain ⟨p2, ws, e2, h3, h4⟩ := at_seq a2
    have hz := catOk_ok h
    refine ⟨p1, p2, vs, ws, e1, e2, sqt_same r2.sub h1, sqt_same r2.sub h3, by rw [h2.length, h4.length, List.length_map, List.length_map]; exact hz, fun q => ?_, fun q1 q2 => ?_, fun q1 q2 q hq => ?_⟩
    · have : l = [] := by
        have := h2.length
        rw [q, List.length_map] at this
        exact List.length_eq_zero_iff.mp this.symm
      subst this
      rw [← e2]
      exact ⟨N2, s1.trans s2, n1.trans n2, r2, a2⟩
    · have : m = [] := by
        have := h4.length
        rw [q2, List.length_map] at this
        exact List.length_eq_zero_iff.mp this.symm
      subst this
      rw [← e1, List.append_nil]
      exact ⟨N2, s1.trans s2, n1.trans n2, r2, a1'⟩
    · obtain ⟨r5, n5⟩ := r2.new (o := .tup (vs ++ ws)) hq
      refine ⟨_, (s1.trans s2).trans (Same.of_none hq), (n1.trans n2).trans n5, r5, .tup (.inl (.inl upd_same)) ?_⟩
      rw [List.map_append]
      exact (h2.mono n5).append (h4.mono n5))
theorem xm_dupd {l m : List (List Nat × α)} {f : List (List Nat × α) → M γ} (i : Nat) {y : Str} {p1 p2 p3 : Pos} (hi : ρ[i]? = some (.ow (dicd en l))) (h : Ev X H0 ρ e (dicd en m)) (hz : catOk l m = true) (tt : ∀ l, ExM X H0 (ρ.set i (.ow (dicd en l))) k rest D (f l)) (hN : X.N[i]? = some y := by rfl) (hv : Vis X.env.scope y := by first | exact Or.inl rfl | exact Or.inr (Or.inl rfl) | exact Or.inr (Or.inr rfl))
    (hd : (y == ("__debug__" : Str)) = false := by decide) (hcd : (y == ("__classdict__" : Str)) = false := by decide)
    (hpe : ∀ to t, PE X (.Name y p1) to → PA X [e] t → PE X (.Call (.Attribute (.Name y p1) "update" p2) [e] [] p3) (tBM X.K "dict" rUpd to t) := by exact fun _ _ h g => pe_bm PySem.F.plainAttrs_dict PySem.F.slot_dict_update PySem.F.type_dict_update mt_update h g)
    (he : starEach [e] X.env = (false, eval e X.env) :: starEach [] X.env := by rfl) (hs : swapsWith (.Call (.Attribute (.Name y p1) "update" p2) [e] [] p3) none pos.line X.env = pure false := by rfl) :
    ExM X H0 ρ k (.Expr (.Call (.Attribute (.Name y p1) "update" p2) [e] [] p3) pos :: rest) D (M.lt (dmerge l m) f) := by
  refine xm_then (ρ1 := ρ.set i (.ow (dicd en (dmerge l m)))) (fun Dd σ H N r kk => ?_) (tt (dmerge l m))
  obtain ⟨q, g1, g2, g3, vs, g4, g5⟩ := r.ow i _ hi
  refine ws_of (ps_expr (hpe _ _ (pv i hN hv hd hcd) (pa_cons pe_w pa_nil he)) hs) ⟨_, g1, ?_, (h σ H N r).imp fun v H1 ⟨N1, s1, n1, r1, a1⟩ => ?_⟩
  · exact .inr (.inr (.inl ⟨rfl, .inl ⟨_, g4⟩⟩))
  obtain ⟨q', f1, f2, f3, us, f4, f5⟩ := r1.ow i _ hi
  rw [g1] at f1
  cases f1
  obtain ⟨b, ws, e1, h1, h2⟩ := at_dic a1
  have hne : q ≠ b := fun z => by
    subst z
    rcases h1 with h1 | ⟨_, h1⟩ <;> (rw [f3] at h1; cases h1)
  refine ⟨q, b, us, ws, rfl, by rw [e1], f4, rd_mono r1.sub h1, hne, by rw [atk_len f5, atk_len h2, List.length_map, List.length_map]; exact catOk_ok hz, kk σ _ N1 n1 ?_⟩
  exact r1.write hi g1 ⟨_, upd_same, atk_merge f5 h2⟩
/-- s.index(a sign that is there) -/
theorem index_one {L : List Nat} {c : Nat} (h : c ∈ L) : Txt.index0 (SX.S L) (SX.S [c]) = some (L.idxOf c) := by
  have hlt : L.idxOf c < L.length := List.idxOf_lt_length_iff.mpr h
  have hg : L[L.idxOf c]? = some c := by rw [List.getElem?_eq_getElem hlt, List.getElem_idxOf hlt]
  have ho : Builtin.Str.occurrences (SX.S L) (SX.S [c]) 0 (SX.S L).length 1 = [L.idxOf c] := by
    rw [StrLaws.occ_eq]
    refine occ_at L c _ hg _ 0 0 (Nat.le_refl _) (Nat.zero_le _) (by rw [SX.S_len]; omega) (fun i _ hi e => ?_)
    have hil : i < L.length := by omega
    rw [List.getElem?_eq_getElem hil] at e
    have q := List.not_of_lt_findIdx (p := (· == c)) (xs := L) hi
    have e2 := Option.some.inj e
    simp [e2] at q
  unfold Txt.index0
  rw [ho]
  rfl
theorem ev_indexX {l : List Nat} {c : Nat} {apos : Pos} (ha : Ev X H0 ρ a (tx l)) (hb : Ev X H0 ρ b (tx [c])) (h : c ∈ l) (hc : X.calm = true := by rfl)
    (hpe : ∀ to t, PE X a to → PA X [b] t → PE X (.Call (.Attribute a "index" apos) [b] [] pos) (tBMS X.K "str" (rIndexX (fun _ _ _ _ => False)) to t) := by exact fun _ _ h g => pe_bmS PySem.F.plainAttrs_str PySem.F.slot_str_index PySem.F.type_str_index (mt_indexX rfl takes0) h g)
    (he : starEach [b] X.env = (false, eval b X.env) :: starEach [] X.env := by rfl) : Ev X H0 ρ (.Call (.Attribute a "index" apos) [b] [] pos) (.int ((l.idxOf c : Nat) : Int)) := fun σ H N rp =>
  we_of (hpe _ _ pe_w (pa_cons pe_w pa_nil he)) ((ha σ H N rp).imp fun v H1 ⟨N1, s1, n1, r1, a1⟩ => by
    rw [at_str a1]
    refine ⟨rfl, (hb σ H1 N1 r1).imp fun w H2 ⟨N2, s2, n2, r2, a2⟩ => ?_⟩
    rw [at_str a2]
    refine ⟨_, _, rfl, rfl, fun k hk => ?_, fun hk => ?_⟩
    · rw [index_one h] at hk
      cases hk
      exact ⟨N2, s1.trans s2, n1.trans n2, r2, .int _⟩
    · rw [index_one h] at hk
      cases hk)
end
/-! ### defs whose last parameter has a default -/
/-- such a def of the text as it stands behind the top -/
def DfD (K : PySem.W.Frag) (mg : Str → Option Value) (x : Str) (st : Stmt) (ps : List Str) (v : V) : Prop := ∃ f fd, FunD K x x (defArgs st) (defBody st) (defScope st) [v] [] f fd ∧ mg x = some (.ref f) ∧ Binds K fd ps [] ∧ ∃ d, Vals [v] [d] ∧ Binds K fd ps [d]
def GFnD (P : Program) (w : World) (K : PySem.W.Frag) (mg : Str → Option Value) (base : Heap) (x : Str) (k : Nat) (v : V) (R : List Dat → Res → Prop) : Prop :=
  ∃ f fd ps, FnOk P w K mg base (L2.CX P w) k f fd ps (spR K mg R) ∧ mg x = some (.ref f) ∧ PySem.W.keepIn K (.ref f) = true ∧ Binds K fd ps [] ∧ ∃ d, Vals [v] [d] ∧ Binds K fd ps [d]
theorem GFnD.all {P : Program} {w : World} {K : PySem.W.Frag} {mg : Str → Option Value} {base : Heap} {x : Str} {k : Nat} {v : V} {R : List Dat → Res → Prop} (G : GFnD P w K mg base x k v R) : GFn P w K mg base x k R := by
  obtain ⟨f, fd, ps, h1, h2, h3, h4, _⟩ := G
  exact ⟨f, fd, ps, h1, h2, h3, h4⟩
section
variable {P : Program} {w : World} {K : PySem.W.Frag} {mg : Str → Option Value} {base : Heap} {x : Str} {st : Stmt} {ps N : List Str} {k : Nat} {R : List Dat → Res → Prop} {v : V}
theorem GFnD.mk2 (D : DfD K mg x st ps v) (S : FnScope N ps (defScope st)) (hl : ∀ ds o, R ds o → ds.length = ps.length)
    (body : ∀ (f : Addr) (cdv : Value) (A : Around) (outer : List PySem.Env) (s : Shared) (H : Hp) (E : XK), Room k (XX P w K mg base N x st f cdv A outer s H E).A → ∀ ds o, R ds o → ∃ es, Ents es ds ∧ ∀ H0, Ends' (XX P w K mg base N x st f cdv A outer s H E) H0 (es ++ List.replicate (N.length - ps.length) .no) (defBody st) o) : GFnD P w K mg base x (k + 1) v R := by
  obtain ⟨f, fd, F, hm, hb, hd⟩ := D
  refine ⟨f, fd, ps, ?_, hm, F.kp, hb, hd⟩
  refine F.ok S (fun vs H Q E ⟨_, ds, o, hr, a, _⟩ => by rw [a.length]; exact hl ds o hr) fun cdv A outer s H vs Q E hr hsp => ?_
  obtain ⟨tk, ds, o, hR, a, q⟩ := hsp
  obtain ⟨es, he, hbody⟩ := body f cdv A outer s H E hr ds o hR
  have hlen : vs.length = ps.length := by rw [a.length]; exact hl ds o hR
  have r : Rep K H (es ++ List.replicate (N.length - ps.length) .no) (L2.start N vs) H (Imm H) := hlen ▸ rep_start tk he a
  have hb := hbody H
  refine ⟨_, pb_w, ?_⟩
  cases hb with
  | ret h => exact h { nx := fun _ H' => Q .non H', rt := Q } _ _ _ r fun v H' s _ rt => q v H' s rt
  | non h => exact h { nx := fun _ H' => Q .non H', rt := Q } _ _ _ r fun σ H' N' s r' => q .non H' r'.old ⟨r'.tab, N', r'.sub, r'.fresh, .non⟩
  | own h => exact h { nx := fun _ H' => Q .non H', rt := Q } _ _ _ r fun p H' N' tk s1 _ s2 s3 s4 s5 s6 => q p H' N' tk s1 s2 s3 s4 s5 s6
  | exc h => exact h { nx := fun _ H' => Q .non H', rt := Q } _ _ _ r ⟨_, takes_of rfl rfl rfl rfl, fun C σ H' N' hm s r' => q C H' hm r'.tab r'.old⟩
end
section
variable {X : Cx} {H0 : Hp} {ρ : Env'} {α : Type} {e : Expr} {es : List Expr} {ds : List Dat} {p pos : Pos} {x : Str} {m : M α} {en : α → Dat}
/-- a call that leaves the last one to its default, a text -/
theorem evm_callD {R : List Dat → Res → Prop} {kk : Nat} {z : Str} (G : GFnD X.prog X.w X.K X.mg X.base x kk (.str z) R) (hr : Room kk X.A) (ha : EvAB X H0 ρ (e :: es) ds) (q : ∀ o, Rm en m o → R (ds ++ [.str z]) o) (hg : Gl X x := by rfl) (hdb : (x == ("__debug__" : Str)) = false := by decide)
    (he : starEach (e :: es) X.env = (false, eval e X.env) :: starEach es X.env := by rfl) (hpl : (backTo pos (starEach es X.env)).any (·.1) = false := by rfl) : EvM X H0 ρ (.Call (.Name x p) (e :: es) [] pos) en m.nox := by
  cases m with
  | ok v =>
    intro σ H N r
    obtain ⟨f, fd, ps, F, hm, hk, _, d, hv, hb⟩ := G
    refine we_of (pe_call F hr hg hm hk hb hv passL pa_w hdb he hpl) ((ha σ H N r).imp fun vs H1 ⟨N1, s1, n1, r1, a1⟩ => ⟨r1.tab, ds ++ [.str z], .val (en v), q _ rfl, a1.append (.cons (.str z) .nil), fun v H' s' rt => ?_⟩)
    obtain ⟨N2, n2, r2, a2⟩ := r1.ret s' rt
    exact ⟨N2, s1.trans s', n1.trans n2, r2, a2⟩
  | ex n => trivial
  | far => trivial
end
end B

namespace B
open PySem PySem.Spec PyProof.Rows L2
section
variable {α : Type} {X : Cx} {H0 : Hp} {ρ : Env'} {e : Expr}
/-- what may be None and is not -/
theorem ev_optS {en : α → Dat} {o : Option α} {r : α} (h : o = some r) (p : Ev X H0 ρ e (optd en o)) : Ev X H0 ρ e (en r) := by subst h; exact p
end
/-! ### l.extend(a new list) -/
section
variable {X : Cx} {H0 : Hp} {ρ ρ1 : Env'} {α β γ S S' L R : Type} {e : Expr} {st : Stmt} {rest body : List Stmt} {d : Dat} {ds : List Dat} {pos : Pos} {k : Nat} {D : γ → Outc}
theorem xm_extend {en : β → Dat} {l m : List β} {f : List β → M γ} (i : Nat) {y : Str} {p1 p2 p3 : Pos} (hi : ρ[i]? = some (.ow (lstd en l))) (h : EvO X H0 ρ e (lstd en m)) (hz : catOk l m = true) (tt : ∀ l, ExM X H0 (ρ.set i (.ow (lstd en l))) k rest D (f l)) (hN : X.N[i]? = some y := by rfl) (hv : Vis X.env.scope y := by first | exact Or.inl rfl | exact Or.inr (Or.inl rfl) | exact Or.inr (Or.inr rfl))
    (hd : (y == ("__debug__" : Str)) = false := by decide) (hcd : (y == ("__classdict__" : Str)) = false := by decide)
    (hpe : ∀ to t, PE X (.Name y p1) to → PA X [e] t → PE X (.Call (.Attribute (.Name y p1) "extend" p2) [e] [] p3) (tBM X.K "list" rExtend to t) := by exact fun _ _ h g => pe_bm PySem.F.plainAttrs_list PySem.F.slot_list_extend PySem.F.type_list_extend mt_extend h g)
    (he : starEach [e] X.env = (false, eval e X.env) :: starEach [] X.env := by rfl) (hs : swapsWith (.Call (.Attribute (.Name y p1) "extend" p2) [e] [] p3) none pos.line X.env = pure false := by rfl) :
    ExM X H0 ρ k (.Expr (.Call (.Attribute (.Name y p1) "extend" p2) [e] [] p3) pos :: rest) D (M.lt (l ++ m) f) := by
  refine xm_then (ρ1 := ρ.set i (.ow (lstd en (l ++ m)))) (fun Dd σ H N r kk => ?_) (tt (l ++ m))
  obtain ⟨q, g1, g2, g3, vs, g4, g5⟩ := r.ow i _ hi
  refine ws_of (ps_expr (hpe _ _ (pv i hN hv hd hcd) (pa_cons pe_w pa_nil he)) hs) ⟨_, g1, .inl ⟨rfl, _, .inl (.inl g4)⟩, (h σ H N r).imp fun v H1 ⟨N1, p, e1, hp0, s1, n1, r1, np, ws, w1, w2⟩ => ?_⟩
  obtain ⟨q', f1, f2, f3, us, f4, f5⟩ := r1.ow i _ hi
  rw [g1] at f1
  cases f1
  refine ⟨q, p, us, ws, rfl, by rw [e1], f4, w1, by rw [f5.length, w2.length, List.length_map, List.length_map]; exact catOk_ok hz, kk σ _ N1 n1 ?_⟩
  refine r1.write hi g1 ⟨us ++ ws, upd_same, ?_⟩
  rw [List.map_append]
  exact f5.append w2
/-! ### an owned list that is only read for a while -/
/-- nothing that was handed in is held -/
def noOl (ρ : Env') : Prop := ∀ (j : Nat) (d : Dat), ρ[j]? ≠ some (Ent.ol d)
open Classical in
/-- what was there ahead, with an owned list and all that no one can change -/
noncomputable def Hb (H0 N : Hp) (p : Addr) (o : HO) : Hp := fun a => if a = p then some o else match H0 a with | some u => some u | none => Imm N a
theorem hb_p {H0 N : Hp} {p : Addr} {o : HO} : Hb H0 N p o p = some o := by unfold Hb; rw [if_pos rfl]
theorem hb_old {H0 N : Hp} {p : Addr} {o : HO} (h : H0 p = none) : Same H0 (Hb H0 N p o) := fun a u e => by
  unfold Hb
  have : a ≠ p := fun q => by rw [q, h] at e; cases e
  rw [if_neg this, e]
  exact .eq u
theorem hb_cs {H0 N : Hp} {p a : Addr} {o u : HO} (h : Hb H0 N p o a = some u) : (a = p ∧ u = o) ∨ (a ≠ p ∧ (H0 a = some u ∨ Imm N a = some u)) := by
  unfold Hb at h
  by_cases q : a = p
  · rw [if_pos q] at h
    exact .inl ⟨q, (Option.some.inj h).symm⟩
  · rw [if_neg q] at h
    refine .inr ⟨q, ?_⟩
    cases e : H0 a with
    | some w => rw [e] at h; exact .inl h
    | none => rw [e] at h; exact .inr h
theorem hb_none {H0 N : Hp} {p a : Addr} {o : HO} (h1 : a ≠ p) (h2 : H0 a = none) (h3 : Imm N a = none) : Hb H0 N p o a = none := by
  unfold Hb
  rw [if_neg h1, h2]
  exact h3
theorem Rep.borrow {K : PySem.W.Frag} {H0 H N : Hp} {ρ : Env'} {σ : L2.St} (r : Rep K H0 ρ σ H N) {i : Nat} {p : Addr} {vs : List V} {ds : List Dat} (hi : ρ[i]? = some (.ow (.lst ds))) (hn : noOl ρ) (hp : σ[i]? = some (some (V.ref p))) (h0 : H0 p = none) (np : N p = none) (hh : H p = some (.lst vs)) (ha : Ats K N vs ds) (f : flats ds = true) :
    Rep K (Hb H0 N p (.lst vs)) (ρ.set i (.rf p)) σ H N ∧ Ats K (Imm (Hb H0 N p (.lst vs))) vs ds := by
  have m : Mut (some (HO.lst vs)) := trivial
  refine ⟨⟨r.tab, fun a u e => ?_, r.sub, fun a u e => ?_, fun a u e mu => ?_, by rw [List.length_set]; exact r.len, fun j d e => ?_, fun j d e => ?_, fun j d e => ?_, fun j a e => ?_, fun j k d d' q ne a b c => ?_⟩, (ha.imm f).mono fun a u e => ?_⟩
  · rcases hb_cs e with ⟨rfl, rfl⟩ | ⟨_, e | e⟩
    · exact Cg.of hh
    · exact r.old a u e
    · exact r.sub a u (imm_eq e)
  · have mu := imm_not e
    rcases hb_cs (imm_eq e) with ⟨rfl, rfl⟩ | ⟨_, e | e⟩
    · exact absurd m mu
    · exact r.imm a u (imm_of e mu)
    · exact Cg.of (imm_eq e)
  · refine hb_none (fun q => by rw [q, np] at e; cases e) (r.fresh a u e mu) ?_
    cases q : Imm N a with
    | none => rfl
    | some w =>
      have := imm_eq q
      rw [e] at this
      cases this
      exact absurd mu (imm_not q)
  · rcases get_set e with ⟨_, z⟩ | ⟨_, e⟩
    · cases z
    · exact r.im j d e
  · rcases get_set e with ⟨_, z⟩ | ⟨_, e⟩
    · cases z
    · exact absurd e (hn j d)
  · rcases get_set e with ⟨_, z⟩ | ⟨ne, e2⟩
    · cases z
    · obtain ⟨p', a1, a2, a3, a4⟩ := r.ow j d e2
      refine ⟨p', a1, hb_none (fun q => ?_) a2 ?_, a3, a4⟩
      · subst q
        exact r.apart j i _ _ _ ne e2 hi a1 hp
      · cases q : Imm N p' with
        | none => rfl
        | some w => have := imm_eq q; rw [a3] at this; cases this
  · rcases get_set e with ⟨rfl, z⟩ | ⟨_, e⟩
    · cases z; exact hp
    · exact r.rf j a e
  · rcases get_set a with ⟨_, z⟩ | ⟨_, a⟩
    · cases z
    rcases get_set b with ⟨_, z⟩ | ⟨_, b⟩
    · cases z
    exact r.apart j k d d' q ne a b c
  · have mu := imm_not e
    have e1 := imm_eq e
    have ne : a ≠ p := fun q => by rw [q, np] at e1; cases e1
    cases q : H0 a with
    | none =>
      refine Cg.of (imm_of ?_ mu)
      unfold Hb
      rw [if_neg ne, q]
      exact e
    | some w =>
      have c := (r.sub a u e1).swap (r.old a w q)
      have e2 : Hb H0 N p (.lst vs) a = some w := by unfold Hb; rw [if_neg ne, q]
      rw [imm_of e2 (c.nm mu)]
      exact c
/-- what was lent comes back: nothing of what was there ahead is asked -/
theorem Rep.lower {K : PySem.W.Frag} {H0 H N N0 : Hp} {ρ : Env'} {σ : L2.St} {p : Addr} {vs : List V} (r : Rep K (Hb H0 N0 p (.lst vs)) ρ σ H N) (h0 : H0 p = none) (hn : noOl ρ) : Rep K H0 ρ σ H N := by
  have so := hb_old (N := N0) (o := HO.lst vs) h0
  have none0 : ∀ {a : Addr}, Hb H0 N0 p (.lst vs) a = none → H0 a = none := fun {a} e => by
    cases q : H0 a with
    | none => rfl
    | some u =>
      have c := so a u q
      rw [e] at c
      cases c
  refine ⟨r.tab, so.trans r.old, r.sub, (imm_same so).trans r.imm, fun a o e m => none0 (r.fresh a o e m), r.len, r.im, fun j d e => absurd e (hn j d), fun j d e => ?_, r.rf, r.apart⟩
  obtain ⟨q, a1, a2, a3, a4⟩ := r.ow j d e
  exact ⟨q, a1, none0 a2, a3, a4⟩
theorem Rep.regain {K : PySem.W.Frag} {H0 H N N0 : Hp} {ρ : Env'} {σ : L2.St} {i : Nat} {p : Addr} {vs : List V} {ds : List Dat} (r : Rep K (Hb H0 N0 p (.lst vs)) ρ σ H N) (h0 : H0 p = none) (hn : noOl ρ) (hi : ρ[i]? = some (.rf p)) (ha : Ats K N vs ds) : Rep K H0 (ρ.set i (.ow (.lst ds))) σ H N := by
  have m : Mut (some (HO.lst vs)) := trivial
  have hh := (r.old p _ hb_p).e
  have np : N p = none := by
    cases q : N p with
    | none => rfl
    | some u =>
      have e1 := r.sub p u q
      rw [hh] at e1
      cases e1
      have := r.fresh p _ q m
      rw [hb_p] at this
      cases this
  have hs := r.rf i p hi
  have b := r.lower h0 hn
  have ne : ∀ {j : Nat} {d : Dat} {q : Addr}, ρ[j]? = some (.ow d) → σ[j]? = some (some (V.ref q)) → q ≠ p := fun {j d q} e z y => by
    subst y
    obtain ⟨q', a1, a2, a3, a4⟩ := r.ow j d e
    rw [z] at a1
    cases a1
    rw [hb_p] at a2
    cases a2
  refine ⟨b.tab, b.old, b.sub, b.imm, b.fresh, by rw [List.length_set]; exact b.len, fun j d e => ?_, fun j d e => ?_, fun j d e => ?_, fun j a e => ?_, fun j k d d' q jk a c z y => ?_⟩
  · rcases get_set e with ⟨_, z⟩ | ⟨_, e⟩
    · cases z
    · exact b.im j d e
  · rcases get_set e with ⟨_, z⟩ | ⟨_, e⟩
    · cases z
    · exact b.ol j d e
  · rcases get_set e with ⟨rfl, z⟩ | ⟨_, e⟩
    · cases z
      exact ⟨p, hs, h0, np, vs, hh, ha⟩
    · exact b.ow j d e
  · rcases get_set e with ⟨_, z⟩ | ⟨_, e⟩
    · cases z
    · exact b.rf j a e
  · rcases get_set a with ⟨rfl, _⟩ | ⟨nj, a⟩
    · rw [hs] at z
      cases z
      rcases get_set c with ⟨rfl, _⟩ | ⟨_, c⟩
      · exact jk rfl
      · exact ne c y rfl
    · rcases get_set c with ⟨ek, _⟩ | ⟨_, c⟩
      · rw [ek, hs] at y
        cases y
        exact ne a z rfl
      · exact b.apart j k d d' q jk a c z y
/-- how the statement's end looks behind the loan -/
def Bk (i : Nat) (ds : List Dat) (p : Addr) : Outc → Outc → Prop
  | .nx ρ', .nx ρ => ρ'[i]? = some (.rf p) ∧ noOl ρ' ∧ ρ = ρ'.set i (.ow (.lst ds))
  | .rt d, .rt d' => d = d'
  | .ro d, .ro d' => d = d'
  | .ex n ρ', .ex n' ρ => n = n' ∧ ρ = ρ' ∧ noOl ρ'
  | _, _ => False
theorem sx_borrow {i : Nat} {o : Outc} (o' : Addr → Outc) (hi : ρ[i]? = some (.ow (.lst ds))) (hn : noOl ρ) (f : flats ds = true) (h : ∀ (H0' : Hp) (p : Addr) (vs : List V), H0' p = some (.lst vs) → Ats X.K (Imm H0') vs ds → ExS X H0' (ρ.set i (.rf p)) st (o' p)) (hb : ∀ p, Bk i ds p (o' p) o) : ExS X H0 ρ st o := fun D σ H N r c => by
  obtain ⟨p, e1, h0, np, vs, hh, ha⟩ := r.ow i _ hi
  obtain ⟨r1, a1⟩ := r.borrow hi hn e1 h0 np hh ha f
  refine h _ p vs hb_p a1 D σ H N r1 ?_
  have so := hb_old (N := N) (o := HO.lst vs) h0
  have none0 : ∀ {a : Addr}, Hb H0 N p (.lst vs) a = none → H0 a = none := fun {a} e => by
    cases q : H0 a with
    | none => rfl
    | some u =>
      have c := so a u q
      rw [e] at c
      cases c
  have hb := hb p
  cases e : o' p with
  | nx ρ' =>
    rw [e] at hb
    cases o with
    | nx ρ2 =>
      obtain ⟨b1, b2, rfl⟩ := hb
      exact fun σ' H' N' s r' => c σ' H' N' s (r'.regain h0 b2 b1 (ha.mono s))
    | _ => exact hb.elim
  | rt d =>
    rw [e] at hb
    cases o with
    | rt d' =>
      cases (show d = d' from hb)
      exact fun v H' s sn ⟨tk, N', q1, q2, q3⟩ => c v H' (so.trans s) sn ⟨tk, N', q1, fun a u z m => none0 (q2 a u z m), q3⟩
    | _ => exact hb.elim
  | ro d =>
    rw [e] at hb
    cases o with
    | ro d' =>
      cases (show d = d' from hb)
      exact fun q H' N' tk s1 sn s2 s3 s4 s5 s6 => c q H' N' tk (so.trans s1) sn s2 (fun a u z m => none0 (s3 a u z m)) (none0 s4) s5 s6
    | _ => exact hb.elim
  | ex n ρ' =>
    rw [e] at hb
    cases o with
    | ex n' ρ2 =>
      obtain ⟨rfl, rfl, b2⟩ := hb
      obtain ⟨W, t, k⟩ := c
      exact ⟨W, t, fun C σ' H' N' m s r' => k C σ' H' N' m s (r'.lower h0 b2)⟩
    | _ => exact hb.elim
  | bk ρ' => rw [e] at hb; cases o <;> exact hb.elim
  | ct ρ' => rw [e] at hb; cases o <;> exact hb.elim
/-- a walk of what lies at an address that no one changes -/
theorem itm_rf {en : β → Dat} {l : List β} {p : Addr} {vs : List V} (i : Nat) {t : Expr} {x : Str} (h : ρ[i]? = some (.rf p)) (h1 : H0 p = some (.lst vs)) (h2 : Ats X.K (Imm H0) vs (l.map en)) (hN : X.N[i]? = some x := by rfl) (hv : Vis X.env.scope x := by first | exact Or.inl rfl | exact Or.inr (Or.inl rfl) | exact Or.inr (Or.inr rfl)) (hd : (x == ("__debug__" : Str)) = false := by decide)
    (hcd : (x == ("__classdict__" : Str)) = false := by decide) : Iter X H0 ρ t (.Name x pos) (l.map en) := ⟨_, pi_list (pv i hN hv hd hcd), fun σ H N r R k => by
  have h1' : SqL X.K H0 p vs := .inl (.inl h1)
  refine ⟨_, r.rf i _ h, p, rfl, ⟨vs, sql_same r.old h1'⟩, k _ H N (Same.refl _) (Same.refl _) r fun H02 ρ2 σ2 H2 N2 j s02 s2 r2 => ⟨fun hi => ?_, fun hi => ⟨vs, sql_same (s02.trans r2.old) h1', by rw [h2.length]; exact Nat.le_of_eq hi.symm⟩⟩⟩
  have hv : j < vs.length := by rw [h2.length]; exact hi
  refine ⟨⟨vs, vs[j], sql_same (s02.trans r2.old) h1', by simp [hv]⟩, fun x H3 y => ?_⟩
  obtain ⟨rfl, y⟩ := y
  obtain ⟨d, e2, e3⟩ := h2.getV (y vs (sql_same (s02.trans r2.old) h1'))
  exact ⟨N2, d, Same.refl _, Same.refl _, r2, e2, (e3.mono (imm_same s02)).mono r2.imm⟩⟩
theorem forF_no {α S L R : Type} {f : α → S → M (Fl S S R)} : ∀ (xs : List α) (s : S) (z : L), (forF f xs s : M (Fl S L R)) ≠ .ok (.ct z) ∧ (forF f xs s : M (Fl S L R)) ≠ .ok (.bk z)
  | [], s, z => ⟨(fun h => by cases h), (fun h => by cases h)⟩
  | x :: xs, s, z => by
    unfold forF
    cases f x s with
    | ok v =>
      cases v with
      | nx s' => exact forF_no xs s' z
      | ct s' => exact forF_no xs s' z
      | bk s' => exact ⟨(fun h => by cases h), (fun h => by cases h)⟩
      | rt r => exact ⟨(fun h => by cases h), (fun h => by cases h)⟩
    | ex n => exact ⟨(fun h => by cases h), (fun h => by cases h)⟩
    | far => exact ⟨(fun h => by cases h), (fun h => by cases h)⟩
theorem noOl_no (k : Nat) : noOl (List.replicate k .no) := fun j d e => by
  have := List.eq_of_mem_replicate (List.mem_of_getElem? e)
  cases this
theorem noOl_set {ρ : Env'} {i : Nat} {p : Addr} (h : noOl ρ) : noOl (ρ.set i (.rf p)) := fun j d e => by
  rcases get_set e with ⟨_, z⟩ | ⟨_, e⟩
  · cases z
  · exact h j d e
/-- .. as reckoned -/
def noOlB (ρ : Env') : Bool := ρ.all fun e => match e with
  | .ol _ => false
  | _ => true
theorem noOl_of {ρ : Env'} (h : noOlB ρ = true) : noOl ρ := fun j d e => by
  have := List.all_eq_true.mp h _ (List.mem_of_getElem? e)
  cases this
/-- for x in an owned list that stays one's own -/
theorem xm_forJB {en : β → Dat} {t : Expr} {bd : Dat → Env' → Env'} {ok : Dat → Prop} {eS : S → Env'} {eL : L → Env'} {eS' : S' → Env'} {oR : R → Outc} {xs : List β} {s0 : S} {f : β → S → M (Fl S S R)} {fk : S → M (Fl S' L R)} (i : Nat) {y : Str} {p1 : Pos} (hR : ∀ r, ∃ d, oR r = .rt d ∨ oR r = .ro d) (hp : PassesOwn (model X.prog X.w) X.A X.env X.xe) (hc : X.calm = true) (fl : ∀ a, flat (en a) = true) (hg : ∀ H0, Tgt X H0 t ok bd) (hok : ∀ d ∈ xs.map en, ok d) (h0 : ρ = eS s0)
    (hs : ∀ s, (eS s)[i]? = some (.ow (lstd en xs))) (hn : ∀ s, noOl (eS s)) (hb : ∀ H0 p x s, ExM X H0 (bd (en x) ((eS s).set i (.rf p))) k body (Fl.D (fun s => (eS s).set i (.rf p)) (fun s => (eS s).set i (.rf p)) oR) (f x s)) (tt : ∀ s, ExM X H0 (eS s) k rest (Fl.D eS' eL oR) (fk s))
    (hN : X.N[i]? = some y := by rfl) (hv : Vis X.env.scope y := by first | exact Or.inl rfl | exact Or.inr (Or.inl rfl) | exact Or.inr (Or.inr rfl)) (hd : (y == ("__debug__" : Str)) = false := by decide) (hcd : (y == ("__classdict__" : Str)) = false := by decide)
    (hsf : ∀ x, foldedSetIterable (.Name y p1) X.env x = pure x := by intro _; rfl) : ExM X H0 ρ k (.For t (.Name y p1) body [] pos :: rest) (Fl.D eS' eL oR) (M.seq (forF f xs s0) fk) := by
  refine ex_flow (fun r => out_of (hR r)) ?_ tt
  subst h0
  have back : ∀ (s : S) (p : Addr), (((eS s).set i (.rf p))[i]? = some (.rf p)) ∧ eS s = ((eS s).set i (.rf p)).set i (.ow (lstd en xs)) := fun s p => by
    have hl := lt_of_get (hs s)
    refine ⟨List.getElem?_set_self hl, ?_⟩
    rw [List.set_set]
    have e := hs s
    rw [List.getElem?_eq_getElem hl] at e
    rw [← Option.some.inj e, List.set_getElem_self]
  have go : ∀ (H0' : Hp) (p : Addr) (vs : List V), H0' p = some (.lst vs) → Ats X.K (Imm H0') vs (xs.map en) → ExSM X H0' ((eS s0).set i (.rf p)) k (.For t (.Name y p1) body [] pos) (Fl.D (fun s => (eS s).set i (.rf p)) eL oR) (forF f xs s0 : M (Fl S L R)) := fun H0' p vs e1 e2 =>
    sx_forM hR hp hc (itm_rf i (back s0 p).1 e1 e2 hN hv hd hcd) (hg H0') hok rfl (fun x s => hb H0' p x s) hsf
  have fls := flats_map fl xs
  cases e : (forF f xs s0 : M (Fl S L R)) with
  | ok v =>
    rw [e] at go
    refine sx_borrow (fun p => Fl.D (fun s => (eS s).set i (.rf p)) eL oR v) (hs s0) (hn s0) fls go fun p => ?_
    cases v with
    | nx s => exact ⟨(back s p).1, noOl_set (hn s), (back s p).2⟩
    | ct s => exact absurd e (forF_no xs s0 s).1
    | bk s => exact absurd e (forF_no xs s0 s).2
    | rt r =>
      obtain ⟨d, q | q⟩ := hR r
      · show Bk i _ p (oR r) (oR r)
        rw [q]
        exact rfl
      · show Bk i _ p (oR r) (oR r)
        rw [q]
        exact rfl
  | ex n =>
    rw [e] at go
    exact sx_borrow (fun p => .ex n (List.replicate k .no)) (hs s0) (hn s0) fls go fun p => ⟨rfl, rfl, noOl_no k⟩
  | far => trivial
end
/-! ### try: y = f(..) except C as e: suite -/
def tryA {β S : Type} (mb : M β) (g : β → S) (hs : List (Str × M S)) : M S := match mb with
  | .ok r => .ok (g r)
  | .ex n => lookM n hs
  | .far => .far
@[simp] theorem tryA_ok {β S : Type} (b : β) (g : β → S) (hs : List (Str × M S)) : tryA (M.ok b) g hs = .ok (g b) := id rfl
@[simp] theorem tryA_ex {β S : Type} (n : Str) (g : β → S) (hs : List (Str × M S)) : tryA (M.ex n : M β) g hs = lookM n hs := id rfl
section
variable {X : Cx} {H0 : Hp} {ρ : Env'} {β γ S : Type} {call : Expr} {rest : List Stmt} {x n : Str} {k : Nat} {D : γ → Outc}
theorem xm_tryA {mb : M β} {eb : β → Dat} {g : β → S} {hs : List (Str × M S)} {eS : S → Env'} {f : S → M γ} {c : Value} {suite : List Stmt} {b₀ : Stmt} {np py pos pos' pos'' : Pos} {y : Str} (j i : Nat) (is : List Nat)
    (hst : X.stack = X.env :: X.outer) (hfr : X.env.frame = some X.env.locals) (nd : X.N.Nodup) (hc : Names X x c)
    (hb : ∀ (pn : List (Addr × Obj)) (xe : Value → Shared → Prop), PassesOwn (model X.prog X.w) X.A X.env xe → EvM (X.tr pn xe) H0 ρ call eb mb)
    (hok : ∀ r, eS (g r) = drops (ρ.set j (.im (eb r))) is)
    (hh : AllH (fun n h => (∀ C, X.mg n = some (.ref C) → PySem.W.exmOne X.K (.ref C) c = some true) ∧ ∀ (a C : Addr) (oe : Obj) (pn : List (Addr × Obj)), X.mg n = some (.ref C) → Zc (.ref C) none oe → (∃ vs, oe.data = .fields vs) → ExM (X.suite a ((a, oe) :: pn)) H0 (ρ.set i (.rf a)) k (b₀ :: suite) (fun s => .nx (eS s)) h) hs)
    (hno : ∀ s, (eS s).set i .no = eS s) (tt : ∀ s, ExM X H0 (eS s) k rest D (f s)) (hi : X.N[i]? = some n := by rfl) (hln : X.env.kindOf n = some .local := by rfl)
    (hj : X.N[j]? = some y := by rfl) (hy : Loc X.env.scope y := by first | exact Or.inl rfl | exact Or.inr rfl)
    (hsw : ∀ pn xe, swapsWith call (some (.Name y py)) pos.line (X.tr pn xe).env = pure false := by intro _ _; rfl) (hf : X.fn y = true ∨ X.env.scope.names.lookup y = some .local := by first | exact .inl rfl | exact .inr rfl | assumption) :
    ExM X H0 ρ k (.Try [.Assign [.Name y py] call pos] [.ExceptHandler (some (.Name x np)) (some n) (b₀ :: suite) pos'] [] [] pos'' :: rest) D (M.bind (tryA mb g hs) f) := by
  cases mb with
  | ok r =>
    have h1 : ExS X H0 ρ (.Try [.Assign [.Name y py] call pos] [.ExceptHandler (some (.Name x np)) (some n) (b₀ :: suite) pos'] [] [] pos'') (.nx (eS (g r))) :=
      sx_tryN (i := i) hst hfr nd hc (fun pn xe hp => ex_then (sx_set (X := X.tr pn xe) j (hb pn xe hp) nd rfl hj hy (hsw pn xe) hf) (hok r ▸ ex_drops is ex_nil)) (ho := trivial) (hi := hi) (hln := hln)
    exact xm_then h1 (tt (g r))
  | ex n' =>
    show ExM X H0 ρ k _ D (M.bind (lookM n' hs) f)
    induction hs with
    | nil => trivial
    | cons q r ih =>
      obtain ⟨⟨he, h1⟩, h2⟩ := hh
      unfold lookM
      by_cases e : n' = q.1
      · rw [if_pos e]
        subst e
        cases eh : q.2 with
        | ok s =>
          have h3 : ExS X H0 ρ (.Try [.Assign [.Name y py] call pos] [.ExceptHandler (some (.Name x np)) (some n) (b₀ :: suite) pos'] [] [] pos'') (Outc.un i (.nx (eS s))) :=
            sx_try (i := i) (m := q.1) (ρ1 := ρ) hst hfr nd hc he (fun pn xe hp => ex_one (sx_setX (X := X.tr pn xe) (hb pn xe hp) nd hj hy (hsw pn xe) hf)) (fun a C oe pn hC hz hf => by
              have := h1 a C oe pn hC hz hf
              rw [eh] at this
              exact this) trivial hi hln
          have h4 : Outc.un i (.nx (eS s)) = .nx (eS s) := by
            show Outc.nx ((eS s).set i .no) = _
            rw [hno s]
          rw [h4] at h3
          exact xm_then h3 (tt s)
        | ex _ => trivial
        | far => trivial
      · rw [if_neg e]
        exact ih h2
  | far => trivial
end
/-! ### == of texts that may be None -/
theorem eqs_optS : ∀ x y : Option (List Nat), PyData.eqv (pd (optd tx x)) (pd (optd tx y)) = decide (x = y)
  | none, none => by rfl
  | none, some l => by rfl
  | some l, none => by rfl
  | some l, some m => by
    have := eqs_str l m
    show PyData.eqv (pd (tx l)) (pd (tx m)) = _
    rw [this]
    by_cases h : l = m
    · subst h; simp
    · rw [decide_eq_false h, decide_eq_false (fun q => h (Option.some.inj q))]
end B

namespace L2
open PySem PySem.Spec PyProof.Rows
/-! ### enumerate(text) -/
def ItS (x : Str) : It := ⟨fun i _ => i < x.cps.size, fun i H v H' => ∃ T c, v = .ref T ∧ H T = none ∧ H' = upd H T (.tup [.int (i : Nat), .str ⟨#[c]⟩]) ∧ x.cps[i]? = some c, fun i _ => i = x.cps.size⟩
theorem turn_enumS {P : Program} {w : World} {K : PySem.W.Frag} {elts : List Expr} {kk : Nat} {tpos : Pos} (e it : Addr) (x : Str) (t : Tok) (ty : String) (hty : ty = "str_ascii_iterator" ∨ ty = "str_iterator") :
    Turn P w K (.Tuple elts kk tpos) (ItS x) [e, it] e (fun i h => (∃ old, IsEnum h e it ((i : Nat) : Int) old) ∧ h.IsStrIter it ty x t i ∧ e ≠ it) where
  mem := by simp
  obj := fun i h st b hb => by
    obtain ⟨⟨old, he⟩, ⟨o, ho, hc, hd⟩, _⟩ := st
    have e' : b = e ∨ b = it := by simpa using hb
    rcases e' with z | z
    · rw [z]; exact ⟨_, he, fun v q => nomatch q⟩
    · rw [z]; exact ⟨o, ho, fun v q => by rw [hd] at q; cases q⟩
  keep := fun i h h' st k => let ⟨⟨old, he⟩, ⟨o, ho, r⟩, hne⟩ := st; ⟨⟨old, k e (by simp) _ he⟩, ⟨o, k it (by simp) o ho, r⟩, hne⟩
  item := by
    intro X hP hw hK hc i pins s σ H E I hf st hg
    subst hP hw hK
    obtain ⟨⟨old, he⟩, hit, hne⟩ := st
    have hel : e < s.heap.objs.size := Heap.lt_size he
    have hil : it < s.heap.objs.size := by obtain ⟨_, q, _⟩ := hit; exact Heap.lt_size q
    have D : Draws X.prog X.w X.A.in1 it [it] x.cps.size (fun i v => ∃ c u, x.cps[i]? = some c ∧ v = .str ⟨#[c]⟩ u) (fun i h => h.IsStrIter it ty x t i) := by
      rcases hty with z | z
      · rw [z]; exact Draws.strAscii (A := X.A.in1) (I.ok.hd hc) it x t
      · rw [z]; exact Draws.strWide (A := X.A.in1) (I.ok.hd hc) it x t
    refine wpAny_pyNext_enum_itemD D he hit hg hne (by simp [hne]) fun v h' tk hv ho hit' hT hsz hk => ?_
    obtain ⟨c, u, hcx, rfl⟩ := hv
    refine ⟨_, rfl, wpAny_letOwnedTupleGo_enum (s := { s with heap := h', toks := tk + 1 }) ho fun h'' he' sb => ?_⟩
    have hT2 : h''.get? s.heap.objs.size = some { cls := .type "tuple", data := .seq #[.int i tk, .str ⟨#[c]⟩ u] } := (sb.2 _ (Nat.ne_of_gt hel)).trans hT
    have new : ObjOk X.prog X.w (upd H s.heap.objs.size (.tup [.int (i : Nat), .str ⟨#[c]⟩])) h'' s.heap.objs.size (.tup [.int (i : Nat), .str ⟨#[c]⟩]) :=
      ⟨by show 2 ≤ sizeLine; decide, [.int i tk, .str ⟨#[c]⟩ u], .cons ⟨_, rfl⟩ (.cons ⟨_, rfl⟩ .nil), ⟨_, hT2, rfl, _, rfl⟩⟩
    have I1 : Inv X pins σ (upd H s.heap.objs.size (.tup [.int (i : Nat), .str ⟨#[c]⟩])) { s with heap := h'', toks := tk + 1 } :=
      I.turnedNew (ch := [e, it]) (fun b ob hb q => (sb.2 b (fun z => hb (by simp [z]))).trans (hk b ob (fun z => hb (by simp [z])) (fun z => hb (by simp [z])) q)) hf (Nat.le_refl _) new
    refine ⟨.ref s.heap.objs.size, _, I1, rfl, ⟨_, c, rfl, I.hok.fresh (Nat.le_refl _), rfl, hcx⟩, ⟨⟨.str ⟨#[c]⟩ u, ?_⟩, ?_, hne⟩, fun b hb => ?_⟩
    · have e1 : ((i + 1 : Nat) : Int) = (i : Int) + 1 := by omega
      rw [e1]; exact he'
    · obtain ⟨o, ho', r⟩ := hit'
      exact ⟨o, (sb.2 it (Ne.symm hne)).trans ho', r⟩
    · have hb' : b < s.heap.objs.size := by
        have e' : b = e ∨ b = it := by simpa using hb
        rcases e' with z | z
        · rw [z]; exact hel
        · rw [z]; exact hil
      rw [upd_ne (Nat.ne_of_lt hb')]
      exact (hf b hb).1
  done := by
    intro X hP hw hK hc i pins s σ H E I hf st hg
    subst hP hw hK
    obtain ⟨⟨old, he⟩, hit, hne⟩ := st
    have hg' : i = x.cps.size := hg
    subst hg'
    obtain ⟨f0, f1, f2, f3, f4, f5⟩ := hf it (by simp)
    have D : Draws X.prog X.w X.A.in1 it [it] x.cps.size (fun i v => ∃ c u, x.cps[i]? = some c ∧ v = .str ⟨#[c]⟩ u) (fun i h => h.IsStrIter it ty x t i) := by
      rcases hty with z | z
      · rw [z]; exact Draws.strAscii (A := X.A.in1) (I.ok.hd hc) it x t
      · rw [z]; exact Draws.strWide (A := X.A.in1) (I.ok.hd hc) it x t
    exact wpAny_pyNext_enum_endD D he hit fun h' eb => ⟨rfl, I.turned (t' := s.toks) (fun b o hb q => eb b o hb q) f0 f1 f3 f4 f5⟩
  self := fun A i s Q E st h => let ⟨⟨_, he⟩, _⟩ := st; wpAny_pyIter_enum he h
def iEnumS (ta : TA) : TI := fun σ H R => ta σ H fun vs H1 => ∃ x, vs = [.str x] ∧ R (ItS x) H1
theorem pi_enumS {X : Cx} {e : Expr} {ta : TA} {p pos tpos : Pos} {elts : List Expr} {kk : Nat} (hg : Gl X "enumerate") (hm : X.mg "enumerate" = none) (ha : PA X [e] ta) (hs : starEach [e] X.env = [(false, eval e X.env)] := by rfl) :
    PI X (.Tuple elts kk tpos) (.Call (.Name "enumerate" p) [e] [] pos) (iEnumS ta) := by
  refine ⟨fun pins s σ H R I h => ?_⟩
  refine Call_ (ld_blt I hg hm boot_enumerate (PyProof.Rows.callWith_type1 (thn (ha.run pos pins s σ H _ I h) fun us s1 ⟨vs, H1, I1, r1, q1⟩ => ?_) hs rfl))
  obtain ⟨x, ex, q⟩ := q1
  subst ex
  cases r1 with
  | cons r rr =>
    cases rr
    obtain ⟨t, rfl⟩ := r
    refine call_enumerate_str fun h' he hit hsz hk => wpAny_pyIter_enum he ?_
    have I2 : Inv X pins σ H1 { s1 with heap := h' } := I1.kept (t' := s1.toks) hk
    have hty : strIterType x = "str_ascii_iterator" ∨ strIterType x = "str_iterator" := by
      unfold strIterType
      split
      · exact .inl rfl
      · exact .inr rfl
    refine ⟨s1.heap.objs.size + 1, [s1.heap.objs.size + 1, s1.heap.objs.size], _, _, H1, rfl, I2, turn_enumS (s1.heap.objs.size + 1) s1.heap.objs.size x t _ hty, ⟨⟨.none, he⟩, hit, Nat.succ_ne_self _⟩, fun b hb => ?_, q⟩
    have e' : b = s1.heap.objs.size + 1 ∨ b = s1.heap.objs.size := by simpa using hb
    have hle : s1.heap.objs.size ≤ b := by
      rcases e' with z | z
      · rw [z]; exact Nat.le_add_right _ _
      · rw [z]; exact Nat.le_refl _
    exact I1.fpOk hle (I1.hok.fresh hle)
end L2
namespace B
open PySem PySem.Spec PyProof.Rows L2 PySem.Builtin.Str PySem.Builtin
/-- the signs of a text, each with its place -/
def enumL (l : List Nat) : List (Int × Nat) := (rng 0 1 l.length).zip l
section
variable {X : Cx} {H0 : Hp} {ρ ρ1 : Env'} {α β γ S S' L R : Type} {a b c e call : Expr} {st : Stmt} {rest body : List Stmt} {d : Dat} {ds : List Dat} {p pos apos : Pos} {k : Nat} {D : γ → Outc}
theorem it_enumS {l : List Nat} {elts : List Expr} {kk : Nat} {tpos : Pos} (h : Ev X H0 ρ e (tx l)) (hm : X.mg "enumerate" = none) (hg : Gl X "enumerate" := by rfl) (hs : starEach [e] X.env = [(false, eval e X.env)] := by rfl) :
    Iter X H0 ρ (.Tuple elts kk tpos) (.Call (.Name "enumerate" p) [e] [] pos) ((enumL l).map (tup2 Dat.int chd)) := ⟨_, pi_enumS hg hm pa_w hs, fun σ H N r R k => (ea_cons h ea_nil (hs := hs) σ H N r).imp fun vs H' ⟨N', s, n, r', q⟩ => by
  have hv : vs = [.str (SX.S l)] := by
    cases q with
    | cons a t => cases t; rw [at_str a]
  refine ⟨SX.S l, hv, k _ H' N' n s r' fun H02 ρ2 σ2 H2 N2 i s02 s2 r2 => ?_⟩
  have hsz : (SX.S l).cps.size = l.length := by simp [SX.S]
  have hll : (enumL l).length = l.length := by unfold enumL; rw [List.length_zip]; unfold rng; simp
  refine ⟨fun hi => ?_, fun hi => ?_⟩
  · rw [List.length_map, hll] at hi
    refine ⟨by show i < (SX.S l).cps.size; rw [hsz]; exact hi, fun x H3 y => ?_⟩
    obtain ⟨T, c, rfl, hT, rfl, hc⟩ := y
    obtain ⟨r3, n3⟩ := r2.new (o := .tup [.int (i : Nat), .str ⟨#[c]⟩]) hT
    have hc2 : l[i]? = some c := by
      have : (SX.S l).cps[i]? = l[i]? := by simp [SX.S]
      rw [← this]; exact hc
    have hr : (rng 0 1 l.length)[i]? = some ((i : Nat) : Int) := by
      unfold rng
      rw [List.getElem?_map, List.getElem?_range hi]
      simp
    refine ⟨_, .tup [.int (i : Nat), .str ⟨#[c]⟩], n3, Same.of_none hT, r3, ?_, .tup (.inl (.inl upd_same)) (.cons (.int _) (.cons (.str _) .nil))⟩
    rw [List.getElem?_map]
    have hz : (enumL l)[i]? = some (((i : Nat) : Int), c) := by
      unfold enumL
      rw [List.getElem?_zip_eq_some]
      exact ⟨hr, hc2⟩
    rw [hz]
    rfl
  · rw [List.length_map, hll] at hi
    show i = (SX.S l).cps.size
    rw [hsz]; exact hi⟩
/-- divmod -/
theorem ev_divmod {i j : Int} (ha : Ev X H0 ρ a (.int i)) (hb : Ev X H0 ρ b (.int j)) (hj : 0 < j ∧ j < 1073741824) (hm : X.mg "divmod" = none) (hg : Gl X "divmod" := by rfl) (he : starEach [a, b] X.env = (false, eval a X.env) :: starEach [b] X.env := by rfl) (he2 : starEach [b] X.env = (false, eval b X.env) :: starEach [] X.env := by rfl) (hpl : (backTo pos (starEach [b] X.env)).any (·.1) = false := by rfl) :
    Ev X H0 ρ (.Call (.Name "divmod" p) [a, b] [] pos) (tup2 Dat.int Dat.int (i / j, i % j)) := ev_blt call_divmod hm (by decide +kernel) (eab_cons ha.toB (eab_cons hb.toB eab_nil he2) he) (fun vs σ H N Q r q g => by
    obtain ⟨v, w, rfl, a1, a2⟩ := ats_two q
    rw [at_int a1, at_int a2]
    refine ⟨i, j, rfl, hj, fun T hT => ?_⟩
    obtain ⟨r3, n3⟩ := r.new (o := .tup [.int (i / j), .int (i % j)]) hT
    exact g _ _ _ (Same.of_none hT) n3 r3 (.tup (.inl (.inl upd_same)) (.cons (.int _) (.cons (.int _) .nil)))) hg (by decide) (by decide) he hpl
/-- s.zfill(n) -/
def zfl (l : List Nat) (n : Int) : List Nat := List.replicate (n.toNat - l.length) 48 ++ l
@[irreducible] noncomputable def padOk (n : Int) : Bool := cl (PadOk n = true)
@[irreducible] noncomputable def zflOk (l : List Nat) (n : Int) : Bool := cl (PadOk n = true ∧ l[0]? ≠ some 43 ∧ l[0]? ≠ some 45)
theorem tl_zfill {l : List Nat} {n : Int} (h1 : l[0]? ≠ some 43) (h2 : l[0]? ≠ some 45) : Txt.zfill (SX.S l) n = SX.S (zfl l n) := by
  unfold Txt.zfill
  have hlen : (SX.S l).length = l.length := SX.S_len l
  by_cases c : n ≤ (SX.S l).length
  · rw [if_pos c]
    rw [hlen] at c
    unfold zfl
    rw [show n.toNat - l.length = 0 by omega]
    rfl
  · rw [if_neg c]
    rw [hlen] at c ⊢
    have e0 : (SX.S l).cps[0]? = l[0]? := by simp [SX.S]
    unfold zfilled
    rw [e0]
    split
    · rename_i h; exact absurd h h1
    · rename_i h; exact absurd h h2
    · apply TL.ext_tl
      unfold zfl padded
      simp [TL.tl, SX.S]
theorem ev_zfill {l : List Nat} {n : Int} (ha : Ev X H0 ρ a (tx l)) (hb : Ev X H0 ρ b (.int n)) (hz : zflOk l n = true) (hs : starEach [b] X.env = [(false, eval b X.env)] := by rfl) (hbase : attributeBase a "zfill" X.env (eval a X.env) = eval a X.env := by rfl) (hline : (apos.endLine == pos.line) = true := by rfl) :
    Ev X H0 ρ (.Call (.Attribute a "zfill" apos) [b] [] pos) (tx (zfl l n)) := by
  unfold zflOk at hz
  obtain ⟨h0, h1, h2⟩ := cl_of hz
  exact ev_m1 F.slot_str_zfill F.type_str_zfill mt_zfill ha hb.toB (fun v σ H N Q r q g => by
    rw [at_int q]
    exact ⟨SX.S l, n, rfl, rfl, h0, by rw [tl_zfill h1 h2]; exact goes_self g r (.str _)⟩) hs hbase hline
/-- s.ljust(n, c) -/
def ljs (l : List Nat) (n : Int) (c : Nat) : List Nat := l ++ List.replicate (n.toNat - l.length) c
theorem mt_ljust2 {X : Cx} : MtR X "str.ljust" (fun x xs H Q => ∃ (a : Str) (i : Int) (c : Nat), x = .str a ∧ xs = [.int i, .str ⟨#[c]⟩] ∧ PadOk i = true ∧ Q (.str (Txt.ljustF a i c)) H) := by
  intro pins s σ H x xs v us Q I rx rs h
  obtain ⟨a, i, c, rfl, rfl, hc, q⟩ := h
  obtain ⟨t, rfl⟩ := rx
  cases rs with
  | cons r1 rs =>
    cases rs with
    | cons r2 rs =>
      cases rs
      obtain ⟨u, rfl⟩ := r1
      obtain ⟨z, rfl⟩ := r2
      exact ljust_fill hc rfl fun t' k => ⟨.str (Txt.ljustF a i c), H, I.tok k, ⟨t', rfl⟩, q⟩
theorem tl_ljust {l : List Nat} {n : Int} {c : Nat} : Txt.ljustF (SX.S l) n c = SX.S (ljs l n c) := by
  have h := ljustF_list (SX.S l) n c
  have e : (SX.S l).length = l.length := SX.S_len l
  apply TL.ext_tl
  show (Txt.ljustF (SX.S l) n c).cps.toList = (SX.S (ljs l n c)).cps.toList
  rw [h, e]
  simp [SX.S, ljs]
theorem ev_ljust2 {l : List Nat} {n : Int} {q : Nat} (ha : Ev X H0 ρ a (tx l)) (hb : Ev X H0 ρ b (.int n)) (hq : Ev X H0 ρ c (tx [q])) (hz : padOk n = true)
    (hpe : ∀ to t, PE X a to → PA X [b, c] t → PE X (.Call (.Attribute a "ljust" apos) [b, c] [] pos) (tBMS X.K "str" (fun _ x xs H Q => ∃ (a : Str) (i : Int) (c : Nat), x = .str a ∧ xs = [.int i, .str ⟨#[c]⟩] ∧ PadOk i = true ∧ Q (.str (Txt.ljustF a i c)) H) to t) := by exact fun _ _ h g => pe_bmS PySem.F.plainAttrs_str PySem.F.slot_str_ljust PySem.F.type_str_ljust mt_ljust2.toS h g)
    (he : starEach [b, c] X.env = (false, eval b X.env) :: starEach [c] X.env := by rfl) (he2 : starEach [c] X.env = (false, eval c X.env) :: starEach [] X.env := by rfl) : Ev X H0 ρ (.Call (.Attribute a "ljust" apos) [b, c] [] pos) (tx (ljs l n q)) := fun σ H N rp =>
  we_of (hpe _ _ pe_w (pa_cons pe_w (pa_cons pe_w pa_nil he2) he)) ((ha σ H N rp).imp fun v H1 ⟨N1, s1, n1, r1, a1⟩ => by
    unfold padOk at hz
    rw [at_str a1]
    refine ⟨rfl, (hb σ H1 N1 r1).imp fun w H2 ⟨N2, s2, n2, r2, a2⟩ => ?_⟩
    rw [at_int a2]
    refine (hq σ H2 N2 r2).imp fun w3 H3 ⟨N3, s3, n3, r3, a3⟩ => ?_
    rw [at_str a3]
    exact ⟨SX.S l, n, q, rfl, rfl, cl_of hz, N3, (s1.trans s2).trans s3, (n1.trans n2).trans n3, r3, by rw [tl_ljust]; exact .str _⟩)
/-- str(a whole number) -/
def strN (i : Int) : List Nat := (PySem.Str.ofString (toString i)).cps.toList
@[irreducible] noncomputable def strNOk (i : Int) : Bool := cl (i.natAbs.log2 < 1920)
theorem strN_S (i : Int) : SX.S (strN i) = PySem.Str.ofString (toString i) := by
  apply TL.ext_tl
  simp [TL.tl, SX.S, strN]
theorem ev_strN {i : Int} (ha : Ev X H0 ρ a (.int i)) (h : strNOk i = true) (hm : X.mg "str" = none) (hg : Gl X "str" := by rfl) (he : starEach [a] X.env = (false, eval a X.env) :: starEach [] X.env := by rfl) (hpl : (backTo pos (starEach [] X.env)).any (·.1) = false := by rfl) : Ev X H0 ρ (.Call (.Name "str" p) [a] [] pos) (tx (strN i)) := ev_ty call_str_int hm (by decide +kernel) (eab1 ha.toB he) (fun vs σ H N Q r q g => by
    unfold strNOk at h
    obtain ⟨v, e1, e2⟩ := ats_one q
    rw [at_int e2] at e1
    exact ⟨i, e1, cl_of h, by
      have := goes_self g r (.str (SX.S (strN i)))
      rw [strN_S] at this
      exact this⟩) hg (by decide) (by decide) he hpl
/-! ### try: y = f(..) / except ..: .. / else: .., where f raises nothing -/
theorem xm_tryE {mb : M β} {eb : β → Dat} {f : β → M γ} {h₀ : ExceptHandler} {hs : List ExceptHandler} {orelse : List Stmt} {py pos pos'' : Pos} {y : Str} (j : Nat) (hD : ∀ g, (D g).out) (nd : X.N.Nodup)
    (hb : EvM X.nox H0 ρ call eb mb) (te : ∀ r, ExM X H0 (ρ.set j (.im (eb r))) k orelse D (f r))
    (hj : X.N[j]? = some y := by rfl) (hy : Loc X.env.scope y := by first | exact Or.inl rfl | exact Or.inr rfl)
    (hsw : swapsWith call (some (.Name y py)) pos.line X.env = pure false := by rfl) (hf : X.fn y = true ∨ X.env.scope.names.lookup y = some .local := by first | exact .inl rfl | exact .inr rfl | assumption) :
    ExM X H0 ρ k (.Try [.Assign [.Name y py] call pos] (h₀ :: hs) orelse [] pos'' :: rest) D (M.bind (M.nox mb) f) := by
  cases mb with
  | ok r =>
    have go : ∀ {o : Outc}, Exec X H0 (ρ.set j (.im (eb r))) orelse o → ExS X H0 ρ (.Try [.Assign [.Name y py] call pos] (h₀ :: hs) orelse [] pos'') o := fun {o} h DD σ H N rp c => by
      refine ws_of (ps_try_thru (t := WB X.nox [.Assign [.Name y py] call pos]) (u := WB X orelse) pb_w pb_w) ?_
      have h1 : Exec X.nox H0 ρ [.Assign [.Name y py] call pos] (.nx (ρ.set j (.im (eb r)))) := ex_one (sx_set (X := X.nox) j hb nd rfl hj hy hsw hf)
      exact h1 { DD with nx := WB X orelse DD } σ H N rp fun σ' H' N' s r' => h DD σ' H' N' r' (c.mono s)
    have h2 := te r
    show ExM X H0 ρ k _ D (f r)
    cases e : f r with
    | ok v => rw [e] at h2; exact ex_out (go h2) (hD v)
    | ex n => rw [e] at h2; exact ex_out (go h2) trivial
    | far => trivial
  | ex n => trivial
  | far => trivial
end
section
variable {X : Cx} {H0 : Hp} {ρ : Env'} {α : Type} {e : Expr} {es : List Expr} {ds : List Dat} {p pos : Pos} {x : Str} {m : M α} {en : α → Dat}
/-- a call that leaves the last one to its default, a text; it may raise -/
theorem evm_callDX {R : List Dat → Res → Prop} {kk : Nat} {z : Str} (G : GFnD X.prog X.w X.K X.mg X.base x kk (.str z) R) (hr : Room kk X.A) (ha : EvAB X H0 ρ (e :: es) ds) (q : ∀ o, Rm en m o → R (ds ++ [.str z]) o) (hg : Gl X x := by rfl) (hdb : (x == ("__debug__" : Str)) = false := by decide)
    (he : starEach (e :: es) X.env = (false, eval e X.env) :: starEach es X.env := by rfl) (hpl : (backTo pos (starEach es X.env)).any (·.1) = false := by rfl) : EvM X H0 ρ (.Call (.Name x p) (e :: es) [] pos) en m := by
  cases m with
  | ok v => exact evm_callD (m := .ok v) G hr ha q hg hdb he hpl
  | ex n =>
    intro σ H N r W tk kw Q
    obtain ⟨f, fd, ps, F, hm, hk, _, d, hv, hb⟩ := G
    refine we_of (pe_callSD F hr hg hm hk hb hv (fun σ => passAt tk σ) pa_w hdb he hpl) ((ha σ H N r).imp fun vs H1 ⟨N1, s1, n1, r1, a1⟩ => ⟨r1.tab, ds ++ [.str z], .exc n, q _ rfl, a1.append (.cons (.str z) .nil), fun C H' hC tk s' => ?_⟩)
    exact kw C H' N1 hC n1 (r1.grow s' tk)
  | far => trivial
end
theorem eqs_chr : ∀ x y : Nat, PyData.eqv (pd (chd x)) (pd (chd y)) = decide (x = y) := fun x y => by
  have := eqs_str [x] [y]
  show PyData.eqv (pd (tx [x])) (pd (tx [y])) = _
  rw [this]
  by_cases h : x = y
  · subst h; simp
  · rw [decide_eq_false h, decide_eq_false (fun q => h (by cases q; rfl))]
end B

namespace B
open PySem PySem.Spec PyProof.Rows L2
theorem execs_one (st : Stmt) (env : PySem.Env) : execs [st] env = exec st env := by
  have h : execs [st] env = (exec st env >>= fun f => pure f) := by
    show (exec st env >>= fun f => match f with | .next => execs [] env | f => pure f) = _
    congr 1
    funext f
    cases f <;> rfl
  rw [h]
  exact bind_pure _
/-! ### a dict of one's own whose values are lists of one's own -/
theorem own_ne {K : PySem.W.Frag} {H0 H N : Hp} {ρ : Env'} {σ : L2.St} (r : Rep K H0 ρ σ H N) {a : Addr} {u : HO} (h : H0 a = some u) (j : Nat) (d' : Dat) (e : ρ[j]? = some (Ent.ow d')) : σ[j]? ≠ some (some (V.ref a)) := fun z => by
  obtain ⟨p, a1, a2, _⟩ := r.ow j d' e
  rw [a1] at z
  cases z
  rw [a2] at h
  cases h
theorem n_of {K : PySem.W.Frag} {H0 H N : Hp} {ρ : Env'} {σ : L2.St} (r : Rep K H0 ρ σ H N) {a : Addr} {u : HO} (h : H0 a = some u) (m : Mut (some u)) : N a = none := by
  cases q : N a with
  | none => rfl
  | some w =>
    have e1 := r.sub a w q
    rw [(r.old a u h).mu m] at e1
    cases e1 with
    | eq =>
      have := r.fresh a u q m
      rw [h] at this
      cases this
    | grow _ _ => exact m.elim
/-- what was there ahead is changed at an address, or grows by one: nobody here holds on to it -/
theorem Rep.upd0 {K : PySem.W.Frag} {H0 H N : Hp} {ρ : Env'} {σ : L2.St} (r : Rep K H0 ρ σ H N) (hn : noOl ρ) {a : Addr} {o : HO} (tk : Tk (upd H a o)) (m : Mut (some o)) (na : N a = none) (ho : ∀ (j : Nat) (d' : Dat), ρ[j]? = some (Ent.ow d') → σ[j]? ≠ some (some (V.ref a))) : Rep K (upd H0 a o) ρ σ (upd H a o) N := by
  refine ⟨tk, fun b u e => ?_, fun b u e => ?_, fun b u e => ?_, fun b u e mu => ?_, r.len, r.im, fun j d e => absurd e (hn j d), fun j d e => ?_, r.rf, r.apart⟩
  · by_cases q : b = a
    · subst q; rw [upd_same] at e ⊢; first | exact e | exact Cg.of e
    · rw [upd_ne q] at e ⊢; exact r.old b u e
  · have q : b ≠ a := fun q => by rw [q, na] at e; cases e
    rw [upd_ne q]; exact r.sub b u e
  · have mu := imm_not e
    have e1 := imm_eq e
    by_cases q : b = a
    · subst q; rw [upd_same] at e1; cases e1; exact absurd m mu
    · rw [upd_ne q] at e1; exact r.imm b u (imm_of e1 mu)
  · have q : b ≠ a := fun q => by rw [q, na] at e; cases e
    rw [upd_ne q]; exact r.fresh b u e mu
  · obtain ⟨p, a1, a2, a3, a4⟩ := r.ow j d e
    have q : p ≠ a := fun q => ho j d e (q ▸ a1)
    refine ⟨p, a1, by rw [upd_ne q]; exact a2, a3, ?_⟩
    cases d with
    | lst ds => obtain ⟨vs, b1, b2⟩ := a4; exact ⟨vs, by rw [upd_ne q]; exact b1, b2⟩
    | dic ds => obtain ⟨vs, b1, b2⟩ := a4; exact ⟨vs, by rw [upd_ne q]; exact b1, b2⟩
    | dit ks ds => obtain ⟨vs, b1, ql, b2⟩ := a4; exact ⟨vs, by rw [upd_ne q]; exact b1, ql, b2⟩
    | non => exact a4.elim
    | bl _ => exact a4.elim
    | int _ => exact a4.elim
    | str _ => exact a4.elim
    | tup _ => exact a4.elim
    | ins _ _ _ => exact a4.elim
    | tix _ => exact a4.elim
noncomputable def Un (H0 Hs : Hp) : Hp := fun a => match Hs a with
  | some u => some u
  | none => H0 a
theorem un_some {H0 Hs : Hp} {a : Addr} {u : HO} (h : Hs a = some u) : Un H0 Hs a = some u := by unfold Un; rw [h]
theorem un_none {H0 Hs : Hp} {a : Addr} (h : Un H0 Hs a = none) : Hs a = none ∧ H0 a = none := by
  unfold Un at h
  cases e : Hs a with
  | some u => rw [e] at h; cases h
  | none => rw [e] at h; exact ⟨rfl, h⟩
theorem un_upd {H0 Hs : Hp} {a : Addr} {o : HO} : Un H0 (upd Hs a o) = upd (Un H0 Hs) a o := by
  funext b
  by_cases q : b = a
  · subst q
    rw [upd_same]
    exact un_some upd_same
  · rw [upd_ne q]
    unfold Un
    rw [upd_ne q]
theorem upd_id {H : Hp} {a : Addr} {o : HO} (h : H a = some o) : upd H a o = H := by
  funext b
  by_cases q : b = a
  · subst q; rw [upd_same, h]
  · rw [upd_ne q]
section
variable {α : Type} {K : PySem.W.Frag} {en : α → Dat}
inductive Rws (K : PySem.W.Frag) (N Hs : Hp) (en : α → Dat) : List (List Nat × List α) → List Addr → List (Key × V) → Prop where
  | nil : Rws K N Hs en [] [] []
  | cons {k : List Nat} {l : List α} {T : List (List Nat × List α)} {q : Addr} {qs : List Addr} {ws : List V} {kvs : List (Key × V)} : Hs q = some (.lst ws) → Ats K N ws (l.map en) → Rws K N Hs en T qs kvs → Rws K N Hs en ((k, l) :: T) (q :: qs) (((Sum.inr (SX.S k) : Key), .ref q) :: kvs)
theorem Rws.mono {N N' Hs : Hp} (s : Same N N') {T : List (List Nat × List α)} {qs : List Addr} {kvs : List (Key × V)} (h : Rws K N Hs en T qs kvs) : Rws K N' Hs en T qs kvs := by
  induction h with
  | nil => exact .nil
  | cons a b _ ih => exact .cons a (b.mono s) ih
theorem Rws.updH {N Hs : Hp} {a : Addr} {o : HO} {T : List (List Nat × List α)} {qs : List Addr} {kvs : List (Key × V)} (h : Rws K N Hs en T qs kvs) (ha : a ∉ qs) : Rws K N (upd Hs a o) en T qs kvs := by
  induction h with
  | nil => exact .nil
  | cons e b _ ih =>
    rw [List.mem_cons, not_or] at ha
    exact .cons (by rw [upd_ne (Ne.symm ha.1)]; exact e) b (ih ha.2)
theorem Rws.snoc {N Hs : Hp} {k : List Nat} {l : List α} {q : Addr} {ws : List V} (e : Hs q = some (.lst ws)) (b : Ats K N ws (l.map en)) {T : List (List Nat × List α)} {qs : List Addr} {kvs : List (Key × V)} (h : Rws K N Hs en T qs kvs) : Rws K N Hs en (T ++ [(k, l)]) (qs ++ [q]) (kvs ++ [((Sum.inr (SX.S k) : Key), .ref q)]) := by
  induction h with
  | nil => exact .cons e b .nil
  | cons e' b' _ ih => exact .cons e' b' ih
theorem Rws.len {N Hs : Hp} {T : List (List Nat × List α)} {qs : List Addr} {kvs : List (Key × V)} (h : Rws K N Hs en T qs kvs) : kvs.length = T.length := by
  induction h with
  | nil => rfl
  | cons _ _ _ ih => rw [List.length_cons, List.length_cons, ih]
theorem Rws.mem {N Hs : Hp} {T : List (List Nat × List α)} {qs : List Addr} {kvs : List (Key × V)} (h : Rws K N Hs en T qs kvs) : ∀ q ∈ qs, ∃ ws, Hs q = some (.lst ws) := by
  induction h with
  | nil => intro q hq; cases hq
  | cons e b _ ih =>
    intro q hq
    rcases List.mem_cons.mp hq with rfl | hq
    · exact ⟨_, e⟩
    · exact ih q hq
theorem Rws.any {N Hs : Hp} {T : List (List Nat × List α)} {qs : List Addr} {kvs : List (Key × V)} (h : Rws K N Hs en T qs kvs) (k : List Nat) : (kvs.any fun kv => decide (kv.1 = (Sum.inr (SX.S k) : Key))) = T.any fun p => decide (p.1 = k) := by
  induction h with
  | nil => rfl
  | @cons k' l T q qs ws kvs _ _ _ ih =>
    rw [List.any_cons, List.any_cons, ih]
    congr 1
    by_cases e : k' = k
    · subst e; simp
    · have : ¬ ((Sum.inr (SX.S k') : Key) = Sum.inr (SX.S k)) := fun z => e (SX.S_inj (Sum.inr.inj z))
      rw [decide_eq_false this, decide_eq_false e]
/-- the dict as data -/
theorem Rws.atk {N Hs : Hp} (hs : Same N Hs) {T : List (List Nat × List α)} {qs : List Addr} {kvs : List (Key × V)} (h : Rws K N Hs en T qs kvs) : Atk K Hs kvs (dm (lstd en) T) := by
  induction h with
  | nil => exact .nil
  | cons e b _ ih => exact .cons (.lst (.inl (.inl e)) (b.mono hs)) ih
theorem Rws.atk2 {N Hs G : Hp} (hs : Same N G) (hg : Same Hs G) {T : List (List Nat × List α)} {qs : List Addr} {kvs : List (Key × V)} (h : Rws K N Hs en T qs kvs) : Atk K G kvs (dm (lstd en) T) := by
  induction h with
  | nil => exact .nil
  | cons e b _ ih => exact .cons (.lst (.inl (.inl (hg _ _ e))) (b.mono hs)) ih
theorem Rws.flat {N Hs G : Hp} (f : ∀ a, flat (en a) = true) (hs : Same (Imm N) G) (hg : Same Hs G) {T : List (List Nat × List α)} {qs : List Addr} {kvs : List (Key × V)} (h : Rws K N Hs en T qs kvs) : Atk K G kvs (dm (lstd en) T) := by
  induction h with
  | nil => exact .nil
  | @cons k l T q qs ws kvs e b _ ih => exact .cons (.lst (.inl (.inl (hg _ _ e))) ((b.imm (flats_map f l)).mono hs)) ih
/-- the value of a key put otherwise -/
def dset (T : List (List Nat × List α)) (k : List Nat) (l' : List α) : List (List Nat × List α) := match T with
  | [] => []
  | p :: T => if p.1 = k then (p.1, l') :: T else p :: dset T k l'
theorem Rws.at_ {N Hs : Hp} {k : List Nat} {l : List α} {T : List (List Nat × List α)} {qs : List Addr} {kvs : List (Key × V)} (h : Rws K N Hs en T qs kvs) (hq : qs.Nodup) (hl : dget T k = some l) :
    ∃ q ws, q ∈ qs ∧ Hs q = some (.lst ws) ∧ Ats K N ws (l.map en) ∧ valV kvs (Sum.inr (SX.S k) : Key) = some (.ref q) ∧ ∀ N' ws' l', Same N N' → Ats K N' ws' (l'.map en) → Rws K N' (upd Hs q (.lst ws')) en (dset T k l') qs kvs := by
  induction h with
  | nil => cases hl
  | @cons k' l0 T q qs ws kvs e b h ih =>
    rw [List.nodup_cons] at hq
    rw [dget_cons] at hl
    by_cases c : k' = k
    · rw [if_pos c] at hl
      cases hl
      subst c
      refine ⟨q, ws, List.mem_cons_self, e, b, valV_pos rfl, fun N' ws' l' s a => ?_⟩
      unfold dset
      rw [if_pos rfl]
      exact .cons upd_same a ((h.mono s).updH hq.1)
    · rw [if_neg c] at hl
      obtain ⟨q', ws', a1, a2, a3, a4, a5⟩ := ih hq.2 hl
      have ne : ¬ ((Sum.inr (SX.S k') : Key) = Sum.inr (SX.S k)) := fun z => c (SX.S_inj (Sum.inr.inj z))
      refine ⟨q', ws', List.mem_cons_of_mem _ a1, a2, a3, by rw [valV_neg ne]; exact a4, fun N' ws2 l' s a => ?_⟩
      unfold dset
      rw [if_neg c]
      have nq : q ≠ q' := fun z => hq.1 (z ▸ a1)
      exact .cons (by rw [upd_ne nq]; exact e) (b.mono s) (a5 N' ws2 l' s a)
structure Nst (K : PySem.W.Frag) (N Hs : Hp) (p : Addr) (en : α → Dat) (T : List (List Nat × List α)) (qs : List Addr) (kvs : List (Key × V)) : Prop where
  r : Rws K N Hs en T qs kvs
  top : Hs p = some (.dK kvs)
  nd : (p :: qs).Nodup
  dom : ∀ a u, Hs a = some u → a ∈ p :: qs
theorem Nst.mut {N Hs : Hp} {p : Addr} {T : List (List Nat × List α)} {qs : List Addr} {kvs : List (Key × V)} (h : Nst K N Hs p en T qs kvs) {a : Addr} {u : HO} (e : Hs a = some u) : Mut (some u) := by
  rcases List.mem_cons.mp (h.dom a u e) with rfl | m
  · rw [h.top] at e; cases e; exact True.intro
  · obtain ⟨ws, e2⟩ := h.r.mem a m
    rw [e2] at e; cases e; exact True.intro
theorem Nst.mono {N N' Hs : Hp} (s : Same N N') {p : Addr} {T : List (List Nat × List α)} {qs : List Addr} {kvs : List (Key × V)} (h : Nst K N Hs p en T qs kvs) : Nst K N' Hs p en T qs kvs := ⟨h.r.mono s, h.top, h.nd, h.dom⟩
def St2 (K : PySem.W.Frag) (H0 : Hp) (i : Nat) (en : α → Dat) (ρ : Env') (T : List (List Nat × List α)) (σ : L2.St) (H N : Hp) : Prop := ∃ p Hs qs kvs, Nst K N Hs p en T qs kvs ∧ (∀ a u, Hs a = some u → H0 a = none) ∧ Rep K (Un H0 Hs) (ρ.set i (.rf p)) σ H N
end
/-- .. ends: on to what follows, or by an error or a value, when the dict is one's own no more -/
inductive Oc2 (α : Type) where
  | nx (ρ : Env') (T : List (List Nat × List α))
  | ex (n : Str) (ρ : Env')
  | rt (d : Dat)
def Cont2 {α : Type} (X : Cx) (H0 N : Hp) (i : Nat) (en : α → Dat) (D : Ends) : Oc2 α → Prop
  | .nx ρ T => ∀ σ H N', Same N N' → St2 X.K H0 i en ρ T σ H N' → D.nx σ H
  | .ex n ρ => ∃ W, Takes X W ∧ ∀ C σ H N', X.mg n = some (.ref C) → Same N N' → Rep X.K H0 ρ σ H N' → W (.ref C) none σ H
  | .rt d => ∀ v H, Same H0 H → Same N H → Ret X.K H0 v d H → D.rt v H
section
variable {α β γ S R : Type} {X : Cx} {H0 : Hp} {i k : Nat} {en : α → Dat} {ρ ρ1 : Env'} {T T1 : List (List Nat × List α)} {st : Stmt} {sts rest body as bs : List Stmt} {b c e : Expr} {p1 pos : Pos} {o : Oc2 α} {D : γ → Oc2 α}
theorem Cont2.mono {N N' : Hp} {DD : Ends} (c : Cont2 X H0 N i en DD o) (s : Same N N') : Cont2 X H0 N' i en DD o := by
  cases o with
  | nx ρ T => exact fun σ H N2 s2 r => c σ H N2 (s.trans s2) r
  | ex n ρ =>
    obtain ⟨W, t, k⟩ := c
    exact ⟨W, t, fun C σ H N2 m s2 r => k C σ H N2 m (s.trans s2) r⟩
  | rt d => exact fun v H a b r => c v H a (s.trans b) r
def Exec2 (X : Cx) (H0 : Hp) (i : Nat) (en : α → Dat) (ρ : Env') (T : List (List Nat × List α)) (sts : List Stmt) (o : Oc2 α) : Prop := ∀ D σ H N, St2 X.K H0 i en ρ T σ H N → Cont2 X H0 N i en D o → WB X sts D σ H
def ExS2 (X : Cx) (H0 : Hp) (i : Nat) (en : α → Dat) (ρ : Env') (T : List (List Nat × List α)) (st : Stmt) (o : Oc2 α) : Prop := ∀ D σ H N, St2 X.K H0 i en ρ T σ H N → Cont2 X H0 N i en D o → WS X st D σ H
def ExM2 (X : Cx) (H0 : Hp) (i : Nat) (en : α → Dat) (ρ : Env') (T : List (List Nat × List α)) (k : Nat) (sts : List Stmt) (D : γ → Oc2 α) (m : M γ) : Prop := match m with
  | .ok v => Exec2 X H0 i en ρ T sts (D v)
  | .ex n => Exec2 X H0 i en ρ T sts (.ex n (List.replicate k .no))
  | .far => True
theorem ex2_nil : Exec2 X H0 i en ρ T [] (.nx ρ T) := fun D σ H N r k => wb_of pss_nil (k σ H N (Same.refl _) r)
theorem ex2_then (h : ExS2 X H0 i en ρ T st (.nx ρ1 T1)) (t : Exec2 X H0 i en ρ1 T1 rest o) : Exec2 X H0 i en ρ T (st :: rest) o := fun D σ H N r c => by
  refine wb_of (pss_cons ps_w pb_w) ?_
  show WS X st { D with nx := WB X rest D } σ H
  exact h _ σ H N r fun σ' H' N' s r' => t D σ' H' N' r' (c.mono s)
theorem ex2_ex {n : Str} {ρ' : Env'} (h : ExS2 X H0 i en ρ T st (.ex n ρ')) : Exec2 X H0 i en ρ T (st :: rest) (.ex n ρ') := fun D σ H N r c => by
  refine wb_of (pss_cons ps_w pb_w) ?_
  show WS X st { D with nx := WB X rest D } σ H
  exact h _ σ H N r c
theorem xm2_then {m : M γ} (h : ExS2 X H0 i en ρ T st (.nx ρ1 T1)) (t : ExM2 X H0 i en ρ1 T1 k rest D m) : ExM2 X H0 i en ρ T k (st :: rest) D m := by
  cases m with
  | ok v => exact ex2_then h t
  | ex n => exact ex2_then h t
  | far => trivial
theorem xm2_gd {m : M γ} {g : Bool} (h : g = true → ExM2 X H0 i en ρ T k sts D m) : ExM2 X H0 i en ρ T k sts D (M.gd g m) := by
  cases g with
  | true => exact h rfl
  | false => trivial
theorem xm2_ofO {ob : Option β} {f : β → M γ} (h : ∀ r, ob = some r → ExM2 X H0 i en ρ T k sts D (f r)) : ExM2 X H0 i en ρ T k sts D (M.bind (M.ofO ob) f) := by
  cases ob with
  | some r => exact h r rfl
  | none => trivial
theorem xm2_bind {mb : M β} {f : β → M γ} (h : ∀ r, mb = .ok r → ExM2 X H0 i en ρ T k sts D (f r)) : ExM2 X H0 i en ρ T k sts D (M.bind (M.nox mb) f) := by
  cases mb with
  | ok r => exact h r rfl
  | ex _ => trivial
  | far => trivial
/-- the end of a block; names that are let go -/
theorem St2.drop {σ : L2.St} {H N : Hp} {K : PySem.W.Frag} (j : Nat) (hj : j ≠ i) (h : St2 K H0 i en ρ T σ H N) : St2 K H0 i en (ρ.set j .no) T σ H N := by
  obtain ⟨p, Hs, qs, kvs, n, d, r⟩ := h
  refine ⟨p, Hs, qs, kvs, n, d, ?_⟩
  rw [List.set_comm _ _ hj]
  exact r.drop j
theorem xm2_end {v : γ} (hD : D v = .nx ρ T := by rfl) : ExM2 X H0 i en ρ T k [] D (.ok v) := by
  show Exec2 X H0 i en ρ T [] (D v)
  rw [hD]
  exact ex2_nil
theorem xm2_drop {m : M γ} (j : Nat) (hj : j ≠ i) (h : ExM2 X H0 i en (ρ.set j .no) T k sts D m) : ExM2 X H0 i en ρ T k sts D m := by
  cases m with
  | ok v => exact fun DD σ H N r c => h DD σ H N (r.drop j hj) c
  | ex n => exact fun DD σ H N r c => h DD σ H N (r.drop j hj) c
  | far => trivial
/-- a statement that doesn't touch the dict -/
theorem sx2_plain (h : ∀ H0' p, ExS X H0' (ρ.set i (.rf p)) st (.nx (ρ1.set i (.rf p)))) : ExS2 X H0 i en ρ T st (.nx ρ1 T) := fun D σ H N ⟨p, Hs, qs, kvs, n, d, r⟩ c =>
  h (Un H0 Hs) p D σ H N r fun σ' H' N' s r' => c σ' H' N' s ⟨p, Hs, qs, kvs, n.mono s, d, r'⟩
theorem Rep.low2 {K : PySem.W.Frag} {Hs H N : Hp} {σ : L2.St} (d : ∀ a u, Hs a = some u → H0 a = none) (hn : noOl ρ) (r : Rep K (Un H0 Hs) ρ σ H N) : Rep K H0 ρ σ H N := by
  have so : Same H0 (Un H0 Hs) := fun a u e => by
    unfold Un
    cases q : Hs a with
    | none => first | exact e | exact Cg.of e
    | some w => rw [d a w q] at e; cases e
  refine ⟨r.tab, so.trans r.old, r.sub, (imm_same so).trans r.imm, fun a o e m => (un_none (r.fresh a o e m)).2, r.len, r.im, fun j x e => absurd e (hn j x), fun j x e => ?_, r.rf, r.apart⟩
  obtain ⟨q, a1, a2, a3, a4⟩ := r.ow j x e
  exact ⟨q, a1, (un_none a2).2, a3, a4⟩
theorem sx2_plainX {n : Str} {k : Nat} (h : ∀ H0' p, ExS X H0' (ρ.set i (.rf p)) st (.ex n (List.replicate k .no))) : ExS2 X H0 i en ρ T st (.ex n (List.replicate k .no)) := fun D σ H N ⟨p, Hs, qs, kvs, nn, d, r⟩ ⟨W, t, c⟩ =>
  h (Un H0 Hs) p D σ H N r ⟨W, t, fun C σ' H' N' m s r' => c C σ' H' N' m s (r'.low2 d (noOl_no k))⟩
theorem ws_one {DD : Ends} {σ : L2.St} {H : Hp} (h : WB X [st] DD σ H) : WS X st DD σ H := by
  unfold WS
  intro pins s I
  have := h.go pins s I
  rw [execs_one] at this
  exact this
theorem xm2_one {m : M β} {f : β → M γ} (eS : β → Env') (h : ∀ H0' p, ExM X H0' (ρ.set i (.rf p)) k [st] (fun r => .nx ((eS r).set i (.rf p))) m) (tt : ∀ r, ExM2 X H0 i en (eS r) T k rest D (f r)) : ExM2 X H0 i en ρ T k (st :: rest) D (M.bind m f) := by
  cases m with
  | ok r => exact xm2_then (sx2_plain fun H0' p => fun DD σ H N rp c => ws_one (h H0' p DD σ H N rp c)) (tt r)
  | ex n => exact ex2_ex (sx2_plainX fun H0' p => fun DD σ H N rp c => ws_one (h H0' p DD σ H N rp c))
  | far => trivial
/-! what is read of the dict while it grows -/
noncomputable def Un3 (H0 Hs N : Hp) : Hp := fun a => match Un H0 Hs a with
  | some u => some u
  | none => Imm N a
theorem un3_some {Hs N : Hp} {a : Addr} {u : HO} (h : Un H0 Hs a = some u) : Un3 H0 Hs N a = some u := by unfold Un3; rw [h]
theorem un3_cs {Hs N : Hp} {a : Addr} {u : HO} (h : Un3 H0 Hs N a = some u) : Un H0 Hs a = some u ∨ (Un H0 Hs a = none ∧ Imm N a = some u) := by
  unfold Un3 at h
  cases e : Un H0 Hs a with
  | some w => rw [e] at h; exact .inl h
  | none => rw [e] at h; exact .inr ⟨rfl, h⟩
theorem un3_none {Hs N : Hp} {a : Addr} (h : Un3 H0 Hs N a = none) : Un H0 Hs a = none := by
  cases e : Un H0 Hs a with
  | none => rfl
  | some u => rw [un3_some e] at h; cases h
/-- the dict seen as a thing that was handed in -/
theorem Rep.see {K : PySem.W.Frag} {Hs H N : Hp} {σ : L2.St} {p : Addr} {qs : List Addr} {kvs : List (Key × V)} (f : ∀ a, flat (en a) = true) (hn : noOl ρ) (hi : i < ρ.length) (n : Nst K N Hs p en T qs kvs) (r : Rep K (Un H0 Hs) (ρ.set i (.rf p)) σ H N) : Rep K (Un3 H0 Hs N) (ρ.set i (.ol (dicd (lstd en) T))) σ H N := by
  have hp : σ[i]? = some (some (V.ref p)) := r.rf i p (List.getElem?_set_self hi)
  have i3 : Same (Imm N) (Un3 H0 Hs N) := fun a u e => by
    unfold Un3
    cases q : Un H0 Hs a with
    | none => first | exact e | exact Cg.of e
    | some w =>
      exact (r.sub a u (imm_eq e)).swap (r.old a w q)
  have s3 : Same Hs (Un3 H0 Hs N) := fun a u e => Cg.of (un3_some (un_some e))
  refine ⟨r.tab, fun a u e => ?_, r.sub, fun a u e => ?_, fun a u e mu => ?_, by rw [List.length_set]; have := r.len; rw [List.length_set] at this; exact this, fun j d e => ?_, fun j d e => ?_, fun j d e => ?_, fun j a e => ?_, fun j k d d' q ne a b c => ?_⟩
  · rcases un3_cs e with e | ⟨_, e⟩
    · exact r.old a u e
    · exact r.sub a u (imm_eq e)
  · have mu := imm_not e
    rcases un3_cs (imm_eq e) with e | ⟨_, e⟩
    · exact r.imm a u (imm_of e mu)
    · exact Cg.of (imm_eq e)
  · unfold Un3
    rw [r.fresh a u e mu]
    cases q : Imm N a with
    | none => rfl
    | some w =>
      have := imm_eq q
      rw [e] at this
      cases this
      exact absurd mu (imm_not q)
  · rcases get_set e with ⟨_, z⟩ | ⟨ne, e⟩
    · cases z
    · exact r.im j d (by rw [List.getElem?_set_ne (Ne.symm ne)]; exact e)
  · rcases get_set e with ⟨rfl, z⟩ | ⟨_, e⟩
    · cases z
      exact ⟨_, hp, .dic (.inl (un3_some (un_some n.top))) (n.r.flat f i3 s3)⟩
    · exact absurd e (hn j d)
  · rcases get_set e with ⟨_, z⟩ | ⟨ne, e⟩
    · cases z
    · obtain ⟨q, a1, a2, a3, a4⟩ := r.ow j d (by rw [List.getElem?_set_ne (Ne.symm ne)]; exact e)
      refine ⟨q, a1, ?_, a3, a4⟩
      unfold Un3
      rw [a2]
      cases z : Imm N q with
      | none => rfl
      | some w => have := imm_eq z; rw [a3] at this; cases this
  · rcases get_set e with ⟨_, z⟩ | ⟨ne, e⟩
    · cases z
    · exact r.rf j a (by rw [List.getElem?_set_ne (Ne.symm ne)]; exact e)
  · rcases get_set a with ⟨_, z⟩ | ⟨n1, a⟩
    · cases z
    rcases get_set b with ⟨_, z⟩ | ⟨n2, b⟩
    · cases z
    exact r.apart j k d d' q ne (by rw [List.getElem?_set_ne (Ne.symm n1)]; exact a) (by rw [List.getElem?_set_ne (Ne.symm n2)]; exact b) c
theorem Rep.unsee {K : PySem.W.Frag} {Hs H N N' : Hp} {σ : L2.St} {p : Addr} {d : Dat} (hn : noOl ρ) (hp : σ[i]? = some (some (V.ref p))) (r : Rep K (Un3 H0 Hs N) (ρ.set i (.ol d)) σ H N') : Rep K (Un H0 Hs) (ρ.set i (.rf p)) σ H N' := by
  have so : Same (Un H0 Hs) (Un3 H0 Hs N) := fun a u e => Cg.of (un3_some e)
  refine ⟨r.tab, so.trans r.old, r.sub, (imm_same so).trans r.imm, fun a o e m => un3_none (r.fresh a o e m), by rw [List.length_set]; have := r.len; rw [List.length_set] at this; exact this, fun j x e => ?_, fun j x e => ?_, fun j x e => ?_, fun j a e => ?_, fun j k x x' q ne a b c => ?_⟩
  · rcases get_set e with ⟨_, z⟩ | ⟨n1, e⟩
    · cases z
    · exact r.im j x (by rw [List.getElem?_set_ne (Ne.symm n1)]; exact e)
  · rcases get_set e with ⟨_, z⟩ | ⟨n1, e⟩
    · cases z
    · exact absurd e (hn j x)
  · rcases get_set e with ⟨_, z⟩ | ⟨n1, e⟩
    · cases z
    · obtain ⟨q, a1, a2, a3, a4⟩ := r.ow j x (by rw [List.getElem?_set_ne (Ne.symm n1)]; exact e)
      exact ⟨q, a1, un3_none a2, a3, a4⟩
  · rcases get_set e with ⟨rfl, z⟩ | ⟨n1, e⟩
    · cases z; exact hp
    · exact r.rf j a (by rw [List.getElem?_set_ne (Ne.symm n1)]; exact e)
  · rcases get_set a with ⟨_, z⟩ | ⟨n1, a⟩
    · cases z
    rcases get_set b with ⟨_, z⟩ | ⟨n2, b⟩
    · cases z
    exact r.apart j k x x' q ne (by rw [List.getElem?_set_ne (Ne.symm n1)]; exact a) (by rw [List.getElem?_set_ne (Ne.symm n2)]; exact b) c
/-- if; the test may read the dict -/
theorem xm2_if {S : Type} {eS : S → Env'} {tS : S → List (List Nat × List α)} {g : Bool} {m1 m2 : M S} {f : S → M γ} (fl : ∀ a, flat (en a) = true) (hn : noOl ρ) (hi : i < ρ.length) (hc : ∀ H0', EvT X H0' (ρ.set i (.ol (dicd (lstd en) T))) c g) (h1 : g = true → ExM2 X H0 i en ρ T k as (fun s => .nx (eS s) (tS s)) m1) (h2 : g = false → ExM2 X H0 i en ρ T k bs (fun s => .nx (eS s) (tS s)) m2) (tt : ∀ s, ExM2 X H0 i en (eS s) (tS s) k rest D (f s)) :
    ExM2 X H0 i en ρ T k (.If c as bs pos :: rest) D (M.bind (if g = true then m1 else m2) f) := by
  have go : ∀ {o : Oc2 α}, (g = true → Exec2 X H0 i en ρ T as o) → (g = false → Exec2 X H0 i en ρ T bs o) → ExS2 X H0 i en ρ T (.If c as bs pos) o := fun {o} k1 k2 DD σ H N ⟨p, Hs, qs, kvs, n, d, r⟩ cc => by
    have hp : σ[i]? = some (some (V.ref p)) := r.rf i p (List.getElem?_set_self hi)
    refine ws_of (ps_if pt_w pb_w pb_w) ((hc _ σ H N (r.see fl hn hi n)).imp fun v H' ⟨e1, N', s, s2, r'⟩ => ?_)
    subst e1
    have st : St2 X.K H0 i en ρ T σ H' N' := ⟨p, Hs, qs, kvs, n.mono s2, d, r'.unsee hn hp⟩
    cases v with
    | true => exact iteT (k1 rfl DD σ H' N' st (cc.mono s2))
    | false => exact iteF (k2 rfl DD σ H' N' st (cc.mono s2))
  cases g with
  | true =>
    rw [if_pos rfl]
    have h1 := h1 rfl
    cases m1 with
    | ok v => exact xm2_then (go (fun _ => h1) (fun z => nomatch z)) (tt v)
    | ex n => exact ex2_ex (go (fun _ => h1) (fun z => nomatch z))
    | far => trivial
  | false =>
    rw [if_neg (by decide)]
    have h2 := h2 rfl
    cases m2 with
    | ok v => exact xm2_then (go (fun z => nomatch z) (fun _ => h2)) (tt v)
    | ex n => exact ex2_ex (go (fun z => nomatch z) (fun _ => h2))
    | far => trivial
/-! for -/
inductive ForT2 (X : Cx) (H0 : Hp) (i : Nat) (en : α → Dat) (j : Nat) (body : List Stmt) : List Dat → Env' → List (List Nat × List α) → Oc2 α → Prop where
  | nil {ρ : Env'} {T : List (List Nat × List α)} : ForT2 X H0 i en j body [] ρ T (.nx ρ T)
  | turn {ρ ρ1 : Env'} {T T1 : List (List Nat × List α)} {d : Dat} {ds : List Dat} {o : Oc2 α} : Exec2 X H0 i en (ρ.set j (.im d)) T body (.nx ρ1 T1) → ForT2 X H0 i en j body ds ρ1 T1 o → ForT2 X H0 i en j body (d :: ds) ρ T o
  | exc {ρ ρ1 : Env'} {T : List (List Nat × List α)} {d : Dat} {ds : List Dat} {n : Str} : Exec2 X H0 i en (ρ.set j (.im d)) T body (.ex n ρ1) → ForT2 X H0 i en j body (d :: ds) ρ T (.ex n ρ1)
/-- what is walked, whatever was there ahead -/
def IterA (X : Cx) (i : Nat) (ρ : Env') (t e : Expr) (ds : List Dat) : Prop := ∃ wi, PI X t e wi ∧ ∀ H0' p σ H N, Rep X.K H0' (ρ.set i (.rf p)) σ H N → ∀ R, (∀ J H1 N1, Same N N1 → Same H H1 → Rep X.K H0' (ρ.set i (.rf p)) σ H1 N1 → (∀ G, Walks X.K G J N1 ds) → R J H1) → wi σ H R
theorem itA_r1 {t a : Expr} {p : Pos} {z : Int} (h : ∀ H0' p, Ev X H0' (ρ.set i (.rf p)) a (.int z)) (hb : rngOk 0 z = true) (hm : X.mg "range" = none) (hg : Gl X "range" := by rfl) (hs : starEach [a] X.env = [(false, eval a X.env)] := by rfl) :
    IterA X i ρ t (.Call (.Name "range" p) [a] [] pos) ((rng 0 1 z.toNat).map Dat.int) := ⟨_, pi_range1 hg hm pa_w hs, fun H0' q σ H N r R k => (ea_cons (h H0' q) ea_nil (hs := hs) σ H N r).imp fun vs H' ⟨N', s, n, r', g⟩ => by
  have hb' := rngOk_ok hb
  exact ⟨z, ats1 g, hb'.2.2.1, hb'.2.2.2, k _ H' N' n s r' fun G => by rw [← rng_steps]; exact wlk_r⟩⟩
theorem sx2_for {t iter : Expr} {ds : List Dat} {j : Nat} {x : Str} {p0 : Pos} (hp : PassesOwn (model X.prog X.w) X.A X.env X.xe) (hc : X.calm = true) (hi : IterA X i ρ (.Name x p0) iter ds) (nd : X.N.Nodup) (hij : j ≠ i) (h : ForT2 X H0 i en j body ds ρ T o)
    (hs : ∀ x, foldedSetIterable iter X.env x = pure x := by intro _; rfl) (hj : X.N[j]? = some x := by rfl) (hx : Loc X.env.scope x := by first | exact Or.inl rfl | exact Or.inr rfl) (hf : X.fn x = true ∨ X.env.scope.names.lookup x = some .local := by first | exact .inl rfl | exact .inr rfl | assumption) : ExS2 X H0 i en ρ T (.For (.Name x p0) iter body [] pos) o := fun D σ H N ⟨p, Hs, qs, kvs, n, d, r⟩ k => by
  obtain ⟨wi, pi, hw⟩ := hi
  refine ws_of (ps_for hp hc pi (pg_name nd hj hx hf) pb_w hs) (hw (Un H0 Hs) p σ H N r _ fun J H1 N1 n1 s1 r1 w => ?_)
  refine ⟨fun a m σ' H' => m = ds.length - a ∧ a ≤ ds.length ∧ ∃ ρ' T' N', Same N1 N' ∧ St2 X.K H0 i en ρ' T' σ' H' N' ∧ ForT2 X H0 i en j body (ds.drop a) ρ' T' o, ⟨_, rfl, Nat.zero_le _, ρ, T, N1, Same.refl _, ⟨p, Hs, qs, kvs, n.mono n1, d, r1⟩, h⟩, ?_⟩
  rintro a m σ' H' ⟨rfl, ha, ρ', T', N', s', st', f⟩
  obtain ⟨p', Hs', qs', kvs', n', d', r'⟩ := id st'
  obtain ⟨wg, wst⟩ := w (Un H0 Hs') (Un H0 Hs') _ σ' H' N' a (Same.refl _) s' r'
  by_cases hlt : a < ds.length
  · obtain ⟨go, yl⟩ := wg hlt
    have e1 : ds.drop a = ds[a] :: ds.drop (a + 1) := List.drop_eq_getElem_cons hlt
    rw [e1] at f
    have base : ∀ (O : Oc2 α) (Dx : Ends), Exec2 X H0 i en (ρ'.set j (.im ds[a])) T' body O → (∀ N3, Same N1 N3 → Cont2 X H0 N3 i en Dx O) → ∀ x H2, J.yld a H' x H2 → gName j x σ' H2 fun σ3 H3 => WB X body Dx σ3 H3 := fun O Dx ex kk x H2 y => by
      obtain ⟨N3, dd, n3, s3, r3, e3, a3⟩ := yl x H2 y
      have ed : dd = ds[a] := by
        rw [List.getElem?_eq_getElem hlt] at e3
        exact (Option.some.inj e3).symm
      subst ed
      have r4 := r3.setE (i := j) (e := .im ds[a]) a3
      rw [List.set_comm _ _ (Ne.symm hij)] at r4
      exact ex Dx _ H2 N3 ⟨p', Hs', qs', kvs', n'.mono n3, d', r4⟩ (kk N3 (s'.trans n3))
    have again : ∀ ρ1 T1, ForT2 X H0 i en j body (ds.drop (a + 1)) ρ1 T1 o → ∀ σ3 H3, (∃ N3, Same N1 N3 ∧ St2 X.K H0 i en ρ1 T1 σ3 H3 N3) → ∃ m', m' < ds.length - a ∧ m' = ds.length - (a + 1) ∧ a + 1 ≤ ds.length ∧ ∃ ρ' T' N', Same N1 N' ∧ St2 X.K H0 i en ρ' T' σ3 H3 N' ∧ ForT2 X H0 i en j body (ds.drop (a + 1)) ρ' T' o :=
      fun ρ1 T1 ff σ3 H3 ⟨N3, q1, q2⟩ => ⟨ds.length - (a + 1), by omega, rfl, hlt, ρ1, T1, N3, q1, q2, ff⟩
    cases f with
    | @turn _ ρ1 _ T1 _ _ _ ex ff => exact .inr ⟨go, fun σ3 H3 => ∃ N3, Same N1 N3 ∧ St2 X.K H0 i en ρ1 T1 σ3 H3 N3, again ρ1 T1 ff, base (.nx ρ1 T1) _ ex fun N3 q3 σ3 H3 N4 q4 r4 => ⟨N4, q3.trans q4, r4⟩⟩
    | @exc _ ρ1 _ _ _ nn ex => exact .inr ⟨go, fun _ _ => False, fun _ _ z => z.elim, base (.ex nn ρ1) _ ex fun N3 q3 => Cont2.mono (o := .ex nn ρ1) k (n1.trans q3)⟩
  · have e1 : a = ds.length := by omega
    subst e1
    rw [List.drop_length] at f
    cases f
    exact .inl ⟨wst rfl, k σ' H' N' (n1.trans s') st'⟩
theorem forM2_T {S : Type} {ea : β → Dat} {j : Nat} {eS : S → Env'} {tS : S → List (List Nat × List α)} {f : β → S → M S} (hb : ∀ x s, ExM2 X H0 i en ((eS s).set j (.im (ea x))) (tS s) k body (fun s => .nx (eS s) (tS s)) (f x s)) : ∀ (xs : List β) (s : S), match forM f xs s with | .ok s' => ForT2 X H0 i en j body (xs.map ea) (eS s) (tS s) (.nx (eS s') (tS s')) | .ex n => ForT2 X H0 i en j body (xs.map ea) (eS s) (tS s) (.ex n (List.replicate k .no)) | .far => True
  | [], s => .nil
  | x :: xs, s => by
    have h := hb x s
    unfold forM
    cases e : f x s with
    | ok s1 =>
      rw [e] at h
      have ih := forM2_T hb xs s1
      show match forM f xs s1 with | .ok s' => _ | .ex n => _ | .far => True
      cases e2 : forM f xs s1 with
      | ok s2 => rw [e2] at ih; exact .turn h ih
      | ex n => rw [e2] at ih; exact .turn h ih
      | far => trivial
    | ex n => rw [e] at h; exact .exc h
    | far => trivial
theorem xm2_for {S : Type} {ea : β → Dat} {iter : Expr} {x : Str} {p0 : Pos} {eS : S → Env'} {tS : S → List (List Nat × List α)} {xs : List β} {s0 : S} {f : β → S → M S} {fk : S → M γ} (j : Nat) (hp : PassesOwn (model X.prog X.w) X.A X.env X.xe) (hc : X.calm = true) (hi : IterA X i ρ (.Name x p0) iter (xs.map ea)) (nd : X.N.Nodup) (hij : j ≠ i) (h0 : ρ = eS s0) (ht : T = tS s0) (hb : ∀ x s, ExM2 X H0 i en ((eS s).set j (.im (ea x))) (tS s) k body (fun s => .nx (eS s) (tS s)) (f x s)) (tt : ∀ s, ExM2 X H0 i en (eS s) (tS s) k rest D (fk s))
    (hs : ∀ x, foldedSetIterable iter X.env x = pure x := by intro _; rfl) (hj : X.N[j]? = some x := by rfl) (hx : Loc X.env.scope x := by first | exact Or.inl rfl | exact Or.inr rfl) (hf : X.fn x = true ∨ X.env.scope.names.lookup x = some .local := by first | exact .inl rfl | exact .inr rfl | assumption) : ExM2 X H0 i en ρ T k (.For (.Name x p0) iter body [] pos :: rest) D (M.bind (forM f xs s0) fk) := by
  have h := forM2_T hb xs s0
  subst h0
  subst ht
  cases e : forM f xs s0 with
  | ok s => rw [e] at h; exact xm2_then (sx2_for (t := iter) hp hc hi nd hij h hs hj hx hf) (tt s)
  | ex n => rw [e] at h; exact ex2_ex (sx2_for (t := iter) hp hc hi nd hij h hs hj hx hf)
  | far => trivial
/-! the begin and the end -/
theorem Rep.toRf {K : PySem.W.Frag} {H N : Hp} {σ : L2.St} {p : Addr} (hp : σ[i]? = some (some (V.ref p))) (r : Rep K H0 (ρ.set i .no) σ H N) : Rep K H0 (ρ.set i (.rf p)) σ H N := by
  refine ⟨r.tab, r.old, r.sub, r.imm, r.fresh, by rw [List.length_set]; have := r.len; rw [List.length_set] at this; exact this, fun j d e => ?_, fun j d e => ?_, fun j d e => ?_, fun j a e => ?_, fun j k d d' q ne a b c => ?_⟩
  · rcases get_set e with ⟨_, z⟩ | ⟨n1, e⟩
    · cases z
    · exact r.im j d (by rw [List.getElem?_set_ne (Ne.symm n1)]; exact e)
  · rcases get_set e with ⟨_, z⟩ | ⟨n1, e⟩
    · cases z
    · exact r.ol j d (by rw [List.getElem?_set_ne (Ne.symm n1)]; exact e)
  · rcases get_set e with ⟨_, z⟩ | ⟨n1, e⟩
    · cases z
    · exact r.ow j d (by rw [List.getElem?_set_ne (Ne.symm n1)]; exact e)
  · rcases get_set e with ⟨rfl, z⟩ | ⟨n1, e⟩
    · cases z; exact hp
    · exact r.rf j a (by rw [List.getElem?_set_ne (Ne.symm n1)]; exact e)
  · rcases get_set a with ⟨_, z⟩ | ⟨n1, a⟩
    · cases z
    rcases get_set b with ⟨_, z⟩ | ⟨n2, b⟩
    · cases z
    exact r.apart j k d d' q ne (by rw [List.getElem?_set_ne (Ne.symm n1)]; exact a) (by rw [List.getElem?_set_ne (Ne.symm n2)]; exact b) c
theorem noOl_set' {e : Ent} (h : noOl ρ) (he : ∀ d, e ≠ .ol d) : noOl (ρ.set i e) := fun j d q => by
  rcases get_set q with ⟨_, z⟩ | ⟨_, q⟩
  · exact he d z.symm
  · exact h j d q
theorem xm2_start {en0 : List α → Dat} {eR : γ → Dat} {m : M γ} (hi : ρ[i]? = some (.ow (dicd en0 []))) (hn : noOl ρ) (h : ExM2 X H0 i en (ρ.set i .no) [] k sts (fun r => .rt (eR r)) m) : ExM X H0 ρ k sts (fun r => .rt (eR r)) m := by
  have go : ∀ {o : Oc2 α} {o' : Outc}, Exec2 X H0 i en (ρ.set i .no) [] sts o → (∀ N DD, Cont X H0 N DD o' → Cont2 X H0 N i en DD o) → Exec X H0 ρ sts o' := fun {o o'} h hc DD σ H N r c => by
    obtain ⟨p, e1, h0, np, vs, e2, e3⟩ := r.ow i _ hi
    cases e3
    refine h DD σ H N ⟨p, upd (fun _ => none) p (.dK []), [], [], ⟨.nil, upd_same, by simp, fun a u e => ?_⟩, fun a u e => ?_, ?_⟩ (hc N DD c)
    · by_cases q : a = p
      · exact List.mem_singleton.mpr q
      · rw [upd_ne q] at e; cases e
    · by_cases q : a = p
      · rw [q]; exact h0
      · rw [upd_ne q] at e; cases e
    · have r1 := (r.drop i).upd0 (noOl_set' hn fun d z => by cases z) (a := p) (o := .dK []) (r.tab.upd e2) True.intro np (fun j d' e z => by
        rcases get_set e with ⟨_, w⟩ | ⟨n1, e⟩
        · cases w
        · exact r.apart j i _ _ _ n1 e hi z e1)
      rw [upd_id e2] at r1
      have e0 : Un H0 (fun _ => none) = H0 := rfl
      rw [un_upd, e0, List.set_set] at *
      exact r1.toRf e1
  cases m with
  | ok r => exact go h fun N DD c => c
  | ex n => exact go h fun N DD c => c
  | far => trivial
theorem xm_setOV {en0 : β → Dat} {v : β} {f : β → M γ} {Dx : γ → Outc} {x : Str} {pos' : Pos} (i : Nat) (h : EvO X H0 ρ e (en0 v)) (nd : X.N.Nodup) (t : ExM X H0 (ρ.set i (.ow (en0 v))) k rest Dx (f v)) (hi : X.N[i]? = some x := by rfl) (hx : Loc X.env.scope x := by first | exact Or.inl rfl | exact Or.inr rfl)
    (hs : swapsWith e (some (.Name x pos')) pos.line X.env = pure false := by rfl) (hf : X.fn x = true ∨ X.env.scope.names.lookup x = some .local := by first | exact .inl rfl | exact .inr rfl | assumption) : ExM X H0 ρ k (.Assign [.Name x pos'] e pos :: rest) Dx (M.lt v f) := xm_then (sx_setO i h nd rfl hi hx hs hf) t
theorem xm2_freeze {eR : γ → Dat} {m : M γ} (hn : noOl ρ) (hi : i < ρ.length) (h : ExM X H0 (ρ.set i (.im (dicd (lstd en) T))) k sts (fun r => .rt (eR r)) m) : ExM2 X H0 i en ρ T k sts (fun r => .rt (eR r)) m := by
  have go : ∀ {o : Oc2 α} {o' : Outc}, Exec X H0 (ρ.set i (.im (dicd (lstd en) T))) sts o' → (∀ N N' DD, Same N N' → Cont2 X H0 N i en DD o → Cont X H0 N' DD o') → Exec2 X H0 i en ρ T sts o := fun {o o'} h hc DD σ H N ⟨p, Hs, qs, kvs, n, d, r⟩ c => by
    have hp : σ[i]? = some (some (V.ref p)) := r.rf i p (List.getElem?_set_self hi)
    have nn : ∀ a u, Hs a = some u → N a = none := fun a u e => n_of r (un_some e) (n.mut e)
    have sN : Same N (Un N Hs) := fun a u e => by
      unfold Un
      cases q : Hs a with
      | none => first | exact e | exact Cg.of e
      | some w => rw [nn a w q] at e; cases e
    have sH : Same Hs (Un N Hs) := fun a u e => Cg.of (un_some e)
    refine h DD σ H (Un N Hs) ?_ (hc N _ DD sN c)
    have so : Same H0 (Un H0 Hs) := fun a u e => by
      unfold Un
      cases q : Hs a with
      | none => first | exact e | exact Cg.of e
      | some w => rw [d a w q] at e; cases e
    refine ⟨r.tab, so.trans r.old, fun a u e => ?_, ((imm_same so).trans r.imm).trans sN, fun a u e m => ?_, by rw [List.length_set]; have := r.len; rw [List.length_set] at this; exact this, fun j x e => ?_, fun j x e => ?_, fun j x e => ?_, fun j a e => ?_, fun j k x x' q ne a b c => ?_⟩
    · unfold Un at e
      cases q : Hs a with
      | none => rw [q] at e; exact r.sub a u e
      | some w => rw [q] at e; cases e; exact r.old a _ (un_some q)
    · unfold Un at e
      cases q : Hs a with
      | none => rw [q] at e; exact (un_none (r.fresh a u e m)).2
      | some w => exact d a w q
    · rcases get_set e with ⟨rfl, z⟩ | ⟨n1, e⟩
      · cases z
        exact ⟨_, hp, .dic (.inl (sH _ _ n.top)) (n.r.atk2 sN sH)⟩
      · obtain ⟨v, a1, a2⟩ := r.im j x (by rw [List.getElem?_set_ne (Ne.symm n1)]; exact e)
        exact ⟨v, a1, a2.mono sN⟩
    · rcases get_set e with ⟨_, z⟩ | ⟨n1, e⟩
      · cases z
      · exact absurd e (hn j x)
    · rcases get_set e with ⟨_, z⟩ | ⟨n1, e⟩
      · cases z
      · obtain ⟨q, a1, a2, a3, a4⟩ := r.ow j x (by rw [List.getElem?_set_ne (Ne.symm n1)]; exact e)
        obtain ⟨z1, z2⟩ := un_none a2
        refine ⟨q, a1, z2, by unfold Un; rw [z1]; exact a3, ?_⟩
        cases x with
        | lst ds => obtain ⟨vs, b1, b2⟩ := a4; exact ⟨vs, b1, b2.mono sN⟩
        | dic ds => obtain ⟨vs, b1, b2⟩ := a4; exact ⟨vs, b1, b2.mono sN⟩
        | dit ks ds => obtain ⟨vs, b1, ql, b2⟩ := a4; exact ⟨vs, b1, ql, b2.mono sN⟩
        | non => exact a4.elim
        | bl _ => exact a4.elim
        | int _ => exact a4.elim
        | str _ => exact a4.elim
        | tup _ => exact a4.elim
        | ins _ _ _ => exact a4.elim
        | tix _ => exact a4.elim
    · rcases get_set e with ⟨_, z⟩ | ⟨n1, e⟩
      · cases z
      · exact r.rf j a (by rw [List.getElem?_set_ne (Ne.symm n1)]; exact e)
    · rcases get_set a with ⟨_, z⟩ | ⟨n1, a⟩
      · cases z
      rcases get_set b with ⟨_, z⟩ | ⟨n2, b⟩
      · cases z
      exact r.apart j k x x' q ne (by rw [List.getElem?_set_ne (Ne.symm n1)]; exact a) (by rw [List.getElem?_set_ne (Ne.symm n2)]; exact b) c
  cases m with
  | ok r => exact go h fun N N' DD s c => fun v H a b r => c v H a (s.trans b) r
  | ex n => exact go h fun N N' DD s ⟨W, t, c⟩ => ⟨W, t, fun C σ H N2 m s2 r => c C σ H N2 m (s.trans s2) r⟩
  | far => trivial
/-! what is put and changed -/
theorem nst_noq {K : PySem.W.Frag} {N Hs : Hp} {p q : Addr} {qs : List Addr} {kvs : List (Key × V)} (n : Nst K N Hs p en T qs kvs) (h : Hs q = none) : q ∉ p :: qs := fun m => by
  rcases List.mem_cons.mp m with rfl | m
  · rw [n.top] at h; cases h
  · obtain ⟨ws, e⟩ := n.r.mem q m
    rw [e] at h; cases h
/-- d[key] = a new list, where the key is none of d's -/
theorem xm2_put {l : List α} {key : List Nat} {y : Str} {p2 : Pos} {f : List (List Nat × List α) → M γ} (hn : noOl ρ) (hi : i < ρ.length) (he : ∀ H0' p, EvO X H0' (ρ.set i (.rf p)) e (lstd en l)) (hb : ∀ H0' p, Ev X H0' (ρ.set i (.rf p)) b (tx key)) (hz : lenLt T = true) (hk : (!dhas T key) = true) (hu : X.A.units + 1 < cLine) (tt : ∀ T, ExM2 X H0 i en ρ T k rest D (f T)) (hN : X.N[i]? = some y := by rfl) (hv : Vis X.env.scope y := by first | exact Or.inl rfl | exact Or.inr (Or.inl rfl) | exact Or.inr (Or.inr rfl))
    (hd : (y == ("__debug__" : Str)) = false := by decide) (hcd : (y == ("__classdict__" : Str)) = false := by decide) (hs : swapsWith e (some (.Subscript (.Name y p1) b p2)) pos.line X.env = pure false := by rfl) :
    ExM2 X H0 i en ρ T k (.Assign [.Subscript (.Name y p1) b p2] e pos :: rest) D (M.lt (T ++ [(key, l)]) f) := by
  refine xm2_then (ρ1 := ρ) (T1 := T ++ [(key, l)]) (fun DD σ H N ⟨p, Hs, qs, kvs, n, d, r⟩ kk => ?_) (tt _)
  have hp : σ[i]? = some (some (V.ref p)) := r.rf i p (List.getElem?_set_self hi)
  have hn' : noOl (ρ.set i (.rf p)) := noOl_set hn
  refine ws_of (ps_dput hu (pv i hN hv hd hcd) pe_w pe_w hs) ((he _ p σ H N r).imp fun v H1 ⟨N1, q, e1, hq, s1, n1, r1, nq, ws, w1, w2⟩ => ?_)
  have uq : Un H0 Hs q = none := by
    cases z : Un H0 Hs q with
    | none => rfl
    | some u => have c0 := r.old q u z; rw [hq] at c0; cases c0
  obtain ⟨hsq, h0q⟩ := un_none uq
  have notin := nst_noq n hsq
  have npq : p ≠ q := fun z => notin (by rw [← z]; exact List.mem_cons_self)
  have r1' := r1.upd0 hn' (a := q) (o := .lst ws) (r1.tab.upd w1) True.intro nq (fun j d' e => no_own r hq j d' e)
  rw [upd_id w1, ← un_upd] at r1'
  refine ⟨_, hp, (hb _ p σ H1 N1 r1').imp fun z H2 ⟨N2, s2, n2, r2, a2⟩ => ?_⟩
  have h5 := at_str a2
  subst h5
  subst e1
  have top2 : H2 p = some (.dK kvs) := r2.old p _ (un_some (by rw [upd_ne npq]; exact n.top))
  have any0 : (kvs.any fun kv => decide (kv.1 = (Sum.inr (SX.S key) : Key))) = false := by
    rw [n.r.any key]
    have hk' : dhas T key = false := by simpa using hk
    cases z : (T.any fun p => decide (p.1 = key)) with
    | false => rfl
    | true =>
      exfalso
      have : ∀ T : List (List Nat × List α), (T.any fun p => decide (p.1 = key)) = true → (dget T key).isSome = true := by
        intro T
        induction T with
        | nil => intro h; cases h
        | cons a T ih =>
          intro h
          rw [dget_cons]
          by_cases c : a.1 = key
          · rw [if_pos c]; rfl
          · rw [if_neg c]
            rw [List.any_cons, decide_eq_false c, Bool.false_or] at h
            exact ih h
      have h3 := this T z
      have h4 : dhas T key = (dget T key).isSome := rfl
      rw [← h4, hk'] at h3
      cases h3
  have hput : putK kvs (Sum.inr (SX.S key) : Key) (V.ref q) = kvs ++ [((Sum.inr (SX.S key) : Key), V.ref q)] := by
    unfold putK
    rw [any0, if_neg (by decide)]
  refine ⟨p, _, rfl, .inl ⟨kvs, Sum.inr (SX.S key), top2, rfl, ?_, rfl⟩, kk σ _ N2 (n1.trans n2) ?_⟩
  · rw [n.r.len]; exact lenLt_ok hz
  rw [hput]
  have up : Un H0 (upd Hs q (.lst ws)) p = some (.dK kvs) := un_some (by rw [upd_ne npq]; exact n.top)
  have np2 := n_of r2 up True.intro
  have r3 := r2.upd0 hn' (a := p) (o := .dK (kvs ++ [((Sum.inr (SX.S key) : Key), V.ref q)])) (r2.tab.upd (r2.old p _ up).e) True.intro np2 (own_ne r2 up)
  rw [← un_upd] at r3
  rw [List.mem_cons, not_or] at notin
  have pq : p ∉ qs := (List.nodup_cons.mp n.nd).1
  refine ⟨p, _, qs ++ [q], _, ⟨?_, upd_same, ?_, fun a u z => ?_⟩, fun a u z => ?_, r3⟩
  · refine Rws.updH (Rws.snoc (q := q) (ws := ws) upd_same (w2.mono n2) ((n.r.mono (n1.trans n2)).updH notin.2)) ?_
    rw [List.mem_append, not_or]
    exact ⟨pq, fun m => notin.1 (List.mem_singleton.mp m).symm⟩
  · rw [show p :: (qs ++ [q]) = (p :: qs) ++ [q] from rfl, List.nodup_append]
    refine ⟨n.nd, by simp, fun a ha b hb z => ?_⟩
    rw [List.mem_singleton.mp hb] at z
    subst z
    rcases List.mem_cons.mp ha with m | m
    · exact notin.1 m
    · exact notin.2 m
  · by_cases c : a = p
    · subst c; exact List.mem_cons_self
    · rw [upd_ne c] at z
      by_cases c2 : a = q
      · subst c2; simp
      · rw [upd_ne c2] at z
        rcases List.mem_cons.mp (n.dom a u z) with m | m
        · exact absurd m c
        · exact List.mem_cons_of_mem _ (List.mem_append_left _ m)
  · by_cases c : a = p
    · subst c; exact d _ _ n.top
    · rw [upd_ne c] at z
      by_cases c2 : a = q
      · subst c2; exact h0q
      · rw [upd_ne c2] at z
        exact d a u z
/-- d[key][j] += u -/
theorem xm2_aug {T : List (List Nat × List Int)} {D : γ → Oc2 Int} {l l2 : List Int} {j w u : Int} {key : List Nat} {y : Str} {p2 p3 : Pos} {ix : Expr} {f : List (List Nat × List Int) → M γ} (hn : noOl ρ) (hi : i < ρ.length) (hb : ∀ H0' p, Ev X H0' (ρ.set i (.rf p)) b (tx key)) (hl : dget T key = some l) (hx : ∀ H0' p, Ev X H0' (ρ.set i (.rf p)) ix (.int j)) (h0 : decide (0 ≤ j) = true) (hj : atI l j = some w) (hv : ∀ H0' p, Ev X H0' (ρ.set i (.rf p)) e (.int u)) (hl2 : setI l j (w + u) = some l2) (hu : X.A.units + 1 < cLine) (tt : ∀ T, ExM2 X H0 i Dat.int ρ T k rest D (f T)) (hN : X.N[i]? = some y := by rfl) (hvis : Vis X.env.scope y := by first | exact Or.inl rfl | exact Or.inr (Or.inl rfl) | exact Or.inr (Or.inr rfl))
    (hd : (y == ("__debug__" : Str)) = false := by decide) (hcd : (y == ("__classdict__" : Str)) = false := by decide) (hsl : NoSl b := by exact fun _ _ => rfl)
    (hp : ∀ te to ti, PE X e te → PE X (.Subscript (.Name y p1) b p2) to → PE X ix ti → PS X (.AugAssign (.Subscript (.Subscript (.Name y p1) b p2) ix p3) .Add e pos) (tAugS to ti te rGetL (ipI fun i j => i + j) rSetL) := by exact fun te to ti h g f => ps_augS g f get_list h ip_add set_list) :
    ExM2 X H0 i Dat.int ρ T k (.AugAssign (.Subscript (.Subscript (.Name y p1) b p2) ix p3) .Add e pos :: rest) D (M.lt (dset T key l2) f) := by
  have h0 := of_decide_eq_true h0
  obtain ⟨q0, rfl⟩ := Int.eq_ofNat_of_zero_le h0
  unfold setI at hl2
  obtain ⟨q2, hj1, hj2⟩ := Option.map_eq_some_iff.mp hl2
  have e1 : q2 = q0 ∧ q0 < l.length := by
    unfold ixN at hj1
    rw [if_pos (by omega)] at hj1
    split at hj1
    · have := Option.some.inj hj1
      rw [Int.toNat_natCast] at this
      omega
    · cases hj1
  obtain ⟨rfl, hlt⟩ := e1
  have hg : (l.map Dat.int)[q2]? = some (.int w) := by
    unfold atI at hj
    rw [hj1] at hj
    rw [List.getElem?_map, show l[q2]? = some w from hj]
    rfl
  refine xm2_then (ρ1 := ρ) (T1 := dset T key l2) (fun DD σ H N ⟨p, Hs, qs, kvs, n, d, r⟩ kk => ?_) (tt _)
  have hpp : σ[i]? = some (some (V.ref p)) := r.rf i p (List.getElem?_set_self hi)
  have hn' : noOl (ρ.set i (.rf p)) := noOl_set hn
  obtain ⟨q, ws, m1, m2, m3, m4, m5⟩ := n.r.at_ (List.nodup_cons.mp n.nd).2 hl
  have wl : ws.length = l.length := by rw [m3.length, List.length_map]
  refine ws_of (hp _ _ _ pe_w (pe_dget hu (pv i hN hvis hd hcd) pe_w hsl) pe_w) ⟨_, hpp, (hb _ p σ H N r).imp fun v H1 ⟨N1, s1, n1, r1, a1⟩ => ?_⟩
  have h5 := at_str a1
  subst h5
  refine ⟨p, V.ref q, rfl, .inl ⟨kvs, Sum.inr (SX.S key), .inl (r1.old p _ (un_some n.top)), rfl, m4.symm⟩, (hx _ p σ H1 N1 r1).imp fun v2 H2 ⟨N2, s2, n2, r2, a2⟩ => ?_⟩
  obtain ⟨z, z1, z2⟩ := m3.get hg
  refine ⟨q, ws, q2, z, rfl, at_int a2, r2.old q _ (un_some m2), z1, (hv _ p σ H2 N2 r2).imp fun v3 H3 ⟨N3, s3, n3, r3, a3⟩ => ⟨w, u, at_int z2, at_int a3, ?_⟩⟩
  have uq : Un H0 Hs q = some (.lst ws) := un_some m2
  refine ⟨q, ws, q2, q2, rfl, at_int a2, r3.old q _ uq, ?_, kk σ _ N3 ((n1.trans n2).trans n3) ?_⟩
  · unfold ixN
    rw [if_pos (by omega), if_pos (by omega), Int.toNat_natCast]
  have nq := n_of r3 uq True.intro
  have r4 := r3.upd0 hn' (a := q) (o := .lst (ws.set q2 (.int (w + u)))) (r3.tab.upd (r3.old q _ uq).e) True.intro nq (own_ne r3 uq)
  rw [← un_upd] at r4
  have pq : p ≠ q := fun z => (List.nodup_cons.mp n.nd).1 (z ▸ m1)
  refine ⟨p, _, qs, kvs, ⟨?_, by rw [upd_ne pq]; exact n.top, n.nd, fun a u z => ?_⟩, fun a u z => ?_, r4⟩
  · refine m5 N3 _ l2 ((n1.trans n2).trans n3) ?_
    have := (m3.mono ((n1.trans n2).trans n3)).set (.int (w + u)) q2
    rw [← hj2, List.map_set]
    exact this
  · by_cases c : a = q
    · subst c; exact List.mem_cons_of_mem _ m1
    · rw [upd_ne c] at z; exact n.dom a u z
  · by_cases c : a = q
    · subst c; exact d _ _ m2
    · rw [upd_ne c] at z; exact d a u z
end
end B

namespace B
open PySem PySem.Spec PyProof.Rows L2
/-! ### for key in dict -/
/-- what reads the same there -/
def RdS (N G : Hp) : Prop := ∀ a, (∀ xs, Rd N a (.tup xs) → Rd G a (.tup xs)) ∧ (∀ xs, Rd N a (.lst xs) → Rd G a (.lst xs)) ∧ (∀ kvs, Rd N a (.dK kvs) → Rd G a (.dK kvs)) ∧ (∀ C dx fs, N a = some (.ins C dx fs) → G a = some (.ins C dx fs)) ∧ (∀ kvs, Rd N a (.dT kvs) → Rd G a (.dT kvs)) ∧ ∀ xs, N a = some (.tup xs) → G a = some (.tup xs)
mutual
theorem At.rds {K : PySem.W.Frag} {N G : Hp} (e : RdS N G) : ∀ {v : V} {d : Dat}, At K N v d → At K G v d
  | _, _, .non => .non
  | _, _, .bl b => .bl b
  | _, _, .int i => .int i
  | _, _, .str s => .str s
  | _, _, .tup h t => .tup (h.imp ((e _).1 _) id) (Ats.rds e t)
  | _, _, .lst h t => .lst (h.imp ((e _).2.1 _) id) (Ats.rds e t)
  | _, _, .dic h t => .dic ((e _).2.2.1 _ h) (Atk.rds e t)
  | _, _, .ins h c b l t => .ins ((e _).2.2.2.1 _ _ _ h) c b l (Ats.rds e t)
  | _, _, .tix h => .tix ((e _).2.2.2.2.2 _ h)
  | _, _, .dit h l t => .dit ((e _).2.2.2.2.1 _ h) l (Ats.rds e t)
theorem Ats.rds {K : PySem.W.Frag} {N G : Hp} (e : RdS N G) : ∀ {vs : List V} {ds : List Dat}, Ats K N vs ds → Ats K G vs ds
  | _, _, .nil => .nil
  | _, _, .cons a t => .cons (At.rds e a) (Ats.rds e t)
theorem Atk.rds {K : PySem.W.Frag} {N G : Hp} (e : RdS N G) : ∀ {vs : List (Key × V)} {ds : List (Key × Dat)}, Atk K N vs ds → Atk K G vs ds
  | _, _, .nil => .nil
  | _, _, .cons a t => .cons (At.rds e a) (Atk.rds e t)
end
theorem rds_lock {N : Hp} {d : Addr} {kvs : List (Key × V)} {od : Obj} (h : N d = some (.dK kvs)) : RdS N (upd N d (.frz od (.dK kvs))) := fun a => by
  have go : ∀ u, Rd N a u → (∀ o u', u ≠ .frz o u') → Rd (upd N d (.frz od (.dK kvs))) a u := fun u r hu => by
    by_cases q : a = d
    · subst q
      rcases r with r | ⟨o, r⟩
      · rw [h] at r; cases r; exact .inr ⟨od, upd_same⟩
      · rw [h] at r; cases r
    · rcases r with r | ⟨o, r⟩
      · exact .inl (by rw [upd_ne q]; exact r)
      · exact .inr ⟨o, by rw [upd_ne q]; exact r⟩
  exact ⟨fun xs r => go _ r (fun o u' z => by cases z), fun xs r => go _ r (fun o u' z => by cases z), fun ks r => go _ r (fun o u' z => by cases z), fun C dx fs r => by rw [upd_ne (fun q => by rw [q, h] at r; cases r)]; exact r, fun ks r => go _ r (fun o u' z => by cases z), fun xs r => by rw [upd_ne (fun q => by rw [q, h] at r; cases r)]; exact r⟩
theorem rds_unlock {N : Hp} {d : Addr} {kvs : List (Key × V)} {od : Obj} (h : N d = some (.frz od (.dK kvs))) : RdS N (upd N d (.dK kvs)) := fun a => by
  have go : ∀ u, Rd N a u → (∀ o u', u ≠ .frz o u') → Rd (upd N d (.dK kvs)) a u := fun u r hu => by
    by_cases q : a = d
    · subst q
      rcases r with r | ⟨o, r⟩
      · rw [h] at r; cases r; exact absurd rfl (hu _ _)
      · rw [h] at r; cases r; exact .inl upd_same
    · rcases r with r | ⟨o, r⟩
      · exact .inl (by rw [upd_ne q]; exact r)
      · exact .inr ⟨o, by rw [upd_ne q]; exact r⟩
  exact ⟨fun xs r => go _ r (fun o u' z => by cases z), fun xs r => go _ r (fun o u' z => by cases z), fun ks r => go _ r (fun o u' z => by cases z), fun C dx fs r => by rw [upd_ne (fun q => by rw [q, h] at r; cases r)]; exact r, fun ks r => go _ r (fun o u' z => by cases z), fun xs r => by rw [upd_ne (fun q => by rw [q, h] at r; cases r)]; exact r⟩
theorem Own.rds {K : PySem.W.Frag} {H H' N G : Hp} {p : Addr} {d : Dat} (e : RdS N G) (hp : H' p = H p) (h : Own K H N p d) : Own K H' G p d := by
  cases d with
  | lst ds => obtain ⟨vs, b1, b2⟩ := h; exact ⟨vs, by rw [hp]; exact b1, b2.rds e⟩
  | dic ds => obtain ⟨vs, b1, b2⟩ := h; exact ⟨vs, by rw [hp]; exact b1, b2.rds e⟩
  | dit ks ds => obtain ⟨vs, b1, ql, b2⟩ := h; exact ⟨vs, by rw [hp]; exact b1, ql, b2.rds e⟩
  | non => exact h.elim
  | bl _ => exact h.elim
  | int _ => exact h.elim
  | str _ => exact h.elim
  | tup _ => exact h.elim
  | ins _ _ _ => exact h.elim
  | tix _ => exact h.elim
theorem Rep.lockN {K : PySem.W.Frag} {H0 H N : Hp} {ρ : Env'} {σ : L2.St} {d : Addr} {kvs : List (Key × V)} (r : Rep K H0 ρ σ H N) (h : N d = some (.dK kvs)) (od : Obj) : Rep K H0 ρ σ (upd H d (.frz od (.dK kvs))) (upd N d (.frz od (.dK kvs))) := by
  have h0 : H0 d = none := r.fresh d _ h True.intro
  have ne : ∀ {a : Addr} {u : HO}, H0 a = some u → a ≠ d := fun {a u} e q => by rw [q, h0] at e; cases e
  have rd := rds_lock (od := od) h
  refine ⟨r.tab.upd (r.sub _ _ h).e, fun a u e => by rw [upd_ne (ne e)]; exact r.old a u e, fun a u e => ?_, fun a u e => by rw [upd_ne (ne (imm_eq e))]; exact r.imm a u e, fun a u e m => ?_, r.len, fun j x e => ?_, r.ol, fun j x e => ?_, r.rf, r.apart⟩
  · by_cases q : a = d
    · subst q; rw [upd_same] at e ⊢; first | exact e | exact Cg.of e
    · rw [upd_ne q] at e ⊢; exact r.sub a u e
  · by_cases q : a = d
    · subst q; rw [upd_same] at e; cases e; exact m.elim
    · rw [upd_ne q] at e; exact r.fresh a u e m
  · obtain ⟨v, a1, a2⟩ := r.im j x e
    exact ⟨v, a1, a2.rds rd⟩
  · obtain ⟨p, a1, a2, a3, a4⟩ := r.ow j x e
    have q : p ≠ d := fun q => by rw [q, h] at a3; cases a3
    exact ⟨p, a1, a2, by rw [upd_ne q]; exact a3, a4.rds rd (upd_ne q)⟩
theorem Rep.unlockN {K : PySem.W.Frag} {H0 H N : Hp} {ρ : Env'} {σ : L2.St} {d : Addr} {kvs : List (Key × V)} {od : Obj} (r : Rep K H0 ρ σ H N) (h : N d = some (.frz od (.dK kvs))) (h0 : H0 d = none) : Rep K H0 ρ σ (upd H d (.dK kvs)) (upd N d (.dK kvs)) := by
  have ne : ∀ {a : Addr} {u : HO}, H0 a = some u → a ≠ d := fun {a u} e q => by rw [q, h0] at e; cases e
  have rd := rds_unlock h
  refine ⟨r.tab.upd (r.sub _ _ h).e, fun a u e => by rw [upd_ne (ne e)]; exact r.old a u e, fun a u e => ?_, fun a u e => by rw [upd_ne (ne (imm_eq e))]; exact r.imm a u e, fun a u e m => ?_, r.len, fun j x e => ?_, r.ol, fun j x e => ?_, r.rf, r.apart⟩
  · by_cases q : a = d
    · subst q; rw [upd_same] at e ⊢; first | exact e | exact Cg.of e
    · rw [upd_ne q] at e ⊢; exact r.sub a u e
  · by_cases q : a = d
    · subst q; exact h0
    · rw [upd_ne q] at e; exact r.fresh a u e m
  · obtain ⟨v, a1, a2⟩ := r.im j x e
    exact ⟨v, a1, a2.rds rd⟩
  · obtain ⟨p, a1, a2, a3, a4⟩ := r.ow j x e
    have q : p ≠ d := fun q => by rw [q, h] at a3; cases a3
    exact ⟨p, a1, a2, by rw [upd_ne q]; exact a3, a4.rds rd (upd_ne q)⟩
section
variable {α β γ S : Type} {X : Cx} {H0 : Hp} {k : Nat} {en : α → Dat} {ρ ρ1 : Env'} {st : Stmt} {sts rest body : List Stmt} {b c e : Expr} {p1 pos : Pos} {o : Outc} {D : γ → Outc}
/-- a for in one state -/
theorem ws_for {t iter : Expr} {wi : TI} {bd : Dat → Env' → Env'} {ok : Dat → Prop} {ds : List Dat} {DD : Ends} {σ : L2.St} {H N : Hp} (hp : PassesOwn (model X.prog X.w) X.A X.env X.xe) (hc : X.calm = true) (pi : PI X t iter wi) (hw : ∀ R, (∀ J H1 N1, Same N N1 → Same H H1 → Rep X.K H0 ρ σ H1 N1 → Walks X.K H0 J N1 ds → R J H1) → wi σ H R) (hg : Tgt X H0 t ok bd) (hk : ∀ d ∈ ds, ok d) (h : ForT X H0 bd body ds ρ o) (k : Cont X H0 N DD o)
    (hs : ∀ x, foldedSetIterable iter X.env x = pure x) : WS X (.For t iter body [] pos) DD σ H := by
  obtain ⟨g, pg, hgg⟩ := hg.pg
  refine ws_of (ps_for hp hc pi pg pb_w hs) (hw _ fun J H1 N1 n1 s1 r1 w => ?_)
  refine ⟨fun i m σ' H' => m = ds.length - i ∧ i ≤ ds.length ∧ ∃ ρ' N', Same N1 N' ∧ Rep X.K H0 ρ' σ' H' N' ∧ ForT X H0 bd body (ds.drop i) ρ' o, ⟨_, rfl, Nat.zero_le _, ρ, N1, Same.refl _, r1, h⟩, ?_⟩
  rintro i m σ' H' ⟨rfl, hi, ρ', N', s', r', f⟩
  obtain ⟨wg, wst⟩ := w H0 ρ' σ' H' N' i (Same.refl _) s' r'
  by_cases hlt : i < ds.length
  · obtain ⟨go, yl⟩ := wg hlt
    have e1 : ds.drop i = ds[i] :: ds.drop (i + 1) := List.drop_eq_getElem_cons hlt
    rw [e1] at f
    have base : ∀ (O : Outc) (Dx : Ends), Exec X H0 (bd ds[i] ρ') body O → (∀ N3, Same N1 N3 → Cont X H0 N3 Dx O) → ∀ x H2, J.yld i H' x H2 → g x σ' H2 fun σ3 H3 => WB X body Dx σ3 H3 := fun O Dx ex kk x H2 y => by
      obtain ⟨N3, d, n3, s3, r3, e3, a3⟩ := yl x H2 y
      have ed : d = ds[i] := by
        rw [List.getElem?_eq_getElem hlt] at e3
        exact (Option.some.inj e3).symm
      subst ed
      exact hgg ρ' σ' H2 N3 x _ r3 a3 (hk _ (List.getElem_mem hlt)) _ fun σ4 H4 N4 n4 r4 => ex Dx σ4 H4 N4 r4 (kk N4 ((s'.trans n3).trans n4))
    have again : ∀ ρ1, ForT X H0 bd body (ds.drop (i + 1)) ρ1 o → ∀ σ3 H3, (∃ N3, Same N1 N3 ∧ Rep X.K H0 ρ1 σ3 H3 N3) → ∃ m', m' < ds.length - i ∧ m' = ds.length - (i + 1) ∧ i + 1 ≤ ds.length ∧ ∃ ρ' N', Same N1 N' ∧ Rep X.K H0 ρ' σ3 H3 N' ∧ ForT X H0 bd body (ds.drop (i + 1)) ρ' o :=
      fun ρ1 ff σ3 H3 ⟨N3, q1, q2⟩ => ⟨ds.length - (i + 1), by omega, rfl, hlt, ρ1, N3, q1, q2, ff⟩
    cases f with
    | @turn _ ρ1 _ _ _ ex ff => exact .inr ⟨go, fun σ3 H3 => ∃ N3, Same N1 N3 ∧ Rep X.K H0 ρ1 σ3 H3 N3, again ρ1 ff, base (.nx ρ1) _ ex fun N3 q3 σ3 H3 N4 q4 r4 => ⟨N4, q3.trans q4, r4⟩⟩
    | @turnC _ ρ1 _ _ _ ex ff => exact .inr ⟨go, fun σ3 H3 => ∃ N3, Same N1 N3 ∧ Rep X.K H0 ρ1 σ3 H3 N3, again ρ1 ff, base (.ct ρ1) _ ex fun N3 q3 σ3 H3 N4 q4 r4 => ⟨N4, q3.trans q4, r4⟩⟩
    | @brk _ ρ1 _ _ ex => exact .inr ⟨go, fun _ _ => False, fun _ _ z => z.elim, base (.bk ρ1) _ ex fun N3 q3 σ3 H3 N4 q4 r4 => k σ3 H3 N4 ((n1.trans q3).trans q4) r4⟩
    | ret ex => exact .inr ⟨go, fun _ _ => False, fun _ _ z => z.elim, base _ _ ex fun N3 q3 => Cont.mono (o := .rt _) k (n1.trans q3)⟩
    | retO ex => exact .inr ⟨go, fun _ _ => False, fun _ _ z => z.elim, base _ _ ex fun N3 q3 => Cont.mono (o := .ro _) k (n1.trans q3)⟩
    | @exc _ ρ1 _ _ n ex => exact .inr ⟨go, fun _ _ => False, fun _ _ z => z.elim, base (.ex n ρ1) _ ex fun N3 q3 => Cont.mono (o := .ex n ρ1) k (n1.trans q3)⟩
  · have e1 : i = ds.length := by omega
    subst e1
    rw [List.drop_length] at f
    cases f
    exact .inl ⟨wst rfl, k σ' H' N' (n1.trans s') r'⟩
theorem atk_ks {K : PySem.W.Frag} {H : Hp} : ∀ {l : List (List Nat × α)} {vs : List (Key × V)}, Atk K H vs (dm en l) → vs.length = l.length ∧ ∀ (i : Nat) (k : Key) (v : V), vs[i]? = some (k, v) → ∃ x, l[i]? = some x ∧ kV k = .str (SX.S x.1)
  | [], vs, h => by cases h; exact ⟨rfl, fun i k v e => by cases e⟩
  | p :: l, vs, h => by
    cases h with
    | cons ha ht =>
      obtain ⟨h1, h2⟩ := atk_ks ht
      refine ⟨by rw [List.length_cons, List.length_cons, h1], fun i k v e => ?_⟩
      cases i with
      | zero => cases e; exact ⟨p, rfl, rfl⟩
      | succ i => exact h2 i k v e
theorem wlk_k {K : PySem.W.Frag} {G N1 : Hp} {d : Addr} {od : Obj} {kvs : List (Key × V)} {l : List (List Nat × α)} (hd : N1 d = some (.frz od (.dK kvs)) ∨ G d = some (.frz od (.dK kvs))) (hl : kvs.length = l.length ∧ ∀ (i : Nat) (k : Key) (v : V), kvs[i]? = some (k, v) → ∃ x, l[i]? = some x ∧ kV k = .str (SX.S x.1)) : Walks K G (Itk d od kvs) N1 (l.map fun p => tx p.1) := fun H02 ρ2 σ2 H2 N2 i s02 s2 r2 => by
  have h2 : H2 d = some (.frz od (.dK kvs)) := by
    rcases hd with hd | hd
    · exact (r2.sub _ _ (s2 _ _ hd).e).e
    · exact (r2.old _ _ (s02 _ _ hd).e).e
  refine ⟨fun hi => ⟨⟨h2, by rw [hl.1]; rwa [List.length_map] at hi⟩, fun x H3 y => ?_⟩, fun hi => ⟨h2, by rw [hl.1]; rw [List.length_map] at hi; omega⟩⟩
  obtain ⟨rfl, k, v, e1, rfl⟩ := y
  obtain ⟨z, z1, z2⟩ := hl.2 i k v e1
  refine ⟨N2, tx z.1, Same.refl _, Same.refl _, r2, by rw [List.getElem?_map, z1]; rfl, ?_⟩
  rw [z2]
  exact .str _
/-- for key in d, d a thing of ours that no one changes any more -/
theorem sx_forK {t : Expr} {bd : Dat → Env' → Env'} {ok : Dat → Prop} {l : List (List Nat × α)} (i : Nat) {y : Str} (hp : PassesOwn (model X.prog X.w) X.A X.env X.xe) (hc : X.calm = true) (hi : ρ[i]? = some (.im (dicd en l))) (hg : Tgt X H0 t ok bd) (hok : ∀ d ∈ (l.map fun p => tx p.1), ok d) (h : ForT X H0 bd body (l.map fun p => tx p.1) ρ (.nx ρ1))
    (hN : X.N[i]? = some y := by rfl) (hv : Vis X.env.scope y := by first | exact Or.inl rfl | exact Or.inr (Or.inl rfl) | exact Or.inr (Or.inr rfl)) (hd : (y == ("__debug__" : Str)) = false := by decide) (hcd : (y == ("__classdict__" : Str)) = false := by decide)
    (hs : ∀ x, foldedSetIterable (.Name y p1) X.env x = pure x := by intro _; rfl) : ExS X H0 ρ (.For t (.Name y p1) body [] pos) (.nx ρ1) := fun DD σ H N r c => by
  obtain ⟨v, e1, a⟩ := r.im i _ hi
  obtain ⟨d, kvs, rfl, rd, ak⟩ := at_dic a
  have hk := atk_ks ak
  rcases rd with e2 | ⟨od, e2⟩
  · refine ws_of (ps_lock ps_w) ⟨d, .dK kvs, r.sub _ _ e2, True.intro, fun od => ?_⟩
    have h0 : H0 d = none := r.fresh d _ e2 True.intro
    have rl := r.lockN e2 od
    refine ws_for (H0 := H0) (ρ := ρ) hp hc (pi_keys (pv i hN hv hd hcd)) (fun R kk => ⟨_, e1, d, od, rfl, .inl ⟨kvs, upd_same, kk _ _ _ (Same.refl _) (Same.refl _) rl (wlk_k (.inl upd_same) hk)⟩⟩) hg hok h (fun σ' H' N' s r' => ⟨(r'.sub _ _ (s _ _ upd_same).e).e, ?_⟩) hs
    have nd := (s _ _ upd_same).e
    refine c σ' _ _ (fun a u e => ?_) (r'.unlockN nd h0)
    by_cases q : a = d
    · subst q; rw [e2] at e; rw [upd_same]; first | exact e | exact Cg.of e
    · rw [upd_ne q]; exact s a u (by rw [upd_ne q]; exact e)
  · exact ws_for (H0 := H0) (ρ := ρ) hp hc (pi_keys (pv i hN hv hd hcd)) (fun R kk => ⟨_, e1, d, od, rfl, .inl ⟨kvs, r.sub _ _ e2, kk _ _ _ (Same.refl _) (Same.refl _) r (wlk_k (.inl e2) hk)⟩⟩) hg hok h c hs
theorem xm_forK {eS : S → Env'} {l : List (List Nat × α)} {s0 : S} {t : Expr} {bd : Dat → Env' → Env'} {ok : Dat → Prop} {f : List Nat → S → M S} {fk : S → M γ} (i : Nat) {y : Str} (hp : PassesOwn (model X.prog X.w) X.A X.env X.xe) (hc : X.calm = true) (hi : ρ[i]? = some (.im (dicd en l))) (hg : Tgt X H0 t ok bd) (hok : ∀ d ∈ (l.map fun p => tx p.1), ok d) (h0 : ρ = eS s0) (hb : ∀ x s, ExM X H0 (bd (tx x) (eS s)) k body (fun s => .nx (eS s)) (f x s)) (tt : ∀ s, ExM X H0 (eS s) k rest D (fk s))
    (hN : X.N[i]? = some y := by rfl) (hv : Vis X.env.scope y := by first | exact Or.inl rfl | exact Or.inr (Or.inl rfl) | exact Or.inr (Or.inr rfl)) (hd : (y == ("__debug__" : Str)) = false := by decide) (hcd : (y == ("__classdict__" : Str)) = false := by decide)
    (hs : ∀ x, foldedSetIterable (.Name y p1) X.env x = pure x := by intro _; rfl) : ExM X H0 ρ k (.For t (.Name y p1) body [] pos :: rest) D (M.bind (M.nox (forM f (l.map (·.1)) s0)) fk) := by
  have h := forM_T hb (l.map (·.1)) s0
  subst h0
  rw [List.map_map] at h
  cases e : forM f (l.map (·.1)) s0 with
  | ok s =>
    rw [e] at h
    exact xm_then (sx_forK i hp hc hi hg hok h hN hv hd hcd hs) (tt s)
  | ex n => trivial
  | far => trivial
/-! .. d handed in -/
/-- all that is held is flat, lists and dicts of one's own hold flat things -/
def FlatE (ρ : Env') : Prop := (∀ (j : Nat) (d : Dat), ρ[j]? = some (Ent.im d) → flat d = true) ∧ (∀ (j : Nat) (ds : List Dat), ρ[j]? = some (Ent.ow (.lst ds)) → ∀ d ∈ ds, flat d = true) ∧ (∀ (j : Nat) (ds : List (Key × Dat)), ρ[j]? = some (Ent.ow (.dic ds)) → ∀ d ∈ ds, flat d.2 = true) ∧ ∀ (j : Nat) (ks : List (List Key)) (ds : List Dat), ρ[j]? ≠ some (Ent.ow (.dit ks ds))
mutual
theorem At.flat2 {K : PySem.W.Frag} {N G : Hp} (e : ∀ a xs, SqT K N a xs → SqT K G a xs) : ∀ {v : V} {d : Dat}, At K N v d → flat d = true → At K G v d
  | _, _, .non, _ => .non
  | _, _, .bl b, _ => .bl b
  | _, _, .int i, _ => .int i
  | _, _, .str s, _ => .str s
  | _, _, .tup h t, f => .tup (e _ _ h) (Ats.flat2 e t f)
  | _, _, .lst _ _, f => by cases f
  | _, _, .dic _ _, f => by cases f
  | _, _, .ins _ _ _ _ _, f => by cases f
  | _, _, .tix _, f => by cases f
  | _, _, .dit _ _ _, f => by cases f
theorem Ats.flat2 {K : PySem.W.Frag} {N G : Hp} (e : ∀ a xs, SqT K N a xs → SqT K G a xs) : ∀ {vs : List V} {ds : List Dat}, Ats K N vs ds → flats ds = true → Ats K G vs ds
  | _, _, .nil, _ => .nil
  | _, _, .cons a t, f => by
    simp only [flats, Bool.and_eq_true] at f
    exact .cons (At.flat2 e a f.1) (Ats.flat2 e t f.2)
end
theorem Ats.flat3 {K : PySem.W.Frag} {N G : Hp} (e : ∀ a xs, SqT K N a xs → SqT K G a xs) : ∀ {vs : List V} {ds : List Dat}, Ats K N vs ds → (∀ d ∈ ds, flat d = true) → Ats K G vs ds
  | _, _, .nil, _ => .nil
  | _, _, .cons a t, f => .cons (a.flat2 e (f _ List.mem_cons_self)) (Ats.flat3 e t fun d hd => f d (List.mem_cons_of_mem _ hd))
theorem Atk.flat3 {K : PySem.W.Frag} {N G : Hp} (e : ∀ a xs, SqT K N a xs → SqT K G a xs) : ∀ {vs : List (Key × V)} {ds : List (Key × Dat)}, Atk K N vs ds → (∀ d ∈ ds, flat d.2 = true) → Atk K G vs ds
  | _, _, .nil, _ => .nil
  | _, _, .cons a t, f => .cons (a.flat2 e (f _ List.mem_cons_self)) (Atk.flat3 e t fun d hd => f d (List.mem_cons_of_mem _ hd))
open Classical in
noncomputable def wo (N : Hp) (d : Addr) : Hp := fun a => if a = d then none else N a
theorem wo_ne {N : Hp} {a d : Addr} (h : a ≠ d) : wo N d a = N a := by unfold wo; rw [if_neg h]
theorem wo_some {N : Hp} {a d : Addr} {u : HO} (h : wo N d a = some u) : a ≠ d ∧ N a = some u := by
  unfold wo at h
  by_cases q : a = d
  · rw [if_pos q] at h; cases h
  · rw [if_neg q] at h; exact ⟨q, h⟩
theorem Rep.lock0 {K : PySem.W.Frag} {H N : Hp} {σ : L2.St} {d : Addr} {kvs : List (Key × V)} (r : Rep K H0 ρ σ H N) (h : H0 d = some (.dK kvs)) (od : Obj) : Rep K (upd H0 d (.frz od (.dK kvs))) ρ σ (upd H d (.frz od (.dK kvs))) (upd N d (.frz od (.dK kvs))) := by
  have nd := n_of r h True.intro
  have sN : Same N (upd N d (.frz od (.dK kvs))) := Same.of_none nd
  have rd := rds_lock (od := od) h
  refine ⟨r.tab.upd (r.old _ _ h).e, fun a u e => ?_, fun a u e => ?_, fun a u e => ?_, fun a u e m => ?_, r.len, fun j x e => ?_, fun j x e => ?_, fun j x e => ?_, r.rf, r.apart⟩
  · by_cases q : a = d
    · subst q; rw [upd_same] at e ⊢; first | exact e | exact Cg.of e
    · rw [upd_ne q] at e ⊢; exact r.old a u e
  · by_cases q : a = d
    · subst q; rw [upd_same] at e ⊢; first | exact e | exact Cg.of e
    · rw [upd_ne q] at e ⊢; exact r.sub a u e
  · have mu := imm_not e
    have e1 := imm_eq e
    by_cases q : a = d
    · subst q; rw [upd_same] at e1 ⊢; first | exact e1 | exact Cg.of e1
    · rw [upd_ne q] at e1 ⊢; exact r.imm a u (imm_of e1 mu)
  · by_cases q : a = d
    · subst q; rw [upd_same] at e; cases e; exact m.elim
    · rw [upd_ne q] at e ⊢; exact r.fresh a u e m
  · obtain ⟨v, a1, a2⟩ := r.im j x e
    exact ⟨v, a1, a2.mono sN⟩
  · obtain ⟨v, a1, a2⟩ := r.ol j x e
    exact ⟨v, a1, a2.rds rd⟩
  · obtain ⟨p, a1, a2, a3, a4⟩ := r.ow j x e
    have q : p ≠ d := fun q => by rw [q, h] at a2; cases a2
    refine ⟨p, a1, by rw [upd_ne q]; exact a2, by rw [upd_ne q]; exact a3, ?_⟩
    cases x with
    | lst ds => obtain ⟨vs, b1, b2⟩ := a4; exact ⟨vs, by rw [upd_ne q]; exact b1, b2.mono sN⟩
    | dic ds => obtain ⟨vs, b1, b2⟩ := a4; exact ⟨vs, by rw [upd_ne q]; exact b1, b2.mono sN⟩
    | dit ks ds => obtain ⟨vs, b1, ql, b2⟩ := a4; exact ⟨vs, by rw [upd_ne q]; exact b1, ql, b2.mono sN⟩
    | non => exact a4.elim
    | bl _ => exact a4.elim
    | int _ => exact a4.elim
    | str _ => exact a4.elim
    | tup _ => exact a4.elim
    | ins _ _ _ => exact a4.elim
    | tix _ => exact a4.elim
theorem Rep.unlock0 {K : PySem.W.Frag} {H N : Hp} {σ : L2.St} {d : Addr} {kvs : List (Key × V)} {od : Obj} (r : Rep K (upd H0 d (.frz od (.dK kvs))) ρ σ H N) (h : H0 d = some (.dK kvs)) (f : FlatE ρ) : Rep K H0 ρ σ (upd H d (.dK kvs)) (wo N d) := by
  have hd : H d = some (.frz od (.dK kvs)) := r.old _ _ upd_same
  have sq : ∀ a xs, SqT K N a xs → SqT K (wo N d) a xs := fun a xs e => by
    have ne : ∀ {u : HO}, N a = some u → (u = .tup xs ∨ ∃ o, u = .frz o (.tup xs)) → a ≠ d := fun {u} e1 e2 q => by
      have := r.sub a u e1
      rw [q, hd] at this
      cases this
      rcases e2 with e2 | ⟨o, e2⟩ <;> cases e2
    rcases e with (e | ⟨o, e⟩) | e
    · exact .inl (.inl (by rw [wo_ne (ne e (.inl rfl))]; exact e))
    · exact .inl (.inr ⟨o, by rw [wo_ne (ne e (.inr ⟨o, rfl⟩))]; exact e⟩)
    · exact .inr e
  have rd : RdS (upd H0 d (.frz od (.dK kvs))) H0 := by
    have := rds_unlock (N := upd H0 d (.frz od (.dK kvs))) (d := d) (kvs := kvs) (od := od) upd_same
    have e : upd (upd H0 d (.frz od (.dK kvs))) d (.dK kvs) = H0 := by
      funext a
      by_cases q : a = d
      · subst q; rw [upd_same, h]
      · rw [upd_ne q, upd_ne q]
    rwa [e] at this
  refine ⟨r.tab.upd hd, fun a u e => ?_, fun a u e => ?_, fun a u e => ?_, fun a u e m => ?_, r.len, fun j x e => ?_, fun j x e => ?_, fun j x e => ?_, r.rf, r.apart⟩
  · by_cases q : a = d
    · subst q; rw [h] at e; rw [upd_same]; first | exact e | exact Cg.of e
    · rw [upd_ne q]; exact r.old a u (by rw [upd_ne q]; exact e)
  · obtain ⟨q, e⟩ := wo_some e
    rw [upd_ne q]; exact r.sub a u e
  · have mu := imm_not e
    have e1 := imm_eq e
    have q : a ≠ d := fun q => by rw [q, h] at e1; cases e1; exact mu True.intro
    rw [wo_ne q]
    exact r.imm a u (imm_of (by rw [upd_ne q]; exact e1) mu)
  · obtain ⟨q, e⟩ := wo_some e
    have := r.fresh a u e m
    rwa [upd_ne q] at this
  · obtain ⟨v, a1, a2⟩ := r.im j x e
    exact ⟨v, a1, a2.flat2 sq (f.1 j x e)⟩
  · obtain ⟨v, a1, a2⟩ := r.ol j x e
    exact ⟨v, a1, a2.rds rd⟩
  · obtain ⟨p, a1, a2, a3, a4⟩ := r.ow j x e
    have q : p ≠ d := fun q => by rw [q, upd_same] at a2; cases a2
    rw [upd_ne q] at a2
    refine ⟨p, a1, a2, by rw [wo_ne q]; exact a3, ?_⟩
    cases x with
    | lst ds => obtain ⟨vs, b1, b2⟩ := a4; exact ⟨vs, by rw [upd_ne q]; exact b1, b2.flat3 sq (f.2.1 j ds e)⟩
    | dic ds => obtain ⟨vs, b1, b2⟩ := a4; exact ⟨vs, by rw [upd_ne q]; exact b1, b2.flat3 sq (f.2.2.1 j ds e)⟩
    | dit ks ds => exact absurd e (f.2.2.2 j ks ds)
    | non => exact a4.elim
    | bl _ => exact a4.elim
    | int _ => exact a4.elim
    | str _ => exact a4.elim
    | tup _ => exact a4.elim
    | ins _ _ _ => exact a4.elim
    | tix _ => exact a4.elim
theorem sx_forK0 {t : Expr} {bd : Dat → Env' → Env'} {ok : Dat → Prop} {l : List (List Nat × α)} (i : Nat) {y : Str} (hp : PassesOwn (model X.prog X.w) X.A X.env X.xe) (hc : X.calm = true) (hi : ρ[i]? = some (.ol (dicd en l))) (hf : FlatE ρ1) (hg : ∀ H0, Tgt X H0 t ok bd) (hok : ∀ d ∈ (l.map fun p => tx p.1), ok d) (h : ∀ H0, ForT X H0 bd body (l.map fun p => tx p.1) ρ (.nx ρ1))
    (hN : X.N[i]? = some y := by rfl) (hv : Vis X.env.scope y := by first | exact Or.inl rfl | exact Or.inr (Or.inl rfl) | exact Or.inr (Or.inr rfl)) (hd : (y == ("__debug__" : Str)) = false := by decide) (hcd : (y == ("__classdict__" : Str)) = false := by decide)
    (hs : ∀ x, foldedSetIterable (.Name y p1) X.env x = pure x := by intro _; rfl) : ExS X H0 ρ (.For t (.Name y p1) body [] pos) (.nx ρ1) := fun DD σ H N r c => by
  obtain ⟨v, e1, a⟩ := r.ol i _ hi
  obtain ⟨d, kvs, rfl, rd, ak⟩ := at_dic a
  have hk := atk_ks ak
  rcases rd with e2 | ⟨od, e2⟩
  · refine ws_of (ps_lock ps_w) ⟨d, .dK kvs, r.old _ _ e2, True.intro, fun od => ?_⟩
    have nd := n_of r e2 True.intro
    have rl := r.lock0 e2 od
    refine ws_for (H0 := upd H0 d (.frz od (.dK kvs))) (ρ := ρ) hp hc (pi_keys (pv i hN hv hd hcd)) (fun R kk => ⟨_, e1, d, od, rfl, .inl ⟨kvs, upd_same, kk _ _ _ (Same.refl _) (Same.refl _) rl (wlk_k (.inl upd_same) hk)⟩⟩) (hg _) hok (h _) (fun σ' H' N' s r' => ⟨(r'.old _ _ upd_same).e, ?_⟩) hs
    refine c σ' _ _ (fun a u e => ?_) (r'.unlock0 e2 hf)
    have q : a ≠ d := fun q => by rw [q, nd] at e; cases e
    rw [wo_ne q]; exact s a u (by rw [upd_ne q]; exact e)
  · exact ws_for (H0 := H0) (ρ := ρ) hp hc (pi_keys (pv i hN hv hd hcd)) (fun R kk => ⟨_, e1, d, od, rfl, .inl ⟨kvs, r.old _ _ e2, kk _ _ _ (Same.refl _) (Same.refl _) r (wlk_k (.inr e2) hk)⟩⟩) (hg _) hok (h _) c hs
theorem xm_forK0 {eS : S → Env'} {l : List (List Nat × α)} {s0 : S} {t : Expr} {bd : Dat → Env' → Env'} {ok : Dat → Prop} {f : List Nat → S → M S} {fk : S → M γ} (i : Nat) {y : Str} (hp : PassesOwn (model X.prog X.w) X.A X.env X.xe) (hc : X.calm = true) (hi : ρ[i]? = some (.ol (dicd en l))) (hf : ∀ s, FlatE (eS s)) (hg : ∀ H0, Tgt X H0 t ok bd) (hok : ∀ d ∈ (l.map fun p => tx p.1), ok d) (h0 : ρ = eS s0) (hb : ∀ H0 x s, ExM X H0 (bd (tx x) (eS s)) k body (fun s => .nx (eS s)) (f x s)) (tt : ∀ s, ExM X H0 (eS s) k rest D (fk s))
    (hN : X.N[i]? = some y := by rfl) (hv : Vis X.env.scope y := by first | exact Or.inl rfl | exact Or.inr (Or.inl rfl) | exact Or.inr (Or.inr rfl)) (hd : (y == ("__debug__" : Str)) = false := by decide) (hcd : (y == ("__classdict__" : Str)) = false := by decide)
    (hs : ∀ x, foldedSetIterable (.Name y p1) X.env x = pure x := by intro _; rfl) : ExM X H0 ρ k (.For t (.Name y p1) body [] pos :: rest) D (M.bind (M.nox (forM f (l.map (·.1)) s0)) fk) := by
  have h := fun H0 => forM_T (H0 := H0) (hb H0) (l.map (·.1)) s0
  subst h0
  simp only [List.map_map] at h
  cases e : forM f (l.map (·.1)) s0 with
  | ok s =>
    rw [e] at h
    exact xm_then (sx_forK0 i hp hc hi (hf s) hg hok h hN hv hd hcd hs) (tt s)
  | ex n => trivial
  | far => trivial
end
/-! flatness, entry by entry -/
inductive FlE : Env' → Prop where
  | nil : FlE []
  | im {d : Dat} {r : Env'} : flat d = true → FlE r → FlE (.im d :: r)
  | owd {β : Type} {en : β → Dat} {l : List (List Nat × β)} {r : Env'} : (∀ a, flat (en a) = true) → FlE r → FlE (.ow (dicd en l) :: r)
  | owl {β : Type} {en : β → Dat} {l : List β} {r : Env'} : (∀ a, flat (en a) = true) → FlE r → FlE (.ow (lstd en l) :: r)
  | no {r : Env'} : FlE r → FlE (.no :: r)
  | ol {d : Dat} {r : Env'} : FlE r → FlE (.ol d :: r)
  | rf {a : Addr} {r : Env'} : FlE r → FlE (.rf a :: r)
theorem FlE.to {ρ : Env'} (h : FlE ρ) : FlatE ρ := by
  have cons : ∀ {e : Ent} {r : Env'}, FlatE r → (∀ d, e = .im d → flat d = true) → (∀ ds, e = .ow (.lst ds) → ∀ d ∈ ds, flat d = true) → (∀ ds, e = .ow (.dic ds) → ∀ d ∈ ds, flat d.2 = true) → (∀ ks ds, e ≠ .ow (.dit ks ds)) → FlatE (e :: r) := fun {e r} ih h1 h2 h3 h4 => by
    obtain ⟨i1, i2, i3, i4⟩ := ih
    refine ⟨fun j d q => ?_, fun j d q => ?_, fun j d q => ?_, fun j ks ds q => ?_⟩
    · cases j with
      | zero => exact h1 d (Option.some.inj q)
      | succ j => exact i1 j d q
    · cases j with
      | zero => exact h2 d (Option.some.inj q)
      | succ j => exact i2 j d q
    · cases j with
      | zero => exact h3 d (Option.some.inj q)
      | succ j => exact i3 j d q
    · cases j with
      | zero => exact h4 ks ds (Option.some.inj q)
      | succ j => exact i4 j ks ds q
  induction h with
  | nil => exact ⟨fun j d e => by (cases j <;> cases e), fun j d e => by (cases j <;> cases e), fun j d e => by (cases j <;> cases e), fun j ks ds e => by (cases j <;> cases e)⟩
  | im f _ ih => exact cons ih (fun d e => by cases e; exact f) (fun d e => by cases e) (fun d e => by cases e) (fun ks ds e => by cases e)
  | @owd β en l r f _ ih =>
    refine cons ih (fun d e => by cases e) (fun d e => by cases e) (fun ds e d hd => ?_) (fun ks ds e => by cases e)
    have e2 : dm en l = ds := by cases e; rfl
    rw [← e2] at hd
    obtain ⟨p, _, rfl⟩ := List.mem_map.mp hd
    exact f p.2
  | @owl β en l r f _ ih =>
    refine cons ih (fun d e => by cases e) (fun ds e d hd => ?_) (fun d e => by cases e) (fun ks ds e => by cases e)
    have e2 : l.map en = ds := by cases e; rfl
    rw [← e2] at hd
    obtain ⟨p, _, rfl⟩ := List.mem_map.mp hd
    exact f p
  | no _ ih => exact cons ih (fun d e => by cases e) (fun d e => by cases e) (fun d e => by cases e) (fun ks ds e => by cases e)
  | ol _ ih => exact cons ih (fun d e => by cases e) (fun d e => by cases e) (fun d e => by cases e) (fun ks ds e => by cases e)
  | rf _ ih => exact cons ih (fun d e => by cases e) (fun d e => by cases e) (fun d e => by cases e) (fun ks ds e => by cases e)
end B

namespace B
open PySem PySem.Spec PyProof.Rows L2
section
variable {X : Cx} {H0 : Hp} {ρ : Env'} {α : Type} {a b c : Expr} {pos : Pos} {en : α → Dat} {l : List (List Nat × α)} {key : List Nat}
/-- d.get(key, u), d a thing that nobody changes -/
theorem ev_dget2v {u : α} (ha : Ev X H0 ρ a (dicd en l)) (hb : Ev X H0 ρ b (tx key)) (hc : Ev X H0 ρ c (en u)) (hu : X.A.units + 1 < cLine) {apos : Pos} (hm : M2 X a "get" apos b c pos := by exact ⟨rfl, rfl, rfl, rfl⟩) :
    Ev X H0 ρ (.Call (.Attribute a "get" apos) [b, c] [] pos) (en ((dget l key).getD u)) := fun σ H N rp => by
  refine we_of (pe_dget2 hu pe_w pe_w pe_w hm) ((ha σ H N rp).imp fun v0 H1 ⟨N1, s1, n1, r1, a1⟩ => ?_)
  obtain ⟨q, vs, e1, g1, g2⟩ := at_dic a1
  subst e1
  have rd1 : Rd H1 q (.dK vs) := rd_same r1.sub g1
  refine ⟨q, rfl, .inl ⟨vs, rd1⟩, (hb σ H1 N1 r1).imp fun w H2 ⟨N2, s2, n2, r2, a2⟩ => (hc σ H2 N2 r2).imp fun z H3 ⟨N3, s3, n3, r3, a3⟩ => ?_⟩
  have h5 := at_str a2
  subst h5
  have g3 : Atk X.K N3 vs (dm en l) := Atk.mono (n2.trans n3) g2
  obtain ⟨i1, i2⟩ := atk_get g3 key
  refine ⟨_, .inl ⟨vs, Sum.inr (SX.S key), rd_same (s2.trans s3) rd1, rfl, rfl⟩, N3, (s1.trans s2).trans s3, (n1.trans n2).trans n3, r3, ?_⟩
  cases e : dget l key with
  | none => rw [i2 e]; exact a3
  | some v =>
    obtain ⟨z, z1, z2⟩ := i1 v e
    rw [z1]
    exact z2
/-- .. d handed in; what it holds is flat -/
theorem ev_dget2b {u : α} (hf : ∀ x, flat (en x) = true) (ha : EvB X H0 ρ a (dicd en l)) (hb : Ev X H0 ρ b (tx key)) (hc : Ev X H0 ρ c (en u)) (hu : X.A.units + 1 < cLine) {apos : Pos} (hm : M2 X a "get" apos b c pos := by exact ⟨rfl, rfl, rfl, rfl⟩) :
    Ev X H0 ρ (.Call (.Attribute a "get" apos) [b, c] [] pos) (en ((dget l key).getD u)) := EvB.flat (fun σ H N rp => by
  refine we_of (pe_dget2 hu pe_w pe_w pe_w hm) ((ha σ H N rp).imp fun v0 H1 ⟨N1, s1, n1, r1, a1⟩ => ?_)
  obtain ⟨q, vs, e1, g1, g2⟩ := at_dic a1
  subst e1
  refine ⟨q, rfl, .inl ⟨vs, g1⟩, (hb σ H1 N1 r1).imp fun w H2 ⟨N2, s2, n2, r2, a2⟩ => (hc σ H2 N2 r2).imp fun z H3 ⟨N3, s3, n3, r3, a3⟩ => ?_⟩
  have h5 := at_str a2
  subst h5
  have g3 : Atk X.K H3 vs (dm en l) := Atk.mono (s2.trans s3) g2
  obtain ⟨i1, i2⟩ := atk_get g3 key
  refine ⟨_, .inl ⟨vs, Sum.inr (SX.S key), rd_same (s2.trans s3) g1, rfl, rfl⟩, N3, (s1.trans s2).trans s3, (n1.trans n2).trans n3, r3, ?_⟩
  cases e : dget l key with
  | none => rw [i2 e]; exact a3.mono r3.sub
  | some v =>
    obtain ⟨z, z1, z2⟩ := i1 v e
    rw [z1]
    exact z2) (hf _)
end
theorem cut_nn {α : Type} {l : List α} {a b : Nat} (h : a ≤ b) : cut l (some (a : Int)) (some (b : Int)) = (l.drop a).take (b - a) := by
  show (l.drop (HT.sIx l.length 0 (some ((a : Nat) : Int)))).take (HT.sIx l.length l.length (some ((b : Nat) : Int)) - HT.sIx l.length 0 (some ((a : Nat) : Int))) = _
  rw [HT.sIx_nat, HT.sIx_nat]
  by_cases h1 : a ≤ l.length
  · rw [Nat.min_eq_left h1]
    by_cases h2 : b ≤ l.length
    · rw [Nat.min_eq_left h2]
    · rw [Nat.min_eq_right (by omega), List.take_of_length_le (by rw [List.length_drop]; exact Nat.le_refl _), List.take_of_length_le (by rw [List.length_drop]; omega)]
  · rw [List.drop_of_length_le (by omega), List.drop_of_length_le (by omega)]
    simp
/-! ### sorted: ints -/
def srtI (l : List Int) : List Int := l.mergeSort fun a b => decide (a ≤ b)
theorem srtI_perm (l : List Int) : (srtI l).Perm l := List.mergeSort_perm _ _
theorem srtI_pw (l : List Int) : (srtI l).Pairwise (· ≤ ·) := by
  have h := List.pairwise_mergeSort (le := fun a b : Int => decide (a ≤ b)) (fun a b c h1 h2 => by simp at *; omega) (fun a b => by simp; omega) l
  exact h.imp fun q => of_decide_eq_true q
theorem srtI_of {l m : List Int} (h1 : m.Perm l) (h2 : m.Pairwise (· ≤ ·)) : m = srtI l :=
  List.Perm.eq_of_pairwise (le := (· ≤ ·)) (fun a b _ _ p q => Int.le_antisymm p q) h2 (srtI_pw l) (h1.trans (srtI_perm l).symm)
section
variable {X : Cx} {H0 : Hp} {ρ : Env'} {α : Type} {a b c : Expr} {p pos : Pos} {en : α → Dat}
theorem eo_sortedI {l : List Int} (ha : EvB X H0 ρ a (lstd Dat.int l)) (hm : X.mg "sorted" = none) (hg : Gl X "sorted" := by rfl) (he : starEach [a] X.env = (false, eval a X.env) :: starEach [] X.env := by rfl) (hpl : (backTo pos (starEach [] X.env)).any (·.1) = false := by rfl) :
    EvO X H0 ρ (.Call (.Name "sorted" p) [a] [] pos) (lstd Dat.int (srtI l)) := fun σ H N rp =>
  we_of (pe_callB cr_sortedI hg hm (by decide +kernel) pa_w (by decide) (by decide) he hpl) ((eab1 ha he σ H N rp).imp fun vs H1 ⟨N1, s1, n1, r1, a1⟩ => by
    obtain ⟨v, e1, e2⟩ := ats_one a1
    obtain ⟨pp, us, e3, h1, h2⟩ := at_lst e2
    rw [h2.ints] at h1
    refine ⟨pp, l, by rw [e1, e3], h1, fun ms q hp hw hq => ?_⟩
    rw [srtI_of hp hw]
    obtain ⟨r3, n3⟩ := eo_new (o := .lst ((srtI l).map V.int)) r1 hq
    exact ⟨N1, q, rfl, s1.free hq, s1.trans (Same.of_none hq), n1, r3, n3, _, upd_same, Ats.ofInts _⟩)
/-- list + list, the first one a list of one's own -/
theorem eo_catWm {l m : List α} (i : Nat) {y : Str} {p1 : Pos} (hi : ρ[i]? = some (.ow (lstd en l))) (hb : EvO X H0 ρ b (lstd en m)) (h : catOk l m = true) (hN : X.N[i]? = some y := by rfl) (hv : Vis X.env.scope y := by first | exact Or.inl rfl | exact Or.inr (Or.inl rfl) | exact Or.inr (Or.inr rfl))
    (hd : (y == ("__debug__" : Str)) = false := by decide) (hcd : (y == ("__classdict__" : Str)) = false := by decide) : EvO X H0 ρ (.BinOp (.Name y p1) .Add b pos) (lstd en (l ++ m)) := fun σ H N rp => by
  obtain ⟨q0, g1, g2, g3, us, g4, g5⟩ := rp.ow i _ hi
  refine we_of (pe_op op_cat (pv i hN hv hd hcd) pe_w) ⟨_, g1, (hb σ H N rp).imp fun w H2 ⟨N2, p2, e2, hp2, s2, n2, r2, np2, ws, k2, h4⟩ => ?_⟩
  have hz := catOk_ok h
  have hl : us.length = l.length := by rw [g5.length, List.length_map]
  refine ⟨q0, p2, us, ws, rfl, e2, s2 _ _ g4, k2, by rw [hl, h4.length, List.length_map]; exact hz, fun q hq => ?_⟩
  obtain ⟨r5, n5⟩ := eo_new (o := .lst (us ++ ws)) r2 hq
  refine ⟨N2, q, rfl, s2.free hq, s2.trans (Same.of_none hq), n2, r5, n5, us ++ ws, upd_same, ?_⟩
  show Ats X.K N2 (us ++ ws) ((l ++ m).map en)
  rw [List.map_append]
  exact (g5.mono n2).append h4
/-- .. the second one -/
theorem eo_catVm {l m : List α} (i : Nat) {y : Str} {p1 : Pos} (ha : EvO X H0 ρ a (lstd en l)) (hi : ρ[i]? = some (.ow (lstd en m))) (h : catOk l m = true) (hN : X.N[i]? = some y := by rfl) (hv : Vis X.env.scope y := by first | exact Or.inl rfl | exact Or.inr (Or.inl rfl) | exact Or.inr (Or.inr rfl))
    (hd : (y == ("__debug__" : Str)) = false := by decide) (hcd : (y == ("__classdict__" : Str)) = false := by decide) : EvO X H0 ρ (.BinOp a .Add (.Name y p1) pos) (lstd en (l ++ m)) := fun σ H N rp => by
  refine we_of (pe_op op_cat pe_w (pv i hN hv hd hcd)) ((ha σ H N rp).imp fun w H2 ⟨N2, p2, e2, hp2, s2, n2, r2, np2, ws, k2, h4⟩ => ?_)
  obtain ⟨q0, g1, g2, g3, us, g4, g5⟩ := r2.ow i _ hi
  have hz := catOk_ok h
  have hl : us.length = m.length := by rw [g5.length, List.length_map]
  refine ⟨_, g1, p2, q0, ws, us, e2, rfl, k2, g4, by rw [hl, h4.length, List.length_map]; exact hz, fun q hq => ?_⟩
  obtain ⟨r5, n5⟩ := eo_new (o := .lst (ws ++ us)) r2 hq
  refine ⟨N2, q, rfl, s2.free hq, s2.trans (Same.of_none hq), n2, r5, n5, ws ++ us, upd_same, ?_⟩
  show Ats X.K N2 (ws ++ us) ((l ++ m).map en)
  rw [List.map_append]
  exact h4.append g5
end
/-! ### is None, as a value -/
section
variable {X : Cx} {H0 : Hp} {ρ : Env'} {a : Expr} {pos : Pos} {d : Dat}
theorem ev_isN {j pos'} (ha : EvB X H0 ρ a d) : Ev X H0 ρ (.Compare a [.Is] [.Constant .none j pos'] pos) (.bl (isNon d)) :=
  ev_bin (d2 := .non) (fun _ _ h k => pe_cmpR op_isN h k (nomark _)) ha ev_non.toB fun x y σ H N Q r p q g => ⟨at_non q, by rw [at_isNon p]; exact goes_self (Q := Q) g r (.bl _)⟩
theorem ev_notN {j pos'} (ha : EvB X H0 ρ a d) : Ev X H0 ρ (.Compare a [.IsNot] [.Constant .none j pos'] pos) (.bl (!isNon d)) :=
  ev_bin (d2 := .non) (fun _ _ h k => pe_cmpR op_notN h k (nomark _)) ha ev_non.toB fun x y σ H N Q r p q g => ⟨at_non q, by rw [at_isNon p]; exact goes_self (Q := Q) g r (.bl _)⟩
end
end B

namespace B
open PySem PySem.Spec PyProof.Rows L2
/-! ### errors whose context is None: a def that raises one where nothing is handled -/
section
variable (X : Cx) (H0 : Hp) (ρ : Env') {α : Type}
/-- a block that raises the class of that name, out of the def -/
def ExcN (sts : List Stmt) (n : Str) : Prop := ∀ D σ H N, Rep X.K H0 ρ σ H N → (∃ W, L2N.Takes X W ∧ ∀ C σ' H', X.mg n = some (.ref C) → Tk H' → Same H0 H' → W (.ref C) none σ' H') → WB X sts D σ H
def EvXN (e : Expr) (n : Str) : Prop := ∀ σ H N, Rep X.K H0 ρ σ H N → ∀ W : WX, L2N.Takes X W → (∀ C H' N', X.mg n = some (.ref C) → Same N N' → Rep X.K H0 ρ σ H' N' → W (.ref C) none σ H') → ∀ Q, WE X e σ H Q
/-- .. only what a block raises is told -/
def XnM (k : Nat) (sts : List Stmt) (D : α → Outc) (m : M α) : Prop := match m with
  | .ex n => ExcN X H0 ρ sts n
  | _ => True
def EvNM (e : Expr) (en : α → Dat) (m : M α) : Prop := match m with
  | .ex n => EvXN X H0 ρ e n
  | _ => True
end
section
variable {X : Cx} {H0 : Hp} {ρ ρ1 : Env'} {α β : Type} {g : Bool} {k : Nat} {sts rest as bs : List Stmt} {D : α → Outc} {m m2 : M α} {c e : Expr} {n : Str} {p pos pos2 : Pos}
theorem xn_gd (h : g = true → XnM X H0 ρ k sts D m) : XnM X H0 ρ k sts D (M.gd g m) := by
  cases g with
  | true => exact h rfl
  | false => trivial
theorem xn_bind {mb : M β} {f : β → M α} (h : ∀ r, mb = .ok r → XnM X H0 ρ k sts D (f r)) : XnM X H0 ρ k sts D (M.bind (M.nox mb) f) := by
  cases mb with
  | ok r => exact h r rfl
  | ex _ => trivial
  | far => trivial
theorem xn_ofO {ob : Option β} {f : β → M α} (h : ∀ r, ob = some r → XnM X H0 ρ k sts D (f r)) : XnM X H0 ρ k sts D (M.bind (M.ofO ob) f) := by
  cases ob with
  | some r => exact h r rfl
  | none => trivial
theorem xn_ret {v : α} {d : Dat} (h : Ev X H0 ρ e d) (hD : D v = .rt d := by rfl) : XnM X H0 ρ k (.Return (some e) pos :: rest) D (.ok v) := trivial
theorem xn_ifX (hD : ∀ v, (D v).out) (hc : EvT X H0 ρ c g) (h1 : g = true → XnM X H0 ρ k as D m) (h2 : g = false → XnM X H0 ρ k rest D m2) : XnM X H0 ρ k (.If c as [] pos :: rest) D (if g = true then m else m2) := by
  cases g with
  | true =>
    rw [if_pos rfl]
    have h1 := h1 rfl
    cases m with
    | ok v => trivial
    | far => trivial
    | ex n =>
      intro DD σ H N r w
      refine wb_of (pss_cons ps_w pb_w) ?_
      show WS X (.If c as [] pos) { DD with nx := WB X rest DD } σ H
      exact ws_of (ps_if pt_w pb_w pb_w) ((hc σ H N r).imp fun v H' ⟨e1, N', s, n', r'⟩ => by
        subst e1
        exact iteT (h1 _ σ H' N' r' w))
  | false =>
    rw [if_neg (by decide)]
    have h2 := h2 rfl
    cases m2 with
    | ok v => trivial
    | far => trivial
    | ex n =>
      intro DD σ H N r w
      refine wb_of (pss_cons ps_w pb_w) ?_
      show WS X (.If c as [] pos) { DD with nx := WB X rest DD } σ H
      exact sx_skip hc _ σ H N r fun σ' H' N' s r' => h2 DD σ' H' N' r' w
theorem xn_raise {mm : Str} {j : Nat} {p2 : Pos} (T : Exc X.K X.mg n) (hc : X.calm = true) (hk : ρ.length = k := by rfl) (hg : Gl X n := by rfl) (hdb : (n == ("__debug__" : Str)) = false := by decide) : XnM X H0 ρ k (.Raise (some (.Call (.Name n p) [.Constant (.str mm) j p2] [] pos)) none pos2 :: rest) D (.ex n) := fun DD σ H N r ⟨W, tk, q⟩ => by
  obtain ⟨C, T⟩ := T
  refine wb_of (pss_cons ps_w pb_w) ?_
  show WS X _ { DD with nx := WB X rest DD } σ H
  exact ws_of (L2N.ps_raise hc tk (L2N.pmk_own PySem.F.excBase_ValueError T.x T.g T.k (raises_own T.b T.t) hg hdb)) (q C σ H T.g r.tab r.old)
theorem ends_n {m : M α} (h : XnM X H0 ρ k sts D m) : ∀ n, m = .ex n → ExcN X H0 ρ sts n := fun n e => by
  subst e
  exact h
end
/-- a def's promise about what it raises -/
def GFnN (P : Program) (w : World) (K : PySem.W.Frag) (mg : Str → Option Value) (base : Heap) (x : Str) (k : Nat) (R : List Dat → Str → Prop) : Prop :=
  ∃ f fd ps, FnOk P w K mg base (L2N.CX P w) k f fd ps (spR K mg fun ds o => ∃ n, o = .exc n ∧ R ds n) ∧ mg x = some (.ref f) ∧ PySem.W.keepIn K (.ref f) = true ∧ Binds K fd ps []
abbrev XXN (P : Program) (w : World) (K : PySem.W.Frag) (mg : Str → Option Value) (base : Heap) (N : List Str) (x : Str) (st : Stmt) (f : Addr) (cdv : Value) (A : Around) (outer : List PySem.Env) (s : Shared) (H : Hp) (E : XK) : Cx :=
  cxOf (L2N.CX P w) P w K mg base N x (defScope st) f cdv A outer s H E
section
variable {P : Program} {w : World} {K : PySem.W.Frag} {mg : Str → Option Value} {base : Heap} {x : Str} {st : Stmt} {ps N : List Str} {k : Nat} {R : List Dat → Str → Prop}
theorem GFnN.mk (D : Df K mg x st ps) (S : FnScope N ps (defScope st)) (hl : ∀ ds n, R ds n → ds.length = ps.length)
    (body : ∀ (f : Addr) (cdv : Value) (A : Around) (outer : List PySem.Env) (s : Shared) (H : Hp) (E : XK), Room k (XXN P w K mg base N x st f cdv A outer s H E).A → ∀ ds n, R ds n → ∃ es, Ents es ds ∧ ∀ H0, ExcN (XXN P w K mg base N x st f cdv A outer s H E) H0 (es ++ List.replicate (N.length - ps.length) .no) (defBody st) n) : GFnN P w K mg base x (k + 1) R := by
  obtain ⟨f, fd, F, hm, hb⟩ := D
  obtain ⟨oc, od, kV, doc, pm, an, cdv, ct, osl, rfl, lk, hcd⟩ := F.ex
  refine ⟨f, _, ps, fn_of lk hcd S (fun vs H Q E ⟨_, ds, o, ⟨n, _, hr⟩, a, _⟩ => by rw [a.length]; exact hl ds n hr) fun A outer s H vs Q E hr hsp => ?_, hm, F.kp, hb⟩
  obtain ⟨tk, ds, o, ⟨n, ho, hR⟩, a, q⟩ := hsp
  subst ho
  obtain ⟨es, he, hbody⟩ := body f cdv A outer s H E hr ds n hR
  have hlen : vs.length = ps.length := by rw [a.length]; exact hl ds n hR
  have r : Rep K H (es ++ List.replicate (N.length - ps.length) .no) (L2.start N vs) H (Imm H) := hlen ▸ rep_start tk he a
  exact ⟨_, pb_w, hbody H { nx := fun _ H' => Q .non H', rt := Q } _ _ _ r ⟨_, L2N.takes_of rfl rfl rfl rfl, fun C σ H' hm tk s => q C H' hm tk s⟩⟩
end
section
variable {X : Cx} {H0 : Hp} {ρ : Env'} {α β γ S : Type} {a b e call : Expr} {es : List Expr} {ds : List Dat} {p pos : Pos} {x n n1 n2 : Str} {k kk : Nat} {m : M α} {en : α → Dat} {st : Stmt} {sts rest : List Stmt} {D : γ → Outc}
theorem evn_call {R : List Dat → Str → Prop} (G : GFnN X.prog X.w X.K X.mg X.base x kk R) (hr : Room kk X.A) (ha : EvAB X H0 ρ (e :: es) ds) (q : ∀ n, m = .ex n → R ds n) (hg : Gl X x := by rfl) (hdb : (x == ("__debug__" : Str)) = false := by decide)
    (he : starEach (e :: es) X.env = (false, eval e X.env) :: starEach es X.env := by rfl) (hpl : (backTo pos (starEach es X.env)).any (·.1) = false := by rfl) : EvNM X H0 ρ (.Call (.Name x p) (e :: es) [] pos) en m := by
  cases m with
  | ok v => trivial
  | far => trivial
  | ex n =>
    intro σ H N r W tk kw Q
    obtain ⟨f, fd, ps, F, hm, hk, hb⟩ := G
    refine we_of (pe_callS F hr hg hm hk hb (fun σ => L2N.passAt tk σ) pa_w hdb he hpl) ((ha σ H N r).imp fun vs H1 ⟨N1, s1, n1, r1, a1⟩ => ⟨r1.tab, ds, .exc n, ⟨n, rfl, q n rfl⟩, a1, fun C H' hC tk s' => ?_⟩)
    exact kw C H' N1 hC n1 (r1.grow s' tk)
/-- a try whose body can't fall through, else or not -/
theorem try_else {P : Program} {w : World} {A : Around} {E : Value → Shared → Prop} {s : Shared} {env : PySem.Env} {body orelse : List Stmt} {h₀ : ExceptHandler} {hs : List ExceptHandler} {Q Q' : Flow → Shared → Prop}
    (h : wpAny (model P w) A (exec (.Try body (h₀ :: hs) [] [] pos) env) Q E s) (hq : ∀ f s, ¬ Q f s) : wpAny (model P w) A (exec (.Try body (h₀ :: hs) orelse [] pos) env) Q' E s := by
  intro Γ p hΓ
  have h := h Γ p hΓ
  rw [arm_exec_Try] at h ⊢
  unfold tryStmt at h ⊢
  simp only [List.isEmpty_nil, if_true, List.isEmpty_cons, Bool.false_and, Bool.false_eq_true, if_false, Sem.wp_bind'] at h ⊢
  refine Sem.wp_mono _ Γ _ (fun u p1 s1 h1 => ?_) (fun _ _ _ q => q) _ _ h
  refine Sem.wp_mono _ Γ _ (fun r p2 s2 h2 => ?_) (fun _ _ _ q => q) _ _ h1
  match r, h2 with
  | .ok .next, h2 => exact absurd h2 (hq _ _)
  | .ok .brk, h2 => exact absurd h2 (hq _ _)
  | .ok .cont, h2 => exact absurd h2 (hq _ _)
  | .ok (.ret v), h2 => exact absurd h2 (hq _ _)
  | .error er, h2 =>
    simp only [Sem.wp_bind'] at h2 ⊢
    refine Sem.wp_mono _ Γ _ (fun u p3 s3 h3 => ?_) (fun _ _ _ q => q) _ _ h2
    refine Sem.wp_mono _ Γ _ (fun u p4 s4 h4 => ?_) (fun _ _ _ q => q) _ _ h3
    exact Sem.wp_mono _ Γ _ (fun f p5 s5 h5 => absurd h5 (hq _ _)) (fun _ _ _ q => q) _ _ h4
/-- try: y = f(..), that raises n1; except n1: raise n2; else: .. -/
theorem sx_tryR {c : Value} {orelse : List Stmt} {np py pos' pos'' p' p2 pos1 pos2 : Pos} {y mm : Str} {j : Nat}
    (hs : X.stack = X.env :: X.outer) (hf : X.env.frame = some X.env.locals) (hpa : ∀ hd : Option Value, PassesOwnAt (model X.prog X.w) (X.A.mark hd) X.A X.env X.xe) (hc : Names X x c) (he : ∀ C, X.mg n1 = some (.ref C) → PySem.W.exmOne X.K (.ref C) c = some true)
    (hb : ∀ (pn : List (Addr × Obj)) (xe : Value → Shared → Prop), PassesOwn (model X.prog X.w) X.A X.env xe → EvXN (X.tr pn xe) H0 ρ call n1) (T : Exc X.K X.mg n2) (nd : X.N.Nodup)
    {i : Nat} (hi : X.N[i]? = some y := by rfl) (hx : Loc X.env.scope y := by first | exact Or.inl rfl | exact Or.inr rfl) (hsw : ∀ pn xe, swapsWith call (some (.Name y py)) pos.line (X.tr pn xe).env = pure false := by intro _ _; rfl) (hfn : X.fn y = true ∨ X.env.scope.names.lookup y = some .local := by first | exact .inl rfl | exact .inr rfl | assumption)
    (hg : Gl X n2 := by rfl) (hdb : (n2 == ("__debug__" : Str)) = false := by decide) :
    ExS X H0 ρ (.Try [.Assign [.Name y py] call pos] [.ExceptHandler (some (.Name x np)) none [.Raise (some (.Call (.Name n2 p') [.Constant (.str mm) j p2] [] pos1)) none pos2] pos'] orelse [] pos'') (.ex n2 ρ) := fun DD σ H N r ⟨W, tk, q⟩ => by
  have key : WS X (.Try [.Assign [.Name y py] call pos] [.ExceptHandler (some (.Name x np)) none [.Raise (some (.Call (.Name n2 p') [.Constant (.str mm) j p2] [] pos1)) none pos2] pos'] [] [] pos'') { nx := fun _ _ => False, rt := fun _ _ => False, bk := fun _ _ => False, ct := fun _ _ => False } σ H := by
    refine ws_of (L2H.ps_try_onlyX (c := c) (tb := fun W' D σ H => ∀ pn xe, L2N.Takes (X.tr pn xe) W' → PassesOwn (model X.prog X.w) X.A X.env xe → WB (X.tr pn xe) [.Assign [.Name y py] call pos] D σ H)
      (ts := fun a cls d D σ H => ∀ oe pn, L2.Takes (L2H.suiteX X a ((a, oe) :: pn)) W → L2H.HotC (L2H.suiteX X a ((a, oe) :: pn)) → WB (L2H.suiteX X a ((a, oe) :: pn)) [.Raise (some (.Call (.Name n2 p') [.Constant (.str mm) j p2] [] pos1)) none pos2] D σ H) (Wout := W) hs hf hc hpa tk (fun W' pn xe tk1 tk2 hp => ⟨fun pins s σ H D I h => (h pn xe tk1 hp).go pins s I⟩) (fun a oe cls d pn hz hd tk2 hot => ⟨fun pins s σ H D I h => (h oe pn tk2 hot).go pins s I⟩)) ?_
    intro pn xe tk1 hp
    refine wb_of (pss_one (ps_set (X := X.tr pn xe) nd hi hx pe_w (hsw pn xe) hfn)) ?_
    refine hb pn xe hp σ H N r _ tk1 (fun C H' N' hC n' r' => ?_) _
    refine ⟨true, he C hC, fun _ a ha oe pn' tk2 hot => ?_, fun z => nomatch z⟩
    obtain ⟨C2, T2⟩ := T
    refine wb_of (pss_one (L2H.ps_raiseH hot tk2 (L2N.pmk_own PySem.F.excBase_ValueError T2.x T2.g T2.k (raises_own T2.b T2.t) hg hdb))) ?_
    exact q C2 σ H' N' T2.g n' r'
  unfold WS
  intro pins s I
  refine try_else (key.go pins s I) fun f s' h => ?_
  cases f with
  | next => obtain ⟨_, _, _, z⟩ := h; exact z
  | brk => obtain ⟨_, _, _, z⟩ := h; exact z
  | cont => obtain ⟨_, _, _, z⟩ := h; exact z
  | ret u => obtain ⟨_, _, _, _, _, z⟩ := h; exact z
def trR {β : Type} (mb : M β) (n1 n2 : Str) : M β := match mb with
  | .ok r => .ok r
  | .ex n => if n = n1 then .ex n2 else .far
  | .far => .far
@[simp] theorem trR_ok {β : Type} (r : β) (n1 n2 : Str) : trR (M.ok r) n1 n2 = .ok r := id rfl
theorem trR_ex {β : Type} (n1 n2 : Str) : trR (M.ex n1 : M β) n1 n2 = .ex n2 := if_pos rfl
theorem xm_tryR {mb : M β} {eb : β → Dat} {f : β → M γ} {c : Value} {orelse : List Stmt} {np py pos' pos'' p' p2 pos1 pos2 : Pos} {y mm : Str} {jj : Nat} (j : Nat) (hD : ∀ g, (D g).out) (nd : X.N.Nodup)
    (hb : EvM X.nox H0 ρ call eb mb) (te : ∀ r, ExM X H0 (ρ.set j (.im (eb r))) k orelse D (f r))
    (hs : X.stack = X.env :: X.outer) (hff : X.env.frame = some X.env.locals) (hpa : ∀ hd : Option Value, PassesOwnAt (model X.prog X.w) (X.A.mark hd) X.A X.env X.xe) (hc : Names X x c) (he : ∀ C, X.mg n1 = some (.ref C) → PySem.W.exmOne X.K (.ref C) c = some true)
    (hbn : ∀ (pn : List (Addr × Obj)) (xe : Value → Shared → Prop), PassesOwn (model X.prog X.w) X.A X.env xe → EvNM (X.tr pn xe) H0 ρ call eb mb) (T : Exc X.K X.mg n2) (hk : ρ.length = k := by rfl)
    (hj : X.N[j]? = some y := by rfl) (hy : Loc X.env.scope y := by first | exact Or.inl rfl | exact Or.inr rfl)
    (hsw : swapsWith call (some (.Name y py)) pos.line X.env = pure false := by rfl) (hsw2 : ∀ pn xe, swapsWith call (some (.Name y py)) pos.line (X.tr pn xe).env = pure false := by intro _ _; rfl) (hf : X.fn y = true ∨ X.env.scope.names.lookup y = some .local := by first | exact .inl rfl | exact .inr rfl | assumption)
    (hg : Gl X n2 := by rfl) (hdb : (n2 == ("__debug__" : Str)) = false := by decide) :
    ExM X H0 ρ k (.Try [.Assign [.Name y py] call pos] [.ExceptHandler (some (.Name x np)) none [.Raise (some (.Call (.Name n2 p') [.Constant (.str mm) jj p2] [] pos1)) none pos2] pos'] orelse [] pos'' :: rest) D (M.bind (trR mb n1 n2) f) := by
  cases mb with
  | ok r => exact xm_tryE (mb := .ok r) (f := f) j hD nd hb te hj hy hsw hf
  | far => trivial
  | ex n =>
    unfold trR
    simp only
    by_cases e : n = n1
    · subst e
      rw [if_pos rfl]
      exact ex_raises (sx_tryR (i := j) hs hff hpa hc he hbn T nd hj hy hsw2 hf hg hdb) hk
    · rw [if_neg e]
      trivial
/-! ### i + f(..), where f may raise -/
theorem evm_addR {i : Int} {mb : M Int} (ha : Ev X H0 ρ a (.int i)) (hb : EvM X H0 ρ b Dat.int mb) : EvM X H0 ρ (.BinOp a .Add b pos) Dat.int (M.bind mb fun r => .ok (i + r)) := by
  cases mb with
  | ok r => exact ev_add ha hb
  | far => trivial
  | ex n =>
    intro σ H N r W tk kw Q
    exact we_of (pe_op (r := fun x y H Q => ∃ i j, x = .int i ∧ y = .int j ∧ Q (.int (i + j)) H) op_add pe_w pe_w) ((ha σ H N r).imp fun v H1 ⟨N1, s1, n1, r1, a1⟩ => hb σ H1 N1 r1 W tk (fun C H' N' hC n2 r2 => kw C H' N' hC (n1.trans n2) r2) _)
/-! ### try: y = f(..) except x: suite -/
theorem sx_tryO {o : Outc} {m : Str} {c : Value} {body suite : List Stmt} {b₀ : Stmt} {np pos pos' : Pos} {ρ1 : Env'} (hs : X.stack = X.env :: X.outer) (hf : X.env.frame = some X.env.locals) (hc : Names X x c) (he : ∀ C, X.mg m = some (.ref C) → PySem.W.exmOne X.K (.ref C) c = some true)
    (hb : ∀ (pn : List (Addr × Obj)) (xe : Value → Shared → Prop), PassesOwn (model X.prog X.w) X.A X.env xe → Exec (X.tr pn xe) H0 ρ body (.ex m ρ1))
    (hsu : ∀ (a : Addr) (oe : Obj) (pn : List (Addr × Obj)), Exec (X.suite a ((a, oe) :: pn)) H0 ρ1 (b₀ :: suite) o)
    (ho : o.noex) : ExS X H0 ρ (.Try body [.ExceptHandler (some (.Name x np)) none (b₀ :: suite) pos'] [] [] pos) o := fun D σ H N r k => by
  refine ws_of (ps_try_only (c := c) (tb := fun W D σ H => ∀ pn xe, Takes (X.tr pn xe) W → PassesOwn (model X.prog X.w) X.A X.env xe → WB (X.tr pn xe) body D σ H)
    (ts := fun a cls d D σ H => ∀ oe pn, WB (X.suite a ((a, oe) :: pn)) (b₀ :: suite) D σ H) (Wout := fun _ _ _ _ => False) hs hf hc takes0 (fun W pn xe tk hp => ⟨fun pins s σ H D I h => (h pn xe tk hp).go pins s I⟩) (fun a oe cls d pn hz hd => ⟨fun pins s σ H D I h => (h oe pn).go pins s I⟩)) ?_
  intro pn xe tk hp
  refine hb pn xe hp _ σ H N r ⟨_, tk, fun C σ1 H1 N1 hC n1 r1 => ⟨true, he C hC, fun _ a ha oe pn' => ?_, fun z => nomatch z⟩⟩
  refine hsu a oe pn' _ σ1 H1 N1 r1 ?_
  cases o with
  | nx ρ2 => exact fun σ2 H2 N2 n2 r2 => k σ2 H2 N2 (n1.trans n2) r2
  | rt d => exact fun v H a b r => k v H a (n1.trans b) r
  | ex n ρ2 => exact ho.elim
  | bk ρ2 => exact fun σ2 H2 N2 n2 r2 => k σ2 H2 N2 (n1.trans n2) r2
  | ct ρ2 => exact fun σ2 H2 N2 n2 r2 => k σ2 H2 N2 (n1.trans n2) r2
  | ro d => exact fun p H' N2 tk a b r => k p H' N2 tk a (n1.trans b) r
theorem sx_tryON {o : Outc} {c : Value} {body suite : List Stmt} {b₀ : Stmt} {np pos pos' : Pos} (hs : X.stack = X.env :: X.outer) (hf : X.env.frame = some X.env.locals) (hc : Names X x c)
    (hb : ∀ (pn : List (Addr × Obj)) (xe : Value → Shared → Prop), PassesOwn (model X.prog X.w) X.A X.env xe → Exec (X.tr pn xe) H0 ρ body o) (ho : o.noex) :
    ExS X H0 ρ (.Try body [.ExceptHandler (some (.Name x np)) none (b₀ :: suite) pos'] [] [] pos) o := fun D σ H N r k => by
  refine ws_of (ps_try_only (c := c) (tb := fun W D σ H => ∀ pn xe, Takes (X.tr pn xe) W → PassesOwn (model X.prog X.w) X.A X.env xe → WB (X.tr pn xe) body D σ H)
    (ts := fun a cls d D σ H => ∀ oe pn, WB (X.suite a ((a, oe) :: pn)) (b₀ :: suite) D σ H) (Wout := fun _ _ _ _ => False) hs hf hc takes0 (fun W pn xe tk hp => ⟨fun pins s σ H D I h => (h pn xe tk hp).go pins s I⟩) (fun a oe cls d pn hz hd => ⟨fun pins s σ H D I h => (h oe pn).go pins s I⟩)) ?_
  intro pn xe tk hp
  refine hb pn xe hp D σ H N r ?_
  cases o with
  | ex n ρ2 => exact ho.elim
  | nx ρ2 => exact k
  | rt d => exact k
  | bk ρ2 => exact k
  | ct ρ2 => exact k
  | ro d => exact k
theorem xm_tryB {mb : M β} {eb : β → Dat} {g : β → S} {hs : List (Str × M S)} {eS : S → Env'} {f : S → M γ} {c : Value} {suite : List Stmt} {b₀ : Stmt} {np py pos pos' pos'' : Pos} {y : Str} (j : Nat) (is : List Nat)
    (hst : X.stack = X.env :: X.outer) (hfr : X.env.frame = some X.env.locals) (nd : X.N.Nodup) (hc : Names X x c)
    (hb : ∀ (pn : List (Addr × Obj)) (xe : Value → Shared → Prop), PassesOwn (model X.prog X.w) X.A X.env xe → EvM (X.tr pn xe) H0 ρ call eb mb)
    (hok : ∀ r, eS (g r) = drops (ρ.set j (.im (eb r))) is)
    (hh : AllH (fun n h => (∀ C, X.mg n = some (.ref C) → PySem.W.exmOne X.K (.ref C) c = some true) ∧ ∀ (a : Addr) (oe : Obj) (pn : List (Addr × Obj)), ExM (X.suite a ((a, oe) :: pn)) H0 ρ k (b₀ :: suite) (fun s => .nx (eS s)) h) hs)
    (tt : ∀ s, ExM X H0 (eS s) k rest D (f s))
    (hj : X.N[j]? = some y := by rfl) (hy : Loc X.env.scope y := by first | exact Or.inl rfl | exact Or.inr rfl)
    (hsw : ∀ pn xe, swapsWith call (some (.Name y py)) pos.line (X.tr pn xe).env = pure false := by intro _ _; rfl) (hf : X.fn y = true ∨ X.env.scope.names.lookup y = some .local := by first | exact .inl rfl | exact .inr rfl | assumption) :
    ExM X H0 ρ k (.Try [.Assign [.Name y py] call pos] [.ExceptHandler (some (.Name x np)) none (b₀ :: suite) pos'] [] [] pos'' :: rest) D (M.bind (tryA mb g hs) f) := by
  cases mb with
  | ok r =>
    have h1 : ExS X H0 ρ (.Try [.Assign [.Name y py] call pos] [.ExceptHandler (some (.Name x np)) none (b₀ :: suite) pos'] [] [] pos'') (.nx (eS (g r))) :=
      sx_tryON hst hfr hc (fun pn xe hp => ex_then (sx_set (X := X.tr pn xe) j (hb pn xe hp) nd rfl hj hy (hsw pn xe) hf) (hok r ▸ ex_drops is ex_nil)) trivial
    exact xm_then h1 (tt (g r))
  | ex n' =>
    show ExM X H0 ρ k _ D (M.bind (lookM n' hs) f)
    induction hs with
    | nil => trivial
    | cons q r ih =>
      obtain ⟨⟨he, h1⟩, h2⟩ := hh
      unfold lookM
      by_cases e : n' = q.1
      · rw [if_pos e]
        subst e
        cases eh : q.2 with
        | ok s =>
          have h3 : ExS X H0 ρ (.Try [.Assign [.Name y py] call pos] [.ExceptHandler (some (.Name x np)) none (b₀ :: suite) pos'] [] [] pos'') (.nx (eS s)) :=
            sx_tryO (m := q.1) (ρ1 := ρ) hst hfr hc he (fun pn xe hp => ex_one (sx_setX (X := X.tr pn xe) (hb pn xe hp) nd hj hy (hsw pn xe) hf)) (fun a oe pn => by
              have := h1 a oe pn
              rw [eh] at this
              exact this) trivial
          exact xm_then h3 (tt s)
        | ex _ => trivial
        | far => trivial
      · rw [if_neg e]
        exact ih h2
  | far => trivial
end
end B

namespace B
open PySem PySem.Spec PyProof.Rows L2
/-! ### trees: None, or a tuple of trees -/
inductive Tr where
  | leaf
  | node (l : List Tr)
mutual
def trd : Tr → Dat
  | .leaf => .non
  | .node l => .tup (trds l)
def trds : List Tr → List Dat
  | [] => []
  | t :: r => trd t :: trds r
end
theorem trds_map : ∀ l : List Tr, trds l = l.map trd
  | [] => rfl
  | t :: r => by rw [trds, trds_map r]; rfl
theorem trd_node (l : List Tr) : trd (.node l) = tpnd trd l := by rw [trd, trds_map]
mutual
theorem flat_trd : ∀ t : Tr, flat (trd t) = true
  | .leaf => rfl
  | .node l => by rw [trd, flat]; exact flat_trds l
theorem flat_trds : ∀ l : List Tr, flats (trds l) = true
  | [] => rfl
  | t :: r => by rw [trds, flats, flat_trd t, flat_trds r]; rfl
end
def kid : Tr → Option (List Tr)
  | .leaf => none
  | .node l => some l
theorem kid_ok : ∀ {t : Tr} {l : List Tr}, kid t = some l → t = .node l
  | .node _, _, h => by cases h; rfl
def isLf : Tr → Bool
  | .leaf => true
  | .node _ => false
theorem isNon_trd : ∀ t : Tr, isNon (trd t) = isLf t
  | .leaf => rfl
  | .node l => by rw [trd]; rfl
theorem isTup_trd : ∀ t : Tr, isTup (trd t) = !isLf t
  | .leaf => rfl
  | .node l => by rw [trd]; rfl
theorem eqv_emp {α : Type} (e : α → Dat) (l : List α) : PyData.eqv (pd (lstd e l)) (pd (.lst [])) = l.isEmpty := by cases l <;> rfl
/-- how deep a tree is -/
inductive Dp : Nat → Tr → Prop where
  | leaf {n : Nat} : Dp n .leaf
  | node {n : Nat} {l : List Tr} : (∀ t ∈ l, Dp n t) → Dp (n + 1) (.node l)
theorem okn_dp : ∀ {n : Nat} {t : Tr}, Dp n t → ∀ {m : Nat}, n ≤ m → okn m (trd t) = true
  | _, _, .leaf, m, _ => by cases m <;> rfl
  | n + 1, .node l, .node h, m, hm => by
    obtain ⟨q, rfl⟩ : ∃ q, m = q + 1 := ⟨m - 1, by omega⟩
    rw [trd_node]
    show (l.map trd).all (okn q) = true
    rw [List.all_map]
    exact List.all_eq_true.mpr fun x hx => okn_dp (h x hx) (by omega)
section
variable {X : Cx} {H0 : Hp} {ρ ρ1 : Env'} {α β γ : Type} {a b c e : Expr} {rest : List Stmt} {d : Dat} {ds : List Dat} {p pos apos : Pos} {k : Nat} {D : γ → Outc}
theorem ev_trl (h : Ev X H0 ρ e .non) : Ev X H0 ρ e (trd .leaf) := h
theorem ev_trn {l : List Tr} (h : Ev X H0 ρ e (tpnd trd l)) : Ev X H0 ρ e (trd (.node l)) := by rw [trd_node]; exact h
theorem ev_trk {t : Tr} {l : List Tr} (h : Ev X H0 ρ e (trd t)) (q : kid t = some l) : Ev X H0 ρ e (tpnd trd l) := by rw [← trd_node, ← kid_ok q]; exact h
/-! ### zip of two tuples -/
theorem it_zipT {ea : α → Dat} {eb : β → Dat} {l1 : List α} {l2 : List β} {elts : List Expr} {kk : Nat} {tpos : Pos} (ha : Ev X H0 ρ a (tpnd ea l1)) (hb : Ev X H0 ρ b (tpnd eb l2)) (hm : X.mg "zip" = none) (hg : Gl X "zip" := by rfl) (hs : starEach [a, b] X.env = (false, eval a X.env) :: starEach [b] X.env := by rfl) (hs2 : starEach [b] X.env = [(false, eval b X.env)] := by rfl) (hpl : (backTo pos (starEach [b] X.env)).any (·.1) = false := by rfl) :
    Iter X H0 ρ (.Tuple elts kk tpos) (.Call (.Name "zip" p) [a, b] [] pos) ((l1.zip l2).map (tup2 ea eb)) := ⟨_, RZ.pi_zipA hg hm pa_w hs hpl, fun σ H N r R k => (ea_cons ha (ea_cons hb ea_nil (hs := hs2)) (hs := hs) σ H N r).imp fun vs H' ⟨N', s, n, r', q⟩ => by
  cases q with
  | cons a1 t =>
    cases t with
    | cons a2 t2 =>
      cases t2
      obtain ⟨p1, v1, rfl, q1, q2⟩ := at_seq a1
      obtain ⟨p2, v2, rfl, q3, q4⟩ := at_seq a2
      refine ⟨p1, p2, v1, v2, rfl, .inr ⟨sqt_same r'.sub q1, sqt_same r'.sub q3, k _ H' N' n s r' fun H02 ρ2 σ2 H2 N2 i s02 s2 r2 => ?_⟩⟩
      have g1 := sqt_same r2.sub (sqt_same s2 q1)
      have g3 := sqt_same r2.sub (sqt_same s2 q3)
      have l1l : v1.length = l1.length := by rw [q2.length, List.length_map]
      have l2l : v2.length = l2.length := by rw [q4.length, List.length_map]
      refine ⟨fun hi => ?_, fun hi => ?_⟩
      · rw [List.length_map, List.length_zip] at hi
        have i1 : i < l1.length := by omega
        have i2 : i < l2.length := by omega
        obtain ⟨x1, x2, x3⟩ := (q2.mono s2).get (i := i) (d := ea l1[i]) (by rw [List.getElem?_map, List.getElem?_eq_getElem i1]; rfl)
        obtain ⟨y1, y2, y3⟩ := (q4.mono s2).get (i := i) (d := eb l2[i]) (by rw [List.getElem?_map, List.getElem?_eq_getElem i2]; rfl)
        refine ⟨⟨v1, v2, x1, y1, g1, g3, x2, y2⟩, fun x H3 y => ?_⟩
        obtain ⟨T, x, z, rfl, hT, rfl, f1, f2⟩ := y
        have e1 := f1 _ g1
        rw [x2] at e1
        cases e1
        have e2 := f2 _ g3
        rw [y2] at e2
        cases e2
        obtain ⟨r3, n3⟩ := r2.new (o := .tup [x1, y1]) hT
        refine ⟨_, tup2 ea eb (l1[i], l2[i]), n3, Same.of_none hT, r3, ?_, .tup (.inl (.inl upd_same)) (.cons (x3.mono n3) (.cons (y3.mono n3) .nil))⟩
        rw [List.getElem?_map]
        have hz : (l1.zip l2)[i]? = some (l1[i], l2[i]) := by
          rw [List.getElem?_zip_eq_some]
          exact ⟨List.getElem?_eq_getElem i1, List.getElem?_eq_getElem i2⟩
        rw [hz]
        rfl
      · rw [List.length_map, List.length_zip] at hi
        exact ⟨v1, v2, g1, g3, by omega⟩⟩
/-! ### x, y = l.pop() -/
theorem Ats.dropLast {K : PySem.W.Frag} {H : Hp} {vs : List V} (h : Ats K H vs ds) : Ats K H vs.dropLast ds.dropLast := by
  rw [List.dropLast_eq_take, List.dropLast_eq_take, h.length]
  exact h.take _
theorem sx_popT {t : Expr} {ok : Dat → Prop} {bd : Dat → Env' → Env'} (i : Nat) {y : Str} {p1 p2 p3 : Pos} (hi : ρ[i]? = some (.ow (.lst ds))) (hl : ds[ds.length - 1]? = some d) (hg : Tgt X H0 t ok bd) (hk : ok d) (hρ : bd d (ρ.set i (.ow (.lst ds.dropLast))) = ρ1) (hN : X.N[i]? = some y := by rfl) (hv : Vis X.env.scope y := by first | exact Or.inl rfl | exact Or.inr (Or.inl rfl) | exact Or.inr (Or.inr rfl))
    (hd : (y == ("__debug__" : Str)) = false := by decide) (hcd : (y == ("__classdict__" : Str)) = false := by decide)
    (hpe : ∀ to, PE X (.Name y p1) to → PE X (.Call (.Attribute (.Name y p1) "pop" p2) [] [] p3) (tBM0 X.K "list" rPop to) := by exact fun _ h => pe_bm0 PySem.F.plainAttrs_list PySem.F.slot_list_pop PySem.F.type_list_pop mt_pop h)
    (hs : swapsWithSole [t] (.Call (.Attribute (.Name y p1) "pop" p2) [] [] p3) pos.line X.env = pure false := by rfl) (hw : swappedStores [t] (.Call (.Attribute (.Name y p1) "pop" p2) [] [] p3) X.env = pure none := by rfl)
    (h1 : (assignEach [t] X.env).map (·.2) = [assign t X.env] := by rfl) : ExS X H0 ρ (.Assign [t] (.Call (.Attribute (.Name y p1) "pop" p2) [] [] p3) pos) (.nx ρ1) := fun D σ H N r q => by
  obtain ⟨g, pg, gg⟩ := hg.pg
  obtain ⟨q0, g1, g2, g3, vs, g4, g5⟩ := r.ow i _ hi
  obtain ⟨v, w1, w2⟩ := g5.get hl
  refine ws_of (ps_asg (hpe _ (pv i hN hv hd hcd)) pg hs hw h1) ⟨_, g1, .inl ⟨rfl, _, .inl (.inl g4)⟩, q0, vs, v, rfl, rfl, g4, by rw [g5.length]; exact w1, ?_⟩
  have r2 := r.write hi g1 (o := .lst vs.dropLast) (d' := .lst ds.dropLast) ⟨_, upd_same, g5.dropLast⟩
  exact gg _ σ _ N v d r2 w2 hk _ fun σ2 H2 N2 n2 r3 => q σ2 H2 N2 n2 (hρ ▸ r3)
theorem xm_popT {en : β → Dat} {l : List β} {v : β} {f : List β × β → M γ} {t : Expr} {ok : Dat → Prop} {bd : Dat → Env' → Env'} (i : Nat) {y : Str} {p1 p2 p3 : Pos} (hi : ρ[i]? = some (.ow (lstd en l))) (hl : l.getLast? = some v) (hg : Tgt X H0 t ok bd) (hok : ∀ r, ok (en r)) (tt : ∀ q : List β × β, ExM X H0 (bd (en q.2) (ρ.set i (.ow (lstd en q.1)))) k rest D (f q)) (hN : X.N[i]? = some y := by rfl) (hv : Vis X.env.scope y := by first | exact Or.inl rfl | exact Or.inr (Or.inl rfl) | exact Or.inr (Or.inr rfl))
    (hd : (y == ("__debug__" : Str)) = false := by decide) (hcd : (y == ("__classdict__" : Str)) = false := by decide)
    (hpe : ∀ to, PE X (.Name y p1) to → PE X (.Call (.Attribute (.Name y p1) "pop" p2) [] [] p3) (tBM0 X.K "list" rPop to) := by exact fun _ h => pe_bm0 PySem.F.plainAttrs_list PySem.F.slot_list_pop PySem.F.type_list_pop mt_pop h)
    (hs : swapsWithSole [t] (.Call (.Attribute (.Name y p1) "pop" p2) [] [] p3) pos.line X.env = pure false := by rfl) (hw : swappedStores [t] (.Call (.Attribute (.Name y p1) "pop" p2) [] [] p3) X.env = pure none := by rfl)
    (h1 : (assignEach [t] X.env).map (·.2) = [assign t X.env] := by rfl) : ExM X H0 ρ k (.Assign [t] (.Call (.Attribute (.Name y p1) "pop" p2) [] [] p3) pos :: rest) D (M.lt (l.dropLast, v) f) := by
  have h := tt (l.dropLast, v)
  refine xm_then (sx_popT i hi (d := en v) ?_ hg (hok v) ?_ hN hv hd hcd hpe hs hw h1) h
  · rw [List.length_map, List.getElem?_map]
    rw [List.getLast?_eq_getElem?] at hl
    rw [hl]
    rfl
  · show bd (en v) (ρ.set i (.ow (.lst (l.map en).dropLast))) = _
    rw [← List.map_dropLast]
/-! ### {k: v} -/
theorem eo_dic1 {en : α → Dat} {key : List Nat} {v : α} {ke ve : Expr} (hn : noOl ρ) (hk : ∀ H0', Ev X H0' ρ ke (tx key)) (hv : ∀ H0', Ev X H0' ρ ve (en v)) : EvO X H0 ρ (.Dict [some ke] [ve] pos) (dicd en [(key, v)]) := fun σ H N r => we_of (pe_disp (pps_cons pe_w pe_w pps_nil) rfl rfl (fun z => nomatch z) (by show 1 ≤ 15; decide)) (fun p hp => by
  have np : N p = none := r.sub.free hp
  have hp0 : H0 p = none := r.old.free hp
  have r1 := r.upd0 hn (a := p) (o := .dK []) (r.tab.fresh hp) True.intro np (fun j d' e => no_own r hp j d' e)
  show WE X ke σ (upd H p (.dK [])) fun k H1 => WE X ve σ H1 fun v H2 => _
  refine (hk _ σ _ N r1).imp fun x H1 ⟨N1, s1, n1, r2, a1⟩ => (hv _ σ H1 N1 r2).imp fun y H2 ⟨N2, s2, n2, r3, a2⟩ => ?_
  have hx := at_str a1
  subst hx
  have h2 : H2 p = some (.dK []) := r3.old p _ upd_same
  refine ⟨h2, [((Sum.inr (SX.S key) : Key), y)], rfl, by show 1 ≤ 15; decide, ?_⟩
  have np2 := n_of r3 (a := p) upd_same True.intro
  have r4 := r3.upd0 hn (a := p) (o := .dK (mergeK [] [((Sum.inr (SX.S key) : Key), y)])) (r3.tab.upd h2) True.intro np2 (own_ne r3 upd_same)
  have e1 : upd (upd H0 p (.dK [])) p (.dK (mergeK [] [((Sum.inr (SX.S key) : Key), y)])) = Un H0 (upd (fun _ => none) p (.dK (mergeK [] [((Sum.inr (SX.S key) : Key), y)]))) := by
    rw [un_upd]
    funext b
    by_cases q : b = p
    · subst q; rw [upd_same, upd_same]
    · rw [upd_ne q, upd_ne q, upd_ne q]; rfl
  rw [e1] at r4
  have r5 := r4.low2 (fun a u z => by
    by_cases q : a = p
    · rw [q]; exact hp0
    · rw [upd_ne q] at z; cases z) hn
  refine ⟨N2, p, rfl, hp, fun b u z => ?_, n1.trans n2, r5, np2, [((Sum.inr (SX.S key) : Key), y)], upd_same, .cons a2 .nil⟩
  have q : b ≠ p := ne_of_none z hp
  rw [upd_ne q]
  exact (Same.trans s1 s2) b u (by rw [upd_ne q]; exact z))
end
end B

namespace B
open PySem PySem.Spec PyProof.Rows L2
/-! ### a def that hands out flat data may keep what it is handed: all its parameters are data that nobody changes -/
inductive EntsI : List Ent → List Dat → Prop where
  | nil : EntsI [] []
  | im {d : Dat} {es : List Ent} {ds : List Dat} : EntsI es ds → EntsI (.im d :: es) (d :: ds)
theorem EntsI.get {K : PySem.W.Frag} {H : Hp} : ∀ {es : List Ent} {ds : List Dat} {vs : List V}, EntsI es ds → Ats K H vs ds → ∀ i : Nat, (es[i]? = none ∧ vs[i]? = none) ∨ ∃ v d, vs[i]? = some v ∧ es[i]? = some (Ent.im d) ∧ At K H v d
  | _, _, _, .nil, .nil, i => .inl ⟨by simp, by simp⟩
  | _, _, _, .im _, .cons a _, 0 => .inr ⟨_, _, rfl, rfl, a⟩
  | _, _, _, .im t, .cons _ b, i + 1 => by simpa using EntsI.get t b i
theorem EntsI.length : ∀ {es : List Ent} {ds : List Dat}, EntsI es ds → es.length = ds.length
  | _, _, .nil => rfl
  | _, _, .im t => congrArg (· + 1) (EntsI.length t)
theorem rep_startI {K : PySem.W.Frag} {H : Hp} {es : List Ent} {ds : List Dat} {vs : List V} {N : List Str} (tk : Tk H) (e : EntsI es ds) (a : Ats K H vs ds) : Rep K (fun _ => none) (es ++ List.replicate (N.length - vs.length) .no) (L2.start N vs) H H := by
  have hl : es.length = vs.length := by rw [e.length, a.length]
  have geE : ∀ (i : Nat) x, (es ++ List.replicate (N.length - vs.length) Ent.no)[i]? = some x → x ≠ .no → es[i]? = some x := fun i x h n => by
    by_cases hi : i < es.length
    · rw [List.getElem?_append_left hi] at h; exact h
    · rw [List.getElem?_append_right (by omega), List.getElem?_replicate] at h
      split at h
      · cases h; exact (n rfl).elim
      · cases h
  have geV : ∀ (i : Nat) v, vs[i]? = some v → (L2.start N vs)[i]? = some (some v) := fun i v h => by
    unfold L2.start
    rw [List.getElem?_append_left (by rw [List.length_map]; exact (List.getElem?_eq_some_iff.mp h).1), List.getElem?_map, h]
    rfl
  refine ⟨tk, fun b u h => (nomatch h), Same.refl _, fun b u h => ?_, fun b u h m => rfl, ?_, fun i d h => ?_, fun i d h => ?_, fun i d h => ?_, fun i d h => ?_, fun i j d d' p ne h => ?_⟩
  · have := imm_eq h
    cases this
  · unfold L2.start
    simp [hl]
  · have h1 := geE i _ h (fun z => nomatch z)
    rcases e.get a i with ⟨h2, _⟩ | ⟨v, d', hv, h2, q⟩
    · rw [h1] at h2; cases h2
    · rw [h1] at h2; cases h2; exact ⟨v, geV i v hv, q⟩
  · have h1 := geE i _ h (fun z => nomatch z)
    rcases e.get a i with ⟨h2, _⟩ | ⟨v, d', hv, h2, q⟩ <;> (rw [h1] at h2; cases h2)
  · have h1 := geE i _ h (fun z => nomatch z)
    rcases e.get a i with ⟨h2, _⟩ | ⟨v, d', hv, h2, q⟩ <;> (rw [h1] at h2; cases h2)
  · have h1 := geE i _ h (fun z => nomatch z)
    rcases e.get a i with ⟨h2, _⟩ | ⟨v, d', hv, h2, q⟩ <;> (rw [h1] at h2; cases h2)
  · have h1 := geE i _ h (fun z => nomatch z)
    rcases e.get a i with ⟨h2, _⟩ | ⟨v, d', hv, h2, q⟩ <;> (rw [h1] at h2; cases h2)
def Res.fl : Res → Prop
  | .val d => flat d = true
  | .exc _ => True
  | .own _ => False
theorem ret_flat {K : PySem.W.Frag} {H0 H : Hp} {v : V} {d : Dat} (f : flat d = true) (h : Ret K H0 v d H) (H1 : Hp) : Ret K H1 v d H := by
  obtain ⟨tk, N, n1, _, n3⟩ := h
  exact ⟨tk, Imm N, (imm_sub N).trans n1, fun a o e m => (imm_not e m).elim, n3.imm f⟩
section
variable {P : Program} {w : World} {K : PySem.W.Frag} {mg : Str → Option Value} {base : Heap} {x : Str} {st : Stmt} {ps N : List Str} {k : Nat} {R : List Dat → Res → Prop} {f : Addr} {fd : FuncData}
theorem fn_mk2I (F : Fun K x x st f fd) (S : FnScope N ps (defScope st)) (hl : ∀ ds o, R ds o → ds.length = ps.length) (hv : ∀ ds o, R ds o → o.fl)
    (body : ∀ (f : Addr) (cdv : Value) (A : Around) (outer : List PySem.Env) (s : Shared) (H : Hp) (E : XK), Room k (XX P w K mg base N x st f cdv A outer s H E).A → ∀ ds o, R ds o → ∃ es, EntsI es ds ∧ ∀ H0, Ends' (XX P w K mg base N x st f cdv A outer s H E) H0 (es ++ List.replicate (N.length - ps.length) .no) (defBody st) o) : FnOk P w K mg base (L2.CX P w) (k + 1) f fd ps (spR K mg R) := by
  refine F.okX S (fun vs H Q E ⟨_, ds, o, hr, a, _⟩ => by rw [a.length]; exact hl ds o hr) fun cdv A outer s H vs Q E hr hsp => ?_
  obtain ⟨tk, ds, o, hR, a, q⟩ := hsp
  obtain ⟨es, he, hbody⟩ := body f cdv A outer s H E hr ds o hR
  have hlen : vs.length = ps.length := by rw [a.length]; exact hl ds o hR
  have r : Rep K (fun _ => none) (es ++ List.replicate (N.length - ps.length) .no) (L2.start N vs) H H := hlen ▸ rep_startI tk he a
  have hb := hbody (fun _ => none)
  have hf := hv ds o hR
  refine ⟨_, pb_w, ?_⟩
  cases hb with
  | ret h => exact h { nx := fun _ H' => Q .non H', rt := Q } _ _ _ r fun v H' _ sn rt => q v H' sn (ret_flat hf rt H)
  | non h => exact h { nx := fun _ H' => Q .non H', rt := Q } _ _ _ r fun σ H' N' s r' => q .non H' (s.trans r'.sub) (ret_flat rfl ⟨r'.tab, N', r'.sub, fun a o e m => r'.fresh a o e m, .non⟩ H)
  | own h => exact hf.elim
  | exc h => exact h { nx := fun _ H' => Q .non H', rt := Q } _ _ _ r ⟨_, takes_of rfl rfl rfl rfl, fun C σ H' N' hm s r' => q C H' hm r'.tab (s.trans r'.sub)⟩
theorem GFn.mk2I (D : Df K mg x st ps) (S : FnScope N ps (defScope st)) (hl : ∀ ds o, R ds o → ds.length = ps.length) (hv : ∀ ds o, R ds o → o.fl)
    (body : ∀ (f : Addr) (cdv : Value) (A : Around) (outer : List PySem.Env) (s : Shared) (H : Hp) (E : XK), Room k (XX P w K mg base N x st f cdv A outer s H E).A → ∀ ds o, R ds o → ∃ es, EntsI es ds ∧ ∀ H0, Ends' (XX P w K mg base N x st f cdv A outer s H E) H0 (es ++ List.replicate (N.length - ps.length) .no) (defBody st) o) : GFn P w K mg base x (k + 1) R := by
  obtain ⟨f, fd, F, hm, hb⟩ := D
  exact ⟨f, fd, ps, fn_mk2I F S hl hv body, hm, F.kp, hb⟩
theorem rm_flat {α : Type} {en : α → Dat} (h : ∀ a, flat (en a) = true) {m : M α} {o : Res} (q : Rm en m o) : o.fl := by
  cases m with
  | ok v => cases (show o = _ from q); exact h v
  | ex n => cases (show o = _ from q); trivial
  | far => exact (show False from q).elim
end
mutual
theorem inj_tre : ∀ a b : Tr, trd a = trd b → a = b
  | .leaf, .leaf, _ => rfl
  | .leaf, .node l, h => by rw [trd, trd] at h; cases h
  | .node l, .leaf, h => by rw [trd, trd] at h; cases h
  | .node l, .node m, h => by
    rw [trd, trd] at h
    rw [inj_tres l m (Dat.tup.inj h)]
theorem inj_tres : ∀ a b : List Tr, trds a = trds b → a = b
  | [], [], _ => rfl
  | [], _ :: _, h => by rw [trds, trds] at h; cases h
  | _ :: _, [], h => by rw [trds, trds] at h; cases h
  | x :: a, y :: b, h => by
    rw [trds, trds] at h
    obtain ⟨h1, h2⟩ := List.cons.inj h
    rw [inj_tre x y h1, inj_tres a b h2]
end
end B

namespace B
open PySem PySem.Spec PyProof.Rows L2
/-! ### a list == [], whatever it holds -/
def rEmp (K : PySem.W.Frag) (f : Bool → Bool) : R2 := fun x y H Q => ∃ a b xs, x = .ref a ∧ y = .ref b ∧ SqL K H a xs ∧ SqL K H b [] ∧ Q (.bl (f xs.isEmpty)) H
theorem op_eqE {X : Cx} (hu : X.A.units + 64 < cLine) : OpR X (compareOp .Eq) (rEmp X.K fun b => b) := by
  intro pins s σ H x y v u Q I rx ry ⟨a, b, xs, e1, e2, h1, h2, q⟩
  subst e1; subst e2
  cases rx; cases ry
  obtain ⟨its, r1, p1, _⟩ := Inv.list I h1
  obtain ⟨its2, r2, p2, _⟩ := Inv.list I h2
  have l1 := Vals.length r1
  have l2 := Vals.length r2
  have hu' : X.A.units < cLine := by omega
  cases xs with
  | nil =>
    refine (SeqAt.RcAt.lists (e := fun _ => true) (PlainL.isList p1) (PlainL.isList p2) (by simp at l1 l2; simp [← l1, ← l2]) hu' (fun j h1 h2 => ?_)) X.prog X.w X.xe _ ⟨.bl true, H, I, ?_, q⟩
    · simp at l1
      simp [← l1] at h1
    · simp [L2.RelV]
  | cons x xs =>
    refine (SeqAt.RcAt.lists_lengths (PlainL.isList p1) (PlainL.isList p2) (by simp at l1 l2; simp [← l1, ← l2]) hu') X.prog X.w X.xe _ ⟨.bl false, H, I, ?_, q⟩
    simp [L2.RelV]
theorem op_neE {X : Cx} (hu : X.A.units + 64 < cLine) : OpR X (compareOp .NotEq) (rEmp X.K fun b => !b) := by
  intro pins s σ H x y v u Q I rx ry ⟨a, b, xs, e1, e2, h1, h2, q⟩
  subst e1; subst e2
  cases rx; cases ry
  obtain ⟨its, r1, p1, _⟩ := Inv.list I h1
  obtain ⟨its2, r2, p2, _⟩ := Inv.list I h2
  have l1 := Vals.length r1
  have l2 := Vals.length r2
  have hu' : X.A.units < cLine := by omega
  cases xs with
  | nil =>
    refine (SeqAt.RcNeAt.lists (e := fun _ => true) (PlainL.isList p1) (PlainL.isList p2) (by simp at l1 l2; simp [← l1, ← l2]) hu' (fun j h1 h2 => ?_)) X.prog X.w X.xe _ ⟨.bl false, H, I, ?_, q⟩
    · simp at l1
      simp [← l1] at h1
    · simp [L2.RelV]
  | cons x xs =>
    refine (SeqAt.RcNeAt.lists_lengths (PlainL.isList p1) (PlainL.isList p2) (by simp at l1 l2; simp [← l1, ← l2]) hu') X.prog X.w X.xe _ ⟨.bl true, H, I, ?_, q⟩
    simp [L2.RelV]
section
variable {X : Cx} {H0 : Hp} {ρ ρ1 : Env'} {α β γ : Type} {a b c e : Expr} {rest : List Stmt} {d : Dat} {ds : List Dat} {p pos apos : Pos} {k : Nat} {D : γ → Outc}
theorem emp_go {f : Bool → Bool} {en : α → Dat} {l : List α} {x y : V} {σ : L2.St} {H N : Hp} {Q : VK} (p : At X.K H x (lstd en l)) (q : At X.K H y (.lst [])) (r : Rep X.K H0 ρ σ H N) (g : Goes X.K H0 ρ σ H N (.bl (f l.isEmpty)) Q) : rEmp X.K f x y H Q := by
  obtain ⟨p1, vs, e1, q1, q2⟩ := at_lst p
  obtain ⟨p2, ws, e2, q3, q4⟩ := at_lst q
  cases q4
  have hl : vs.isEmpty = l.isEmpty := by
    have := q2.length
    rw [List.length_map] at this
    cases vs <;> cases l <;> simp at this ⊢
  exact ⟨p1, p2, vs, e1, e2, q1, q3, by rw [hl]; exact goes_self (Q := Q) g r (.bl _)⟩
theorem et_eqE {en : α → Dat} {l : List α} (hu : X.A.units + 64 < cLine) (ha : EvB X H0 ρ a (lstd en l)) (hb : EvB X H0 ρ b (.lst [])) : EvT X H0 ρ (.Compare a [.Eq] [b] pos) l.isEmpty := evt_bin (fun _ _ h k => pt_cmpR (op_eqE hu) h k (nomark _)) ha hb fun x y σ H N Q r p q g => emp_go p q r g
theorem et_neE {en : α → Dat} {l : List α} (hu : X.A.units + 64 < cLine) (ha : EvB X H0 ρ a (lstd en l)) (hb : EvB X H0 ρ b (.lst [])) : EvT X H0 ρ (.Compare a [.NotEq] [b] pos) (!l.isEmpty) := evt_bin (fun _ _ h k => pt_cmpR (op_neE hu) h k (nomark _)) ha hb fun x y σ H N Q r p q g => emp_go p q r g
theorem ev_eqE {en : α → Dat} {l : List α} (hu : X.A.units + 64 < cLine) (ha : EvB X H0 ρ a (lstd en l)) (hb : EvB X H0 ρ b (.lst [])) : Ev X H0 ρ (.Compare a [.Eq] [b] pos) (.bl l.isEmpty) := ev_bin (fun _ _ h k => pe_cmpR (op_eqE hu) h k (nomark _)) ha hb fun x y σ H N Q r p q g => emp_go p q r g
theorem ev_neE {en : α → Dat} {l : List α} (hu : X.A.units + 64 < cLine) (ha : EvB X H0 ρ a (lstd en l)) (hb : EvB X H0 ρ b (.lst [])) : Ev X H0 ρ (.Compare a [.NotEq] [b] pos) (.bl (!l.isEmpty)) := ev_bin (fun _ _ h k => pe_cmpR (op_neE hu) h k (nomark _)) ha hb fun x y σ H N Q r p q g => emp_go p q r g
end
end B

namespace B
open PySem PySem.Spec PyProof.Rows L2
/-! ### more plain tools on mirrors -/
section
variable {α β S S' L L' R : Type}
theorem whileF_done {c : S → M Bool} {f : S → M (Fl S S R)} {n : Nat} {s : S} (h : c s = .ok false) : (whileF c f (n + 1) s : M (Fl S L R)) = .ok (.nx s) := by unfold whileF; rw [h]; rfl
theorem whileF_nx {c : S → M Bool} {f : S → M (Fl S S R)} {n : Nat} {s s' : S} (h : c s = .ok true) (h2 : f s = .ok (.nx s') ∨ f s = .ok (.ct s')) : (whileF c f (n + 1) s : M (Fl S L R)) = whileF c f n s' := by
  conv => lhs; unfold whileF
  rw [h, M.bind_ok, if_pos rfl]
  rcases h2 with h2 | h2 <;> rw [h2]
theorem whileF_rt {c : S → M Bool} {f : S → M (Fl S S R)} {n : Nat} {s : S} {r : R} (h : c s = .ok true) (h2 : f s = .ok (.rt r)) : (whileF c f (n + 1) s : M (Fl S L R)) = .ok (.rt r) := by
  conv => lhs; unfold whileF
  rw [h, M.bind_ok, if_pos rfl, h2]
/-- a while that may leave the def: what comes of a state stays -/
theorem seqT_whileV {c : S → M Bool} {f : S → M (Fl S S R)} {k : S → M R} (V : S → M R) (I : S → Prop) (μ : S → Nat)
    (h : ∀ s, I s → (c s = .ok false ∧ k s = V s) ∨ (c s = .ok true ∧ ((∃ r, f s = .ok (.rt r) ∧ V s = .ok r) ∨ ∃ s', (f s = .ok (.nx s') ∨ f s = .ok (.ct s')) ∧ I s' ∧ μ s' < μ s ∧ V s = V s'))) : ∀ (n : Nat) {s0 : S}, I s0 → μ s0 < n → M.seqT (whileF c f n s0 : M (Fl S L R)) k = V s0
  | 0, _, _, hn => by omega
  | n + 1, s, hI, hn => by
    rcases h s hI with ⟨h0, h1⟩ | ⟨h0, ⟨r, h1, h2⟩ | ⟨s', h1, h2, h3, h4⟩⟩
    · rw [whileF_done h0, h2k h1]
    · rw [whileF_rt h0 h1, h2]; rfl
    · rw [whileF_nx h0 h1, h4]
      exact seqT_whileV V I μ h n h2 (by omega)
where
  h2k {s : S} {k V : S → M R} (h1 : k s = V s) : M.seqT (.ok (.nx s) : M (Fl S L R)) k = V s := h1
/-- a walk that is left at the first that is not so -/
theorem seqT_all {f : α → Unit → M (Fl Unit Unit R)} {p : α → Bool} {r : R} {k : Unit → M R} : ∀ {xs : List α}, (∀ x ∈ xs, f x () = .ok (if p x = true then .nx () else .rt r)) → M.seqT (forF f xs () : M (Fl Unit L R)) k = if xs.all p = true then k () else .ok r
  | [], _ => rfl
  | x :: xs, h => by
    unfold forF
    rw [h x List.mem_cons_self]
    have ih := seqT_all (f := f) (p := p) (r := r) (k := k) (xs := xs) fun y hy => h y (List.mem_cons_of_mem _ hy)
    cases e : p x with
    | true => simp only [if_pos, List.all_cons, e, Bool.true_and]; exact ih
    | false => simp [e]
theorem if_t {α : Type} {b : Bool} {x y : α} (h : b = true) : (if b = true then x else y) = x := if_pos h
theorem if_f {α : Type} {b : Bool} {x y : α} (h : b = false) : (if b = true then x else y) = y := if_neg (by rw [h]; decide)
theorem snoc_of {α : Type} {l : List α} (h : l ≠ []) : ∃ u x, l = u ++ [x] := by
  rcases List.eq_nil_or_concat l with rfl | ⟨u, x, rfl⟩
  · exact (h rfl).elim
  · exact ⟨u, x, by rw [List.concat_eq_append]⟩
theorem gl_snoc {α : Type} (l : List α) (x : α) : (l ++ [x]).getLast? = some x := by simp
theorem dl_snoc {α : Type} (l : List α) (x : α) : (l ++ [x]).dropLast = l := by simp
theorem atI_last {α : Type} (l : List α) (x : α) : atI (l ++ [x]) (-1) = some x := by
  have := atI_neg (l := l ++ [x]) (k := 1) (by decide) (by simp)
  rw [show (-1 : Int) = -((1 : Nat) : Int) by decide, this]
  simp
theorem setI_last {α : Type} (l : List α) (x y : α) : setI (l ++ [x]) (-1) y = some (l ++ [y]) := by
  unfold setI ixN
  simp only [List.length_append, List.length_singleton]
  rw [if_neg (by omega), if_pos (by omega)]
  rw [show ((-1 : Int) + ((l.length + 1 : Nat) : Int)).toNat = l.length by omega]
  simp
theorem atI_0 {α : Type} (l : List α) : atI l 0 = l[0]? := by
  cases l with
  | nil => rfl
  | cons x l => exact atI_n (l := x :: l) (i := 0) (by simp)
end
/-! ### trees of a frame, as data -/
def isT (m : Nat) : Nat → Dat → Bool
  | 0, d => isNon d
  | k + 1, d => match d with
    | .non => true
    | .tup ds => decide (ds.length = m) && ds.all (isT m k)
    | _ => false
theorem isT_non (m k : Nat) : isT m k .non = true := by cases k <;> rfl
theorem isT_tup (m k : Nat) (ds : List Dat) : isT m (k + 1) (.tup ds) = (decide (ds.length = m) && ds.all (isT m k)) := rfl
/-- how many knots are looked at -/
def visT (m : Nat) : Nat → Dat → Nat
  | 0, _ => 1
  | k + 1, d => match d with
    | .tup ds => if ds.length = m then 1 + (ds.map (visT m k)).sum else 1
    | _ => 1
def wd6 : Nat → Nat
  | 0 => 1
  | k + 1 => 1 + 6 * wd6 k
theorem wd6_pos : ∀ k, 1 ≤ wd6 k
  | 0 => Nat.le_refl _
  | k + 1 => Nat.le_add_right _ _
theorem sum_le_n {α : Type} {f : α → Nat} {c : Nat} : ∀ {l : List α}, (∀ a ∈ l, f a ≤ c) → (l.map f).sum ≤ l.length * c
  | [], _ => Nat.zero_le _
  | a :: l, h => by
    have h1 := h a List.mem_cons_self
    have h2 := sum_le_n (l := l) fun b hb => h b (List.mem_cons_of_mem _ hb)
    rw [List.map_cons, List.sum_cons, List.length_cons, Nat.succ_mul]
    omega
theorem visT_le {m : Nat} (hm : m ≤ 6) : ∀ (k : Nat) (d : Dat), visT m k d ≤ wd6 k
  | 0, _ => Nat.le_refl _
  | k + 1, d => by
    have hp := wd6_pos (k + 1)
    unfold visT
    split
    · split
      · rename_i ds h
        have h1 := sum_le_n (f := visT m k) (l := ds) fun a _ => visT_le hm k a
        have h2 : ds.length * wd6 k ≤ 6 * wd6 k := Nat.mul_le_mul_right _ (by omega)
        show _ ≤ 1 + 6 * wd6 k
        omega
      · exact hp
    · exact hp
theorem visT_pos (m k : Nat) (d : Dat) : 1 ≤ visT m k d := by
  unfold visT
  split
  · exact Nat.le_refl _
  · split
    · split
      · exact Nat.le_add_right _ _
      · exact Nat.le_refl _
    · exact Nat.le_refl _
theorem wd6_le : ∀ {k : Nat}, k ≤ 6 → wd6 k ≤ 60000
  | 0, _ => by decide
  | 1, _ => by decide
  | 2, _ => by decide
  | 3, _ => by decide
  | 4, _ => by decide
  | 5, _ => by decide
  | 6, _ => by decide
  | k + 7, h => by omega
/-- what is a tree is one of Tr -/
theorem isT_tr {m : Nat} : ∀ {k : Nat} {d : Dat}, isT m k d = true → ∃ t, d = trd t
  | 0, d, h => by
    cases d <;> first | exact ⟨.leaf, rfl⟩ | exact absurd h (by decide) | skip
    all_goals cases h
  | k + 1, d, h => by
    cases d with
    | non => exact ⟨.leaf, rfl⟩
    | tup ds =>
      rw [isT_tup, Bool.and_eq_true, List.all_eq_true] at h
      obtain ⟨l, hl⟩ : ∃ l, ds = trds l := by
        have h2 := h.2
        clear h
        induction ds with
        | nil => exact ⟨[], rfl⟩
        | cons d ds ih =>
          obtain ⟨l, hl⟩ := ih fun x hx => h2 x (List.mem_cons_of_mem _ hx)
          obtain ⟨t, ht⟩ := isT_tr (h2 d List.mem_cons_self)
          exact ⟨t :: l, by rw [trds, ht, hl]⟩
      exact ⟨.node l, by rw [trd, hl]⟩
    | bl _ => cases h
    | int _ => cases h
    | str _ => cases h
    | lst _ => cases h
    | dic _ => cases h
    | ins _ _ _ => cases h
    | tix _ => cases h
    | dit _ _ => cases h
/-- .. as trees -/
def isTr (m : Nat) : Nat → Tr → Bool
  | 0, t => isLf t
  | k + 1, t => match t with
    | .leaf => true
    | .node l => decide (l.length = m) && l.all (isTr m k)
theorem isT_trd (m : Nat) : ∀ (k : Nat) (t : Tr), isT m k (trd t) = isTr m k t
  | 0, t => by
    show isNon (trd t) = isLf t
    exact isNon_trd t
  | k + 1, .leaf => rfl
  | k + 1, .node l => by
    rw [trd_node]
    show (decide ((l.map trd).length = m) && (l.map trd).all (isT m k)) = (decide (l.length = m) && l.all (isTr m k))
    rw [List.length_map, List.all_map]
    congr 1
    congr 1
    funext t
    exact isT_trd m k t
theorem isTr_dp {m : Nat} : ∀ {k : Nat} {t : Tr}, isTr m k t = true → Dp k t
  | 0, .leaf, _ => .leaf
  | 0, .node _, h => by cases h
  | k + 1, .leaf, _ => .leaf
  | k + 1, .node l, h => by
    have h' : (decide (l.length = m) && l.all (isTr m k)) = true := h
    rw [Bool.and_eq_true, List.all_eq_true] at h'
    exact .node fun t ht => isTr_dp (h'.2 t ht)
/-! ### an error from within a row of arguments -/
section
variable {X : Cx} {H0 : Hp} {ρ : Env'} {α β : Type} {e : Expr} {es : List Expr} {d : Dat} {p pos : Pos} {x n : Str} {R : List Dat → Res → Prop} {en : α → Dat} {k : Nat}
def EvAX (X : Cx) (H0 : Hp) (ρ : Env') (es : List Expr) (n : Str) : Prop := ∀ σ H N, Rep X.K H0 ρ σ H N → ∀ W : WX, Takes X W → (∀ C H' N', X.mg n = some (.ref C) → Same N N' → Rep X.K H0 ρ σ H' N' → W (.ref C) none σ H') → ∀ Q, WA X es σ H Q
theorem eax_here (h : EvX X H0 ρ e n) (hs : starEach (e :: es) X.env = (false, eval e X.env) :: starEach es X.env := by rfl) : EvAX X H0 ρ (e :: es) n := fun σ H N r W tk kw Q => wa_of (pa_cons pe_w pa_w hs) (h σ H N r W tk kw _)
theorem eax_next (h : EvB X H0 ρ e d) (t : EvAX X H0 ρ es n) (hs : starEach (e :: es) X.env = (false, eval e X.env) :: starEach es X.env := by rfl) : EvAX X H0 ρ (e :: es) n := fun σ H N r W tk kw Q => wa_of (pa_cons pe_w pa_w hs) ((h σ H N r).imp fun v H1 ⟨N1, s1, n1, r1, a1⟩ => t σ H1 N1 r1 W tk (fun C H' N' hC n2 r2 => kw C H' N' hC (n1.trans n2) r2) _)
theorem exc_args (G : GFn X.prog X.w X.K X.mg X.base x k R) (hr : Room k X.A) (ha : EvAX X H0 ρ (e :: es) n) (hg : Gl X x := by rfl) (hdb : (x == ("__debug__" : Str)) = false := by decide)
    (he : starEach (e :: es) X.env = (false, eval e X.env) :: starEach es X.env := by rfl) (hpl : (backTo pos (starEach es X.env)).any (·.1) = false := by rfl) : EvX X H0 ρ (.Call (.Name x p) (e :: es) [] pos) n := fun σ H N r W tk kw Q => by
  obtain ⟨f, fd, ps, F, hm, hk, hb⟩ := G
  exact we_of (pe_callS F hr hg hm hk hb (fun σ => passAt tk σ) pa_w hdb he hpl) (ha σ H N r W tk kw _)
theorem evx_get {m : M α} (h : EvM X H0 ρ e en m) (q : m = .ex n) : EvX X H0 ρ e n := by subst q; exact h
theorem evm_callA {mb : M β} {f : β → M α} (G : GFn X.prog X.w X.K X.mg X.base x k R) (hr : Room k X.A) (hx : ∀ n, mb = .ex n → EvAX X H0 ρ (e :: es) n) (t : ∀ r, mb = .ok r → EvM X H0 ρ (.Call (.Name x p) (e :: es) [] pos) en (f r)) (hg : Gl X x := by rfl) (hdb : (x == ("__debug__" : Str)) = false := by decide)
    (he : starEach (e :: es) X.env = (false, eval e X.env) :: starEach es X.env := by rfl) (hpl : (backTo pos (starEach es X.env)).any (·.1) = false := by rfl) : EvM X H0 ρ (.Call (.Name x p) (e :: es) [] pos) en (M.bind mb f) := by
  cases mb with
  | ok r => exact t r rfl
  | ex n => exact exc_args G hr (hx n rfl) hg hdb he hpl
  | far => trivial
theorem eom_callA {mb : M β} {f : β → M α} (G : GFn X.prog X.w X.K X.mg X.base x k R) (hr : Room k X.A) (hx : ∀ n, mb = .ex n → EvAX X H0 ρ (e :: es) n) (t : ∀ r, mb = .ok r → EoM X H0 ρ (.Call (.Name x p) (e :: es) [] pos) en (f r)) (hg : Gl X x := by rfl) (hdb : (x == ("__debug__" : Str)) = false := by decide)
    (he : starEach (e :: es) X.env = (false, eval e X.env) :: starEach es X.env := by rfl) (hpl : (backTo pos (starEach es X.env)).any (·.1) = false := by rfl) : EoM X H0 ρ (.Call (.Name x p) (e :: es) [] pos) en (M.bind mb f) := by
  cases mb with
  | ok r => exact t r rfl
  | ex n => exact exc_args G hr (hx n rfl) hg hdb he hpl
  | far => trivial
end
end B

namespace B
open PySem PySem.Spec PyProof.Rows L2 RZ
/-! ### zip of a text and a tuple -/
def ItzS (K : PySem.W.Frag) (z : Str) (b : Addr) : It :=
  ⟨fun i H => ∃ (ys : List V) (y : V), SqT K H b ys ∧ i < z.cps.size ∧ ys[i]? = some y,
    fun i H v H' => ∃ T y c, v = .ref T ∧ H T = none ∧ H' = upd H T (.tup [.str ⟨#[c]⟩, y]) ∧ z.cps[i]? = some c ∧ ∀ ys, SqT K H b ys → ys[i]? = some y,
    fun i H => ∃ ys : List V, SqT K H b ys ∧ i ≤ z.cps.size ∧ i ≤ ys.length ∧ (i = z.cps.size ∨ i = ys.length)⟩
theorem strIter_at {h h' : Heap} {I : Addr} {n : String} {x : Str} {t : Tok} {i : Nat} (st : h.IsStrIter I n x t i) (k : ∀ o, h.get? I = some o → h'.get? I = some o) : h'.IsStrIter I n x t i := by
  obtain ⟨o, ho, hc, hd⟩ := st
  exact ⟨o, k o ho, hc, hd⟩
theorem turn_zipS {P : Program} {w : World} {K : PySem.W.Frag} {elts : List Expr} {kk : Nat} {tpos : Pos} {z : Str} {t : Tok} {b Z TI TO i1 i2 : Addr} (D : ZipSep2 Z TI TO i1 i2 [i1] [i2, b]) (hbi : b ≠ i2) :
    Turn P w K (.Tuple elts kk tpos) (ItzS K z b) [Z, TI, TO, i1, i2] Z (fun i h => IsZip h Z TI TO .none ∧ IsPair h TI (.ref i1) (.ref i2) ∧ (∃ x y, IsPair h TO x y) ∧ h.IsStrIter i1 (strIterType z) z t i ∧ h.IsTupleIter i2 b i) where
  mem := by simp
  obj := fun i h st c hc => by
    obtain ⟨hz, hTI, ⟨x, y, hTO⟩, ⟨o1, e1, _, d1⟩, ⟨o2, e2, _, d2⟩⟩ := st
    have e' : c = Z ∨ c = TI ∨ c = TO ∨ c = i1 ∨ c = i2 := by simpa using hc
    rcases e' with q | q | q | q | q
    · rw [q]; exact ⟨_, hz, fun v q => nomatch q⟩
    · rw [q]; exact ⟨_, hTI, fun v q => nomatch q⟩
    · rw [q]; exact ⟨_, hTO, fun v q => nomatch q⟩
    · rw [q]; exact ⟨o1, e1, fun v q => by rw [d1] at q; cases q⟩
    · rw [q]; exact ⟨o2, e2, fun v q => by rw [d2] at q; cases q⟩
  keep := fun i h h' st k => by
    obtain ⟨hz, hTI, ⟨x, y, hTO⟩, h1, h2⟩ := st
    exact ⟨k Z (by simp) _ hz, k TI (by simp) _ hTI, ⟨x, y, k TO (by simp) _ hTO⟩, strIter_at h1 (fun o q => k i1 (by simp) o q), h2.at fun o q => k i2 (by simp) o q⟩
  item := by
    intro X hP hw hK hc i pins s σ H E I hf st hg
    subst hP hw hK
    obtain ⟨hz, hTI, ⟨x0, y0, hTO⟩, h1, h2⟩ := st
    obtain ⟨ys, y, hqy, hlt, hy⟩ := hg
    obtain ⟨its2, rv2, p2, _⟩ := I.tuple hqy
    obtain ⟨u2, hu2, ru2⟩ := rv2.get hy
    have hzl : Z < s.heap.objs.size := Heap.lt_size hz
    have hin : X.A.in1.handled = none := I.ok.hd hc
    refine wpAny_pyNext_zipD2_item D (Draws.text hin i1 z t) (Draws.tuple hin i2 b hbi its2.toArray) hz hTI hTO h1 ⟨h2, p2⟩ hlt (by have := (List.getElem?_eq_some_iff.mp hu2).1; simpa using this) fun x1 x2 h' tk y1 y2 z' TO' h1' h2' hT hsz hk => ?_
    obtain ⟨c, uu, hc1, rfl⟩ := y1
    have hx2 : x2 = u2 := by
      have : its2.toArray[i]? = some u2 := by simpa using hu2
      rw [this] at y2
      exact (Option.some.inj y2).symm
    subst hx2
    refine ⟨_, rfl, wpAny_letOwnedTupleGo_zip (s := { s with heap := h', toks := tk }) z' fun h'' z'' sb => ?_⟩
    have hT2 : h''.get? s.heap.objs.size = some { cls := .type "tuple", data := .seq #[.str ⟨#[c]⟩ uu, x2] } := (sb.2 _ (Nat.ne_of_gt hzl)).trans hT
    have new : ObjOk X.prog X.w (upd H s.heap.objs.size (.tup [.str ⟨#[c]⟩, y])) h'' s.heap.objs.size (.tup [.str ⟨#[c]⟩, y]) :=
      ⟨by show 2 ≤ sizeLine; decide, [.str ⟨#[c]⟩ uu, x2], .cons ⟨_, rfl⟩ (.cons ru2 .nil), ⟨_, hT2, rfl, _, rfl⟩⟩
    have I1 : Inv X pins σ (upd H s.heap.objs.size (.tup [.str ⟨#[c]⟩, y])) { s with heap := h'', toks := tk } :=
      I.turnedNew (t' := tk) (ch := [Z, TI, TO, i1, i2]) (fun c o hb q => (sb.2 c (fun q' => hb (by simp [q']))).trans (hk c o (fun q' => hb (by simp [q'])) (fun q' => hb (by simp [q'])) (fun q' => hb (by simp [q'])) (fun q' => hb (by simp [q'])) q)) hf (Nat.le_refl _) new
    refine ⟨.ref s.heap.objs.size, _, I1, rfl, ⟨_, y, c, rfl, I.hok.fresh (Nat.le_refl _), rfl, hc1, fun l hl => by rw [I.tuple_inj hl hqy]; exact hy⟩, ⟨z'', ?_, ⟨.str ⟨#[c]⟩ uu, x2, ?_⟩, ?_, ?_⟩, fun c hcm => ?_⟩
    · exact (sb.2 _ D.TIz).trans (hk _ _ D.TIz D.TITO D.TIi1 D.TIi2 hTI)
    · exact (sb.2 _ D.TOz).trans TO'
    · exact strIter_at h1' fun o q => (sb.2 _ (Ne.symm D.zi1)).trans q
    · exact h2'.1.at fun o q => (sb.2 _ (Ne.symm D.zi2)).trans q
    · have hlt : c < s.heap.objs.size := by
        have e' : c = Z ∨ c = TI ∨ c = TO ∨ c = i1 ∨ c = i2 := by simpa using hcm
        rcases e' with q | q | q | q | q
        · rw [q]; exact hzl
        · rw [q]; exact Heap.lt_size hTI
        · rw [q]; exact Heap.lt_size hTO
        · rw [q]; obtain ⟨_, e1, _⟩ := h1; exact Heap.lt_size e1
        · rw [q]; obtain ⟨_, e2, _⟩ := h2; exact Heap.lt_size e2
      rw [upd_ne (Nat.ne_of_lt hlt)]
      exact (hf c hcm).1
  done := by
    intro X hP hw hK hc i pins s σ H E I hf st hg
    subst hP hw hK
    obtain ⟨hz, hTI, ⟨x0, y0, hTO⟩, h1, h2⟩ := st
    obtain ⟨ys, hqy, le1, le2, hend⟩ := hg
    obtain ⟨its2, rv2, p2, _⟩ := I.tuple hqy
    have l2 := rv2.length
    have hin : X.A.in1.handled = none := I.ok.hd hc
    exact wpAny_pyNext_zipD2_end D (Draws.text hin i1 z t) (Draws.tuple hin i2 b hbi its2.toArray) hz hTI hTO h1 ⟨h2, p2⟩ le1 (by simp; omega) (by simp; omega) fun h' tk hk => ⟨rfl, I.turnedL (t' := tk) (ch := [Z, TI, TO, i1, i2]) (fun c o hb q =>
      hk c o (fun q' => hb (by simp [q'])) (fun q' => hb (by simp [q'])) (fun q' => hb (by simp [q'])) (fun q' => hb (by simp [q'])) q) hf⟩
  self := fun A i s Q E st h => wpAny_pyIter_zip st.1 h
def iZipS (K : PySem.W.Frag) (ta : TA) : TI := fun σ H R => ta σ H fun vs H1 => ∃ z b ys, vs = [.str z, .ref b] ∧ SqT K H1 b ys ∧ R (ItzS K z b) H1
theorem pi_zipS {X : Cx} {e e2 : Expr} {ta : TA} {p pos tpos : Pos} {elts : List Expr} {kk : Nat} (hg : Gl X "zip") (hm : X.mg "zip" = none) (ha : PA X [e, e2] ta)
    (hs : starEach [e, e2] X.env = (false, eval e X.env) :: starEach [e2] X.env := by rfl) (hpl : (backTo pos (starEach [e2] X.env)).any (·.1) = false := by rfl) :
    PI X (.Tuple elts kk tpos) (.Call (.Name "zip" p) [e, e2] [] pos) (iZipS X.K ta) := by
  refine ⟨fun pins s σ H R I h => ?_⟩
  refine Call_ (ld_blt I hg hm PyProof.Rows.boot_zip (PyProof.Rows.callWith_type1 (thn (ha.run pos pins s σ H _ I h) fun us s1 ⟨vs, H1, I1, r1, q1⟩ => ?_) hs hpl))
  obtain ⟨z, b, ys, ex, hqy, q⟩ := q1
  subst ex
  cases r1 with
  | cons r rr =>
    cases rr with
    | cons r' rr =>
      cases rr
      obtain ⟨t, rfl⟩ := r
      cases r'
      have fresh5 : ∀ c, c ∈ [s1.heap.objs.size + 4, s1.heap.objs.size + 2, s1.heap.objs.size + 3, s1.heap.objs.size, s1.heap.objs.size + 1] → FpOk X pins H1 c := fun c hcm => by
        have e' : c = s1.heap.objs.size + 4 ∨ c = s1.heap.objs.size + 2 ∨ c = s1.heap.objs.size + 3 ∨ c = s1.heap.objs.size ∨ c = s1.heap.objs.size + 1 := by simpa using hcm
        have hle : s1.heap.objs.size ≤ c := by
          rcases e' with z | z | z | z | z
          · rw [z]; exact Nat.le_add_right _ _
          · rw [z]; exact Nat.le_add_right _ _
          · rw [z]; exact Nat.le_add_right _ _
          · rw [z]; exact Nat.le_refl _
          · rw [z]; exact Nat.le_add_right _ _
        exact I1.fpOk hle (I1.hok.fresh hle)
      obtain ⟨its2, rv2, p2, _⟩ := I1.tuple hqy
      obtain ⟨o2, ho2, _⟩ := id p2
      have hb : b < s1.heap.objs.size := Heap.lt_size ho2
      refine zip_begins2 (begins_text z t) (begins_tuple b its2.toArray) trivial (show s1.heap.IsTuple b its2.toArray from p2) fun h' hz hTI hTO g1 g2 hsz hk => wpAny_pyIter_zip hz ?_
      have I2 : Inv X pins σ H1 { s1 with heap := h' } := I1.kept (t' := s1.toks) hk
      exact ⟨s1.heap.objs.size + 4, [s1.heap.objs.size + 4, s1.heap.objs.size + 2, s1.heap.objs.size + 3, s1.heap.objs.size, s1.heap.objs.size + 1], _, _, H1, rfl, I2,
        turn_zipS (zip_sep2 (fp1 := []) (fp2 := [b]) (fun _ m => nomatch m) (fun c m => by rw [List.mem_singleton.mp m]; exact hb)) (Nat.ne_of_lt (Nat.lt_succ_of_lt hb)), ⟨hz, hTI, ⟨_, _, hTO⟩, ⟨_, g1, rfl, rfl⟩, ⟨_, g2, rfl, rfl⟩⟩, fresh5, q⟩
section
variable {X : Cx} {H0 : Hp} {ρ ρ1 : Env'} {α β γ : Type} {a b c e : Expr} {p pos apos : Pos}
theorem it_zipS {eb : β → Dat} {l1 : List Nat} {l2 : List β} {elts : List Expr} {kk : Nat} {tpos : Pos} (ha : Ev X H0 ρ a (tx l1)) (hb : Ev X H0 ρ b (tpnd eb l2)) (hm : X.mg "zip" = none) (hg : Gl X "zip" := by rfl) (hs : starEach [a, b] X.env = (false, eval a X.env) :: starEach [b] X.env := by rfl) (hs2 : starEach [b] X.env = (false, eval b X.env) :: starEach [] X.env := by rfl) (hpl : (backTo pos (starEach [b] X.env)).any (·.1) = false := by rfl) :
    Iter X H0 ρ (.Tuple elts kk tpos) (.Call (.Name "zip" p) [a, b] [] pos) ((l1.zip l2).map (tup2 chd eb)) := ⟨_, pi_zipS hg hm pa_w hs hpl, fun σ H N r R k => (ea_cons ha (ea_cons hb ea_nil (hs := hs2)) (hs := hs) σ H N r).imp fun vs H' ⟨N', s, n, r', q⟩ => by
  cases q with
  | cons a1 t =>
    cases t with
    | cons a2 t2 =>
      cases t2
      have h1 := at_str a1
      subst h1
      obtain ⟨p2, v2, rfl, q3, q4⟩ := at_seq a2
      refine ⟨SX.S l1, p2, v2, rfl, sqt_same r'.sub q3, k _ H' N' n s r' fun H02 ρ2 σ2 H2 N2 i s02 s2 r2 => ?_⟩
      have g3 := sqt_same r2.sub (sqt_same s2 q3)
      have l2l : v2.length = l2.length := by rw [q4.length, List.length_map]
      have l1l : (SX.S l1).cps.size = l1.length := by show l1.toArray.size = _; simp
      refine ⟨fun hi => ?_, fun hi => ?_⟩
      · rw [List.length_map, List.length_zip] at hi
        have i1 : i < l1.length := by omega
        have i2 : i < l2.length := by omega
        obtain ⟨y1, y2, y3⟩ := (q4.mono s2).get (i := i) (d := eb l2[i]) (by rw [List.getElem?_map, List.getElem?_eq_getElem i2]; rfl)
        refine ⟨⟨v2, y1, g3, by omega, y2⟩, fun x H3 y => ?_⟩
        obtain ⟨T, yy, c, rfl, hT, rfl, f1, f2⟩ := y
        have e1 : c = l1[i] := by
          have : (SX.S l1).cps[i]? = l1[i]? := by show l1.toArray[i]? = _; simp
          rw [this, List.getElem?_eq_getElem i1] at f1
          exact (Option.some.inj f1).symm
        subst e1
        have e2 := f2 _ g3
        rw [y2] at e2
        cases e2
        obtain ⟨r3, n3⟩ := r2.new (o := .tup [.str ⟨#[l1[i]]⟩, y1]) hT
        refine ⟨_, tup2 chd eb (l1[i], l2[i]), n3, Same.of_none hT, r3, ?_, .tup (.inl (.inl upd_same)) (.cons (.str _) (.cons (y3.mono n3) .nil))⟩
        rw [List.getElem?_map]
        have hz : (l1.zip l2)[i]? = some (l1[i], l2[i]) := by
          rw [List.getElem?_zip_eq_some]
          exact ⟨List.getElem?_eq_getElem i1, List.getElem?_eq_getElem i2⟩
        rw [hz]
        rfl
      · rw [List.length_map, List.length_zip] at hi
        exact ⟨v2, g3, by omega, by omega, by omega⟩⟩
end
/-! ### all, any of a list of truths -/
theorem Ats.bls {K : PySem.W.Frag} {H : Hp} : ∀ {vs : List V} {bs : List Bool}, Ats K H vs (bs.map .bl) → vs = bs.map .bl
  | [], [], _ => rfl
  | _ :: _, n :: ns, .cons a t => by
    cases a
    rw [Ats.bls t]
    rfl
  | [], _ :: _, h => by cases h
  | _ :: _, [], h => by cases h
section
variable {X : Cx} {H0 : Hp} {ρ ρ1 : Env'} {a : Expr} {p pos : Pos}
theorem ev_allL {bs : List Bool} (ha : EvB X H0 ρ a (lstd Dat.bl bs)) (hc : X.calm = true) (hm : X.mg "all" = none) (hg : Gl X "all" := by rfl) (he : starEach [a] X.env = (false, eval a X.env) :: starEach [] X.env := by rfl) (hpl : (backTo pos (starEach [] X.env)).any (·.1) = false := by rfl) :
    Ev X H0 ρ (.Call (.Name "all" p) [a] [] pos) (.bl (bs.all id)) := ev_blt (cr_all hc) hm (by decide +kernel) (eab1 ha he) (fun vs σ H N Q r q g => by
    obtain ⟨v, e1, e2⟩ := ats_one q
    obtain ⟨pp, us, e3, h1, h2⟩ := at_lst e2
    rw [h2.bls] at h1
    exact ⟨pp, bs, by rw [e1, e3], h1, goes_self g r (.bl _)⟩) hg (by decide) (by decide) he hpl
theorem ev_anyL {bs : List Bool} (ha : EvB X H0 ρ a (lstd Dat.bl bs)) (hc : X.calm = true) (hm : X.mg "any" = none) (hg : Gl X "any" := by rfl) (he : starEach [a] X.env = (false, eval a X.env) :: starEach [] X.env := by rfl) (hpl : (backTo pos (starEach [] X.env)).any (·.1) = false := by rfl) :
    Ev X H0 ρ (.Call (.Name "any" p) [a] [] pos) (.bl (bs.any id)) := ev_blt (cr_any hc) hm (by decide +kernel) (eab1 ha he) (fun vs σ H N Q r q g => by
    obtain ⟨v, e1, e2⟩ := ats_one q
    obtain ⟨pp, us, e3, h1, h2⟩ := at_lst e2
    rw [h2.bls] at h1
    exact ⟨pp, bs, by rw [e1, e3], h1, goes_self g r (.bl _)⟩) hg (by decide) (by decide) he hpl
end
theorem eom_ev {X : Cx} {H0 : Hp} {ρ : Env'} {α : Type} {e : Expr} {en : α → Dat} {m : M α} (h : EoM X H0 ρ e en m) : EvM X H0 ρ e en m := by
  cases m with
  | ok v => exact EvO.ev h
  | ex n => exact h
  | far => trivial
end B

namespace B
open PySem PySem.Spec PyProof.Rows L2
/-! ### x in a list, a tuple of whole numbers, of texts -/
theorem inV_ints (i : Int) (l : List Int) : inV (.int i) (l.map V.int) = decide (i ∈ l) := by
  unfold inV
  induction l with
  | nil => rfl
  | cons a l ih =>
    rw [List.map_cons, List.any_cons, ih]
    show ((a == i) || decide (i ∈ l)) = _
    by_cases h : a = i
    · subst h; simp
    · have : (a == i) = false := by simpa using h
      rw [this, Bool.false_or]
      have e : i ∈ a :: l ↔ i ∈ l := by simp [Ne.symm h]
      exact decide_eq_decide.mpr e.symm
theorem inV_strs (s : List Nat) (l : List (List Nat)) : inV (.str (SX.S s)) ((l.map SX.S).map V.str) = decide (s ∈ l) := by
  unfold inV
  induction l with
  | nil => rfl
  | cons a l ih =>
    rw [List.map_cons, List.map_cons, List.any_cons, ih]
    show ((SX.S a == SX.S s) || decide (s ∈ l)) = _
    by_cases h : a = s
    · subst h; simp
    · have : (SX.S a == SX.S s) = false := by
        have h2 : ¬ SX.S a = SX.S s := fun z => h (SX.S_inj z)
        simpa using h2
      rw [this, Bool.false_or]
      have e : s ∈ a :: l ↔ s ∈ l := by simp [Ne.symm h]
      exact decide_eq_decide.mpr e.symm
theorem flat_ints (l : List Int) : (l.map V.int).all flatV = true := by
  rw [List.all_map]; exact List.all_eq_true.mpr fun _ _ => rfl
theorem flat_strs (l : List Str) : (l.map V.str).all flatV = true := by
  rw [List.all_map]; exact List.all_eq_true.mpr fun _ _ => rfl
section
variable {X : Cx} {H0 : Hp} {ρ ρ1 : Env'} {a b : Expr} {pos : Pos}
theorem et_inL_int {i : Int} {l : List Int} (ha : Ev X H0 ρ a (.int i)) (hb : EvB X H0 ρ b (lstd Dat.int l)) (hm : behindInMarks .In b = false := by rfl) : EvT X H0 ρ (.Compare a [.In] [b] pos) (decide (i ∈ l)) :=
  evt_bin (fun _ _ h k => pt_cmpR op_in_seq h k hm) ha.toB hb fun x y σ H N Q r p q g => by
    obtain ⟨pp, vs, e, h1, h2⟩ := at_lst q
    have e2 := Ats.ints h2
    have e3 := at_int p
    subst e e2 e3
    exact ⟨pp, _, rfl, .inl h1, rfl, flat_ints l, by rw [inV_ints]; exact goes_self g r (.bl _)⟩
theorem ev_inL_int {i : Int} {l : List Int} (ha : Ev X H0 ρ a (.int i)) (hb : EvB X H0 ρ b (lstd Dat.int l)) (hm : behindInMarks .In b = false := by rfl) : Ev X H0 ρ (.Compare a [.In] [b] pos) (.bl (decide (i ∈ l))) :=
  ev_bin (fun _ _ h k => pe_cmpR op_in_seq h k hm) ha.toB hb fun x y σ H N Q r p q g => by
    obtain ⟨pp, vs, e, h1, h2⟩ := at_lst q
    have e2 := Ats.ints h2
    have e3 := at_int p
    subst e e2 e3
    exact ⟨pp, _, rfl, .inl h1, rfl, flat_ints l, by rw [inV_ints]; exact goes_self g r (.bl _)⟩
theorem et_ninL_int {i : Int} {l : List Int} (ha : Ev X H0 ρ a (.int i)) (hb : EvB X H0 ρ b (lstd Dat.int l)) (hm : behindInMarks .NotIn b = false := by rfl) : EvT X H0 ρ (.Compare a [.NotIn] [b] pos) (!decide (i ∈ l)) :=
  evt_bin (fun _ _ h k => pt_cmpR op_notIn_seq h k hm) ha.toB hb fun x y σ H N Q r p q g => by
    obtain ⟨pp, vs, e, h1, h2⟩ := at_lst q
    have e2 := Ats.ints h2
    have e3 := at_int p
    subst e e2 e3
    exact ⟨pp, _, rfl, .inl h1, rfl, flat_ints l, by rw [inV_ints]; exact goes_self g r (.bl _)⟩
theorem ev_ninL_int {i : Int} {l : List Int} (ha : Ev X H0 ρ a (.int i)) (hb : EvB X H0 ρ b (lstd Dat.int l)) (hm : behindInMarks .NotIn b = false := by rfl) : Ev X H0 ρ (.Compare a [.NotIn] [b] pos) (.bl (!decide (i ∈ l))) :=
  ev_bin (fun _ _ h k => pe_cmpR op_notIn_seq h k hm) ha.toB hb fun x y σ H N Q r p q g => by
    obtain ⟨pp, vs, e, h1, h2⟩ := at_lst q
    have e2 := Ats.ints h2
    have e3 := at_int p
    subst e e2 e3
    exact ⟨pp, _, rfl, .inl h1, rfl, flat_ints l, by rw [inV_ints]; exact goes_self g r (.bl _)⟩
theorem et_inL_str {i : List Nat} {l : List (List Nat)} (ha : Ev X H0 ρ a (tx i)) (hb : EvB X H0 ρ b (lstd tx l)) (hm : behindInMarks .In b = false := by rfl) : EvT X H0 ρ (.Compare a [.In] [b] pos) (decide (i ∈ l)) :=
  evt_bin (fun _ _ h k => pt_cmpR op_in_seq h k hm) ha.toB hb fun x y σ H N Q r p q g => by
    obtain ⟨pp, vs, e, h1, h2⟩ := at_lst q
    rw [show l.map tx = (l.map SX.S).map Dat.str by rw [List.map_map]; rfl] at h2
    have e2 := ats_strs h2
    have e3 := at_str p
    subst e e2 e3
    exact ⟨pp, _, rfl, .inl h1, rfl, flat_strs (l.map SX.S), by rw [inV_strs]; exact goes_self g r (.bl _)⟩
theorem ev_inL_str {i : List Nat} {l : List (List Nat)} (ha : Ev X H0 ρ a (tx i)) (hb : EvB X H0 ρ b (lstd tx l)) (hm : behindInMarks .In b = false := by rfl) : Ev X H0 ρ (.Compare a [.In] [b] pos) (.bl (decide (i ∈ l))) :=
  ev_bin (fun _ _ h k => pe_cmpR op_in_seq h k hm) ha.toB hb fun x y σ H N Q r p q g => by
    obtain ⟨pp, vs, e, h1, h2⟩ := at_lst q
    rw [show l.map tx = (l.map SX.S).map Dat.str by rw [List.map_map]; rfl] at h2
    have e2 := ats_strs h2
    have e3 := at_str p
    subst e e2 e3
    exact ⟨pp, _, rfl, .inl h1, rfl, flat_strs (l.map SX.S), by rw [inV_strs]; exact goes_self g r (.bl _)⟩
theorem et_ninL_str {i : List Nat} {l : List (List Nat)} (ha : Ev X H0 ρ a (tx i)) (hb : EvB X H0 ρ b (lstd tx l)) (hm : behindInMarks .NotIn b = false := by rfl) : EvT X H0 ρ (.Compare a [.NotIn] [b] pos) (!decide (i ∈ l)) :=
  evt_bin (fun _ _ h k => pt_cmpR op_notIn_seq h k hm) ha.toB hb fun x y σ H N Q r p q g => by
    obtain ⟨pp, vs, e, h1, h2⟩ := at_lst q
    rw [show l.map tx = (l.map SX.S).map Dat.str by rw [List.map_map]; rfl] at h2
    have e2 := ats_strs h2
    have e3 := at_str p
    subst e e2 e3
    exact ⟨pp, _, rfl, .inl h1, rfl, flat_strs (l.map SX.S), by rw [inV_strs]; exact goes_self g r (.bl _)⟩
theorem ev_ninL_str {i : List Nat} {l : List (List Nat)} (ha : Ev X H0 ρ a (tx i)) (hb : EvB X H0 ρ b (lstd tx l)) (hm : behindInMarks .NotIn b = false := by rfl) : Ev X H0 ρ (.Compare a [.NotIn] [b] pos) (.bl (!decide (i ∈ l))) :=
  ev_bin (fun _ _ h k => pe_cmpR op_notIn_seq h k hm) ha.toB hb fun x y σ H N Q r p q g => by
    obtain ⟨pp, vs, e, h1, h2⟩ := at_lst q
    rw [show l.map tx = (l.map SX.S).map Dat.str by rw [List.map_map]; rfl] at h2
    have e2 := ats_strs h2
    have e3 := at_str p
    subst e e2 e3
    exact ⟨pp, _, rfl, .inl h1, rfl, flat_strs (l.map SX.S), by rw [inV_strs]; exact goes_self g r (.bl _)⟩
theorem et_inT_int {i : Int} {l : List Int} (ha : Ev X H0 ρ a (.int i)) (hb : EvB X H0 ρ b (tpnd Dat.int l)) (hm : behindInMarks .In b = false := by rfl) : EvT X H0 ρ (.Compare a [.In] [b] pos) (decide (i ∈ l)) :=
  evt_bin (fun _ _ h k => pt_cmpR op_in_seq h k hm) ha.toB hb fun x y σ H N Q r p q g => by
    obtain ⟨pp, vs, e, h1, h2⟩ := at_seq q
    have e2 := Ats.ints h2
    have e3 := at_int p
    subst e e2 e3
    exact ⟨pp, _, rfl, .inr h1, rfl, flat_ints l, by rw [inV_ints]; exact goes_self g r (.bl _)⟩
theorem ev_inT_int {i : Int} {l : List Int} (ha : Ev X H0 ρ a (.int i)) (hb : EvB X H0 ρ b (tpnd Dat.int l)) (hm : behindInMarks .In b = false := by rfl) : Ev X H0 ρ (.Compare a [.In] [b] pos) (.bl (decide (i ∈ l))) :=
  ev_bin (fun _ _ h k => pe_cmpR op_in_seq h k hm) ha.toB hb fun x y σ H N Q r p q g => by
    obtain ⟨pp, vs, e, h1, h2⟩ := at_seq q
    have e2 := Ats.ints h2
    have e3 := at_int p
    subst e e2 e3
    exact ⟨pp, _, rfl, .inr h1, rfl, flat_ints l, by rw [inV_ints]; exact goes_self g r (.bl _)⟩
theorem et_ninT_int {i : Int} {l : List Int} (ha : Ev X H0 ρ a (.int i)) (hb : EvB X H0 ρ b (tpnd Dat.int l)) (hm : behindInMarks .NotIn b = false := by rfl) : EvT X H0 ρ (.Compare a [.NotIn] [b] pos) (!decide (i ∈ l)) :=
  evt_bin (fun _ _ h k => pt_cmpR op_notIn_seq h k hm) ha.toB hb fun x y σ H N Q r p q g => by
    obtain ⟨pp, vs, e, h1, h2⟩ := at_seq q
    have e2 := Ats.ints h2
    have e3 := at_int p
    subst e e2 e3
    exact ⟨pp, _, rfl, .inr h1, rfl, flat_ints l, by rw [inV_ints]; exact goes_self g r (.bl _)⟩
theorem ev_ninT_int {i : Int} {l : List Int} (ha : Ev X H0 ρ a (.int i)) (hb : EvB X H0 ρ b (tpnd Dat.int l)) (hm : behindInMarks .NotIn b = false := by rfl) : Ev X H0 ρ (.Compare a [.NotIn] [b] pos) (.bl (!decide (i ∈ l))) :=
  ev_bin (fun _ _ h k => pe_cmpR op_notIn_seq h k hm) ha.toB hb fun x y σ H N Q r p q g => by
    obtain ⟨pp, vs, e, h1, h2⟩ := at_seq q
    have e2 := Ats.ints h2
    have e3 := at_int p
    subst e e2 e3
    exact ⟨pp, _, rfl, .inr h1, rfl, flat_ints l, by rw [inV_ints]; exact goes_self g r (.bl _)⟩
theorem et_inT_str {i : List Nat} {l : List (List Nat)} (ha : Ev X H0 ρ a (tx i)) (hb : EvB X H0 ρ b (tpnd tx l)) (hm : behindInMarks .In b = false := by rfl) : EvT X H0 ρ (.Compare a [.In] [b] pos) (decide (i ∈ l)) :=
  evt_bin (fun _ _ h k => pt_cmpR op_in_seq h k hm) ha.toB hb fun x y σ H N Q r p q g => by
    obtain ⟨pp, vs, e, h1, h2⟩ := at_seq q
    rw [show l.map tx = (l.map SX.S).map Dat.str by rw [List.map_map]; rfl] at h2
    have e2 := ats_strs h2
    have e3 := at_str p
    subst e e2 e3
    exact ⟨pp, _, rfl, .inr h1, rfl, flat_strs (l.map SX.S), by rw [inV_strs]; exact goes_self g r (.bl _)⟩
theorem ev_inT_str {i : List Nat} {l : List (List Nat)} (ha : Ev X H0 ρ a (tx i)) (hb : EvB X H0 ρ b (tpnd tx l)) (hm : behindInMarks .In b = false := by rfl) : Ev X H0 ρ (.Compare a [.In] [b] pos) (.bl (decide (i ∈ l))) :=
  ev_bin (fun _ _ h k => pe_cmpR op_in_seq h k hm) ha.toB hb fun x y σ H N Q r p q g => by
    obtain ⟨pp, vs, e, h1, h2⟩ := at_seq q
    rw [show l.map tx = (l.map SX.S).map Dat.str by rw [List.map_map]; rfl] at h2
    have e2 := ats_strs h2
    have e3 := at_str p
    subst e e2 e3
    exact ⟨pp, _, rfl, .inr h1, rfl, flat_strs (l.map SX.S), by rw [inV_strs]; exact goes_self g r (.bl _)⟩
theorem et_ninT_str {i : List Nat} {l : List (List Nat)} (ha : Ev X H0 ρ a (tx i)) (hb : EvB X H0 ρ b (tpnd tx l)) (hm : behindInMarks .NotIn b = false := by rfl) : EvT X H0 ρ (.Compare a [.NotIn] [b] pos) (!decide (i ∈ l)) :=
  evt_bin (fun _ _ h k => pt_cmpR op_notIn_seq h k hm) ha.toB hb fun x y σ H N Q r p q g => by
    obtain ⟨pp, vs, e, h1, h2⟩ := at_seq q
    rw [show l.map tx = (l.map SX.S).map Dat.str by rw [List.map_map]; rfl] at h2
    have e2 := ats_strs h2
    have e3 := at_str p
    subst e e2 e3
    exact ⟨pp, _, rfl, .inr h1, rfl, flat_strs (l.map SX.S), by rw [inV_strs]; exact goes_self g r (.bl _)⟩
theorem ev_ninT_str {i : List Nat} {l : List (List Nat)} (ha : Ev X H0 ρ a (tx i)) (hb : EvB X H0 ρ b (tpnd tx l)) (hm : behindInMarks .NotIn b = false := by rfl) : Ev X H0 ρ (.Compare a [.NotIn] [b] pos) (.bl (!decide (i ∈ l))) :=
  ev_bin (fun _ _ h k => pe_cmpR op_notIn_seq h k hm) ha.toB hb fun x y σ H N Q r p q g => by
    obtain ⟨pp, vs, e, h1, h2⟩ := at_seq q
    rw [show l.map tx = (l.map SX.S).map Dat.str by rw [List.map_map]; rfl] at h2
    have e2 := ats_strs h2
    have e3 := at_str p
    subst e e2 e3
    exact ⟨pp, _, rfl, .inr h1, rfl, flat_strs (l.map SX.S), by rw [inV_strs]; exact goes_self g r (.bl _)⟩
end
end B

namespace B
open PySem PySem.Spec PyProof.Rows L2
/-! ### list of data of any kind -/
def lstOf : Dat → Option (List Dat)
  | .lst ds => some ds
  | _ => none
theorem lstOf_ok {d : Dat} {l : List Dat} (h : lstOf d = some l) : d = .lst l := by
  cases d <;> simp [lstOf] at h
  rw [h]
theorem flats_all : ∀ l : List Dat, flats l = l.all flat
  | [] => rfl
  | a :: l => by
    show (flat a && flats l) = (flat a && l.all flat)
    rw [flats_all l]
section
variable {X : Cx} {H0 : Hp} {ρ : Env'} {a : Expr} {p pos : Pos} {d : Dat} {l : List Dat}
theorem eo_listD (ha : EvB X H0 ρ a d) (h : lstOf d = some l) (f : (l.all flat) = true) (hm : X.mg "list" = none) (hg : Gl X "list" := by rfl) (he : starEach [a] X.env = (false, eval a X.env) :: starEach [] X.env := by rfl) (hpl : (backTo pos (starEach [] X.env)).any (·.1) = false := by rfl) :
    EvO X H0 ρ (.Call (.Name "list" p) [a] [] pos) (lstd idd l) := by
  have e := lstOf_ok h
  subst e
  show EvO X H0 ρ _ (.lst (l.map idd))
  rw [show l.map idd = l from List.map_id' l]
  exact eo_list ha (by rw [flats_all]; exact f) hm hg he hpl
end
end B

namespace B
open PySem PySem.Spec PyProof.Rows L2
/-! ### len(set(text)), the text's signs unlike -/
def sgn (c : Nat) : Str := ⟨#[c]⟩
theorem sgn_inj {a b : Nat} (h : sgn a = sgn b) : a = b := by
  have : [a] = [b] := congrArg (fun y : Str => y.cps.toList) h
  exact (List.cons.inj this).1
/-- the texts of the first signs -/
def met (l : List Nat) (i : Nat) : Str → Bool := fun k => (l.take i).any fun c => sgn c == k
theorem met_succ {l : List Nat} (nd : l.Nodup) {i : Nat} (h : i < l.length) : met l i (sgn l[i]) = false ∧ ∀ k, (met l i k || decide (k = sgn l[i])) = met l (i + 1) k := by
  have e : l.take (i + 1) = l.take i ++ [l[i]] := by rw [List.take_succ, List.getElem?_eq_getElem h]; rfl
  refine ⟨?_, fun k => ?_⟩
  · unfold met
    refine List.any_eq_false.mpr fun c hc q => ?_
    have q := sgn_inj (eq_of_beq q)
    obtain ⟨j, hj, ej⟩ := List.getElem_of_mem hc
    have hji : j < i := by rw [List.length_take] at hj; omega
    rw [List.getElem_take] at ej
    exact absurd (ej.trans q) (List.pairwise_iff_getElem.mp nd j i (Nat.lt_trans hji h) h hji)
  · unfold met
    rw [e, List.any_append]
    congr 1
    rw [List.any_cons, List.any_nil, Bool.or_false]
    by_cases c : k = sgn l[i]
    · rw [decide_eq_true c, c]; exact (beq_self_eq_true _).symm
    · rw [decide_eq_false c]; exact (beq_eq_false_iff_ne.mpr fun q => c q.symm).symm
section
variable {prog : Program} {w : World} {A : Around} {R : Result → Shared → Prop} {I : Addr} {fp wr : List Addr} {G : Array GenState → Array GenState → Prop} {n : Nat} {P : Nat → Value → Prop} {St : Nat → Shared → Prop}
theorem loop_signs (W : WalksS prog w A.in1 I fp wr G n P St) (S : Addr) (hSf : S ∉ fp) (l : List Nat) (nd : l.Nodup) (hl : l.length = n) (hb : n + 1 < scanBound) (hval : ∀ i (h : i < l.length) v, P i v → ∃ t, v = .str (sgn l[i]) t) :
    ∀ (k i : Nat) (s : Shared), n - i = k → i ≤ n → St i s → s.heap.SetOf (PySem.strKind prog w) S (met l i) i →
      (∀ s', Moved (S :: wr) G s s' → s'.heap.SetOf (PySem.strKind prog w) S (met l n) n → R (.ok (.ret .none)) s') → codeAny (model prog w) A (.builtin "set.update.loop" ⟨[.ref S, .ref I], []⟩) R s
  | 0, i, s, hk, hi, hst, hS, hR => by
    have hin : i = n := by omega
    subst hin
    have hSw : S ∉ wr := fun h => hSf (W.sub _ h)
    refine codeAny_builtin PyProof.Rows.F.entry_set_update_loop ?_
    rw [Around.under_plainId PyProof.Rows.F.plain_set_update_loop _]
    show wpAny _ A.in1 (pyNext (.ref I) >>= _) _ _ s
    refine wpAny_bind (W.done s _ _ hst fun s' hm => ?_)
    show wpAny _ A.in1 (ret Value.none) _ _ s'
    obtain ⟨o, es, ep, t, ho, rest⟩ := hS
    exact wpAny_pure (hR s' (hm.mono fun b hb => List.mem_cons_of_mem _ hb) ⟨o, es, ep, t, hm.heap S _ hSw ho, rest⟩)
  | k + 1, i, s, hk, hi, hst, hS, hR => by
    have hlt : i < n := by omega
    have hll : i < l.length := by omega
    have hSw : S ∉ wr := fun h => hSf (W.sub _ h)
    have hsub : ∀ b ∈ wr, b ∈ S :: wr := fun b hb => List.mem_cons_of_mem _ hb
    refine codeAny_builtin PyProof.Rows.F.entry_set_update_loop ?_
    rw [Around.under_plainId PyProof.Rows.F.plain_set_update_loop _]
    show wpAny _ A.in1 (pyNext (.ref I) >>= _) _ _ s
    refine wpAny_bind (W.item i s _ _ hlt hst fun v s' hP hst' hm => ?_)
    obtain ⟨t, rfl⟩ := hval i hll v hP
    obtain ⟨g1, g2⟩ := met_succ nd hll
    have hS' : s'.heap.SetOf (PySem.strKind prog w) S (met l i) i := by
      obtain ⟨o, es, ep, tb, ho, rest⟩ := hS
      exact ⟨o, es, ep, tb, hm.heap S _ hSw ho, rest⟩
    show wpAny _ A.in1 (holding [Value.str (sgn l[i]) t] (setAdd S (.str (sgn l[i]) t)) >>= _) _ _ s'
    refine wpAny_bind (wpAny_holding ?_)
    unfold setAdd
    refine wpAny_holding ?_
    refine wpAny_bind ((PySem.strKind prog w).pyHash (k := sgn l[i]) (strKind_is _ _ _ _) ?_)
    refine wpAny_setAddHashed_of (knd := PySem.strKind prog w) (s := { s' with toks := s'.toks + 1 }) (strKind_is _ _ _ _) rfl hS' (by omega) fun h' hsb hS2 => ?_
    have hSi : h'.SetOf (PySem.strKind prog w) S (met l (i + 1)) (i + 1) := SetOf_congr hS2 (fun k' => g2 k') (by rw [g1]; rfl)
    refine wpAny_pure ⟨plainId_quiet PyProof.Rows.F.plain_set_update_loop _, loop_signs W S hSf l nd hl hb hval k (i + 1) _ (by omega) hlt (W.frame _ s' _ _ hst' (Nat.le_succ _) fun b hb o e => ?_) hSi fun s'' hm'' hS'' => ?_⟩
    · rw [hsb.2 b (fun h : b = S => hSf (by rw [← h]; exact hb))]; exact e
    · refine hR s'' (Moved.trans W.gtrans ((hm.mono hsub).then_heap (Nat.le_succ _) fun b o hb e => ?_) hm'') hS''
      rw [hsb.2 b (fun h : b = S => hb (by rw [h]; exact List.mem_cons_self))]; exact e
end
section
variable {prog : Program} {w : World} {A : Around} {E : Value → Shared → Prop} {s : Shared}
set_option maxHeartbeats 8000000 in
theorem call_set_text {l : List Nat} {tk0 : Tok} {Q : Value → Shared → Prop} (hh : A.handled = none) (nd : l.Nodup) (hb : l.length + 1 < scanBound)
    (h : ∀ (h' : Heap) (tk : Nat), h'.SetOf (PySem.strKind prog w) s.heap.objs.size (met l l.length) l.length → (∀ b o, b < s.heap.objs.size → s.heap.get? b = some o → h'.get? b = some o) → Q (.ref s.heap.objs.size) { s with heap := h', toks := tk }) :
    wpAny (model prog w) A (call (.type "set") [.str (SX.S l) tk0]) Q E s := by
  obtain ⟨c, tl, hmro⟩ := PySem.F.called_set.mro
  have hmade := PySem.F.called_set.made
  have hsub := PySem.F.called_set.sub
  refine wpAny_call (codeAny_of_tree ?_)
  show wpAny _ _ (callAny (.type "set") _) _ _ _
  refine wpAny_pure ⟨Code.quiet_builtin _ (by decide +kernel), codeAny_builtin PySem.F.entry_type_call ?_⟩
  rw [Around.under_plain (weight_type_call_type "set" [.str (SX.S l) tk0] []) rfl]
  have h1 := PySem.F.called_set.notType
  have h2 := PySem.F.called_set.canCreate
  have hct := PySem.F.typeCall_set_1 (.str (SX.S l) tk0)
  repeat (any_goals (first | assumption | wp_step))
  refine codeAny_mono (code_set_new_1 (.str (SX.S l) tk0) (E := E) (Q₁ := fun obj s₁ => ∃ led : Bool, obj = .ref s.heap.objs.size ∧ s₁ = { s with heap := s.heap.push { cls := .type "set", dict := none, data := .set #[] 0 (.fresh 0 0 led) } }) fun led => ⟨led, rfl, rfl⟩) fun r s₁ hr => ?_
  cases r with
  | error e => exact hr
  | ok fl =>
    cases fl with
    | ret obj =>
      obtain ⟨led, rfl, rfl⟩ := hr
      have hS : (s.heap.push { cls := .type "set", dict := none, data := .set #[] 0 (.fresh 0 0 led) }).get? s.heap.objs.size = some { cls := .type "set", dict := none, data := .set #[] 0 (.fresh 0 0 led) } := Heap.get?_push_size _ rfl
      have hT : Shared.TypeIs { s with heap := s.heap.push { cls := .type "set", dict := none, data := .set #[] 0 (.fresh 0 0 led) } } (.ref s.heap.objs.size) "set" := ⟨_, hS, rfl⟩
      have hli := PySem.F.called_set.init.lookup
      have hbi := PySem.F.called_set.init.bind (.ref s.heap.objs.size)
      repeat (any_goals (first | assumption | wp_step))
      refine codeAny_mono (codeAny_call_builtin (R := wants (fun r s₂ => r = .none ∧ ∃ h' tk, s₂ = { s with heap := h', toks := tk } ∧ h'.SetOf (PySem.strKind prog w) s.heap.objs.size (met l l.length) l.length ∧ (∀ b o, b < s.heap.objs.size → s.heap.get? b = some o → h'.get? b = some o)) E) PySem.F.called_set.init.plain PySem.F.entry_set_init (check_set_init_1 hT ?_)) fun r₂ s₂ hr₂ => ?_
      · have hss := PySem.F.sub_str_set
        have hsf := PySem.F.sub_str_frozenset
        have hne : (Value.type "str" == Value.type "dict") = false := by decide
        unfold Builtin.«set.__init__» noKeywords Builtin.Frozenset.updateFrom
        generalize hPI : pyIter = PI
        wp_walk
        subst hPI
        refine wpAny_pyIter_str fun o St hW hst => ?_
        refine wpAny_bind (wpAny_runValue ?_)
        have hh3 : A.in1.in1.in1.handled = none := by simp [hh]
        have hsz : (SX.S l).cps.size = l.length := by simp [SX.S]
        refine loop_signs (hW _ hh3).toS s.heap.objs.size ?_ l nd hsz.symm (by rw [hsz]; exact hb) (fun i hi v hv => ?_) _ 0 _ rfl (Nat.zero_le _) hst ?_ fun s' hm hS' => ?_
        · rw [Heap.size_push, List.mem_singleton]
          exact Nat.ne_of_lt (Nat.lt_succ_self _)
        · obtain ⟨c, u, e1, e2⟩ := hv
          refine ⟨u, ?_⟩
          have e3 : l[i]? = some c := by
            have : (SX.S l).cps = l.toArray := rfl
            rw [this] at e1
            simpa using e1
          rw [List.getElem?_eq_getElem hi] at e3
          rw [e2, Option.some.inj e3]
          rfl
        · have hget := Heap.get?_push_of_some o hS
          exact SetOf_congr ((setObjOf_fresh (knd := PySem.strKind prog w) led).setOf hget (by unfold scanBound; omega)) (fun _ => rfl) rfl
        · obtain ⟨h', g', d', tk', os'⟩ := s'
          have eg : g' = s.gens := hm.gens
          have ed : d' = s.drawn := hm.drawn
          have eo : os' = s.os := hm.os
          subst eg; subst ed; subst eo
          rw [hsz] at hS'
          show wpAny _ _ _ _ _ _
          refine wpAny_pure ?_
          show wpAny _ _ (ret Value.none) _ _ _
          refine wpAny_pure ⟨rfl, h', tk', rfl, hS', fun b o2 hb2 e => ?_⟩
          refine hm.heap b o2 ?_ (Heap.get?_push_of_some _ (Heap.get?_push_of_some _ e))
          rw [Heap.size_push]
          simp only [List.mem_cons, List.not_mem_nil, or_false, not_or]
          exact ⟨Nat.ne_of_lt hb2, Nat.ne_of_lt (Nat.lt_succ_of_lt hb2)⟩
      · cases r₂ with
        | error e => exact hr₂
        | ok fl₂ =>
          cases fl₂ with
          | ret r =>
            obtain ⟨rfl, h', tk, rfl, hS', hk'⟩ := hr₂
            repeat (any_goals (first | assumption | wp_step))
            exact h _ _ hS' hk'
          | _ => exact hr₂.elim
    | _ => exact hr.elim
end
def tLenSetT (ta : TE) : TE := fun σ H Q => ta σ H fun x H1 => ∃ l : List Nat, x = .str (SX.S l) ∧ l.Nodup ∧ l.length ≤ 1000 ∧ Q (.int ((l.length : Nat) : Int)) H1
section
variable {X : Cx}
theorem pe_lenSetT {a : Expr} {ta : TE} {p p2 q pos : Pos} (hc : X.calm = true) (hg : Gl X "len") (hm : X.mg "len" = none) (hg2 : Gl X "set") (hm2 : X.mg "set" = none) (ha : PE X a ta) (na : starEach [a] X.env = (false, eval a X.env) :: starEach [] X.env := by rfl) : PE X (.Call (.Name "len" p) [.Call (.Name "set" p2) [a] [] q] [] pos) (tLenSetT ta) := by
  refine ⟨fun pins s σ H Q I h => ?_⟩
  refine Call_ (ld_blt I hg hm boot_len ?_)
  refine PyProof.Rows.callWith_builtin1 (PyProof.Rows.args_cons ?_ rfl) rfl rfl
  refine Call_ (ld_blt I hg2 hm2 boot_set ?_)
  refine PyProof.Rows.callWith_type1 (PyProof.Rows.args_cons (thn (ha.run pins s σ H _ I h) fun v s1 ⟨x, H1, I1, r1, q1⟩ => PyProof.Rows.args_nil ?_) na) na rfl
  obtain ⟨l, rfl, nd, hl, q1⟩ := q1
  obtain ⟨tk0, rfl⟩ := r1
  refine call_set_text (I1.ok.hd hc) nd (by unfold scanBound; omega) fun h' tk hS hk => ?_
  refine PyProof.Rows.args_nil ?_
  obtain ⟨o, es, ep, t, ho, hex, hd, _, _, _, hf, hn⟩ := hS
  have I2 : Inv X pins σ H1 { s1 with heap := h', toks := tk } := I1.kept fun b o e => hk b o (Heap.lt_size e) e
  exact call_len_set ho hex hd hf (by rw [hn]; omega) ⟨.int ((l.length : Nat) : Int), H1, I2.tok _, ⟨_, by rw [hn]⟩, q1⟩
theorem ev_lenSet {H0 : Hp} {ρ : Env'} {a : Expr} {p p2 q pos : Pos} {l : List Nat} (ha : Ev X H0 ρ a (tx l)) (nd : l.Nodup) (hl : l.length ≤ 1000) (hc : X.calm = true) (hm : X.mg "len" = none) (hm2 : X.mg "set" = none) (hg : Gl X "len" := by rfl) (hg2 : Gl X "set" := by rfl) (na : starEach [a] X.env = (false, eval a X.env) :: starEach [] X.env := by rfl) : Ev X H0 ρ (.Call (.Name "len" p) [.Call (.Name "set" p2) [a] [] q] [] pos) (.int ((l.length : Nat) : Int)) := fun σ H N r =>
  we_of (pe_lenSetT hc hg hm hg2 hm2 pe_w na) ((ha σ H N r).imp fun v H1 ⟨N1, s1, n1, r1, a1⟩ => ⟨l, at_str a1, nd, hl, N1, s1, n1, r1, .int _⟩)
end
end B

namespace B
open PySem PySem.Spec PyProof.Rows L2
theorem ats_imm {K : PySem.W.Frag} {H : Hp} {α : Type} {en : α → Dat} (f : ∀ a, flat (en a) = true) : ∀ {l : List α} {vs : List V}, Ats K H vs (l.map en) → Ats K (Imm H) vs (l.map en)
  | [], _, .nil => .nil
  | _ :: _, _, .cons a t => .cons (a.imm (f _)) (ats_imm f t)
/-! ### list + list, both of them data -/
theorem meets_addL (l : Addr) (items : Array Value) (n : Nat) (sl : Array (Option Value)) (b : Addr) (items2 : Array Value) (n2 : Nat) (sl2 : Array (Option Value)) (hc0 : items.size + items2.size ≤ sizeLine) :
    PySem.Meets (Builtin.«list.__add__» ⟨[.ref l, .ref b], []⟩) (fun _ R s => s.heap.get? l = some { cls := .type "list", dict := none, data := .seq items n, slots := sl } ∧ s.heap.get? b = some { cls := .type "list", dict := none, data := .seq items2 n2, slots := sl2 } ∧ R (.ok (.ret (Value.ref s.heap.objs.size))) { s with heap := s.heap.push { cls := Value.type "list", data := Data.seq (items ++ items2) }, toks := s.toks }) :=
  .of_wp fun prog w A R s h => by
    obtain ⟨hp, g, d, tk, os⟩ := s; obtain ⟨hl, hb, h⟩ := h; have f1 := PySem.AutoSeq1.idx_int; have f2 := PySem.AutoSeq1.sub_tuple_tuple; have f3 := PySem.AutoSeq1.sub_list_list; have f4 := PySem.AutoSeq1.sub_tuple_list; have f5 := PySem.AutoSeq1.sub_list_tuple
    wp_walk using PySem.AutoSeq1.wpAny_loadPart' hl, PySem.AutoSeq1.wpAny_loadPart' hb
    exact ⟨_, rfl, h⟩
def rCatL (K : PySem.W.Frag) : R2 := fun x y H Q => ∃ l b xs zs, x = .ref l ∧ y = .ref b ∧ SqL K H l xs ∧ SqL K H b zs ∧ xs.length + zs.length ≤ sizeLine ∧ ∀ p, H p = none → Q (.ref p) (upd H p (.lst (xs ++ zs)))
theorem op_catL {X : Cx} : OpR X (binaryOp .Add) (rCatL X.K) := by
  intro pins s σ H x y v u Q I rx ry h
  obtain ⟨l, b, xs, zs, rfl, rfl, hH, hB, hz, q⟩ := h
  cases rx
  cases ry
  obtain ⟨its, r, ⟨⟨c1, d1, t1, sl1⟩, n, e, h1, h2, h3⟩, _⟩ := I.list hH
  obtain ⟨its2, r2, ⟨⟨c2, d2, t2, sl2⟩, n2, e2, k1, k2, k3⟩, _⟩ := I.list hB
  simp only at h1 h2 h3 k1 k2 k3
  subst h1 h2 h3 k1 k2 k3
  have z1 := r.length
  have z2 := r2.length
  have hsz : its.toArray.size + its2.toArray.size ≤ sizeLine := by rw [List.size_toArray, List.size_toArray]; omega
  refine concat_meets ⟨_, e, rfl⟩ ⟨_, e2, rfl⟩ PySem.noFill_list_add PySem.seq_list_add F.slot_list_add F.entry_list_add (F.args_list_add_2 _ _) (meets_addL l its.toArray n sl1 b its2.toArray n2 sl2 hsz) ⟨e, e2, ?_⟩
  have ea : its.toArray ++ its2.toArray = (its ++ its2).toArray := by simp
  rw [ea]
  exact ⟨.ref _, _, I.lnew (t' := s.toks) (r.append r2) (by rw [List.length_append]; omega), rfl, q _ I.fresh⟩
section
variable {X : Cx} {H0 : Hp} {ρ : Env'} {a b : Expr} {pos : Pos} {α : Type} {en : α → Dat}
theorem eo_catBm {l m : List α} (f : ∀ x, flat (en x) = true) (ha : EvB X H0 ρ a (lstd en l)) (hb : EvB X H0 ρ b (lstd en m)) (h : catOk l m = true) : EvO X H0 ρ (.BinOp a .Add b pos) (lstd en (l ++ m)) := fun σ H N rp =>
  we_of (pe_op op_catL pe_w pe_w) ((ha σ H N rp).imp fun v H1 ⟨N1, s1, n1, r1, a1⟩ => (hb σ H1 N1 r1).imp fun w H2 ⟨N2, s2, n2, r2, a2⟩ => by
    obtain ⟨p1, vs, e1, h1, h2⟩ := at_lst (a1.mono s2)
    obtain ⟨p2, ws, e2, h3, h4⟩ := at_lst a2
    have hz := catOk_ok h
    refine ⟨p1, p2, vs, ws, e1, e2, h1, h3, by rw [h2.length, h4.length, List.length_map, List.length_map]; exact hz, fun q hq => ?_⟩
    obtain ⟨N3, n3, r3, i3⟩ := r2.keep
    obtain ⟨r5, n5⟩ := eo_new (o := .lst (vs ++ ws)) r3 hq
    refine ⟨N3, q, rfl, (s1.trans s2).free hq, (s1.trans s2).trans (Same.of_none hq), (n1.trans n2).trans n3, r5, n5, vs ++ ws, upd_same, ?_⟩
    show Ats X.K N3 (vs ++ ws) ((l ++ m).map en)
    rw [List.map_append]
    exact ((ats_imm f h2).mono i3).append ((ats_imm f h4).mono i3))
theorem eo_catIm {l m : List α} (ha : Ev X H0 ρ a (lstd en l)) (hb : Ev X H0 ρ b (lstd en m)) (h : catOk l m = true) : EvO X H0 ρ (.BinOp a .Add b pos) (lstd en (l ++ m)) := fun σ H N rp =>
  we_of (pe_op op_catL pe_w pe_w) ((ha σ H N rp).imp fun v H1 ⟨N1, s1, n1, r1, a1⟩ => (hb σ H1 N1 r1).imp fun w H2 ⟨N2, s2, n2, r2, a2⟩ => by
    obtain ⟨p1, vs, e1, h1, h2⟩ := at_lst (a1.mono n2)
    obtain ⟨p2, ws, e2, h3, h4⟩ := at_lst a2
    have hz := catOk_ok h
    refine ⟨p1, p2, vs, ws, e1, e2, sql_same r2.sub h1, sql_same r2.sub h3, by rw [h2.length, h4.length, List.length_map, List.length_map]; exact hz, fun q hq => ?_⟩
    obtain ⟨r5, n5⟩ := eo_new (o := .lst (vs ++ ws)) r2 hq
    refine ⟨N2, q, rfl, (s1.trans s2).free hq, (s1.trans s2).trans (Same.of_none hq), n1.trans n2, r5, n5, vs ++ ws, upd_same, ?_⟩
    show Ats X.K N2 (vs ++ ws) ((l ++ m).map en)
    rw [List.map_append]
    exact h2.append h4)
end
end B

namespace B
open PySem PySem.Spec PyProof.Rows L2
/-! ### dicts whose keys are tuples of ints -/
section
variable {α : Type}
def tget (l : List (List Int × α)) (k : List Int) : Option α := (l.find? fun p => decide (p.1 = k)).map (·.2)
def tput (l : List (List Int × α)) (k : List Int) (v : α) : List (List Int × α) := if (l.any fun p => decide (p.1 = k)) = true then l.map (fun p => if p.1 = k then (p.1, v) else p) else l ++ [(k, v)]
abbrev tky (k : List Int) : List Key := k.map Sum.inl
abbrev tixd (k : List Int) : Dat := .tix (tky k)
abbrev tks (l : List (List Int × α)) : List (List Key) := l.map fun p => tky p.1
abbrev ditd (e : α → Dat) (l : List (List Int × α)) : Dat := .dit (tks l) (l.map fun p => e p.2)
theorem tkeq {a b : List Int} : tky a = tky b ↔ a = b := ⟨fun h => (List.map_inj_right (fun x y q => Sum.inl.inj q)).mp h, fun h => by rw [h]⟩
theorem tget_cons {p : List Int × α} {l : List (List Int × α)} {k : List Int} : tget (p :: l) k = if p.1 = k then some p.2 else tget l k := by
  unfold tget
  rw [List.find?_cons]
  by_cases h : p.1 = k <;> simp [h]
theorem tky_v (k : List Int) : (tky k).map kV = k.map V.int := by
  rw [tky, List.map_map]
  rfl
theorem ats_tget {K : PySem.W.Frag} {H : Hp} {e : α → Dat} : ∀ {l : List (List Int × α)} {vs : List V}, Ats K H vs (l.map fun p => e p.2) → ∀ k : List Int, (∀ v, tget l k = some v → ∃ w, valV ((tks l).zip vs) (tky k) = some w ∧ At K H w (e v)) ∧ (tget l k = none → valV ((tks l).zip vs) (tky k) = none)
  | [], vs, h, k => by
    cases h
    exact ⟨fun v q => (by cases q), fun _ => rfl⟩
  | p :: l, vs, h, k => by
    cases h with
    | @cons v _ vs _ ha ht =>
      obtain ⟨i1, i2⟩ := ats_tget ht k
      rw [tget_cons]
      show (∀ w, _ → ∃ u, valV ((tky p.1, v) :: ((tks l).zip vs)) (tky k) = some u ∧ _) ∧ (_ → valV ((tky p.1, v) :: ((tks l).zip vs)) (tky k) = none)
      by_cases e1 : p.1 = k
      · rw [if_pos e1]
        refine ⟨fun w q => ?_, fun q => (by cases q)⟩
        cases q
        exact ⟨_, valV_pos (tkeq.mpr e1), ha⟩
      · rw [if_neg e1]
        have n1 : ¬ tky p.1 = tky k := fun z => e1 (tkeq.mp z)
        refine ⟨fun w q => ?_, fun q => ?_⟩
        · rw [valV_neg n1]; exact i1 w q
        · rw [valV_neg n1]; exact i2 q
theorem ats_tany {K : PySem.W.Frag} {H : Hp} {e : α → Dat} : ∀ {l : List (List Int × α)} {vs : List V}, Ats K H vs (l.map fun p => e p.2) → ∀ k : List Int, (((tks l).zip vs).any fun kv => decide (kv.1 = tky k)) = l.any fun p => decide (p.1 = k)
  | [], vs, h, k => by cases h; rfl
  | p :: l, vs, h, k => by
    cases h with
    | @cons v _ vs _ ha ht =>
      show (decide (tky p.1 = tky k) || _) = (decide (p.1 = k) || _)
      exact congr (congrArg or (decide_eq_decide.mpr tkeq)) (ats_tany ht k)
theorem ats_trepl {K : PySem.W.Frag} {H : Hp} {e : α → Dat} {k : List Int} {w : V} {v : α} (hw : At K H w (e v)) : ∀ {l : List (List Int × α)} {vs : List V}, Ats K H vs (l.map fun p => e p.2) →
    ∃ us, (((tks l).zip vs).map fun kv => if kv.1 = tky k then (kv.1, w) else kv) = (tks (l.map fun p => if p.1 = k then (p.1, v) else p)).zip us ∧ Ats K H us ((l.map fun p => if p.1 = k then (p.1, v) else p).map fun p => e p.2)
  | [], vs, h => by cases h; exact ⟨[], rfl, .nil⟩
  | p :: l, vs, h => by
    cases h with
    | @cons u _ vs _ ha ht =>
      obtain ⟨us, i1, i2⟩ := ats_trepl hw ht
      by_cases e1 : p.1 = k
      · refine ⟨w :: us, ?_, ?_⟩
        · show (if tky p.1 = tky k then (tky p.1, w) else (tky p.1, u)) :: _ = (tky (if p.1 = k then (p.1, v) else p).1, w) :: _
          rw [if_pos (tkeq.mpr e1), if_pos e1]
          exact congrArg _ i1
        · show Ats K H (w :: us) (e (if p.1 = k then (p.1, v) else p).2 :: _)
          rw [if_pos e1]
          exact .cons hw i2
      · refine ⟨u :: us, ?_, ?_⟩
        · show (if tky p.1 = tky k then (tky p.1, w) else (tky p.1, u)) :: _ = (tky (if p.1 = k then (p.1, v) else p).1, u) :: _
          rw [if_neg (fun z => e1 (tkeq.mp z)), if_neg e1]
          exact congrArg _ i1
        · show Ats K H (u :: us) (e (if p.1 = k then (p.1, v) else p).2 :: _)
          rw [if_neg e1]
          exact .cons ha i2
theorem ats_tput {K : PySem.W.Frag} {H : Hp} {e : α → Dat} {l : List (List Int × α)} {vs : List V} (h : Ats K H vs (l.map fun p => e p.2)) (k : List Int) {w : V} {v : α} (hw : At K H w (e v)) :
    ∃ us, putK ((tks l).zip vs) (tky k) w = (tks (tput l k v)).zip us ∧ Ats K H us ((tput l k v).map fun p => e p.2) := by
  unfold putK tput
  rw [ats_tany h k]
  split
  · exact ats_trepl hw h
  · refine ⟨vs ++ [w], ?_, ?_⟩
    · show _ = ((l ++ [(k, v)]).map fun p => tky p.1).zip (vs ++ [w])
      rw [List.map_append, List.zip_append (by rw [List.length_map, h.length, List.length_map])]
      rfl
    · rw [List.map_append]
      exact h.append (.cons hw .nil)
theorem tks_len (l : List (List Int × α)) (e : α → Dat) : (tks l).length = (l.map fun p => e p.2).length := by rw [List.length_map, List.length_map]
end
theorem inj_tix : ∀ a b : List Int, tixd a = tixd b → a = b := fun _ _ h => tkeq.mp (Dat.tix.inj h)
theorem at_tix {K : PySem.W.Frag} {H : Hp} {v : V} {k : List Key} (h : At K H v (.tix k)) : ∃ p, v = .ref p ∧ H p = some (.tup (k.map kV)) := by cases h with | tix a => exact ⟨_, rfl, a⟩
theorem at_dit {K : PySem.W.Frag} {H : Hp} {v : V} {ks : List (List Key)} {ds : List Dat} (h : At K H v (.dit ks ds)) : ∃ p vs, v = .ref p ∧ Rd H p (.dT (ks.zip vs)) ∧ ks.length = ds.length ∧ Ats K H vs ds := by cases h with | dit a l t => exact ⟨_, _, rfl, a, l, t⟩
theorem at_tix_tup {K : PySem.W.Frag} {H : Hp} {v : V} {k : List Int} (h : At K H v (tixd k)) : At K H v (tpnd .int k) := by
  obtain ⟨p, rfl, e⟩ := at_tix h
  rw [tky_v] at e
  exact .tup (.inl (.inl e)) (Ats.ofInts k)
section
variable {X : Cx} {H0 : Hp} {ρ ρ0 ρ1 ρ2 : Env'} {α β γ S S' L R : Type} {a b c e call : Expr} {es : List Expr} {st : Stmt} {sts rest body : List Stmt} {d d1 d2 : Dat} {ds : List Dat} {p pos : Pos} {o o1 : Outc} {x n : Str} {k : Nat} {D : γ → Outc} {m : M α} {en : α → Dat} {l : List (List Int × α)} {key : List Int}
/-- a key read as a tuple -/
theorem ev_tixT {k : List Int} (h : Ev X H0 ρ e (tixd k)) : Ev X H0 ρ e (tpnd .int k) := fun σ H N r => (h σ H N r).imp fun v H' ⟨N', s, n, r', q⟩ => ⟨N', s, n, r', at_tix_tup q⟩
/-- tuple(list of ints): a key -/
theorem ev_tupleI {l : List Int} (ha : EvB X H0 ρ a (lstd .int l)) (hm : X.mg "tuple" = none) (hg : Gl X "tuple" := by rfl) (na : starEach [a] X.env = (false, eval a X.env) :: starEach [] X.env := by rfl) : Ev X H0 ρ (.Call (.Name "tuple" p) [a] [] pos) (tixd l) := fun σ H N rp =>
  we_of (pe_tupleOf hg hm pe_w na) ((ha σ H N rp).imp fun v H1 ⟨N1, s1, n1, r1, a1⟩ => by
    obtain ⟨q, us, e3, h1, h2⟩ := at_lst a1
    have h3 := Ats.ints h2
    subst h3
    refine .inl ⟨q, _, e3, h1, fun q2 hq => ?_⟩
    obtain ⟨r3, n3⟩ := r1.new (o := .tup (l.map V.int)) hq
    exact ⟨_, s1.trans (Same.of_none hq), n1.trans n3, r3, .tix (by rw [tky_v]; exact upd_same)⟩)
/-- {} -/
theorem eo_dit0 : EvO X H0 ρ (.Dict [] [] pos) (ditd en []) := fun σ H N rp => we_of pe_dnewT (fun q hq => by
  obtain ⟨r3, n3⟩ := eo_new (o := .dT []) rp hq
  exact ⟨N, q, rfl, hq, Same.of_none hq, Same.refl _, r3, n3, [], upd_same, rfl, .nil⟩)
theorem tget_of {K : PySem.W.Frag} {H : Hp} {q : Addr} {vs : List V} {y : V} (hr : Rd H q (.dT ((tks l).zip vs))) (ha : Ats K H vs (l.map fun p => en p.2)) (hy : At K H y (tixd key)) : ∃ o, DGet H q y o ∧ (∀ v, tget l key = some v → ∃ w, o = some w ∧ At K H w (en v)) ∧ (tget l key = none → o = none) := by
  obtain ⟨b, rfl, hb⟩ := at_tix hy
  obtain ⟨i1, i2⟩ := ats_tget ha key
  exact ⟨_, .inr ⟨_, tky key, b, hr, rfl, hb, rfl⟩, i1, i2⟩
theorem ev_tgetm {v : α} (ha : Ev X H0 ρ a (ditd en l)) (hb : Ev X H0 ρ b (tixd key)) (h : tget l key = some v) (hu : X.A.units + 1 < cLine) (hs : NoSl b := by exact fun _ _ => rfl) : Ev X H0 ρ (.Subscript a b pos) (en v) := fun σ H N rp =>
  we_of (pe_dget hu pe_w pe_w hs) ((ha σ H N rp).imp fun u H1 ⟨N1, s1, n1, r1, a1⟩ => (hb σ H1 N1 r1).imp fun y H2 ⟨N2, s2, n2, r2, a2⟩ => by
    obtain ⟨q, vs, e1, h1, hl, h2⟩ := at_dit (a1.mono n2)
    obtain ⟨o, g1, g2, _⟩ := tget_of h1 h2 a2
    obtain ⟨w, rfl, g3⟩ := g2 v h
    refine ⟨q, w, e1, ?_, N2, s1.trans s2, n1.trans n2, r2, g3⟩
    rcases g1 with ⟨kvs, k', q1, q2⟩ | ⟨kvs, k', b', q1, q2, q3, q4⟩
    · exact .inl ⟨kvs, k', rd_mono r2.sub q1, q2⟩
    · exact .inr ⟨kvs, k', b', rd_mono r2.sub q1, q2, r2.sub _ _ q3, q4⟩)
theorem eb_tgetm {v : α} (f : flat (en v) = true) (ha : EvB X H0 ρ a (ditd en l)) (hb : Ev X H0 ρ b (tixd key)) (h : tget l key = some v) (hu : X.A.units + 1 < cLine) (hs : NoSl b := by exact fun _ _ => rfl) : Ev X H0 ρ (.Subscript a b pos) (en v) := EvB.flat (fun σ H N rp =>
  we_of (pe_dget hu pe_w pe_w hs) ((ha σ H N rp).imp fun u H1 ⟨N1, s1, n1, r1, a1⟩ => (hb σ H1 N1 r1).imp fun y H2 ⟨N2, s2, n2, r2, a2⟩ => by
    obtain ⟨q, vs, e1, h1, hl, h2⟩ := at_dit (a1.mono s2)
    obtain ⟨o, g1, g2, _⟩ := tget_of h1 h2 (a2.mono r2.sub)
    obtain ⟨w, rfl, g3⟩ := g2 v h
    exact ⟨q, w, e1, g1, N2, s1.trans s2, n1.trans n2, r2, g3⟩)) f
section
variable (i : Nat) {y : Str} {p1 : Pos}
theorem ev_tget2w {u : α} (hb : Ev X H0 ρ b (tixd key)) (hc : Ev X H0 ρ c (en u)) (hu : X.A.units + 1 < cLine) {apos : Pos} (hm : M2 X (.Name y p1) "get" apos b c pos := by exact ⟨rfl, rfl, rfl, rfl⟩) (hN : X.N[i]? = some y := by rfl) (hv : Vis X.env.scope y := by first | exact Or.inl rfl | exact Or.inr (Or.inl rfl) | exact Or.inr (Or.inr rfl))
    (hd : (y == ("__debug__" : Str)) = false := by decide) (hcd : (y == ("__classdict__" : Str)) = false := by decide) (hi : ρ[i]? = some (.ow (ditd en l)) := by rfl) : Ev X H0 ρ (.Call (.Attribute (.Name y p1) "get" apos) [b, c] [] pos) (en ((tget l key).getD u)) := fun σ H N rp => by
  obtain ⟨q, g1, g2, g3, vs, g4, gl, g5⟩ := rp.ow i _ hi
  refine we_of (pe_dget2 hu (pv i hN hv hd hcd) pe_w pe_w hm) ⟨_, g1, q, rfl, .inr ⟨_, .inl g4⟩, (hb σ H N rp).imp fun w H2 ⟨N2, s2, n2, r2, a2⟩ => (hc σ H2 N2 r2).imp fun z H3 ⟨N3, s3, n3, r3, a3⟩ => ?_⟩
  obtain ⟨q', f1, f2, f3, us, f4, fl, f5⟩ := r3.ow i _ hi
  rw [g1] at f1
  cases f1
  obtain ⟨bb, rfl, hbb⟩ := at_tix (a2.mono n3)
  obtain ⟨i1, i2⟩ := ats_tget f5 key
  refine ⟨_, .inr ⟨_, tky key, bb, .inl f4, rfl, r3.sub _ _ hbb, rfl⟩, N3, s2.trans s3, n2.trans n3, r3, ?_⟩
  cases e : tget l key with
  | none => rw [i2 e]; exact a3
  | some v =>
    obtain ⟨z, z1, z2⟩ := i1 v e
    rw [z1]; exact z2
theorem xm_tput {v : α} {f : List (List Int × α) → M γ} {p2 : Pos} (he : Ev X H0 ρ e (en v)) (hb : Ev X H0 ρ b (tixd key)) (hz : lenLt l = true) (hu : X.A.units + 1 < cLine) (tt : ∀ l, ExM X H0 (ρ.set i (.ow (ditd en l))) k rest D (f l)) (hN : X.N[i]? = some y := by rfl) (hv : Vis X.env.scope y := by first | exact Or.inl rfl | exact Or.inr (Or.inl rfl) | exact Or.inr (Or.inr rfl))
    (hd : (y == ("__debug__" : Str)) = false := by decide) (hcd : (y == ("__classdict__" : Str)) = false := by decide) (hi : ρ[i]? = some (.ow (ditd en l)) := by rfl)
    (hs : swapsWith e (some (.Subscript (.Name y p1) b p2)) pos.line X.env = pure false := by rfl) : ExM X H0 ρ k (.Assign [.Subscript (.Name y p1) b p2] e pos :: rest) D (M.lt (tput l key v) f) := by
  refine xm_then (ρ1 := ρ.set i (.ow (ditd en (tput l key v)))) (fun Dd σ H N r kk => ?_) (tt (tput l key v))
  refine ws_of (ps_dput hu (pv i hN hv hd hcd) pe_w pe_w hs) ((he σ H N r).imp fun w H1 ⟨N1, s1, n1, r1, a1⟩ => ?_)
  obtain ⟨q, g1, g2, g3, vs, g4, gl, g5⟩ := r1.ow i _ hi
  refine ⟨_, g1, (hb σ H1 N1 r1).imp fun z H2 ⟨N2, s2, n2, r2, a2⟩ => ?_⟩
  obtain ⟨q', f1, f2, f3, us, f4, fl, f5⟩ := r2.ow i _ hi
  rw [g1] at f1
  cases f1
  obtain ⟨bb, rfl, hbb⟩ := at_tix a2
  obtain ⟨us2, u1, u2⟩ := ats_tput f5 key (a1.mono n2)
  refine ⟨q, _, rfl, .inr ⟨_, tky key, bb, f4, rfl, r2.sub _ _ hbb, ?_, rfl⟩, kk σ _ N2 (n1.trans n2) ?_⟩
  · rw [List.length_zip, f5.length, List.length_map, List.length_map, Nat.min_self]; exact lenLt_ok hz
  · exact r2.write hi g1 ⟨us2, by rw [upd_same, u1], tks_len _ _, u2⟩
end
end
/-! ### for key in d -/
theorem rds_lockT {N : Hp} {d : Addr} {kvs : List (List Key × V)} {od : Obj} (h : N d = some (.dT kvs)) : RdS N (upd N d (.frz od (.dT kvs))) := fun a => by
  have go : ∀ u, Rd N a u → (∀ o u', u ≠ .frz o u') → Rd (upd N d (.frz od (.dT kvs))) a u := fun u r hu => by
    by_cases q : a = d
    · subst q
      rcases r with r | ⟨o, r⟩
      · rw [h] at r; cases r; exact .inr ⟨od, upd_same⟩
      · rw [h] at r; cases r
    · rcases r with r | ⟨o, r⟩
      · exact .inl (by rw [upd_ne q]; exact r)
      · exact .inr ⟨o, by rw [upd_ne q]; exact r⟩
  exact ⟨fun xs r => go _ r (fun o u' z => by cases z), fun xs r => go _ r (fun o u' z => by cases z), fun ks r => go _ r (fun o u' z => by cases z), fun C dx fs r => by rw [upd_ne (fun q => by rw [q, h] at r; cases r)]; exact r, fun ks r => go _ r (fun o u' z => by cases z), fun xs r => by rw [upd_ne (fun q => by rw [q, h] at r; cases r)]; exact r⟩
theorem rds_unlockT {N : Hp} {d : Addr} {kvs : List (List Key × V)} {od : Obj} (h : N d = some (.frz od (.dT kvs))) : RdS N (upd N d (.dT kvs)) := fun a => by
  have go : ∀ u, Rd N a u → (∀ o u', u ≠ .frz o u') → Rd (upd N d (.dT kvs)) a u := fun u r hu => by
    by_cases q : a = d
    · subst q
      rcases r with r | ⟨o, r⟩
      · rw [h] at r; cases r; exact absurd rfl (hu _ _)
      · rw [h] at r; cases r; exact .inl upd_same
    · rcases r with r | ⟨o, r⟩
      · exact .inl (by rw [upd_ne q]; exact r)
      · exact .inr ⟨o, by rw [upd_ne q]; exact r⟩
  exact ⟨fun xs r => go _ r (fun o u' z => by cases z), fun xs r => go _ r (fun o u' z => by cases z), fun ks r => go _ r (fun o u' z => by cases z), fun C dx fs r => by rw [upd_ne (fun q => by rw [q, h] at r; cases r)]; exact r, fun ks r => go _ r (fun o u' z => by cases z), fun xs r => by rw [upd_ne (fun q => by rw [q, h] at r; cases r)]; exact r⟩
theorem Rep.lockT {K : PySem.W.Frag} {H0 H N : Hp} {ρ : Env'} {σ : L2.St} {d : Addr} {kvs : List (List Key × V)} (r : Rep K H0 ρ σ H N) (h : N d = some (.dT kvs)) (od : Obj) : Rep K H0 ρ σ (upd H d (.frz od (.dT kvs))) (upd N d (.frz od (.dT kvs))) := by
  have h0 : H0 d = none := r.fresh d _ h True.intro
  have ne : ∀ {a : Addr} {u : HO}, H0 a = some u → a ≠ d := fun {a u} e q => by rw [q, h0] at e; cases e
  have rd := rds_lockT (od := od) h
  refine ⟨r.tab.upd (r.sub _ _ h).e, fun a u e => by rw [upd_ne (ne e)]; exact r.old a u e, fun a u e => ?_, fun a u e => by rw [upd_ne (ne (imm_eq e))]; exact r.imm a u e, fun a u e m => ?_, r.len, fun j x e => ?_, r.ol, fun j x e => ?_, r.rf, r.apart⟩
  · by_cases q : a = d
    · subst q; rw [upd_same] at e ⊢; first | exact e | exact Cg.of e
    · rw [upd_ne q] at e ⊢; exact r.sub a u e
  · by_cases q : a = d
    · subst q; rw [upd_same] at e; cases e; exact m.elim
    · rw [upd_ne q] at e; exact r.fresh a u e m
  · obtain ⟨v, a1, a2⟩ := r.im j x e
    exact ⟨v, a1, a2.rds rd⟩
  · obtain ⟨p, a1, a2, a3, a4⟩ := r.ow j x e
    have q : p ≠ d := fun q => by rw [q, h] at a3; cases a3
    exact ⟨p, a1, a2, by rw [upd_ne q]; exact a3, a4.rds rd (upd_ne q)⟩
theorem Rep.unlockT {K : PySem.W.Frag} {H0 H N : Hp} {ρ : Env'} {σ : L2.St} {d : Addr} {kvs : List (List Key × V)} {od : Obj} (r : Rep K H0 ρ σ H N) (h : N d = some (.frz od (.dT kvs))) (h0 : H0 d = none) : Rep K H0 ρ σ (upd H d (.dT kvs)) (upd N d (.dT kvs)) := by
  have ne : ∀ {a : Addr} {u : HO}, H0 a = some u → a ≠ d := fun {a u} e q => by rw [q, h0] at e; cases e
  have rd := rds_unlockT h
  refine ⟨r.tab.upd (r.sub _ _ h).e, fun a u e => by rw [upd_ne (ne e)]; exact r.old a u e, fun a u e => ?_, fun a u e => by rw [upd_ne (ne (imm_eq e))]; exact r.imm a u e, fun a u e m => ?_, r.len, fun j x e => ?_, r.ol, fun j x e => ?_, r.rf, r.apart⟩
  · by_cases q : a = d
    · subst q; rw [upd_same] at e ⊢; first | exact e | exact Cg.of e
    · rw [upd_ne q] at e ⊢; exact r.sub a u e
  · by_cases q : a = d
    · subst q; exact h0
    · rw [upd_ne q] at e; exact r.fresh a u e m
  · obtain ⟨v, a1, a2⟩ := r.im j x e
    exact ⟨v, a1, a2.rds rd⟩
  · obtain ⟨p, a1, a2, a3, a4⟩ := r.ow j x e
    have q : p ≠ d := fun q => by rw [q, h] at a3; cases a3
    exact ⟨p, a1, a2, by rw [upd_ne q]; exact a3, a4.rds rd (upd_ne q)⟩
section
variable {α β γ S : Type} {X : Cx} {H0 : Hp} {k : Nat} {en : α → Dat} {ρ ρ1 : Env'} {st : Stmt} {sts rest body : List Stmt} {b c e : Expr} {p1 pos : Pos} {o : Outc} {D : γ → Outc}
theorem wlk_t {K : PySem.W.Frag} {G N1 : Hp} {d : Addr} {od : Obj} {vs : List V} {l : List (List Int × α)} (hd : N1 d = some (.frz od (.dT ((tks l).zip vs))) ∨ G d = some (.frz od (.dT ((tks l).zip vs)))) (hl : vs.length = l.length) : Walks K G (Itkt d od ((tks l).zip vs)) N1 (l.map fun p => tixd p.1) := fun H02 ρ2 σ2 H2 N2 i s02 s2 r2 => by
  have h2 : H2 d = some (.frz od (.dT ((tks l).zip vs))) := by
    rcases hd with hd | hd
    · exact (r2.sub _ _ (s2 _ _ hd).e).e
    · exact (r2.old _ _ (s02 _ _ hd).e).e
  have hz : ((tks l).zip vs).length = l.length := by rw [List.length_zip, hl, List.length_map, Nat.min_self]
  refine ⟨fun hi => ⟨⟨h2, by rw [hz]; rwa [List.length_map] at hi⟩, fun x H3 y => ?_⟩, fun hi => ⟨h2, by rw [hz]; rw [List.length_map] at hi; omega⟩⟩
  obtain ⟨rfl, kk, v, q, e1, rfl, e2⟩ := y
  rw [List.length_map] at hi
  have e3 : kk = tky l[i].1 := by
    have e4 := e1
    rw [List.getElem?_zip_eq_some] at e4
    have e5 := e4.1
    rw [List.getElem?_map, List.getElem?_eq_getElem hi] at e5
    exact (Option.some.inj e5).symm
  subst e3
  obtain ⟨N3, n3, r3, kp⟩ := r2.keep
  refine ⟨N3, tixd l[i].1, n3, Same.refl _, r3, by rw [List.getElem?_map, List.getElem?_eq_getElem hi]; rfl, .tix (kp _ _ (imm_of e2 fun z => z))⟩
/-- for key in d, d a thing of ours that no one changes any more -/
theorem sx_forT {t : Expr} {bd : Dat → Env' → Env'} {ok : Dat → Prop} {l : List (List Int × α)} (i : Nat) {y : Str} (hp : PassesOwn (model X.prog X.w) X.A X.env X.xe) (hc : X.calm = true) (hi : ρ[i]? = some (.im (ditd en l))) (hg : Tgt X H0 t ok bd) (hok : ∀ d ∈ (l.map fun p => tixd p.1), ok d) (h : ForT X H0 bd body (l.map fun p => tixd p.1) ρ (.nx ρ1))
    (hN : X.N[i]? = some y := by rfl) (hv : Vis X.env.scope y := by first | exact Or.inl rfl | exact Or.inr (Or.inl rfl) | exact Or.inr (Or.inr rfl)) (hd : (y == ("__debug__" : Str)) = false := by decide) (hcd : (y == ("__classdict__" : Str)) = false := by decide)
    (hs : ∀ x, foldedSetIterable (.Name y p1) X.env x = pure x := by intro _; rfl) : ExS X H0 ρ (.For t (.Name y p1) body [] pos) (.nx ρ1) := fun DD σ H N r c => by
  obtain ⟨v, e1, a⟩ := r.im i _ hi
  obtain ⟨d, vs, rfl, rd, hl, ak⟩ := at_dit a
  have hk : vs.length = l.length := by rw [ak.length, List.length_map]
  rcases rd with e2 | ⟨od, e2⟩
  · refine ws_of (ps_lock ps_w) ⟨d, _, (r.sub _ _ e2).e, True.intro, fun od => ?_⟩
    have h0 : H0 d = none := r.fresh d _ e2 True.intro
    have rl := r.lockT e2 od
    refine ws_for (H0 := H0) (ρ := ρ) hp hc (pi_keys (pv i hN hv hd hcd)) (fun R kk => ⟨_, e1, d, od, rfl, .inr ⟨_, upd_same, kk _ _ _ (Same.refl _) (Same.refl _) rl (wlk_t (.inl upd_same) hk)⟩⟩) hg hok h (fun σ' H' N' s r' => ⟨(r'.sub _ _ (s _ _ upd_same).e).e, ?_⟩) hs
    have nd := (s _ _ upd_same).e
    refine c σ' _ _ (fun a u e => ?_) (r'.unlockT nd h0)
    by_cases q : a = d
    · subst q; rw [e2] at e; rw [upd_same]; first | exact e | exact Cg.of e
    · rw [upd_ne q]; exact s a u (by rw [upd_ne q]; exact e)
  · exact ws_for (H0 := H0) (ρ := ρ) hp hc (pi_keys (pv i hN hv hd hcd)) (fun R kk => ⟨_, e1, d, od, rfl, .inr ⟨_, r.sub _ _ e2, kk _ _ _ (Same.refl _) (Same.refl _) r (wlk_t (.inl e2) hk)⟩⟩) hg hok h c hs
theorem xm_forT {eS : S → Env'} {l : List (List Int × α)} {s0 : S} {t : Expr} {bd : Dat → Env' → Env'} {ok : Dat → Prop} {f : List Int → S → M S} {fk : S → M γ} (i : Nat) {y : Str} (hp : PassesOwn (model X.prog X.w) X.A X.env X.xe) (hc : X.calm = true) (hi : ρ[i]? = some (.im (ditd en l))) (hg : Tgt X H0 t ok bd) (hok : ∀ d ∈ (l.map fun p => tixd p.1), ok d) (h0 : ρ = eS s0) (hb : ∀ x s, ExM X H0 (bd (tixd x) (eS s)) k body (fun s => .nx (eS s)) (f x s)) (tt : ∀ s, ExM X H0 (eS s) k rest D (fk s))
    (hN : X.N[i]? = some y := by rfl) (hv : Vis X.env.scope y := by first | exact Or.inl rfl | exact Or.inr (Or.inl rfl) | exact Or.inr (Or.inr rfl)) (hd : (y == ("__debug__" : Str)) = false := by decide) (hcd : (y == ("__classdict__" : Str)) = false := by decide)
    (hs : ∀ x, foldedSetIterable (.Name y p1) X.env x = pure x := by intro _; rfl) : ExM X H0 ρ k (.For t (.Name y p1) body [] pos :: rest) D (M.bind (M.nox (forM f (l.map (·.1)) s0)) fk) := by
  have h := forM_T hb (l.map (·.1)) s0
  subst h0
  rw [List.map_map] at h
  cases e : forM f (l.map (·.1)) s0 with
  | ok s =>
    rw [e] at h
    exact xm_then (sx_forT i hp hc hi hg hok h hN hv hd hcd hs) (tt s)
  | ex n => trivial
  | far => trivial
/-! ### a return that walks a dict within -/
/-- the keys of a dict with tuple keys that is walked -/
def KeysTAt (K : PySem.W.Frag) (en : α → Dat) (l : List (List Int × α)) (G : Hp) (dd : Addr) : Prop := At K G (.ref dd) (ditd en l) ∧ ∃ od vs, G dd = some (.frz od (.dT ((tks l).zip vs))) ∧ vs.length = l.length
theorem KeysTAt.mono {K : PySem.W.Frag} {l : List (List Int × α)} {G G' : Hp} {dd : Addr} (s : Same G G') (h : KeysTAt K en l G dd) : KeysTAt K en l G' dd := by
  obtain ⟨a, od, vs, b, c⟩ := h
  exact ⟨a.mono s, od, vs, (s _ _ b).e, c⟩
theorem it_keysT {l : List (List Int × α)} {t : Expr} {dd : Addr} (j : Nat) {y : Str} (h : ρ[j]? = some (.rf dd)) (f : KeysTAt X.K en l H0 dd) (hN : X.N[j]? = some y := by rfl) (hv : Vis X.env.scope y := by first | exact Or.inl rfl | exact Or.inr (Or.inl rfl) | exact Or.inr (Or.inr rfl)) (hd : (y == ("__debug__" : Str)) = false := by decide) (hcd : (y == ("__classdict__" : Str)) = false := by decide) : Iter X H0 ρ t (.Name y pos) ((l.map (·.1)).map tixd) := by
  obtain ⟨_, od, kvs, h1, h2⟩ := f
  rw [List.map_map]
  exact ⟨_, pi_keys (pv j hN hv hd hcd), fun σ H N r R kk => ⟨_, r.rf j dd h, dd, od, rfl, .inr ⟨_, r.old _ _ h1, kk _ _ _ (Same.refl _) (Same.refl _) r (wlk_t (.inr h1) h2)⟩⟩⟩
theorem eb_keysT {l : List (List Int × α)} {dd : Addr} (j : Nat) {y : Str} (h : ρ[j]? = some (.rf dd)) (f : KeysTAt X.K en l H0 dd) (hN : X.N[j]? = some y := by rfl) (hv : Vis X.env.scope y := by first | exact Or.inl rfl | exact Or.inr (Or.inl rfl) | exact Or.inr (Or.inr rfl)) (hd : (y == ("__debug__" : Str)) = false := by decide) (hcd : (y == ("__classdict__" : Str)) = false := by decide) : EvB X H0 ρ (.Name y pos) (ditd en l) := fun σ H N r =>
  we_of (pv j hN hv hd hcd) ⟨_, r.rf j dd h, N, Same.refl _, Same.refl _, r, f.1.mono r.old⟩
theorem Rep.raise {K : PySem.W.Frag} {H0 H N : Hp} {ρ : Env'} {σ : L2.St} {d : Addr} {o : HO} (hn : noOl ρ) (r : Rep K H0 ρ σ H N) (h0 : H0 d = none) (hN : N d = some o) (nm : ¬ Mut (some o)) : Rep K (upd H0 d o) ρ σ H N := by
  refine ⟨r.tab, fun a u e => ?_, r.sub, fun a u e => ?_, fun a u e m => ?_, r.len, r.im, fun j x e => (hn j x e).elim, fun j x e => ?_, r.rf, r.apart⟩
  · by_cases q : a = d
    · subst q; rw [upd_same] at e; cases e; exact r.sub _ _ hN
    · rw [upd_ne q] at e; exact r.old a u e
  · have e1 := imm_eq e
    have e2 := imm_not e
    by_cases q : a = d
    · subst q; rw [upd_same] at e1; cases e1; exact Cg.of hN
    · rw [upd_ne q] at e1; exact r.imm a u (imm_of e1 e2)
  · have q : a ≠ d := fun q => by rw [q, hN] at e; cases e; exact nm m
    rw [upd_ne q]
    exact r.fresh a u e m
  · obtain ⟨p, a1, a2, a3, a4⟩ := r.ow j x e
    exact ⟨p, a1, by rw [upd_ne (fun q => by rw [q, hN] at a3; cases a3)]; exact a2, a3, a4⟩
theorem ret_unlock {K : PySem.W.Frag} {H0 H : Hp} {v : V} {d : Dat} {a : Addr} {o u : HO} [Nx o] [Nt u] (f : flat d = true) (ha : H a = some o) (no : ∀ xs, Rd H a (.tup xs) → False) (r : Ret K (upd H0 a o) v d H) : Ret K H0 v d (upd H a u) := by
  obtain ⟨tk, N, s, fr, q⟩ := r
  refine ⟨tk.upd ha, Imm (upd H a u), imm_sub _, fun b x e m => (imm_not e m).elim, (q.mono s).flat2 (fun b xs e => ?_) f⟩
  have ne : ∀ {w : HO}, H b = some w → (w = .tup xs ∨ ∃ ob, w = .frz ob (.tup xs)) → b ≠ a := fun {w} e1 e2 q => by
    subst q
    rcases e2 with e2 | ⟨ob, e2⟩
    · exact no xs (.inl (by rw [e1, e2]))
    · exact no xs (.inr ⟨ob, by rw [e1, e2]⟩)
  rcases e with (e | ⟨ob, e⟩) | e
  · exact .inl (.inl (imm_of (by rw [upd_ne (ne e (.inl rfl))]; exact e) fun z => z))
  · exact .inl (.inr ⟨ob, imm_of (by rw [upd_ne (ne e (.inr ⟨ob, rfl⟩))]; exact e) fun z => z⟩)
  · exact .inr e
theorem xm_lockRetT {l : List (List Int × α)} {eR : γ → Dat} {m : M γ} (i : Nat) (hn : noOl ρ) (hi : ρ[i]? = some (.im (ditd en l))) (hf : ∀ r, flat (eR r) = true) (hfree : ∀ {G G' : Hp} {v : V} (a : α), At X.K G v (en a) → At X.K G' v (en a)) (h : ∀ H0b dd, KeysTAt X.K en l H0b dd → ExM X H0b (ρ.set i (.rf dd)) k [st] (fun r => .rt (eR r)) m) : ExM X H0 ρ k (st :: rest) (fun r => .rt (eR r)) (M.nox m) := by
  cases m with
  | far => trivial
  | ex n => trivial
  | ok w =>
    refine ex_cons (o1 := .rt (eR w)) (fun DD σ H N r c => ?_) rfl
    obtain ⟨v, e1, a⟩ := r.im i _ hi
    obtain ⟨d, vs, rfl, rd, hl, ak⟩ := at_dit a
    have hk : vs.length = l.length := by rw [ak.length, List.length_map]
    have free : ∀ {G G' : Hp} {vs : List V} {l : List (List Int × α)}, Ats X.K G vs (l.map fun p => en p.2) → Ats X.K G' vs (l.map fun p => en p.2) := fun {G G' vs l} => by
      induction l generalizing vs with
      | nil => intro q; cases q; exact .nil
      | cons p l ih => intro q; cases q with | cons a t => exact .cons (hfree p.2 a) (ih t)
    have go : ∀ od (H0b H1 N1 : Hp), Rep X.K H0b ρ σ H1 N1 → H0b d = some (.frz od (.dT ((tks l).zip vs))) → ∀ D1 : Ends, (∀ v H, Same H0b H → Same N1 H → Ret X.K H0b v (eR w) H → D1.rt v H) → WS X st D1 σ H1 := fun od H0b H1 N1 r1 e2 D1 c1 =>
      ws_one (h H0b d ⟨.dit (.inr ⟨od, e2⟩) hl (free ak), od, vs, e2, hk⟩ D1 σ H1 N1 (Rep.toRf e1 (r1.drop i)) c1)
    rcases rd with e2 | ⟨od, e2⟩
    · refine ws_of (ps_lock ps_w) ⟨d, _, (r.sub _ _ e2).e, True.intro, fun od => ?_⟩
      have h0 : H0 d = none := r.fresh d _ e2 True.intro
      have rl := (r.lockT e2 od).raise hn h0 upd_same (fun z => z)
      refine go od _ _ _ rl upd_same _ fun v' H' s1 s2 rr => ?_
      have hd : H' d = some (.frz od (.dT ((tks l).zip vs))) := (s1 _ _ upd_same).e
      refine ⟨hd, c v' _ (fun a u e => ?_) (fun a u e => ?_) (ret_unlock (hf w) hd (fun xs q => ?_) rr)⟩
      · have q : a ≠ d := fun q => by rw [q, h0] at e; cases e
        rw [upd_ne q]
        exact s1 a u (by rw [upd_ne q]; exact e)
      · by_cases q : a = d
        · subst q; rw [e2] at e; rw [upd_same]; first | exact e | exact Cg.of e
        · rw [upd_ne q]; exact s2 a u (by rw [upd_ne q]; exact e)
      · rcases q with q | ⟨ob, q⟩
        · rw [hd] at q; cases q
        · rw [hd] at q; cases q
    · cases e0 : H0 d with
      | none =>
        refine go od _ _ _ (r.raise hn e0 e2 (fun z => z)) upd_same _ fun v' H' s1 s2 ⟨tk, N', b1, b2, b3⟩ => ?_
        refine c v' H' (fun a u e => s1 a u ?_) s2 ⟨tk, N', b1, fun a o q m => ?_, b3⟩
        · rw [upd_ne (fun q => by rw [q, e0] at e; cases e)]; exact e
        · have := b2 a o q m
          by_cases z : a = d
          · rw [z]; exact e0
          · rwa [upd_ne z] at this
      | some o =>
        have e4 := r.old _ _ e0
        rw [(r.sub _ _ e2).e] at e4
        cases e4
        exact go od _ _ _ r e0 _ c
end
/-! ### min of a list of ints -/
def minL (x : Int) (xs : List Int) : Int := xs.foldl min x
theorem reads_ints {h : Heap} : ∀ {its : List Value} {ns : List Int}, IntsAre its ns → ReadsAll h its (ns.map .int) [] := fun {its ns} r => by
  induction r with
  | nil => exact .nil
  | cons n t _ ih => exact .cons (as := []) (.int n t) ih
theorem cr_min {X : Cx} (hc : X.calm = true) (hu : X.A.units + 1 < cLine) : CallR X (.builtin "min") (fun vs H Q => ∃ (a : Addr) (n : Int) (ns : List Int), vs = [V.ref a] ∧ SqL X.K H a ((n :: ns).map V.int) ∧ Q (.int (minL n ns)) H) := by
  intro pins s σ H vs us Q I r h
  obtain ⟨a, n, ns, rfl, hs, q⟩ := h
  obtain ⟨its, rv, hl, _⟩ := I.list hs
  rw [Vals.ref1 r]
  have hd : PyData.depthAll ((n :: ns).map PyData.int) = 0 := by
    have : ∀ l : List Int, PyData.depthAll (l.map PyData.int) = 0 := fun l => by
      induction l with
      | nil => rfl
      | cons a l ih => show max 0 (PyData.depthAll (l.map PyData.int)) = 0; rw [ih]; rfl
    exact this _
  refine PySem.W.min_list_data (x := .int n) (xs := ns.map .int) (as := []) (I.ok.hd hc) hl.isList (show ReadsAll s.heap its ((n :: ns).map .int) [] from reads_ints rv.ints) ⟨fun x hx y hy => ?_, fun x hx => ?_⟩ (by rw [show (PyData.int n :: ns.map PyData.int) = (n :: ns).map PyData.int from rfl, hd]; exact hu) fun i v h' tk bs hi hr hk => ?_
  · obtain ⟨u, _, rfl⟩ := List.mem_map.mp (show x ∈ (n :: ns).map PyData.int from hx)
    obtain ⟨w, _, rfl⟩ := List.mem_map.mp (show y ∈ (n :: ns).map PyData.int from hy)
    rfl
  · obtain ⟨u, _, rfl⟩ := List.mem_map.mp (show x ∈ (n :: ns).map PyData.int from hx)
    exact fun z => nomatch z
  · rw [PySem.W.minD_ints] at hr
    cases hr with
    | int _ t => exact ⟨.int _, H, I.kept hk, ⟨t, rfl⟩, q⟩
section
variable {X : Cx} {H0 : Hp} {ρ : Env'} {a : Expr} {p pos : Pos}
theorem ev_minL {n : Int} {ns l : List Int} (ha : EvB X H0 ρ a (lstd .int l)) (hl : l = n :: ns) (hu : X.A.units + 1 < cLine) (hc : X.calm = true) (hm : X.mg "min" = none) (hg : Gl X "min" := by rfl) (he : starEach [a] X.env = (false, eval a X.env) :: starEach [] X.env := by rfl) (hpl : (backTo pos (starEach [] X.env)).any (·.1) = false := by rfl) :
    Ev X H0 ρ (.Call (.Name "min" p) [a] [] pos) (.int (minL n ns)) := ev_blt (cr_min hc hu) hm (by decide +kernel) (eab1 ha he) (fun vs σ H N Q r q g => by
    obtain ⟨v, e1, e2⟩ := ats_one q
    obtain ⟨pp, us, e3, h1, h2⟩ := at_lst e2
    subst hl
    rw [h2.ints] at h1
    exact ⟨pp, n, ns, by rw [e1, e3], h1, goes_self g r (.int _)⟩) hg (by decide) (by decide) he hpl
end
def hdTl (l : List Int) : Option (Int × List Int) := match l with
  | [] => none
  | a :: r => some (a, r)
theorem hdTl_ok {l : List Int} {r : Int × List Int} (h : hdTl l = some r) : l = r.1 :: r.2 := by
  cases l with
  | nil => cases h
  | cons a t => cases h; rfl
end B

namespace B
open PySem PySem.Spec PyProof.Rows L2 PySem.W
/-! ### sorted by keys that are new lists of ints: what stands stays, the frames' slots and the object a aside -/
structure KpB (a : Addr) (fs : List Addr) (h h' : Heap) : Prop where
  keep : ∀ b o, b ≠ a → b ∉ fs → h.get? b = some o → h'.get? b = some o
  slot : ∀ b o, b ≠ a → b ∈ fs → h.get? b = some o → ∃ sl, h'.get? b = some { o with slots := sl }
structure KpW (fs : List Addr) (h h' : Heap) : Prop where
  keep : ∀ b o, b ∉ fs → h.get? b = some o → h'.get? b = some o
  slot : ∀ b o, b ∈ fs → h.get? b = some o → ∃ sl, h'.get? b = some { o with slots := sl }
theorem KpB.call {a : Addr} {fs : List Addr} {h h' h'' : Heap} (x : KpB a fs h h') (y : KpW fs h' h'') : KpB a fs h h'' :=
  ⟨fun b o n f e => y.keep b o f (x.keep b o n f e), fun b o n f e => by
    obtain ⟨sl, e1⟩ := x.slot b o n f e
    obtain ⟨sl2, e2⟩ := y.slot b _ f e1
    exact ⟨sl2, e2⟩⟩
theorem KpB.same {a c : Addr} {fs : List Addr} {h h' h'' : Heap} (x : KpB a fs h h') (hs : Heap.SameBut c h' h'') (hc : c = a ∨ h.get? c = none) : KpB a fs h h'' := by
  have ne : ∀ {b : Addr} {o : Obj}, b ≠ a → h.get? b = some o → b ≠ c := fun {b o} hb e q => by
    rcases hc with hc | hc
    · exact hb (q.trans hc)
    · rw [q, hc] at e; cases e
  exact ⟨fun b o n f e => (hs.2 b (ne n e)).trans (x.keep b o n f e), fun b o n f e => by
    obtain ⟨sl, e1⟩ := x.slot b o n f e
    exact ⟨sl, (hs.2 b (ne n e)).trans e1⟩⟩
/-- u is a list of ints -/
def KL (h : Heap) (u : Value) (ns : List Int) : Prop := ∃ p its e, u = .ref p ∧ h.get? p = some (seqObj "list" its.toArray e) ∧ IntsAre its ns
abbrev pdL (ns : List Int) : PyData := .list (ns.map .int)
theorem readsI {h : Heap} : ∀ {its : List Value} {ns : List Int}, IntsAre its ns → ReadsAll h its (ns.map .int) [] := fun {its ns} r => by
  induction r with
  | nil => exact .nil
  | cons n t _ ih => exact .cons (as := []) (.int n t) ih
theorem KL.reads {h : Heap} {u : Value} {ns : List Int} (k : KL h u ns) : ∃ as, Reads h u (pdL ns) as := by
  obtain ⟨p, its, e, rfl, h1, h2⟩ := k
  exact ⟨_, .list h1 rfl rfl (readsI h2)⟩
theorem each_reads {h : Heap} {R : Value → List Int → Prop} (f : ∀ v k, R v k → KL h v k) {l : List Value} {kz : List (List Int)} (hk : EachIs R l kz) : EachIs (fun v k => ∃ as, Reads h v k as) l (kz.map pdL) := by
  induction hk with
  | nil => exact .nil
  | cons q _ ih => exact .cons (f _ _ q).reads ih
theorem alikeInts : ∀ xs ys : List Int, alikeAll (xs.map PyData.int) (ys.map PyData.int) = true
  | [], ys => by simp [alikeAll]
  | x :: xs, [] => by simp [alikeAll]
  | x :: xs, y :: ys => by
    rw [List.map_cons, List.map_cons, alikeAll, alikeInts xs ys]
    rfl
theorem allAlikeL (kz : List (List Int)) : AllAlike (kz.map pdL) := fun d hd d' hd' => by
  obtain ⟨a, _, rfl⟩ := List.mem_map.mp hd
  obtain ⟨b, _, rfl⟩ := List.mem_map.mp hd'
  rw [alike]
  exact alikeInts a b
theorem sortableL (kz : List (List Int)) : Sortable (kz.map pdL) := .inr fun d hd => by
  obtain ⟨a, _, rfl⟩ := List.mem_map.mp hd
  exact ⟨(fun z => by cases z), fun xs z => by cases z⟩
theorem depthL (ns : List Int) : (pdL ns).depth ≤ 1 := by
  have : ∀ l : List Int, PyData.depthAll (l.map PyData.int) = 0 := fun l => by
    induction l with
    | nil => rfl
    | cons a l ih => show max 0 (PyData.depthAll (l.map PyData.int)) = 0; rw [ih]; rfl
  show PyData.depthAll (ns.map PyData.int) + 1 ≤ 1
  rw [this]
  exact Nat.le_refl _
/-- what a call f(x) must give -/
def KeyL (fs : List Addr) (k : List Int) (s₁ : Shared) (u : Value) (s₂ : Shared) : Prop := ∃ h' g dr tk p its e, s₂ = { s₁ with heap := h', gens := g, drawn := dr, toks := tk } ∧ (AllBare s₁.gens → AllBare g) ∧ KpW fs s₁.heap h' ∧ u = .ref p ∧ s₁.heap.get? p = none ∧ p ∉ fs ∧ h'.get? p = some (seqObj "list" its.toArray e) ∧ IntsAre its k
section
variable {prog : Program} {w : World} {A : Around} {E : Value → Shared → Prop} {s : Shared} {a kS : Addr} {fs : List Addr} {b : Bool} {vs : List Value} {e1 : Nat} {P : PySem.Fin → Shared → Prop} {kz : List (List Int)}
theorem srt_rest {f : Value} {h₁ : Heap} (kp : KpB a fs h₁ s.heap) (hkS : h₁.get? kS = none) (nk : s.heap.get? kS = some (seqObj "list" #[] 0)) (na : s.heap.get? a = some (seqObj "list" #[] e1)) (hka : kS ≠ a) (hkf : kS ∉ fs) (haf : a ∉ fs)
    (hlen : kz.length = vs.length) (hZ : vs.length ≤ sizeLine) (hu : A.units + 1 < cLine)
    (turn : ∀ (i : Nat) (v : Value) (k : List Int), vs[i]? = some v → kz[i]? = some k → ∀ (h : Heap) (g : Array GenState) (dr : Drawn) (tk : Nat), (AllBare s.gens → AllBare g) → KpB a fs h₁ h →
      wpAny (model prog w) A (call f [v]) (KeyL fs k { s with heap := h, gens := g, drawn := dr, toks := tk }) (fun _ _ => False) { s with heap := h, gens := g, drawn := dr, toks := tk })
    (h : ∀ h' g dr tk out c, (AllBare s.gens → AllBare g) → KpB a fs h₁ h' → h'.get? a = some (seqObj "list" (List.toArray out) c) → KeyedOut b (kz.map pdL) vs out → P (.done (.ret .none)) { s with heap := h', gens := g, drawn := dr, toks := tk }) :
    wpAny (model prog w) A (ksk_rest a f b vs.toArray e1 (.ref kS)) P E s := by
  unfold ksk_rest
  refine wpAny_bind (wpAny_rule ?_)
  first
    | rw [List.forIn_toArray]
    | (rw [← Array.forIn_toList]; simp only [List.toList_toArray])
    | rw [← Array.forIn_toList]
  refine wpAny_bind (ksk_fold (fun i s' => ∃ h' g dr tk kA e, s' = { s with heap := h', gens := g, drawn := dr, toks := tk } ∧ (AllBare s.gens → AllBare g) ∧ KpB a fs h₁ h' ∧ h'.get? kS = some (seqObj "list" kA e) ∧ h'.get? a = some (seqObj "list" #[] e1) ∧ EachIs (fun v k => KL h' v k ∧ v ≠ .ref kS ∧ ∀ p, v = .ref p → p ∉ fs) kA.toList (kz.take i)) vs 0 s
    ⟨s.heap, s.gens, s.drawn, s.toks, #[], 0, rfl, id, kp, nk, na, by rw [List.take_zero]; exact EachIs.nil⟩ ?step ?done)
  case step =>
    rintro j x s' hx ⟨h', gg, dr, tk, kA, e, rfl, hg0, kp', nk', na', hk⟩
    simp only [Nat.zero_add] at hk ⊢
    have hj : j < vs.length := (List.getElem?_eq_some_iff.mp hx).1
    obtain ⟨k, hkj⟩ : ∃ k, kz[j]? = some k := ⟨_, List.getElem?_eq_getElem (by omega)⟩
    have hz : kA.size ≤ vs.length := by
      have h1 := hk.length
      rw [Array.length_toList, List.length_take] at h1
      omega
    refine wpAny_bind (wpAny_attempt (wpAny_mono (turn j x k hx hkj h' gg dr tk hg0 kp') (fun v s'' he => ?_) fun _ _ hF => hF.elim))
    obtain ⟨g, g2, dr2, tk2, p, its, ep, rfl, hg2, hg, rfl, hp, hpf, hpg, hpi⟩ := he
    try dsimp only
    have nk2 : g.get? kS = some (seqObj "list" kA e) := hg.keep _ _ hkf nk'
    have na2 : g.get? a = some (seqObj "list" #[] e1) := hg.keep _ _ haf na'
    have s1 := Heap.SameBut.update g kS (Obj.mapSeq (·.push (.ref p)))
    have pk : p ≠ kS := fun q => by
      rw [q] at hp
      exact absurd (nk'.symm.trans hp) (fun z => nomatch z)
    obtain ⟨c2, hc2⟩ : ∃ c2, (g.update kS (Obj.mapSeq (·.push (.ref p)))).get? kS = some (seqObj "list" (kA.push (.ref p)) c2) := ⟨_, get?_update_seq nk2 (·.push (.ref p))⟩
    have ek : kz.take (j + 1) = kz.take j ++ [k] := by rw [List.take_add_one, hkj]; simp
    have ea : (kA.push (.ref p)).toList = kA.toList ++ [.ref p] := by simp
    refine wpAny_bind (listUpdate_at nk2 rfl ?_ (Nat.le_trans hz hZ) (Nat.le_trans (Nat.le_of_eq (Array.size_push ..)) (Nat.succ_le_succ (Nat.le_trans hz hZ))))
    refine wpAny_pure ⟨rfl, _, _, _, _, kA.push (.ref p), c2, rfl, fun z => hg2 (hg0 z), (kp'.call hg).same s1 (.inr hkS), hc2, (s1.2 a hka.symm).trans na2, ?_⟩
    rw [ea, ek]
    refine each_snoc (R := fun (u : Value) (d : List Int) => KL (g.update kS (Obj.mapSeq (·.push (.ref p)))) u d ∧ u ≠ .ref kS ∧ ∀ q, u = .ref q → q ∉ fs) ⟨⟨p, its, ep, rfl, (s1.2 p pk).trans hpg, hpi⟩, fun z => pk (by cases z; rfl), fun q z => by cases z; exact hpf⟩ ?_
    refine hk.mono fun u d ⟨⟨q, its2, ep2, z1, z2, z3⟩, z4, z5⟩ => ⟨⟨q, its2, ep2, z1, ?_, z3⟩, z4, z5⟩
    exact (s1.2 q (fun y => z4 (by rw [z1, y]))).trans (hg.keep _ _ (z5 q z1) z2)
  case done =>
    rintro s' ⟨h', gg, dr, tk, kA, e, rfl, hg0, kp', nk', na', hk⟩
    have e3 : kz.take (0 + vs.length) = kz := List.take_of_length_le (by omega)
    rw [e3] at hk
    have hk' : EachIs (fun v k => ∃ as, Reads h' v k as) kA.toList (kz.map pdL) := each_reads (fun _ _ q => q.1) hk
    have hsz : kA.size = vs.length := by
      have h1 := hk.length
      rw [Array.length_toList] at h1
      omega
    try dsimp only
    refine wpAny_bind (listItems_at nk' rfl ?_)
    have hid : KeepsBut a (hidT h' fun c => if c = kS then some (.tbl #[]) else none) h' := fun c o _ q => (of_hidT q).1
    have hidk : (hidT h' fun c => if c = kS then some (.tbl #[]) else none).get? kS = none := by
      cases q : (hidT h' fun c => if c = kS then some (.tbl #[]) else none).get? kS with
      | none => rfl
      | some o =>
        have := (of_hidT q).2
        rw [if_pos rfl] at this
        cases this
    have hkS' : ∀ c o, h₁.get? c = some o → c ≠ kS := fun c o q z => by rw [z, hkS] at q; cases q
    have back : ∀ {c : Addr} {o : Obj}, c ≠ kS → h'.get? c = some o → (hidT h' fun c => if c = kS then some (.tbl #[]) else none).get? c = some o := fun {c o} n q => hidT_get q (if_neg n)
    refine keyH_end (κ := dataKind h' (kz.map pdL)) (h₁ := hidT h' fun c => if c = kS then some (.tbl #[]) else none) hid hidk nk' na' hka
      (SortsAt.data (s := { s with heap := h', gens := gg, drawn := dr, toks := tk }) hk' (allAlikeL kz) (sortableL kz) fun d hd => by
        obtain ⟨q, _, rfl⟩ := List.mem_map.mp hd
        have := depthL q
        omega) hsz hZ fun h3 tk3 c k3 n3 => h h3 _ _ tk3 _ c hg0 ⟨fun b o n f q => k3 b o n (back (hkS' b o q) (kp'.keep b o n f q)), fun b o n f q => ?_⟩ n3 ⟨h', kA.toList, allAlikeL kz, rfl, hk'⟩
    obtain ⟨sl, q2⟩ := kp'.slot b o n f q
    exact ⟨sl, k3 b _ n (back (hkS' b o q) q2)⟩
theorem srt_tree {f : Value} {n : Nat} (ho : s.heap.get? a = some (seqObj "list" vs.toArray n)) (haf : a ∉ fs) (hfs : ∀ x ∈ fs, x < s.heap.objs.size) (hlen : kz.length = vs.length) (hZ : vs.length ≤ sizeLine) (hu : A.units + 1 < cLine)
    (turn : ∀ (i : Nat) (v : Value) (k : List Int), vs[i]? = some v → kz[i]? = some k → ∀ (h : Heap) (g : Array GenState) (dr : Drawn) (tk : Nat), (AllBare s.gens → AllBare g) → KpB a fs s.heap h →
      wpAny (model prog w) A (call f [v]) (KeyL fs k { s with heap := h, gens := g, drawn := dr, toks := tk }) (fun _ _ => False) { s with heap := h, gens := g, drawn := dr, toks := tk })
    (h : ∀ h' g dr tk out c, (AllBare s.gens → AllBare g) → KpB a fs s.heap h' → h'.get? a = some (seqObj "list" (List.toArray out) c) → KeyedOut b (kz.map pdL) vs out → P (.done (.ret .none)) { s with heap := h', gens := g, drawn := dr, toks := tk }) :
    wpAny (model prog w) A (ksk_tree a f b) P E s := by
  have ha : a < s.heap.objs.size := Heap.lt_size ho
  obtain ⟨e1, ho1⟩ : ∃ e1, (s.heap.update a (Obj.mapSeq fun _ => (#[] : Array Value))).get? a = some (seqObj "list" #[] e1) := ⟨_, get?_update_seq ho fun _ => #[]⟩
  have hkS : ((s.heap.update a (Obj.mapSeq fun _ => (#[] : Array Value))).push (seqObj "tuple" vs.toArray 0)).objs.size = s.heap.objs.size + 1 := by rw [size_push', Heap.size_update]
  unfold ksk_tree
  refine wpAny_bind (listItems_at ho rfl ?_)
  refine wpAny_bind (listUpdate_at ho rfl ?_ (by rw [List.size_toArray]; exact hZ) (Nat.zero_le _))
  refine wpAny_bind (seqEpoch_at ho1 rfl ?_)
  refine wpAny_bind (wpAny_newTuple ?_ (by show vs.length ≤ _; exact hZ))
  refine wpAny_bind (wpAny_newList ?_ (Nat.zero_le _))
  refine wpAny_holding ?_
  have kp : KpB a fs s.heap (sortingHeap s.heap a vs) := ⟨fun b o hb _ q => sortingHeap_old hb q, fun b o hb _ q => ⟨o.slots, sortingHeap_old hb q⟩⟩
  exact srt_rest (fs := fs) (kz := kz) (h₁ := s.heap) (s := { s with heap := ((s.heap.update a (Obj.mapSeq fun _ => (#[] : Array Value))).push (seqObj "tuple" vs.toArray 0)).push (seqObj "list" #[] 0) }) (kS := ((s.heap.update a (Obj.mapSeq fun _ => (#[] : Array Value))).push (seqObj "tuple" vs.toArray 0)).objs.size)
    kp (Heap.get?_none_of_le (by rw [hkS]; exact Nat.le_succ _)) (Heap.get?_push_size _ rfl) (Heap.get?_push_of_some _ (Heap.get?_push_of_some _ ho1)) (by rw [hkS]; exact Nat.ne_of_gt (Nat.lt_succ_of_lt ha)) (fun z => absurd (hfs _ z) (by rw [hkS]; exact Nat.not_lt_of_le (Nat.le_succ _))) haf hlen hZ hu turn h
/-- sorted(xs, key=f) -/
theorem sorted_L {l : Addr} {f : Value} {kw : List (Str × Value)} {Q : Value → Shared → Prop} (hl : s.heap.IsList l vs.toArray) (hlen : kz.length = vs.length) (hL : vs.length ≤ sizeLine) (hfs : ∀ x ∈ fs, x < s.heap.objs.size)
    (hu : A.units + 2 + 1 < cLine) (ha1 : argsOk "sorted" ⟨[.ref l], kw⟩) (ha2 : ∀ x, argsOk "list.sort" ⟨[.ref x], kw⟩) (ht : ∀ x, Builtin.«list.sort» ⟨[.ref x], kw⟩ = ksk_tree x f b)
    (turn : ∀ (i : Nat) (v : Value) (k : List Int), vs[i]? = some v → kz[i]? = some k → ∀ (h : Heap) (g : Array GenState) (dr : Drawn) (tk : Nat), (AllBare s.gens → AllBare g) → KpW fs s.heap h →
      wpAny (model prog w) A.in1.in1 (call f [v]) (KeyL fs k { s with heap := h, gens := g, drawn := dr, toks := tk }) (fun _ _ => False) { s with heap := h, gens := g, drawn := dr, toks := tk })
    (h : ∀ out c h' g dr tk, (AllBare s.gens → AllBare g) → KpW fs s.heap h' → h'.get? (s.heap.objs.size + 1) = some (seqObj "list" (List.toArray out) c) → KeyedOut b (kz.map pdL) vs out → Q (.ref (s.heap.objs.size + 1)) { s with heap := h', gens := g, drawn := dr, toks := tk }) :
    wpAny (model prog w) A (call (.builtin "sorted") [.ref l] kw) Q E s := by
  have up : ∀ {g : Heap}, KpB (s.heap.objs.size + 1) fs (copyHeap s.heap vs) g → KpW fs s.heap g := fun {g} kp =>
    ⟨fun b o hb q => kp.keep b o (Nat.ne_of_lt (Nat.lt_succ_of_lt (Heap.lt_size q))) hb (copyHeap_old q), fun b o hb q => kp.slot b o (Nat.ne_of_lt (Nat.lt_succ_of_lt (Heap.lt_size q))) hb (copyHeap_old q)⟩
  refine sorted_of_sort hl hL ha1 ha2 fun E' => ?_
  rw [ht]
  have hc := copyHeap_at s.heap vs
  have hsz := Heap.lt_size hc
  refine srt_tree (A := A.in1.in1) (fs := fs) (kz := kz) (s := { s with heap := copyHeap s.heap vs }) hc (fun z => absurd (hfs _ z) (Nat.not_lt_of_le (Nat.le_succ _))) (fun x hx => Nat.lt_trans (hfs x hx) (Nat.lt_trans (Nat.lt_succ_self _) hsz)) hlen hL hu
    (fun i v k h1 h2 h g dr tk hg kp => turn i v k h1 h2 h g dr tk hg (up kp)) fun h' g dr tk out c hg kp hD ko => ⟨rfl, ?_⟩
  exact h out c h' g dr tk hg (up kp) hD ko
end
end B

namespace B
open PySem PySem.Spec PyProof.Rows L2 PySem.W LamX NdefX
section
variable {X : Cx} {pins : List (Addr × Obj)} {σ : L2.St} {H : Hp} {s : Shared} {h h' : Heap}
theorem KpW.refl (fs : List Addr) (h : Heap) : KpW fs h h := ⟨fun _ _ _ e => e, fun _ o _ e => ⟨o.slots, e⟩⟩
theorem KpW.trans {fs : List Addr} {h h' h'' : Heap} (a : KpW fs h h') (b : KpW fs h' h'') : KpW fs h h'' :=
  ⟨fun c o f e => b.keep c o f (a.keep c o f e), fun c o f e => by
    obtain ⟨sl, e1⟩ := a.slot c o f e
    obtain ⟨sl2, e2⟩ := b.slot c _ f e1
    exact ⟨sl2, e2⟩⟩
theorem KpW.un {fs : List Addr} (k : KpW fs h h') : L2.Un fs [] H H h h' where
  keep := fun b o e n hb _ => k.keep b o hb e
  slot := fun b o e n hb _ => k.slot b o hb e
  free := fun _ _ _ n _ => n
  there := fun b o e _ => by
    by_cases hb : b ∈ fs
    · obtain ⟨sl, q⟩ := k.slot b o hb e
      exact ⟨_, q⟩
    · exact ⟨_, k.keep b o hb e⟩
  tups := fun _ _ e => e
  frzs := fun _ _ _ e => e
  tbls := fun b ps e => ⟨#[], by rw [Array.append_empty]; exact e⟩
theorem hok_kw {P : Program} {w : World} {fs : List Addr} (ok : HOk P w H h) (hf : ∀ b ∈ fs, H b = none) (k : KpW fs h h') : HOk P w H h' := fun b u e =>
  (ok b u e).stay (fun d v hd q => k.keep d v (fun z => by
    have n := hf d z
    rcases hd with rfl | hd
    · rw [e] at n; cases n
    · rw [hd] at n; cases n) q) (fun _ q => q) fun _ _ q => q
/-- what stands, the frames' slots aside, is known as it was -/
theorem inv_kw {g : Array GenState} {dr : Drawn} {tk : Nat} (I : Inv X pins σ H s) (hb : AllBare g) (k : KpW (frs X.stack) s.heap h') : Inv X pins σ H { s with heap := h', gens := g, drawn := dr, toks := tk } := by
  have q : CE X.stack X.prog X.w H s (fun v H' => v = V.non ∧ H' = H) Value.none { s with heap := h', gens := g, drawn := dr, toks := tk } := ⟨.non, H, rfl, hb, k.un, hok_kw I.hok I.stkFree k, rfl, rfl, rfl⟩
  obtain ⟨v, H', J, r, rfl, rfl⟩ := I.after q
  exact J
end
/-! ### the lambda is made -/
section
variable {X : Cx} {pins : List (Addr × Obj)} {σ : L2.St} {H : Hp} {s : Shared}
theorem lam_mk {c P : Addr} {params : Arguments} {body : Expr} {scope : Scope} {pos : Pos} {E : Value → Shared → Prop} {Q : Value → Shared → Prop} (I : Inv X pins σ H s) (TB : TabB X.base X.mg c P) (hcode : X.env.code = .ref c)
    (hm : (P, X.env.qual ++ "<lambda>") ∈ tabs0) (hu : ∀ p ∈ tabs0, p.1 = P → p.2 = X.env.qual ++ "<lambda>") (hT : Tk H) (hS : Ts H) (hdef : defaultsOf params X.env = ([], [])) (hfree : ∀ y ∈ scope.names, y.2 = .free → ∃ c, X.env.cells.lookup y.1 = some c)
    (h : ∀ (f c' : Addr) (pm ctv : Value) (H1 : Hp) (s' : Shared), Inv X pins σ H1 s' → Same H H1 → ExtN H H1 → Tk H1 →
      s'.heap.get? f = some (PySem.W.kla_obj "<lambda>" (X.env.qual ++ "<lambda>") params body scope (cloFrom X.env.cells scope.names []) pm c' ctv) → H1 f = none → f ∉ frs X.stack → H1 c' = some (CodeO c' (X.env.qual ++ "<lambda>")) → Q (.ref f) s') :
    wpAny (model X.prog X.w) X.A (eval (.Lambda params body scope pos) X.env) Q E s := by
  obtain ⟨ps, hP⟩ := hS _ hm
  obtain ⟨ps', hP2, ht, ha⟩ := hT _ hm ps hP
  rw [hP] at hP2
  cases hP2
  refine PySem.W.kla_eval hdef ?_
  have bP : s.heap.BuiltinsAt X.mg P := TB.bm.keeps I.bk
  have hPo : s.heap.get? P = some { cls := .none, data := .fields ps } := I.hok P _ hP
  have nofr : ∀ f, s.heap.objs.size ≤ f → f ∉ frs X.stack := fun f hf z => by
    rcases List.mem_cons.mp (I.stkSub _ z) with e | e
    · have h1 := I.lt
      rw [← e] at h1
      exact Nat.lt_irrefl _ (Nat.lt_of_lt_of_le h1 hf)
    · exact I.nofs hf e
  cases hc : codeAmong pos ps.toList with
  | some cv =>
    obtain ⟨c', e, hco⟩ := ha pos cv hc
    subst e
    refine PySem.W.kla_makeFunctionHit (mg := X.mg) (c := c) (P := P) (ps := ps) (closure_ok hfree) I.ok.glob (I.mod.glob.keeps I.bk) hcode (TB.code.keeps I.bk) hPo ht hc bP fun ctv h' tk hx hsz => ?_
    exact h h'.objs.size c' ((X.mg "__name__").getD .none) ctv H _ (I.kept fun b o e => Heap.get?_push_of_some _ (hx b o e)) (Same.refl _) (ExtN.refl H) hT (Heap.get?_push_size _ rfl) (I.hok.fresh hsz) (nofr _ hsz) hco
  | none =>
    refine PySem.W.kla_makeFunction (mg := X.mg) (c := c) (P := P) (ps := ps) (closure_ok hfree) I.ok.glob (I.mod.glob.keeps I.bk) hcode (TB.code.keeps I.bk) hPo ht hc TB.gP bP fun c' ctv h' tk hx hge hlt hrec htb => ?_
    obtain ⟨c2, oc, vs, t, e2, hoc, hd, hv⟩ := hrec
    cases e2
    have hsz : s.heap.objs.size ≤ h'.objs.size := Nat.le_trans hge (Nat.le_of_lt hlt)
    have nC : H c' = none := I.hok.fresh hge
    have nPc : P ≠ c' := fun z => by rw [z, nC] at hP; cases hP
    have I1 := inv_table (t' := tk) (more := #[rawInt pos.line, rawInt pos.col, .ref c']) (h' := h'.push (PySem.W.kla_obj "<lambda>" (X.env.qual ++ "<lambda>") params body scope (cloFrom X.env.cells scope.names []) ((X.mg "__name__").getD .none) c' ctv)) I hP
      (fun b o hb e => Heap.get?_push_of_some _ (hx b o hb e)) (Heap.get?_push_of_some _ htb) hge ⟨oc, vs, t, Heap.get?_push_of_some _ hoc, hd, hv⟩
    have hE : ExtN H (upd (upd H P (.tbl (ps ++ #[rawInt pos.line, rawInt pos.col, .ref c']))) c' (CodeO c' (X.env.qual ++ "<lambda>"))) := fun b o e n => by
      rw [upd_ne (ne_of_none e nC), upd_ne (fun z => n ps (Option.some.inj (e.symm.trans (by rw [z]; exact hP))))]
      exact e
    have eL : (ps ++ #[rawInt pos.line, rawInt pos.col, .ref c']).toList = ps.toList ++ [rawInt pos.line, rawInt pos.col, .ref c'] := by simp
    refine h h'.objs.size c' ((X.mg "__name__").getD .none) ctv _ _ I1 (fun b o e => ?_) hE (fun p hp ps1 e1 => ?_) (Heap.get?_push_size _ rfl) ?_ (nofr _ hsz) upd_same
    · by_cases q : b = P
      · subst q
        rw [hP] at e
        cases e
        rw [upd_ne nPc, upd_same]
        exact .grow _ _
      · rw [upd_ne (ne_of_none e nC), upd_ne q]
        exact Cg.of e
    · by_cases q : p.1 = P
      · rw [q, upd_ne nPc, upd_same] at e1
        cases e1
        rw [hu p hp q, q]
        refine ⟨_, by rw [upd_ne nPc, upd_same], by rw [eL]; exact PySem.TriplesOk_snoc _ _ _ _ ht, fun p' cv hcv => ?_⟩
        rw [eL] at hcv
        rcases among_app _ ht hcv with z | z
        · obtain ⟨c0, e1, e2⟩ := ha p' cv z
          exact ⟨c0, e1, hE _ _ e2 codeO_ne⟩
        · exact ⟨c', z, upd_same⟩
      · have nc : p.1 ≠ c' := fun z => by
          rw [z, upd_same] at e1
          exact codeO_ne _ (Option.some.inj e1)
        rw [upd_ne nc, upd_ne q] at e1
        obtain ⟨ps', a1, a2, a3⟩ := hT p hp ps1 e1
        refine ⟨ps', by rw [upd_ne nc, upd_ne q]; exact a1, a2, fun p' cv hcv => ?_⟩
        obtain ⟨c0, e1, e2⟩ := a3 p' cv hcv
        exact ⟨c0, e1, hE _ _ e2 codeO_ne⟩
    · have n1 : h'.objs.size ≠ c' := Nat.ne_of_gt hlt
      have n2 : h'.objs.size ≠ P := Nat.ne_of_gt (Nat.lt_of_lt_of_le (Heap.lt_size hPo) hsz)
      rw [upd_ne n1, upd_ne n2]
      exact I.hok.fresh hsz
end
end B

namespace B
open PySem PySem.Spec PyProof.Rows L2 PySem.W LamX NdefX
/-! ### the tuples alone, each as it stands -/
def Hfz (H : Hp) (h : Heap) : Hp := fun b => match H b with
  | some (.tup xs) => (h.get? b).map fun o => .frz o (.tup xs)
  | some (.frz o (.tup xs)) => some (.frz o (.tup xs))
  | _ => none
theorem hfz_cs {H : Hp} {h : Heap} {b : Addr} {u : HO} (e : Hfz H h b = some u) : ∃ o xs, u = .frz o (.tup xs) ∧ ((H b = some (.tup xs) ∧ h.get? b = some o) ∨ H b = some (.frz o (.tup xs))) := by
  unfold Hfz at e
  split at e
  · rename_i xs q
    obtain ⟨o, h1, h2⟩ := Option.map_eq_some_iff.mp e
    exact ⟨o, xs, h2.symm, .inl ⟨q, h1⟩⟩
  · rename_i o xs q
    exact ⟨o, xs, (Option.some.inj e).symm, .inr q⟩
  · cases e
theorem hfz_none {H : Hp} {h : Heap} {b : Addr} (n : H b = none) : Hfz H h b = none := by
  unfold Hfz
  rw [n]
theorem hfz_ok {P : Program} {w : World} {H : Hp} {h : Heap} (ok : HOk P w H h) : HOk P w (Hfz H h) h := fun b u e => by
  obtain ⟨o, xs, rfl, ⟨e1, e2⟩ | e1⟩ := hfz_cs e
  · exact ⟨e2, (show ObjOk P w H h b (.tup xs) from ok b _ e1)⟩
  · exact (show ObjOk P w H h b (.frz o (.tup xs)) from ok b _ e1)
theorem hfz_sq {K : PySem.W.Frag} {P : Program} {w : World} {H : Hp} {h : Heap} (ok : HOk P w H h) (a : Addr) (xs : List V) (q : SqT K H a xs) : SqT K (Hfz H h) a xs := by
  rcases q with (q | ⟨o, q⟩) | q
  · obtain ⟨_, _, _, ob, e, _⟩ := (show ObjOk P w H h a (.tup xs) from ok a _ q)
    exact .inl (.inr ⟨ob, by unfold Hfz; rw [q]; show (h.get? a).map _ = _; rw [e]; rfl⟩)
  · exact .inl (.inr ⟨o, by unfold Hfz; rw [q]⟩)
  · exact .inr q
theorem hfz_tk {H : Hp} {h : Heap} : Tk (Hfz H h) := fun p hp ps e => by
  obtain ⟨o, xs, z, _⟩ := hfz_cs e
  cases z
theorem env_fz {P : Program} {w : World} {K : PySem.W.Frag} {mg : Str → Option Value} {base : Heap} {A A' : Around} {outer : List Env} {s : Shared} {H : Hp} (e0 : Env0 P w K mg base A outer s H) (hf : A'.frames = A.frames) : Env0 P w K mg base A' outer s (Hfz H s.heap) :=
  ⟨hf.trans e0.frames, e0.mod, fun b o q => ⟨(e0.bs b o q).1, hfz_none (e0.bs b o q).2⟩, e0.bsz, e0.funs, fun b hb => hfz_none (e0.frf b hb), hfz_ok e0.hok, e0.bare⟩
/-- behind a call from there all stands as it was -/
theorem kw_fz {fs : List Addr} {H H' : Hp} {h h' : Heap} {P : Program} {w : World} (ok : HOk P w H h) (hf : ∀ b ∈ fs, H b = none) (u : L2.Un fs [] (Hfz H h) H' h h') (ok' : HOk P w H' h') : KpW fs h h' := by
  refine ⟨fun b o n e => ?_, fun b o m e => u.slot b o e (hfz_none (hf b m)) m (by simp)⟩
  cases q : Hfz H h b with
  | none => exact u.keep b o e q n (by simp)
  | some x =>
    obtain ⟨ob, xs, rfl, z⟩ := hfz_cs q
    have e1 := u.frzs b ob _ q
    obtain ⟨e2, _⟩ := (show ObjOk P w H' h' b (.frz ob (.tup xs)) from ok' b _ e1)
    obtain ⟨e3, _⟩ := (show ObjOk P w (Hfz H h) h b (.frz ob (.tup xs)) from hfz_ok ok b _ q)
    rw [e] at e3
    cases e3
    exact e2

/-! ### a call of the lambda -/
section
variable {X : Cx} {pins : List (Addr × Obj)} {σ : L2.St} {H : Hp} {s : Shared}
abbrev lamF (X : Cx) (params : Arguments) (scope : Scope) (c' : Addr) : NF := ⟨"<lambda>", X.env.qual ++ "<lambda>", params, [], scope, cloFrom X.env.cells scope.names [], c'⟩
abbrev lamX (X : Cx) (A : Around) (N : List Str) (params : Arguments) (scope : Scope) (c' f : Addr) (s : Shared) (H : Hp) : Cx := ncx (L2.CX X.prog X.w) X.prog X.w X.K X.mg X.base N (lamF X params scope c') f A X.stack s H (fun _ _ _ => False)
theorem lam_turn {A : Around} {k jf : Nat} {f c' : Addr} {pm ctv : Value} {params : Arguments} {body : Expr} {scope : Scope} {N : List Str} {x y : Str} {w : Str} {t : Tok} {vf : V} {d : Dat} {ks : List Int} (I : Inv X pins σ H s) (hr : Room (k + 1) A) (hA : A.frames = X.A.frames)
    (of : s.heap.get? f = some (PySem.W.kla_obj "<lambda>" (X.env.qual ++ "<lambda>") params body scope (cloFrom X.env.cells scope.names []) pm c' ctv)) (hc : s.heap.CodeRec (.ref c') (X.env.qual ++ "<lambda>"))
    (S : NScope N [x] [y] scope) (cp : Caps X (cloFrom X.env.cells scope.names []) [y] [jf]) (hv : σ[jf]? = some (some vf)) (ha : At X.K H vf d) (fd : flat d = true)
    (hbind : ∀ u, bindArgs (PySem.W.kla_fn "<lambda>" (X.env.qual ++ "<lambda>") params body scope (cloFrom X.env.cells scope.names []) pm (.ref c') ctv) ⟨[u], []⟩ = pure [(x, u)])
    (hbody : ∀ (s : Shared) (H : Hp), Room k (A.deeper (envF (lamF X params scope c') f s.heap.objs.size)) → EvO (lamX X A N params scope c' f s H) H (.im (.str w) :: .im d :: List.replicate (N.length - 2) .no) body (lstd .int ks)) :
    wpAny (model X.prog X.w) A (call (.ref f) [.str w t]) (KeyL (frs X.stack) ks s) (fun _ _ => False) s := by
  have e0 := env_fz I.env0 hA
  have C := cells_of I cp
  have C0 : CellsAt (lamF X params scope c').cl [y] ([jf].map (NdefX.slotAt σ)) s.heap (Hfz H s.heap) := ⟨C.len, fun z c e => ⟨hfz_none (C.all z c e).1, (C.all z c e).2⟩, C.inj, C.has⟩
  have hsl : NdefX.slotAt σ jf = some vf := by unfold NdefX.slotAt; rw [hv]
  have rc : codeAny (model X.prog X.w) A (.call (.ref f) ⟨[.str w t], []⟩) (CR (L2.CX X.prog X.w) X.stack X.prog X.w (Hfz H s.heap) s (fun v H' => ∃ p vs, v = .ref p ∧ Hfz H s.heap p = none ∧ H' p = some (.lst vs) ∧ vs = ks.map V.int) (fun _ _ _ => False)) s := by
    refine PySem.W.kla_callFunE hr.depth of rfl S.co S.gen rfl hc ?_
    rw [hbind]
    refine wpAny_pure (wpAny_newFunctionEnv S.nocell (fun ⟨n, _⟩ hy => S.par n (List.of_mem_zip (l₁ := [x]) (l₂ := [Value.str w t]) hy).1) (fun h₁ hns hsb => ⟨I.nolimit.fresh _ hsb, ?_⟩) S.kind)
    show codeAny _ _ (.expr body (envF (lamF X params scope c') f s.heap.objs.size)) _ _
    have kp : ∀ b o, s.heap.get? b = some o → h₁.get? b = some o := fun b o e => hsb.extBut b o (Nat.ne_of_lt (Heap.lt_size e)) (Heap.get?_push_of_some _ e)
    have J : Inv (lamX X A N params scope c' f s (Hfz H s.heap)) [] (startF N [.str w] ([jf].map (NdefX.slotAt σ))) (Hfz H s.heap) { s with heap := h₁, toks := s.toks + [(x, Value.str w t)].length } :=
      inv_startN S hr.hd e0 rfl (.cons ⟨t, rfl⟩ .nil) C0 hns kp
    have hσ : startF N [V.str w] ([jf].map (NdefX.slotAt σ)) = some (.str w) :: some vf :: List.replicate (N.length - 1 - 1) none := by
      show [some (V.str w)] ++ ([NdefX.slotAt σ jf] ++ List.replicate (N.length - 1 - 1) none) = _
      rw [hsl]
      rfl
    have hN2 : 2 ≤ N.length := by
      have := congrArg List.length S.pre
      rw [List.length_take] at this
      simp at this
      omega
    have r : Rep X.K (Hfz H s.heap) (.im (.str w) :: .im d :: List.replicate (N.length - 2) .no) (startF N [.str w] ([jf].map (NdefX.slotAt σ))) (Hfz H s.heap) (Hfz H s.heap) := by
      rw [hσ]
      refine ⟨hfz_tk, Same.refl _, Same.refl _, imm_sub _, fun a o e m => ?_, by simp [List.length_replicate]; omega, fun i dd e => ?_, fun i dd e => ?_, fun i dd e => ?_, fun i dd e => ?_, fun i j d1 d2 p ne e => ?_⟩
      · obtain ⟨_, _, rfl, _⟩ := hfz_cs e
        exact m.elim
      · match i, e with
        | 0, e => cases e; exact ⟨_, rfl, .str w⟩
        | 1, e => cases e; exact ⟨_, rfl, ha.flat2 (hfz_sq I.hok) fd⟩
        | i + 2, e =>
          rw [List.getElem?_cons_succ, List.getElem?_cons_succ, List.getElem?_replicate] at e
          split at e <;> cases e
      all_goals
        rcases i with _ | _ | i
        · cases e
        · cases e
        · rw [List.getElem?_cons_succ, List.getElem?_cons_succ, List.getElem?_replicate] at e
          split at e <;> cases e
    have W := (hbody s (Hfz H s.heap) (hr.deeper _) _ _ _ r).go [] _ J
    refine PySem.W.kla_codeExpr (wpAny_mono W (fun v s' hq => ?_) fun e s' hq => hq)
    obtain ⟨v', H', J', rv, N', p, e1, hp, _, _, r', _, vs, o1, o2⟩ := hq
    exact ⟨v', H', J'.os, J'.bare, J'.base, J'.hok, rv, p, vs, e1, hp, o1, Ats.ints o2⟩
  refine wpAny_call (codeAny_mono rc fun r s' hq => ?_)
  cases r with
  | error e =>
    obtain ⟨_, _, _, _, _, _, _, _, _, _, _, _, z⟩ := (show L2.CX X.prog X.w X.stack _ s _ e s' from hq)
    exact z.elim
  | ok fl =>
    cases fl with
    | next => exact False.elim hq
    | brk => exact False.elim hq
    | cont => exact False.elim hq
    | ret u =>
      obtain ⟨v, H', os, bare, un, hok, rv, p, vs, e1, hp, o1, e2⟩ := hq
      subst e1 e2
      have eu : u = Value.ref p := rv
      subst eu
      obtain ⟨hz, its, n, rr, ho⟩ := (show ObjOk X.prog X.w H' s'.heap p (.lst (ks.map V.int)) from hok p _ o1)
      obtain ⟨hh, g, dr, tk, os'⟩ := s'
      have eo : os' = s.os := os
      subst eo
      have kw := kw_fz I.hok I.stkFree un hok
      have pn : s.heap.get? p = none := by
        cases q : s.heap.get? p with
        | none => rfl
        | some o =>
          have nH := un.free p o q hp (by simp)
          rw [nH] at o1
          cases o1
      have pf : p ∉ frs X.stack := fun z => by
        obtain ⟨_, o, e, _⟩ := I.stack.mem z
        rw [pn] at e
        cases e
      exact ⟨hh, g, dr, tk, p, its, n, rfl, fun _ => bare, kw, rfl, pn, pf, ho, rr.ints⟩

end
end B

namespace B
open PySem PySem.Spec PyProof.Rows L2 PySem.W LamX NdefX
theorem Ts.mono {H H' : Hp} (s : Same H H') (t : Ts H) : Ts H' := fun p hp => by
  obtain ⟨ps, e⟩ := t p hp
  have c := s _ _ e
  generalize H' p.1 = y at c
  cases c with
  | eq => exact ⟨_, rfl⟩
  | grow _ qs => exact ⟨qs, rfl⟩
theorem texts_each {K : PySem.W.Frag} {H : Hp} : ∀ {l : List (List Nat)} {ws : List V} {its : List Value}, Ats K H ws (l.map tx) → Vals ws its → EachIs (fun (v : Value) (w : List Nat) => ∃ t, v = .str (SX.S w) t) its l
  | [], _, _, h, r => by cases h; cases r; exact .nil
  | w :: l, _, _, h, r => by
    cases h with
    | cons a t =>
      cases r with
      | cons r1 r2 =>
        have z := at_str a
        subst z
        exact .cons r1 (texts_each t r2)
theorem each_texts {out : List Value} {l : List (List Nat)} (h : EachIs (fun (v : Value) (w : List Nat) => ∃ t, v = .str (SX.S w) t) out l) : Vals (l.map fun w => V.str (SX.S w)) out ∧ out.length = l.length := by
  induction h with
  | nil => exact ⟨.nil, rfl⟩
  | cons a _ ih => exact ⟨.cons a ih.1, congrArg (· + 1) ih.2⟩
theorem ats_txs {K : PySem.W.Frag} {N : Hp} : ∀ l : List (List Nat), Ats K N (l.map fun w => V.str (SX.S w)) (l.map tx)
  | [] => .nil
  | w :: l => .cons (.str _) (ats_txs l)
/-- sorted by the key, texts -/
def srtK (ks : List Nat → List Int) (l : List (List Nat)) : List (List Nat) := l.mergeSort (dataLe false fun x => pdL (ks x))
section
variable {X : Cx} {H0 : Hp} {ρ : Env'} {a : Expr} {l : List (List Nat)} {ks : List Nat → List Int} {p lpos kpos pos : Pos} {params : Arguments} {body : Expr} {scope : Scope} {c P : Addr} {jf k : Nat} {N' : List Str} {x y : Str} {d : Dat}
theorem eo_sortedLam (hS : Ts H0) (ha : EvB X H0 ρ a (lstd tx l)) (hf : ρ[jf]? = some (.im d)) (fd : flat d = true) (hr : Room (k + 2) X.A) (TB : TabB X.base X.mg c P) (hcode : X.env.code = .ref c) (hm : (P, X.env.qual ++ "<lambda>") ∈ tabs0) (hu : ∀ q ∈ tabs0, q.1 = P → q.2 = X.env.qual ++ "<lambda>")
    (hdef : defaultsOf params X.env = ([], [])) (hfree : ∀ z ∈ scope.names, z.2 = .free → X.env.scope.names.lookup z.1 = some .cell ∨ X.env.scope.names.lookup z.1 = some .free)
    (S : NScope N' [x] [y] scope) (cp : X.Ok → Caps X (cloFrom X.env.cells scope.names []) [y] [jf])
    (hbind : ∀ (pm ctv : Value) (c' : Addr) (cl : List (Str × Addr)) (u : Value), bindArgs (PySem.W.kla_fn "<lambda>" (X.env.qual ++ "<lambda>") params body scope cl pm (.ref c') ctv) ⟨[u], []⟩ = pure [(x, u)])
    (hbody : ∀ w ∈ l, ∀ (A : Around) (c' f : Addr) (s : Shared) (H : Hp), Room k (A.deeper (envF (lamF X params scope c') f s.heap.objs.size)) → EvO (lamX X A N' params scope c' f s H) H (.im (tx w) :: .im d :: List.replicate (N'.length - 2) .no) body (lstd .int (ks w)))
    (hmg : X.mg "sorted" = none) (hg : Gl X "sorted" := by rfl)
    (he : backTo pos (starEach [a] X.env) = (false, eval a X.env) :: backTo pos (starEach [] X.env) := by rfl) (he2 : starEach [a] X.env = (false, eval a X.env) :: starEach [] X.env := by rfl) (hpl : (backTo pos (starEach [a] X.env)).any (·.1) = false := by rfl) :
    EvO X H0 ρ (.Call (.Name "sorted" p) [a] [⟨some "key", .Lambda params body scope lpos, kpos⟩] pos) (lstd tx (srtK ks l)) := fun σ H N r => by
  unfold WE
  intro pins s I
  refine wpAny_Call_Name_kw (ld_blt I hg hmg (by decide +kernel : bootBuiltins "sorted" = some (.builtin "sorted")) ?_)
  have W := eab1 ha he2 σ H N r
  unfold WA at W
  refine PyProof.Rows.callWith_kw (thn (W pos pins s I) fun us s1 ⟨vs, H1, I1, r1, N1, s1', n1, rr, a1⟩ => ?_) he hpl rfl rfl
  obtain ⟨v, e1, a2⟩ := ats_one a1
  obtain ⟨q, ws, e2, h1, h2⟩ := at_lst a2
  subst e1 e2
  obtain rfl := Vals.ref1 r1
  show wpAny _ _ (evalAll ((do let v ← eval (.Lambda params body scope lpos) X.env; standAt pos; pure v) :: [])) _ _ s1
  refine wpAny_evalAll_cons (wpAny_bind ?_)
  refine lam_mk I1 TB hcode hm hu rr.tab (hS.mono rr.old) hdef (fun z hz e => (hfree z hz e).elim (fun w => I1.ok.has _ (.inl w)) fun w => I1.ok.has _ (.inr w)) fun f c' pm ctv H2 s2 I2 sm eN T2 hf2 n1' n2' hc => ?_
  refine wpAny_bind (wpAny_standAt (wpAny_pure (wpAny_evalAll_nil ?_)))
  show wpAny _ _ (call (.builtin "sorted") [.ref q] [(Str.ofString "key", .ref f)]) _ _ s2
  obtain ⟨its, rv, hl, hz⟩ := I2.list (sql_same sm h1)
  obtain ⟨vf, f1, f2⟩ := rr.im jf d hf
  have f3 : At X.K H2 vf d := f2.mono (rr.sub.trans sm)
  have hlen : its.length = l.length := by rw [← rv.length, h2.length, List.length_map]
  have item : ∀ (i : Nat) (v : Value), its[i]? = some v → ∃ w t, l[i]? = some w ∧ v = .str (SX.S w) t := fun i v e => by
    have hi : i < l.length := by rw [← hlen]; exact (List.getElem?_eq_some_iff.mp e).1
    have e3 : (l.map tx)[i]? = some (tx l[i]) := by rw [List.getElem?_map, List.getElem?_eq_getElem hi]; rfl
    obtain ⟨z, z1, z2⟩ := h2.get e3
    obtain ⟨u, u1, u2⟩ := rv.get z1
    rw [e] at u1
    cases u1
    have z3 := at_str z2
    subst z3
    obtain ⟨t, rfl⟩ := (show ∃ t, v = Value.str (SX.S l[i]) t from u2)
    exact ⟨l[i], t, List.getElem?_eq_getElem hi, rfl⟩
  have hr1 : Room (k + 1) X.A.in1.in1 := ⟨hr.hd, by have := hr.dp; show X.A.depth + 3 * (k + 1) + 5 < _; omega, by have := hr.un; show X.A.units + 1 + 1 + 16 * (k + 1) + 200 < _; omega⟩
  refine sorted_L (fs := frs X.stack) (b := false) (kz := l.map ks) hl.isList (by rw [List.length_map, hlen]) (by rw [hlen, ← List.length_map (f := tx), ← h2.length]; exact hz) (fun z hz => by obtain ⟨_, o, e, _⟩ := I2.stack.mem hz; exact Heap.lt_size e) (by have := hr.un; omega) (PyProof.Rows.ksk_s1 _ _) (fun _ => PyProof.Rows.ksk_l1 _ _) (fun _ => PyProof.Rows.ksk_t1 _ _)
    (fun i v kk hv hk h' g dr tk hg kw => ?_) fun out cc h' g dr tk hg kw hD ko => ?_
  · obtain ⟨w, t, w1, rfl⟩ := item i v hv
    rw [List.getElem?_map, w1] at hk
    cases hk
    have J := inv_kw (g := g) (dr := dr) (tk := tk) I2 (hg I2.bare) kw
    exact lam_turn (A := X.A.in1.in1) J hr1 rfl (kw.keep f _ n2' hf2) (codeO_at J.hok hc) S (cp I2.ok) f1 f3 fd (fun u => hbind _ _ _ _ u) (fun s H hro => hbody w (List.mem_of_getElem? w1) _ _ _ s H hro)
  · have hD2 := hD
    generalize hq : s2.heap.objs.size + 1 = q' at hD2
    have fr : H2 q' = none := I2.hok.fresh (by rw [← hq]; exact Nat.le_succ _)
    have no2 : s2.heap.get? q' = none := by rw [← hq]; exact Heap.get?_none_of_le (Nat.le_succ _)
    have ko2 : KeyedOut false (l.map fun w => pdL (ks w)) its out := by
      have := ko
      rw [List.map_map] at this
      exact this
    have each := keyedOut_each (fun w => pdL (ks w)) ko2 (texts_each h2 rv)
    obtain ⟨e1, e2⟩ := each_texts each
    have hlen2 : out.length = l.length := by rw [e2, List.length_mergeSort]
    have un : L2.Un (frs X.stack) [] H2 (upd H2 q' (.lst ((srtK ks l).map fun w => V.str (SX.S w)))) s2.heap h' := by
      have u := kw.un (H := H2)
      have ne : ∀ {b : Addr} {o : HO}, H2 b = some o → b ≠ q' := fun {b o} e => ne_of_none e fr
      refine ⟨u.keep, u.slot, fun b o e n _ => ?_, u.there, fun b xs e => by rw [upd_ne (ne e)]; exact e, fun b o u e => by rw [upd_ne (ne e)]; exact e, fun b ps e => ⟨#[], by rw [upd_ne (ne e), Array.append_empty]; exact e⟩⟩
      rw [upd_ne (fun z => by rw [z, no2] at e; cases e)]
      exact n
    have ok2 : HOk X.prog X.w (upd H2 q' (.lst ((srtK ks l).map fun w => V.str (SX.S w)))) h' := fun b u e => by
      by_cases z : b = q'
      · subst z
        rw [upd_same] at e
        cases e
        exact ⟨by rw [List.length_map]; show (l.mergeSort _).length ≤ _; rw [List.length_mergeSort, ← List.length_map (f := tx), ← h2.length]; exact hz, out, cc, e1, by rw [← hq]; exact hD⟩
      · rw [upd_ne z] at e
        exact ((hok_kw I2.hok I2.stkFree kw) b u e).stay (fun _ _ _ y => y) (fun d y => by rw [upd_ne (ne_of_none y fr)]; exact y) fun d xs y => by rw [upd_ne (ne_of_none y fr)]; exact y
    refine I2.after ⟨.ref q', _, rfl, hg I2.bare, un, ok2, rfl, ?_⟩
    have r2 := rr.grow sm T2
    obtain ⟨r3, n3⟩ := eo_new (o := .lst ((srtK ks l).map fun w => V.str (SX.S w))) r2 fr
    have f1' : H1 q' = none := sm.free fr
    exact ⟨N1, q', rfl, s1'.free f1', (s1'.trans sm).trans (Same.of_none fr), n1, r3, n3, _, upd_same, ats_txs _⟩
end
end B

namespace B
open PySem PySem.Spec PyProof.Rows L2
/-! ### defs that make lambdas, or call such: the tables are known -/
def spT (K : PySem.W.Frag) (mg : Str → Option Value) (R : List Dat → Res → Prop) : Sp := fun vs H Q E => Ts H ∧ spR K mg R vs H Q E
def GFnT (P : Program) (w : World) (K : PySem.W.Frag) (mg : Str → Option Value) (base : Heap) (x : Str) (k : Nat) (R : List Dat → Res → Prop) : Prop :=
  ∃ f fd ps, FnOk P w K mg base (L2.CX P w) k f fd ps (spT K mg R) ∧ mg x = some (.ref f) ∧ PySem.W.keepIn K (.ref f) = true ∧ Binds K fd ps []
section
variable {P : Program} {w : World} {K : PySem.W.Frag} {mg : Str → Option Value} {base : Heap} {x : Str} {st : Stmt} {ps N : List Str} {k : Nat} {R : List Dat → Res → Prop} {f : Addr} {fd : FuncData}
theorem fn_mkT (F : Fun K x x st f fd) (S : FnScope N ps (defScope st)) (hl : ∀ ds o, R ds o → ds.length = ps.length)
    (body : ∀ (A : Around) (outer : List PySem.Env) (s : Shared) (H : Hp) (E : XK), Room k (XX P w K mg base N x st f fd.code A outer s H E).A → ∀ ds o, R ds o → ∃ es, Ents es ds ∧ ∀ H0, Ts H0 → Ends' (XX P w K mg base N x st f fd.code A outer s H E) H0 (es ++ List.replicate (N.length - ps.length) .no) (defBody st) o) : FnOk P w K mg base (L2.CX P w) (k + 1) f fd ps (spT K mg R) := by
  obtain ⟨oc, od, kV, doc, pm, an, cdv, ct, osl, rfl, lk, hcd⟩ := F.ex
  refine fn_of lk hcd S (fun vs H Q E ⟨_, _, ds, o, hr, a, _⟩ => by rw [a.length]; exact hl ds o hr) fun A outer s H vs Q E hr hsp => ?_
  obtain ⟨ts, tk, ds, o, hR, a, q⟩ := hsp
  obtain ⟨es, he, hbody⟩ := body A outer s H E hr ds o hR
  have hlen : vs.length = ps.length := by rw [a.length]; exact hl ds o hR
  have r : Rep K H (es ++ List.replicate (N.length - ps.length) .no) (L2.start N vs) H (Imm H) := hlen ▸ rep_start tk he a
  have hb := hbody H ts
  refine ⟨_, pb_w, ?_⟩
  cases hb with
  | ret h => exact h { nx := fun _ H' => Q .non H', rt := Q } _ _ _ r fun v H' s _ rt => q v H' s rt
  | non h => exact h { nx := fun _ H' => Q .non H', rt := Q } _ _ _ r fun σ H' N' s r' => q .non H' r'.old ⟨r'.tab, N', r'.sub, r'.fresh, .non⟩
  | own h => exact h { nx := fun _ H' => Q .non H', rt := Q } _ _ _ r fun p H' N' tk s1 _ s2 s3 s4 s5 s6 => q p H' N' tk s1 s2 s3 s4 s5 s6
  | exc h => exact h { nx := fun _ H' => Q .non H', rt := Q } _ _ _ r ⟨_, takes_of rfl rfl rfl rfl, fun C σ H' N' hm s r' => q C H' hm r'.tab r'.old⟩
theorem GFnT.mk2 (D : Df K mg x st ps) (S : FnScope N ps (defScope st)) (hl : ∀ ds o, R ds o → ds.length = ps.length)
    (body : ∀ (f : Addr) (cdv : Value) (A : Around) (outer : List PySem.Env) (s : Shared) (H : Hp) (E : XK), Room k (XX P w K mg base N x st f cdv A outer s H E).A → ∀ ds o, R ds o → ∃ es, Ents es ds ∧ ∀ H0, Ts H0 → Ends' (XX P w K mg base N x st f cdv A outer s H E) H0 (es ++ List.replicate (N.length - ps.length) .no) (defBody st) o) : GFnT P w K mg base x (k + 1) R := by
  obtain ⟨f, fd, F, hm, hb⟩ := D
  exact ⟨f, fd, ps, fn_mkT F S hl fun A outer s H E => body f fd.code A outer s H E, hm, F.kp, hb⟩
theorem GFnT.mono {k' : Nat} (G : GFnT P w K mg base x k R) (h : k ≤ k') : GFnT P w K mg base x k' R := by
  obtain ⟨f, fd, ps, F, r⟩ := G
  exact ⟨f, fd, ps, F.mono h, r⟩
theorem FnOk_subT {P : Program} {w : World} {K : PySem.W.Frag} {mg : Str → Option Value} {base : Heap} {k : Nat} {f : Addr} {fd : FuncData} {ps : List Str} {R R' : List Dat → Res → Prop} (h : ∀ ds o, R' ds o → R ds o) (F : FnOk P w K mg base (L2.CX P w) k f fd ps (spT K mg R)) : FnOk P w K mg base (L2.CX P w) k f fd ps (spT K mg R') := F.imp fun vs H Q E ⟨ts, tk, ds, o, q, r⟩ => ⟨ts, tk, ds, o, h ds o q, r⟩
end
section
variable {X : Cx} {H0 : Hp} {ρ ρ1 ρ2 : Env'} {α : Type} {a b c e : Expr} {es : List Expr} {st : Stmt} {sts rest : List Stmt} {d d1 d2 : Dat} {ds : List Dat} {p pos : Pos} {o o1 : Outc} {x n : Str} {k k' : Nat} {R : List Dat → Res → Prop} {m : M α} {en : α → Dat}
theorem ev_callT (hT : Ts H0) (G : GFnT X.prog X.w X.K X.mg X.base x k R) (hr : Room k X.A) (ha : EvAB X H0 ρ (e :: es) ds) (q : R ds (.val d)) (hg : Gl X x := by rfl) (hdb : (x == ("__debug__" : Str)) = false := by decide)
    (he : starEach (e :: es) X.env = (false, eval e X.env) :: starEach es X.env := by rfl) (hpl : (backTo pos (starEach es X.env)).any (·.1) = false := by rfl) : Ev X H0 ρ (.Call (.Name x p) (e :: es) [] pos) d := fun σ H N r => by
  obtain ⟨f, fd, ps, F, hm, hk, hb⟩ := G
  refine we_of (pe_call F hr hg hm hk hb .nil passL pa_w hdb he hpl) ((ha σ H N r).imp fun vs H1 ⟨N1, s1, n1, r1, a1⟩ => ⟨hT.mono r1.old, r1.tab, ds, .val d, q, by rw [List.append_nil]; exact a1, fun v H' s' rt => ?_⟩)
  obtain ⟨N2, n2, r2, a2⟩ := r1.ret s' rt
  exact ⟨N2, s1.trans s', n1.trans n2, r2, a2⟩
theorem eo_callT (hT : Ts H0) (G : GFnT X.prog X.w X.K X.mg X.base x k R) (hr : Room k X.A) (ha : EvAB X H0 ρ (e :: es) ds) (q : R ds (.own d)) (hg : Gl X x := by rfl) (hdb : (x == ("__debug__" : Str)) = false := by decide)
    (he : starEach (e :: es) X.env = (false, eval e X.env) :: starEach es X.env := by rfl) (hpl : (backTo pos (starEach es X.env)).any (·.1) = false := by rfl) : EvO X H0 ρ (.Call (.Name x p) (e :: es) [] pos) d := fun σ H N r => by
  obtain ⟨f, fd, ps, F, hm, hk, hb⟩ := G
  refine we_of (pe_call F hr hg hm hk hb .nil passL pa_w hdb he hpl) ((ha σ H N r).imp fun vs H1 ⟨N1, s1, n1, r1, a1⟩ => ⟨hT.mono r1.old, r1.tab, ds, .own d, q, by rw [List.append_nil]; exact a1, fun p H' M tk s' m1 m2 m3 m4 ow => ?_⟩)
  have mN : N1 p = none := r1.sub.free m3
  have r1' := r1.grow s' tk
  have bp : both N1 M p = none := by unfold both; rw [if_pos mN]; exact m4
  refine ⟨both N1 M, p, rfl, s1.free m3, s1.trans s', n1.trans (both_l _ _), r1'.more (both_l N1 M) (both_sub r1'.sub m1) (fun a o h m => ?_) (fun i d q h1 h2 h3 => ?_), bp, ?_⟩
  · unfold both at h
    split at h
    · exact r1.old.free (m2 a o h m)
    · exact r1.fresh a o h m
  · unfold both
    rw [if_pos h3]
    obtain ⟨p', o', e1, e2, m⟩ := r1.own_some h1
    rw [h2] at e1
    cases e1
    cases z : M q with
    | none => rfl
    | some u =>
      have e3 := m1 q u z
      rw [(s' _ _ e2).mu m] at e3
      cases e3 with
      | eq =>
        have := m2 q _ z m
        rw [e2] at this
        cases this
      | grow _ _ => exact m.elim
  · cases d with
    | lst ds => obtain ⟨vs, q1, q2⟩ := ow; exact ⟨vs, q1, q2.mono (both_r r1'.sub m1)⟩
    | dic ds => obtain ⟨vs, q1, q2⟩ := ow; exact ⟨vs, q1, q2.mono (both_r r1'.sub m1)⟩
    | dit ks ds => obtain ⟨vs, q1, ql, q2⟩ := ow; exact ⟨vs, q1, ql, q2.mono (both_r r1'.sub m1)⟩
    | _ => exact ow
theorem exc_callT (hT : Ts H0) (G : GFnT X.prog X.w X.K X.mg X.base x k R) (hr : Room k X.A) (ha : EvAB X H0 ρ (e :: es) ds) (q : R ds (.exc n)) (hg : Gl X x := by rfl) (hdb : (x == ("__debug__" : Str)) = false := by decide)
    (he : starEach (e :: es) X.env = (false, eval e X.env) :: starEach es X.env := by rfl) (hpl : (backTo pos (starEach es X.env)).any (·.1) = false := by rfl) : EvX X H0 ρ (.Call (.Name x p) (e :: es) [] pos) n := fun σ H N r W tk kw Q => by
  obtain ⟨f, fd, ps, F, hm, hk, hb⟩ := G
  refine we_of (pe_callS F hr hg hm hk hb (fun σ => passAt tk σ) pa_w hdb he hpl) ((ha σ H N r).imp fun vs H1 ⟨N1, s1, n1, r1, a1⟩ => ⟨hT.mono r1.old, r1.tab, ds, .exc n, q, a1, fun C H' hC tk' s' => ?_⟩)
  exact kw C H' N1 hC n1 (r1.grow s' tk')
theorem evm_callT {R : List Dat → Res → Prop} {kk : Nat} (hT : Ts H0) (G : GFnT X.prog X.w X.K X.mg X.base x kk R) (hr : Room kk X.A) (ha : EvAB X H0 ρ (e :: es) ds) (q : ∀ o, Rm en m o → R ds o) (hg : Gl X x := by rfl) (hdb : (x == ("__debug__" : Str)) = false := by decide)
    (he : starEach (e :: es) X.env = (false, eval e X.env) :: starEach es X.env := by rfl) (hpl : (backTo pos (starEach es X.env)).any (·.1) = false := by rfl) : EvM X H0 ρ (.Call (.Name x p) (e :: es) [] pos) en m := by
  cases m with
  | ok v => exact ev_callT hT G hr ha (q _ rfl) hg hdb he hpl
  | ex n => exact exc_callT hT G hr ha (q _ rfl) hg hdb he hpl
  | far => trivial
theorem eom_callT {R : List Dat → Res → Prop} {kk : Nat} (hT : Ts H0) (G : GFnT X.prog X.w X.K X.mg X.base x kk R) (hr : Room kk X.A) (ha : EvAB X H0 ρ (e :: es) ds) (q : ∀ o, RmO en m o → R ds o) (hg : Gl X x := by rfl) (hdb : (x == ("__debug__" : Str)) = false := by decide)
    (he : starEach (e :: es) X.env = (false, eval e X.env) :: starEach es X.env := by rfl) (hpl : (backTo pos (starEach es X.env)).any (·.1) = false := by rfl) : EoM X H0 ρ (.Call (.Name x p) (e :: es) [] pos) en m := by
  cases m with
  | ok v => exact eo_callT hT G hr ha (q _ rfl) hg hdb he hpl
  | ex n => exact exc_callT hT G hr ha (q _ rfl) hg hdb he hpl
  | far => trivial
end
end B

namespace B
open PySem PySem.Spec PyProof.Rows L2
/-! ### a def that makes a lambda; the end of a law with tables -/
def DfC (K : PySem.W.Frag) (mg : Str → Option Value) (x : Str) (st : Stmt) (ps : List Str) (c : Addr) : Prop := ∃ f fd, Fun K x x st f fd ∧ mg x = some (.ref f) ∧ Binds K fd ps [] ∧ fd.code = .ref c
section
variable {P : Program} {w : World} {K : PySem.W.Frag} {mg : Str → Option Value} {base : Heap} {x : Str} {st : Stmt} {ps N : List Str} {k : Nat} {R : List Dat → Res → Prop} {f : Addr} {fd : FuncData} {c Pt : Addr} {h : Heap}
theorem dfC_of (X : K.In h) (G : h.Ns mainGlobals mg) (D : Df K mg x st ps) (ht : PySem.W.tabIn K x = some (c, Pt)) : DfC K mg x st ps c := by
  obtain ⟨f, fd, F, hm, hb⟩ := D
  obtain ⟨oc, od, kV, doc, pm, an, cdv, ct, osl, e, lk, hcd⟩ := F.ex
  subst e
  exact ⟨f, _, F, hm, hb, PySem.W.law_code X G ht hm (X _ _ lk) rfl⟩
theorem GFnT.mkC (D : DfC K mg x st ps c) (S : FnScope N ps (defScope st)) (hl : ∀ ds o, R ds o → ds.length = ps.length)
    (body : ∀ (f : Addr) (A : Around) (outer : List PySem.Env) (s : Shared) (H : Hp) (E : XK), Room k (XX P w K mg base N x st f (.ref c) A outer s H E).A → ∀ ds o, R ds o → ∃ es, Ents es ds ∧ ∀ H0, Ts H0 → Ends' (XX P w K mg base N x st f (.ref c) A outer s H E) H0 (es ++ List.replicate (N.length - ps.length) .no) (defBody st) o) : GFnT P w K mg base x (k + 1) R := by
  obtain ⟨f, fd, F, hm, hb, hc⟩ := D
  exact ⟨f, fd, ps, fn_mkT F S hl fun A outer s H E => by rw [hc]; exact body f A outer s H E, hm, F.kp, hb⟩
def spLawT (K : PySem.W.Frag) : Sp := fun vs H Q E => Ts H ∧ spLaw K vs H Q E
theorem law_impT (F : FnOk P w K mg base (L2.CX P w) k f fd ["script"] (spT K mg R_law)) : FnOk P w K mg base (L2.CX P w) k f fd ["script"] (spLawT K) := F.imp fun vs H Q E ⟨ts, a, ns, tk, e, hS, hl, hb, q⟩ => by
  subst e
  exact ⟨ts, tk, [.lst (ns.map .int)], .val (.bl true), ⟨ns, rfl, hl, hb, rfl⟩, .cons (.lst hS (ats_ints ns)) .nil, fun v H' _ ⟨_, N, _, _, a⟩ => q v H' (at_bl a)⟩
end
theorem compM_one {α β : Type} (g : α → β) (xs : List α) : compM (fun _ => M.ok true) (fun x => M.ok (g x)) xs = M.ok (xs.map g) := compM_map (fun _ _ => rfl) (fun _ _ => rfl)
/-- the lambda of a def's one sorted(..) -/
def lamScope : Expr → Scope
  | .Lambda _ _ sc _ => sc
  | _ => default
def keyScope : List Stmt → Scope
  | .Return (some (.Call _ _ [kw] _)) _ :: _ => lamScope kw.value
  | _ => default
theorem walkT {l : PySem.W.OpenLaw} {k : Nat} {q : Program} {loose : List Str} {XP : (Str → Option Value) → Heap → Prop} {YP : World → Heap → Prop} {d : DefRec} {K : Params → PySem.W.Frag} (xs : List (Str × Addr × Addr)) (hn : l.most = some 63) (hdf : d.params.defaults = []) (hr : Room k callerA)
    (hY : ∀ (w : World) (h : Heap), YP w h → (K w.params).In h)
    (hx : ∀ x ∈ xs, ∃ d', (recsOf q).find? (fun e => e.name == x.1) = some d') (ht : ∀ p ∈ tabs0, ∃ x ∈ xs, x.2.2 = p.1)
    (F : ∀ (w : World) (mg : Str → Option Value) (fa : Addr) (h : Heap), (K w.params).In h → h.Ns mainGlobals mg → mg d.name = some (.ref fa) →
      (∀ x ∈ xs, PySem.W.tabIn (K w.params) x.1 = some x.2 ∧ (K w.params).lookup x.2.2 = none) ∧
      ∃ fd : FuncData, (∀ (s : Shared) (u : Value), BindsTo s fd ⟨[u], []⟩ [("script", u)]) ∧ ∀ base : Heap, (K w.params).In base → base.Ns mainGlobals mg → (∀ x ∈ xs, LamX.TabB base mg x.2.1 x.2.2) → FnOk l.prog w (K w.params) mg base (L2.CX l.prog w) k fa fd ["script"] (spLawT (K w.params))) :
    PySem.W.WalkO q loose XP YP l.row.toRowW d [] (fun f vs => PySem.call f vs) := by
  refine Att.attach_callB hn hdf fun w s₀ s₁ mg mb fa o pm cd doc a vs ns G Y ho hd hcd hmg hobj hints hlen hbits hg => ?_
  have KX := hY w _ Y
  obtain ⟨hk, fd, hb, hF⟩ := F w mg fa _ KX G.T.g hmg
  have hh : ∀ x ∈ xs, PySem.W.CodeHd s₁.heap x.2.1 x.2.2 ∧ s₁.heap.get? x.2.2 = some (PySem.W.tabObj #[]) := fun x hm => by
    obtain ⟨d', e⟩ := hx x hm
    exact PySem.W.tab_of G.T KX e (hk x hm).1
  have mem : ∀ {p : Addr × Addr}, p ∈ xs.map (·.2) → ∃ x ∈ xs, x.2 = p := fun {p} hp => List.mem_map.mp hp
  refine LamX.law_callTs (cs := xs.map (·.2)) (CX := L2.CX l.prog w) (sp := spLawT (K w.params)) KX G.T.g G.T.b G.T.builtins G.T.nolimit hg (fun p hp => ?_) (fun p hp => ?_) (fun p hp => ?_) G.T.bmain hobj hints (Nat.le_trans hlen (by decide)) hr
    (fun base h1 h2 h3 => hF base h1 h2 fun x hm => h3 x.2 (List.mem_map_of_mem hm)) hb (fun H hH hS => ?_) fun H e s' h => ?_
  · obtain ⟨x, hm, rfl⟩ := mem hp; exact (hh x hm).2
  · obtain ⟨x, hm, rfl⟩ := mem hp; exact (hk x hm).2
  · obtain ⟨x, hm, rfl⟩ := mem hp; exact (hh x hm).1
  · have at_ : ∀ p ∈ tabs0, H p.1 = some (.tbl #[]) := fun p hp => by
      obtain ⟨x, hm, e⟩ := ht p hp
      rw [← e]
      exact hH x.2 (List.mem_map_of_mem hm)
    exact ⟨fun p hp => ⟨_, at_ p hp⟩, a, ns, fun p hp ps _ => LamX.TabS.nil (at_ p hp), rfl, hS, hlen, hbits, fun _ _ e => e⟩
  · obtain ⟨_, _, _, _, _, _, _, _, _, _, _, _, z⟩ := h
    exact z.elim
end B

namespace B
open PySem PySem.Spec PyProof.Rows L2
/-! ### what is the def's own, lent for a while: read only, as if it had been handed in -/
inductive LendE : Ent → Ent → Prop where
  | im (d : Dat) : LendE (.im d) (.im d)
  | ol (d : Dat) : LendE (.ol d) (.ol d)
  | rf (a : Addr) : LendE (.rf a) (.rf a)
  | no (e : Ent) : LendE e .no
  | owl {ds : List Dat} (f : flats ds = true) : LendE (.ow (.lst ds)) (.ol (.lst ds))
  | owd {ds : List (Key × Dat)} (f : ∀ d ∈ ds, flat d.2 = true) : LendE (.ow (.dic ds)) (.ol (.dic ds))
inductive Lend : Env' → Env' → Prop where
  | nil : Lend [] []
  | cons {a b : Ent} {r r' : Env'} : LendE a b → Lend r r' → Lend (a :: r) (b :: r')
theorem LendE.lst {α : Type} {en : α → Dat} {l : List α} (f : ∀ a, flat (en a) = true) : LendE (.ow (lstd en l)) (.ol (lstd en l)) := .owl (flats_map f l)
theorem LendE.dic {α : Type} {en : α → Dat} {l : List (List Nat × α)} (f : ∀ a, flat (en a) = true) : LendE (.ow (dicd en l)) (.ol (dicd en l)) := .owd fun d hd => by
  obtain ⟨p, _, rfl⟩ := List.mem_map.mp (show d ∈ dm en l from hd)
  exact f p.2
theorem Lend.length {ρ ρ' : Env'} (L : Lend ρ ρ') : ρ.length = ρ'.length := by
  induction L with
  | nil => rfl
  | cons _ _ ih => rw [List.length_cons, List.length_cons, ih]
theorem Lend.get {ρ ρ' : Env'} (L : Lend ρ ρ') : ∀ {i : Nat} {e : Ent}, ρ'[i]? = some e → ∃ a, ρ[i]? = some a ∧ LendE a e := by
  induction L with
  | nil => intro i e h; cases i <;> cases h
  | cons h _ ih =>
    intro i e q
    cases i with
    | zero => cases q; exact ⟨_, rfl, h⟩
    | succ i => exact ih q
open Classical in
noncomputable def lentH (H0 H N : Hp) : Hp := fun a => if N a = none then (if Mut (H a) then H a else H0 a) else (if Mut (N a) then H0 a else H a)
theorem lentH_cs (H0 H N : Hp) (a : Addr) : lentH H0 H N a = H a ∨ lentH H0 H N a = H0 a := by
  unfold lentH
  split <;> split
  · exact .inl rfl
  · exact .inr rfl
  · exact .inr rfl
  · exact .inl rfl
theorem lentH_own {H0 H N : Hp} {a : Addr} (n : N a = none) (m : Mut (H a)) : lentH H0 H N a = H a := by
  unfold lentH
  rw [if_pos n, if_pos m]
theorem atk_imm {K : PySem.W.Frag} {H : Hp} : ∀ {vs : List (Key × V)} {ds : List (Key × Dat)}, Atk K H vs ds → (∀ d ∈ ds, flat d.2 = true) → Atk K (Imm H) vs ds
  | _, _, .nil, _ => .nil
  | _, _, .cons a t, f => .cons (At.imm a (f _ List.mem_cons_self)) (atk_imm t fun d hd => f d (List.mem_cons_of_mem _ hd))
section
variable {K : PySem.W.Frag} {H0 H N : Hp} {ρ ρ' : Env'} {σ : L2.St}
theorem Rep.lent_old (r : Rep K H0 ρ σ H N) : Same H0 (lentH H0 H N) := fun b o e => by
  rcases lentH_cs H0 H N b with q | q
  · rw [q]; exact r.old b o e
  · rw [q]; exact Cg.of e
theorem Rep.lent_new (r : Rep K H0 ρ σ H N) : Same (lentH H0 H N) H := fun b o e => by
  rcases lentH_cs H0 H N b with q | q
  · rw [q] at e; exact Cg.of e
  · rw [q] at e; exact r.old b o e
theorem Rep.lent_imN (r : Rep K H0 ρ σ H N) : Same (Imm N) (lentH H0 H N) := fun b o e => by
  have e1 := imm_eq e
  have e2 := imm_not e
  have q : lentH H0 H N b = H b := by
    unfold lentH
    rw [if_neg (by rw [e1]; intro z; cases z), if_neg (by rw [e1]; exact e2)]
  rw [q]
  exact r.sub b o e1
theorem Rep.lend (r : Rep K H0 ρ σ H N) (L : Lend ρ ρ') : Rep K (lentH H0 H N) ρ' σ H N := by
  refine ⟨r.tab, r.lent_new, r.sub, fun b o e => ?_, fun a o e m => ?_, by rw [← L.length]; exact r.len, fun i d e => ?_, fun i d e => ?_, fun i d e => ?_, fun i a e => ?_, fun i j d d' p ne e => ?_⟩
  · have e1 := imm_eq e
    have e2 := imm_not e
    cases n : N b with
    | none =>
      by_cases m : Mut (H b)
      · rw [lentH_own n m] at e1
        rw [e1] at m
        exact absurd m e2
      · have q : lentH H0 H N b = H0 b := by unfold lentH; rw [if_pos n, if_neg m]
        rw [q] at e1
        have := r.imm b o (imm_of e1 e2)
        rw [n] at this
        exact this
    | some u =>
      by_cases m : Mut (some u)
      · have q : lentH H0 H N b = H0 b := by unfold lentH; rw [if_neg (by rw [n]; intro z; cases z), if_pos (by rw [n]; exact m)]
        rw [q, r.fresh b u n m] at e1
        cases e1
      · have q : lentH H0 H N b = H b := by unfold lentH; rw [if_neg (by rw [n]; intro z; cases z), if_neg (by rw [n]; exact m)]
        rw [q] at e1
        have c := r.sub b u n
        rw [e1] at c
        cases c with
        | eq => exact .eq _
        | grow ps qs => exact .grow qs ps
  · have q : lentH H0 H N a = H0 a := by unfold lentH; rw [if_neg (by rw [e]; intro z; cases z), if_pos (by rw [e]; exact m)]
    rw [q]
    exact r.fresh a o e m
  · obtain ⟨a, e1, l⟩ := L.get e
    cases l with
    | im => exact r.im i d e1
  · obtain ⟨a, e1, l⟩ := L.get e
    cases l with
    | ol =>
      obtain ⟨v, a1, a2⟩ := r.ol i d e1
      exact ⟨v, a1, a2.mono r.lent_old⟩
    | owl f =>
      obtain ⟨p, a1, _, a3, vs, b1, b2⟩ := r.ow i _ e1
      exact ⟨_, a1, .lst (.inl (.inl ((lentH_own a3 (by rw [b1]; exact True.intro)).trans b1))) ((b2.imm f).mono r.lent_imN)⟩
    | owd f =>
      obtain ⟨p, a1, _, a3, vs, b1, b2⟩ := r.ow i _ e1
      exact ⟨_, a1, .dic (.inl ((lentH_own a3 (by rw [b1]; exact True.intro)).trans b1)) ((atk_imm b2 f).mono r.lent_imN)⟩
  · obtain ⟨a, e1, l⟩ := L.get e
    cases l
  · obtain ⟨a', e1, l⟩ := L.get e
    cases l with
    | rf => exact r.rf i a e1
  · obtain ⟨a', e1, l⟩ := L.get e
    cases l
theorem Rep.unlend (r : Rep K H0 ρ σ H N) {H' N' : Hp} (s : Same H H') (n : Same N N') (r' : Rep K (lentH H0 H N) ρ' σ H' N') : Rep K H0 ρ σ H' N' := by
  refine ⟨r'.tab, r.old.trans s, r'.sub, r.imm.trans n, fun a o e m => r.lent_old.free (r'.fresh a o e m), r.len, fun i d e => ?_, r.ol, fun i d e => ?_, r.rf, r.apart⟩
  · obtain ⟨v, a1, a2⟩ := r.im i d e
    exact ⟨v, a1, a2.mono n⟩
  · obtain ⟨p, a1, a2, a3, a4⟩ := r.ow i d e
    obtain ⟨p', o', e1, e2, m⟩ := r.own_some e
    rw [a1] at e1
    cases e1
    refine ⟨p, a1, a2, ?_, ?_⟩
    · cases z : N' p with
      | none => rfl
      | some u =>
        have e3 := r'.sub p u z
        rw [(s _ _ e2).mu m] at e3
        cases e3 with
        | eq =>
          have := r'.fresh p _ z m
          rw [lentH_own a3 (by rw [e2]; exact m), e2] at this
          cases this
        | grow _ _ => exact m.elim
    · cases d with
      | lst ds => obtain ⟨vs, q1, q2⟩ := a4; exact ⟨vs, (s _ _ q1).e, q2.mono n⟩
      | dic ds => obtain ⟨vs, q1, q2⟩ := a4; exact ⟨vs, (s _ _ q1).e, q2.mono n⟩
      | dit ks ds => obtain ⟨vs, q1, ql, q2⟩ := a4; exact ⟨vs, (s _ _ q1).e, ql, q2.mono n⟩
      | _ => exact a4
end
section
variable {X : Cx} {H0 : Hp} {ρ ρ' : Env'} {e : Expr} {d : Dat} {b : Bool}
theorem eo_lend (L : Lend ρ ρ') (h : ∀ G, EvO X G ρ' e d) : EvO X H0 ρ e d := fun σ H N r => (h _ σ H N (r.lend L)).imp fun v H' ⟨N', p, e1, e2, s, n, r', o1, o2⟩ => ⟨N', p, e1, e2, s, n, r.unlend s n r', o1, o2⟩
theorem ev_lend (L : Lend ρ ρ') (h : ∀ G, Ev X G ρ' e d) : Ev X H0 ρ e d := fun σ H N r => (h _ σ H N (r.lend L)).imp fun v H' ⟨N', s, n, r', o1⟩ => ⟨N', s, n, r.unlend s n r', o1⟩
end
/-! ### len of a dict -/
theorem call_lenD2 {X : Cx} : CallR X (.builtin "len") (fun xs H Q => ∃ a kvs, xs = [V.ref a] ∧ Rd H a (.dK kvs) ∧ Q (.int kvs.length) H) := by
  intro pins s σ H xs us Q I r h
  obtain ⟨a, kvs, rfl, ha, q⟩ := h
  obtain ⟨u, rfl, ru⟩ := vals1 r
  cases ru
  exact d_len I ha fun t s' I' => ⟨.int kvs.length, H, I', ⟨t, rfl⟩, q⟩
theorem Atk.len {K : PySem.W.Frag} {H : Hp} : ∀ {vs : List (Key × V)} {ds : List (Key × Dat)}, Atk K H vs ds → vs.length = ds.length
  | _, _, .nil => rfl
  | _, _, .cons _ t => by rw [List.length_cons, List.length_cons, Atk.len t]
section
variable {X : Cx} {H0 : Hp} {ρ : Env'} {a : Expr} {p pos : Pos} {α : Type} {en : α → Dat}
theorem ev_lenDm {l : List (List Nat × α)} (ha : EvB X H0 ρ a (dicd en l)) (hm : X.mg "len" = none) (hg : Gl X "len" := by rfl) (he : starEach [a] X.env = (false, eval a X.env) :: starEach [] X.env := by rfl) (hpl : (backTo pos (starEach [] X.env)).any (·.1) = false := by rfl) : Ev X H0 ρ (.Call (.Name "len" p) [a] [] pos) (.int (l.length : Int)) :=
  ev_blt call_lenD2 hm PySem.boot_len (eab1 ha he) (fun vs σ H N Q r q g => by
    obtain ⟨v, e1, e2⟩ := ats_one q
    obtain ⟨p, kvs, e3, h1, h2⟩ := at_dic e2
    subst e3
    refine ⟨p, kvs, e1, h1, ?_⟩
    have e4 : kvs.length = l.length := by rw [h2.len]; show (dm en l).length = _; unfold dm; rw [List.length_map]
    rw [e4]
    exact goes_self g r (.int _)) hg (by decide) (by decide) he hpl
end
end B

namespace B
open PySem PySem.Spec PyProof.Rows L2


def top (i : Nat) : Stmt := PySem.Challenge.pw_boughpress_k13_whole_knots_part_the_plac.main.body.getD i (.Pass ⟨0, 0, 0, 0⟩)
abbrev s_checked : Stmt := top 7
abbrev n_checked : List Str := ["frame", "text", "sign"]
theorem sc_checked : FnScope n_checked ["frame", "text"] (defScope s_checked) := ⟨rfl, rfl, rfl, by decide +kernel, rfl, by decide +kernel, by decide +kernel⟩
abbrev s_signs_ahead : Stmt := top 9
abbrev n_signs_ahead : List Str := ["frame", "text", "at", "letters", "depth", "behind"]
theorem sc_signs_ahead : FnScope n_signs_ahead ["frame", "text", "at"] (defScope s_signs_ahead) := ⟨rfl, rfl, rfl, by decide +kernel, rfl, by decide +kernel, by decide +kernel⟩
abbrev s_elders : Stmt := top 10
abbrev n_elders : List Str := ["frame", "text", "at"]
theorem sc_elders : FnScope n_elders ["frame", "text", "at"] (defScope s_elders) := ⟨rfl, rfl, rfl, by decide +kernel, rfl, by decide +kernel, by decide +kernel⟩
abbrev s_need_knot : Stmt := top 12
abbrev n_need_knot : List Str := ["frame", "knot", "sign"]
theorem sc_need_knot : FnScope n_need_knot ["frame", "knot"] (defScope s_need_knot) := ⟨rfl, rfl, rfl, by decide +kernel, rfl, by decide +kernel, by decide +kernel⟩
abbrev s_counts : Stmt := top 13
abbrev n_counts : List Str := ["frame", "text", "knot", "found", "at", "sign"]
theorem sc_counts : FnScope n_counts ["frame", "text", "knot"] (defScope s_counts) := ⟨rfl, rfl, rfl, by decide +kernel, rfl, by decide +kernel, by decide +kernel⟩
abbrev s_in_order : Stmt := top 14
abbrev n_in_order : List Str := ["frame", "some"]
theorem sc_in_order : FnScope n_in_order ["frame", "some"] (defScope s_in_order) := ⟨rfl, rfl, rfl, by decide +kernel, rfl, by decide +kernel, by decide +kernel⟩
abbrev s_knots : Stmt := top 15
abbrev n_knots : List Str := ["frame", "text", "found", "at", "here", "size"]
theorem sc_knots : FnScope n_knots ["frame", "text"] (defScope s_knots) := ⟨rfl, rfl, rfl, by decide +kernel, rfl, by decide +kernel, by decide +kernel⟩
abbrev s_law_cell_at : Stmt := top 17
abbrev n_law_cell_at : List Str := ["script", "k"]
theorem sc_law_cell_at : FnScope n_law_cell_at ["script", "k"] (defScope s_law_cell_at) := ⟨rfl, rfl, rfl, by decide +kernel, rfl, by decide +kernel, by decide +kernel⟩
abbrev s_law_signs : Stmt := top 18
abbrev n_law_signs : List Str := ["some"]
theorem sc_law_signs : FnScope n_law_signs [] (defScope s_law_signs) := ⟨rfl, rfl, rfl, by decide +kernel, rfl, by decide +kernel, by decide +kernel⟩
abbrev s_law_frame : Stmt := top 19
abbrev n_law_frame : List Str := ["cell", "some", "number", "letters", "k", "at"]
theorem sc_law_frame : FnScope n_law_frame ["cell"] (defScope s_law_frame) := ⟨rfl, rfl, rfl, by decide +kernel, rfl, by decide +kernel, by decide +kernel⟩
abbrev s_law_text : Stmt := top 20
abbrev n_law_text : List Str := ["letters", "cells", "way", "text", "cell", "far"]
theorem sc_law_text : FnScope n_law_text ["letters", "cells", "way"] (defScope s_law_text) := ⟨rfl, rfl, rfl, by decide +kernel, rfl, by decide +kernel, by decide +kernel⟩
abbrev s_law_ahead : Stmt := top 21
abbrev n_law_ahead : List Str := ["letters", "one", "other", "k"]
theorem sc_law_ahead : FnScope n_law_ahead ["letters", "one", "other"] (defScope s_law_ahead) := ⟨rfl, rfl, rfl, by decide +kernel, rfl, by decide +kernel, by decide +kernel⟩
abbrev s_law_rising : Stmt := top 22
abbrev n_law_rising : List Str := ["letters", "found", "k"]
theorem sc_law_rising : FnScope n_law_rising ["letters", "found"] (defScope s_law_rising) := ⟨rfl, rfl, rfl, by decide +kernel, rfl, by decide +kernel, by decide +kernel⟩
abbrev s_law_parted : Stmt := top 23
abbrev n_law_parted : List Str := ["frame", "text", "some", "due", "knot", "told", "total", "letter", "below", "sign", "k"]
theorem sc_law_parted : FnScope n_law_parted ["frame", "text", "some", "due"] (defScope s_law_parted) := ⟨rfl, rfl, rfl, by decide +kernel, rfl, by decide +kernel, by decide +kernel⟩
abbrev s_law_refused : Stmt := top 24
abbrev n_law_refused : List Str := ["frame", "text", "kinds", "e"]
theorem sc_law_refused : FnScope n_law_refused ["frame", "text"] (defScope s_law_refused) := ⟨rfl, rfl, rfl, by decide +kernel, rfl, by decide +kernel, by decide +kernel⟩
abbrev s_law : Stmt := top 25
abbrev n_law : List Str := ["script", "frame", "text", "found", "due", "at", "told", "size", "kept", "cell", "start", "some", "lacked", "sign", "bad", "knot"]
theorem sc_law : FnScope n_law ["script"] (defScope s_law) := ⟨rfl, rfl, rfl, by decide +kernel, rfl, by decide +kernel, by decide +kernel⟩
/-- what the top has left: the built-ins are what they were, the classes of errors stand -/
structure Txt (K : PySem.W.Frag) (mg : Str → Option Value) : Prop where
  b_ValueError : mg "ValueError" = none
  b_isinstance : mg "isinstance" = none
  b_len : mg "len" = none
  b_list : mg "list" = none
  b_max : mg "max" = none
  b_min : mg "min" = none
  b_range : mg "range" = none
  b_sorted : mg "sorted" = none
  b_str : mg "str" = none
  b_sum : mg "sum" = none
  e_NoPlace : Exc K mg "NoPlace"
  e_NoKnot : Exc K mg "NoKnot"
  e_NoText : Exc K mg "NoText"
  x_NoPlace : ∃ C, ExcX K mg "NoPlace" [("PressError", true), ("NoText", false), ("NoPlace", true), ("NoKnot", false), ("NoSign", false)] C
  x_NoKnot : ∃ C, ExcX K mg "NoKnot" [("PressError", true), ("NoText", false), ("NoPlace", false), ("NoKnot", true), ("NoSign", false)] C
  x_NoText : ∃ C, ExcX K mg "NoText" [("PressError", true), ("NoText", true), ("NoPlace", false), ("NoKnot", false), ("NoSign", false)] C
noncomputable def m_checked (frame_ : ((List Nat) × Int)) (text_ : List Nat) : M (List Nat) :=
  M.bind (forM (fun (x1 : Nat) (s2 : Unit) => (
    M.bind (if (!(decide (x1 ∈ frame_.1))) = true then (
      .ex "NoText"
    ) else (
      .ok ()
    )) fun (s3 : Unit) =>
    .ok ()
  )) text_ ()) fun (s2 : Unit) =>
  .ok text_
noncomputable def m_signs_ahead (frame_ : ((List Nat) × Int)) (text_ : List Nat) (at_ : Int) : M (List Nat) :=
  M.lt (frame_ : ((List Nat) × Int)) fun q1 =>
  M.gd (lenOk q1.1) <|
  M.bind (M.ofO (atI q1.1 (0 : Int))) fun r3 =>
  M.gd (repOk [r3] q1.2) <|
  M.gd (lenOk text_) <|
  M.gd (catOk (repS [r3] q1.2) (cut text_ (some (max (0 : Int) (at_ - q1.2))) (some at_))) <|
  M.lt (((repS [r3] q1.2) ++ (cut text_ (some (max (0 : Int) (at_ - q1.2))) (some at_))) : List Nat) fun behind_ =>
  M.gd (lenOk behind_) <|
  M.gd (lenOk (behind_).reverse) <|
  .ok (cut (behind_).reverse none (some q1.2))
noncomputable def m_elders (frame_ : ((List Nat) × Int)) (text_ : List Nat) (at_ : Int) : M (List Nat) :=
  M.bind (m_checked frame_ text_) fun _ =>
  M.bind (M.nox (if (decide (at_ < (0 : Int))) = true then M.ok true else (M.gd (lenOk text_) <| .ok (decide (((text_).length : Int) < at_))))) fun r2 =>
  if r2 = true then (
    .ex "NoPlace"
  ) else
  M.bind (m_signs_ahead frame_ text_ at_) fun r => .ok r
noncomputable def m_need_knot (frame_ : ((List Nat) × Int)) (knot_ : List Nat) : M Unit :=
  M.gd (lenOk knot_) <|
  M.bind (if (decide (frame_.2 < ((knot_).length : Int))) = true then (
    .ex "NoKnot"
  ) else (
    .ok ()
  )) fun (s2 : Unit) =>
  M.bind (forM (fun (x3 : Nat) (s4 : Unit) => (
    M.bind (if (!(decide (x3 ∈ frame_.1))) = true then (
      .ex "NoKnot"
    ) else (
      .ok ()
    )) fun (s5 : Unit) =>
    .ok ()
  )) knot_ ()) fun (s4 : Unit) =>
  .ok ()
noncomputable def m_counts (frame_ : ((List Nat) × Int)) (text_ : List Nat) (knot_ : List Nat) : M (List Int) :=
  M.bind (m_checked frame_ text_) fun _ =>
  M.bind (m_need_knot frame_ knot_) fun _ =>
  M.gd (lenLt frame_.1) <|
  M.bind (M.nox (compM (fun _ => .ok true) (fun sign_ => .ok ((0 : Int))) frame_.1)) fun found_ =>
  M.gd (lenOk text_) <|
  M.gd (rngOk 0 ((text_).length : Int)) <|
  M.bind (forM (fun (x4 : Int) (s7 : (List Int)) => (
    M.bind (M.nox (m_signs_ahead frame_ text_ x4)) fun r8 =>
    M.bind (if (decide ((r8).take (knot_).length = knot_)) = true then (
      M.gd (lenOk text_) <|
      M.bind (M.ofO (atI text_ x4)) fun r12 =>
      M.gd (decide (0 ≤ (fndX frame_.1 [r12]))) <|
      M.bind (M.ofO (atI s7 (fndX frame_.1 [r12]))) fun r15 =>
      M.bind (M.ofO (setI s7 (fndX frame_.1 [r12]) (r15 + (1 : Int)))) fun r17 =>
      M.lt r17 fun found_ =>
      .ok found_
    ) else (
      .ok s7
    )) fun (s10 : (List Int)) =>
    .ok s10
  )) (rng 0 1 (((text_).length : Int)).toNat) found_) fun (s7 : (List Int)) =>
  .ok s7
noncomputable def m_in_order (frame_ : ((List Nat) × Int)) (some_ : (List (List Nat))) : M (List (List Nat)) :=
  M.gd ((some_).all fun w => lenLt w) <|
  .ok (srtK (fun w_ => (w_).map fun c_ => (fndX frame_.1 [c_])) some_)
noncomputable def m_knots (frame_ : ((List Nat) × Int)) (text_ : List Nat) : M (List (List Nat)) :=
  M.bind (m_checked frame_ text_) fun _ =>
  M.lt ([] : (List (List Nat × Bool))) fun found_ =>
  M.gd (lenOk text_) <|
  M.gd (rngOk 0 ((text_).length : Int)) <|
  M.bind (forM (fun (x3 : Int) (s6 : (List (List Nat × Bool))) => (
    M.bind (m_signs_ahead frame_ text_ x3) fun here_ =>
    M.gd (rngOk 0 (frame_.2 + (1 : Int))) <|
    M.bind (forM (fun (x8 : Int) (s10 : (List (List Nat × Bool))) => (
      M.gd (lenOk here_) <|
      M.gd (lenLt s10) <|
      M.lt (dput s10 (cut here_ none (some x8)) true) fun found_ =>
      .ok found_
    )) (rng 0 1 ((frame_.2 + (1 : Int))).toNat) s6) fun (s10 : (List (List Nat × Bool))) =>
    .ok s10
  )) (rng 0 1 (((text_).length : Int)).toNat) found_) fun (s6 : (List (List Nat × Bool))) =>
  M.bind (m_in_order frame_ ((s6).map (·.1))) fun r => .ok r
noncomputable def m_law_cell_at (script_ : (List Int)) (k_ : Int) : M Int :=
  if (decide (k_ < ((script_).length : Int))) = true then (
    M.bind (M.ofO (atI script_ k_)) fun r1 =>
    .ok r1
  ) else
  .ok (0 : Int)
def txt0 : List Nat := [32, 33, 34, 35, 36, 38, 39, 40, 41, 42, 43, 44, 45, 46, 47, 48, 49, 50, 51, 52, 53, 54, 55, 56, 57, 58, 59, 60, 61, 62, 63, 64, 65, 66, 67, 68, 69, 70, 71, 72, 73, 74, 75, 76, 77, 78, 79, 80, 81, 82, 83, 84, 85, 86, 87, 88, 89, 90, 91, 92, 93, 94, 95, 96]
def txt1 : List Nat := [97, 98, 99, 100, 101, 102, 103, 104, 105, 106, 107, 108, 109, 110, 111, 112, 113, 114, 115, 116, 117, 118, 119, 120, 121, 122, 123, 124, 125, 126]
noncomputable def m_law_signs  : M (List Nat) :=
  M.lt (txt0 : List Nat) fun some_ =>
  M.gd (catOk some_ txt1) <|
  .ok (some_ ++ txt1)
noncomputable def m_law_frame (cell_ : Int) : M ((List Nat) × Int) :=
  M.bind (M.nox m_law_signs) fun some_ =>
  M.lt ((cell_ / (70 : Int)) : Int) fun number_ =>
  M.bind (if (decide (((cell_ / (35 : Int)) % (2 : Int)) = (1 : Int))) = true then (
    M.gd (mulOk number_ (38429285755540266125959621032429186627936981 : Int)) <|
    M.lt (((number_ * (38429285755540266125959621032429186627936981 : Int)) + (104729 : Int)) : Int) fun number_ =>
    .ok number_
  ) else (
    .ok number_
  )) fun (s1 : Int) =>
  M.lt (([] : List Nat) : List Nat) fun letters_ =>
  M.gd (rngOk 0 ((2 : Int) + (cell_ % (5 : Int)))) <|
  M.bind (forM (fun (x4 : Int) (s6 : (List Nat) × Int × (List Nat)) => (
    M.gd (lenOk s6.1) <|
    M.gd (decide (0 < ((s6.1).length : Int))) <|
    M.lt ((s6.2.1 % ((s6.1).length : Int)) : Int) fun at_ =>
    M.gd (lenOk s6.1) <|
    M.gd (divOk ((s6.1).length : Int)) <|
    M.lt ((s6.2.1 / ((s6.1).length : Int)) : Int) fun number_ =>
    M.gd (lenOk s6.1) <|
    M.bind (M.ofO (atI s6.1 at_)) fun r12 =>
    M.gd (catOk s6.2.2 [r12]) <|
    M.lt ((s6.2.2 ++ [r12]) : List Nat) fun letters_ =>
    M.gd (lenOk s6.1) <|
    M.gd (lenOk s6.1) <|
    M.gd (catOk (cut s6.1 none (some at_)) (cut s6.1 (some (at_ + (1 : Int))) none)) <|
    M.lt (((cut s6.1 none (some at_)) ++ (cut s6.1 (some (at_ + (1 : Int))) none)) : List Nat) fun some_ =>
    .ok (some_, number_, letters_)
  )) (rng 0 1 (((2 : Int) + (cell_ % (5 : Int)))).toNat) (some_, s1, letters_)) fun (s6 : (List Nat) × Int × (List Nat)) =>
  .ok (s6.2.2, ((cell_ / (5 : Int)) % (7 : Int)))
noncomputable def m_law_text (letters_ : List Nat) (cells_ : (List Int)) (way_ : Int) : M (List Nat) :=
  M.lt (([] : List Nat) : List Nat) fun text_ =>
  M.bind (forM (fun (x1 : Int) (s2 : List Nat) => (
    M.lt (((1 : Int) + ((way_ / (2 : Int)) % (4 : Int))) : Int) fun far_ =>
    M.bind (M.nox (if (decide ((way_ % (2 : Int)) = (1 : Int))) = true then (M.bind (M.nox (if (decide ((x1 % (3 : Int)) = (0 : Int))) = true then (M.gd (lenOk s2) <| .ok (decide (far_ ≤ ((s2).length : Int)))) else M.ok false)) fun r4 => .ok r4) else M.ok false)) fun r6 =>
    M.bind (if r6 = true then (
      M.gd (lenOk s2) <|
      M.bind (M.ofO (atI s2 (-far_))) fun r10 =>
      M.gd (catOk s2 [r10]) <|
      M.lt ((s2 ++ [r10]) : List Nat) fun text_ =>
      .ok text_
    ) else (
      M.gd (lenOk letters_) <|
      M.gd (decide (0 < ((letters_).length : Int))) <|
      M.gd (lenOk letters_) <|
      M.bind (M.ofO (atI letters_ ((x1 / (3 : Int)) % ((letters_).length : Int)))) fun r16 =>
      M.gd (catOk s2 [r16]) <|
      M.lt ((s2 ++ [r16]) : List Nat) fun text_ =>
      .ok text_
    )) fun (s8 : List Nat) =>
    .ok s8
  )) cells_ text_) fun (s2 : List Nat) =>
  .ok s2
noncomputable def m_law_ahead (letters_ : List Nat) (one_ : List Nat) (other_ : List Nat) : M Bool :=
  M.gd (lenOk one_) <|
  M.gd (lenOk other_) <|
  M.gd (rngOk 0 (min ((one_).length : Int) ((other_).length : Int))) <|
  M.seqT (forF 
  (fun (x4 : Int) (s8 : Unit) => (
    M.gd (lenOk one_) <|
    M.bind (M.ofO (atI one_ x4)) fun r10 =>
    M.gd (lenOk other_) <|
    M.bind (M.ofO (atI other_ x4)) fun r13 =>
    M.seq (if (!decide ([r10] = [r13])) = true then (
      M.gd (lenOk one_) <|
      M.bind (M.ofO (atI one_ x4)) fun r17 =>
      M.gd (lenOk other_) <|
      M.bind (M.ofO (atI other_ x4)) fun r20 =>
      .ok (.rt (decide ((fndX letters_ [r17]) < (fndX letters_ [r20]))))
    ) else (
      .ok (.nx ())
    ) : M (Fl Unit Unit Bool)) fun (s15 : Unit) =>
    .ok (.nx ())
  )) (rng 0 1 ((min ((one_).length : Int) ((other_).length : Int))).toNat) () : M (Fl Unit Unit Bool)) fun (s8 : Unit) =>
  M.gd (lenOk one_) <|
  M.gd (lenOk other_) <|
  .ok (decide (((one_).length : Int) < ((other_).length : Int)))
noncomputable def m_law_rising (letters_ : List Nat) (found_ : (List (List Nat))) : M Bool :=
  if (!true) = true then (
    .ok false
  ) else
  M.gd (rngOk 0 ((found_).length : Int)) <|
  M.seqT (forF 
  (fun (x2 : Int) (s4 : Unit) => (
    M.bind (M.ofO (atI found_ x2)) fun r5 =>
    M.seq (if (!true) = true then (
      .ok (.rt false)
    ) else (
      .ok (.nx ())
    ) : M (Fl Unit Unit Bool)) fun (s7 : Unit) =>
    M.bind (M.nox (if (decide ((0 : Int) < x2)) = true then (M.bind (M.ofO (atI found_ (x2 - (1 : Int)))) fun r8 => M.bind (M.ofO (atI found_ x2)) fun r10 => M.bind (M.nox (m_law_ahead letters_ r8 r10)) fun r12 => .ok (!r12)) else M.ok false)) fun r14 =>
    M.seq (if r14 = true then (
      .ok (.rt false)
    ) else (
      .ok (.nx ())
    ) : M (Fl Unit Unit Bool)) fun (s16 : Unit) =>
    .ok (.nx ())
  )) (rng 0 1 (((found_).length : Int)).toNat) () : M (Fl Unit Unit Bool)) fun (s4 : Unit) =>
  .ok true
noncomputable def m_law_parted (frame_ : ((List Nat) × Int)) (text_ : List Nat) (some_ : (List (List Nat))) (due_ : (List (List Nat × Bool))) : M Bool :=
  M.seqT (forF 
  (fun (x1 : List Nat) (s2 : Unit) => (
    M.bind (m_counts frame_ text_ x1) fun told_ =>
    M.seq (if (decide ((told_).sum < (1 : Int))) = true then (
      .ok (.rt false)
    ) else (
      .ok (.nx ())
    ) : M (Fl Unit Unit Bool)) fun (s3 : Unit) =>
    M.gd (lenOk x1) <|
    M.seq (if (decide (((x1).length : Int) < frame_.2)) = true then (
      M.gd (lenLt frame_.1) <|
      M.bind (M.nox (compM (fun _ => .ok true) (fun sign_ => .ok ((0 : Int))) frame_.1)) fun r7 =>
      M.lt (r7 : (List Int)) fun total_ =>
      M.seq (forF 
      (fun (x9 : Nat) (s10 : (List Int)) => (
        M.gd (catOk x1 [x9]) <|
        M.bind (m_counts frame_ text_ (x1 ++ [x9])) fun below_ =>
        M.gd (catOk x1 [x9]) <|
        M.seq (if (!decide ((decide ((0 : Int) < (below_).sum)) = (dhas due_ (x1 ++ [x9])))) = true then (
          .ok (.rt false)
        ) else (
          .ok (.nx ())
        ) : M (Fl Unit (List Int) Bool)) fun (s13 : Unit) =>
        M.gd (rngOk 0 ((s10).length : Int)) <|
        M.gd (lenLt (rng 0 1 (((s10).length : Int)).toNat)) <|
        M.bind (M.nox (compM (fun _ => .ok true) (fun k_ => M.bind (M.ofO (atI s10 k_)) fun r16 => M.bind (M.ofO (atI below_ k_)) fun r18 => .ok ((r16 + r18))) (rng 0 1 (((s10).length : Int)).toNat))) fun r20 =>
        M.lt (r20 : (List Int)) fun total_ =>
        .ok (.nx total_)
      )) frame_.1 total_ : M (Fl (List Int) Unit Bool)) fun (s10 : (List Int)) =>
      M.seq (if (!decide (s10 = told_)) = true then (
        .ok (.rt false)
      ) else (
        .ok (.nx ())
      ) : M (Fl Unit Unit Bool)) fun (s22 : Unit) =>
      .ok (.nx ())
    ) else (
      .ok (.nx ())
    ) : M (Fl Unit Unit Bool)) fun (s5 : Unit) =>
    .ok (.nx ())
  )) some_ () : M (Fl Unit Unit Bool)) fun (s2 : Unit) =>
  .ok true
noncomputable def m_law_refused (frame_ : ((List Nat) × Int)) (text_ : List Nat) : M Bool :=
  M.lt ([] : (List Bool)) fun kinds_ =>
  M.bind (tryM (m_knots frame_ text_) (kinds_ : (List Bool)) [("NoText", (M.lt ([true, false] : (List Bool)) fun kinds_ => .ok kinds_))]) fun (s1 : (List Bool)) =>
  .ok (decide (s1 = [true, false]))
noncomputable def m_law (script_ : (List Int)) : M Bool :=
  M.bind (M.nox (m_law_cell_at script_ (0 : Int))) fun r1 =>
  M.bind (m_law_frame r1) fun frame_ =>
  M.bind (M.nox (m_law_cell_at script_ (1 : Int))) fun r3 =>
  M.bind (m_law_text frame_.1 (cut script_ (some (3 : Int)) (some (53 : Int))) r3) fun text_ =>
  M.bind (m_knots frame_ text_) fun found_ =>
  M.bind (M.nox (m_law_rising frame_.1 found_)) fun r5 =>
  if (!r5) = true then (
    .ok false
  ) else
  M.lt ([] : (List (List Nat × Bool))) fun due_ =>
  M.gd (lenOk text_) <|
  M.gd (rngOk 0 ((text_).length : Int)) <|
  M.bind (forM (fun (x9 : Int) (s12 : (List (List Nat × Bool))) => (
    M.bind (m_elders frame_ text_ x9) fun told_ =>
    M.gd (lenOk told_) <|
    M.gd (rngOk 0 (((told_).length : Int) + (1 : Int))) <|
    M.bind (forM (fun (x15 : Int) (s18 : (List (List Nat × Bool))) => (
      M.gd (lenOk told_) <|
      M.gd (lenLt s18) <|
      M.lt (dput s18 (cut told_ none (some x15)) true) fun due_ =>
      .ok due_
    )) (rng 0 1 ((((told_).length : Int) + (1 : Int))).toNat) s12) fun (s18 : (List (List Nat × Bool))) =>
    .ok s18
  )) (rng 0 1 (((text_).length : Int)).toNat) due_) fun (s12 : (List (List Nat × Bool))) =>
  M.bind (M.nox (if (!decide (((s12).length : Int) = ((found_).length : Int))) = true then M.ok true else (M.gd (lenLt found_) <| M.bind (M.nox (compM (fun knot_ => .ok ((!dhas s12 knot_))) (fun knot_ => .ok (knot_)) found_)) fun r22 => M.gd (okn 8 ((lstd tx) r22)) <| M.gd (okn 8 ((lstd tx) [])) <| .ok (!decide (r22 = []))))) fun r26 =>
  if r26 = true then (
    .ok false
  ) else
  M.bind (M.nox (if (!decide (text_ = ([] : List Nat))) = true then (M.bind (M.nox (m_counts frame_ text_ ([] : List Nat))) fun r28 => M.gd (lenOk text_) <| .ok (!decide ((r28).sum = ((text_).length : Int)))) else M.ok false)) fun r31 =>
  if r31 = true then (
    .ok false
  ) else
  M.lt (found_ : (List (List Nat))) fun kept_ =>
  M.gd (lenLt found_) <|
  M.lt (found_ ++ [([] : List Nat)]) fun found_ =>
  M.bind (m_law_cell_at script_ (2 : Int)) fun cell_ =>
  M.gd (decide (0 < (max (1 : Int) ((kept_).length : Int)))) <|
  M.lt (((cell_ / (3000 : Int)) % (max (1 : Int) ((kept_).length : Int))) : Int) fun start_ =>
  M.gd (catOk (cut kept_ none (some (1 : Int))) (cut kept_ (some start_) (some (start_ + (12 : Int))))) <|
  M.lt (((cut kept_ none (some (1 : Int))) ++ (cut kept_ (some start_) (some (start_ + (12 : Int))))) : (List (List Nat))) fun some_ =>
  M.bind (M.nox (m_knots frame_ text_)) fun r36 =>
  M.gd (okn 8 ((lstd tx) r36)) <|
  M.gd (okn 8 ((lstd tx) kept_)) <|
  M.bind (M.nox (if (!decide (r36 = kept_)) = true then M.ok true else (M.bind (M.nox (m_law_parted frame_ text_ some_ s12)) fun r40 => .ok (!r40)))) fun r42 =>
  if r42 = true then (
    .ok false
  ) else
  M.bind (M.nox (M.nox m_law_signs)) fun r44 =>
  M.gd (lenLt r44) <|
  M.bind (M.nox (compM (fun sign_ => .ok ((!(decide (sign_ ∈ frame_.1))))) (fun sign_ => .ok (sign_)) r44)) fun lacked_ =>
  M.gd (lenOk text_) <|
  M.gd (decide (0 < (((text_).length : Int) + (1 : Int)))) <|
  M.lt ((cell_ % (((text_).length : Int) + (1 : Int))) : Int) fun at_ =>
  M.gd (decide (0 < ((lacked_).length : Int))) <|
  M.bind (M.ofO (atI lacked_ ((cell_ / (64 : Int)) % ((lacked_).length : Int)))) fun r50 =>
  M.lt (r50 : Nat) fun sign_ =>
  M.gd (lenOk text_) <|
  M.gd (catOk (cut text_ none (some at_)) [sign_]) <|
  M.gd (lenOk text_) <|
  M.gd (catOk ((cut text_ none (some at_)) ++ [sign_]) (cut text_ (some at_) none)) <|
  M.lt ((((cut text_ none (some at_)) ++ [sign_]) ++ (cut text_ (some at_) none)) : List Nat) fun bad_ =>
  M.bind (M.nox (m_law_refused frame_ bad_)) fun r56 =>
  M.bind (M.nox (if r56 = true then M.nox (M.gd (catOk bad_ [sign_]) <| M.bind (M.nox (m_law_refused frame_ (bad_ ++ [sign_]))) fun r59 => .ok r59) else M.ok false)) fun r61 =>
  .ok r61
end B
namespace B
open PySem PySem.Spec PyProof.Rows L2
section
variable {P : Program} {w : World} {K : PySem.W.Frag} {mg : Str → Option Value} {base : Heap}
def R_checked : List Dat → Res → Prop := fun ds o => ∃ (frame_ : ((List Nat) × Int)) (text_ : List Nat), ds = [(tup2 tx Dat.int) frame_, tx text_] ∧ Rm tx (m_checked frame_ text_) o
theorem ok_checked (T : Txt K mg)  (D : Df K mg "checked" s_checked ["frame", "text"]) : GFn P w K mg base "checked" 1 R_checked := by
  refine GFn.mk2 D sc_checked (fun ds o h => by obtain ⟨_, _, rfl, _⟩ := h; rfl) fun f cdv A outer s H E hr ds o hR => ?_
  obtain ⟨frame_, text_, rfl, hm⟩ := hR
  refine ⟨_, (.im ((fun _ => rfl) _) (.im ((fun _ => rfl) _) .nil)), fun H0 => ends_m (k := 3) (en := tx) ?_ o hm⟩
  unfold m_checked
  refine xm_for (ea := chd) (eS := (fun (s : Unit) => [.im ((tup2 tx Dat.int) frame_), .im (tx text_), .no])) (passes_of rfl) rfl (it_tx (ev_name 1 rfl)) (tg_name 2 sc_checked.nd) (fun _ _ => trivial) rfl (fun x1 s2 => ?_) (fun s2 => ?_)
  · -- if sign not in frame[0]
    refine xm_ifN (eS := (fun (s : Unit) => [.im ((tup2 tx Dat.int) frame_), .im (tx text_), .no])) (et_ninX (ev_name 2 rfl) (ev_ixT (ev_name 0 rfl) ev_int (by rfl))) (fun hc => ?_) (fun hc => ?_) (fun s3 => ?_)
    · -- raise NoText('a sign that is no letter')
      exact xm_raise T.e_NoText rfl
    · exact xm_end [2]
    exact xm_end []
  exact xm_ret (ev_name 1 rfl)
def R_signs_ahead : List Dat → Res → Prop := fun ds o => ∃ (frame_ : ((List Nat) × Int)) (text_ : List Nat) (at_ : Int), ds = [(tup2 tx Dat.int) frame_, tx text_, Dat.int at_] ∧ Rm tx (m_signs_ahead frame_ text_ at_) o
theorem ok_signs_ahead (T : Txt K mg)  (D : Df K mg "signs_ahead" s_signs_ahead ["frame", "text", "at"]) : GFn P w K mg base "signs_ahead" 1 R_signs_ahead := by
  refine GFn.mk2 D sc_signs_ahead (fun ds o h => by obtain ⟨_, _, _, rfl, _⟩ := h; rfl) fun f cdv A outer s H E hr ds o hR => ?_
  obtain ⟨frame_, text_, at_, rfl, hm⟩ := hR
  refine ⟨_, (.im ((fun _ => rfl) _) (.im ((fun _ => rfl) _) (.im ((fun _ => rfl) _) .nil))), fun H0 => ends_m (k := 6) (en := tx) ?_ o hm⟩
  unfold m_signs_ahead
  refine xm_asg (en := (tup2 tx Dat.int)) (ev_name 0 rfl) (tg_pair 3 4 sc_signs_ahead.nd rfl) (fun _ => ⟨_, _, rfl⟩) (fun q1 => ?_)
  refine xm_gd fun h2 => ?_
  refine xm_ofO fun r3 h4 => ?_
  refine xm_gd fun h5 => ?_
  refine xm_gd fun h6 => ?_
  refine xm_gd fun h7 => ?_
  refine xm_set (en := tx) 5 (ev_catX (ev_repXm (ev_ixX (ev_name 3 rfl) ev_int (lenOk_ok h2) h4) (ev_name 4 rfl) h5) (ev_slX (ev_name 1 rfl) (eo_some (ev_max2 ev_int (ev_sub (ev_name 2 rfl) (ev_name 4 rfl)) rfl T.b_max)) (eo_some (ev_name 2 rfl)) (lenOk_ok h6)) (catOk_ok h7)) sc_signs_ahead.nd (fun behind_ => ?_)
  refine xm_gd fun h8 => ?_
  refine xm_gd fun h9 => ?_
  exact xm_ret (ev_slX (ev_revX (ev_name 5 rfl) (lenOk_ok h8)) eo_none (eo_some (ev_name 4 rfl)) (lenOk_ok h9))
def R_elders : List Dat → Res → Prop := fun ds o => ∃ (frame_ : ((List Nat) × Int)) (text_ : List Nat) (at_ : Int), ds = [(tup2 tx Dat.int) frame_, tx text_, Dat.int at_] ∧ Rm tx (m_elders frame_ text_ at_) o
theorem ok_elders (T : Txt K mg) (G_checked : GFn P w K mg base "checked" 1 R_checked) (G_signs_ahead : GFn P w K mg base "signs_ahead" 1 R_signs_ahead) (D : Df K mg "elders" s_elders ["frame", "text", "at"]) : GFn P w K mg base "elders" 2 R_elders := by
  refine GFn.mk2 D sc_elders (fun ds o h => by obtain ⟨_, _, _, rfl, _⟩ := h; rfl) fun f cdv A outer s H E hr ds o hR => ?_
  obtain ⟨frame_, text_, at_, rfl, hm⟩ := hR
  refine ⟨_, (.im ((fun _ => rfl) _) (.im ((fun _ => rfl) _) (.im ((fun _ => rfl) _) .nil))), fun H0 => ends_m (k := 3) (en := tx) ?_ o hm⟩
  unfold m_elders
  refine xm_exprM (eb := tx) (evm_call (en := tx) G_checked (by exact hr.mono (by first | decide | omega)) (eab_cons (Ev.toB (ev_name 0 rfl)) (eab_cons (Ev.toB (ev_name 1 rfl)) eab_nil)) (fun o q => ⟨frame_, text_, rfl, q⟩)) (fun _ => ?_)
  refine xm_bind fun r2 h3 => ?_
  refine xm_ifX (fun _ => trivial) (EvW.t (ewm_get (ewm_or (et_lt (ev_name 2 rfl) ev_int) (fun hq => (ewm_gd fun h1 => (ewm_ok (ew_or1 (et_gt (ev_name 2 rfl) (ev_len (Ev.toB (ev_name 1 rfl)) (dlen_tx (lenOk_ok h1)) T.b_len))))))) h3)) (fun hc => ?_) (fun hc => ?_)
  · -- raise NoPlace('a place that is not in the text')
    exact xm_raise T.e_NoPlace rfl
  exact xm_retM (eb := tx) (evm_call (en := tx) G_signs_ahead (by exact hr.mono (by first | decide | omega)) (eab_cons (Ev.toB (ev_name 0 rfl)) (eab_cons (Ev.toB (ev_name 1 rfl)) (eab_cons (Ev.toB (ev_name 2 rfl)) eab_nil))) (fun o q => ⟨frame_, text_, at_, rfl, q⟩))
def R_need_knot : List Dat → Res → Prop := fun ds o => ∃ (frame_ : ((List Nat) × Int)) (knot_ : List Nat), ds = [(tup2 tx Dat.int) frame_, tx knot_] ∧ Rm nond (m_need_knot frame_ knot_) o
theorem ok_need_knot (T : Txt K mg)  (D : Df K mg "need_knot" s_need_knot ["frame", "knot"]) : GFn P w K mg base "need_knot" 1 R_need_knot := by
  refine GFn.mk2 D sc_need_knot (fun ds o h => by obtain ⟨_, _, rfl, _⟩ := h; rfl) fun f cdv A outer s H E hr ds o hR => ?_
  obtain ⟨frame_, knot_, rfl, hm⟩ := hR
  refine ⟨_, (.im ((fun _ => rfl) _) (.im ((fun _ => rfl) _) .nil)), fun H0 => ends_mN (k := 3) (ρ1 := List.replicate 3 .no) ?_ o hm⟩
  unfold m_need_knot
  refine xm_gd fun h1 => ?_
  refine xm_ifN (eS := (fun (s : Unit) => [.im ((tup2 tx Dat.int) frame_), .im (tx knot_), .no])) (et_gt (ev_len (Ev.toB (ev_name 1 rfl)) (dlen_tx (lenOk_ok h1)) T.b_len) (ev_ixT (ev_name 0 rfl) ev_int (by rfl))) (fun hc => ?_) (fun hc => ?_) (fun s2 => ?_)
  · -- raise NoKnot('more signs than the depth')
    exact xm_raise T.e_NoKnot rfl
  · exact xm_end []
  refine xm_for (ea := chd) (eS := (fun (s : Unit) => [.im ((tup2 tx Dat.int) frame_), .im (tx knot_), .no])) (passes_of rfl) rfl (it_tx (ev_name 1 rfl)) (tg_name 2 sc_need_knot.nd) (fun _ _ => trivial) rfl (fun x3 s4 => ?_) (fun s4 => ?_)
  · -- if sign not in frame[0]
    refine xm_ifN (eS := (fun (s : Unit) => [.im ((tup2 tx Dat.int) frame_), .im (tx knot_), .no])) (et_ninX (ev_name 2 rfl) (ev_ixT (ev_name 0 rfl) ev_int (by rfl))) (fun hc => ?_) (fun hc => ?_) (fun s5 => ?_)
    · -- raise NoKnot('a sign that is no letter')
      exact xm_raise T.e_NoKnot rfl
    · exact xm_end [2]
    exact xm_end []
  exact xm_end [0, 1]
def R_counts : List Dat → Res → Prop := fun ds o => ∃ (frame_ : ((List Nat) × Int)) (text_ : List Nat) (knot_ : List Nat), ds = [(tup2 tx Dat.int) frame_, tx text_, tx knot_] ∧ RmO (lstd Dat.int) (m_counts frame_ text_ knot_) o
theorem ok_counts (T : Txt K mg) (G_checked : GFn P w K mg base "checked" 1 R_checked) (G_need_knot : GFn P w K mg base "need_knot" 1 R_need_knot) (G_signs_ahead : GFn P w K mg base "signs_ahead" 1 R_signs_ahead) (D : Df K mg "counts" s_counts ["frame", "text", "knot"]) : GFn P w K mg base "counts" 2 R_counts := by
  refine GFn.mk2 D sc_counts (fun ds o h => by obtain ⟨_, _, _, rfl, _⟩ := h; rfl) fun f cdv A outer s H E hr ds o hR => ?_
  obtain ⟨frame_, text_, knot_, rfl, hm⟩ := hR
  refine ⟨_, (.im ((fun _ => rfl) _) (.im ((fun _ => rfl) _) (.im ((fun _ => rfl) _) .nil))), fun H0 => ends_mO (k := 6) (en := (lstd Dat.int)) ?_ o hm⟩
  unfold m_counts
  refine xm_exprM (eb := tx) (evm_call (en := tx) G_checked (by exact hr.mono (by first | decide | omega)) (eab_cons (Ev.toB (ev_name 0 rfl)) (eab_cons (Ev.toB (ev_name 1 rfl)) eab_nil)) (fun o q => ⟨frame_, text_, rfl, q⟩)) (fun _ => ?_)
  refine xm_exprM (eb := nond) (evm_call (en := nond) G_need_knot (by exact hr.mono (by first | decide | omega)) (eab_cons (Ev.toB (ev_name 0 rfl)) (eab_cons (Ev.toB (ev_name 2 rfl)) eab_nil)) (fun o q => ⟨frame_, knot_, rfl, q⟩)) (fun _ => ?_)
  refine xm_gd fun h1 => ?_
  refine xm_setLcM (xn := "sign") (ea := chd) (eb := Dat.int) 3 5 inj_chr rfl sc_counts.nd (it_tx (ev_ixT (ev_name 0 rfl) ev_int (by rfl))) rfl rfl (fun _ _ _ _ _ => pg_name sc_counts.nd rfl (by first | exact Or.inl rfl | exact Or.inr rfl)) (.inl ⟨rfl, fun _ => rfl⟩) (fun H0' s' H' C' cl' fp' hs' sign_ => (evm_ok ev_int)) h1 (fun found_ => ?_)
  refine xm_gd fun h5 => ?_
  refine xm_gd fun h6 => ?_
  refine xm_for (ea := Dat.int) (eS := (fun (s : (List Int)) => [.im ((tup2 tx Dat.int) frame_), .im (tx text_), .im (tx knot_), .ow ((lstd Dat.int) s), .no, .no])) (passes_of rfl) rfl (itm_r1 (ev_len (Ev.toB (ev_name 1 rfl)) (dlen_tx (lenOk_ok h5)) T.b_len) h6 T.b_range) (tg_name 4 sc_counts.nd) (fun _ _ => trivial) rfl (fun x4 s7 => ?_) (fun s7 => ?_)
  · refine xm_bind fun r8 h9 => ?_
    refine xm_ifN (eS := (fun (s : (List Int)) => [.im ((tup2 tx Dat.int) frame_), .im (tx text_), .im (tx knot_), .ow ((lstd Dat.int) s), .no, .no])) (et_val (ev_startsX (by exact evm_get (en := tx) (v := r8) (evm_call (en := tx) G_signs_ahead (by exact hr.mono (by first | decide | omega)) (eab_cons (Ev.toB (ev_name 0 rfl)) (eab_cons (Ev.toB (ev_name 1 rfl)) (eab_cons (Ev.toB (ev_name 4 rfl)) eab_nil))) (fun o q => ⟨frame_, text_, x4, rfl, q⟩)) h9) (ev_name 2 rfl))) (fun hc => ?_) (fun hc => ?_) (fun s10 => ?_)
    · refine xm_gd fun h11 => ?_
      refine xm_ofO fun r12 h13 => ?_
      refine xm_gd fun h14 => ?_
      refine xm_ofO fun r15 h16 => ?_
      refine xm_ofO fun r17 h18 => ?_
      refine xm_augIx 3 rfl (ev_find0 (ev_ixT (ev_name 0 rfl) ev_int (by rfl)) (ev_ixX (ev_name 1 rfl) (ev_name 4 rfl) (lenOk_ok h11) h13) rfl rfl rfl) h14 h16 ev_int h18 (fun found_ => ?_)
      exact xm_end [4]
    · exact xm_end [4]
    exact xm_end []
  exact xm_retOw 3 rfl
def R_in_order : List Dat → Res → Prop := fun ds o => ∃ (frame_ : ((List Nat) × Int)) (some_ : (List (List Nat))), ds = [(tup2 tx Dat.int) frame_, (lstd tx) some_] ∧ RmO (lstd tx) (m_in_order frame_ some_) o
def sl_in_order : Scope := keyScope (defBody s_in_order)
theorem sn_in_order : NdefX.NScope ["told", "frame", "sign"] ["told"] ["frame"] sl_in_order := NdefX.nscope_by (by decide +kernel)
theorem hf_in_order : ∀ z ∈ sl_in_order.names, z.2 = .free → (defScope s_in_order).names.lookup z.1 = some .cell ∨ (defScope s_in_order).names.lookup z.1 = some .free := by decide +kernel
theorem hfr_in_order : ∀ y ∈ (["frame"] : List Str), (y, NameKind.free) ∈ sl_in_order.names := by decide +kernel
theorem mem_tab_in_order : ((110 : Addr), ("in_order.<locals>.<lambda>" : Str)) ∈ tabs0 := by decide +kernel
theorem uni_tab_in_order : ∀ q ∈ tabs0, q.1 = (110 : Addr) → q.2 = ("in_order.<locals>.<lambda>" : Str) := by decide +kernel
theorem ok_in_order (T : Txt K mg) (TB : LamX.TabB base mg 114 110)  (D : DfC K mg "in_order" s_in_order ["frame", "some"] 114) : GFnT P w K mg base "in_order" 4 R_in_order := by
  refine GFnT.mkC D sc_in_order (fun ds o h => by obtain ⟨_, _, rfl, _⟩ := h; rfl) fun f A outer s H E hr ds o hR => ?_
  obtain ⟨frame_, some_, rfl, hm⟩ := hR
  refine ⟨_, (.im ((fun _ => rfl) _) (.ol .nil)), fun H0 hT => ends_mO (k := 2) (en := (lstd tx)) ?_ o hm⟩
  unfold m_in_order
  refine xm_gd fun h1 => ?_
  exact xm_retO (eo_sortedLam (ks := (fun w_ => (w_).map fun c_ => (fndX frame_.1 [c_]))) (c := 114) (P := 110) (jf := 0) (k := 0) (N' := ["told", "frame", "sign"]) (x := "told") (y := "frame") hT (eb_name_ol 1 rfl) rfl ((fun _ => rfl) _) (by exact hr.mono (by first | decide | omega)) TB rfl mem_tab_in_order uni_tab_in_order rfl hf_in_order sn_in_order (fun ok => NdefX.Caps.made ok hf_in_order hfr_in_order rfl) (fun _ _ _ _ _ => rfl) (fun w_ hw_ A2 c2 f2 s2 H2 hr2 => eo_compM (xn := "sign") (ea := chd) (eb := Dat.int) 2 inj_chr rfl sn_in_order.nd (it_tx (ev_name 0 rfl)) rfl rfl (fun _ _ _ _ _ => pg_name sn_in_order.nd rfl (by first | exact Or.inl rfl | exact Or.inr rfl)) (compM_one _ _) (.inl ⟨rfl, fun _ => rfl⟩) (fun H0' s' H' C' cl' fp' hs' c_ => (evm_ok (ev_find0 (ev_ixT (ev_name 1 rfl) ev_int (by rfl)) (ev_name 2 rfl) rfl rfl rfl))) (List.all_eq_true.mp h1 w_ hw_)) T.b_sorted)
def R_knots : List Dat → Res → Prop := fun ds o => ∃ (frame_ : ((List Nat) × Int)) (text_ : List Nat), ds = [(tup2 tx Dat.int) frame_, tx text_] ∧ RmO (lstd tx) (m_knots frame_ text_) o
theorem ok_knots (T : Txt K mg) (G_checked : GFn P w K mg base "checked" 1 R_checked) (G_in_order : GFnT P w K mg base "in_order" 4 R_in_order) (G_signs_ahead : GFn P w K mg base "signs_ahead" 1 R_signs_ahead) (D : Df K mg "knots" s_knots ["frame", "text"]) : GFnT P w K mg base "knots" 5 R_knots := by
  refine GFnT.mk2 D sc_knots (fun ds o h => by obtain ⟨_, _, rfl, _⟩ := h; rfl) fun f cdv A outer s H E hr ds o hR => ?_
  obtain ⟨frame_, text_, rfl, hm⟩ := hR
  refine ⟨_, (.im ((fun _ => rfl) _) (.im ((fun _ => rfl) _) .nil)), fun H0 hT => ends_mO (k := 6) (en := (lstd tx)) ?_ o hm⟩
  unfold m_knots
  refine xm_exprM (eb := tx) (evm_call (en := tx) G_checked (by exact hr.mono (by first | decide | omega)) (eab_cons (Ev.toB (ev_name 0 rfl)) (eab_cons (Ev.toB (ev_name 1 rfl)) eab_nil)) (fun o q => ⟨frame_, text_, rfl, q⟩)) (fun _ => ?_)
  refine xm_setO (en := (dicd Dat.bl)) 2 ?_ sc_knots.nd (fun found_ => ?_)
  · exact eo_dic0
  refine xm_gd fun h4 => ?_
  refine xm_gd fun h5 => ?_
  refine xm_for (ea := Dat.int) (eS := (fun (s : (List (List Nat × Bool))) => [.im ((tup2 tx Dat.int) frame_), .im (tx text_), .ow ((dicd Dat.bl) s), .no, .no, .no])) (passes_of rfl) rfl (itm_r1 (ev_len (Ev.toB (ev_name 1 rfl)) (dlen_tx (lenOk_ok h4)) T.b_len) h5 T.b_range) (tg_name 3 sc_knots.nd) (fun _ _ => trivial) rfl (fun x3 s6 => ?_) (fun s6 => ?_)
  · -- here = signs_ahead(frame, text, at)
    refine xm_setM (eb := tx) 4 (evm_call (en := tx) G_signs_ahead (by exact hr.mono (by first | decide | omega)) (eab_cons (Ev.toB (ev_name 0 rfl)) (eab_cons (Ev.toB (ev_name 1 rfl)) (eab_cons (Ev.toB (ev_name 3 rfl)) eab_nil))) (fun o q => ⟨frame_, text_, x3, rfl, q⟩)) sc_knots.nd (fun here_ => ?_)
    refine xm_drops [3] ?_
    refine xm_gd fun h9 => ?_
    refine xm_for (ea := Dat.int) (eS := (fun (s : (List (List Nat × Bool))) => [.im ((tup2 tx Dat.int) frame_), .im (tx text_), .ow ((dicd Dat.bl) s), .no, .im (tx here_), .no])) (passes_of rfl) rfl (itm_r1 (ev_add (ev_ixT (ev_name 0 rfl) ev_int (by rfl)) ev_int) h9 T.b_range) (tg_name 5 sc_knots.nd) (fun _ _ => trivial) rfl (fun x8 s10 => ?_) (fun s10 => ?_)
    · refine xm_gd fun h11 => ?_
      refine xm_gd fun h12 => ?_
      refine xm_dput (en := Dat.bl) 2 ev_bl (ev_slX (ev_name 4 rfl) eo_none (eo_some (ev_name 5 rfl)) (lenOk_ok h11)) h12 (hu_of hr) (fun found_ => ?_)
      exact xm_end [5]
    exact xm_end [4]
  exact xm_retMO (eb := (lstd tx)) (eom_callT (en := (lstd tx)) hT G_in_order (by exact hr.mono (by first | decide | omega)) (eab_cons (Ev.toB (ev_name 0 rfl)) (eab_cons (Ev.toB (EvO.ev (eo_listDm (eb_name_ow 2 rfl) rfl T.b_list))) eab_nil)) (fun o q => ⟨frame_, ((s6).map (·.1)), rfl, q⟩))
end
end B
namespace B
open PySem PySem.Spec PyProof.Rows L2
section
variable {P : Program} {w : World} {K : PySem.W.Frag} {mg : Str → Option Value} {base : Heap}
def R_law_cell_at : List Dat → Res → Prop := fun ds o => ∃ (script_ : (List Int)) (k_ : Int), ds = [(lstd Dat.int) script_, Dat.int k_] ∧ Rm Dat.int (m_law_cell_at script_ k_) o
theorem ok_law_cell_at (T : Txt K mg)  (D : Df K mg "_law_cell_at" s_law_cell_at ["script", "k"]) : GFn P w K mg base "_law_cell_at" 1 R_law_cell_at := by
  refine GFn.mk2 D sc_law_cell_at (fun ds o h => by obtain ⟨_, _, rfl, _⟩ := h; rfl) fun f cdv A outer s H E hr ds o hR => ?_
  obtain ⟨script_, k_, rfl, hm⟩ := hR
  refine ⟨_, (.ol (.im ((fun _ => rfl) _) .nil)), fun H0 => ends_m (k := 2) (en := Dat.int) ?_ o hm⟩
  unfold m_law_cell_at
  refine xm_ifX (fun _ => trivial) (et_lt (ev_name 1 rfl) (ev_lenm (eb_name_ol 0 rfl) T.b_len)) (fun hc => ?_) (fun hc => ?_)
  · refine xm_ofO fun r1 h2 => ?_
    exact xm_ret (EvB.flat (eb_ixLm (en := Dat.int) (eb_name_ol 0 rfl) (ev_name 1 rfl) h2) ((fun _ => rfl) _))
  exact xm_ret ev_int
def R_law_signs : List Dat → Res → Prop := fun ds o => ds = [] ∧ Rm tx (m_law_signs ) o
theorem ok_law_signs (T : Txt K mg)  (D : Df K mg "_law_signs" s_law_signs []) : GFn P w K mg base "_law_signs" 1 R_law_signs := by
  refine GFn.mk2 D sc_law_signs (fun ds o h => by obtain ⟨rfl, _⟩ := h; rfl) fun f cdv A outer s H E hr ds o hR => ?_
  obtain ⟨rfl, hm⟩ := hR
  refine ⟨_, .nil, fun H0 => ends_m (k := 1) (en := tx) ?_ o hm⟩
  unfold m_law_signs
  refine xm_set (en := tx) 0 (ev_lit (l := txt0)) sc_law_signs.nd (fun some_ => ?_)
  refine xm_gd fun h1 => ?_
  exact xm_ret (ev_catX (ev_name 0 rfl) (ev_lit (l := txt1)) (catOk_ok h1))
def R_law_frame : List Dat → Res → Prop := fun ds o => ∃ (cell_ : Int), ds = [Dat.int cell_] ∧ Rm (tup2 tx Dat.int) (m_law_frame cell_) o
theorem ok_law_frame (T : Txt K mg) (G_law_signs : GFn P w K mg base "_law_signs" 1 R_law_signs) (D : Df K mg "_law_frame" s_law_frame ["cell"]) : GFn P w K mg base "_law_frame" 2 R_law_frame := by
  refine GFn.mk2 D sc_law_frame (fun ds o h => by obtain ⟨_, rfl, _⟩ := h; rfl) fun f cdv A outer s H E hr ds o hR => ?_
  obtain ⟨cell_, rfl, hm⟩ := hR
  refine ⟨_, (.im ((fun _ => rfl) _) .nil), fun H0 => ends_m (k := 6) (en := (tup2 tx Dat.int)) ?_ o hm⟩
  unfold m_law_frame
  refine xm_setM (eb := tx) 1 (evm_call0 (en := tx) G_law_signs (by exact hr.mono (by first | decide | omega)) (fun o q => ⟨rfl, q⟩)) sc_law_frame.nd (fun some_ => ?_)
  refine xm_set (en := Dat.int) 2 (ev_fdiv (ev_name 0 rfl) ev_int (by decide) (by decide +kernel)) sc_law_frame.nd (fun number_ => ?_)
  refine xm_ifN (eS := (fun (s : Int) => [.im (Dat.int cell_), .im (tx some_), .im (Dat.int s), .no, .no, .no])) (et_eq (ev_mod (ev_fdiv (ev_name 0 rfl) ev_int (by decide) (by decide +kernel)) ev_int (by decide)) ev_int) (fun hc => ?_) (fun hc => ?_) (fun s1 => ?_)
  · refine xm_gd fun h2 => ?_
    refine xm_set (en := Dat.int) 2 (ev_add (ev_mul (ev_name 2 rfl) (ev_powC ev_int ev_int (r := 38429285755540266125959621032429186627936981) ⟨by decide, by decide, by decide⟩ (by decide +kernel)) (mulOk_ok h2)) ev_int) sc_law_frame.nd (fun number_ => ?_)
    exact xm_end []
  · exact xm_end []
  refine xm_set (en := tx) 3 (ev_lit (l := [])) sc_law_frame.nd (fun letters_ => ?_)
  refine xm_gd fun h5 => ?_
  refine xm_for (ea := Dat.int) (eS := (fun (s : (List Nat) × Int × (List Nat)) => [.im (Dat.int cell_), .im (tx s.1), .im (Dat.int s.2.1), .im (tx s.2.2), .no, .no])) (passes_of rfl) rfl (itm_r1 (ev_add ev_int (ev_mod (ev_name 0 rfl) ev_int (by decide))) h5 T.b_range) (tg_name 4 sc_law_frame.nd) (fun _ _ => trivial) rfl (fun x4 s6 => ?_) (fun s6 => ?_)
  · refine xm_gd fun h7 => ?_
    refine xm_gd fun h8 => ?_
    refine xm_set (en := Dat.int) 5 (ev_mod (ev_name 2 rfl) (ev_len (Ev.toB (ev_name 1 rfl)) (dlen_tx (lenOk_ok h7)) T.b_len) (of_decide_eq_true h8)) sc_law_frame.nd (fun at_ => ?_)
    refine xm_gd fun h9 => ?_
    refine xm_gd fun h10 => ?_
    refine xm_set (en := Dat.int) 2 (ev_fdiv (ev_name 2 rfl) (ev_len (Ev.toB (ev_name 1 rfl)) (dlen_tx (lenOk_ok h9)) T.b_len) (divOk_1 h10) (divOk_2 h10)) sc_law_frame.nd (fun number_ => ?_)
    refine xm_gd fun h11 => ?_
    refine xm_ofO fun r12 h13 => ?_
    refine xm_gd fun h14 => ?_
    refine xm_set (en := tx) 3 (ev_catX (ev_name 3 rfl) (ev_ixX (ev_name 1 rfl) (ev_name 5 rfl) (lenOk_ok h11) h13) (catOk_ok h14)) sc_law_frame.nd (fun letters_ => ?_)
    refine xm_gd fun h15 => ?_
    refine xm_gd fun h16 => ?_
    refine xm_gd fun h17 => ?_
    refine xm_set (en := tx) 1 (ev_catX (ev_slX (ev_name 1 rfl) eo_none (eo_some (ev_name 5 rfl)) (lenOk_ok h15)) (ev_slX (ev_name 1 rfl) (eo_some (ev_add (ev_name 5 rfl) ev_int)) eo_none (lenOk_ok h16)) (catOk_ok h17)) sc_law_frame.nd (fun some_ => ?_)
    exact xm_end [4, 5]
  exact xm_ret (ev_tup (ea_cons (ev_name 3 rfl) (ea_cons (ev_mod (ev_fdiv (ev_name 0 rfl) ev_int (by decide) (by decide +kernel)) ev_int (by decide)) ea_nil)) (by show 2 ≤ sizeLine; decide))
def R_law_text : List Dat → Res → Prop := fun ds o => ∃ (letters_ : List Nat) (cells_ : (List Int)) (way_ : Int), ds = [tx letters_, (lstd Dat.int) cells_, Dat.int way_] ∧ Rm tx (m_law_text letters_ cells_ way_) o
theorem ok_law_text (T : Txt K mg)  (D : Df K mg "_law_text" s_law_text ["letters", "cells", "way"]) : GFn P w K mg base "_law_text" 1 R_law_text := by
  refine GFn.mk2 D sc_law_text (fun ds o h => by obtain ⟨_, _, _, rfl, _⟩ := h; rfl) fun f cdv A outer s H E hr ds o hR => ?_
  obtain ⟨letters_, cells_, way_, rfl, hm⟩ := hR
  refine ⟨_, (.im ((fun _ => rfl) _) (.ol (.im ((fun _ => rfl) _) .nil))), fun H0 => ends_m (k := 6) (en := tx) ?_ o hm⟩
  unfold m_law_text
  refine xm_set (en := tx) 3 (ev_lit (l := [])) sc_law_text.nd (fun text_ => ?_)
  refine xm_for (ea := Dat.int) (eS := (fun (s : List Nat) => [.im (tx letters_), .ol ((lstd Dat.int) cells_), .im (Dat.int way_), .im (tx s), .no, .no])) (passes_of rfl) rfl (itm_ol (fun _ => rfl) 1 rfl) (tg_name 4 sc_law_text.nd) (fun _ _ => trivial) rfl (fun x1 s2 => ?_) (fun s2 => ?_)
  · -- far = 1 + way // 2 % 4
    refine xm_set (en := Dat.int) 5 (ev_add ev_int (ev_mod (ev_fdiv (ev_name 2 rfl) ev_int (by decide) (by decide +kernel)) ev_int (by decide))) sc_law_text.nd (fun far_ => ?_)
    refine xm_bind fun r6 h7 => ?_
    refine xm_ifN (eS := (fun (s : List Nat) => [.im (tx letters_), .ol ((lstd Dat.int) cells_), .im (Dat.int way_), .im (tx s), .no, .no])) (EvW.t (ewm_get (ewm_and (et_eq (ev_mod (ev_name 2 rfl) ev_int (by decide)) ev_int) (fun hq => (ewm_bind fun r4 h5 => (ewm_ok (ewm_get (ewm_and (et_eq (ev_mod (ev_name 4 rfl) ev_int (by decide)) ev_int) (fun hq => (ewm_gd fun h3 => (ewm_ok (ew_and1 (et_ge (ev_len (Ev.toB (ev_name 3 rfl)) (dlen_tx (lenOk_ok h3)) T.b_len) (ev_name 5 rfl))))))) h5))))) h7)) (fun hc => ?_) (fun hc => ?_) (fun s8 => ?_)
    · refine xm_gd fun h9 => ?_
      refine xm_ofO fun r10 h11 => ?_
      refine xm_gd fun h12 => ?_
      refine xm_set (en := tx) 3 (ev_catX (ev_name 3 rfl) (ev_ixX (ev_name 3 rfl) (ev_neg (ev_name 5 rfl)) (lenOk_ok h9) h11) (catOk_ok h12)) sc_law_text.nd (fun text_ => ?_)
      exact xm_end [4, 5]
    · refine xm_gd fun h13 => ?_
      refine xm_gd fun h14 => ?_
      refine xm_gd fun h15 => ?_
      refine xm_ofO fun r16 h17 => ?_
      refine xm_gd fun h18 => ?_
      refine xm_set (en := tx) 3 (ev_catX (ev_name 3 rfl) (ev_ixX (ev_name 0 rfl) (ev_mod (ev_fdiv (ev_name 4 rfl) ev_int (by decide) (by decide +kernel)) (ev_len (Ev.toB (ev_name 0 rfl)) (dlen_tx (lenOk_ok h13)) T.b_len) (of_decide_eq_true h14)) (lenOk_ok h15) h17) (catOk_ok h18)) sc_law_text.nd (fun text_ => ?_)
      exact xm_end [4, 5]
    exact xm_end []
  exact xm_ret (ev_name 3 rfl)
def R_law_ahead : List Dat → Res → Prop := fun ds o => ∃ (letters_ : List Nat) (one_ : List Nat) (other_ : List Nat), ds = [tx letters_, tx one_, tx other_] ∧ Rm Dat.bl (m_law_ahead letters_ one_ other_) o
theorem ok_law_ahead (T : Txt K mg)  (D : Df K mg "_law_ahead" s_law_ahead ["letters", "one", "other"]) : GFn P w K mg base "_law_ahead" 1 R_law_ahead := by
  refine GFn.mk2 D sc_law_ahead (fun ds o h => by obtain ⟨_, _, _, rfl, _⟩ := h; rfl) fun f cdv A outer s H E hr ds o hR => ?_
  obtain ⟨letters_, one_, other_, rfl, hm⟩ := hR
  refine ⟨_, (.im ((fun _ => rfl) _) (.im ((fun _ => rfl) _) (.im ((fun _ => rfl) _) .nil))), fun H0 => ends_m (k := 4) (en := Dat.bl) ?_ o hm⟩
  unfold m_law_ahead
  refine xm_gd fun h5 => ?_
  refine xm_gd fun h6 => ?_
  refine xm_gd fun h7 => ?_
  refine xm_forJT (ea := Dat.int) (eS := (fun (s : Unit) => [.im (tx letters_), .im (tx one_), .im (tx other_), .no])) (oR := (fun r => Outc.rt (Dat.bl r))) (fun r => ⟨_, .inl rfl⟩) (passes_of rfl) rfl (itm_r1 (ev_min2 (ev_len (Ev.toB (ev_name 1 rfl)) (dlen_tx (lenOk_ok h5)) T.b_len) (ev_len (Ev.toB (ev_name 2 rfl)) (dlen_tx (lenOk_ok h6)) T.b_len) rfl T.b_min) h7 T.b_range) (tg_name 3 sc_law_ahead.nd) (fun _ _ => trivial) rfl (fun x4 s8 => ?_) (fun s8 => ?_)
  · refine xm_gd fun h9 => ?_
    refine xm_ofO fun r10 h11 => ?_
    refine xm_gd fun h12 => ?_
    refine xm_ofO fun r13 h14 => ?_
    refine xm_ifJ (eS := (fun (s : Unit) => [.im (tx letters_), .im (tx one_), .im (tx other_), .no])) (eL := (fun (s : Unit) => [.im (tx letters_), .im (tx one_), .im (tx other_), .no])) (oR := (fun r => Outc.rt (Dat.bl r))) (fun _ => trivial) (et_neX (ev_ixX (ev_name 1 rfl) (ev_name 3 rfl) (lenOk_ok h9) h11) (ev_ixX (ev_name 2 rfl) (ev_name 3 rfl) (lenOk_ok h12) h14)) (fun hc => ?_) (fun hc => ?_) (fun s15 => ?_)
    · refine xm_gd fun h16 => ?_
      refine xm_ofO fun r17 h18 => ?_
      refine xm_gd fun h19 => ?_
      refine xm_ofO fun r20 h21 => ?_
      exact xm_ret (ev_lt (ev_find0 (ev_name 0 rfl) (ev_ixX (ev_name 1 rfl) (ev_name 3 rfl) (lenOk_ok h16) h18) rfl rfl rfl) (ev_find0 (ev_name 0 rfl) (ev_ixX (ev_name 2 rfl) (ev_name 3 rfl) (lenOk_ok h19) h21) rfl rfl rfl))
    · exact xm_end [3]
    exact xm_end []
  refine xm_gd fun h22 => ?_
  refine xm_gd fun h23 => ?_
  exact xm_ret (ev_lt (ev_len (Ev.toB (ev_name 1 rfl)) (dlen_tx (lenOk_ok h22)) T.b_len) (ev_len (Ev.toB (ev_name 2 rfl)) (dlen_tx (lenOk_ok h23)) T.b_len))
def R_law_rising : List Dat → Res → Prop := fun ds o => ∃ (letters_ : List Nat) (found_ : (List (List Nat))), ds = [tx letters_, (lstd tx) found_] ∧ Rm Dat.bl (m_law_rising letters_ found_) o
theorem ok_law_rising (T : Txt K mg) (G_law_ahead : GFn P w K mg base "_law_ahead" 1 R_law_ahead) (D : Df K mg "_law_rising" s_law_rising ["letters", "found"]) : GFn P w K mg base "_law_rising" 2 R_law_rising := by
  refine GFn.mk2 D sc_law_rising (fun ds o h => by obtain ⟨_, _, rfl, _⟩ := h; rfl) fun f cdv A outer s H E hr ds o hR => ?_
  obtain ⟨letters_, found_, rfl, hm⟩ := hR
  refine ⟨_, (.im ((fun _ => rfl) _) (.ol .nil)), fun H0 => ends_m (k := 3) (en := Dat.bl) ?_ o hm⟩
  unfold m_law_rising
  refine xm_ifX (fun _ => trivial) (et_not (et_val (ev_to (d := Dat.bl true) (ev_isi_list (d := (lstd tx) found_) (eb_name_ol 1 rfl) T.b_isinstance T.b_list) rfl))) (fun hc => ?_) (fun hc => ?_)
  · -- return False
    exact xm_ret ev_bl
  refine xm_gd fun h3 => ?_
  refine xm_forJT (ea := Dat.int) (eS := (fun (s : Unit) => [.im (tx letters_), .ol ((lstd tx) found_), .no])) (oR := (fun r => Outc.rt (Dat.bl r))) (fun r => ⟨_, .inl rfl⟩) (passes_of rfl) rfl (itm_r1 (ev_lenm (eb_name_ol 1 rfl) T.b_len) h3 T.b_range) (tg_name 2 sc_law_rising.nd) (fun _ _ => trivial) rfl (fun x2 s4 => ?_) (fun s4 => ?_)
  · refine xm_ofO fun r5 h6 => ?_
    refine xm_ifJ (eS := (fun (s : Unit) => [.im (tx letters_), .ol ((lstd tx) found_), .im (Dat.int x2)])) (eL := (fun (s : Unit) => [.im (tx letters_), .ol ((lstd tx) found_), .no])) (oR := (fun r => Outc.rt (Dat.bl r))) (fun _ => trivial) (et_not (et_val (ev_to (d := Dat.bl true) (ev_isi_str (d := tx r5) (eb_ixLm (en := tx) (eb_name_ol 1 rfl) (ev_name 2 rfl) h6) T.b_isinstance T.b_str) rfl))) (fun hc => ?_) (fun hc => ?_) (fun s7 => ?_)
    · -- return False
      exact xm_ret ev_bl
    · exact xm_end []
    refine xm_bind fun r14 h15 => ?_
    refine xm_ifJ (eS := (fun (s : Unit) => [.im (tx letters_), .ol ((lstd tx) found_), .no])) (eL := (fun (s : Unit) => [.im (tx letters_), .ol ((lstd tx) found_), .no])) (oR := (fun r => Outc.rt (Dat.bl r))) (fun _ => trivial) (EvW.t (ewm_get (ewm_and (et_gt (ev_name 2 rfl) ev_int) (fun hq => (ewm_ofO fun r8 h9 => (ewm_ofO fun r10 h11 => (ewm_bind fun r12 h13 => (ewm_ok (ew_and1 (et_not (et_val (by exact evm_get (en := Dat.bl) (v := r12) (evm_call (en := Dat.bl) G_law_ahead (by exact hr.mono (by first | decide | omega)) (eab_cons (Ev.toB (ev_name 0 rfl)) (eab_cons (eb_ixLm (en := tx) (eb_name_ol 1 rfl) (ev_sub (ev_name 2 rfl) ev_int) h9) (eab_cons (eb_ixLm (en := tx) (eb_name_ol 1 rfl) (ev_name 2 rfl) h11) eab_nil))) (fun o q => ⟨letters_, r8, r10, rfl, q⟩)) h13)))))))))) h15)) (fun hc => ?_) (fun hc => ?_) (fun s16 => ?_)
    · -- return False
      exact xm_ret ev_bl
    · exact xm_end [2]
    exact xm_end []
  exact xm_ret ev_bl
def R_law_parted : List Dat → Res → Prop := fun ds o => ∃ (frame_ : ((List Nat) × Int)) (text_ : List Nat) (some_ : (List (List Nat))) (due_ : (List (List Nat × Bool))), ds = [(tup2 tx Dat.int) frame_, tx text_, (lstd tx) some_, (dicd Dat.bl) due_] ∧ Rm Dat.bl (m_law_parted frame_ text_ some_ due_) o
theorem ok_law_parted (T : Txt K mg) (G_counts : GFn P w K mg base "counts" 2 R_counts) (D : Df K mg "_law_parted" s_law_parted ["frame", "text", "some", "due"]) : GFn P w K mg base "_law_parted" 3 R_law_parted := by
  refine GFn.mk2 D sc_law_parted (fun ds o h => by obtain ⟨_, _, _, _, rfl, _⟩ := h; rfl) fun f cdv A outer s H E hr ds o hR => ?_
  obtain ⟨frame_, text_, some_, due_, rfl, hm⟩ := hR
  refine ⟨_, (.im ((fun _ => rfl) _) (.im ((fun _ => rfl) _) (.ol (.ol .nil)))), fun H0 => ends_m (k := 11) (en := Dat.bl) ?_ o hm⟩
  unfold m_law_parted
  refine xm_forJT (ea := tx) (eS := (fun (s : Unit) => [.im ((tup2 tx Dat.int) frame_), .im (tx text_), .ol ((lstd tx) some_), .ol ((dicd Dat.bl) due_), .no, .no, .no, .no, .no, .no, .no])) (oR := (fun r => Outc.rt (Dat.bl r))) (fun r => ⟨_, .inl rfl⟩) (passes_of rfl) rfl (itm_ol (fun _ => rfl) 2 rfl) (tg_name 4 sc_law_parted.nd) (fun _ _ => trivial) rfl (fun x1 s2 => ?_) (fun s2 => ?_)
  · -- told = counts(frame, text, knot)
    refine xm_setMO (eb := (lstd Dat.int)) 5 (eom_call (en := (lstd Dat.int)) G_counts (by exact hr.mono (by first | decide | omega)) (eab_cons (Ev.toB (ev_name 0 rfl)) (eab_cons (Ev.toB (ev_name 1 rfl)) (eab_cons (Ev.toB (ev_name 4 rfl)) eab_nil))) (fun o q => ⟨frame_, text_, x1, rfl, q⟩)) sc_law_parted.nd (fun told_ => ?_)
    refine xm_ifJ (eS := (fun (s : Unit) => [.im ((tup2 tx Dat.int) frame_), .im (tx text_), .ol ((lstd tx) some_), .ol ((dicd Dat.bl) due_), .im (tx x1), .ow ((lstd Dat.int) told_), .no, .no, .no, .no, .no])) (eL := (fun (s : Unit) => [.im ((tup2 tx Dat.int) frame_), .im (tx text_), .ol ((lstd tx) some_), .ol ((dicd Dat.bl) due_), .no, .no, .no, .no, .no, .no, .no])) (oR := (fun r => Outc.rt (Dat.bl r))) (fun _ => trivial) (et_lt (ev_sum (eb_name_ow 5 rfl) rfl T.b_sum) ev_int) (fun hc => ?_) (fun hc => ?_) (fun s3 => ?_)
    · -- return False
      exact xm_ret ev_bl
    · exact xm_end []
    refine xm_gd fun h4 => ?_
    refine xm_ifJ (eS := (fun (s : Unit) => [.im ((tup2 tx Dat.int) frame_), .im (tx text_), .ol ((lstd tx) some_), .ol ((dicd Dat.bl) due_), .no, .no, .no, .no, .no, .no, .no])) (eL := (fun (s : Unit) => [.im ((tup2 tx Dat.int) frame_), .im (tx text_), .ol ((lstd tx) some_), .ol ((dicd Dat.bl) due_), .no, .no, .no, .no, .no, .no, .no])) (oR := (fun r => Outc.rt (Dat.bl r))) (fun _ => trivial) (et_lt (ev_len (Ev.toB (ev_name 4 rfl)) (dlen_tx (lenOk_ok h4)) T.b_len) (ev_ixT (ev_name 0 rfl) ev_int (by rfl))) (fun hc => ?_) (fun hc => ?_) (fun s5 => ?_)
    · refine xm_gd fun h6 => ?_
      refine xm_bind fun r7 h8 => ?_
      refine xm_setO (en := (lstd Dat.int)) 6 ?_ sc_law_parted.nd (fun total_ => ?_)
      · exact (eo_compM (xn := "sign") (ea := chd) (eb := Dat.int) 9 inj_chr rfl sc_law_parted.nd (it_tx (ev_ixT (ev_name 0 rfl) ev_int (by rfl))) rfl rfl (fun _ _ _ _ _ => pg_name sc_law_parted.nd rfl (by first | exact Or.inl rfl | exact Or.inr rfl)) h8 (.inl ⟨rfl, fun _ => rfl⟩) (fun H0' s' H' C' cl' fp' hs' sign_ => (evm_ok ev_int)) h6)
      refine xm_forJ (ea := chd) (eS := (fun (s : (List Int)) => [.im ((tup2 tx Dat.int) frame_), .im (tx text_), .ol ((lstd tx) some_), .ol ((dicd Dat.bl) due_), .im (tx x1), .ow ((lstd Dat.int) told_), .ow ((lstd Dat.int) s), .no, .no, .no, .no])) (eL := (fun (s : Unit) => [.im ((tup2 tx Dat.int) frame_), .im (tx text_), .ol ((lstd tx) some_), .ol ((dicd Dat.bl) due_), .no, .no, .no, .no, .no, .no, .no])) (oR := (fun r => Outc.rt (Dat.bl r))) (fun r => ⟨_, .inl rfl⟩) (passes_of rfl) rfl (it_tx (ev_ixT (ev_name 0 rfl) ev_int (by rfl))) (tg_name 7 sc_law_parted.nd) (fun _ _ => trivial) rfl (fun x9 s10 => ?_) (fun s10 => ?_)
      · refine xm_gd fun h11 => ?_
        refine xm_setMO (eb := (lstd Dat.int)) 8 (eom_call (en := (lstd Dat.int)) G_counts (by exact hr.mono (by first | decide | omega)) (eab_cons (Ev.toB (ev_name 0 rfl)) (eab_cons (Ev.toB (ev_name 1 rfl)) (eab_cons (Ev.toB (ev_catX (ev_name 4 rfl) (ev_name 7 rfl) (catOk_ok h11))) eab_nil))) (fun o q => ⟨frame_, text_, (x1 ++ [x9]), rfl, q⟩)) sc_law_parted.nd (fun below_ => ?_)
        refine xm_gd fun h12 => ?_
        refine xm_ifJ (eS := (fun (s : Unit) => [.im ((tup2 tx Dat.int) frame_), .im (tx text_), .ol ((lstd tx) some_), .ol ((dicd Dat.bl) due_), .im (tx x1), .ow ((lstd Dat.int) told_), .ow ((lstd Dat.int) s10), .no, .ow ((lstd Dat.int) below_), .no, .no])) (eL := (fun (s : (List Int)) => [.im ((tup2 tx Dat.int) frame_), .im (tx text_), .ol ((lstd tx) some_), .ol ((dicd Dat.bl) due_), .im (tx x1), .ow ((lstd Dat.int) told_), .ow ((lstd Dat.int) s), .no, .no, .no, .no])) (oR := (fun r => Outc.rt (Dat.bl r))) (fun _ => trivial) (et_to (et_neD (Ev.toB (ev_gt (ev_sum (eb_name_ow 8 rfl) rfl T.b_sum) ev_int)) (Ev.toB (ev_inKm (ev_catX (ev_name 4 rfl) (ev_name 7 rfl) (catOk_ok h12)) (eb_name_ol 3 rfl) (hu_of hr))) hr.units (okD_of (n := 8) (okn_b (decide ((0 : Int) < (below_).sum)))) (okD_of (n := 8) (okn_b (dhas due_ (x1 ++ [x9]))))) (congrArg (fun q => (!q)) (eqs_bool (decide ((0 : Int) < (below_).sum)) (dhas due_ (x1 ++ [x9]))))) (fun hc => ?_) (fun hc => ?_) (fun s13 => ?_)
        · -- return False
          exact xm_ret ev_bl
        · exact xm_end [7]
        refine xm_gd fun h14 => ?_
        refine xm_gd fun h15 => ?_
        refine xm_bind fun r20 h21 => ?_
        refine xm_setO (en := (lstd Dat.int)) 6 ?_ sc_law_parted.nd (fun total_ => ?_)
        · exact (eo_compM (xn := "k") (ea := Dat.int) (eb := Dat.int) 10 inj_int rfl sc_law_parted.nd (itm_r1 (ev_lenm (eb_name_ow 6 rfl) T.b_len) h14 T.b_range) rfl rfl (fun _ _ _ _ _ => pg_name sc_law_parted.nd rfl (by first | exact Or.inl rfl | exact Or.inr rfl)) h21 (.inl ⟨rfl, fun _ => rfl⟩) (fun H0' s' H' C' cl' fp' hs' k_ => (evm_ofO fun r16 h17 => (evm_ofO fun r18 h19 => (evm_ok (ev_add (ev_ixLw (en := Dat.int) 6 rfl (ev_name 10 rfl) h17) (ev_ixLw (en := Dat.int) 8 rfl (ev_name 10 rfl) h19)))))) h15)
        exact xm_end [8]
      refine xm_ifJ (eS := (fun (s : Unit) => [.im ((tup2 tx Dat.int) frame_), .im (tx text_), .ol ((lstd tx) some_), .ol ((dicd Dat.bl) due_), .no, .no, .no, .no, .no, .no, .no])) (eL := (fun (s : Unit) => [.im ((tup2 tx Dat.int) frame_), .im (tx text_), .ol ((lstd tx) some_), .ol ((dicd Dat.bl) due_), .no, .no, .no, .no, .no, .no, .no])) (oR := (fun r => Outc.rt (Dat.bl r))) (fun _ => trivial) (et_to (et_neD (eb_name_ow 6 rfl) (eb_name_ow 5 rfl) hr.units (okD_of (n := 8) ((okn_lst okn_i) s10)) (okD_of (n := 8) ((okn_lst okn_i) told_))) (congrArg (fun q => (!q)) ((eqs_lst eqs_int) s10 told_))) (fun hc => ?_) (fun hc => ?_) (fun s22 => ?_)
      · -- return False
        exact xm_ret ev_bl
      · exact xm_end [4, 5, 6]
      exact xm_end []
    · exact xm_end [4, 5]
    exact xm_end []
  exact xm_ret ev_bl
def R_law_refused : List Dat → Res → Prop := fun ds o => ∃ (frame_ : ((List Nat) × Int)) (text_ : List Nat), ds = [(tup2 tx Dat.int) frame_, tx text_] ∧ Rm Dat.bl (m_law_refused frame_ text_) o
theorem ok_law_refused (T : Txt K mg) (G_knots : GFnT P w K mg base "knots" 5 R_knots) (D : Df K mg "_law_refused" s_law_refused ["frame", "text"]) : GFnT P w K mg base "_law_refused" 6 R_law_refused := by
  refine GFnT.mk2 D sc_law_refused (fun ds o h => by obtain ⟨_, _, rfl, _⟩ := h; rfl) fun f cdv A outer s H E hr ds o hR => ?_
  obtain ⟨frame_, text_, rfl, hm⟩ := hR
  refine ⟨_, (.im ((fun _ => rfl) _) (.im ((fun _ => rfl) _) .nil)), fun H0 hT => ends_m (k := 4) (en := Dat.bl) ?_ o hm⟩
  unfold m_law_refused
  refine xm_setO (en := (lstd Dat.bl)) 2 ?_ sc_law_refused.nd (fun kinds_ => ?_)
  · exact (eo_lst ea_nil (by show 0 ≤ sizeLine; decide))
  obtain ⟨D0, hD0, hDx⟩ : ∃ D0, mg "NoText" = some (.ref D0) ∧ (∀ C, mg "NoText" = some (.ref C) → PySem.W.exmOne K (.ref C) (.ref D0) = some true) := by
    obtain ⟨C0, xc⟩ := T.x_NoText
    exact ⟨C0, xc.at_.g, xc.exm⟩
  refine xm_try1 (eS := (fun (s : (List Bool)) => [.no, .no, .ow ((lstd Dat.bl) s), .no])) 3 [0, 1] rfl rfl sc_law_refused.nd (names_of hD0) (fun pn xe hp => (eom_ev (eom_callT (en := (lstd tx)) hT G_knots (by exact hr.mono (by first | decide | omega)) (eab_cons (Ev.toB (ev_name 0 rfl)) (eab_cons (Ev.toB (ev_name 1 rfl)) eab_nil)) (fun o q => ⟨frame_, text_, rfl, q⟩)))) rfl ⟨?_, trivial⟩ (fun _ => rfl) (fun s1 => ?_)
  · refine ⟨hDx, fun a C oe pn hC hz hf => ?_⟩
    obtain ⟨C0, xc⟩ := T.x_NoText
    have e := xc.eq hC
    subst e
    dsimp only
    refine xm_setO (en := (lstd Dat.bl)) 2 ?_ sc_law_refused.nd (fun kinds_ => ?_)
    · exact (eo_lst (ea_cons (by exact ev_isEo 3 (xc.kits.get "PressError" true (by decide +kernel)) xc.ec hz hf rfl T.b_isinstance) (ea_cons (by exact ev_isEs 3 (.cons (xc.kits.get "NoKnot" false (by decide +kernel)) (.cons (xc.kits.get "NoPlace" false (by decide +kernel)) (.cons (xc.kits.get "NoSign" false (by decide +kernel)) .nil))) xc.ec hz hf rfl T.b_isinstance) ea_nil)) (by show 2 ≤ sizeLine; decide))
    exact xm_end [0, 1, 3]
  exact xm_ret (ev_to (ev_eqD (eb_name_ow 2 rfl) (Ev.toB (EvO.ev (eo_lst (ea_cons ev_bl (ea_cons ev_bl ea_nil)) (by show 2 ≤ sizeLine; decide)))) hr.units (okD_of (n := 8) ((okn_lst okn_b) s1)) (okD_of (n := 8) ((okn_lst okn_b) [true, false]))) (congrArg Dat.bl ((eqs_lst eqs_bool) s1 [true, false])))
def R_lawm : List Dat → Res → Prop := fun ds o => ∃ (script_ : (List Int)), ds = [(lstd Dat.int) script_] ∧ Rm Dat.bl (m_law script_) o
theorem ok_law {f : Addr} {fd : FuncData} (T : Txt K mg) (G_law_frame : GFn P w K mg base "_law_frame" 2 R_law_frame) (G_law_text : GFn P w K mg base "_law_text" 1 R_law_text) (G_knots : GFnT P w K mg base "knots" 5 R_knots) (G_law_cell_at : GFn P w K mg base "_law_cell_at" 1 R_law_cell_at) (G_law_rising : GFn P w K mg base "_law_rising" 2 R_law_rising) (G_elders : GFn P w K mg base "elders" 2 R_elders) (G_law_refused : GFnT P w K mg base "_law_refused" 6 R_law_refused) (G_law_parted : GFn P w K mg base "_law_parted" 3 R_law_parted) (G_law_signs : GFn P w K mg base "_law_signs" 1 R_law_signs) (G_counts : GFn P w K mg base "counts" 2 R_counts) (F : Fun K "law" "law" s_law f fd) : FnOk P w K mg base (L2.CX P w) 7 f fd ["script"] (spT K mg R_lawm) := by
  refine fn_mkT F sc_law (fun ds o h => by obtain ⟨_, rfl, _⟩ := h; rfl) fun A outer s H E hr ds o hR => ?_
  obtain ⟨script_, rfl, hm⟩ := hR
  refine ⟨_, (.ol .nil), fun H0 hT => ends_m (k := 16) (en := Dat.bl) ?_ o hm⟩
  unfold m_law
  refine xm_bind fun r1 h2 => ?_
  refine xm_setM (eb := (tup2 tx Dat.int)) 1 (evm_call (en := (tup2 tx Dat.int)) G_law_frame (by exact hr.mono (by first | decide | omega)) (eab_cons (Ev.toB (by exact evm_get (en := Dat.int) (v := r1) (evm_call (en := Dat.int) G_law_cell_at (by exact hr.mono (by first | decide | omega)) (eab_cons (eb_name_ol 0 rfl) (eab_cons (Ev.toB ev_int) eab_nil)) (fun o q => ⟨script_, (0 : Int), rfl, q⟩)) h2)) eab_nil) (fun o q => ⟨r1, rfl, q⟩)) sc_law.nd (fun frame_ => ?_)
  refine xm_bind fun r3 h4 => ?_
  refine xm_setM (eb := tx) 2 (evm_call (en := tx) G_law_text (by exact hr.mono (by first | decide | omega)) (eab_cons (Ev.toB (ev_ixT (ev_name 1 rfl) ev_int (by rfl))) (eab_cons (Ev.toB (EvO.ev (eo_slLm (en := Dat.int) (l := script_) (fun _ => rfl) (eb_name_ol 0 rfl) (eo_some ev_int) (eo_some ev_int)))) (eab_cons (Ev.toB (by exact evm_get (en := Dat.int) (v := r3) (evm_call (en := Dat.int) G_law_cell_at (by exact hr.mono (by first | decide | omega)) (eab_cons (eb_name_ol 0 rfl) (eab_cons (Ev.toB ev_int) eab_nil)) (fun o q => ⟨script_, (1 : Int), rfl, q⟩)) h4)) eab_nil))) (fun o q => ⟨frame_.1, (cut script_ (some (3 : Int)) (some (53 : Int))), r3, rfl, q⟩)) sc_law.nd (fun text_ => ?_)
  refine xm_setMO (eb := (lstd tx)) 3 (eom_callT (en := (lstd tx)) hT G_knots (by exact hr.mono (by first | decide | omega)) (eab_cons (Ev.toB (ev_name 1 rfl)) (eab_cons (Ev.toB (ev_name 2 rfl)) eab_nil)) (fun o q => ⟨frame_, text_, rfl, q⟩)) sc_law.nd (fun found_ => ?_)
  refine xm_bind fun r5 h6 => ?_
  refine xm_ifX (fun _ => trivial) (et_not (et_val (by exact evm_get (en := Dat.bl) (v := r5) (evm_call (en := Dat.bl) G_law_rising (by exact hr.mono (by first | decide | omega)) (eab_cons (Ev.toB (ev_ixT (ev_name 1 rfl) ev_int (by rfl))) (eab_cons (eb_name_ow 3 rfl) eab_nil)) (fun o q => ⟨frame_.1, found_, rfl, q⟩)) h6))) (fun hc => ?_) (fun hc => ?_)
  · -- return False
    exact xm_ret ev_bl
  refine xm_setO (en := (dicd Dat.bl)) 4 ?_ sc_law.nd (fun due_ => ?_)
  · exact eo_dic0
  refine xm_gd fun h10 => ?_
  refine xm_gd fun h11 => ?_
  refine xm_for (ea := Dat.int) (eS := (fun (s : (List (List Nat × Bool))) => [.ol ((lstd Dat.int) script_), .im ((tup2 tx Dat.int) frame_), .im (tx text_), .ow ((lstd tx) found_), .ow ((dicd Dat.bl) s), .no, .no, .no, .no, .no, .no, .no, .no, .no, .no, .no])) (passes_of rfl) rfl (itm_r1 (ev_len (Ev.toB (ev_name 2 rfl)) (dlen_tx (lenOk_ok h10)) T.b_len) h11 T.b_range) (tg_name 5 sc_law.nd) (fun _ _ => trivial) rfl (fun x9 s12 => ?_) (fun s12 => ?_)
  · -- told = elders(frame, text, at)
    refine xm_setM (eb := tx) 6 (evm_call (en := tx) G_elders (by exact hr.mono (by first | decide | omega)) (eab_cons (Ev.toB (ev_name 1 rfl)) (eab_cons (Ev.toB (ev_name 2 rfl)) (eab_cons (Ev.toB (ev_name 5 rfl)) eab_nil))) (fun o q => ⟨frame_, text_, x9, rfl, q⟩)) sc_law.nd (fun told_ => ?_)
    refine xm_drops [5] ?_
    refine xm_gd fun h16 => ?_
    refine xm_gd fun h17 => ?_
    refine xm_for (ea := Dat.int) (eS := (fun (s : (List (List Nat × Bool))) => [.ol ((lstd Dat.int) script_), .im ((tup2 tx Dat.int) frame_), .im (tx text_), .ow ((lstd tx) found_), .ow ((dicd Dat.bl) s), .no, .im (tx told_), .no, .no, .no, .no, .no, .no, .no, .no, .no])) (passes_of rfl) rfl (itm_r1 (ev_add (ev_len (Ev.toB (ev_name 6 rfl)) (dlen_tx (lenOk_ok h16)) T.b_len) ev_int) h17 T.b_range) (tg_name 7 sc_law.nd) (fun _ _ => trivial) rfl (fun x15 s18 => ?_) (fun s18 => ?_)
    · refine xm_gd fun h19 => ?_
      refine xm_gd fun h20 => ?_
      refine xm_dput (en := Dat.bl) 4 ev_bl (ev_slX (ev_name 6 rfl) eo_none (eo_some (ev_name 7 rfl)) (lenOk_ok h19)) h20 (hu_of hr) (fun due_ => ?_)
      exact xm_end [7]
    exact xm_end [6]
  refine xm_bind fun r26 h27 => ?_
  refine xm_ifX (fun _ => trivial) (EvW.t (ewm_get (ewm_or (et_ne (ev_lenDm (eb_name_ow 4 rfl) T.b_len) (ev_lenm (eb_name_ow 3 rfl) T.b_len)) (fun hq => (ewm_gd fun h21 => (ewm_bind fun r22 h23 => (ewm_gd fun h24 => (ewm_gd fun h25 => (ewm_ok (ew_or1 (et_to (et_neD (Ev.toB (EvO.ev (eo_lend (.cons (.ol _) (.cons (.im _) (.cons (.im _) (.cons (LendE.lst (fun _ => rfl)) (.cons (LendE.dic (fun _ => rfl)) (.cons (.no _) (.cons (.no _) (.cons (.no _) (.cons (.no _) (.cons (.no _) (.cons (.no _) (.cons (.no _) (.cons (.no _) (.cons (.no _) (.cons (.no _) (.cons (.no _) .nil)))))))))))))))) (fun G => (eo_compM (xn := "knot") (ea := tx) (eb := tx) 15 inj_str rfl sc_law.nd (itm_ol (fun _ => rfl) 3 rfl) rfl rfl (fun _ _ _ _ _ => pg_name sc_law.nd rfl (by first | exact Or.inl rfl | exact Or.inr rfl)) h23 (.inr ⟨_, rfl, fun H0' s' H' C' cl' fp' knot_ => (etm_ok (et_ninKm (ev_name 15 rfl) (eb_name_ol 4 rfl) (hu_of hr)))⟩) (fun H0' s' H' C' cl' fp' hs' knot_ => (evm_ok (ev_name 15 rfl))) h21))))) (Ev.toB (EvO.ev (eo_lst ea_nil (by show 0 ≤ sizeLine; decide)))) hr.units (okD_of (n := 8) h24) (okD_of (n := 8) h25)) (congrArg (fun q => (!q)) ((eqs_lst eqs_str) r22 []))))))))))) h27)) (fun hc => ?_) (fun hc => ?_)
  · -- return False
    exact xm_ret ev_bl
  refine xm_bind fun r31 h32 => ?_
  refine xm_ifX (fun _ => trivial) (EvW.t (ewm_get (ewm_and (et_neX (ev_name 2 rfl) (ev_lit (l := []))) (fun hq => (ewm_bind fun r28 h29 => (ewm_gd fun h30 => (ewm_ok (ew_and1 (et_ne (ev_sum (Ev.toB (EvO.ev (by exact eom_get (en := (lstd Dat.int)) (v := r28) (eom_call (en := (lstd Dat.int)) G_counts (by exact hr.mono (by first | decide | omega)) (eab_cons (Ev.toB (ev_name 1 rfl)) (eab_cons (Ev.toB (ev_name 2 rfl)) (eab_cons (Ev.toB (ev_lit (l := []))) eab_nil))) (fun o q => ⟨frame_, text_, ([] : List Nat), rfl, q⟩)) h29))) rfl T.b_sum) (ev_len (Ev.toB (ev_name 2 rfl)) (dlen_tx (lenOk_ok h30)) T.b_len)))))))) h32)) (fun hc => ?_) (fun hc => ?_)
  · -- return False
    exact xm_ret ev_bl
  refine xm_setO (en := (lstd tx)) 8 ?_ sc_law.nd (fun kept_ => ?_)
  · exact (eo_listm (fun _ => rfl) (eb_name_ow 3 rfl) T.b_list)
  refine xm_gd fun h33 => ?_
  refine xm_append (en := tx) 3 rfl (ev_lit (l := [])) h33 (fun found_ => ?_)
  refine xm_setM (eb := Dat.int) 9 (evm_call (en := Dat.int) G_law_cell_at (by exact hr.mono (by first | decide | omega)) (eab_cons (eb_name_ol 0 rfl) (eab_cons (Ev.toB ev_int) eab_nil)) (fun o q => ⟨script_, (2 : Int), rfl, q⟩)) sc_law.nd (fun cell_ => ?_)
  refine xm_gd fun h34 => ?_
  refine xm_set (en := Dat.int) 10 (ev_mod (ev_fdiv (ev_name 9 rfl) ev_int (by decide) (by decide +kernel)) (ev_max2 ev_int (ev_lenm (eb_name_ow 8 rfl) T.b_len) rfl T.b_max) (of_decide_eq_true h34)) sc_law.nd (fun start_ => ?_)
  refine xm_gd fun h35 => ?_
  refine xm_setO (en := (lstd tx)) 11 ?_ sc_law.nd (fun some_ => ?_)
  · exact (eo_catLm (en := tx) (eo_slLm (en := tx) (l := kept_) (fun _ => rfl) (eb_name_ow 8 rfl) eo_none (eo_some ev_int)) (eo_slLm (en := tx) (l := kept_) (fun _ => rfl) (eb_name_ow 8 rfl) (eo_some (ev_name 10 rfl)) (eo_some (ev_add (ev_name 10 rfl) ev_int))) h35)
  refine xm_bind fun r36 h37 => ?_
  refine xm_gd fun h38 => ?_
  refine xm_gd fun h39 => ?_
  refine xm_bind fun r42 h43 => ?_
  refine xm_ifX (fun _ => trivial) (EvW.t (ewm_get (ewm_or (et_to (et_neD (Ev.toB (EvO.ev (by exact eom_get (en := (lstd tx)) (v := r36) (eom_callT (en := (lstd tx)) hT G_knots (by exact hr.mono (by first | decide | omega)) (eab_cons (Ev.toB (ev_name 1 rfl)) (eab_cons (Ev.toB (ev_name 2 rfl)) eab_nil)) (fun o q => ⟨frame_, text_, rfl, q⟩)) h37))) (eb_name_ow 8 rfl) hr.units (okD_of (n := 8) h38) (okD_of (n := 8) h39)) (congrArg (fun q => (!q)) ((eqs_lst eqs_str) r36 kept_))) (fun hq => (ewm_bind fun r40 h41 => (ewm_ok (ew_or1 (et_not (et_val (by exact evm_get (en := Dat.bl) (v := r40) (evm_call (en := Dat.bl) G_law_parted (by exact hr.mono (by first | decide | omega)) (eab_cons (Ev.toB (ev_name 1 rfl)) (eab_cons (Ev.toB (ev_name 2 rfl)) (eab_cons (eb_name_ow 11 rfl) (eab_cons (eb_name_ow 4 rfl) eab_nil)))) (fun o q => ⟨frame_, text_, some_, s12, rfl, q⟩)) h41)))))))) h43)) (fun hc => ?_) (fun hc => ?_)
  · -- return False
    exact xm_ret ev_bl
  refine xm_bind fun r44 h45 => ?_
  refine xm_gd fun h46 => ?_
  refine xm_setLcM (xn := "sign") (ea := chd) (eb := chd) 12 13 inj_chr rfl sc_law.nd (it_tx (by exact evm_get (en := tx) (v := r44) (evm_call0 (en := tx) G_law_signs (by exact hr.mono (by first | decide | omega)) (fun o q => ⟨rfl, q⟩)) h45)) rfl rfl (fun _ _ _ _ _ => pg_name sc_law.nd rfl (by first | exact Or.inl rfl | exact Or.inr rfl)) (.inr ⟨_, rfl, fun H0' s' H' C' cl' fp' sign_ => (etm_ok (et_ninX (ev_name 13 rfl) (ev_ixT (ev_name 1 rfl) ev_int (by rfl))))⟩) (fun H0' s' H' C' cl' fp' hs' sign_ => (evm_ok (ev_name 13 rfl))) h46 (fun lacked_ => ?_)
  refine xm_gd fun h47 => ?_
  refine xm_gd fun h48 => ?_
  refine xm_set (en := Dat.int) 5 (ev_mod (ev_name 9 rfl) (ev_add (ev_len (Ev.toB (ev_name 2 rfl)) (dlen_tx (lenOk_ok h47)) T.b_len) ev_int) (of_decide_eq_true h48)) sc_law.nd (fun at_ => ?_)
  refine xm_gd fun h49 => ?_
  refine xm_ofO fun r50 h51 => ?_
  refine xm_set (en := chd) 13 (ev_ixLw (en := chd) 12 rfl (ev_mod (ev_fdiv (ev_name 9 rfl) ev_int (by decide) (by decide +kernel)) (ev_lenm (eb_name_ow 12 rfl) T.b_len) (of_decide_eq_true h49)) h51) sc_law.nd (fun sign_ => ?_)
  refine xm_gd fun h52 => ?_
  refine xm_gd fun h53 => ?_
  refine xm_gd fun h54 => ?_
  refine xm_gd fun h55 => ?_
  refine xm_set (en := tx) 14 (ev_catX (ev_catX (ev_slX (ev_name 2 rfl) eo_none (eo_some (ev_name 5 rfl)) (lenOk_ok h52)) (ev_name 13 rfl) (catOk_ok h53)) (ev_slX (ev_name 2 rfl) (eo_some (ev_name 5 rfl)) eo_none (lenOk_ok h54)) (catOk_ok h55)) sc_law.nd (fun bad_ => ?_)
  refine xm_bind fun r56 h57 => ?_
  refine xm_bind fun r61 h62 => ?_
  exact xm_ret (evm_get (evm_and (by exact evm_get (en := Dat.bl) (v := r56) (evm_callT (en := Dat.bl) hT G_law_refused (by exact hr.mono (by first | decide | omega)) (eab_cons (Ev.toB (ev_name 1 rfl)) (eab_cons (Ev.toB (ev_name 14 rfl)) eab_nil)) (fun o q => ⟨frame_, bad_, rfl, q⟩)) h57) (fun hq => evm_nox (evm_gd fun h58 => (evm_bind fun r59 h60 => (evm_ok (ev_one (by exact evm_get (en := Dat.bl) (v := r59) (evm_callT (en := Dat.bl) hT G_law_refused (by exact hr.mono (by first | decide | omega)) (eab_cons (Ev.toB (ev_name 1 rfl)) (eab_cons (Ev.toB (ev_catX (ev_name 14 rfl) (ev_name 13 rfl) (catOk_ok h58))) eab_nil)) (fun o q => ⟨frame_, (bad_ ++ [sign_]), rfl, q⟩)) h60)))))) nox_ne) h62)
end
end B
namespace B
open PySem PySem.Spec PyProof.Rows L2
/-! ### dicts -/
abbrev En := List Int × (Int × Int) × (Int × Int)
theorem dget_nil {α : Type} (q : List Nat) : dget ([] : List (List Nat × α)) q = none := rfl
theorem dget_app {α : Type} {l : List (List Nat × α)} {k : List Nat} {v : α} {q : List Nat} : dget (l ++ [(k, v)]) q = match dget l q with | some w => some w | none => if k = q then some v else none := by
  induction l with
  | nil => rw [List.nil_append, dget_cons, dget_nil]
  | cons p l ih =>
    rw [List.cons_append, dget_cons, dget_cons, ih]
    by_cases h : p.1 = q
    · rw [if_pos h, if_pos h]
    · rw [if_neg h, if_neg h]
theorem dget_mapo {α : Type} {k : List Nat} {v : α} {q : List Nat} (hq : k ≠ q) : ∀ l : List (List Nat × α), dget (l.map fun p => if p.1 = k then (p.1, v) else p) q = dget l q
  | [] => rfl
  | p :: l => by
    rw [List.map_cons, dget_cons, dget_cons, dget_mapo hq l]
    by_cases h : p.1 = k
    · rw [if_pos h]
      show (if p.1 = q then _ else _) = _
      rw [if_neg (by rw [h]; exact hq), if_neg (by rw [h]; exact hq)]
    · rw [if_neg h]
theorem dget_map {α : Type} {k : List Nat} {v : α} : ∀ l : List (List Nat × α), (l.any fun p => decide (p.1 = k)) = true → dget (l.map fun p => if p.1 = k then (p.1, v) else p) k = some v
  | [], h => by cases h
  | p :: l, h => by
    rw [List.map_cons, dget_cons]
    by_cases e : p.1 = k
    · rw [if_pos e]
      show (if p.1 = k then _ else _) = _
      rw [if_pos e]
    · rw [if_neg e, if_neg e]
      rw [List.any_cons, decide_eq_false e, Bool.false_or] at h
      exact dget_map l h
theorem dget_none {α : Type} {k : List Nat} : ∀ l : List (List Nat × α), k ∉ l.map (·.1) → dget l k = none
  | [], _ => rfl
  | p :: l, h => by
    rw [List.map_cons, List.mem_cons, not_or] at h
    rw [dget_cons, if_neg (fun e => h.1 e.symm)]
    exact dget_none l h.2
theorem any_iff {α : Type} {k : List Nat} (l : List (List Nat × α)) : (l.any fun p => decide (p.1 = k)) = true ↔ k ∈ l.map (·.1) := by
  rw [List.any_eq_true]
  constructor
  · rintro ⟨p, h1, h2⟩
    exact List.mem_map.mpr ⟨p, h1, of_decide_eq_true h2⟩
  · intro h
    obtain ⟨p, h1, h2⟩ := List.mem_map.mp h
    exact ⟨p, h1, decide_eq_true h2⟩
theorem dget_put {α : Type} (l : List (List Nat × α)) (k : List Nat) (v : α) (q : List Nat) : dget (dput l k v) q = if k = q then some v else dget l q := by
  unfold dput
  by_cases h : (l.any fun p => decide (p.1 = k)) = true
  · rw [if_pos h]
    by_cases e : k = q
    · subst e; rw [if_pos rfl]; exact dget_map l h
    · rw [if_neg e]; exact dget_mapo e l
  · rw [if_neg h, dget_app]
    by_cases e : k = q
    · subst e
      rw [dget_none l (fun m => h ((any_iff l).mpr m))]
    · rw [if_neg e]
      cases dget l q with
      | none => simp [e]
      | some w => simp [e]
theorem dput_new {α : Type} {l : List (List Nat × α)} {k : List Nat} {v : α} (h : k ∉ l.map (·.1)) : dput l k v = l ++ [(k, v)] := by
  unfold dput
  rw [if_neg (fun q => h ((any_iff l).mp q))]
theorem dget_merge {α : Type} : ∀ (m l : List (List Nat × α)) (q : List Nat), (m.map (·.1)).Nodup → dget (dmerge l m) q = match dget m q with | some w => some w | none => dget l q
  | [], l, q, _ => rfl
  | p :: m, l, q, h => by
    rw [List.map_cons, List.nodup_cons] at h
    show dget (dmerge (dput l p.1 p.2) m) q = _
    rw [dget_merge m _ q h.2, dget_put, dget_cons]
    by_cases e : p.1 = q
    · rw [if_pos e, if_pos e, dget_none m (e ▸ h.1)]
    · rw [if_neg e, if_neg e]
theorem dhas_is {α : Type} (l : List (List Nat × α)) (k : List Nat) : dhas l k = (dget l k).isSome := rfl
/-! ### the frame's functions -/
theorem rep_one {α : Type} (n : Nat) (x : α) : (List.replicate n [x]).flatten = List.replicate n x := by
  induction n with
  | zero => rfl
  | succ n ih => rw [List.replicate_succ, List.flatten_cons, ih]; rfl
theorem repS_one {α : Type} (n : Nat) (x : α) : repS [x] (n : Int) = List.replicate n x := by
  unfold repS; rw [Int.toNat_natCast, rep_one]
theorem p_checked {L : List Nat} {D : Int} {t : List Nat} (h : ∀ c ∈ t, c ∈ L) : m_checked (L, D) t = .ok t := by
  unfold m_checked
  refine bind_forI (Q := fun q => q = .ok t) (fun _ => True) trivial (fun x hx s _ => ?_) (fun s _ => rfl)
  simp only
  rw [if_neg (by simp [h x hx])]
  exact ⟨(), rfl, trivial⟩
theorem forM_bad {f : Nat → Unit → M Unit} {p : Nat → Bool} {n : Str} : ∀ {xs : List Nat}, (∀ x ∈ xs, f x () = if p x = true then .ok () else .ex n) → (∃ x ∈ xs, p x = false) → forM f xs () = .ex n
  | [], _, ⟨x, h, _⟩ => by cases h
  | x :: xs, h, hb => by
    show (f x ()).bind _ = _
    rw [h x List.mem_cons_self]
    cases e : p x with
    | false => rw [if_neg (by decide)]; rfl
    | true =>
      rw [if_pos rfl]
      refine forM_bad (fun y hy => h y (List.mem_cons_of_mem _ hy)) ?_
      obtain ⟨y, h1, h2⟩ := hb
      rcases List.mem_cons.mp h1 with rfl | h1
      · rw [e] at h2; cases h2
      · exact ⟨y, h1, h2⟩
theorem p_checked_bad {L : List Nat} {D : Int} {t : List Nat} (h : ∃ c ∈ t, c ∉ L) : m_checked (L, D) t = .ex "NoText" := by
  unfold m_checked
  rw [forM_bad (p := fun c => decide (c ∈ L)) (n := "NoText") (fun x hx => ?_) (by obtain ⟨c, h1, h2⟩ := h; exact ⟨c, h1, decide_eq_false h2⟩)]
  · rfl
  · simp only
    by_cases e : x ∈ L
    · rw [if_neg (by simp [e]), if_pos (by simp [e])]; rfl
    · rw [if_pos (by simp [e]), if_neg (by simp [e])]; rfl
/-- the elders of the place behind a text -/
def nearL (L : List Nat) (D : Nat) (t : List Nat) : List Nat := (List.replicate D (L.headD 0) ++ t).reverse.take D
theorem near_len {L : List Nat} {D : Nat} {t : List Nat} : (nearL L D t).length = D := by
  unfold nearL
  rw [List.length_take, List.length_reverse, List.length_append, List.length_replicate]
  omega
theorem near_mem {L : List Nat} {D : Nat} {t : List Nat} (hL : 0 < L.length) (h : ∀ c ∈ t, c ∈ L) : ∀ c ∈ nearL L D t, c ∈ L := fun c hc => by
  have := List.mem_of_mem_take hc
  rw [List.mem_reverse, List.mem_append] at this
  rcases this with m | m
  · rw [List.eq_of_mem_replicate m]
    cases L with
    | nil => cases hL
    | cons x L => exact List.mem_cons_self
  · exact h c m
theorem near_cut {L : List Nat} {D : Nat} (u : List Nat) : nearL L D (u.drop (u.length - D)) = nearL L D u := by
  unfold nearL
  rw [List.reverse_append, List.reverse_append, List.take_append, List.take_append, List.reverse_drop, List.take_take]
  congr 1
  · by_cases h : D ≤ u.length
    · congr 1; omega
    · rw [List.take_of_length_le (by rw [List.length_reverse]; omega), List.take_of_length_le (by rw [List.length_reverse]; omega)]
  · congr 1
    rw [List.length_take, List.length_reverse]
    omega

theorem p_elders {L : List Nat} {D i : Nat} {t : List Nat} (hL : 0 < L.length) (hL2 : L.length ≤ 100) (hD : D ≤ 10) (ht : t.length ≤ 1000) (hi : i ≤ t.length) (h : ∀ c ∈ t, c ∈ L) : m_elders (L, (D : Int)) t (i : Int) = .ok (nearL L D (t.take i)) := by
  have e1 : lenOk t = true := lenOk_i (by omega)
  unfold m_elders
  rw [p_checked h, M.bind_ok, if_neg (by simp), M.gd_of _ e1, M.nox_ok, M.bind_ok, if_neg (by simp; omega)]
  unfold m_signs_ahead
  simp only [M.lt_eq]
  have a0 : atI L ((0 : Nat) : Int) = some (L.headD 0) := by
    rw [atI_n hL]
    cases L with
    | nil => cases hL
    | cons x L => rfl
  have hc : cut t (some (max (0 : Int) ((i : Int) - (D : Int)))) (some (i : Int)) = (t.take i).drop ((t.take i).length - D) := by
    rw [show max (0 : Int) ((i : Int) - (D : Int)) = ((i - D : Nat) : Int) by omega, cut_nn (by omega), List.length_take, Nat.min_eq_left hi, List.drop_take]
  rw [M.gd_of _ (lenOk_i (by omega)), show (0 : Int) = ((0 : Nat) : Int) from rfl, a0, M.ofO_some, M.bind_ok, M.gd_of _ (repOk_i (by omega) (by omega) (by simp)), M.gd_of _ e1, repS_one]
  rw [show (((0 : Nat) : Int)) = (0 : Int) from rfl, hc]
  have l1 : (List.replicate D (L.headD 0) ++ (t.take i).drop ((t.take i).length - D)).length ≤ 16777216 := by
    rw [List.length_append, List.length_replicate, List.length_drop, List.length_take]; omega
  rw [M.gd_of _ (catOk_i (by rw [List.length_append] at l1; exact l1)), M.gd_of _ (lenOk_i l1), M.gd_of _ (lenOk_i (by rw [List.length_reverse]; exact l1)), cut_to (by omega), Int.toNat_natCast, ← near_cut (t.take i)]
  rfl
def ent (n : Nat) (kn : List (List Nat × En)) (x : List Nat) : En := (dget kn x).getD (List.replicate n 0, (1, 1), (1, 1))

/-! ### the knots of a text: a dict that grows -/
def putsT (s : List (List Nat × Bool)) (xs : List (List Nat)) : List (List Nat × Bool) := xs.foldl (fun s x => dput s x true) s
theorem putsT_app (s : List (List Nat × Bool)) (xs ys : List (List Nat)) : putsT s (xs ++ ys) = putsT (putsT s xs) ys := by unfold putsT; rw [List.foldl_append]
theorem keys_put (s : List (List Nat × Bool)) (k : List Nat) (v : Bool) : (dput s k v).map (·.1) = if k ∈ s.map (·.1) then s.map (·.1) else s.map (·.1) ++ [k] := by
  unfold dput
  by_cases h : (s.any fun p => decide (p.1 = k)) = true
  · rw [if_pos h, if_pos ((any_iff s).mp h), List.map_map]
    refine List.map_congr_left fun p _ => ?_
    show (if p.1 = k then (p.1, v) else p).1 = p.1
    split <;> rfl
  · rw [if_neg h, if_neg (fun q => h ((any_iff s).mpr q)), List.map_append]
    rfl
theorem put_len (s : List (List Nat × Bool)) (k : List Nat) (v : Bool) : (dput s k v).length ≤ s.length + 1 := by
  have := congrArg List.length (keys_put s k v)
  rw [List.length_map] at this
  rw [this]
  split
  · rw [List.length_map]; omega
  · rw [List.length_append, List.length_map]; exact Nat.le_refl _
theorem putsT_len : ∀ (xs : List (List Nat)) (s : List (List Nat × Bool)), (putsT s xs).length ≤ s.length + xs.length
  | [], s => Nat.le_refl _
  | x :: xs, s => by
    have h1 := putsT_len xs (dput s x true)
    have h2 := put_len s x true
    show (putsT (dput s x true) xs).length ≤ _
    rw [List.length_cons]
    omega
theorem putsT_mem {q : List Nat} : ∀ (xs : List (List Nat)) (s : List (List Nat × Bool)), q ∈ (putsT s xs).map (·.1) ↔ q ∈ s.map (·.1) ∨ q ∈ xs
  | [], s => by
    show q ∈ s.map (·.1) ↔ _
    simp
  | x :: xs, s => by
    show q ∈ (putsT (dput s x true) xs).map (·.1) ↔ _
    rw [putsT_mem xs, keys_put, List.mem_cons]
    split
    · rename_i h
      constructor
      · rintro (h1 | h1)
        · exact .inl h1
        · exact .inr (.inr h1)
      · rintro (h1 | rfl | h1)
        · exact .inl h1
        · exact .inl h
        · exact .inr h1
    · rw [List.mem_append, List.mem_singleton, or_assoc]
theorem putsT_nodup : ∀ (xs : List (List Nat)) (s : List (List Nat × Bool)), (s.map (·.1)).Nodup → ((putsT s xs).map (·.1)).Nodup
  | [], s, h => h
  | x :: xs, s, h => by
    refine putsT_nodup xs (dput s x true) ?_
    rw [keys_put]
    split
    · exact h
    · rename_i n
      rw [List.nodup_append]
      exact ⟨h, List.nodup_cons.mpr ⟨by simp, List.nodup_nil⟩, fun a ha b hb e => n (by rw [List.mem_singleton.mp hb] at e; rw [← e]; exact ha)⟩
theorem dhas_key : ∀ (s : List (List Nat × Bool)) (q : List Nat), dhas s q = decide (q ∈ s.map (·.1))
  | [], q => by rw [dhas_is, dget_nil]; simp
  | p :: s, q => by
    rw [dhas_is, dget_cons]
    by_cases e : p.1 = q
    · rw [if_pos e]
      simp [e]
    · rw [if_neg e, ← dhas_is, dhas_key s q]
      have e2 : q ≠ p.1 := fun z => e z.symm
      simp only [List.map_cons, List.mem_cons, e2, false_or]
def rowK (h : List Nat) (D : Nat) : List (List Nat) := (List.range (D + 1)).map fun k => h.take k
theorem rowK_mem {h q : List Nat} {D : Nat} : q ∈ rowK h D ↔ ∃ k, k ≤ D ∧ q = h.take k := by
  unfold rowK
  rw [List.mem_map]
  constructor
  · rintro ⟨k, hk, rfl⟩
    exact ⟨k, by have := List.mem_range.mp hk; omega, rfl⟩
  · rintro ⟨k, hk, rfl⟩
    exact ⟨k, List.mem_range.mpr (by omega), rfl⟩
theorem rowK_len (h : List Nat) (D : Nat) : (rowK h D).length = D + 1 := by unfold rowK; rw [List.length_map, List.length_range]
theorem p_kinner {h : List Nat} {D : Nat} {s : List (List Nat × Bool)} (hh : h.length ≤ 100) (hD : D ≤ 10) (hs : s.length ≤ 10000) :
    forM (fun (x : Int) (s : List (List Nat × Bool)) => M.gd (lenOk h) <| M.gd (lenLt s) <| M.lt (dput s (cut h none (some x)) true) fun f => M.ok f) (rng 0 1 (D + 1)) s = .ok (putsT s (rowK h D)) := by
  refine forM_rngS (fun i => putsT s ((List.range i).map fun k => h.take k)) rfl fun i hi => ?_
  have hl := putsT_len ((List.range i).map fun k => h.take k) s
  rw [List.length_map, List.length_range] at hl
  rw [M.gd_of _ (lenOk_i (by omega)), M.gd_of _ (lenLt_i (by omega)), M.lt_eq, cut_to (by omega), Int.toNat_natCast, List.range_succ, List.map_append, putsT_app]
  rfl
def rowsK (L : List Nat) (D : Nat) (t : List Nat) (n : Nat) : List (List Nat) := (List.range n).flatMap fun i => rowK (nearL L D (t.take i)) D
theorem rowsK_len (L : List Nat) (D : Nat) (t : List Nat) : ∀ n, (rowsK L D t n).length = n * (D + 1)
  | 0 => by rw [Nat.zero_mul]; rfl
  | n + 1 => by
    unfold rowsK
    rw [List.range_succ, List.flatMap_append, List.length_append]
    have := rowsK_len L D t n
    unfold rowsK at this
    rw [this, Nat.succ_mul]
    simp [rowK_len]
theorem rowsK_mem {L : List Nat} {D : Nat} {t q : List Nat} {n : Nat} : q ∈ rowsK L D t n ↔ ∃ i, i < n ∧ ∃ k, k ≤ D ∧ q = (nearL L D (t.take i)).take k := by
  unfold rowsK
  rw [List.mem_flatMap]
  constructor
  · rintro ⟨i, hi, h⟩
    exact ⟨i, List.mem_range.mp hi, rowK_mem.mp h⟩
  · rintro ⟨i, hi, h⟩
    exact ⟨i, List.mem_range.mpr hi, rowK_mem.mpr h⟩
def dictK (L : List Nat) (D : Nat) (t : List Nat) : List (List Nat × Bool) := putsT [] (rowsK L D t t.length)
theorem rowsK_succ (L : List Nat) (D : Nat) (t : List Nat) (i : Nat) : rowsK L D t (i + 1) = rowsK L D t i ++ rowK (nearL L D (t.take i)) D := by
  unfold rowsK
  rw [List.range_succ, List.flatMap_append]
  simp
theorem dictK_nodup (L : List Nat) (D : Nat) (t : List Nat) : ((dictK L D t).map (·.1)).Nodup := putsT_nodup _ _ List.nodup_nil
theorem dictK_mem {L : List Nat} {D : Nat} {t q : List Nat} : q ∈ (dictK L D t).map (·.1) ↔ ∃ i, i < t.length ∧ ∃ k, k ≤ D ∧ q = (nearL L D (t.take i)).take k := by
  unfold dictK
  rw [putsT_mem, rowsK_mem]
  simp
theorem dictK_len {L : List Nat} {D : Nat} {t : List Nat} (hD : D ≤ 10) (ht : t.length ≤ 500) : (dictK L D t).length ≤ 5500 := by
  have h := putsT_len (rowsK L D t t.length) []
  rw [rowsK_len] at h
  have : t.length * (D + 1) ≤ 500 * 11 := Nat.mul_le_mul ht (by omega)
  unfold dictK
  simp at h
  omega
theorem rowsK_small {L : List Nat} {D : Nat} {t : List Nat} {i : Nat} (hD : D ≤ 10) (ht : t.length ≤ 500) (hi : i ≤ t.length) : (putsT [] (rowsK L D t i)).length ≤ 5500 := by
  have h := putsT_len (rowsK L D t i) []
  rw [rowsK_len] at h
  have : i * (D + 1) ≤ 500 * 11 := Nat.mul_le_mul (by omega) (by omega)
  simp at h
  omega
theorem p_ahead {L : List Nat} {D i : Nat} {t : List Nat} (hL : 0 < L.length) (hL2 : L.length ≤ 100) (hD : D ≤ 10) (ht : t.length ≤ 1000) (hi : i ≤ t.length) : m_signs_ahead (L, (D : Int)) t (i : Int) = .ok (nearL L D (t.take i)) := by
  have e1 : lenOk t = true := lenOk_i (by omega)
  unfold m_signs_ahead
  simp only [M.lt_eq]
  have a0 : atI L ((0 : Nat) : Int) = some (L.headD 0) := by
    rw [atI_n hL]
    cases L with
    | nil => cases hL
    | cons x L => rfl
  have hc : cut t (some (max (0 : Int) ((i : Int) - (D : Int)))) (some (i : Int)) = (t.take i).drop ((t.take i).length - D) := by
    rw [show max (0 : Int) ((i : Int) - (D : Int)) = ((i - D : Nat) : Int) by omega, cut_nn (by omega), List.length_take, Nat.min_eq_left hi, List.drop_take]
  rw [M.gd_of _ (lenOk_i (by omega)), show (0 : Int) = ((0 : Nat) : Int) from rfl, a0, M.ofO_some, M.bind_ok, M.gd_of _ (repOk_i (by omega) (by omega) (by simp)), M.gd_of _ e1, repS_one]
  rw [show (((0 : Nat) : Int)) = (0 : Int) from rfl, hc]
  have l1 : (List.replicate D (L.headD 0) ++ (t.take i).drop ((t.take i).length - D)).length ≤ 16777216 := by
    rw [List.length_append, List.length_replicate, List.length_drop, List.length_take]; omega
  rw [M.gd_of _ (catOk_i (by rw [List.length_append] at l1; exact l1)), M.gd_of _ (lenOk_i l1), M.gd_of _ (lenOk_i (by rw [List.length_reverse]; exact l1)), cut_to (by omega), Int.toNat_natCast, ← near_cut (t.take i)]
  rfl
/-! ### sorted by the letters' places -/
abbrev keyK (L : List Nat) : List Nat → List Int := fun w => w.map fun c => fndX L [c]
def knotsK (L : List Nat) (D : Nat) (t : List Nat) : List (List Nat) := srtK (keyK L) ((dictK L D t).map (·.1))
theorem knotsK_perm (L : List Nat) (D : Nat) (t : List Nat) : (knotsK L D t).Perm ((dictK L D t).map (·.1)) := List.mergeSort_perm _ _
theorem knotsK_mem {L : List Nat} {D : Nat} {t q : List Nat} : q ∈ knotsK L D t ↔ ∃ i, i < t.length ∧ ∃ k, k ≤ D ∧ q = (nearL L D (t.take i)).take k := by rw [(knotsK_perm L D t).mem_iff, dictK_mem]
theorem knotsK_len (L : List Nat) (D : Nat) (t : List Nat) : (knotsK L D t).length = (dictK L D t).length := by rw [(knotsK_perm L D t).length_eq, List.length_map]
theorem p_knots {L : List Nat} {D : Nat} {t : List Nat} (hL : 0 < L.length) (hL2 : L.length ≤ 100) (hD : D ≤ 10) (ht : t.length ≤ 500) (h : ∀ c ∈ t, c ∈ L) : m_knots (L, (D : Int)) t = .ok (knotsK L D t) := by
  unfold m_knots
  simp only [M.lt_eq]
  rw [p_checked h, M.bind_ok, M.gd_of _ (lenOk_i (by omega)), M.gd_of _ (rngOk_i (by omega) (by omega) (by omega) (by omega)), Int.toNat_natCast]
  rw [forM_rngS (s0 := []) (fun i => putsT [] (rowsK L D t i)) rfl fun i hi => ?_, M.bind_ok]
  · unfold m_in_order
    rw [M.gd_of _ (List.all_eq_true.mpr fun w hw => ?_), M.bind_ok]
    · rfl
    · obtain ⟨i, _, k, hk, rfl⟩ := dictK_mem.mp (show w ∈ (dictK L D t).map (·.1) from hw)
      exact lenLt_i (by rw [List.length_take, near_len]; omega)
  · have hl := rowsK_small (L := L) hD ht (i := i) (by omega)
    have := p_kinner (h := nearL L D (t.take i)) (D := D) (s := putsT [] (rowsK L D t i)) (by rw [near_len]; omega) hD (by omega)
    simp only [M.lt_eq] at this
    rw [p_ahead hL hL2 hD (by omega) (by omega), M.bind_ok, M.gd_of _ (rngOk_i (by omega) (by omega) (by omega) (by omega)), show ((D : Int) + 1).toNat = D + 1 by omega, this, M.bind_ok, rowsK_succ, putsT_app]
theorem p_knots_bad {L : List Nat} {D : Int} {t : List Nat} (h : ∃ c ∈ t, c ∉ L) : m_knots (L, D) t = .ex "NoText" := by
  unfold m_knots
  rw [p_checked_bad h]
  rfl

end B
namespace B
open PySem PySem.Spec PyProof.Rows L2
theorem keyK_at {L w : List Nat} (h : ∀ c ∈ w, c ∈ L) : keyK L w = w.map fun c => ((L.idxOf c : Nat) : Int) := List.map_congr_left fun c hc => fndX_one (h c hc)
theorem idx_inj {L : List Nat} {a b : Nat} (ha : a ∈ L) (hb : b ∈ L) (h : L.idxOf a = L.idxOf b) : a = b := by
  have h1 := List.getElem_idxOf (List.idxOf_lt_length_iff.mpr ha)
  have h2 := List.getElem_idxOf (List.idxOf_lt_length_iff.mpr hb)
  simp only [h] at h1
  exact h1.symm.trans h2
theorem knotsK_pw (L : List Nat) (D : Nat) (t : List Nat) : (knotsK L D t).Pairwise fun a b => keyK L a ≤ keyK L b := by
  unfold knotsK srtK
  have e : (PySem.W.dataLe false fun x => pdL (keyK L x)) = fun p q => decide (keyK L p ≤ keyK L q) := PySem.W.dataLe_rows (keyK L)
  rw [e]
  have := List.pairwise_mergeSort (le := fun p q => decide (keyK L p ≤ keyK L q)) (fun a b c h1 h2 => decide_eq_true (List.le_trans (of_decide_eq_true h1) (of_decide_eq_true h2))) (fun a b => by
    rcases List.le_total (keyK L a) (keyK L b) with h | h
    · simp [h]
    · simp [h]) ((dictK L D t).map (·.1))
  exact this.imp fun h => of_decide_eq_true h
theorem knotsK_nodup (L : List Nat) (D : Nat) (t : List Nat) : (knotsK L D t).Nodup := (knotsK_perm L D t).nodup_iff.mpr (dictK_nodup L D t)
theorem split_diff : ∀ a b : List Nat, (∃ p x y a' b', a = p ++ x :: a' ∧ b = p ++ y :: b' ∧ x ≠ y) ∨ (∃ c, b = a ++ c) ∨ ∃ c, a = b ++ c
  | [], b => .inr (.inl ⟨b, rfl⟩)
  | a :: as, [] => .inr (.inr ⟨a :: as, rfl⟩)
  | a :: as, b :: bs => by
    by_cases e : a = b
    · subst e
      rcases split_diff as bs with ⟨p, x, y, a', b', h1, h2, h3⟩ | ⟨c, h⟩ | ⟨c, h⟩
      · exact .inl ⟨a :: p, x, y, a', b', by rw [h1]; rfl, by rw [h2]; rfl, h3⟩
      · exact .inr (.inl ⟨c, by rw [h]; rfl⟩)
      · exact .inr (.inr ⟨c, by rw [h]; rfl⟩)
    · exact .inl ⟨[], a, b, as, bs, rfl, rfl, e⟩
theorem le_app : ∀ (p a b : List Int), p ++ a ≤ p ++ b → a ≤ b
  | [], _, _, h => h
  | x :: p, a, b, h => by
    rw [List.cons_append, List.cons_append, List.cons_le_cons_iff] at h
    rcases h with h | ⟨_, h⟩
    · exact absurd h (Int.lt_irrefl _)
    · exact le_app p a b h
theorem forF_rtU {α R L : Type} {f : α → Unit → M (Fl Unit Unit R)} {r : R} (pre : List α) {x : α} {suf : List α} (h : ∀ i (h : i < pre.length), f pre[i] () = .ok (.nx ())) (hx : f x () = .ok (.rt r)) : (forF f (pre ++ x :: suf) () : M (Fl Unit L R)) = .ok (.rt r) := forF_rt pre (fun _ => ()) h hx
theorem rng_split (a b : Nat) : ∃ suf, rng 0 1 (a + (b + 1)) = rng 0 1 a ++ ((a : Nat) : Int) :: suf := by
  refine ⟨(List.range b).map fun i => (0 : Int) + ((a + (i + 1) : Nat) : Int) * 1, ?_⟩
  unfold rng
  rw [List.range_add, List.map_append, List.range_succ_eq_map]
  simp
theorem p_lahead {L a b : List Nat} (ha : ∀ c ∈ a, c ∈ L) (hb : ∀ c ∈ b, c ∈ L) (za : a.length ≤ 1000) (zb : b.length ≤ 1000) (ne : a ≠ b) (hle : keyK L a ≤ keyK L b) : m_law_ahead L a b = .ok true := by
  unfold m_law_ahead
  have l1 : lenOk a = true := lenOk_i (by omega)
  have l2 : lenOk b = true := lenOk_i (by omega)
  have hm : min (a.length : Int) (b.length : Int) = ((min a.length b.length : Nat) : Int) := by omega
  simp only [M.gd_of _ l1, M.gd_of _ l2]
  rw [hm, M.gd_of _ (rngOk_i (by omega) (by omega) (by omega) (by omega)), Int.toNat_natCast]
  have step : ∀ i : Nat, ∀ (h1 : i < a.length) (h2 : i < b.length), (M.bind (M.ofO (atI a (i : Int))) fun r10 => M.bind (M.ofO (atI b (i : Int))) fun r13 =>
    M.seq (if (!decide ([r10] = [r13])) = true then (M.bind (M.ofO (atI a (i : Int))) fun r17 => M.bind (M.ofO (atI b (i : Int))) fun r20 => M.ok (.rt (decide ((fndX L [r17]) < (fndX L [r20]))))) else (M.ok (.nx ())) : M (Fl Unit Unit Bool)) fun (s15 : Unit) => (M.ok (.nx ()) : M (Fl Unit Unit Bool))) =
      if a[i] = b[i] then .ok (.nx ()) else .ok (.rt (decide ((fndX L [a[i]]) < (fndX L [b[i]])))) := fun i h1 h2 => by
    rw [atI_n h1, atI_n h2]
    simp only [M.ofO_some, M.bind_ok]
    by_cases e : a[i] = b[i]
    · rw [if_neg (by simp [e]), if_pos e]; rfl
    · rw [if_pos (by simp [e]), if_neg e]; rfl
  rcases split_diff a b with ⟨p, x, y, a', b', e1, e2, h3⟩ | ⟨c, e⟩ | ⟨c, e⟩
  · subst e1 e2
    have hx := ha x (by simp)
    have hy := hb y (by simp)
    have hlt : fndX L [x] < fndX L [y] := by
      unfold keyK at hle
      rw [List.map_append, List.map_append] at hle
      have h := le_app _ _ _ hle
      rw [List.map_cons, List.map_cons, List.cons_le_cons_iff] at h
      rcases h with h | ⟨h, _⟩
      · exact h
      · rw [fndX_one hx, fndX_one hy] at h
        exact absurd (idx_inj hx hy (Int.ofNat.inj h)) h3
    obtain ⟨b, hb2⟩ : ∃ b, min (p ++ x :: a').length (p ++ y :: b').length = p.length + (b + 1) := ⟨min (p ++ x :: a').length (p ++ y :: b').length - (p.length + 1), by simp only [List.length_append, List.length_cons]; omega⟩
    obtain ⟨suf, hr⟩ := rng_split p.length b
    rw [hb2]
    rw [hr, forF_rtU (r := true) (rng 0 1 p.length) (fun i hi => ?_) ?_]
    · rfl
    · rw [step p.length (by simp) (by simp), if_neg]
      · simp [hlt]
      · simp [h3]
    · rw [rng_len] at hi
      rw [rng_get, show (0 : Int) + (i : Int) * 1 = (i : Int) by omega, step i (by simp; omega) (by simp; omega), if_pos]
      rw [List.getElem_append_left hi, List.getElem_append_left hi]
  · subst e
    have hm2 : min a.length (a ++ c).length = a.length := by rw [List.length_append]; omega
    rw [hm2]
    rw [forF_rngS (fun _ => ()) rfl (fun i hi => .inl ?_)]
    · have hc : 0 < c.length := by
        cases c with
        | nil => exact absurd (by simp) ne
        | cons _ _ => simp
      show M.ok _ = _
      congr 1
      rw [List.length_append]
      simp
      omega
    · rw [step i hi (by simp; omega), if_pos]
      rw [List.getElem_append_left hi]
  · subst e
    have hc : ∃ z zs, c = z :: zs := by
      cases c with
      | nil => exact absurd (by simp) ne
      | cons z zs => exact ⟨z, zs, rfl⟩
    obtain ⟨z, zs, rfl⟩ := hc
    exfalso
    unfold keyK at hle
    rw [List.map_append] at hle
    have h := le_app (b.map fun c => fndX L [c]) ((z :: zs).map fun c => fndX L [c]) [] (by rw [List.append_nil (b.map fun c => fndX L [c])]; exact hle)
    simp at h
theorem p_lrising {L : List Nat} {S : List (List Nat)} (hL : ∀ w ∈ S, ∀ c ∈ w, c ∈ L) (hz : ∀ w ∈ S, w.length ≤ 1000) (hn : S.Nodup) (hp : S.Pairwise fun a b => keyK L a ≤ keyK L b) (hl : S.length ≤ 100000) : m_law_rising L S = .ok true := by
  unfold m_law_rising
  rw [if_neg (by decide), M.gd_of _ (rngOk_i (by omega) (by omega) (by omega) (by omega)), Int.toNat_natCast]
  rw [forF_rngS (fun _ => ()) rfl (fun i hi => .inl ?_)]
  · rfl
  · rw [atI_n hi, M.ofO_some, M.bind_ok, if_neg (by decide)]
    show (M.bind _ _ : M (Fl Unit Unit Bool)) = _
    by_cases h0 : 0 < i
    · rw [if_pos (by simp; omega), show (i : Int) - 1 = ((i - 1 : Nat) : Int) by omega, atI_n (show i - 1 < S.length by omega), M.ofO_some, M.bind_ok, M.bind_ok, p_lahead (hL _ (List.getElem_mem _)) (hL _ (List.getElem_mem _)) (hz _ (List.getElem_mem _)) (hz _ (List.getElem_mem _)) (fun e => List.pairwise_iff_getElem.mp hn (i - 1) i (by omega) hi (by omega) e) (List.pairwise_iff_getElem.mp hp (i - 1) i (by omega) hi (by omega))]
      rfl
    · rw [if_neg (by simp; omega)]
      rfl

end B
namespace B
open PySem PySem.Spec PyProof.Rows L2
/-! ### counts -/
def hitK (L : List Nat) (D : Nat) (t knot : List Nat) (i : Nat) : Bool := decide ((nearL L D (t.take i)).take knot.length = knot)
def cntK (L : List Nat) (D : Nat) (t : List Nat) (m : Nat) (knot : List Nat) (c : Nat) : Int := (((List.range m).countP fun i => hitK L D t knot i && decide (t.getD i 0 = c) : Nat) : Int)
def cntL (L : List Nat) (D : Nat) (t : List Nat) (m : Nat) (knot : List Nat) : List Int := L.map fun c => cntK L D t m knot c
def allK (L : List Nat) (D : Nat) (t : List Nat) (m : Nat) (knot : List Nat) : Int := (((List.range m).countP fun i => hitK L D t knot i : Nat) : Int)
theorem cntK_succ (L : List Nat) (D : Nat) (t : List Nat) (m : Nat) (knot : List Nat) (c : Nat) : cntK L D t (m + 1) knot c = cntK L D t m knot c + if (hitK L D t knot m && decide (t.getD m 0 = c)) = true then 1 else 0 := by
  unfold cntK
  rw [List.range_succ, List.countP_append, List.countP_singleton]
  split <;> simp
theorem allK_succ (L : List Nat) (D : Nat) (t : List Nat) (m : Nat) (knot : List Nat) : allK L D t (m + 1) knot = allK L D t m knot + if hitK L D t knot m = true then 1 else 0 := by
  unfold allK
  rw [List.range_succ, List.countP_append, List.countP_singleton]
  split <;> simp
theorem sumZ_add {α : Type} (f g : α → Int) : ∀ l : List α, (l.map fun c => f c + g c).sum = (l.map f).sum + (l.map g).sum
  | [] => rfl
  | a :: l => by
    rw [List.map_cons, List.map_cons, List.map_cons, List.sum_cons, List.sum_cons, List.sum_cons, sumZ_add f g l]
    omega
theorem sumZ_zero {α : Type} (f : α → Int) : ∀ l : List α, (∀ c ∈ l, f c = 0) → (l.map f).sum = 0
  | [], _ => rfl
  | a :: l, h => by
    rw [List.map_cons, List.sum_cons, h a List.mem_cons_self, sumZ_zero f l fun c hc => h c (List.mem_cons_of_mem _ hc)]
    rfl
theorem sumZ_one {b : Bool} {x : Nat} : ∀ {l : List Nat}, l.Nodup → x ∈ l → (l.map fun c => if (b && decide (x = c)) = true then (1 : Int) else 0).sum = if b = true then 1 else 0
  | [], _, h => by cases h
  | a :: l, hn, h => by
    rw [List.nodup_cons] at hn
    rw [List.map_cons, List.sum_cons]
    by_cases e : x = a
    · subst e
      rw [sumZ_zero _ l fun c hc => if_neg (by
        have : x ≠ c := fun z => hn.1 (by rw [z]; exact hc)
        simp [this])]
      simp
    · have hm : x ∈ l := by
        rcases List.mem_cons.mp h with h | h
        · exact absurd h e
        · exact h
      rw [sumZ_one hn.2 hm, if_neg (by simp [e])]
      omega
section
variable {L t knot : List Nat} {D : Nat}
theorem cntL_sum (hn : L.Nodup) (h : ∀ c ∈ t, c ∈ L) : ∀ m, m ≤ t.length → (cntL L D t m knot).sum = allK L D t m knot
  | 0, _ => by
    unfold cntL
    exact sumZ_zero (fun c => cntK L D t 0 knot c) L fun c _ => rfl
  | m + 1, hm => by
    have ih := cntL_sum hn h m (by omega)
    unfold cntL at ih ⊢
    have e : (L.map fun c => cntK L D t (m + 1) knot c) = L.map fun c => cntK L D t m knot c + if (hitK L D t knot m && decide (t.getD m 0 = c)) = true then 1 else 0 := List.map_congr_left fun c _ => cntK_succ L D t m knot c
    have hx : t.getD m 0 ∈ L := by
      rw [List.getD_eq_getElem?_getD, List.getElem?_eq_getElem (by omega)]
      exact h _ (List.getElem_mem _)
    rw [e, sumZ_add, ih, sumZ_one hn hx, allK_succ]
theorem hitK_snoc {y i : Nat} (hk : knot.length < D) : hitK L D t (knot ++ [y]) i = (hitK L D t knot i && decide (((nearL L D (t.take i)).getD knot.length 0) = y)) := by
  unfold hitK
  have hl : knot.length < (nearL L D (t.take i)).length := by rw [near_len]; exact hk
  have e : (nearL L D (t.take i)).take (knot ++ [y]).length = (nearL L D (t.take i)).take knot.length ++ [(nearL L D (t.take i)).getD knot.length 0] := by
    rw [List.length_append, List.length_singleton, List.take_succ, List.getD_eq_getElem?_getD, List.getElem?_eq_getElem hl]
    rfl
  rw [e, Bool.eq_iff_iff]
  simp only [decide_eq_true_eq, Bool.and_eq_true]
  constructor
  · intro h
    have h1 := List.append_inj' h rfl
    exact ⟨h1.1, by simpa using h1.2⟩
  · rintro ⟨h1, h2⟩
    rw [h1, h2]
theorem cntK_branch {c : Nat} (hn : L.Nodup) (hL : 0 < L.length) (h : ∀ c ∈ t, c ∈ L) (hk : knot.length < D) : ∀ m, m ≤ t.length → (L.map fun y => cntK L D t m (knot ++ [y]) c).sum = cntK L D t m knot c
  | 0, _ => by
    exact sumZ_zero (fun y => cntK L D t 0 (knot ++ [y]) c) L fun c _ => rfl
  | m + 1, hm => by
    have ih := cntK_branch (c := c) hn hL h hk m (by omega)
    have hx : (nearL L D (t.take m)).getD knot.length 0 ∈ L := by
      rw [List.getD_eq_getElem?_getD, List.getElem?_eq_getElem (by rw [near_len]; exact hk)]
      exact near_mem hL (fun c hc => h c (List.mem_of_mem_take hc)) _ (List.getElem_mem _)
    have e : (L.map fun y => cntK L D t (m + 1) (knot ++ [y]) c) = L.map fun y => cntK L D t m (knot ++ [y]) c + if ((hitK L D t knot m && decide (t.getD m 0 = c)) && decide ((nearL L D (t.take m)).getD knot.length 0 = y)) = true then 1 else 0 := List.map_congr_left fun y _ => by
      rw [cntK_succ, hitK_snoc hk]
      congr 2
      cases hitK L D t knot m <;> cases decide (t.getD m 0 = c) <;> cases decide ((nearL L D (t.take m)).getD knot.length 0 = y) <;> rfl
    rw [e, sumZ_add, ih, sumZ_one hn hx, cntK_succ]
theorem allK_pos {m : Nat} : 0 < allK L D t m knot ↔ ∃ i, i < m ∧ (nearL L D (t.take i)).take knot.length = knot := by
  unfold allK
  rw [show ((0 : Int) < (((List.range m).countP fun i => hitK L D t knot i : Nat) : Int)) ↔ 0 < (List.range m).countP fun i => hitK L D t knot i by omega, List.countP_pos_iff]
  constructor
  · rintro ⟨i, h1, h2⟩
    exact ⟨i, List.mem_range.mp h1, of_decide_eq_true h2⟩
  · rintro ⟨i, h1, h2⟩
    exact ⟨i, List.mem_range.mpr h1, decide_eq_true h2⟩
theorem cntL_get {m j : Nat} (q : j < (cntL L D t m knot).length) (h : j < L.length) : (cntL L D t m knot)[j] = cntK L D t m knot L[j] := by simp [cntL]
theorem p_need (hk : ∀ c ∈ knot, c ∈ L) (hl : knot.length ≤ D) (hD : D ≤ 10) : m_need_knot (L, (D : Int)) knot = .ok () := by
  unfold m_need_knot
  rw [M.gd_of _ (lenOk_i (by omega)), if_neg (by simp; omega)]
  refine bind_forI (s0 := ()) (Q := fun q => q = M.ok ()) (fun _ => True) trivial (fun x hx s _ => ?_) (fun s _ => rfl)
  simp only
  rw [if_neg (by simp [hk x hx])]
  exact ⟨(), rfl, trivial⟩
theorem p_counts (hn : L.Nodup) (hL : 0 < L.length) (hL2 : L.length ≤ 100) (hD : D ≤ 10) (ht : t.length ≤ 500) (h : ∀ c ∈ t, c ∈ L) (hk : ∀ c ∈ knot, c ∈ L) (hl : knot.length ≤ D) : m_counts (L, (D : Int)) t knot = .ok (cntL L D t t.length knot) := by
  unfold m_counts
  simp only [M.lt_eq]
  have e1 : lenOk t = true := lenOk_i (by omega)
  rw [p_checked h, M.bind_ok, p_need hk hl hD, M.bind_ok, M.gd_of _ (lenLt_i (by show L.length < _; omega)), compM_map (k := fun _ => (0 : Int)) (fun _ _ => rfl) (fun _ _ => rfl), M.nox_ok, M.bind_ok, M.gd_of _ e1, M.gd_of _ (rngOk_i (by omega) (by omega) (by omega) (by omega)), Int.toNat_natCast]
  rw [forM_rngS (fun i => cntL L D t i knot) (by rfl) fun i hi => ?_, M.bind_ok]
  rw [p_ahead hL hL2 hD (by omega) (by omega), M.nox_ok, M.bind_ok]
  have hit : decide ((nearL L D (t.take i)).take knot.length = knot) = hitK L D t knot i := rfl
  have hg : t.getD i 0 = t[i] := by
    rw [List.getD_eq_getElem?_getD, List.getElem?_eq_getElem hi]
    rfl
  cases hh : hitK L D t knot i with
  | false =>
    rw [hit, hh, if_neg (by decide), M.bind_ok]
    congr 1
    unfold cntL
    refine List.map_congr_left fun c _ => ?_
    rw [cntK_succ, hh]
    simp
  | true =>
    have hm : t[i] ∈ L := h _ (List.getElem_mem _)
    have hx := List.idxOf_lt_length_iff.mpr hm
    have hlen : (cntL L D t i knot).length = L.length := by unfold cntL; rw [List.length_map]
    rw [hit, hh, if_pos rfl, M.gd_of _ e1, atI_n hi, M.ofO_some, M.bind_ok, fndX_one hm, M.gd_of _ (by simp), atI_n (by rw [hlen]; exact hx), M.ofO_some, M.bind_ok, setI_n (by rw [hlen]; exact hx), M.ofO_some, M.bind_ok, M.bind_ok]
    congr 1
    refine List.ext_getElem (by rw [List.length_set, hlen]; unfold cntL; rw [List.length_map]) fun j h1 h2 => ?_
    rw [List.length_set, hlen] at h1
    have a1 := cntL_get (L := L) (D := D) (t := t) (knot := knot) h2 h1
    have a2 : ∀ (q : j < (cntL L D t i knot).length), (cntL L D t i knot)[j] = cntK L D t i knot L[j] := fun q => cntL_get q h1
    rw [List.getElem_set, a1, cntK_succ, hh, hg]
    by_cases e : L.idxOf t[i] = j
    · subst e
      rw [if_pos rfl, a2, List.getElem_idxOf hx]
      simp
    · rw [if_neg e, a2, if_neg]
      · omega
      · intro z
        have z2 : t[i] = L[j] := by simpa using z
        exact e (by rw [z2, List.Nodup.idxOf_getElem hn])
/-- the branches' counts added up -/
def totL (L : List Nat) (D : Nat) (t knot : List Nat) (k : Nat) : List Int := L.map fun c => ((L.take k).map fun y => cntK L D t t.length (knot ++ [y]) c).sum
theorem p_lparted {some : List (List Nat)} (hn : L.Nodup) (hL : 0 < L.length) (hL2 : L.length ≤ 100) (hD : D ≤ 10) (ht : t.length ≤ 500) (h : ∀ c ∈ t, c ∈ L) (hs : ∀ q ∈ some, ∃ i, i < t.length ∧ ∃ k, k ≤ D ∧ q = (nearL L D (t.take i)).take k) :
    m_law_parted (L, (D : Int)) t some (dictK L D t) = .ok true := by
  unfold m_law_parted
  simp only [M.lt_eq]
  refine seqT_forI (s0 := ()) (Q := fun m => m = .ok true) (fun _ => True) trivial (fun q hq s _ => ?_) (fun s _ => rfl)
  obtain ⟨i0, hi0, k0, hk0, hq0⟩ := hs q hq
  have ql : q.length ≤ D := by rw [hq0, List.length_take, near_len]; omega
  have qm : ∀ c ∈ q, c ∈ L := fun c hc => by
    rw [hq0] at hc
    exact near_mem hL (fun c hc => h c (List.mem_of_mem_take hc)) c (List.mem_of_mem_take hc)
  have pos : 0 < allK L D t t.length q := allK_pos.mpr ⟨i0, hi0, by
    have e : q.length = min k0 D := by rw [hq0, List.length_take, near_len]
    rw [e, hq0, ← List.take_take, List.take_of_length_le (l := nearL L D (t.take i0)) (i := D) (by rw [near_len]; exact Nat.le_refl _)]⟩
  rw [p_counts hn hL hL2 hD ht h qm ql, M.bind_ok, cntL_sum hn h _ (Nat.le_refl _), if_neg (by simp; omega)]
  refine ⟨(), .inl ?_, trivial⟩
  show (M.gd _ _ : M (Fl Unit Unit Bool)) = _
  rw [M.gd_of _ (lenOk_i (by omega))]
  by_cases hk : q.length < D
  · rw [if_pos (by simp; omega), M.gd_of _ (lenLt_i (by show L.length < _; omega)), compM_map (k := fun _ => (0 : Int)) (fun _ _ => rfl) (fun _ _ => rfl), M.nox_ok, M.bind_ok]
    have e0 : (L.map fun _ => (0 : Int)) = totL L D t q 0 := by
      unfold totL
      rfl
    have zt : ∀ k, (totL L D t q k).length = L.length := fun k => by unfold totL; rw [List.length_map]
    have loop := forF_ix (R := Bool) (L := Unit) (xs := L) (f := fun (x7 : Nat) (s8 : (List Int)) =>
        M.gd (catOk q [x7]) <|
        M.bind (m_counts (L, (D : Int)) t (q ++ [x7])) fun below_ =>
        M.gd (catOk q [x7]) <|
        M.seq (if (!decide ((decide ((0 : Int) < (below_).sum)) = (dhas (dictK L D t) (q ++ [x7])))) = true then (.ok (.rt false)) else (.ok (.nx ())) : M (Fl Unit (List Int) Bool)) fun (s11 : Unit) =>
        M.gd (rngOk 0 ((s8).length : Int)) <|
        M.gd (lenLt (rng 0 1 (((s8).length : Int)).toNat)) <|
        M.bind (M.nox (compM (fun _ => .ok true) (fun k_ => M.bind (M.ofO (atI s8 k_)) fun r14 => M.bind (M.ofO (atI below_ k_)) fun r16 => .ok ((r14 + r16))) (rng 0 1 (((s8).length : Int)).toNat))) fun total_ =>
        (.ok (.nx total_) : M (Fl (List Int) (List Int) Bool))) (totL L D t q) (fun j hj => .inl (by
      have hm : L[j] ∈ L := List.getElem_mem _
      have qy : ∀ c ∈ q ++ [L[j]], c ∈ L := fun c hc => by
        rcases List.mem_append.mp hc with m | m
        · exact qm c m
        · rw [List.mem_singleton.mp m]; exact hm
      have ly : (q ++ [L[j]]).length ≤ D := by rw [List.length_append, List.length_singleton]; omega
      have hd : (decide ((0 : Int) < (cntL L D t t.length (q ++ [L[j]])).sum)) = (dhas (dictK L D t) (q ++ [L[j]])) := by
        rw [cntL_sum hn h _ (Nat.le_refl _), dhas_key, Bool.eq_iff_iff, decide_eq_true_eq, decide_eq_true_eq, allK_pos, dictK_mem]
        constructor
        · rintro ⟨i, a, b⟩
          exact ⟨i, a, (q ++ [L[j]]).length, ly, b.symm⟩
        · rintro ⟨i, a, k, b, c⟩
          refine ⟨i, a, ?_⟩
          have e : (q ++ [L[j]]).length = min k D := by rw [c, List.length_take, near_len]
          rw [e, c, ← List.take_take, List.take_of_length_le (l := nearL L D (t.take i)) (i := D) (by rw [near_len]; exact Nat.le_refl _)]
      have c1 : catOk q [L[j]] = true := catOk_i (by simp; omega)
      rw [M.gd_of _ c1, p_counts hn hL hL2 hD ht h qy ly, M.bind_ok, M.gd_of _ c1, hd, if_neg (by simp)]
      show (M.gd _ _ : M (Fl (List Int) (List Int) Bool)) = _
      rw [zt, M.gd_of _ (rngOk_i (by omega) (by omega) (by omega) (by omega)), Int.toNat_natCast, M.gd_of _ (lenLt_i (by rw [rng_len]; omega))]
      rw [compM_map (k := fun z : Int => (totL L D t q j).getD z.toNat 0 + (cntL L D t t.length (q ++ [L[j]])).getD z.toNat 0) (fun _ _ => rfl) (fun z hz => ?_), M.nox_ok, M.bind_ok]
      · congr 2
        refine List.ext_getElem (by rw [List.length_map, rng_len, zt]) fun c h1 h2' => ?_
        have h2 : c < L.length := by rw [zt] at h2'; exact h2'
        have g1 : (totL L D t q j).getD c 0 = ((L.take j).map fun y => cntK L D t t.length (q ++ [y]) L[c]).sum := by simp [totL, List.getD_eq_getElem?_getD, h2]
        have g2 : (cntL L D t t.length (q ++ [L[j]])).getD c 0 = cntK L D t t.length (q ++ [L[j]]) L[c] := by simp [cntL, List.getD_eq_getElem?_getD, h2]
        have g3 : (totL L D t q (j + 1))[c] = ((L.take (j + 1)).map fun y => cntK L D t t.length (q ++ [y]) L[c]).sum := by simp [totL]
        rw [List.getElem_map, rng_get, show (0 : Int) + (c : Int) * 1 = (c : Int) by omega, Int.toNat_natCast, g1, g2, g3, List.take_succ, List.getElem?_eq_getElem hj, List.map_append, List.sum_append]
        simp
      · obtain ⟨c, hc, rfl⟩ := rng_mem hz
        rw [show (0 : Int) + (c : Int) * 1 = (c : Int) by omega, atI_n (by rw [zt]; exact hc), M.ofO_some, M.bind_ok, atI_n (by unfold cntL; rw [List.length_map]; exact hc), M.ofO_some, M.bind_ok, Int.toNat_natCast]
        congr 1
        rw [List.getD_eq_getElem?_getD, List.getD_eq_getElem?_getD, List.getElem?_eq_getElem (by rw [zt]; exact hc), List.getElem?_eq_getElem (by unfold cntL; rw [List.length_map]; exact hc)]
        rfl))
    rw [e0]
    have et : totL L D t q L.length = cntL L D t t.length q := by
      unfold totL cntL
      refine List.map_congr_left fun c _ => ?_
      rw [List.take_length]
      exact cntK_branch hn hL h hk _ (Nat.le_refl _)
    rw [loop]
    rw [et]
    show (M.seq (M.seq (if (!decide (cntL L D t t.length q = cntL L D t t.length q)) = true then M.ok (.rt false) else M.ok (.nx ()) : M (Fl Unit Unit Bool)) fun _ => (M.ok (.nx ()) : M (Fl Unit Unit Bool))) fun _ => (M.ok (.nx ()) : M (Fl Unit Unit Bool))) = _
    rw [if_neg (by simp)]
    rfl
  · rw [if_neg (by simp; omega)]
    rfl
end
theorem p_lrefused {L : List Nat} {D : Int} {t : List Nat} (h : ∃ c ∈ t, c ∉ L) : m_law_refused (L, D) t = .ok true := by
  unfold m_law_refused
  rw [M.lt_eq, p_knots_bad h, tryM_ex, lookM_here, M.lt_eq]
  rfl

end B
namespace B
open PySem PySem.Spec PyProof.Rows L2
def sg : List Nat := txt0 ++ txt1
theorem sg_len : sg.length = 94 := by decide +kernel
theorem sg_nodup : sg.Nodup := by decide +kernel
theorem sg_ok : ∀ c ∈ sg, 32 ≤ c ∧ c ≤ 126 ∧ c ≠ 37 := by decide +kernel
theorem p_cell_at {ns : List Int} {k : Nat} : m_law_cell_at ns (k : Int) = .ok (ns.getD k 0) := by
  unfold m_law_cell_at
  by_cases h : k < ns.length
  · rw [if_pos (by simpa using h), atI_n h]
    simp [List.getD_eq_getElem?_getD, h]
  · rw [if_neg (by simpa using h)]
    simp [List.getD_eq_getElem?_getD, h]

theorem intBits_div {c d : Int} {m : Nat} (hd : 0 < d) (h : Builtin.Int.intBits c ≤ m) : Builtin.Int.intBits (c / d) ≤ m := intBits_le_of_natAbs (Int.natAbs_ediv_le_natAbs c d) h
theorem p_signs : m_law_signs = .ok sg := by
  unfold m_law_signs
  simp only [M.lt_eq]
  rw [M.gd_of _ (catOk_i (by decide))]
  rfl
theorem erase_perm {α : Type} : ∀ (l : List α) (i : Nat) (h : i < l.length), (l[i] :: l.eraseIdx i).Perm l
  | a :: l, 0, _ => .refl _
  | a :: l, i + 1, h => .trans (.swap _ _ _) (.cons _ (erase_perm l i (Nat.lt_of_succ_lt_succ h)))
theorem p_lframe {c : Int} (hb : Builtin.Int.intBits c ≤ 1048576) : ∃ (L : List Nat) (D : Nat), m_law_frame c = .ok (L, (D : Int)) ∧ D ≤ 6 ∧ 2 ≤ L.length ∧ L.length ≤ 6 ∧ L.Nodup ∧ ∀ x ∈ L, x ∈ sg := by
  unfold m_law_frame
  simp only [M.lt_eq]
  rw [p_signs, M.nox_ok, M.bind_ok]
  have hm : mulOk (c / 70) 38429285755540266125959621032429186627936981 = true := by
    have h1 := intBits_div (d := 70) (by decide) hb
    have h2 : Builtin.Int.intBits 38429285755540266125959621032429186627936981 ≤ 200 := intBits_le_iff.mpr (by decide)
    exact mulOk_x (by omega)
  have hi : ∃ N : Int, (if (decide (c / 35 % 2 = 1)) = true then M.gd (mulOk (c / 70) 38429285755540266125959621032429186627936981) (M.ok (c / 70 * 38429285755540266125959621032429186627936981 + 104729)) else M.ok (c / 70)) = .ok N := by
    split
    · exact ⟨_, by rw [M.gd_of _ hm]⟩
    · exact ⟨_, rfl⟩
  obtain ⟨N, hN⟩ := hi
  obtain ⟨n, hn⟩ : ∃ n : Nat, 2 + c % 5 = (n : Int) := ⟨(2 + c % 5).toNat, by omega⟩
  have n1 : 2 ≤ n ∧ n ≤ 6 := by omega
  rw [hN, M.bind_ok, hn, M.gd_of _ (rngOk_i (by omega) (by omega) (by omega) (by omega)), Int.toNat_natCast]
  refine bind_forN (Q := fun (m : M (List Nat × Int)) => ∃ (L : List Nat) (D : Nat), m = .ok (L, (D : Int)) ∧ D ≤ 6 ∧ 2 ≤ L.length ∧ L.length ≤ 6 ∧ L.Nodup ∧ ∀ x ∈ L, x ∈ sg) (fun (i : Nat) (s : List Nat × Int × List Nat) => s.1.length = 94 - i ∧ s.2.2.length = i ∧ (s.2.2 ++ s.1).Perm sg) ⟨sg_len, rfl, .refl _⟩ (fun i x hx s hs => ?_) (fun s hs => ?_)
  · obtain ⟨S, q, T⟩ := s
    obtain ⟨h1, h2, h3⟩ := hs
    simp only at h1 h2 h3
    have hi : i < n := by have := lt_of_get hx; rwa [rng_len] at this
    have hp : (0 : Int) < (S.length : Int) := by omega
    have a1 := Int.emod_nonneg q (b := (S.length : Int)) (by omega)
    have a2 := Int.emod_lt_of_pos q hp
    have hl : lenOk S = true := lenOk_i (by omega)
    have hj : (q % (S.length : Int)).toNat < S.length := by omega
    have hcut : cut S none (some (q % (S.length : Int))) ++ cut S (some (q % (S.length : Int) + 1)) none = S.eraseIdx (q % (S.length : Int)).toNat := by
      rw [cut_to a1, cut_from (by omega), List.eraseIdx_eq_take_drop_succ, show (q % (S.length : Int) + 1).toNat = (q % (S.length : Int)).toNat + 1 by omega]
    have c1 := cut_len2 S none (some (q % (S.length : Int)))
    have c2 := cut_len2 S (some (q % (S.length : Int) + 1)) none
    have hlog : (S.length : Int).natAbs.log2 < 9000 := by
      rw [Int.natAbs_natCast]
      exact log2_9000 (m := 10) (by omega) (by decide)
    simp only [M.gd_of _ hl]
    rw [M.gd_of _ (by simp; omega), M.gd_of _ (divOk_i hp hlog), atI_i a1 hj, M.ofO_some, M.bind_ok, M.gd_of _ (catOk_i (by simp; omega)), M.gd_of _ (catOk_i (by omega)), hcut]
    refine ⟨_, rfl, ?_, by simp [h2], ?_⟩
    · show (S.eraseIdx _).length = _
      rw [List.length_eraseIdx_of_lt hj]; omega
    · refine .trans ?_ h3
      show (T ++ [_] ++ S.eraseIdx _).Perm _
      rw [List.append_assoc]
      exact .append_left _ (erase_perm _ _ hj)
  · rw [rng_len] at hs
    obtain ⟨h1, h2, h3⟩ := hs
    refine ⟨s.2.2, (c / 5 % 7).toNat, ?_, by omega, by omega, by omega, (List.nodup_append.mp (h3.nodup_iff.mpr sg_nodup)).1, fun x hx => h3.mem_iff.mp (List.mem_append_left _ hx)⟩
    rw [Int.toNat_of_nonneg (by omega)]
theorem p_ltext {L : List Nat} (h0 : 0 < L.length) (h6 : L.length ≤ 6) (cs : List Int) (way : Int) (hc : cs.length ≤ 1000) : ∃ t, m_law_text L cs way = .ok t ∧ t.length = cs.length ∧ ∀ c ∈ t, c ∈ L := by
  unfold m_law_text
  simp only [M.lt_eq]
  have l1 : lenOk L = true := lenOk_i (by omega)
  have hp : decide (0 < (L.length : Int)) = true := by simp; omega
  obtain ⟨k, hk⟩ : ∃ k : Nat, 1 + way / 2 % 4 = (k : Int) := ⟨(1 + way / 2 % 4).toNat, by omega⟩
  have k1 : 1 ≤ k := by omega
  refine bind_forN (Q := fun (m : M (List Nat)) => ∃ t, m = .ok t ∧ t.length = cs.length ∧ ∀ c ∈ t, c ∈ L) (fun (i : Nat) (s : List Nat) => s.length = i ∧ ∀ c ∈ s, c ∈ L) ⟨rfl, fun c hc => by cases hc⟩ (fun i x hx s hs => ?_) (fun s hs => ⟨s, rfl, hs.1, hs.2⟩)
  obtain ⟨i1, i2⟩ := hs
  have hi := lt_of_get hx
  have ls : lenOk s = true := lenOk_i (by omega)
  rw [hk]
  have h6' : ∃ v, M.nox (if (decide (way % 2 = 1)) = true then (M.bind (M.nox (if (decide (x % 3 = 0)) = true then (M.gd (lenOk s) (M.ok (decide ((k : Int) ≤ (s.length : Int))))) else M.ok false)) fun r4 => M.ok r4) else M.ok false) = .ok v ∧ (v = true → k ≤ s.length) := by
    rw [M.gd_of _ ls]
    split
    · split
      · refine ⟨_, rfl, fun h => ?_⟩
        have := of_decide_eq_true h
        omega
      · exact ⟨_, rfl, fun h => by cases h⟩
    · exact ⟨_, rfl, fun h => by cases h⟩
  obtain ⟨v, v1, v2⟩ := h6'
  rw [v1, M.bind_ok]
  have hy : ∃ y ∈ L, (if v = true then (M.gd (lenOk s) (M.bind (M.ofO (atI s (-(k : Int)))) fun r10 => M.gd (catOk s [r10]) (M.ok (s ++ [r10])))) else (M.gd (lenOk L) (M.gd (decide (0 < (L.length : Int))) (M.gd (lenOk L) (M.bind (M.ofO (atI L (x / 3 % (L.length : Int)))) fun r16 => M.gd (catOk s [r16]) (M.ok (s ++ [r16]))))))) = .ok (s ++ [y]) := by
    split
    · rename_i hv
      have hks := v2 hv
      rw [M.gd_of _ ls, atI_neg (by omega) hks, M.ofO_some, M.bind_ok, M.gd_of _ (catOk_i (by simp; omega))]
      exact ⟨_, i2 _ (List.getElem_mem _), rfl⟩
    · have m1 := Int.emod_nonneg (x / 3) (b := (L.length : Int)) (by omega)
      have m2 := Int.emod_lt_of_pos (x / 3) (b := (L.length : Int)) (by omega)
      have hj : (x / 3 % (L.length : Int)).toNat < L.length := by omega
      rw [M.gd_of _ l1, M.gd_of _ hp, M.gd_of _ l1, atI_i m1 hj, M.ofO_some, M.bind_ok, M.gd_of _ (catOk_i (by simp; omega))]
      exact ⟨_, List.getElem_mem _, rfl⟩
  obtain ⟨y, y1, y2⟩ := hy
  rw [y2, M.bind_ok]
  refine ⟨_, rfl, by simp [i1], fun c hc => ?_⟩
  rcases List.mem_append.mp hc with m | m
  · exact i2 c m
  · rw [List.mem_singleton.mp m]; exact y1

theorem okn_tx {l : List Nat} (h : ∀ c ∈ l, c < 1000) : ∀ n, okn n (tx l) = true := fun n => by
  have e : okn n (tx l) = PyData.strOk (SX.S l) := by cases n <;> rfl
  rw [e]
  unfold PyData.strOk
  refine Array.all_eq_true.mpr fun i hi => ?_
  have hi2 : i < l.length := by simpa using hi
  have := h _ (List.getElem_mem hi2)
  simp
  omega

theorem okn_txs {l : List (List Nat)} (h : ∀ w ∈ l, ∀ c ∈ w, c < 1000) : okn 8 (lstd tx l) = true := by
  show (l.map tx).all (okn 7) = true
  rw [List.all_map]
  exact List.all_eq_true.mpr fun x hx => okn_tx (h x hx) 7
theorem law_holds (ns : List Int) (h1 : ns.length ≤ 63) (h2 : ∀ z ∈ ns, Builtin.Int.intBits z ≤ 1048576) : m_law ns = .ok true := by
  unfold m_law
  simp only [M.lt_eq]
  have c0 : m_law_cell_at ns 0 = .ok (ns.getD 0 0) := p_cell_at (ns := ns) (k := 0)
  have c1 : m_law_cell_at ns 1 = .ok (ns.getD 1 0) := p_cell_at (ns := ns) (k := 1)
  have c2 : m_law_cell_at ns 2 = .ok (ns.getD 2 0) := p_cell_at (ns := ns) (k := 2)
  have hb : Builtin.Int.intBits (ns.getD 0 0) ≤ 1048576 := by
    rw [List.getD_eq_getElem?_getD]
    cases e : ns[0]? with
    | none => exact Nat.le_trans (Nat.le_of_eq rfl) (by decide)
    | some z => exact h2 z (List.mem_of_getElem? e)
  obtain ⟨L, D, f1, hD, l2, l6, nd, hs⟩ := p_lframe hb
  have hL : 0 < L.length := by omega
  have hL2 : L.length ≤ 100 := by omega
  have hD2 : D ≤ 10 := by omega
  rw [c0, M.nox_ok, M.bind_ok, f1, M.bind_ok, c1, M.nox_ok, M.bind_ok]
  have hcl : (cut ns (some (3 : Int)) (some (53 : Int))).length ≤ 50 := cut_len3 (l := ns) (i := 3) (j := 53)
  obtain ⟨t, t1, t2, t3⟩ := p_ltext hL l6 (cut ns (some (3 : Int)) (some (53 : Int))) (ns.getD 1 0) (by omega)
  dsimp only
  have tz : t.length ≤ 50 := by omega
  have lt : lenOk t = true := lenOk_i (by omega)
  have kn := p_knots hL hL2 hD2 (show t.length ≤ 500 by omega) t3
  have sm : ∀ w ∈ knotsK L D t, w.length ≤ 10 ∧ ∀ c ∈ w, c ∈ L := fun w hw => by
    obtain ⟨i, hi, k, hk, rfl⟩ := knotsK_mem.mp hw
    refine ⟨by rw [List.length_take, near_len]; omega, fun c hc => ?_⟩
    exact near_mem hL (fun c hc => t3 c (List.mem_of_mem_take hc)) c (List.mem_of_mem_take hc)
  have dl := dictK_len (L := L) hD2 (show t.length ≤ 500 by omega)
  have kl := knotsK_len L D t
  have ris := p_lrising (L := L) (S := knotsK L D t) (fun w hw => (sm w hw).2) (fun w hw => by have := (sm w hw).1; omega) (knotsK_nodup L D t) (knotsK_pw L D t) (by omega)
  rw [t1, M.bind_ok, kn, M.bind_ok, ris, M.nox_ok, M.bind_ok, if_neg (by decide), M.gd_of _ lt, M.gd_of _ (rngOk_i (by omega) (by omega) (by omega) (by omega)), Int.toNat_natCast]
  rw [forM_rngS (s0 := []) (fun i => putsT [] (rowsK L D t i)) rfl fun i hi => ?_, M.bind_ok]
  · show (M.bind (M.nox (if (!decide (((dictK L D t).length : Int) = ((knotsK L D t).length : Int))) = true then M.ok true else _)) _ : M Bool) = _
    have hd : (putsT [] (rowsK L D t t.length)) = dictK L D t := rfl
    rw [if_neg (by rw [kl]; simp), M.gd_of _ (lenLt_i (by omega)), hd]
    rw [compM_filter (p := fun w => !dhas (dictK L D t) w) (k := fun w => w) (fun x _ => rfl) (fun x _ _ => rfl), M.nox_ok, M.bind_ok]
    have hf : (knotsK L D t).filter (fun w => !dhas (dictK L D t) w) = [] := by
      rw [List.filter_eq_nil_iff]
      intro w hw
      rw [dhas_key, decide_eq_true ((knotsK_perm L D t).mem_iff.mp hw)]
      simp
    rw [hf, List.map_nil, M.gd_of _ (okn_txs (fun w hw => by cases hw)), M.gd_of _ (okn_txs (fun w hw => by cases hw)), M.nox_ok, M.bind_ok, if_neg (by decide)]
    have lc : ∀ c ∈ L, c < 1000 := fun c hc => by
      have := (sg_ok c (hs c hc)).2.1
      omega
    have h31 : M.nox (if (!decide (t = ([] : List Nat))) = true then (M.bind (M.nox (m_counts (L, (D : Int)) t ([] : List Nat))) fun r28 => M.gd (lenOk t) <| M.ok (!decide ((r28).sum = ((t).length : Int)))) else M.ok false) = .ok false := by
      split
      · rw [p_counts nd hL hL2 hD2 (by omega) t3 (fun c hc => by cases hc) (by simp), M.nox_ok, M.bind_ok, M.gd_of _ lt, cntL_sum nd t3 _ (Nat.le_refl _)]
        have e : allK L D t t.length [] = (t.length : Int) := by
          unfold allK
          have : (List.range t.length).countP (fun i => hitK L D t [] i) = (List.range t.length).length := List.countP_eq_length.mpr fun i _ => rfl
          rw [this, List.length_range]
        rw [e]
        simp [M.nox_ok]
      · rfl
    rw [h31, M.bind_ok, if_neg (by decide), M.gd_of _ (lenLt_i (by omega)), c2, M.bind_ok]
    have mx : (0 : Int) < max (1 : Int) ((knotsK L D t).length : Int) := by omega
    rw [M.gd_of _ (decide_eq_true mx)]
    have k1 := cut_len2 (knotsK L D t) none (some (1 : Int))
    have k2 := cut_len2 (knotsK L D t) (some (ns.getD 2 0 / 3000 % max (1 : Int) ((knotsK L D t).length : Int))) (some (ns.getD 2 0 / 3000 % max (1 : Int) ((knotsK L D t).length : Int) + 12))
    have ok1 : okn 8 (lstd tx (knotsK L D t)) = true := okn_txs fun w hw c hc => lc c ((sm w hw).2 c hc)
    have par := p_lparted (D := D) (some := cut (knotsK L D t) none (some (1 : Int)) ++ cut (knotsK L D t) (some (ns.getD 2 0 / 3000 % max (1 : Int) ((knotsK L D t).length : Int))) (some (ns.getD 2 0 / 3000 % max (1 : Int) ((knotsK L D t).length : Int) + 12))) nd hL hL2 hD2 (show t.length ≤ 500 by omega) t3 fun q hq => by
      rcases List.mem_append.mp hq with hq | hq
      · exact knotsK_mem.mp (cut_mem hq)
      · exact knotsK_mem.mp (cut_mem hq)
    rw [M.gd_of _ (catOk_i (by omega)), M.nox_ok, M.bind_ok, M.gd_of _ ok1, M.gd_of _ ok1, if_neg (by simp), par, M.nox_ok, M.bind_ok, M.nox_ok, M.bind_ok, if_neg (by decide)]
    rw [p_signs, M.nox_ok, M.nox_ok, M.bind_ok, M.gd_of _ (lenLt_i (by rw [sg_len]; decide))]
    rw [compM_filter (p := fun c => !decide (c ∈ L)) (k := fun c => c) (fun x _ => rfl) (fun x _ _ => rfl), M.nox_ok, M.bind_ok, List.map_id']
    obtain ⟨K, hK⟩ : ∃ K, sg.filter (fun c => !decide (c ∈ L)) = K := ⟨_, rfl⟩
    rw [hK]
    have kn : ∀ c ∈ K, c ∉ L := fun c hc => by
      rw [← hK] at hc
      simpa using (List.mem_filter.mp hc).2
    have kp : 0 < K.length := by
      rcases Nat.eq_zero_or_pos K.length with q | q
      · have hn : K = [] := List.length_eq_zero_iff.mp q
        have hs : sg ⊆ L := fun c hc => by
          by_cases e : c ∈ L
          · exact e
          · have : c ∈ K := by rw [← hK]; exact List.mem_filter.mpr ⟨hc, by simp [e]⟩
            rw [hn] at this
            cases this
        have hsub := sg_nodup.length_le_of_subset hs
        rw [sg_len] at hsub
        omega
      · exact q
    have m1 := Int.emod_nonneg (ns.getD 2 0 / 64) (b := (K.length : Int)) (by omega)
    have m2 := Int.emod_lt_of_pos (ns.getD 2 0 / 64) (b := (K.length : Int)) (by omega)
    have hj : (ns.getD 2 0 / 64 % (K.length : Int)).toNat < K.length := by omega
    obtain ⟨y, hy⟩ : ∃ y, K[(ns.getD 2 0 / 64 % (K.length : Int)).toNat] = y := ⟨_, rfl⟩
    have yL : y ∉ L := hy ▸ kn _ (List.getElem_mem hj)
    have a1 := cut_len2 t none (some (ns.getD 2 0 % ((t.length : Int) + 1)))
    have a2 := cut_len2 t (some (ns.getD 2 0 % ((t.length : Int) + 1))) none
    simp only [M.gd_of _ lt]
    rw [M.gd_of _ (decide_eq_true (by omega)), M.gd_of _ (decide_eq_true (by omega)), atI_i m1 hj, hy, M.ofO_some, M.bind_ok, M.gd_of _ (catOk_i (by simp only [List.length_append, List.length_cons, List.length_nil]; omega)), M.gd_of _ (catOk_i (by simp only [List.length_append, List.length_cons, List.length_nil]; omega))]
    rw [p_lrefused ⟨y, by simp, yL⟩, M.nox_ok, M.bind_ok, if_pos rfl, M.gd_of _ (catOk_i (by simp only [List.length_append, List.length_cons, List.length_nil]; omega)), p_lrefused ⟨y, by simp, yL⟩]
    rfl
  · have hl := rowsK_small (L := L) hD2 (show t.length ≤ 500 by omega) (i := i) (by omega)
    have nl := near_len (L := L) (D := D) (t := t.take i)
    have := p_kinner (h := nearL L D (t.take i)) (D := D) (s := putsT [] (rowsK L D t i)) (by omega) hD2 (by omega)
    simp only [M.lt_eq] at this
    rw [p_elders hL hL2 hD2 (by omega) (by omega) t3, M.bind_ok, M.gd_of _ (lenOk_i (by omega)), nl, M.gd_of _ (rngOk_i (by omega) (by omega) (by omega) (by omega)), show ((D : Int) + 1).toNat = D + 1 by omega, this, M.bind_ok, rowsK_succ, putsT_app]
end B
namespace B
open PySem PySem.Spec PyProof.Rows L2
theorem all_mk {P : Program} {w : World} {K : PySem.W.Frag} {h : Heap} {mg : Str → Option Value} {fa : Addr} (X : K.In h) (G : h.Ns mainGlobals mg) (hfa : mg "law" = some (.ref fa))
    {f1 : Addr} {od1 an1 : Option Addr} {sl1 : Array (Option Value)} {oc1 kV1 dc1 pm1 cd1 ct1 : Value}
    {f2 : Addr} {od2 an2 : Option Addr} {sl2 : Array (Option Value)} {oc2 kV2 dc2 pm2 cd2 ct2 : Value}
    {f3 : Addr} {od3 an3 : Option Addr} {sl3 : Array (Option Value)} {oc3 kV3 dc3 pm3 cd3 ct3 : Value}
    {f4 : Addr} {od4 an4 : Option Addr} {sl4 : Array (Option Value)} {oc4 kV4 dc4 pm4 cd4 ct4 : Value}
    {f5 : Addr} {od5 an5 : Option Addr} {sl5 : Array (Option Value)} {oc5 kV5 dc5 pm5 cd5 ct5 : Value}
    {f6 : Addr} {od6 an6 : Option Addr} {sl6 : Array (Option Value)} {oc6 kV6 dc6 pm6 cd6 ct6 : Value}
    {f7 : Addr} {od7 an7 : Option Addr} {sl7 : Array (Option Value)} {oc7 kV7 dc7 pm7 cd7 ct7 : Value}
    {f8 : Addr} {od8 an8 : Option Addr} {sl8 : Array (Option Value)} {oc8 kV8 dc8 pm8 cd8 ct8 : Value}
    {f9 : Addr} {od9 an9 : Option Addr} {sl9 : Array (Option Value)} {oc9 kV9 dc9 pm9 cd9 ct9 : Value}
    {f10 : Addr} {od10 an10 : Option Addr} {sl10 : Array (Option Value)} {oc10 kV10 dc10 pm10 cd10 ct10 : Value}
    {f11 : Addr} {od11 an11 : Option Addr} {sl11 : Array (Option Value)} {oc11 kV11 dc11 pm11 cd11 ct11 : Value}
    {f12 : Addr} {od12 an12 : Option Addr} {sl12 : Array (Option Value)} {oc12 kV12 dc12 pm12 cd12 ct12 : Value}
    {f13 : Addr} {od13 an13 : Option Addr} {sl13 : Array (Option Value)} {oc13 kV13 dc13 pm13 cd13 ct13 : Value}
    {f14 : Addr} {od14 an14 : Option Addr} {sl14 : Array (Option Value)} {oc14 kV14 dc14 pm14 cd14 ct14 : Value}
    {f15 : Addr} {od15 an15 : Option Addr} {sl15 : Array (Option Value)} {oc15 kV15 dc15 pm15 cd15 ct15 : Value}
    {f16 : Addr} {od16 an16 : Option Addr} {sl16 : Array (Option Value)} {oc16 kV16 dc16 pm16 cd16 ct16 : Value}
    {C_NoPlace : Addr}
    {C_NoKnot : Addr}
    {C_NoText : Addr}
    {C_PressError : Addr}
    {C_NoSign : Addr}
    (a1 : PySem.W.nsIn K mainGlobals "checked" = some (some (.ref f1))) (l1 : K.lookup f1 = some ⟨oc1, od1, .func (PySem.W.fnOf "checked" "checked" (defArgs s_checked) (defBody s_checked) (defScope s_checked) .none kV1 dc1 pm1 an1 cd1 ct1), sl1⟩) (c1 : PySem.W.codeIn K cd1 "checked" = true) (k1 : PySem.W.keepIn K (.ref f1) = true)
    (a2 : PySem.W.nsIn K mainGlobals "signs_ahead" = some (some (.ref f2))) (l2 : K.lookup f2 = some ⟨oc2, od2, .func (PySem.W.fnOf "signs_ahead" "signs_ahead" (defArgs s_signs_ahead) (defBody s_signs_ahead) (defScope s_signs_ahead) .none kV2 dc2 pm2 an2 cd2 ct2), sl2⟩) (c2 : PySem.W.codeIn K cd2 "signs_ahead" = true) (k2 : PySem.W.keepIn K (.ref f2) = true)
    (a3 : PySem.W.nsIn K mainGlobals "elders" = some (some (.ref f3))) (l3 : K.lookup f3 = some ⟨oc3, od3, .func (PySem.W.fnOf "elders" "elders" (defArgs s_elders) (defBody s_elders) (defScope s_elders) .none kV3 dc3 pm3 an3 cd3 ct3), sl3⟩) (c3 : PySem.W.codeIn K cd3 "elders" = true) (k3 : PySem.W.keepIn K (.ref f3) = true)
    (a4 : PySem.W.nsIn K mainGlobals "need_knot" = some (some (.ref f4))) (l4 : K.lookup f4 = some ⟨oc4, od4, .func (PySem.W.fnOf "need_knot" "need_knot" (defArgs s_need_knot) (defBody s_need_knot) (defScope s_need_knot) .none kV4 dc4 pm4 an4 cd4 ct4), sl4⟩) (c4 : PySem.W.codeIn K cd4 "need_knot" = true) (k4 : PySem.W.keepIn K (.ref f4) = true)
    (a5 : PySem.W.nsIn K mainGlobals "counts" = some (some (.ref f5))) (l5 : K.lookup f5 = some ⟨oc5, od5, .func (PySem.W.fnOf "counts" "counts" (defArgs s_counts) (defBody s_counts) (defScope s_counts) .none kV5 dc5 pm5 an5 cd5 ct5), sl5⟩) (c5 : PySem.W.codeIn K cd5 "counts" = true) (k5 : PySem.W.keepIn K (.ref f5) = true)
    (a6 : PySem.W.nsIn K mainGlobals "in_order" = some (some (.ref f6))) (l6 : K.lookup f6 = some ⟨oc6, od6, .func (PySem.W.fnOf "in_order" "in_order" (defArgs s_in_order) (defBody s_in_order) (defScope s_in_order) .none kV6 dc6 pm6 an6 cd6 ct6), sl6⟩) (c6 : PySem.W.codeIn K cd6 "in_order" = true) (k6 : PySem.W.keepIn K (.ref f6) = true)
    (a7 : PySem.W.nsIn K mainGlobals "knots" = some (some (.ref f7))) (l7 : K.lookup f7 = some ⟨oc7, od7, .func (PySem.W.fnOf "knots" "knots" (defArgs s_knots) (defBody s_knots) (defScope s_knots) .none kV7 dc7 pm7 an7 cd7 ct7), sl7⟩) (c7 : PySem.W.codeIn K cd7 "knots" = true) (k7 : PySem.W.keepIn K (.ref f7) = true)
    (a8 : PySem.W.nsIn K mainGlobals "_law_cell_at" = some (some (.ref f8))) (l8 : K.lookup f8 = some ⟨oc8, od8, .func (PySem.W.fnOf "_law_cell_at" "_law_cell_at" (defArgs s_law_cell_at) (defBody s_law_cell_at) (defScope s_law_cell_at) .none kV8 dc8 pm8 an8 cd8 ct8), sl8⟩) (c8 : PySem.W.codeIn K cd8 "_law_cell_at" = true) (k8 : PySem.W.keepIn K (.ref f8) = true)
    (a9 : PySem.W.nsIn K mainGlobals "_law_signs" = some (some (.ref f9))) (l9 : K.lookup f9 = some ⟨oc9, od9, .func (PySem.W.fnOf "_law_signs" "_law_signs" (defArgs s_law_signs) (defBody s_law_signs) (defScope s_law_signs) .none kV9 dc9 pm9 an9 cd9 ct9), sl9⟩) (c9 : PySem.W.codeIn K cd9 "_law_signs" = true) (k9 : PySem.W.keepIn K (.ref f9) = true)
    (a10 : PySem.W.nsIn K mainGlobals "_law_frame" = some (some (.ref f10))) (l10 : K.lookup f10 = some ⟨oc10, od10, .func (PySem.W.fnOf "_law_frame" "_law_frame" (defArgs s_law_frame) (defBody s_law_frame) (defScope s_law_frame) .none kV10 dc10 pm10 an10 cd10 ct10), sl10⟩) (c10 : PySem.W.codeIn K cd10 "_law_frame" = true) (k10 : PySem.W.keepIn K (.ref f10) = true)
    (a11 : PySem.W.nsIn K mainGlobals "_law_text" = some (some (.ref f11))) (l11 : K.lookup f11 = some ⟨oc11, od11, .func (PySem.W.fnOf "_law_text" "_law_text" (defArgs s_law_text) (defBody s_law_text) (defScope s_law_text) .none kV11 dc11 pm11 an11 cd11 ct11), sl11⟩) (c11 : PySem.W.codeIn K cd11 "_law_text" = true) (k11 : PySem.W.keepIn K (.ref f11) = true)
    (a12 : PySem.W.nsIn K mainGlobals "_law_ahead" = some (some (.ref f12))) (l12 : K.lookup f12 = some ⟨oc12, od12, .func (PySem.W.fnOf "_law_ahead" "_law_ahead" (defArgs s_law_ahead) (defBody s_law_ahead) (defScope s_law_ahead) .none kV12 dc12 pm12 an12 cd12 ct12), sl12⟩) (c12 : PySem.W.codeIn K cd12 "_law_ahead" = true) (k12 : PySem.W.keepIn K (.ref f12) = true)
    (a13 : PySem.W.nsIn K mainGlobals "_law_rising" = some (some (.ref f13))) (l13 : K.lookup f13 = some ⟨oc13, od13, .func (PySem.W.fnOf "_law_rising" "_law_rising" (defArgs s_law_rising) (defBody s_law_rising) (defScope s_law_rising) .none kV13 dc13 pm13 an13 cd13 ct13), sl13⟩) (c13 : PySem.W.codeIn K cd13 "_law_rising" = true) (k13 : PySem.W.keepIn K (.ref f13) = true)
    (a14 : PySem.W.nsIn K mainGlobals "_law_parted" = some (some (.ref f14))) (l14 : K.lookup f14 = some ⟨oc14, od14, .func (PySem.W.fnOf "_law_parted" "_law_parted" (defArgs s_law_parted) (defBody s_law_parted) (defScope s_law_parted) .none kV14 dc14 pm14 an14 cd14 ct14), sl14⟩) (c14 : PySem.W.codeIn K cd14 "_law_parted" = true) (k14 : PySem.W.keepIn K (.ref f14) = true)
    (a15 : PySem.W.nsIn K mainGlobals "_law_refused" = some (some (.ref f15))) (l15 : K.lookup f15 = some ⟨oc15, od15, .func (PySem.W.fnOf "_law_refused" "_law_refused" (defArgs s_law_refused) (defBody s_law_refused) (defScope s_law_refused) .none kV15 dc15 pm15 an15 cd15 ct15), sl15⟩) (c15 : PySem.W.codeIn K cd15 "_law_refused" = true) (k15 : PySem.W.keepIn K (.ref f15) = true)
    (a16 : PySem.W.nsIn K mainGlobals "law" = some (some (.ref f16))) (l16 : K.lookup f16 = some ⟨oc16, od16, .func (PySem.W.fnOf "law" "law" (defArgs s_law) (defBody s_law) (defScope s_law) .none kV16 dc16 pm16 an16 cd16 ct16), sl16⟩) (c16 : PySem.W.codeIn K cd16 "law" = true) (k16 : PySem.W.keepIn K (.ref f16) = true)
    (z_ValueError : PySem.W.nsIn K mainGlobals "ValueError" = some none)
    (z_isinstance : PySem.W.nsIn K mainGlobals "isinstance" = some none)
    (z_len : PySem.W.nsIn K mainGlobals "len" = some none)
    (z_list : PySem.W.nsIn K mainGlobals "list" = some none)
    (z_max : PySem.W.nsIn K mainGlobals "max" = some none)
    (z_min : PySem.W.nsIn K mainGlobals "min" = some none)
    (z_range : PySem.W.nsIn K mainGlobals "range" = some none)
    (z_sorted : PySem.W.nsIn K mainGlobals "sorted" = some none)
    (z_str : PySem.W.nsIn K mainGlobals "str" = some none)
    (z_sum : PySem.W.nsIn K mainGlobals "sum" = some none)
    (aC_NoPlace : PySem.W.nsIn K mainGlobals "NoPlace" = some (some (.ref C_NoPlace))) (xC_NoPlace : PySem.W.excIn K C_NoPlace [.type "ValueError", .type "Exception", .type "BaseException", .type "object"] "ValueError.__new__" = true) (kC_NoPlace : PySem.W.keepIn K (.ref C_NoPlace) = true) (bC_NoPlace : PySem.W.subIn K (.ref C_NoPlace) (.type "BaseException") = some true) (tC_NoPlace : PySem.W.typeIn K (.ref C_NoPlace) = some (.type "type"))
    (aC_NoKnot : PySem.W.nsIn K mainGlobals "NoKnot" = some (some (.ref C_NoKnot))) (xC_NoKnot : PySem.W.excIn K C_NoKnot [.type "ValueError", .type "Exception", .type "BaseException", .type "object"] "ValueError.__new__" = true) (kC_NoKnot : PySem.W.keepIn K (.ref C_NoKnot) = true) (bC_NoKnot : PySem.W.subIn K (.ref C_NoKnot) (.type "BaseException") = some true) (tC_NoKnot : PySem.W.typeIn K (.ref C_NoKnot) = some (.type "type"))
    (aC_NoText : PySem.W.nsIn K mainGlobals "NoText" = some (some (.ref C_NoText))) (xC_NoText : PySem.W.excIn K C_NoText [.type "ValueError", .type "Exception", .type "BaseException", .type "object"] "ValueError.__new__" = true) (kC_NoText : PySem.W.keepIn K (.ref C_NoText) = true) (bC_NoText : PySem.W.subIn K (.ref C_NoText) (.type "BaseException") = some true) (tC_NoText : PySem.W.typeIn K (.ref C_NoText) = some (.type "type"))
    (aC_PressError : PySem.W.nsIn K mainGlobals "PressError" = some (some (.ref C_PressError)))
    (aC_NoSign : PySem.W.nsIn K mainGlobals "NoSign" = some (some (.ref C_NoSign)))
    (gA_NoText : PySem.W.findIn K (.ref C_NoText) "__getattribute__" = some (some (.builtin "BaseException.__getattribute__")))
    (gB_NoText : PySem.W.findIn K (.ref C_NoText) "__getattr__" = some none)
    (gD_NoText : PySem.W.hasDictIn K C_NoText = true)
    (gC_NoText : PySem.W.findIn K (.ref C_NoText) "__class__" = some (some (.builtin "object.__class__")))
    (gM_NoText : PySem.W.mroIn K C_NoText (.type "object") = some true)
    (gA_NoPlace : PySem.W.findIn K (.ref C_NoPlace) "__getattribute__" = some (some (.builtin "BaseException.__getattribute__")))
    (gB_NoPlace : PySem.W.findIn K (.ref C_NoPlace) "__getattr__" = some none)
    (gD_NoPlace : PySem.W.hasDictIn K C_NoPlace = true)
    (gC_NoPlace : PySem.W.findIn K (.ref C_NoPlace) "__class__" = some (some (.builtin "object.__class__")))
    (gM_NoPlace : PySem.W.mroIn K C_NoPlace (.type "object") = some true)
    (gA_NoKnot : PySem.W.findIn K (.ref C_NoKnot) "__getattribute__" = some (some (.builtin "BaseException.__getattribute__")))
    (gB_NoKnot : PySem.W.findIn K (.ref C_NoKnot) "__getattr__" = some none)
    (gD_NoKnot : PySem.W.hasDictIn K C_NoKnot = true)
    (gC_NoKnot : PySem.W.findIn K (.ref C_NoKnot) "__class__" = some (some (.builtin "object.__class__")))
    (gM_NoKnot : PySem.W.mroIn K C_NoKnot (.type "object") = some true)
    (sp1 : PySem.W.specialIn K (.builtin "object.__class__") "__get__" = some (some (.builtin "getset_descriptor.__get__"))) (sp2 : PySem.W.takesIn K (.builtin "object.__class__") = some true)
    (tC_PressError : PySem.W.typeIn K (.ref C_PressError) = some (.type "type"))
    (bC_PressError : PySem.W.subIn K (.ref C_PressError) (.type "BaseException") = some true)
    (gD_PressError : PySem.W.hasDictIn K C_PressError = true)
    (tC_NoSign : PySem.W.typeIn K (.ref C_NoSign) = some (.type "type"))
    (bC_NoSign : PySem.W.subIn K (.ref C_NoSign) (.type "BaseException") = some true)
    (gD_NoSign : PySem.W.hasDictIn K C_NoSign = true)
    (sV_NoText : PySem.W.subIn K (.ref C_NoText) (.type "ValueError") = some true)
    (s_NoText_PressError : PySem.W.subIn K (.ref C_NoText) (.ref C_PressError) = some true)
    (s_NoText_NoText : PySem.W.subIn K (.ref C_NoText) (.ref C_NoText) = some true)
    (s_NoText_NoPlace : PySem.W.subIn K (.ref C_NoText) (.ref C_NoPlace) = some false)
    (s_NoText_NoKnot : PySem.W.subIn K (.ref C_NoText) (.ref C_NoKnot) = some false)
    (s_NoText_NoSign : PySem.W.subIn K (.ref C_NoText) (.ref C_NoSign) = some false)
    (sV_NoPlace : PySem.W.subIn K (.ref C_NoPlace) (.type "ValueError") = some true)
    (s_NoPlace_PressError : PySem.W.subIn K (.ref C_NoPlace) (.ref C_PressError) = some true)
    (s_NoPlace_NoText : PySem.W.subIn K (.ref C_NoPlace) (.ref C_NoText) = some false)
    (s_NoPlace_NoPlace : PySem.W.subIn K (.ref C_NoPlace) (.ref C_NoPlace) = some true)
    (s_NoPlace_NoKnot : PySem.W.subIn K (.ref C_NoPlace) (.ref C_NoKnot) = some false)
    (s_NoPlace_NoSign : PySem.W.subIn K (.ref C_NoPlace) (.ref C_NoSign) = some false)
    (sV_NoKnot : PySem.W.subIn K (.ref C_NoKnot) (.type "ValueError") = some true)
    (s_NoKnot_PressError : PySem.W.subIn K (.ref C_NoKnot) (.ref C_PressError) = some true)
    (s_NoKnot_NoText : PySem.W.subIn K (.ref C_NoKnot) (.ref C_NoText) = some false)
    (s_NoKnot_NoPlace : PySem.W.subIn K (.ref C_NoKnot) (.ref C_NoPlace) = some false)
    (s_NoKnot_NoKnot : PySem.W.subIn K (.ref C_NoKnot) (.ref C_NoKnot) = some true)
    (s_NoKnot_NoSign : PySem.W.subIn K (.ref C_NoKnot) (.ref C_NoSign) = some false)
    (tb_in_order : PySem.W.tabIn K "in_order" = some ((114 : Addr), (110 : Addr))) (nl_in_order : K.lookup 110 = none)
    : (∀ x ∈ ([("in_order", 114, 110)] : List (Str × Addr × Addr)), PySem.W.tabIn K x.1 = some x.2 ∧ K.lookup x.2.2 = none) ∧ ∃ fd : FuncData, (∀ (s : Shared) (v : Value), BindsTo s fd ⟨[v], []⟩ [("script", v)]) ∧ ∀ base : Heap, K.In base → base.Ns mainGlobals mg → (∀ x ∈ ([("in_order", 114, 110)] : List (Str × Addr × Addr)), LamX.TabB base mg x.2.1 x.2.2) → FnOk P w K mg base (L2.CX P w) 7 fa fd ["script"] (spLawT K) := by
  have F_checked := fun_mk (st := s_checked) l1 c1 k1
  have D_checked : Df K mg "checked" s_checked ["frame", "text"] := ⟨f1, _, F_checked, PySem.W.mg_of X G a1, F_checked.binds (ps := ["frame", "text"]) (fun _ _ _ _ _ _ us hl => match us, hl with | [_, _], _ => rfl)⟩
  have F_signs_ahead := fun_mk (st := s_signs_ahead) l2 c2 k2
  have D_signs_ahead : Df K mg "signs_ahead" s_signs_ahead ["frame", "text", "at"] := ⟨f2, _, F_signs_ahead, PySem.W.mg_of X G a2, F_signs_ahead.binds (ps := ["frame", "text", "at"]) (fun _ _ _ _ _ _ us hl => match us, hl with | [_, _, _], _ => rfl)⟩
  have F_elders := fun_mk (st := s_elders) l3 c3 k3
  have D_elders : Df K mg "elders" s_elders ["frame", "text", "at"] := ⟨f3, _, F_elders, PySem.W.mg_of X G a3, F_elders.binds (ps := ["frame", "text", "at"]) (fun _ _ _ _ _ _ us hl => match us, hl with | [_, _, _], _ => rfl)⟩
  have F_need_knot := fun_mk (st := s_need_knot) l4 c4 k4
  have D_need_knot : Df K mg "need_knot" s_need_knot ["frame", "knot"] := ⟨f4, _, F_need_knot, PySem.W.mg_of X G a4, F_need_knot.binds (ps := ["frame", "knot"]) (fun _ _ _ _ _ _ us hl => match us, hl with | [_, _], _ => rfl)⟩
  have F_counts := fun_mk (st := s_counts) l5 c5 k5
  have D_counts : Df K mg "counts" s_counts ["frame", "text", "knot"] := ⟨f5, _, F_counts, PySem.W.mg_of X G a5, F_counts.binds (ps := ["frame", "text", "knot"]) (fun _ _ _ _ _ _ us hl => match us, hl with | [_, _, _], _ => rfl)⟩
  have F_in_order := fun_mk (st := s_in_order) l6 c6 k6
  have D_in_order : Df K mg "in_order" s_in_order ["frame", "some"] := ⟨f6, _, F_in_order, PySem.W.mg_of X G a6, F_in_order.binds (ps := ["frame", "some"]) (fun _ _ _ _ _ _ us hl => match us, hl with | [_, _], _ => rfl)⟩
  have F_knots := fun_mk (st := s_knots) l7 c7 k7
  have D_knots : Df K mg "knots" s_knots ["frame", "text"] := ⟨f7, _, F_knots, PySem.W.mg_of X G a7, F_knots.binds (ps := ["frame", "text"]) (fun _ _ _ _ _ _ us hl => match us, hl with | [_, _], _ => rfl)⟩
  have F_law_cell_at := fun_mk (st := s_law_cell_at) l8 c8 k8
  have D_law_cell_at : Df K mg "_law_cell_at" s_law_cell_at ["script", "k"] := ⟨f8, _, F_law_cell_at, PySem.W.mg_of X G a8, F_law_cell_at.binds (ps := ["script", "k"]) (fun _ _ _ _ _ _ us hl => match us, hl with | [_, _], _ => rfl)⟩
  have F_law_signs := fun_mk (st := s_law_signs) l9 c9 k9
  have D_law_signs : Df K mg "_law_signs" s_law_signs [] := ⟨f9, _, F_law_signs, PySem.W.mg_of X G a9, F_law_signs.binds (ps := []) (fun _ _ _ _ _ _ us hl => match us, hl with | [], _ => rfl)⟩
  have F_law_frame := fun_mk (st := s_law_frame) l10 c10 k10
  have D_law_frame : Df K mg "_law_frame" s_law_frame ["cell"] := ⟨f10, _, F_law_frame, PySem.W.mg_of X G a10, F_law_frame.binds (ps := ["cell"]) (fun _ _ _ _ _ _ us hl => match us, hl with | [_], _ => rfl)⟩
  have F_law_text := fun_mk (st := s_law_text) l11 c11 k11
  have D_law_text : Df K mg "_law_text" s_law_text ["letters", "cells", "way"] := ⟨f11, _, F_law_text, PySem.W.mg_of X G a11, F_law_text.binds (ps := ["letters", "cells", "way"]) (fun _ _ _ _ _ _ us hl => match us, hl with | [_, _, _], _ => rfl)⟩
  have F_law_ahead := fun_mk (st := s_law_ahead) l12 c12 k12
  have D_law_ahead : Df K mg "_law_ahead" s_law_ahead ["letters", "one", "other"] := ⟨f12, _, F_law_ahead, PySem.W.mg_of X G a12, F_law_ahead.binds (ps := ["letters", "one", "other"]) (fun _ _ _ _ _ _ us hl => match us, hl with | [_, _, _], _ => rfl)⟩
  have F_law_rising := fun_mk (st := s_law_rising) l13 c13 k13
  have D_law_rising : Df K mg "_law_rising" s_law_rising ["letters", "found"] := ⟨f13, _, F_law_rising, PySem.W.mg_of X G a13, F_law_rising.binds (ps := ["letters", "found"]) (fun _ _ _ _ _ _ us hl => match us, hl with | [_, _], _ => rfl)⟩
  have F_law_parted := fun_mk (st := s_law_parted) l14 c14 k14
  have D_law_parted : Df K mg "_law_parted" s_law_parted ["frame", "text", "some", "due"] := ⟨f14, _, F_law_parted, PySem.W.mg_of X G a14, F_law_parted.binds (ps := ["frame", "text", "some", "due"]) (fun _ _ _ _ _ _ us hl => match us, hl with | [_, _, _, _], _ => rfl)⟩
  have F_law_refused := fun_mk (st := s_law_refused) l15 c15 k15
  have D_law_refused : Df K mg "_law_refused" s_law_refused ["frame", "text"] := ⟨f15, _, F_law_refused, PySem.W.mg_of X G a15, F_law_refused.binds (ps := ["frame", "text"]) (fun _ _ _ _ _ _ us hl => match us, hl with | [_, _], _ => rfl)⟩
  have F_law := fun_mk (st := s_law) l16 c16 k16
  have T : Txt K mg := { b_ValueError := PySem.W.mg_none_of X G z_ValueError, b_isinstance := PySem.W.mg_none_of X G z_isinstance, b_len := PySem.W.mg_none_of X G z_len, b_list := PySem.W.mg_none_of X G z_list, b_max := PySem.W.mg_none_of X G z_max, b_min := PySem.W.mg_none_of X G z_min, b_range := PySem.W.mg_none_of X G z_range, b_sorted := PySem.W.mg_none_of X G z_sorted, b_str := PySem.W.mg_none_of X G z_str, b_sum := PySem.W.mg_none_of X G z_sum, e_NoPlace := ⟨C_NoPlace, PySem.W.mg_of X G aC_NoPlace, xC_NoPlace, kC_NoPlace, bC_NoPlace, tC_NoPlace⟩, e_NoKnot := ⟨C_NoKnot, PySem.W.mg_of X G aC_NoKnot, xC_NoKnot, kC_NoKnot, bC_NoKnot, tC_NoKnot⟩, e_NoText := ⟨C_NoText, PySem.W.mg_of X G aC_NoText, xC_NoText, kC_NoText, bC_NoText, tC_NoText⟩, x_NoText := ⟨C_NoText, ⟨PySem.W.mg_of X G aC_NoText, xC_NoText, kC_NoText, bC_NoText, tC_NoText⟩, ⟨gA_NoText, gB_NoText, bC_NoText, gD_NoText, gC_NoText, sp1, sp2, gM_NoText⟩, PySem.W.exm_ref bC_NoText gD_NoText tC_NoText s_NoText_NoText, ⟨C_PressError, PySem.W.mg_of X G aC_PressError, PySem.W.exm_ref bC_PressError gD_PressError tC_PressError s_NoText_PressError⟩, kit_ve sV_NoText, (kits_cons ⟨C_PressError, PySem.W.mg_of X G aC_PressError, kit_own s_NoText_NoText gD_PressError tC_PressError s_NoText_PressError⟩ (kits_cons ⟨C_NoText, PySem.W.mg_of X G aC_NoText, kit_own s_NoText_NoText gD_NoText tC_NoText s_NoText_NoText⟩ (kits_cons ⟨C_NoPlace, PySem.W.mg_of X G aC_NoPlace, kit_own s_NoText_NoText gD_NoPlace tC_NoPlace s_NoText_NoPlace⟩ (kits_cons ⟨C_NoKnot, PySem.W.mg_of X G aC_NoKnot, kit_own s_NoText_NoText gD_NoKnot tC_NoKnot s_NoText_NoKnot⟩ (kits_cons ⟨C_NoSign, PySem.W.mg_of X G aC_NoSign, kit_own s_NoText_NoText gD_NoSign tC_NoSign s_NoText_NoSign⟩ kits_nil)))))⟩, x_NoPlace := ⟨C_NoPlace, ⟨PySem.W.mg_of X G aC_NoPlace, xC_NoPlace, kC_NoPlace, bC_NoPlace, tC_NoPlace⟩, ⟨gA_NoPlace, gB_NoPlace, bC_NoPlace, gD_NoPlace, gC_NoPlace, sp1, sp2, gM_NoPlace⟩, PySem.W.exm_ref bC_NoPlace gD_NoPlace tC_NoPlace s_NoPlace_NoPlace, ⟨C_PressError, PySem.W.mg_of X G aC_PressError, PySem.W.exm_ref bC_PressError gD_PressError tC_PressError s_NoPlace_PressError⟩, kit_ve sV_NoPlace, (kits_cons ⟨C_PressError, PySem.W.mg_of X G aC_PressError, kit_own s_NoPlace_NoPlace gD_PressError tC_PressError s_NoPlace_PressError⟩ (kits_cons ⟨C_NoText, PySem.W.mg_of X G aC_NoText, kit_own s_NoPlace_NoPlace gD_NoText tC_NoText s_NoPlace_NoText⟩ (kits_cons ⟨C_NoPlace, PySem.W.mg_of X G aC_NoPlace, kit_own s_NoPlace_NoPlace gD_NoPlace tC_NoPlace s_NoPlace_NoPlace⟩ (kits_cons ⟨C_NoKnot, PySem.W.mg_of X G aC_NoKnot, kit_own s_NoPlace_NoPlace gD_NoKnot tC_NoKnot s_NoPlace_NoKnot⟩ (kits_cons ⟨C_NoSign, PySem.W.mg_of X G aC_NoSign, kit_own s_NoPlace_NoPlace gD_NoSign tC_NoSign s_NoPlace_NoSign⟩ kits_nil)))))⟩, x_NoKnot := ⟨C_NoKnot, ⟨PySem.W.mg_of X G aC_NoKnot, xC_NoKnot, kC_NoKnot, bC_NoKnot, tC_NoKnot⟩, ⟨gA_NoKnot, gB_NoKnot, bC_NoKnot, gD_NoKnot, gC_NoKnot, sp1, sp2, gM_NoKnot⟩, PySem.W.exm_ref bC_NoKnot gD_NoKnot tC_NoKnot s_NoKnot_NoKnot, ⟨C_PressError, PySem.W.mg_of X G aC_PressError, PySem.W.exm_ref bC_PressError gD_PressError tC_PressError s_NoKnot_PressError⟩, kit_ve sV_NoKnot, (kits_cons ⟨C_PressError, PySem.W.mg_of X G aC_PressError, kit_own s_NoKnot_NoKnot gD_PressError tC_PressError s_NoKnot_PressError⟩ (kits_cons ⟨C_NoText, PySem.W.mg_of X G aC_NoText, kit_own s_NoKnot_NoKnot gD_NoText tC_NoText s_NoKnot_NoText⟩ (kits_cons ⟨C_NoPlace, PySem.W.mg_of X G aC_NoPlace, kit_own s_NoKnot_NoKnot gD_NoPlace tC_NoPlace s_NoKnot_NoPlace⟩ (kits_cons ⟨C_NoKnot, PySem.W.mg_of X G aC_NoKnot, kit_own s_NoKnot_NoKnot gD_NoKnot tC_NoKnot s_NoKnot_NoKnot⟩ (kits_cons ⟨C_NoSign, PySem.W.mg_of X G aC_NoSign, kit_own s_NoKnot_NoKnot gD_NoSign tC_NoSign s_NoKnot_NoSign⟩ kits_nil)))))⟩ }
  have e := hfa.symm.trans (PySem.W.mg_of X G a16)
  cases e
  refine ⟨by simp only [List.forall_mem_cons]; exact ⟨⟨tb_in_order, nl_in_order⟩, fun _ h => by cases h⟩, PySem.W.fnOf "law" "law" (defArgs s_law) (defBody s_law) (defScope s_law) .none kV16 dc16 pm16 an16 cd16 ct16, fun s v => .of_eq rfl, fun base _ _ hTB => ?_⟩
  have G_checked := ok_checked (P := P) (w := w) (base := base) T D_checked
  have G_signs_ahead := ok_signs_ahead (P := P) (w := w) (base := base) T D_signs_ahead
  have G_elders := ok_elders T G_checked G_signs_ahead D_elders
  have G_need_knot := ok_need_knot (P := P) (w := w) (base := base) T D_need_knot
  have G_counts := ok_counts T G_checked G_need_knot G_signs_ahead D_counts
  have G_in_order := ok_in_order (P := P) (w := w) T (hTB ("in_order", 114, 110) (by simp))  (dfC_of X G D_in_order tb_in_order)
  have G_knots := ok_knots T G_checked G_in_order G_signs_ahead D_knots
  have G_law_cell_at := ok_law_cell_at (P := P) (w := w) (base := base) T D_law_cell_at
  have G_law_signs := ok_law_signs (P := P) (w := w) (base := base) T D_law_signs
  have G_law_frame := ok_law_frame T G_law_signs D_law_frame
  have G_law_text := ok_law_text (P := P) (w := w) (base := base) T D_law_text
  have G_law_ahead := ok_law_ahead (P := P) (w := w) (base := base) T D_law_ahead
  have G_law_rising := ok_law_rising T G_law_ahead D_law_rising
  have G_law_parted := ok_law_parted T G_counts D_law_parted
  have G_law_refused := ok_law_refused T G_knots D_law_refused
  refine law_impT (FnOk_subT (fun ds o h => ?_) (ok_law T G_law_frame G_law_text G_knots G_law_cell_at G_law_rising G_elders G_law_refused G_law_parted G_law_signs G_counts F_law))
  obtain ⟨ns, rfl, h1, h2, rfl⟩ := h
  exact ⟨ns, rfl, by rw [law_holds ns h1 h2]; rfl⟩
end B
open PySem PySem.W PyProof.Rows
set_option maxRecDepth 100000 in
set_option maxHeartbeats 0 in
theorem PySem.Challenge.cw_boughpress_k13_whole_knots_part_the_plac_holds : PySem.Challenge.rw_boughpress_k13_whole_knots_part_the_plac.Holds := by
  w_on; o_law; k_head; (case hw => w_witness2)
  k_fill
  refine B.walkT (xs := [("in_order", 114, 110)]) (l := PySem.Challenge.rw_boughpress_k13_whole_knots_part_the_plac) (k := 7) rfl rfl ⟨rfl, by decide, by decide⟩ (fun w h Y => PySem.W.km_in_of Y) (by simp only [List.forall_mem_cons]; exact ⟨⟨_, rfl⟩, fun _ h => by cases h⟩) (by decide +kernel) ?F
  case F =>
    intro w mg fa h KX G hmg
    refine' B.all_mk KX G hmg ?a1 ?l1 ?c1 ?k1 ?a2 ?l2 ?c2 ?k2 ?a3 ?l3 ?c3 ?k3 ?a4 ?l4 ?c4 ?k4 ?a5 ?l5 ?c5 ?k5 ?a6 ?l6 ?c6 ?k6 ?a7 ?l7 ?c7 ?k7 ?a8 ?l8 ?c8 ?k8 ?a9 ?l9 ?c9 ?k9 ?a10 ?l10 ?c10 ?k10 ?a11 ?l11 ?c11 ?k11 ?a12 ?l12 ?c12 ?k12 ?a13 ?l13 ?c13 ?k13 ?a14 ?l14 ?c14 ?k14 ?a15 ?l15 ?c15 ?k15 ?a16 ?l16 ?c16 ?k16 ?z_ValueError ?z_isinstance ?z_len ?z_list ?z_max ?z_min ?z_range ?z_sorted ?z_str ?z_sum ?aC_NoPlace ?xC_NoPlace ?kC_NoPlace ?bC_NoPlace ?tC_NoPlace ?aC_NoKnot ?xC_NoKnot ?kC_NoKnot ?bC_NoKnot ?tC_NoKnot ?aC_NoText ?xC_NoText ?kC_NoText ?bC_NoText ?tC_NoText ?aC_PressError ?aC_NoSign ?gA_NoText ?gB_NoText ?gD_NoText ?gC_NoText ?gM_NoText ?gA_NoPlace ?gB_NoPlace ?gD_NoPlace ?gC_NoPlace ?gM_NoPlace ?gA_NoKnot ?gB_NoKnot ?gD_NoKnot ?gC_NoKnot ?gM_NoKnot ?sp1 ?sp2 ?tC_PressError ?bC_PressError ?gD_PressError ?tC_NoSign ?bC_NoSign ?gD_NoSign ?sV_NoText ?s_NoText_PressError ?s_NoText_NoText ?s_NoText_NoPlace ?s_NoText_NoKnot ?s_NoText_NoSign ?sV_NoPlace ?s_NoPlace_PressError ?s_NoPlace_NoText ?s_NoPlace_NoPlace ?s_NoPlace_NoKnot ?s_NoPlace_NoSign ?sV_NoKnot ?s_NoKnot_PressError ?s_NoKnot_NoText ?s_NoKnot_NoPlace ?s_NoKnot_NoKnot ?s_NoKnot_NoSign ?tb_in_order ?nl_in_order
    (case a1 => k_is)
    (case l1 => k_is)
    (case c1 => k_is)
    (case k1 => k_is)
    (case a2 => k_is)
    (case l2 => k_is)
    (case c2 => k_is)
    (case k2 => k_is)
    (case a3 => k_is)
    (case l3 => k_is)
    (case c3 => k_is)
    (case k3 => k_is)
    (case a4 => k_is)
    (case l4 => k_is)
    (case c4 => k_is)
    (case k4 => k_is)
    (case a5 => k_is)
    (case l5 => k_is)
    (case c5 => k_is)
    (case k5 => k_is)
    (case a6 => k_is)
    (case l6 => k_is)
    (case c6 => k_is)
    (case k6 => k_is)
    (case a7 => k_is)
    (case l7 => k_is)
    (case c7 => k_is)
    (case k7 => k_is)
    (case a8 => k_is)
    (case l8 => k_is)
    (case c8 => k_is)
    (case k8 => k_is)
    (case a9 => k_is)
    (case l9 => k_is)
    (case c9 => k_is)
    (case k9 => k_is)
    (case a10 => k_is)
    (case l10 => k_is)
    (case c10 => k_is)
    (case k10 => k_is)
    (case a11 => k_is)
    (case l11 => k_is)
    (case c11 => k_is)
    (case k11 => k_is)
    (case a12 => k_is)
    (case l12 => k_is)
    (case c12 => k_is)
    (case k12 => k_is)
    (case a13 => k_is)
    (case l13 => k_is)
    (case c13 => k_is)
    (case k13 => k_is)
    (case a14 => k_is)
    (case l14 => k_is)
    (case c14 => k_is)
    (case k14 => k_is)
    (case a15 => k_is)
    (case l15 => k_is)
    (case c15 => k_is)
    (case k15 => k_is)
    (case a16 => k_is)
    (case l16 => k_is)
    (case c16 => k_is)
    (case k16 => k_is)
    (case z_ValueError => k_is)
    (case z_isinstance => k_is)
    (case z_len => k_is)
    (case z_list => k_is)
    (case z_max => k_is)
    (case z_min => k_is)
    (case z_range => k_is)
    (case z_sorted => k_is)
    (case z_str => k_is)
    (case z_sum => k_is)
    (case aC_NoPlace => k_is)
    (case xC_NoPlace => k_exc)
    (case kC_NoPlace => k_is)
    (case bC_NoPlace => k_is)
    (case tC_NoPlace => k_is)
    (case aC_NoKnot => k_is)
    (case xC_NoKnot => k_exc)
    (case kC_NoKnot => k_is)
    (case bC_NoKnot => k_is)
    (case tC_NoKnot => k_is)
    (case aC_NoText => k_is)
    (case xC_NoText => k_exc)
    (case kC_NoText => k_is)
    (case bC_NoText => k_is)
    (case tC_NoText => k_is)
    (case aC_PressError => k_is)
    (case aC_NoSign => k_is)
    (case gA_NoText => k_is)
    (case gB_NoText => k_is)
    (case gD_NoText => k_is)
    (case gC_NoText => k_is)
    (case gM_NoText => k_is)
    (case gA_NoPlace => k_is)
    (case gB_NoPlace => k_is)
    (case gD_NoPlace => k_is)
    (case gC_NoPlace => k_is)
    (case gM_NoPlace => k_is)
    (case gA_NoKnot => k_is)
    (case gB_NoKnot => k_is)
    (case gD_NoKnot => k_is)
    (case gC_NoKnot => k_is)
    (case gM_NoKnot => k_is)
    (case sp1 => k_is)
    (case sp2 => k_is)
    (case tC_PressError => k_is)
    (case bC_PressError => k_is)
    (case gD_PressError => k_is)
    (case tC_NoSign => k_is)
    (case bC_NoSign => k_is)
    (case gD_NoSign => k_is)
    (case sV_NoText => k_is)
    (case s_NoText_PressError => k_is)
    (case s_NoText_NoText => first | rfl | k_is)
    (case s_NoText_NoPlace => k_is)
    (case s_NoText_NoKnot => k_is)
    (case s_NoText_NoSign => k_is)
    (case sV_NoPlace => k_is)
    (case s_NoPlace_PressError => k_is)
    (case s_NoPlace_NoText => k_is)
    (case s_NoPlace_NoPlace => first | rfl | k_is)
    (case s_NoPlace_NoKnot => k_is)
    (case s_NoPlace_NoSign => k_is)
    (case sV_NoKnot => k_is)
    (case s_NoKnot_PressError => k_is)
    (case s_NoKnot_NoText => k_is)
    (case s_NoKnot_NoPlace => k_is)
    (case s_NoKnot_NoKnot => first | rfl | k_is)
    (case s_NoKnot_NoSign => k_is)
    (case tb_in_order => kernel_rfl)
    (case nl_in_order => kernel_rfl)
#print axioms PySem.Challenge.cw_boughpress_k13_whole_knots_part_the_plac_holds


