import PyProof.Rows.All
import Wide.All
import OpenK.AllK
import Wide.FinOn
import HandS.Base
import HandS.Call
import HandS.List
import HandS.Comp
import HandS.Iter
import HandS.Zip
import HandS.TupAny
import HandS.Conv
import HandS.NoneIn
import HandS.IsInst
import HandS.Words
import HandS.WordsList
import HandS.Defaults
import HandS.SetFor
import HandS.Walk
import KE.SortData
import KE.GoesEnum
import HandS.Ends
import HandS.More
import HandS.WordsExc
import HandS.Head0
import HandS.Head1
import HandS.Head2
import HandS.HeadEnd
import HandS.HeadHook1
import HandS.HeadHook2
import KE.KStateDown
import PySem.Challenge.RW_sackloads_k35_whole_papers
set_option Elab.async false
set_option linter.all false
set_option maxRecDepth 100000
set_option maxHeartbeats 4000000
namespace Sk
open PySem L2

/-! ### slots over plain data -/
/-- a slot: nothing known; a datum; a list of one's own (it may change); the box -/
inductive Sl where
  | no
  | dat (d : PyData)
  | own (ds : List PyData)
  | box (b : Int)

section
variable (K : PySem.W.Frag) (bx : Addr)
def SlOk (H G : Hp) (v : Option (Option V)) : Sl → Prop
  | .no => True
  | .dat d => ∃ x, v = some (some x) ∧ Dp K H x d
  | .own ds => ∃ l vs, v = some (some (.ref l)) ∧ H l = none ∧ G l = some (.lst vs) ∧ DpAll K H vs ds
  | .box b => v = some (some (.ref bx)) ∧ H bx = none ∧ G bx = some (.lst [.int b])
end
def isOwn : Sl → Prop
  | .own _ => True
  | .box _ => True
  | _ => False
/-- slot i holds the address l for itself -/
def OwnAt (σ : L2.St) (S : List Sl) (i : Nat) (l : Addr) : Prop := σ[i]? = some (some (.ref l)) ∧ ∃ s, S[i]? = some s ∧ isOwn s
def Own (σ : L2.St) (S : List Sl) : Addr → Prop := fun l => ∃ i, OwnAt σ S i l
structure Ok (K : PySem.W.Frag) (bx : Addr) (σ : L2.St) (H G : Hp) (S : List Sl) : Prop where
  hg : Same H G
  len : σ.length = S.length
  sl : ∀ (i : Nat) (s : Sl), S[i]? = some s → SlOk K bx H G σ[i]? s
  ap : ∀ (i j : Nat) (l : Addr), OwnAt σ S i l → OwnAt σ S j l → i = j
/-- how view and heap may go on -/
structure Stp (A A' : Addr → Prop) (H G H' G' : Hp) : Prop where
  eh : Same H H'
  eg : ∀ a o, G a = some o → ¬ A a → G' a = some o
  sep : ∀ a, G a ≠ none → ¬ A a → H a = none → H' a = none
  ow : ∀ a, A' a → A a ∨ G a = none
  th : ∀ a, G a ≠ none → G' a ≠ none
structure New (H G H' G' : Hp) : Prop where
  eh : Same H H'
  eg : Same G G'
  sep : ∀ a, G a ≠ none → H a = none → H' a = none
  hg : Same H' G'

section
variable {K : PySem.W.Frag} {bx : Addr} {σ σ' σ'' : L2.St} {H G H' G' H'' G'' : Hp} {S S' S'' : List Sl} {A A' A'' : Addr → Prop}
theorem ne_none {o : Option HO} (h : o ≠ none) : ∃ u, o = some u := by
  cases o with
  | none => exact absurd rfl h
  | some u => exact ⟨u, rfl⟩
theorem Stp.refl : Stp A A H G H G := ⟨Same.refl _, fun _ _ h _ => h, fun _ _ _ h => h, fun _ h => .inl h, fun _ h => h⟩
theorem Stp.free (s : Stp A A' H G H' G') {p : Addr} (h : G' p = none) : G p = none := Classical.byContradiction fun n => s.th p n h
theorem Stp.trans (a : Stp A A' H G H' G') (b : Stp A' A'' H' G' H'' G'') : Stp A A'' H G H'' G'' := by
  have nA : ∀ l, G l ≠ none → ¬ A l → ¬ A' l := fun l h n z => (a.ow l z).elim n h
  refine ⟨a.eh.trans b.eh, fun l o h n => b.eg l o (a.eg l o h n) (nA l (by rw [h]; exact fun z => nomatch z) n), fun l h n hn => ?_, fun l z => ?_, fun l h => b.th l (a.th l h)⟩
  · obtain ⟨u, e⟩ := ne_none h
    exact b.sep l (by rw [a.eg l u e n]; exact fun z => nomatch z) (nA l h n) (a.sep l h n hn)
  · rcases b.ow l z with z | z
    · exact a.ow l z
    · exact .inr (a.free z)
theorem New.refl (h : Same H G) : New H G H G := ⟨Same.refl _, Same.refl _, fun _ _ h => h, h⟩
theorem New.trans (a : New H G H' G') (b : New H' G' H'' G'') : New H G H'' G'' := by
  refine ⟨a.eh.trans b.eh, a.eg.trans b.eg, fun l h hn => ?_, b.hg⟩
  obtain ⟨u, e⟩ := ne_none h
  exact b.sep l (by rw [a.eg l u e]; exact fun z => nomatch z) (a.sep l h hn)
theorem New.th (a : New H G H' G') : ∀ l, G l ≠ none → G' l ≠ none := fun l h => by
  obtain ⟨u, e⟩ := ne_none h
  rw [a.eg l u e]; exact fun z => nomatch z
theorem New.stp (a : New H G H' G') : Stp A A H G H' G' := ⟨a.eh, fun l o h _ => a.eg l o h, fun l h _ => a.sep l h, fun _ z => .inl z, a.th⟩
theorem same_new {p : Addr} (h : H p = none) (o : HO) : Same H (upd H p o) := fun b u q => by rw [upd_ne (ne_of_none q h)]; exact q
theorem New.laid {p : Addr} {o : HO} (h : Same H G) (hp : G p = none) : New H G (upd H p o) (upd G p o) := by
  have hn : H p = none := h.free hp
  refine ⟨same_new hn o, same_new hp o, fun a ha hn' => ?_, fun a u e => ?_⟩
  · have : a ≠ p := fun z => ha (by rw [z]; exact hp)
    rw [upd_ne this]; exact hn'
  · by_cases ha : a = p
    · rw [ha, upd_same] at e ⊢; exact e
    · rw [upd_ne ha] at e ⊢; exact h a u e
mutual
theorem Dp.mono (e : Same H H') : ∀ {d : PyData} {v : V}, Dp K H v d → Dp K H' v d
  | .none, _, h => by cases h; exact .non
  | .bool _, _, h => by cases h; exact .bl _
  | .int _, _, h => by cases h; exact .int _
  | .str _, _, h => by cases h; exact .str _
  | .list ds, _, h => by
    cases h with
    | lst a b => exact .lst (e.seq a) (DpAll.mono e b)
  | .tuple ds, _, h => by
    cases h with
    | tup a b => exact .tup (by
        rcases a with (a | ⟨o, a⟩) | a
        · exact .inl (.inl (e _ _ a))
        · exact .inl (.inr ⟨o, e _ _ a⟩)
        · exact .inr a) (DpAll.mono e b)
  | .dict _, _, h => by cases h
theorem DpAll.mono (e : Same H H') : ∀ {ds : List PyData} {vs : List V}, DpAll K H vs ds → DpAll K H' vs ds
  | [], _, h => by cases h; exact .nil
  | d :: ds, _, h => by
    cases h with
    | cons a b => exact .cons (Dp.mono e a) (DpAll.mono e b)
end
theorem sqT_mono {a : Addr} {xs : List V} (e : Same H H') (h : SqT K H a xs) : SqT K H' a xs := by
  rcases h with (h | ⟨o, h⟩) | h
  · exact .inl (.inl (e _ _ h))
  · exact .inl (.inr ⟨o, e _ _ h⟩)
  · exact .inr h
theorem DpAll.length : ∀ {vs : List V} {ds : List PyData}, DpAll K H vs ds → vs.length = ds.length
  | _, _, .nil => rfl
  | _, _, .cons _ t => congrArg (· + 1) (DpAll.length t)
theorem DpAll.get : ∀ {vs : List V} {ds : List PyData} {i : Nat} {d : PyData}, DpAll K H vs ds → ds[i]? = some d → ∃ v, vs[i]? = some v ∧ Dp K H v d
  | _, _, _, _, .nil, h => by simp at h
  | _, _, 0, _, .cons a _, h => by simp at h; subst h; exact ⟨_, rfl, a⟩
  | _, _, i + 1, d, .cons _ t, h => by
    obtain ⟨v, h1, h2⟩ := DpAll.get (i := i) (d := d) t (by simpa using h)
    exact ⟨v, by simpa using h1, h2⟩
theorem DpAll.get' : ∀ {vs : List V} {ds : List PyData} {i : Nat} {v : V}, DpAll K H vs ds → vs[i]? = some v → ∃ d, ds[i]? = some d ∧ Dp K H v d
  | _, _, _, _, .nil, h => by simp at h
  | _, _, 0, _, .cons a _, h => by simp at h; subst h; exact ⟨_, rfl, a⟩
  | _, _, i + 1, d, .cons _ t, h => by
    obtain ⟨v, h1, h2⟩ := DpAll.get' (i := i) (v := d) t (by simpa using h)
    exact ⟨v, by simpa using h1, h2⟩
theorem DpAll.append : ∀ {vs ws : List V} {ds es : List PyData}, DpAll K H vs ds → DpAll K H ws es → DpAll K H (vs ++ ws) (ds ++ es)
  | _, _, _, _, .nil, t => t
  | _, _, _, _, .cons a r, t => .cons a (DpAll.append r t)
theorem DpAll.take : ∀ {vs : List V} {ds : List PyData} (n : Nat), DpAll K H vs ds → DpAll K H (vs.take n) (ds.take n)
  | _, _, 0, _ => .nil
  | _, _, _ + 1, .nil => .nil
  | _, _, n + 1, .cons a t => .cons a (DpAll.take n t)
theorem DpAll.drop : ∀ {vs : List V} {ds : List PyData} (n : Nat), DpAll K H vs ds → DpAll K H (vs.drop n) (ds.drop n)
  | _, _, 0, h => h
  | _, _, _ + 1, .nil => .nil
  | _, _, n + 1, .cons _ t => DpAll.drop n t
theorem DpAll.set : ∀ {vs : List V} {ds : List PyData} (i : Nat) {v : V} {d : PyData}, DpAll K H vs ds → Dp K H v d → DpAll K H (vs.set i v) (ds.set i d)
  | _, _, _, _, _, .nil, _ => .nil
  | _, _, 0, _, _, .cons _ t, h => .cons h t
  | _, _, i + 1, _, _, .cons a t, h => .cons a (DpAll.set i t h)
theorem DpAll.one {v : V} {d : PyData} (h : Dp K H v d) : DpAll K H [v] [d] := .cons h .nil
theorem DpAll.reverse {vs : List V} {ds : List PyData} (h : DpAll K H vs ds) : DpAll K H vs.reverse ds.reverse := by
  induction h using DpAll.rec (motive_1 := fun _ _ _ => True) with
  | nil => exact .nil
  | cons a t _ ih => rw [List.reverse_cons, List.reverse_cons]; exact DpAll.append ih (DpAll.one a)
  | _ => trivial
theorem DpAll.rep {vs : List V} {ds : List PyData} (h : DpAll K H vs ds) : ∀ n : Nat, DpAll K H (List.replicate n vs).flatten (List.replicate n ds).flatten
  | 0 => .nil
  | n + 1 => by rw [List.replicate_succ, List.replicate_succ, List.flatten_cons, List.flatten_cons]; exact DpAll.append h (DpAll.rep h n)
theorem DpAll.ints : ∀ {vs : List V} {ns : List Int}, DpAll K H vs (ns.map .int) → vs = ns.map V.int
  | _, [], h => by cases h; rfl
  | _, n :: ns, h => by
    cases h with
    | cons a t => cases a; rw [DpAll.ints t]; rfl
theorem DpAll.ofInts : ∀ (ns : List Int), DpAll K H (ns.map V.int) (ns.map .int)
  | [] => .nil
  | n :: ns => .cons (.int n) (DpAll.ofInts ns)
theorem DpAll.bls : ∀ {vs : List V} {ns : List Bool}, DpAll K H vs (ns.map .bool) → vs = ns.map V.bl
  | _, [], h => by cases h; rfl
  | _, n :: ns, h => by
    cases h with
    | cons a t => cases a; rw [DpAll.bls t]; rfl

theorem SlOk.mono {v : Option (Option V)} {s : Sl} (h : SlOk K bx H G v s) (eh : Same H H') (eg : ∀ l, v = some (some (.ref l)) → isOwn s → H l = none → G l ≠ none → H' l = none ∧ G' l = G l) : SlOk K bx H' G' v s := by
  cases s with
  | no => trivial
  | dat d =>
    obtain ⟨x, e, h⟩ := h
    exact ⟨x, e, Dp.mono eh h⟩
  | own ds =>
    obtain ⟨l, vs, e, h1, h2, h3⟩ := h
    obtain ⟨q1, q2⟩ := eg l e trivial h1 (by rw [h2]; exact fun z => nomatch z)
    exact ⟨l, vs, e, q1, q2.trans h2, DpAll.mono eh h3⟩
  | box b =>
    obtain ⟨e, h1, h2⟩ := h
    obtain ⟨q1, q2⟩ := eg bx e trivial h1 (by rw [h2]; exact fun z => nomatch z)
    exact ⟨e, q1, q2.trans h2⟩
theorem Ok.new (o : Ok K bx σ H G S) (n : New H G H' G') : Ok K bx σ H' G' S := by
  refine ⟨n.hg, o.len, fun i s h => (o.sl i s h).mono n.eh fun l _ _ h1 h2 => ⟨n.sep l h2 h1, ?_⟩, o.ap⟩
  obtain ⟨u, e⟩ := ne_none h2
  rw [e]; exact n.eg l u e
theorem Ok.ownG (o : Ok K bx σ H G S) {i : Nat} {l : Addr} (h : OwnAt σ S i l) : H l = none ∧ G l ≠ none := by
  obtain ⟨e, s, hs, ho⟩ := h
  have q := o.sl i s hs
  cases s with
  | no => exact ho.elim
  | dat d => exact ho.elim
  | own ds =>
    obtain ⟨l', vs, e', h1, h2, _⟩ := q
    rw [e] at e'; cases e'
    exact ⟨h1, by rw [h2]; exact fun z => nomatch z⟩
  | box b =>
    obtain ⟨e', h1, h2⟩ := q
    rw [e] at e'; cases e'
    exact ⟨h1, by rw [h2]; exact fun z => nomatch z⟩
end
end Sk


set_option Elab.async false
set_option linter.all false
set_option maxRecDepth 100000
set_option maxHeartbeats 4000000
namespace Sk
open PySem L2

/-- contexts of one kind: a def's body (one), a comprehension's block (any) -/
structure Fam where
  ι : Type
  X : ι → Cx
  P : Program
  w : World
  K : PySem.W.Frag
  mg : Str → Option Value
  base : Heap
  A : Around
  N : List Str
  bx : Addr
  hP : ∀ i, (X i).prog = P
  hw : ∀ i, (X i).w = w
  hK : ∀ i, (X i).K = K
  hm : ∀ i, (X i).mg = mg
  hb : ∀ i, (X i).base = base
  hA : ∀ i, (X i).A = A
  hN : ∀ i, (X i).N = N
  calm : ∀ i, (X i).calm = true
  nd : N.Nodup
  un : A.units + 100 < cLine

def wE (F : Fam) (e : Expr) : TE := fun σ G Q => ∃ t, (∀ i, PE (F.X i) e t) ∧ t σ G Q
def wT (F : Fam) (e : Expr) : TT := fun σ G Q => ∃ t, (∀ i, PT (F.X i) e t) ∧ t σ G Q
def wW (F : Fam) (e : Expr) : TT := fun σ G Q => ∃ t, (∀ i, PW (F.X i) e t) ∧ t σ G Q
def wA (F : Fam) (es : List Expr) : TA := fun σ G Q => ∃ t, (∀ i, PA (F.X i) es t) ∧ t σ G Q
def wO (F : Fam) (e : Option Expr) : TO := fun σ G Q => ∃ t, (∀ i, PO (F.X i) e t) ∧ t σ G Q
def wG (F : Fam) (e : Expr) : TG := fun v σ G Q => ∃ t, (∀ i, PG (F.X i) e t) ∧ t v σ G Q
def wGs (F : Fam) (es : List Expr) : TGs := fun v σ G Q => ∃ t, (∀ i, PGs (F.X i) es t) ∧ t v σ G Q
def wI (F : Fam) (tg e : Expr) : TI := fun σ G R => ∃ t, (∀ i, PI (F.X i) tg e t) ∧ t σ G R
def wS (F : Fam) (s : Stmt) : TS := fun D σ G => ∃ t, (∀ i, PS (F.X i) s t) ∧ t D σ G
def wB (F : Fam) (s : List Stmt) : TS := fun D σ G => ∃ t, (∀ i, PSs (F.X i) s t) ∧ t D σ G
def wTs (F : Fam) (es : List Expr) : TT := fun σ G Q => ∃ t, (∀ i, PTs (F.X i) es t) ∧ t σ G Q
section
variable {F : Fam} {e tg : Expr} {es : List Expr} {s : Stmt} {ss : List Stmt} {oe : Option Expr}
theorem wE_ok (i) : PE (F.X i) e (wE F e) := ⟨fun pins s σ H Q I ⟨_, ht, h⟩ => (ht i).run pins s σ H Q I h⟩
theorem wT_ok (i) : PT (F.X i) e (wT F e) := ⟨fun pins s σ H Q I ⟨_, ht, h⟩ => (ht i).run pins s σ H Q I h⟩
theorem wW_ok (i) : PW (F.X i) e (wW F e) := ⟨fun wh pins s σ H Q I ⟨_, ht, h⟩ => (ht i).run wh pins s σ H Q I h⟩
theorem wA_ok (i) : PA (F.X i) es (wA F es) := ⟨fun p pins s σ H Q I ⟨_, ht, h⟩ => (ht i).run p pins s σ H Q I h⟩
theorem wO_ok (i) : PO (F.X i) oe (wO F oe) := ⟨fun pins s σ H Q I ⟨_, ht, h⟩ => (ht i).run pins s σ H Q I h⟩
theorem wG_ok (i) : PG (F.X i) e (wG F e) := ⟨fun pins s σ H v u Q I r ⟨_, ht, h⟩ => (ht i).run pins s σ H v u Q I r h⟩
theorem wGs_ok (i) : PGs (F.X i) es (wGs F es) := ⟨fun pins s σ H v u Q I r ⟨_, ht, h⟩ => (ht i).run pins s σ H v u Q I r h⟩
theorem wI_ok (i) : PI (F.X i) tg e (wI F tg e) := ⟨fun pins s σ H Q I ⟨_, ht, h⟩ => (ht i).run pins s σ H Q I h⟩
theorem wS_ok (i) : PS (F.X i) s (wS F s) := ⟨fun pins s σ H Q I ⟨_, ht, h⟩ => (ht i).run pins s σ H Q I h⟩
theorem wB_ok (i) : PSs (F.X i) ss (wB F ss) := ⟨fun pins s σ H Q I ⟨_, ht, h⟩ => (ht i).run pins s σ H Q I h⟩
theorem wTs_ok (i) : PTs (F.X i) es (wTs F es) := ⟨fun pins s σ H Q I ⟨_, ht, h⟩ => (ht i).run pins s σ H Q I h⟩
end

/-! ### the judgements -/
/-- e, from S, gives d, leaving S' -/
def ED (F : Fam) (S : List Sl) (e : Expr) (d : PyData) (S' : List Sl) : Prop := ∀ σ H G, Ok F.K F.bx σ H G S → ∀ Q : VK,
  (∀ v H' G', Stp (Own σ S) (Own σ S') H G H' G' → Ok F.K F.bx σ H' G' S' → Dp F.K H' v d → Q v G') → wE F e σ G Q
/-- e gives a new list of ds, nobody else's -/
def LD (F : Fam) (S : List Sl) (e : Expr) (ds : List PyData) (S' : List Sl) : Prop := ∀ σ H G, Ok F.K F.bx σ H G S → ∀ Q : VK,
  (∀ l vs H' G', Stp (Own σ S) (Own σ S') H G H' G' → Ok F.K F.bx σ H' G' S' → G l = none → H' l = none → ¬ Own σ S' l → G' l = some (.lst vs) → DpAll F.K H' vs ds → Q (.ref l) G') → wE F e σ G Q
def TD (F : Fam) (S : List Sl) (e : Expr) (b : Bool) (S' : List Sl) : Prop := ∀ σ H G, Ok F.K F.bx σ H G S → ∀ Q : Bool → Hp → Prop,
  (∀ H' G', Stp (Own σ S) (Own σ S') H G H' G' → Ok F.K F.bx σ H' G' S' → Q b G') → wT F e σ G Q
def WD (F : Fam) (S : List Sl) (e : Expr) (b : Bool) (S' : List Sl) : Prop := ∀ σ H G, Ok F.K F.bx σ H G S → ∀ Q : Bool → Hp → Prop,
  (∀ H' G', Stp (Own σ S) (Own σ S') H G H' G' → Ok F.K F.bx σ H' G' S' → Q b G') → wW F e σ G Q
def TsD (F : Fam) (S : List Sl) (es : List Expr) (b : Bool) (S' : List Sl) : Prop := ∀ σ H G, Ok F.K F.bx σ H G S → ∀ Q : Bool → Hp → Prop,
  (∀ H' G', Stp (Own σ S) (Own σ S') H G H' G' → Ok F.K F.bx σ H' G' S' → Q b G') → wTs F es σ G Q
def AD (F : Fam) (S : List Sl) (es : List Expr) (ds : List PyData) (S' : List Sl) : Prop := ∀ σ H G, Ok F.K F.bx σ H G S → ∀ Q : List V → Hp → Prop,
  (∀ vs H' G', Stp (Own σ S) (Own σ S') H G H' G' → Ok F.K F.bx σ H' G' S' → DpAll F.K H' vs ds → Q vs G') → wA F es σ G Q
def OD (F : Fam) (S : List Sl) (e : Option Expr) (o : Option Int) (S' : List Sl) : Prop := ∀ σ H G, Ok F.K F.bx σ H G S → ∀ Q : Option Int → Hp → Prop,
  (∀ H' G', Stp (Own σ S) (Own σ S') H G H' G' → Ok F.K F.bx σ H' G' S' → Q o G') → wO F e σ G Q
/-- the slots outside W are as they were -/
def Kept (W : Nat → Prop) (σ σ' : L2.St) : Prop := ∀ k : Nat, ¬ W k → σ'[k]? = σ[k]?
theorem Kept.refl {W : Nat → Prop} {σ : L2.St} : Kept W σ σ := fun _ _ => rfl
theorem Kept.trans {W : Nat → Prop} {σ σ1 σ2 : L2.St} (a : Kept W σ σ1) (b : Kept W σ1 σ2) : Kept W σ σ2 := fun k h => (b k h).trans (a k h)
/-- the datum d given to the target -/
def GD (F : Fam) (W : Nat → Prop) (S : List Sl) (e : Expr) (d : PyData) (S' : List Sl) : Prop := ∀ σ H G v, Ok F.K F.bx σ H G S → Dp F.K H v d → ∀ Q : L2.St → Hp → Prop,
  (∀ σ' H' G', Kept W σ σ' → Stp (Own σ S) (Own σ' S') H G H' G' → Ok F.K F.bx σ' H' G' S' → Q σ' G') → wG F e v σ G Q
def GsD (F : Fam) (W : Nat → Prop) (S : List Sl) (es : List Expr) (ds : List PyData) (S' : List Sl) : Prop := ∀ σ H G vs, Ok F.K F.bx σ H G S → DpAll F.K H vs ds → ∀ Q : L2.St → Hp → Prop,
  (∀ σ' H' G', Kept W σ σ' → Stp (Own σ S) (Own σ' S') H G H' G' → Ok F.K F.bx σ' H' G' S' → Q σ' G') → wGs F es vs σ G Q
/-- what an iterator yields, over any later view -/
structure WalkD (K : PySem.W.Frag) (J : It) (H : Hp) (xs : List PyData) : Prop where
  go : ∀ (i : Nat) G, i < xs.length → Same H G → J.go i G
  stop : ∀ G, Same H G → J.stop xs.length G
  yld : ∀ (i : Nat) H1 G x G', Same H H1 → Same H1 G → i < xs.length → J.yld i G x G' → ∃ H2 d, New H1 G H2 G' ∧ xs[i]? = some d ∧ Dp K H2 x d
def ID (F : Fam) (S : List Sl) (tg e : Expr) (xs : List PyData) (S' : List Sl) : Prop := ∀ σ H G, Ok F.K F.bx σ H G S → ∀ R : It → Hp → Prop,
  (∀ J H' G', Stp (Own σ S) (Own σ S') H G H' G' → Ok F.K F.bx σ H' G' S' → WalkD F.K J H' xs → R J G') → wI F tg e σ G R
/-- what is wanted behind a block; wr: the slots that it may write -/
structure Po where
  nx : List Sl → Prop := fun _ => False
  rt : PyData → List Sl → Prop := fun _ _ => False
  rl : List PyData → Prop := fun _ => False
  bk : List Sl → Prop := fun _ => False
  ct : List Sl → Prop := fun _ => False
  wr : Nat → Prop := fun _ => True
def Meets1 (F : Fam) (p : List Sl → Prop) (W : Nat → Prop) (D : L2.St → Hp → Prop) (σ : L2.St) (H G : Hp) (S : List Sl) : Prop :=
  ∀ σ' H' G' S', p S' → Kept W σ σ' → Stp (Own σ S) (Own σ' S') H G H' G' → Ok F.K F.bx σ' H' G' S' → D σ' G'
structure Meets (F : Fam) (P : Po) (D : Ends) (σ : L2.St) (H G : Hp) (S : List Sl) : Prop where
  nx : Meets1 F P.nx P.wr D.nx σ H G S
  rt : ∀ d v σ' H' G' S', P.rt d S' → Stp (Own σ S) (Own σ' S') H G H' G' → Ok F.K F.bx σ' H' G' S' → Dp F.K H' v d → D.rt v G'
  bk : Meets1 F P.bk P.wr D.bk σ H G S
  ct : Meets1 F P.ct P.wr D.ct σ H G S
  rl : ∀ ds l vs σ' H' G' S', P.rl ds → Stp (Own σ S) (Own σ' S') H G H' G' → Ok F.K F.bx σ' H' G' S' → G l = none → H' l = none → ¬ Own σ' S' l → G' l = some (.lst vs) → DpAll F.K H' vs ds → D.rt (.ref l) G'
def SD (F : Fam) (S : List Sl) (s : Stmt) (P : Po) : Prop := ∀ σ H G, Ok F.K F.bx σ H G S → ∀ D, Meets F P D σ H G S → wS F s D σ G
def BD (F : Fam) (S : List Sl) (s : List Stmt) (P : Po) : Prop := ∀ σ H G, Ok F.K F.bx σ H G S → ∀ D, Meets F P D σ H G S → wB F s D σ G

section
variable {F : Fam} {S S1 S2 S3 S' : List Sl} {e a b : Expr} {es : List Expr} {d x y z : PyData} {ds xs ys : List PyData} {pos : Pos}
theorem ED.mk {t : TE} (ht : ∀ i, PE (F.X i) e t) (h : ∀ σ H G, Ok F.K F.bx σ H G S → ∀ Q : VK, (∀ v H' G', Stp (Own σ S) (Own σ S') H G H' G' → Ok F.K F.bx σ H' G' S' → Dp F.K H' v d → Q v G') → t σ G Q) : ED F S e d S' :=
  fun σ H G o Q k => ⟨t, ht, h σ H G o Q k⟩
theorem TD.mk {t : TT} (ht : ∀ i, PT (F.X i) e t) {b : Bool} (h : ∀ σ H G, Ok F.K F.bx σ H G S → ∀ Q : Bool → Hp → Prop, (∀ H' G', Stp (Own σ S) (Own σ S') H G H' G' → Ok F.K F.bx σ H' G' S' → Q b G') → t σ G Q) : TD F S e b S' :=
  fun σ H G o Q k => ⟨t, ht, h σ H G o Q k⟩
/-! #### names, constants -/
theorem ed_var {j : Nat} {x : Str} (hs : S[j]? = some (.dat d)) (hN : F.N[j]? = some x) (hv : ∀ i, Vis (F.X i).env.scope x) (hd : (x == ("__debug__" : Str)) = false := by decide) (hcd : (x == ("__classdict__" : Str)) = false := by decide) : ED F S (.Name x pos) d S := by
  refine .mk (t := tVar j) (fun i => pe_var (by rw [F.hN]; exact hN) (hv i) hd hcd) fun σ H G o Q k => ?_
  obtain ⟨v, e, h⟩ := o.sl j _ hs
  exact ⟨v, e, k v H G Stp.refl o h⟩
theorem ed_const {v : V} (ht : ∀ i, PE (F.X i) e (tC v)) (h : ∀ H, Dp F.K H v d) : ED F S e d S := .mk ht fun σ H G o Q k => k v H G Stp.refl o (h H)
theorem ed_int {n : Int} {j} : ED F S (.Constant (.int n) j pos) (.int n) S := ed_const (fun _ => pe_int) fun _ => .int n
theorem ed_bool {n : Bool} {j} : ED F S (.Constant (.bool n) j pos) (.bool n) S := ed_const (fun _ => pe_bl) fun _ => .bl n
theorem ed_none {j} : ED F S (.Constant .none j pos) .none S := ed_const (fun _ => pe_non) fun _ => .non
theorem ed_str {n : Str} {j} : ED F S (.Constant (.str n) j pos) (.str n) S := ed_const (fun _ => pe_str) fun _ => .str n
theorem ed_glob {x : Str} {v : V} {u : Value} (hg : ∀ i, Gl (F.X i) x) (hm : F.mg x = some u) (r : RelV v u) (h : ∀ H, Dp F.K H v d) (hd : (x == ("__debug__" : Str)) = false := by decide) : ED F S (.Name x pos) d S :=
  ed_const (fun i => pe_glob (hg i) (by rw [F.hm]; exact hm) r hd) h
theorem ED.weak {d' : PyData} (h : ED F S e d S') (e1 : d = d') : ED F S e d' S' := e1 ▸ h
/-! #### operators on data -/
def RD (K : PySem.W.Frag) (r : R2) (x y d : PyData) : Prop := ∀ H G u v, Same H G → Dp K H u x → Dp K H v y → ∀ Q : VK, (∀ z H' G', New H G H' G' → Dp K H' z d → Q z G') → r u v G Q
theorem ED.two {r : R2} (ht : ∀ i, PE (F.X i) e (tOp r (wE F a) (wE F b))) (ha : ED F S a x S1) (hb : ED F S1 b y S2) (hr : RD F.K r x y d) : ED F S e d S2 :=
  .mk ht fun σ H G o Q k => ha σ H G o _ fun u H1 G1 s1 o1 d1 => hb σ H1 G1 o1 _ fun v H2 G2 s2 o2 d2 => hr H2 G2 u v o2.hg (Dp.mono s2.eh d1) d2 _ fun z H3 G3 n d3 => k z H3 G3 ((s1.trans s2).trans n.stp) (o2.new n) d3
def OpD (F : Fam) (f : Value → Value → Sem Value) (x y d : PyData) : Prop := ∃ r, (∀ i, OpR (F.X i) f r) ∧ RD F.K r x y d
theorem ed_bin {op : Operator} (ha : ED F S a x S1) (hb : ED F S1 b y S2) (ho : OpD F (binaryOp op) x y d) : ED F S (.BinOp a op b pos) d S2 := by
  obtain ⟨r, h1, h2⟩ := ho
  exact ED.two (fun i => pe_op (h1 i) (wE_ok i) (wE_ok i)) ha hb h2
theorem ed_cmp {op : CmpOp} (ha : ED F S a x S1) (hb : ED F S1 b y S2) (ho : OpD F (compareOp op) x y d) (hm : behindInMarks op b = false := by first | exact nomark _ | rfl) : ED F S (.Compare a [op] [b] pos) d S2 := by
  obtain ⟨r, h1, h2⟩ := ho
  exact ED.two (fun i => pe_cmpR (h1 i) (wE_ok i) (wE_ok i) hm) ha hb h2
theorem td_cmp {op : CmpOp} {c : Bool} (ha : ED F S a x S1) (hb : ED F S1 b y S2) (ho : OpD F (compareOp op) x y (.bool c)) (hm : behindInMarks op b = false := by first | exact nomark _ | rfl) : TD F S (.Compare a [op] [b] pos) c S2 := by
  obtain ⟨r, h1, hr⟩ := ho
  refine .mk (t := tTest (tOp r (wE F a) (wE F b))) (fun i => pt_cmpR (h1 i) (wE_ok i) (wE_ok i) hm) fun σ H G o Q k => ?_
  exact ha σ H G o _ fun u H1 G1 s1 o1 d1 => hb σ H1 G1 o1 _ fun v H2 G2 s2 o2 d2 => hr H2 G2 u v o2.hg (Dp.mono s2.eh d1) d2 _ fun z H3 G3 n d3 => by
    cases d3
    exact ⟨c, rfl, k H3 G3 ((s1.trans s2).trans n.stp) (o2.new n)⟩
/-- two ints -/
theorem rd_I {C : Int → Int → Prop} {g : Int → Int → V} {K : PySem.W.Frag} {i j : Int} (hc : C i j) (h : ∀ H, Dp K H (g i j) d) : RD K (rI C g) (.int i) (.int j) d := fun H G u v hs hu hv Q k => by
  cases hu; cases hv
  exact ⟨i, j, rfl, rfl, hc, k _ H G (New.refl hs) (h H)⟩
theorem rd_I0 {g : Int → Int → V} {K : PySem.W.Frag} {i j : Int} (h : ∀ H, Dp K H (g i j) d) : RD K (rI0 g) (.int i) (.int j) d := fun H G u v hs hu hv Q k => by
  cases hu; cases hv
  exact ⟨i, j, rfl, rfl, k _ H G (New.refl hs) (h H)⟩
variable {i j : Int}
theorem o_add : OpD F (binaryOp .Add) (.int i) (.int j) (.int (i + j)) := ⟨_, fun _ => op_add, rd_I0 fun _ => .int _⟩
theorem o_sub : OpD F (binaryOp .Sub) (.int i) (.int j) (.int (i - j)) := ⟨_, fun _ => op_sub, rd_I0 fun _ => .int _⟩
theorem o_mul (h : CMul i j) : OpD F (binaryOp .Mult) (.int i) (.int j) (.int (i * j)) := ⟨_, fun _ => op_mul, rd_I h fun _ => .int _⟩
theorem o_fdiv (h : CDiv i j) : OpD F (binaryOp .FloorDiv) (.int i) (.int j) (.int (i / j)) := ⟨_, fun _ => op_fdiv, rd_I h fun _ => .int _⟩
theorem o_mod (h : 0 < j) : OpD F (binaryOp .Mod) (.int i) (.int j) (.int (i % j)) := ⟨_, fun _ => op_mod, rd_I h fun _ => .int _⟩
theorem o_lt : OpD F (compareOp .Lt) (.int i) (.int j) (.bool (decide (i < j))) := ⟨_, fun _ => op_lt, rd_I0 fun _ => .bl _⟩
theorem o_le : OpD F (compareOp .LtE) (.int i) (.int j) (.bool (decide (i ≤ j))) := ⟨_, fun _ => op_le, rd_I0 fun _ => .bl _⟩
theorem o_gt : OpD F (compareOp .Gt) (.int i) (.int j) (.bool (decide (j < i))) := ⟨_, fun _ => op_gt, rd_I0 fun _ => .bl _⟩
theorem o_ge : OpD F (compareOp .GtE) (.int i) (.int j) (.bool (decide (j ≤ i))) := ⟨_, fun _ => op_ge, rd_I0 fun _ => .bl _⟩
/-- scalars compared -/
def scV : PyData → Option V
  | .none => some .non
  | .bool b => some (.bl b)
  | .int i => some (.int i)
  | .str x => some (.str x)
  | _ => none
theorem scV_ok {K : PySem.W.Frag} {H : Hp} {v u : V} (h : Dp K H v d) (e : scV d = some u) : v = u := by
  cases h <;> first | (cases e; rfl) | (exact absurd e (by simp [scV]))
theorem o_eqS {u v : V} (hx : scV x = some u) (hy : scV y = some v) (hs : scal u v = true) : OpD F (compareOp .Eq) x y (.bool (decide (u = v))) := ⟨_, fun _ => op_eq, fun H G u' v' h1 h2 h3 Q k => by
  cases scV_ok h2 hx; cases scV_ok h3 hy
  exact ⟨hs, k _ H G (New.refl h1) (.bl _)⟩⟩
theorem o_neS {u v : V} (hx : scV x = some u) (hy : scV y = some v) (hs : scal u v = true) : OpD F (compareOp .NotEq) x y (.bool (!decide (u = v))) := ⟨_, fun _ => op_ne, fun H G u' v' h1 h2 h3 Q k => by
  cases scV_ok h2 hx; cases scV_ok h3 hy
  exact ⟨hs, k _ H G (New.refl h1) (.bl _)⟩⟩
theorem o_eqI : OpD F (compareOp .Eq) (.int i) (.int j) (.bool (decide (i = j))) := by
  have h := o_eqS (F := F) (x := .int i) (y := .int j) rfl rfl rfl
  have e : decide (V.int i = V.int j) = decide (i = j) := by simp
  rw [e] at h; exact h
theorem o_neI : OpD F (compareOp .NotEq) (.int i) (.int j) (.bool (!decide (i = j))) := by
  have h := o_neS (F := F) (x := .int i) (y := .int j) rfl rfl rfl
  have e : decide (V.int i = V.int j) = decide (i = j) := by simp
  rw [e] at h; exact h
theorem o_neB {p q : Bool} : OpD F (compareOp .NotEq) (.bool p) (.bool q) (.bool (!decide (p = q))) := by
  have h := o_neS (F := F) (x := .bool p) (y := .bool q) rfl rfl rfl
  have e : decide (V.bl p = V.bl q) = decide (p = q) := by simp
  rw [e] at h; exact h
theorem o_eqT {p q : Str} : OpD F (compareOp .Eq) (.str p) (.str q) (.bool (decide (p = q))) := by
  have h := o_eqS (F := F) (x := .str p) (y := .str q) rfl rfl rfl
  have e : decide (V.str p = V.str q) = decide (p = q) := by simp
  rw [e] at h; exact h
theorem o_neT {p q : Str} : OpD F (compareOp .NotEq) (.str p) (.str q) (.bool (!decide (p = q))) := by
  have h := o_neS (F := F) (x := .str p) (y := .str q) rfl rfl rfl
  have e : decide (V.str p = V.str q) = decide (p = q) := by simp
  rw [e] at h; exact h
def isNone : PyData → Bool
  | .none => true
  | _ => false
theorem isNone_V {K : PySem.W.Frag} {H : Hp} {v : V} (h : Dp K H v d) : decide (v = .non) = isNone d := by
  cases h <;> simp [isNone]
theorem o_is : OpD F (compareOp .Is) x .none (.bool (isNone x)) := ⟨_, fun _ => op_isN, fun H G u v h1 h2 h3 Q k => by
  cases h3
  exact ⟨rfl, by rw [isNone_V h2]; exact k _ H G (New.refl h1) (.bl _)⟩⟩
theorem o_isnot : OpD F (compareOp .IsNot) x .none (.bool (!isNone x)) := ⟨_, fun _ => op_notN, fun H G u v h1 h2 h3 Q k => by
  cases h3
  exact ⟨rfl, by rw [isNone_V h2]; exact k _ H G (New.refl h1) (.bl _)⟩⟩
theorem tup_ref {K : PySem.W.Frag} {H : Hp} {v : V} (h : Dp K H v (.tuple ds)) : ∃ a vs, v = .ref a ∧ SqT K H a vs ∧ DpAll K H vs ds := by
  cases h with
  | tup a b => exact ⟨_, _, rfl, a, b⟩
theorem lst_ref {K : PySem.W.Frag} {H : Hp} {v : V} (h : Dp K H v (.list ds)) : ∃ a vs, v = .ref a ∧ SqL K H a vs ∧ DpAll K H vs ds := by
  cases h with
  | lst a b => exact ⟨_, _, rfl, a, b⟩
theorem small_le {n : Nat} (h : n ≤ 100000) : n ≤ sizeLine := Nat.le_trans h (by decide)
theorem new_tup {K : PySem.W.Frag} {H G : Hp} {p : Addr} {vs : List V} (h : Same H G) (hp : G p = none) (hd : DpAll K H vs ds) : New H G (upd H p (.tup vs)) (upd G p (.tup vs)) ∧ Dp K (upd H p (.tup vs)) (.ref p) (.tuple ds) :=
  ⟨New.laid h hp, .tup (SqT.of upd_same) (DpAll.mono (same_new (h.free hp) _) hd)⟩
theorem o_cat (h : xs.length + ys.length ≤ 100000) : OpD F (binaryOp .Add) (.tuple xs) (.tuple ys) (.tuple (xs ++ ys)) := by
  refine ⟨rCatA F.K, fun i => by have := op_catA (X := F.X i); rw [F.hK] at this; exact this, fun H G u v h1 h2 h3 Q k => ?_⟩
  obtain ⟨p, us, rfl, q1, r1⟩ := tup_ref h2
  obtain ⟨p2, ws, rfl, q2, r2⟩ := tup_ref h3
  refine ⟨p, p2, us, ws, rfl, rfl, sqT_mono h1 q1, sqT_mono h1 q2, small_le (by rw [DpAll.length r1, DpAll.length r2]; exact h), fun e => ?_, fun _ e => ?_, fun _ _ l hl => ?_⟩
  · subst e
    cases r1
    exact k _ H G (New.refl h1) h3
  · subst e
    cases r2
    rw [List.append_nil] at k
    exact k _ H G (New.refl h1) h2
  · obtain ⟨n, dd⟩ := new_tup h1 hl (DpAll.append r1 r2)
    exact k _ _ _ n dd
end
end Sk


set_option Elab.async false
set_option linter.all false
set_option maxRecDepth 100000
set_option maxHeartbeats 4000000
namespace Sk
open PySem L2
section
variable {F : Fam} {S S1 S2 S3 S' : List Sl} {e a b o : Expr} {es : List Expr} {d x y z : PyData} {ds xs ys : List PyData} {pos p : Pos} {i j : Int} {σ : L2.St} {H G H' G' : Hp}

/-! #### subscripts -/
theorem atI_all {K : PySem.W.Frag} {vs : List V} (h : DpAll K H vs ds) (e : atI ds i = some d) : ∃ v, atI vs i = some v ∧ Dp K H v d := by
  unfold atI at e ⊢
  rw [DpAll.length h]
  cases q : ixN ds.length i with
  | none => rw [q] at e; cases e
  | some k => rw [q] at e; exact DpAll.get h e
theorem ed_ixT (ha : ED F S a (.tuple ds) S1) (hb : ED F S1 b (.int i) S2) (h : atI ds i = some d) (hs : PlainIx b := by exact fun _ _ => rfl) : ED F S (.Subscript a b pos) d S2 := by
  refine ED.two (r := rIxT F.K) (fun k => by have := pe_ix (ix_tup (X := F.X k)) (wE_ok k) (wE_ok k) hs (a := a) (pos := pos); rw [F.hK] at this; exact this) ha hb fun H G u v h1 h2 h3 Q k => ?_
  obtain ⟨p, us, rfl, q1, r1⟩ := tup_ref h2
  cases h3
  obtain ⟨w, e, hw⟩ := atI_all r1 h
  exact ⟨p, us, i, w, rfl, rfl, sqT_mono h1 q1, e, k w H G (New.refl h1) hw⟩
theorem ed_ixL (ha : ED F S a (.list ds) S1) (hb : ED F S1 b (.int i) S2) (h : atI ds i = some d) (hs : PlainIx b := by exact fun _ _ => rfl) : ED F S (.Subscript a b pos) d S2 := by
  refine ED.two (r := rIxL F.K) (fun k => by have := pe_ix (ix_list (X := F.X k)) (wE_ok k) (wE_ok k) hs (a := a) (pos := pos); rw [F.hK] at this; exact this) ha hb fun H G u v h1 h2 h3 Q k => ?_
  obtain ⟨p, us, rfl, q1, r1⟩ := lst_ref h2
  cases h3
  obtain ⟨w, e, hw⟩ := atI_all r1 h
  exact ⟨p, us, i, w, rfl, rfl, h1.seq q1, e, k w H G (New.refl h1) hw⟩
/-- of a list of one's own -/
theorem Ok.own {K : PySem.W.Frag} {bx : Addr} (o : Ok K bx σ H G S) {k : Nat} (h : S[k]? = some (.own ds)) : ∃ l vs, σ[k]? = some (some (.ref l)) ∧ H l = none ∧ G l = some (.lst vs) ∧ DpAll K H vs ds ∧ OwnAt σ S k l := by
  obtain ⟨l, vs, e, h1, h2, h3⟩ := o.sl k _ h
  exact ⟨l, vs, e, h1, h2, h3, e, _, h, trivial⟩
theorem ed_ixO {k : Nat} {x : Str} {q : Pos} (hs : S[k]? = some (.own ys)) (hN : F.N[k]? = some x) (hv : ∀ i, Vis (F.X i).env.scope x) (hb : ED F S b (.int i) S1) (hs1 : S1[k]? = some (.own ds)) (h : atI ds i = some d)
    (hp : PlainIx b := by exact fun _ _ => rfl) (hd : (x == ("__debug__" : Str)) = false := by decide) (hcd : (x == ("__classdict__" : Str)) = false := by decide) : ED F S (.Subscript (.Name x q) b pos) d S1 := by
  refine .mk (t := tOp (rIxL F.K) (tVar k) (wE F b)) (fun n => by have := pe_ix (ix_list (X := F.X n)) (pe_var (pos := q) (by rw [F.hN]; exact hN) (hv n) hd hcd) (wE_ok n) hp (pos := pos); rw [F.hK] at this; exact this) fun σ H G o Q kk => ?_
  obtain ⟨l, vs, e, _⟩ := o.own hs
  refine ⟨_, e, hb σ H G o _ fun v H1 G1 s1 o1 d1 => ?_⟩
  cases d1
  obtain ⟨l', vs', e', h1, h2, h3, _⟩ := o1.own hs1
  rw [e] at e'; cases e'
  obtain ⟨w, ew, hw⟩ := atI_all h3 h
  exact ⟨l, vs', i, w, rfl, rfl, SqL.of h2, ew, kk w H1 G1 s1 o1 hw⟩

/-! #### slices -/
def cutD (xs : List PyData) (lo hi : Option Int) : List PyData := (xs.drop (HT.sIx xs.length 0 lo)).take (HT.sIx xs.length xs.length hi - HT.sIx xs.length 0 lo)
theorem od_none : OD F S none none S := fun σ H G o Q k => ⟨tNoPart, fun _ => po_none, k H G Stp.refl o⟩
theorem od_some (h : ED F S e (.int i) S1) : OD F S (some e) (some i) S1 := fun σ H G o Q k => ⟨tPart (wE F e), fun n => po_some (wE_ok n), h σ H G o _ fun v H1 G1 s1 o1 d1 => by
  cases d1
  exact ⟨i, rfl, k H1 G1 s1 o1⟩⟩
theorem cut_dp {K : PySem.W.Frag} {vs : List V} (h : DpAll K H vs ds) (lo hi : Option Int) : DpAll K H (cutV vs lo hi) (cutD ds lo hi) := by
  unfold cutV cutD
  rw [DpAll.length h]
  exact DpAll.take _ (DpAll.drop _ h)
theorem cut_whole {vs : List V} {lo hi : Option Int} (h : HT.sIx vs.length 0 lo = 0 ∧ HT.sIx vs.length vs.length hi = vs.length) : cutV vs lo hi = vs := by
  unfold cutV
  rw [h.1, h.2, List.drop_zero, Nat.sub_zero, List.take_length]
theorem ed_slT {lo hi : Option Expr} {l u : Option Int} {p2 : Pos} (ha : ED F S a (.tuple ds) S1) (hl : OD F S1 lo l S2) (hh : OD F S2 hi u S3) : ED F S (.Subscript a (.Slice lo hi none p2) pos) (.tuple (cutD ds l u)) S3 := by
  refine .mk (t := tSl (rSlA F.K) (wE F a) (wO F lo) (wO F hi)) (fun k => by have := pe_slice (sl_tupA (X := F.X k)) (wE_ok k) (wO_ok k) (wO_ok k) (e := a) (lo := lo) (hi := hi) (p2 := p2) (pos := pos); rw [F.hK] at this; exact this) fun σ H G o Q k => ?_
  refine ha σ H G o _ fun v H1 G1 s1 o1 d1 => hl σ H1 G1 o1 _ fun H2 G2 s2 o2 => hh σ H2 G2 o2 _ fun H3 G3 s3 o3 => ?_
  obtain ⟨q, us, rfl, q1, r1⟩ := tup_ref (Dp.mono (s2.eh.trans s3.eh) d1)
  have st := (s1.trans s2).trans s3
  refine ⟨q, us, rfl, sqT_mono o3.hg q1, fun w => ?_, fun _ p hp => ?_⟩
  · refine k _ H3 G3 st o3 (.tup q1 ?_)
    have := cut_dp r1 l u
    rw [cut_whole w] at this
    exact this
  · obtain ⟨n, dd⟩ := new_tup o3.hg hp (cut_dp r1 l u)
    exact k _ _ _ (st.trans n.stp) (o3.new n) dd
theorem new_lst {K : PySem.W.Frag} {p : Addr} {vs : List V} (h : Same H G) (hp : G p = none) (hd : DpAll K H vs ds) : New H G (upd H p (.lst vs)) (upd G p (.lst vs)) ∧ Dp K (upd H p (.lst vs)) (.ref p) (.list ds) :=
  ⟨New.laid h hp, .lst (SqL.of upd_same) (DpAll.mono (same_new (h.free hp) _) hd)⟩
/-- a new list of one's own: laid in the heap, not in the view -/
theorem Ok.lay {K : PySem.W.Frag} {bx : Addr} {q : Addr} {u : HO} (o : Ok K bx σ H G S) (hq : G q = none) : Stp (Own σ S) (Own σ S) H G H (upd G q u) ∧ Ok K bx σ H (upd G q u) S ∧ H q = none ∧ ¬ Own σ S q := by
  have hn : H q = none := o.hg.free hq
  refine ⟨⟨Same.refl _, fun a o h _ => same_new hq _ a o h, fun _ _ _ h => h, fun _ z => .inl z, fun a h z => h ((same_new hq u).free z)⟩, ⟨o.hg.trans (same_new hq _), o.len, fun i s h => (o.sl i s h).mono (Same.refl _) fun l _ _ h1 h2 => ⟨h1, upd_ne fun z => h2 (by rw [z]; exact hq)⟩, o.ap⟩, hn, fun ⟨i, z⟩ => (o.ownG z).2 hq⟩
theorem ld_slL {lo hi : Option Expr} {l u : Option Int} {p2 : Pos} (ha : ED F S a (.list ds) S1) (hl : OD F S1 lo l S2) (hh : OD F S2 hi u S3) : LD F S (.Subscript a (.Slice lo hi none p2) pos) (cutD ds l u) S3 := by
  intro σ H G o Q k
  refine ⟨tSl (rSlL F.K) (wE F a) (wO F lo) (wO F hi), fun n => by have := pe_slice (sl_list (X := F.X n)) (wE_ok n) (wO_ok n) (wO_ok n) (e := a) (lo := lo) (hi := hi) (p2 := p2) (pos := pos); rw [F.hK] at this; exact this, ?_⟩
  refine ha σ H G o _ fun v H1 G1 s1 o1 d1 => hl σ H1 G1 o1 _ fun H2 G2 s2 o2 => hh σ H2 G2 o2 _ fun H3 G3 s3 o3 => ?_
  obtain ⟨q, us, rfl, q1, r1⟩ := lst_ref (Dp.mono (s2.eh.trans s3.eh) d1)
  have st := (s1.trans s2).trans s3
  refine ⟨q, us, rfl, o3.hg.seq q1, fun p hp => ?_⟩
  obtain ⟨n, on, hpn, no⟩ := o3.lay (u := .lst (cutV us l u)) hp
  exact k p _ H3 _ (st.trans n) on (st.free hp) hpn no upd_same (cut_dp r1 l u)
end
end Sk


set_option Elab.async false
set_option linter.all false
set_option maxRecDepth 100000
set_option maxHeartbeats 4000000
namespace Sk
open PySem L2
section
variable {F : Fam} {S S1 S2 S3 S' : List Sl} {e a b o : Expr} {es : List Expr} {d x y z : PyData} {ds xs ys : List PyData} {pos p : Pos} {i j : Int} {σ : L2.St} {H G H' G' : Hp}

/-! #### a list of one's own becomes a datum -/
theorem Ok.see {K : PySem.W.Frag} {bx l : Addr} {u : HO} (o : Ok K bx σ H G S) (hn : H l = none) (no : ¬ Own σ S l) (hl : G l = some u) : Ok K bx σ (upd H l u) G S := by
  refine ⟨fun q v e => ?_, o.len, fun i s h => ?_, o.ap⟩
  · by_cases hq : q = l
    · rw [hq, upd_same] at e; rw [hq, hl]; exact e
    · rw [upd_ne hq] at e; exact o.hg q v e
  · have q := o.sl i s h
    refine q.mono (same_new hn _) fun l' e ho h1 h2 => ⟨?_, rfl⟩
    have : l' ≠ l := fun z => no ⟨i, by rw [← z]; exact ⟨e, s, h, ho⟩⟩
    rw [upd_ne this]; exact h1
theorem ed_of_ld (h : LD F S e ds S1) : ED F S e (.list ds) S1 := fun σ H G o Q k => h σ H G o Q fun l vs H1 G1 s1 o1 g0 h1 no hl hd => by
  refine k _ (upd H1 l (.lst vs)) G1 ⟨s1.eh.trans (same_new h1 _), s1.eg, fun a ha n hn => ?_, s1.ow, s1.th⟩ (o1.see h1 no hl) (.lst (SqL.of upd_same) (DpAll.mono (same_new h1 _) hd))
  have : a ≠ l := fun z => ha (by rw [z]; exact g0)
  rw [upd_ne this]; exact s1.sep a ha n hn
theorem Ok.freeze {K : PySem.W.Frag} {bx : Addr} (o : Ok K bx σ H G S) {k : Nat} (h : S[k]? = some (.own ds)) : ∃ l H', σ[k]? = some (some (.ref l)) ∧ Stp (Own σ S) (Own σ (S.set k (.dat (.list ds)))) H G H' G ∧ Ok K bx σ H' G (S.set k (.dat (.list ds))) ∧ Dp K H' (.ref l) (.list ds) := by
  obtain ⟨l, vs, e, h1, h2, h3, ow⟩ := o.own h
  have hk : k < S.length := (List.getElem?_eq_some_iff.mp h).1
  have dd : Dp K (upd H l (.lst vs)) (.ref l) (.list ds) := .lst (SqL.of upd_same) (DpAll.mono (same_new h1 _) h3)
  have sub : ∀ i q, OwnAt σ (S.set k (.dat (.list ds))) i q → OwnAt σ S i q ∧ i ≠ k := fun i q ⟨q1, s, q2, q3⟩ => by
    by_cases hi : k = i
    · subst hi
      rw [List.getElem?_set_self hk] at q2
      cases q2
      exact q3.elim
    · rw [List.getElem?_set_ne hi] at q2
      exact ⟨⟨q1, s, q2, q3⟩, fun z => hi z.symm⟩
  refine ⟨l, upd H l (.lst vs), e, ⟨same_new h1 _, fun _ _ h _ => h, fun q _ n hn => ?_, fun q ⟨i, z⟩ => .inl ⟨i, (sub i q z).1⟩, fun _ h => h⟩, ⟨fun q v e => ?_, by rw [List.length_set]; exact o.len, fun i s hs => ?_, fun i j q z z' => o.ap i j q (sub i q z).1 (sub j q z').1⟩, dd⟩
  · have : q ≠ l := fun z => n ⟨k, by rw [z]; exact ow⟩
    rw [upd_ne this]; exact hn
  · by_cases hq : q = l
    · rw [hq, upd_same] at e; rw [hq, h2]; exact e
    · rw [upd_ne hq] at e; exact o.hg q v e
  · by_cases hi : k = i
    · subst hi
      rw [List.getElem?_set_self hk] at hs
      cases hs
      exact ⟨_, e, dd⟩
    · rw [List.getElem?_set_ne hi] at hs
      refine (o.sl i s hs).mono (same_new h1 _) fun l' e' ho g1 g2 => ⟨?_, rfl⟩
      have : l' ≠ l := fun z => hi (o.ap k i l ow (by rw [← z]; exact ⟨e', s, hs, ho⟩))
      rw [upd_ne this]; exact g1
theorem ed_ownVar {k : Nat} {x : Str} (hs : S[k]? = some (.own ds)) (hN : F.N[k]? = some x) (hv : ∀ i, Vis (F.X i).env.scope x) (hd : (x == ("__debug__" : Str)) = false := by decide) (hcd : (x == ("__classdict__" : Str)) = false := by decide) :
    ED F S (.Name x pos) (.list ds) (S.set k (.dat (.list ds))) := by
  refine .mk (t := tVar k) (fun i => pe_var (by rw [F.hN]; exact hN) (hv i) hd hcd) fun σ H G o Q kk => ?_
  obtain ⟨l, H', e, s, o', dd⟩ := o.freeze hs
  exact ⟨_, e, kk _ H' G s o' dd⟩

/-! #### argument lists, displays -/
theorem ad_nil : AD F S [] [] S := fun σ H G o Q k => ⟨tNil, fun _ => pa_nil, k [] H G Stp.refl o .nil⟩
theorem ad_cons (ha : ED F S e d S1) (hr : AD F S1 es ds S2) (hs : ∀ i, starEach (e :: es) (F.X i).env = (false, eval e (F.X i).env) :: starEach es (F.X i).env := by intro _; rfl) : AD F S (e :: es) (d :: ds) S2 := fun σ H G o Q k =>
  ⟨tCons (wE F e) (wA F es), fun i => pa_cons (wE_ok i) (wA_ok i) (hs i), ha σ H G o _ fun v H1 G1 s1 o1 d1 => hr σ H1 G1 o1 _ fun vs H2 G2 s2 o2 d2 => k (v :: vs) H2 G2 (s1.trans s2) o2 (.cons (Dp.mono s2.eh d1) d2)⟩
theorem ed_tup {x1} (ha : AD F S es ds S1) (hl : ds.length ≤ 100000 := by simp) : ED F S (.Tuple es x1 pos) (.tuple ds) S1 := .mk (t := tTup (wA F es)) (fun i => pe_tup (wA_ok i)) fun σ H G o Q k =>
  ha σ H G o _ fun vs H1 G1 s1 o1 d1 => ⟨small_le (by rw [DpAll.length d1]; exact hl), fun q hq => by
    obtain ⟨n, dd⟩ := new_tup o1.hg hq d1
    exact k _ _ _ (s1.trans n.stp) (o1.new n) dd⟩
theorem ld_lst (ha : AD F S es ds S1) (hl : ds.length ≤ 100000 := by simp) : LD F S (.List es pos) ds S1 := fun σ H G o Q k => ⟨tLst (wA F es), fun i => pe_lst (wA_ok i),
  ha σ H G o _ fun vs H1 G1 s1 o1 d1 => ⟨small_le (by rw [DpAll.length d1]; exact hl), fun q hq => by
    obtain ⟨n, on, hn, no⟩ := o1.lay (u := .lst vs) hq
    exact k q vs _ _ (s1.trans n) on (s1.free hq) hn no upd_same d1⟩⟩
theorem Stp.see {A A' : Addr → Prop} {l : Addr} {u : HO} (s : Stp A A' H G H' G') (g0 : G l = none) (h1 : H' l = none) : Stp A A' H G (upd H' l u) G' := by
  refine ⟨s.eh.trans (same_new h1 _), s.eg, fun a ha n hn => ?_, s.ow, s.th⟩
  have : a ≠ l := fun z => ha (by rw [z]; exact g0)
  rw [upd_ne this]; exact s.sep a ha n hn
/-- [..] * n -/
theorem ld_rep (ha : LD F S a xs S1) (hb : ED F S1 b (.int i) S2) (h0 : -(2 ^ 63) ≤ i) (h1 : i < 2 ^ 63) (hl : xs.length * i.toNat ≤ 100000) : LD F S (.BinOp a .Mult b pos) (List.replicate i.toNat xs).flatten S2 := fun σ H G o Q k =>
  ⟨tOp rRep (wE F a) (wE F b), fun n => pe_op op_rep (wE_ok n) (wE_ok n), ha σ H G o _ fun l vs H1 G1 s1 o1 g0 hn no hl1 d1 => by
    refine hb σ _ G1 (o1.see hn no hl1) _ fun v H2 G2 s2 o2 d2 => ?_
    cases d2
    have e2 : G2 l = some (.lst vs) := s2.eg l _ hl1 no
    refine ⟨l, i, vs, rfl, rfl, e2, h0, h1, small_le (by rw [DpAll.length d1]; exact hl), fun q hq => ?_⟩
    obtain ⟨n, on, hqn, no2⟩ := o2.lay (u := .lst (List.replicate i.toNat vs).flatten) hq
    have st := ((s1.see g0 hn).trans s2).trans n
    exact k q _ _ _ st on ((s1.see g0 hn (u := .lst vs)).trans s2 |>.free hq) hqn no2 upd_same (DpAll.rep (DpAll.mono ((same_new hn _).trans s2.eh) d1) _)⟩

/-! #### calls -/
/-- a def of one's own, by its name: what it promises, with how many calls deep -/
structure FnHas (P : Program) (w : World) (K : PySem.W.Frag) (mg : Str → Option Value) (base : Heap) (x : Str) (k : Nat) (sp : Sp) : Prop where
  ex : ∃ f fd ps, FnOk P w K mg base CX0 k f fd ps sp ∧ mg x = some (.ref f) ∧ PySem.W.keepIn K (.ref f) = true ∧ Binds K fd ps []
/-- on data: R says what it gives -/
def PSp (K : PySem.W.Frag) (R : List PyData → PyData → Prop) : Sp := fun vs G Q _ => ∃ H ds d, Same H G ∧ DpAll K H vs ds ∧ R ds d ∧ ∀ v H' G', New H G H' G' → Dp K H' v d → Q v G'
theorem ed_call {x : Str} {n : Nat} {R : List PyData → PyData → Prop} (h : FnHas F.P F.w F.K F.mg F.base x n (PSp F.K R)) (hr : Room n F.A) (hg : ∀ i, Gl (F.X i) x) (ha : AD F S (e :: es) ds S1) (hR : R ds d) (hdb : (x == ("__debug__" : Str)) = false := by decide)
    (he : ∀ i, starEach (e :: es) (F.X i).env = (false, eval e (F.X i).env) :: starEach es (F.X i).env := by intro _; rfl) (hpl : ∀ i, (backTo pos (starEach es (F.X i).env)).any (·.1) = false := by intro _; rfl) : ED F S (.Call (.Name x p) (e :: es) [] pos) d S1 := by
  obtain ⟨f, fd, ps, hF, hm, hk, hb⟩ := h.ex
  refine .mk (t := tCall (PSp F.K R) [] E0 (wA F (e :: es))) (fun i => pe_call (X := F.X i) (CX := CX0) (k := n) (f := f) (fd := fd) (ps := ps) (by rw [F.hP, F.hw, F.hK, F.hm, F.hb]; exact hF) (by rw [F.hA]; exact hr) (hg i) (by rw [F.hm]; exact hm) (by rw [F.hK]; exact hk) (by rw [F.hK]; exact hb) .nil pass0 (wA_ok i) hdb (he i) (hpl i)) fun σ H G o Q k => ?_
  refine ha σ H G o _ fun vs H1 G1 s1 o1 d1 => ⟨H1, ds, d, o1.hg, by rw [List.append_nil]; exact d1, hR, fun v H2 G2 n2 dd => k v H2 G2 (s1.trans n2.stp) (o1.new n2) dd⟩
/-- built-ins, by values -/
def CallD (F : Fam) (f : Value) (ds : List PyData) (d : PyData) : Prop := ∃ r, (∀ i, CallR (F.X i) f r) ∧ ∀ H G vs, Same H G → DpAll F.K H vs ds → ∀ Q : VK, (∀ v H' G', New H G H' G' → Dp F.K H' v d → Q v G') → r vs G Q
theorem CallD.ed {r : List V → Hp → VK → Prop} (ht : ∀ i, PE (F.X i) o (tCB r (wA F es))) (ha : AD F S es ds S1) (hr : ∀ H G vs, Same H G → DpAll F.K H vs ds → ∀ Q : VK, (∀ v H' G', New H G H' G' → Dp F.K H' v d → Q v G') → r vs G Q) : ED F S o d S1 :=
  .mk ht fun σ H G o Q k => ha σ H G o _ fun vs H1 G1 s1 o1 d1 => hr H1 G1 vs o1.hg d1 _ fun v H2 G2 n2 dd => k v H2 G2 (s1.trans n2.stp) (o1.new n2) dd
theorem ed_callB {x : Str} {id : String} (h : CallD F (.builtin id) ds d) (hg : ∀ i, Gl (F.X i) x) (hm : F.mg x = none) (hv : bootBuiltins x = some (.builtin id)) (ha : AD F S (e :: es) ds S1) (hn : x ≠ "__name__" := by decide) (hdb : (x == ("__debug__" : Str)) = false := by decide)
    (he : ∀ i, starEach (e :: es) (F.X i).env = (false, eval e (F.X i).env) :: starEach es (F.X i).env := by intro _; rfl) (hpl : ∀ i, (backTo pos (starEach es (F.X i).env)).any (·.1) = false := by intro _; rfl) : ED F S (.Call (.Name x p) (e :: es) [] pos) d S1 := by
  obtain ⟨r, h1, h2⟩ := h
  exact CallD.ed (fun i => pe_callB (h1 i) (hg i) (by rw [F.hm]; exact hm) hv (wA_ok i) hn hdb (he i) (hpl i)) ha h2
theorem ed_callTy {x : Str} {T : String} (h : CallD F (.type T) ds d) (hg : ∀ i, Gl (F.X i) x) (hm : F.mg x = none) (hv : bootBuiltins x = some (.type T)) (ha : AD F S (e :: es) ds S1) (hn : x ≠ "__name__" := by decide) (hdb : (x == ("__debug__" : Str)) = false := by decide)
    (he : ∀ i, starEach (e :: es) (F.X i).env = (false, eval e (F.X i).env) :: starEach es (F.X i).env := by intro _; rfl) (hpl : ∀ i, (backTo pos (starEach es (F.X i).env)).any (·.1) = false := by intro _; rfl) : ED F S (.Call (.Name x p) (e :: es) [] pos) d S1 := by
  obtain ⟨r, h1, h2⟩ := h
  exact CallD.ed (fun i => pe_callTy (h1 i) (hg i) (by rw [F.hm]; exact hm) hv (wA_ok i) hn hdb (he i) (hpl i)) ha h2
theorem dp1 {K : PySem.W.Frag} {vs : List V} (h : DpAll K H vs [d]) : ∃ v, vs = [v] ∧ Dp K H v d := by
  cases h with
  | cons a t => cases t; exact ⟨_, rfl, a⟩
theorem dp2 {K : PySem.W.Frag} {vs : List V} (h : DpAll K H vs [x, y]) : ∃ v u, vs = [v, u] ∧ Dp K H v x ∧ Dp K H u y := by
  cases h with
  | cons a t => cases t with | cons b t => cases t; exact ⟨_, _, rfl, a, b⟩
theorem c_lenT : CallD F (.builtin "len") [.tuple ds] (.int ds.length) := ⟨fun xs H Q => ∃ p ys, xs = [.ref p] ∧ (SqL F.K H p ys ∨ SqT F.K H p ys) ∧ Q (.int ys.length) H, fun i => by have := call_len_seq (X := F.X i); rw [F.hK] at this; exact this, fun H G vs h1 h2 Q k => by
  obtain ⟨v, rfl, h9⟩ := dp1 h2
  obtain ⟨q, us, rfl, q1, r1⟩ := tup_ref h9
  exact ⟨q, us, rfl, .inr (sqT_mono h1 q1), k _ H G (New.refl h1) (by rw [DpAll.length r1]; exact .int _)⟩⟩
theorem c_lenL : CallD F (.builtin "len") [.list ds] (.int ds.length) := ⟨fun xs H Q => ∃ p ys, xs = [.ref p] ∧ (SqL F.K H p ys ∨ SqT F.K H p ys) ∧ Q (.int ys.length) H, fun i => by have := call_len_seq (X := F.X i); rw [F.hK] at this; exact this, fun H G vs h1 h2 Q k => by
  obtain ⟨v, rfl, h9⟩ := dp1 h2
  obtain ⟨q, us, rfl, q1, r1⟩ := lst_ref h9
  exact ⟨q, us, rfl, .inl (h1.seq q1), k _ H G (New.refl h1) (by rw [DpAll.length r1]; exact .int _)⟩⟩
theorem c_sum {ns : List Int} : CallD F (.builtin "sum") [.list (ns.map .int)] (.int ns.sum) := ⟨rSum F.K, fun i => by have := cr_sum (F.calm i); rw [F.hK] at this; exact this, fun H G vs h1 h2 Q k => by
  obtain ⟨v, rfl, h9⟩ := dp1 h2
  obtain ⟨q, us, rfl, q1, r1⟩ := lst_ref h9
  cases DpAll.ints r1
  exact ⟨q, ns, rfl, h1.seq q1, k _ H G (New.refl h1) (.int _)⟩⟩
theorem c_max {ns : List Int} {m : Int} (h0 : m ∈ ns) (h1 : ∀ y, y ∈ ns → y ≤ m) : CallD F (.builtin "max") [.list (ns.map .int)] (.int m) := ⟨rMax F.K, fun i => by have := cr_max (F.calm i); rw [F.hK] at this; exact this, fun H G vs g1 h2 Q k => by
  obtain ⟨v, rfl, h9⟩ := dp1 h2
  obtain ⟨q, us, rfl, q1, r1⟩ := lst_ref h9
  cases DpAll.ints r1
  refine ⟨q, ns, rfl, g1.seq q1, List.length_pos_of_mem h0, fun m' hm hle => ?_⟩
  have : m' = m := Int.le_antisymm (h1 m' hm) (hle m h0)
  rw [this]
  exact k _ H G (New.refl g1) (.int _)⟩
theorem c_all {ns : List Bool} : CallD F (.builtin "all") [.list (ns.map .bool)] (.bool (ns.all id)) := ⟨rAll F.K, fun i => by have := cr_all (F.calm i); rw [F.hK] at this; exact this, fun H G vs h1 h2 Q k => by
  obtain ⟨v, rfl, h9⟩ := dp1 h2
  obtain ⟨q, us, rfl, q1, r1⟩ := lst_ref h9
  cases DpAll.bls r1
  exact ⟨q, ns, rfl, h1.seq q1, k _ H G (New.refl h1) (.bl _)⟩⟩
theorem c_min2 : CallD F (.builtin "min") [.int i, .int j] (.int (min i j)) := ⟨_, fun n => call_min2 (F.calm n), fun H G vs h1 h2 Q k => by
  obtain ⟨v, u, rfl, h2, h3⟩ := dp2 h2
  cases h2; cases h3
  refine ⟨i, j, rfl, ?_⟩
  have e : (if j < i then j else i) = min i j := by rw [Int.min_def]; split <;> split <;> omega
  rw [e]
  exact k _ H G (New.refl h1) (.int _)⟩
theorem c_max2 : CallD F (.builtin "max") [.int i, .int j] (.int (max i j)) := ⟨_, fun n => call_max2 (F.calm n), fun H G vs h1 h2 Q k => by
  obtain ⟨v, u, rfl, h2, h3⟩ := dp2 h2
  cases h2; cases h3
  refine ⟨i, j, rfl, ?_⟩
  have e : (if j > i then j else i) = max i j := by rw [Int.max_def]; split <;> split <;> omega
  rw [e]
  exact k _ H G (New.refl h1) (.int _)⟩
theorem c_abs : CallD F (.builtin "abs") [.int i] (.int i.natAbs) := ⟨_, fun n => call_abs, fun H G vs h1 h2 Q k => by
  obtain ⟨v, rfl, h9⟩ := dp1 h2
  cases h9
  refine ⟨i, rfl, ?_⟩
  have e : (if i < 0 then -i else i) = (i.natAbs : Int) := by split <;> omega
  rw [e]
  exact k _ H G (New.refl h1) (.int _)⟩
theorem c_tupL : CallD F (.type "tuple") [.list ds] (.tuple ds) := ⟨fun xs H Q => ∃ p ys, xs = [.ref p] ∧ ((SqL F.K H p ys ∧ ∀ l, H l = none → Q (.ref l) (upd H l (.tup ys))) ∨ (SqT F.K H p ys ∧ Q (.ref p) H)), fun i => by have := call_tuple_of (X := F.X i); rw [F.hK] at this; exact this, fun H G vs h1 h2 Q k => by
  obtain ⟨v, rfl, h9⟩ := dp1 h2
  obtain ⟨q, us, rfl, q1, r1⟩ := lst_ref h9
  refine ⟨q, us, rfl, .inl ⟨h1.seq q1, fun l hl => ?_⟩⟩
  obtain ⟨n, dd⟩ := new_tup h1 hl r1
  exact k _ _ _ n dd⟩
theorem c_divmod (h : CDiv i j) : CallD F (.builtin "divmod") [.int i, .int j] (.tuple [.int (i / j), .int (i % j)]) := ⟨_, fun n => call_divmod, fun H G vs h1 h2 Q k => by
  obtain ⟨v, u, rfl, h2, h3⟩ := dp2 h2
  cases h2; cases h3
  refine ⟨i, j, rfl, h, fun q hq => ?_⟩
  obtain ⟨n, dd⟩ := new_tup (K := F.K) (ds := [.int (i / j), .int (i % j)]) h1 hq (.cons (.int _) (.cons (.int _) .nil))
  exact k _ _ _ n dd⟩
/-- isinstance(x, T), T a built-in type -/
def tyN : PyData → String
  | .none => "NoneType"
  | .bool _ => "bool"
  | .int _ => "int"
  | .str _ => "str"
  | .list _ => "list"
  | .tuple _ => "tuple"
  | .dict _ => "dict"
theorem tyX {K : PySem.W.Frag} {v : V} (h : Dp K H v d) : TyX K H v (.type (tyN d)) := by
  cases h with
  | non => exact .base .non
  | bl b => exact .base (.bl b)
  | int b => exact .base (.int b)
  | str b => exact .base (.str b)
  | lst a _ =>
    rcases a with (a | ⟨o, a⟩) | ⟨o, its, n, h1, h2, _⟩
    · exact .base (.lst a)
    · exact .base (.frz a)
    · exact .kList h1 h2
  | tup a _ =>
    rcases a with (a | ⟨o, a⟩) | ⟨o, its, n, h1, h2, _⟩
    · exact .base (.tup a)
    · exact .fTuple a
    · exact .kTuple h1 h2
theorem ed_isi {T : String} {x : Str} {q1 q2 : Pos} {c : Bool} (ha : ED F S a d S1) (hg : ∀ i, Gl (F.X i) "isinstance") (hm : F.mg "isinstance" = none) (hg2 : ∀ i, Gl (F.X i) x) (hm2 : F.mg x = none) (hv : bootBuiltins "isinstance" = some (.builtin "isinstance")) (hv2 : bootBuiltins x = some (.type T)) (hk : kitB (tyN d) T = some c)
    (hn : x ≠ "__name__" := by decide) (hdb : (x == ("__debug__" : Str)) = false := by decide)
    (he : ∀ i, starEach [a, .Name x q2] (F.X i).env = (false, eval a (F.X i).env) :: starEach [.Name x q2] (F.X i).env := by intro _; rfl) (he2 : ∀ i, starEach [.Name x q2] (F.X i).env = (false, eval (.Name x q2) (F.X i).env) :: starEach [] (F.X i).env := by intro _; rfl) (hpl : ∀ i, (backTo pos (starEach [.Name x q2] (F.X i).env)).any (·.1) = false := by intro _; rfl) :
    ED F S (.Call (.Name "isinstance" q1) [a, .Name x q2] [] pos) (.bool c) S1 := by
  refine .mk (t := tCB (rIsi F.K) (tCons (wE F a) (tCons (tC (.ty T)) tNil))) (fun i => ?_) fun σ H G o Q k => ha σ H G o _ fun v H1 G1 s1 o1 d1 => ⟨v, .ty T, _, _, c, rfl, .ty T, tyX (Dp.mono o1.hg d1), kit_ty hk, k _ H1 G1 s1 o1 (.bl c)⟩
  have h1 := call_isi (X := F.X i)
  rw [F.hK] at h1
  exact pe_callB h1 (hg i) (by rw [F.hm]; exact hm) hv (pa_cons (wE_ok i) (pa_cons (pe_bltn (hg2 i) (by rw [F.hm]; exact hm2) hv2 rfl hn hdb) pa_nil (he2 i)) (he i)) (by decide) (by decide) (he i) (hpl i)
end
end Sk


set_option Elab.async false
set_option linter.all false
set_option maxRecDepth 100000
set_option maxHeartbeats 4000000
namespace Sk
open PySem L2
section
variable {F : Fam} {S S1 S2 S3 S' : List Sl} {e a b o : Expr} {es rest : List Expr} {d x y z : PyData} {ds xs ys : List PyData} {pos p : Pos} {i j : Int} {σ σ' : L2.St} {H G H' G' : Hp} {u v w : Bool}

/-! #### and, or, not: values and tests -/
theorem ed_one {op} (h : ED F S a d S1) : ED F S (.BoolOp op [a] pos) d S1 := .mk (t := wE F a) (fun i => pe_one (wE_ok i)) fun σ H G o Q k => h σ H G o Q k
theorem ed_andF (h : ED F S a (.bool u) S1) (hu : u = false := by rfl) : ED F S (.BoolOp .And (a :: b :: rest) pos) (.bool false) S1 := .mk (t := tAndV (wE F a) (wE F (.BoolOp .And (b :: rest) pos))) (fun i => pe_and (wE_ok i) (wE_ok i)) fun σ H G o Q k =>
  h σ H G o _ fun v H1 G1 s1 o1 d1 => by subst hu; cases d1; exact ⟨false, rfl, iteF (k _ H1 G1 s1 o1 (.bl _))⟩
theorem ed_andT (h : ED F S a (.bool u) S1) (h2 : ED F S1 (.BoolOp .And (b :: rest) pos) d S2) (hu : u = true := by rfl) : ED F S (.BoolOp .And (a :: b :: rest) pos) d S2 := .mk (t := tAndV (wE F a) (wE F (.BoolOp .And (b :: rest) pos))) (fun i => pe_and (wE_ok i) (wE_ok i)) fun σ H G o Q k =>
  h σ H G o _ fun v H1 G1 s1 o1 d1 => by subst hu; cases d1; exact ⟨true, rfl, iteT (h2 σ H1 G1 o1 _ fun v H2 G2 s2 o2 d2 => k _ H2 G2 (s1.trans s2) o2 d2)⟩
theorem ed_orT (h : ED F S a (.bool u) S1) (hu : u = true := by rfl) : ED F S (.BoolOp .Or (a :: b :: rest) pos) (.bool true) S1 := .mk (t := tOrV (wE F a) (wE F (.BoolOp .Or (b :: rest) pos))) (fun i => pe_or (wE_ok i) (wE_ok i)) fun σ H G o Q k =>
  h σ H G o _ fun v H1 G1 s1 o1 d1 => by subst hu; cases d1; exact ⟨true, rfl, iteT (k _ H1 G1 s1 o1 (.bl _))⟩
theorem ed_orF (h : ED F S a (.bool u) S1) (h2 : ED F S1 (.BoolOp .Or (b :: rest) pos) d S2) (hu : u = false := by rfl) : ED F S (.BoolOp .Or (a :: b :: rest) pos) d S2 := .mk (t := tOrV (wE F a) (wE F (.BoolOp .Or (b :: rest) pos))) (fun i => pe_or (wE_ok i) (wE_ok i)) fun σ H G o Q k =>
  h σ H G o _ fun v H1 G1 s1 o1 d1 => by subst hu; cases d1; exact ⟨false, rfl, iteF (h2 σ H1 G1 o1 _ fun v H2 G2 s2 o2 d2 => k _ H2 G2 (s1.trans s2) o2 d2)⟩
theorem ed_not (h : ED F S a (.bool v) S1) : ED F S (.UnaryOp .Not a pos) (.bool (!v)) S1 := .mk (t := tNotV (wE F a)) (fun i => pe_not (wE_ok i)) fun σ H G o Q k =>
  h σ H G o _ fun v H1 G1 s1 o1 d1 => by cases d1; exact ⟨_, rfl, k _ H1 G1 s1 o1 (.bl _)⟩
/-- both, the answers known ahead -/
theorem ed_and2 {v w : Bool} (h : ED F S a (.bool v) S) (h2 : v = true → ED F S b (.bool w) S) : ED F S (.BoolOp .And [a, b] pos) (.bool (v && w)) S := by
  cases v with
  | false => exact ed_andF h
  | true => exact ed_andT h (ed_one (h2 rfl))
theorem td_val (h : ED F S e (.bool v) S1) (he : ∀ i whole, isTrue e (F.X i).env whole = (do let v ← whole; standAt e.pos; holding [v] (truthy v)) := by intro _ _; rfl) : TD F S e v S1 := .mk (t := tB (wE F e)) (fun i => pt_val (wE_ok i) (he i)) fun σ H G o Q k =>
  h σ H G o _ fun v H1 G1 s1 o1 d1 => by cases d1; exact ⟨_, rfl, k H1 G1 s1 o1⟩
theorem td_not (h : TD F S a v S1) : TD F S (.UnaryOp .Not a pos) (!v) S1 := .mk (t := tNot (wT F a)) (fun i => pt_not (wT_ok i)) fun σ H G o Q k => h σ H G o _ fun H1 G1 s1 o1 => k H1 G1 s1 o1
theorem td_ww (h : WD F S e v S1) : TD F S e v S1 := .mk (t := wW F e) (fun i => (wW_ok i).pt) fun σ H G o Q k => h σ H G o _ k
theorem wd_and1 (h : TD F S a v S1) : WD F S (.BoolOp .And [a] pos) v S1 := fun σ H G o Q k => ⟨wT F a, fun i => pw_and1 (wT_ok i), h σ H G o Q k⟩
theorem wd_or1 (h : TD F S a v S1) : WD F S (.BoolOp .Or [a] pos) v S1 := fun σ H G o Q k => ⟨wT F a, fun i => pw_or1 (wT_ok i), h σ H G o Q k⟩
theorem wd_andF (h : TD F S a u S1) (hu : u = false := by rfl) : WD F S (.BoolOp .And (a :: b :: rest) pos) false S1 := fun σ H G o Q k => ⟨tAnd (wT F a) (wW F (.BoolOp .And (b :: rest) pos)), fun i => pw_and (wT_ok i) (wW_ok i),
  h σ H G o _ fun H1 G1 s1 o1 => by subst hu; exact iteF (k H1 G1 s1 o1)⟩
theorem wd_andT (h : TD F S a u S1) (h2 : WD F S1 (.BoolOp .And (b :: rest) pos) v S2) (hu : u = true := by rfl) : WD F S (.BoolOp .And (a :: b :: rest) pos) v S2 := fun σ H G o Q k => ⟨tAnd (wT F a) (wW F (.BoolOp .And (b :: rest) pos)), fun i => pw_and (wT_ok i) (wW_ok i),
  h σ H G o _ fun H1 G1 s1 o1 => by subst hu; exact iteT (h2 σ H1 G1 o1 _ fun H2 G2 s2 o2 => k H2 G2 (s1.trans s2) o2)⟩
theorem wd_orT (h : TD F S a u S1) (hu : u = true := by rfl) : WD F S (.BoolOp .Or (a :: b :: rest) pos) true S1 := fun σ H G o Q k => ⟨tOr (wT F a) (wW F (.BoolOp .Or (b :: rest) pos)), fun i => pw_or (wT_ok i) (wW_ok i),
  h σ H G o _ fun H1 G1 s1 o1 => by subst hu; exact iteT (k H1 G1 s1 o1)⟩
theorem wd_orF (h : TD F S a u S1) (h2 : WD F S1 (.BoolOp .Or (b :: rest) pos) v S2) (hu : u = false := by rfl) : WD F S (.BoolOp .Or (a :: b :: rest) pos) v S2 := fun σ H G o Q k => ⟨tOr (wT F a) (wW F (.BoolOp .Or (b :: rest) pos)), fun i => pw_or (wT_ok i) (wW_ok i),
  h σ H G o _ fun H1 G1 s1 o1 => by subst hu; exact iteF (h2 σ H1 G1 o1 _ fun H2 G2 s2 o2 => k H2 G2 (s1.trans s2) o2)⟩
theorem wd_and (h : TD F S a u S) (h2 : u = true → WD F S (.BoolOp .And (b :: rest) pos) v S) (hf : u = false → v = false) : WD F S (.BoolOp .And (a :: b :: rest) pos) v S := by
  cases u with
  | false => rw [hf rfl]; exact wd_andF h
  | true => exact wd_andT h (h2 rfl)

/-! #### targets -/
theorem Ok.put {K : PySem.W.Frag} {bx : Addr} (o : Ok K bx σ H G S) {k : Nat} {v : V} (hk : k < S.length) (hd : Dp K H v d) : Ok K bx (σ.set k (some v)) H G (S.set k (.dat d)) ∧ Stp (Own σ S) (Own (σ.set k (some v)) (S.set k (.dat d))) H G H G := by
  have hk' : k < σ.length := by rw [o.len]; exact hk
  have sub : ∀ i q, OwnAt (σ.set k (some v)) (S.set k (.dat d)) i q → OwnAt σ S i q := fun i q ⟨q1, s, q2, q3⟩ => by
    by_cases hi : k = i
    · subst hi
      rw [List.getElem?_set_self hk] at q2
      cases q2
      exact q3.elim
    · rw [List.getElem?_set_ne hi] at q1 q2
      exact ⟨q1, s, q2, q3⟩
  refine ⟨⟨o.hg, by rw [List.length_set, List.length_set]; exact o.len, fun i s hs => ?_, fun i j q z z' => o.ap i j q (sub i q z) (sub j q z')⟩, ⟨Same.refl _, fun _ _ h _ => h, fun _ _ _ h => h, fun q ⟨i, z⟩ => .inl ⟨i, sub i q z⟩, fun _ h => h⟩⟩
  by_cases hi : k = i
  · subst hi
    rw [List.getElem?_set_self hk] at hs
    cases hs
    exact ⟨v, List.getElem?_set_self hk', hd⟩
  · rw [List.getElem?_set_ne hi] at hs
    rw [List.getElem?_set_ne hi]
    exact o.sl i s hs
theorem kept_set {W : Nat → Prop} {k : Nat} {v : Option V} (h : W k) : Kept W σ (σ.set k v) := fun i hi => by
  have : k ≠ i := fun z => hi (z ▸ h)
  rw [List.getElem?_set_ne this]
theorem gd_name {W : Nat → Prop} {k : Nat} {x : Str} (hk : k < S.length) (hN : F.N[k]? = some x) (hx : ∀ i, Loc (F.X i).env.scope x) (hf : ∀ i, (F.X i).fn x = true ∨ (F.X i).env.scope.names.lookup x = some .local) (hw : W k) : GD F W S (.Name x pos) d (S.set k (.dat d)) := fun σ H G v o hd Q kk => by
  refine ⟨gName k, fun i => pg_name (by rw [F.hN]; exact F.nd) (by rw [F.hN]; exact hN) (hx i) (hf i), ?_⟩
  obtain ⟨o', s'⟩ := o.put hk hd
  exact kk _ H G (kept_set hw) s' o'
theorem gsd_nil {W : Nat → Prop} : GsD F W S [] [] S := fun σ H G vs o hd Q k => by
  cases hd
  exact ⟨gNil, fun i => pgs_nil, rfl, k σ H G Kept.refl Stp.refl o⟩
theorem gsd_cons {W : Nat → Prop} (h1 : GD F W S e d S1) (h2 : GsD F W S1 es ds S2) (hs : ∀ i, (assignEach (e :: es) (F.X i).env).map (·.2) = assign e (F.X i).env :: (assignEach es (F.X i).env).map (·.2) := by intro _; rfl) : GsD F W S (e :: es) (d :: ds) S2 := fun σ H G vs o hd Q k => by
  cases hd with
  | cons a t =>
    refine ⟨gCons (wG F e) (wGs F es), fun i => pgs_cons (wG_ok i) (wGs_ok i) (hs i), _, _, rfl, h1 σ H G _ o a _ fun σ1 H1 G1 k1 s1 o1 => ?_⟩
    exact h2 σ1 H1 G1 _ o1 (DpAll.mono s1.eh t) _ fun σ2 H2 G2 k2 s2 o2 => k σ2 H2 G2 (k1.trans k2) (s1.trans s2) o2
theorem gd_tup {W : Nat → Prop} {k : Nat} (h : GsD F W S es ds S1) (hn : ∀ i, (assignEach es (F.X i).env).length = ds.length := by intro _; rfl) (hst : ∀ i, (assignEach es (F.X i).env).findIdx? (·.1) = none := by intro _; rfl) : GD F W S (.Tuple es k pos) (.tuple ds) S1 := fun σ H G v o hd Q kk => by
  refine ⟨gTup F.K ds.length (wGs F es), fun i => by have := pg_tup (F.calm i) (wGs_ok i) (hn i) (hst i) (k := k) (pos := pos); rw [F.hK] at this; exact this, ?_⟩
  obtain ⟨q, us, rfl, q1, r1⟩ := tup_ref hd
  exact ⟨q, us, rfl, sqT_mono o.hg q1, DpAll.length r1, h σ H G us o r1 Q kk⟩
theorem gd_lst {W : Nat → Prop} {k : Nat} (h : GsD F W S es ds S1) (hn : ∀ i, (assignEach es (F.X i).env).length = ds.length := by intro _; rfl) (hst : ∀ i, (assignEach es (F.X i).env).findIdx? (·.1) = none := by intro _; rfl) : GD F W S (.Tuple es k pos) (.list ds) S1 := fun σ H G v o hd Q kk => by
  refine ⟨gUnl F.K ds.length (wGs F es), fun i => by have := pg_unl (F.calm i) (wGs_ok i) (hn i) (hst i) (k := k) (pos := pos); rw [F.hK] at this; exact this, ?_⟩
  obtain ⟨q, us, rfl, q1, r1⟩ := lst_ref hd
  exact ⟨q, us, rfl, o.hg.seq q1, DpAll.length r1, h σ H G us o r1 Q kk⟩

/-! #### statements -/
variable {P : Po} {s : Stmt} {ss A B : List Stmt}
theorem SD.mk {t : TS} (ht : ∀ i, PS (F.X i) s t) (h : ∀ σ H G, Ok F.K F.bx σ H G S → ∀ D, Meets F P D σ H G S → t D σ G) : SD F S s P := fun σ H G o D m => ⟨t, ht, h σ H G o D m⟩
theorem Meets1.at {q : List Sl → Prop} {W : Nat → Prop} {D : L2.St → Hp → Prop} (m : Meets1 F q W D σ H G S) (k : Kept W σ σ') (s : Stp (Own σ S) (Own σ' S') H G H' G') : Meets1 F q W D σ' H' G' S' := fun σ2 H2 G2 S2 h k2 s2 o2 => m σ2 H2 G2 S2 h (k.trans k2) (s.trans s2) o2
theorem Meets.at {D : Ends} (m : Meets F P D σ H G S) (k : Kept P.wr σ σ') (s : Stp (Own σ S) (Own σ' S') H G H' G') : Meets F P D σ' H' G' S' :=
  ⟨m.nx.at k s, fun d v σ2 H2 G2 S2 h s2 o2 hd => m.rt d v σ2 H2 G2 S2 h (s.trans s2) o2 hd, m.bk.at k s, m.ct.at k s, fun ds l vs σ2 H2 G2 S2 h s2 o2 g0 h1 no hl hd => m.rl ds l vs σ2 H2 G2 S2 h (s.trans s2) o2 (s.free g0) h1 no hl hd⟩
theorem Meets.next {D : Ends} {M : List Sl → Prop} {Dn : L2.St → Hp → Prop} (m : Meets F P D σ H G S) (h : Meets1 F M P.wr Dn σ H G S) : Meets F { P with nx := M } { D with nx := Dn } σ H G S := ⟨h, m.rt, m.bk, m.ct, m.rl⟩
theorem bd_nil (h : P.nx S) : BD F S [] P := fun σ H G o D m => ⟨tNext, fun _ => pss_nil, m.nx σ H G S h Kept.refl Stp.refl o⟩
theorem bd_cons {M : List Sl → Prop} (h : SD F S s { P with nx := M }) (h2 : ∀ S', M S' → BD F S' ss P) : BD F S (s :: ss) P := fun σ H G o D m =>
  ⟨tSeq (wS F s) (wB F ss), fun i => pss_cons (wS_ok i) (wB_ok i), h σ H G o _ (m.next fun σ1 H1 G1 S1 hm k1 s1 o1 => h2 S1 hm σ1 H1 G1 o1 D (m.at k1 s1))⟩
theorem sd_imp {P' : Po} (h : SD F S s P) (hn : ∀ S, P.nx S → P'.nx S) (hr : ∀ d S, P.rt d S → P'.rt d S) (hl : ∀ ds, P.rl ds → P'.rl ds) (hb : ∀ S, P.bk S → P'.bk S) (hc : ∀ S, P.ct S → P'.ct S) (hw : ∀ k, P.wr k → P'.wr k) : SD F S s P' := fun σ H G o D m =>
  have kk : ∀ {σ' : L2.St}, Kept P.wr σ σ' → Kept P'.wr σ σ' := fun k i hi => k i fun z => hi (hw i z)
  h σ H G o D ⟨fun σ' H' G' S' hp k s o => m.nx σ' H' G' S' (hn _ hp) (kk k) s o, fun d v σ' H' G' S' hp s o hd => m.rt d v σ' H' G' S' (hr _ _ hp) s o hd, fun σ' H' G' S' hp k s o => m.bk σ' H' G' S' (hb _ hp) (kk k) s o, fun σ' H' G' S' hp k s o => m.ct σ' H' G' S' (hc _ hp) (kk k) s o, fun ds l vs σ' H' G' S' hp s o => m.rl ds l vs σ' H' G' S' (hl _ hp) s o⟩
theorem sd_asg {tg : Expr} (he : ED F S e d S1) (hg : GD F P.wr S1 tg d S2) (hn : P.nx S2) (hs : ∀ i, swapsWithSole [tg] e pos.line (F.X i).env = pure false := by intro _; rfl) (hw : ∀ i, swappedStores [tg] e (F.X i).env = pure none := by intro _; rfl)
    (h1 : ∀ i, (assignEach [tg] (F.X i).env).map (·.2) = [assign tg (F.X i).env] := by intro _; rfl) : SD F S (.Assign [tg] e pos) P := .mk (t := tAsg (wE F e) (wG F tg)) (fun i => ps_asg (wE_ok i) (wG_ok i) (hs i) (hw i) (h1 i)) fun σ H G o D m =>
  he σ H G o _ fun v H1 G1 s1 o1 d1 => hg σ H1 G1 v o1 d1 _ fun σ2 H2 G2 k2 s2 o2 => m.nx σ2 H2 G2 S2 hn k2 (s1.trans s2) o2
/-- name = e -/
theorem sd_set {k : Nat} {x : Str} {pn : Pos} (he : ED F S e d S1) (hn : P.nx (S1.set k (.dat d))) (hk : k < S1.length := by first | exact Nat.le_of_ble_eq_true rfl | simp) (hN : F.N[k]? = some x := by rfl) (hx : ∀ i, Loc (F.X i).env.scope x := by first | exact fun _ => .inl rfl | exact fun _ => .inr rfl) (hw : P.wr k := by trivial)
    (hs : ∀ i, swapsWith e (some (.Name x pn)) pos.line (F.X i).env = pure false := by intro _; rfl) (hf : ∀ i, (F.X i).fn x = true ∨ (F.X i).env.scope.names.lookup x = some .local := by first | exact fun _ => .inl rfl | exact fun _ => .inr rfl) : SD F S (.Assign [.Name x pn] e pos) P :=
  .mk (t := tAsg (wE F e) (gName k)) (fun i => ps_set (by rw [F.hN]; exact F.nd) (by rw [F.hN]; exact hN) (hx i) (wE_ok i) (hs i) (hf i)) fun σ H G o D m =>
    he σ H G o _ fun v H1 G1 s1 o1 d1 => by
      obtain ⟨o', s'⟩ := o1.put hk d1
      exact m.nx _ H1 G1 _ hn (kept_set hw) (s1.trans s') o'
/-- name = a new list, one's own from now on -/
theorem Ok.putOwn {K : PySem.W.Frag} {bx l : Addr} {vs : List V} (o : Ok K bx σ H G S) {k : Nat} (hk : k < S.length) (hn : H l = none) (no : ¬ Own σ S l) (hl : G l = some (.lst vs)) (hd : DpAll K H vs ds) :
    Ok K bx (σ.set k (some (.ref l))) H G (S.set k (.own ds)) ∧ ∀ q, Own (σ.set k (some (.ref l))) (S.set k (.own ds)) q → Own σ S q ∨ q = l := by
  have hk' : k < σ.length := by rw [o.len]; exact hk
  have sub : ∀ i q, OwnAt (σ.set k (some (.ref l))) (S.set k (.own ds)) i q → (i = k ∧ q = l) ∨ (i ≠ k ∧ OwnAt σ S i q) := fun i q ⟨q1, s, q2, q3⟩ => by
    by_cases hi : k = i
    · subst hi
      rw [List.getElem?_set_self hk'] at q1
      cases q1
      exact .inl ⟨rfl, rfl⟩
    · rw [List.getElem?_set_ne hi] at q1 q2
      exact .inr ⟨fun z => hi z.symm, q1, s, q2, q3⟩
  refine ⟨⟨o.hg, by rw [List.length_set, List.length_set]; exact o.len, fun i s hs => ?_, fun i j q z z' => ?_⟩, fun q ⟨i, z⟩ => ?_⟩
  · by_cases hi : k = i
    · subst hi
      rw [List.getElem?_set_self hk] at hs
      cases hs
      exact ⟨l, vs, List.getElem?_set_self hk', hn, hl, hd⟩
    · rw [List.getElem?_set_ne hi] at hs
      rw [List.getElem?_set_ne hi]
      exact o.sl i s hs
  · rcases sub i q z with ⟨e1, e2⟩ | ⟨n1, w1⟩
    · rcases sub j q z' with ⟨e3, e4⟩ | ⟨n2, w2⟩
      · rw [e1, e3]
      · exact absurd ⟨j, by rw [← e2]; exact w2⟩ no
    · rcases sub j q z' with ⟨e3, e4⟩ | ⟨n2, w2⟩
      · exact absurd ⟨i, by rw [← e4]; exact w1⟩ no
      · exact o.ap i j q w1 w2
  · rcases sub i q z with ⟨_, e⟩ | ⟨_, w⟩
    · exact .inr e
    · exact .inl ⟨i, w⟩
theorem own_step {k : Nat} {l : Addr} {vs : List V} (s1 : Stp (Own σ S) (Own σ S1) H G H' G') (o1 : Ok F.K F.bx σ H' G' S1) (g0 : G l = none) (hn : H' l = none) (no : ¬ Own σ S1 l) (hl : G' l = some (.lst vs)) (hd : DpAll F.K H' vs ds) (hk : k < S1.length) :
    Stp (Own σ S) (Own (σ.set k (some (.ref l))) (S1.set k (.own ds))) H G H' G' ∧ Ok F.K F.bx (σ.set k (some (.ref l))) H' G' (S1.set k (.own ds)) := by
  obtain ⟨o2, w⟩ := o1.putOwn hk hn no hl hd
  refine ⟨⟨s1.eh, s1.eg, s1.sep, fun q hq => ?_, s1.th⟩, o2⟩
  rcases w q hq with z | z
  · exact s1.ow q z
  · exact .inr (by rw [z]; exact g0)
theorem sd_own {k : Nat} {x : Str} {pn : Pos} (he : LD F S e ds S1) (hn : P.nx (S1.set k (.own ds))) (hk : k < S1.length := by first | exact Nat.le_of_ble_eq_true rfl | simp) (hN : F.N[k]? = some x := by rfl) (hx : ∀ i, Loc (F.X i).env.scope x := by first | exact fun _ => .inl rfl | exact fun _ => .inr rfl) (hw : P.wr k := by trivial)
    (hs : ∀ i, swapsWith e (some (.Name x pn)) pos.line (F.X i).env = pure false := by intro _; rfl) (hf : ∀ i, (F.X i).fn x = true ∨ (F.X i).env.scope.names.lookup x = some .local := by first | exact fun _ => .inl rfl | exact fun _ => .inr rfl) : SD F S (.Assign [.Name x pn] e pos) P :=
  .mk (t := tAsg (wE F e) (gName k)) (fun i => ps_set (by rw [F.hN]; exact F.nd) (by rw [F.hN]; exact hN) (hx i) (wE_ok i) (hs i) (hf i)) fun σ H G o D m =>
    he σ H G o _ fun l vs H1 G1 s1 o1 g0 h1 no hl hd => by
      obtain ⟨s2, o2⟩ := own_step s1 o1 g0 h1 no hl hd hk
      exact m.nx _ H1 G1 _ hn (kept_set hw) s2 o2
theorem sd_ret (he : ED F S e d S1) (hr : P.rt d S1) : SD F S (.Return (some e) pos) P := .mk (t := tRet (wE F e)) (fun i => ps_ret (wE_ok i)) fun σ H G o D m => he σ H G o _ fun v H1 G1 s1 o1 d1 => m.rt d v σ H1 G1 S1 hr s1 o1 d1
theorem sd_retL (he : LD F S e ds S1) (hr : P.rl ds) : SD F S (.Return (some e) pos) P := .mk (t := tRet (wE F e)) (fun i => ps_ret (wE_ok i)) fun σ H G o D m => he σ H G o _ fun l vs H1 G1 s1 o1 g0 h1 no hl hd => m.rl ds l vs σ H1 G1 S1 hr s1 o1 g0 h1 no hl hd
theorem sd_if {c : Expr} (hc : TD F S c v S1) (h1 : v = true → BD F S1 A P) (h2 : v = false → BD F S1 B P) : SD F S (.If c A B pos) P := .mk (t := tIfS (wT F c) (wB F A) (wB F B)) (fun i => ps_if (wT_ok i) (wB_ok i) (wB_ok i)) fun σ H G o D m =>
  hc σ H G o _ fun H1 G1 s1 o1 => by
    cases v with
    | true => exact iteT (h1 rfl σ H1 G1 o1 D (m.at Kept.refl s1))
    | false => exact iteF (h2 rfl σ H1 G1 o1 D (m.at Kept.refl s1))
theorem sd_drop (he : ED F S e d S1) (hn : P.nx S1) (hs : ∀ i, swapsWith e none pos.line (F.X i).env = pure false := by intro _; rfl) : SD F S (.Expr e pos) P := .mk (t := tDrop (wE F e)) (fun i => ps_expr (wE_ok i) (hs i)) fun σ H G o D m =>
  he σ H G o _ fun v H1 G1 s1 o1 d1 => m.nx σ H1 G1 S1 hn Kept.refl s1 o1
theorem sd_pass (hn : P.nx S) : SD F S (.Pass pos) P := .mk (t := tNext) (fun i => ps_pass) fun σ H G o D m => m.nx σ H G S hn Kept.refl Stp.refl o
end
end Sk


set_option Elab.async false
set_option linter.all false
set_option maxRecDepth 100000
set_option maxHeartbeats 4000000
namespace Sk
open PySem L2
section
variable {F : Fam} {S S1 S2 S3 S' : List Sl} {e a b o : Expr} {es rest : List Expr} {d x y z : PyData} {ds xs ys : List PyData} {pos p : Pos} {i j : Int} {σ σ' : L2.St} {H G H' G' : Hp} {u v w : Bool} {P : Po} {s : Stmt} {ss A B : List Stmt}

/-! #### a list of one's own changes -/
theorem Ok.write {K : PySem.W.Frag} {bx l : Addr} {vs : List V} (o : Ok K bx σ H G S) {k : Nat} (hs : S[k]? = some (.own ys)) (e : σ[k]? = some (some (.ref l))) (hd : DpAll K H vs ds) : Ok K bx σ H (upd G l (.lst vs)) (S.set k (.own ds)) ∧ Stp (Own σ S) (Own σ (S.set k (.own ds))) H G H (upd G l (.lst vs)) := by
  obtain ⟨l', vs', e', h1, h2, h3, ow⟩ := o.own hs
  rw [e] at e'; cases e'
  have hk : k < S.length := (List.getElem?_eq_some_iff.mp hs).1
  have sub : ∀ i q, OwnAt σ (S.set k (.own ds)) i q → OwnAt σ S i q := fun i q ⟨q1, s, q2, q3⟩ => by
    by_cases hi : k = i
    · subst hi
      exact ⟨q1, _, hs, trivial⟩
    · rw [List.getElem?_set_ne hi] at q2
      exact ⟨q1, s, q2, q3⟩
  refine ⟨⟨fun q v hq => ?_, by rw [List.length_set]; exact o.len, fun i s hi => ?_, fun i j q z z' => o.ap i j q (sub i q z) (sub j q z')⟩, ⟨Same.refl _, fun q u hq n => ?_, fun _ _ _ h => h, fun q ⟨i, z⟩ => .inl ⟨i, sub i q z⟩, fun q hq => ?_⟩⟩
  · have : q ≠ l := fun z => by rw [z, h1] at hq; cases hq
    rw [upd_ne this]; exact o.hg q v hq
  · by_cases hki : k = i
    · subst hki
      rw [List.getElem?_set_self hk] at hi
      cases hi
      exact ⟨l, vs, e, h1, upd_same, hd⟩
    · rw [List.getElem?_set_ne hki] at hi
      refine (o.sl i s hi).mono (Same.refl _) fun l' e' ho g1 g2 => ⟨g1, upd_ne fun z => hki (o.ap k i l ow (by rw [← z]; exact ⟨e', s, hi, ho⟩))⟩
  · have : q ≠ l := fun z => n ⟨k, by rw [z]; exact ow⟩
    rw [upd_ne this]; exact hq
  · by_cases z : q = l
    · rw [z, upd_same]; exact fun z => nomatch z
    · rw [upd_ne z]; exact hq
/-- x.append(e) -/
theorem sd_app {k : Nat} {x : Str} {q ap cp : Pos} (hs : S[k]? = some (.own ys)) (he : ED F S e d S1) (hs1 : S1[k]? = some (.own ds)) (hl : ds.length < 100000) (hn : P.nx (S1.set k (.own (ds ++ [d])))) (hN : F.N[k]? = some x := by rfl) (hv : ∀ i, Vis (F.X i).env.scope x := by first | exact fun _ => Or.inl rfl | exact fun _ => Or.inr (Or.inl rfl) | exact fun _ => Or.inr (Or.inr rfl))
    (hd : (x == ("__debug__" : Str)) = false := by decide) (hcd : (x == ("__classdict__" : Str)) = false := by decide) (hb : ∀ i, attributeBase (.Name x q) "append" (F.X i).env (eval (.Name x q) (F.X i).env) = eval (.Name x q) (F.X i).env := by intro _; rfl)
    (hfew : ∀ i, ((backTo cp (starEach [e] (F.X i).env)).all (fun x => !x.1) && (backToKw cp (keywordEach [] (F.X i).env)).all (fun x => x.1.isSome) && decide (([e] : List Expr).length + ([] : List Keyword).length + (if ([] : List Keyword).isEmpty then 0 else 1) < 30)) = true := by intro _; rfl)
    (hline : (ap.endLine == cp.line) = true := by rfl) (hse : ∀ i, starEach [e] (F.X i).env = (false, eval e (F.X i).env) :: starEach [] (F.X i).env := by intro _; rfl)
    (hsw : ∀ i, swapsWith (.Call (.Attribute (.Name x q) "append" ap) [e] [] cp) none pos.line (F.X i).env = pure false := by intro _; rfl) : SD F S (.Expr (.Call (.Attribute (.Name x q) "append" ap) [e] [] cp) pos) P := by
  refine .mk (t := tDrop (tBM F.K "list" rAppend (tVar k) (tCons (wE F e) tNil))) (fun i => ps_expr (by
    have := pe_bm (X := F.X i) (cpos := cp) (apos := ap) PySem.F.plainAttrs_list PySem.F.slot_list_append PySem.F.type_list_append mt_append (pe_var (pos := q) (by rw [F.hN]; exact hN) (hv i) hd hcd) (pa_cons (wE_ok i) pa_nil (hse i)) (hb i) (hfew i) hline (hse i) (by rfl)
    rw [F.hK] at this; exact this) (hsw i)) fun σ H G o D m => ?_
  obtain ⟨l, vs, e0, h1, h2, h3, ow⟩ := o.own hs
  refine ⟨_, e0, .inl ⟨rfl, _, SqL.of h2⟩, he σ H G o _ fun v H1 G1 s1 o1 d1 => ?_⟩
  obtain ⟨l', vs', e', g1, g2, g3, _⟩ := o1.own hs1
  rw [e0] at e'; cases e'
  obtain ⟨o2, s2⟩ := o1.write hs1 e0 (DpAll.append g3 (DpAll.one d1))
  exact ⟨l, vs', v, rfl, rfl, g2, Nat.lt_of_lt_of_le (by rw [DpAll.length g3]; exact hl) (by decide), m.nx σ _ _ _ hn Kept.refl (s1.trans s2) o2⟩
/-- x.extend(a new list) -/
theorem sd_ext {k : Nat} {x : Str} {q ap cp : Pos} (hs : S[k]? = some (.own ys)) (he : LD F S e xs S1) (hs1 : S1[k]? = some (.own ds)) (hl : ds.length + xs.length ≤ 100000) (hn : P.nx (S1.set k (.own (ds ++ xs)))) (hN : F.N[k]? = some x := by rfl) (hv : ∀ i, Vis (F.X i).env.scope x := by first | exact fun _ => Or.inl rfl | exact fun _ => Or.inr (Or.inl rfl) | exact fun _ => Or.inr (Or.inr rfl))
    (hd : (x == ("__debug__" : Str)) = false := by decide) (hcd : (x == ("__classdict__" : Str)) = false := by decide) (hb : ∀ i, attributeBase (.Name x q) "extend" (F.X i).env (eval (.Name x q) (F.X i).env) = eval (.Name x q) (F.X i).env := by intro _; rfl)
    (hfew : ∀ i, ((backTo cp (starEach [e] (F.X i).env)).all (fun x => !x.1) && (backToKw cp (keywordEach [] (F.X i).env)).all (fun x => x.1.isSome) && decide (([e] : List Expr).length + ([] : List Keyword).length + (if ([] : List Keyword).isEmpty then 0 else 1) < 30)) = true := by intro _; rfl)
    (hline : (ap.endLine == cp.line) = true := by rfl) (hse : ∀ i, starEach [e] (F.X i).env = (false, eval e (F.X i).env) :: starEach [] (F.X i).env := by intro _; rfl)
    (hsw : ∀ i, swapsWith (.Call (.Attribute (.Name x q) "extend" ap) [e] [] cp) none pos.line (F.X i).env = pure false := by intro _; rfl) : SD F S (.Expr (.Call (.Attribute (.Name x q) "extend" ap) [e] [] cp) pos) P := by
  refine .mk (t := tDrop (tBM F.K "list" rExtend (tVar k) (tCons (wE F e) tNil))) (fun i => ps_expr (by
    have := pe_bm (X := F.X i) (cpos := cp) (apos := ap) PySem.F.plainAttrs_list PySem.F.slot_list_extend PySem.F.type_list_extend mt_extend (pe_var (pos := q) (by rw [F.hN]; exact hN) (hv i) hd hcd) (pa_cons (wE_ok i) pa_nil (hse i)) (hb i) (hfew i) hline (hse i) (by rfl)
    rw [F.hK] at this; exact this) (hsw i)) fun σ H G o D m => ?_
  obtain ⟨l, vs, e0, h1, h2, h3, ow⟩ := o.own hs
  refine ⟨_, e0, .inl ⟨rfl, _, SqL.of h2⟩, he σ H G o _ fun l2 us H1 G1 s1 o1 b0 b1 nb b2 bd => ?_⟩
  obtain ⟨l', vs', e', g1, g2, g3, _⟩ := o1.own hs1
  rw [e0] at e'; cases e'
  obtain ⟨o2, s2⟩ := o1.write hs1 e0 (DpAll.append g3 bd)
  exact ⟨l, l2, vs', us, rfl, rfl, g2, b2, small_le (by rw [DpAll.length g3, DpAll.length bd]; exact hl), m.nx σ _ _ _ hn Kept.refl (s1.trans s2) o2⟩
/-- x.remove(e), ints: e stands at n, not ahead -/
theorem sd_rem {k n : Nat} {x : Str} {q ap cp : Pos} {ns : List Int} {c : Int} (hs : S[k]? = some (.own (ns.map .int))) (he : ED F S e (.int c) S1) (hs1 : S1[k]? = some (.own (ns.map .int))) (h0 : ns[n]? = some c) (h1 : ∀ m : Nat, m < n → ns[m]? ≠ some c) (hn : P.nx (S1.set k (.own ((ns.eraseIdx n).map .int)))) (hN : F.N[k]? = some x := by rfl) (hv : ∀ i, Vis (F.X i).env.scope x := by first | exact fun _ => Or.inl rfl | exact fun _ => Or.inr (Or.inl rfl) | exact fun _ => Or.inr (Or.inr rfl))
    (hd : (x == ("__debug__" : Str)) = false := by decide) (hcd : (x == ("__classdict__" : Str)) = false := by decide) (hb : ∀ i, attributeBase (.Name x q) "remove" (F.X i).env (eval (.Name x q) (F.X i).env) = eval (.Name x q) (F.X i).env := by intro _; rfl)
    (hfew : ∀ i, ((backTo cp (starEach [e] (F.X i).env)).all (fun x => !x.1) && (backToKw cp (keywordEach [] (F.X i).env)).all (fun x => x.1.isSome) && decide (([e] : List Expr).length + ([] : List Keyword).length + (if ([] : List Keyword).isEmpty then 0 else 1) < 30)) = true := by intro _; rfl)
    (hline : (ap.endLine == cp.line) = true := by rfl) (hse : ∀ i, starEach [e] (F.X i).env = (false, eval e (F.X i).env) :: starEach [] (F.X i).env := by intro _; rfl)
    (hsw : ∀ i, swapsWith (.Call (.Attribute (.Name x q) "remove" ap) [e] [] cp) none pos.line (F.X i).env = pure false := by intro _; rfl) : SD F S (.Expr (.Call (.Attribute (.Name x q) "remove" ap) [e] [] cp) pos) P := by
  refine .mk (t := tDrop (tBM F.K "list" rRemI (tVar k) (tCons (wE F e) tNil))) (fun i => ps_expr (by
    have := pe_bm (X := F.X i) (cpos := cp) (apos := ap) PySem.F.plainAttrs_list PySem.F.slot_list_remove PySem.F.type_list_remove mt_remove (pe_var (pos := q) (by rw [F.hN]; exact hN) (hv i) hd hcd) (pa_cons (wE_ok i) pa_nil (hse i)) (hb i) (hfew i) hline (hse i) (by rfl)
    rw [F.hK] at this; exact this) (hsw i)) fun σ H G o D m => ?_
  obtain ⟨l, vs, e0, g1, g2, g3, ow⟩ := o.own hs
  refine ⟨_, e0, .inl ⟨rfl, _, SqL.of g2⟩, he σ H G o _ fun v H1 G1 s1 o1 d1 => ?_⟩
  cases d1
  obtain ⟨l', vs', e', g1, g2, g3, _⟩ := o1.own hs1
  rw [e0] at e'; cases e'
  cases DpAll.ints g3
  obtain ⟨o2, s2⟩ := o1.write hs1 e0 (DpAll.ofInts (ns.eraseIdx n))
  exact ⟨l, ns, c, n, rfl, rfl, g2, h0, h1, m.nx σ _ _ _ hn Kept.refl (s1.trans s2) o2⟩
/-- x[i] = e -/
theorem sd_setO {k n : Nat} {x : Str} {q sp : Pos} (hs : S[k]? = some (.own ys)) (he : ED F S e d S1) (hi : ED F S1 b (.int i) S2) (hs2 : S2[k]? = some (.own ds)) (hs1 : ∃ zs, S1[k]? = some (.own zs)) (hx : ixN ds.length i = some n) (hn : P.nx (S2.set k (.own (ds.set n d)))) (hN : F.N[k]? = some x := by rfl) (hv : ∀ i, Vis (F.X i).env.scope x := by first | exact fun _ => Or.inl rfl | exact fun _ => Or.inr (Or.inl rfl) | exact fun _ => Or.inr (Or.inr rfl))
    (hd : (x == ("__debug__" : Str)) = false := by decide) (hcd : (x == ("__classdict__" : Str)) = false := by decide)
    (hsub : ∀ i v, assign (.Subscript (.Name x q) b sp) (F.X i).env v = (do
      let ov ← holding [v] (eval (.Name x q) (F.X i).env)
      let iv ← holding [v, ov] (eval b (F.X i).env)
      standAt sp
      holding [v, ov, iv] (setItem ov iv v)
      release [v, ov, iv] []) := by intro _ _; rfl)
    (hsw : ∀ i, swapsWithSole [.Subscript (.Name x q) b sp] e pos.line (F.X i).env = pure false := by intro _; rfl) (hw : ∀ i, swappedStores [.Subscript (.Name x q) b sp] e (F.X i).env = pure none := by intro _; rfl)
    (h1 : ∀ i, (assignEach [.Subscript (.Name x q) b sp] (F.X i).env).map (·.2) = [assign (.Subscript (.Name x q) b sp) (F.X i).env] := by intro _; rfl) : SD F S (.Assign [.Subscript (.Name x q) b sp] e pos) P := by
  refine .mk (t := tAsg (wE F e) (gSub (tVar k) (wE F b) rSetL)) (fun i => ps_asg (wE_ok i) (pg_sub (pe_var (pos := q) (by rw [F.hN]; exact hN) (hv i) hd hcd) (wE_ok i) set_list (hsub i)) (hsw i) (hw i) (h1 i)) fun σ H G o D m => ?_
  refine he σ H G o _ fun v H1 G1 s1 o1 d1 => ?_
  obtain ⟨zs, hs1⟩ := hs1
  obtain ⟨l, vs, e0, g1, g2, g3, ow⟩ := o1.own hs1
  refine ⟨_, e0, hi σ H1 G1 o1 _ fun v2 H2 G2 s2 o2 d2 => ?_⟩
  cases d2
  obtain ⟨l', vs', e', g1, g2, g3, _⟩ := o2.own hs2
  rw [e0] at e'; cases e'
  obtain ⟨o3, s3⟩ := o2.write hs2 e0 (DpAll.set n g3 (Dp.mono s2.eh d1))
  exact ⟨l, vs', i, n, rfl, rfl, g2, by rw [DpAll.length g3]; exact hx, m.nx σ _ _ _ hn Kept.refl ((s1.trans s2).trans s3) o3⟩

/-! #### == [] -/
theorem eqv_nil : PyData.eqv (.list ds) (.list []) = ds.isEmpty := by
  cases ds with
  | nil => simp [PyData.eqv, PyData.eqvAll]
  | cons a t => simp [PyData.eqv, PyData.eqvAll]
theorem shaped_nil : SeqAt.shaped (.list []) = true := by decide
theorem sd_eqO {op : CmpOp} {f : Bool → Bool} {k : Nat} {x : Str} {q lp : Pos} {r : R2} (hr : ∀ i, OpR (F.X i) (compareOp op) r) (hrd : ∀ u v G Q, (∃ d e, Dp F.K G u d ∧ Dp F.K G v e ∧ SeqAt.shaped d = true ∧ SeqAt.shaped e = true ∧ Q (V.bl (f (PyData.eqv d e))) G) → r u v G Q) (hs : S[k]? = some (.own ds)) (hN : F.N[k]? = some x) (hv : ∀ i, Vis (F.X i).env.scope x) (hsh : SeqAt.shaped (.list ds) = true)
    (hm : ∀ c, behindInMarks op c = false) (hd : (x == ("__debug__" : Str)) = false) (hcd : (x == ("__classdict__" : Str)) = false) : ED F S (.Compare (.Name x q) [op] [.List [] lp] pos) (.bool (f ds.isEmpty)) S := by
  refine .mk (t := tOp r (tVar k) (tLst tNil)) (fun i => pe_cmpR (hr i) (pe_var (pos := q) (by rw [F.hN]; exact hN) (hv i) hd hcd) (pe_lst pa_nil) (hm _)) fun σ H G o Q kk => ?_
  obtain ⟨l, vs, e0, h1, h2, h3, ow⟩ := o.own hs
  refine ⟨_, e0, Nat.zero_le _, fun q hq => ?_⟩
  have n := New.laid (o := .lst []) o.hg hq
  refine hrd _ _ _ _ ⟨.list ds, .list [], .lst (SqL.of (same_new hq _ _ _ h2)) (DpAll.mono (o.hg.trans (same_new hq _)) h3), .lst (SqL.of upd_same) .nil, hsh, shaped_nil, ?_⟩
  rw [eqv_nil]
  exact kk _ _ _ n.stp (o.new n) (.bl _)
end
end Sk


set_option Elab.async false
set_option linter.all false
set_option maxRecDepth 100000
set_option maxHeartbeats 4000000
namespace Sk
open PySem L2
section
variable {F : Fam} {S S1 S2 S3 S' : List Sl} {e a b o : Expr} {es rest : List Expr} {d x y z : PyData} {ds xs ys : List PyData} {pos p : Pos} {i j : Int} {σ σ' : L2.St} {H G H' G' : Hp} {u v w : Bool} {P : Po} {s : Stmt} {ss A B : List Stmt} {tg : Expr}
theorem ed_eqNil {k : Nat} {x : Str} {q lp : Pos} (hs : S[k]? = some (.own ds)) (hsh : SeqAt.shaped (.list ds) = true) (hN : F.N[k]? = some x := by rfl) (hv : ∀ i, Vis (F.X i).env.scope x := by first | exact fun _ => Or.inl rfl | exact fun _ => Or.inr (Or.inl rfl) | exact fun _ => Or.inr (Or.inr rfl))
    (hd : (x == ("__debug__" : Str)) = false := by decide) (hcd : (x == ("__classdict__" : Str)) = false := by decide) : ED F S (.Compare (.Name x q) [.Eq] [.List [] lp] pos) (.bool ds.isEmpty) S :=
  sd_eqO (r := rEqD F.K) (f := id) (fun i => by have := op_eqD (X := F.X i) (by rw [F.hA]; have := F.un; omega); rw [F.hK] at this; exact this) (fun _ _ _ _ h => h) hs hN hv hsh (fun c => nomark c) hd hcd
theorem ed_neNil {k : Nat} {x : Str} {q lp : Pos} (hs : S[k]? = some (.own ds)) (hsh : SeqAt.shaped (.list ds) = true) (hN : F.N[k]? = some x := by rfl) (hv : ∀ i, Vis (F.X i).env.scope x := by first | exact fun _ => Or.inl rfl | exact fun _ => Or.inr (Or.inl rfl) | exact fun _ => Or.inr (Or.inr rfl))
    (hd : (x == ("__debug__" : Str)) = false := by decide) (hcd : (x == ("__classdict__" : Str)) = false := by decide) : ED F S (.Compare (.Name x q) [.NotEq] [.List [] lp] pos) (.bool (!ds.isEmpty)) S :=
  sd_eqO (r := rNeD F.K) (f := fun b => !b) (fun i => by have := op_neD (X := F.X i) (by rw [F.hA]; have := F.un; omega); rw [F.hK] at this; exact this) (fun _ _ _ _ h => h) hs hN hv hsh (fun c => nomark c) hd hcd
/-- a comparison that is a test -/
theorem td_cmpV {c : Bool} {op : CmpOp} (h : ED F S (.Compare a [op] [b] pos) (.bool c) S1) (hi : ∀ i whole, isTrue (.Compare a [op] [b] pos) (F.X i).env whole = isTrue (.Compare a [op] [b] pos) (F.X i).env (eval (.Compare a [op] [b] pos) (F.X i).env) := by intro _ _; rfl) : True := trivial

/-! #### loops -/
/-- for tg in e: body; Inv by the turn -/
theorem sd_for {body : List Stmt} {Inv : Nat → List Sl → Prop} (hi : ID F S tg e xs S1) (h0 : Inv 0 S1) (hs : ∀ k x S, xs[k]? = some x → Inv k S → ∃ S2, GD F P.wr S tg x S2 ∧ BD F S2 body { P with nx := Inv (k + 1), ct := Inv (k + 1), bk := P.nx })
    (hd : ∀ S, Inv xs.length S → P.nx S) (hp : ∀ i, PassesOwn (model (F.X i).prog (F.X i).w) (F.X i).A (F.X i).env (F.X i).xe := by intro _; exact PassesOwn.never) (hfs : ∀ i x, foldedSetIterable e (F.X i).env x = pure x := by intro _ _; rfl) : SD F S (.For tg e body [] pos) P := by
  refine .mk (t := tFor (wI F tg e) (wG F tg) (wB F body)) (fun i => ps_for (hp i) (F.calm i) (wI_ok i) (wG_ok i) (wB_ok i) (hfs i)) fun σ H G o D m => ?_
  refine hi σ H G o _ fun J H1 G1 s1 o1 wk => ?_
  refine ⟨fun n mm σ' G' => mm = xs.length - n ∧ n ≤ xs.length ∧ ∃ H' S', Inv n S' ∧ Kept P.wr σ σ' ∧ Stp (Own σ S) (Own σ' S') H G H' G' ∧ Ok F.K F.bx σ' H' G' S' ∧ Same H1 H', ⟨xs.length, by simp, Nat.zero_le _, H1, S1, h0, Kept.refl, s1, o1, Same.refl _⟩, ?_⟩
  rintro n mm σ' G' ⟨rfl, hn, H', S', iv, k', s', o', e'⟩
  by_cases hlt : n < xs.length
  · refine .inr ⟨wk.go n G' hlt (e'.trans o'.hg), fun σ2 G2 => n + 1 ≤ xs.length ∧ ∃ H2 S2, Inv (n + 1) S2 ∧ Kept P.wr σ σ2 ∧ Stp (Own σ S) (Own σ2 S2) H G H2 G2 ∧ Ok F.K F.bx σ2 H2 G2 S2 ∧ Same H1 H2, fun σ2 G2 q => ⟨xs.length - (n + 1), by omega, rfl, q.1, q.2⟩, fun v G2 y => ?_⟩
    obtain ⟨H2, d, nw, hx, dd⟩ := wk.yld n H' G' v G2 e' o'.hg hlt y
    obtain ⟨S2, hg, hb⟩ := hs n d S' hx iv
    refine hg σ' H2 G2 v (o'.new nw) dd _ fun σ3 H3 G3 k3 s3 o3 => ?_
    have s3' := (s'.trans nw.stp).trans s3
    refine hb σ3 H3 G3 o3 _ ⟨fun σ4 H4 G4 S4 q k4 s4 o4 => ⟨by omega, H4, S4, q, (k'.trans k3).trans k4, s3'.trans s4, o4, ((e'.trans nw.eh).trans s3.eh).trans s4.eh⟩, fun d v σ4 H4 G4 S4 q s4 o4 hd4 => m.rt d v σ4 H4 G4 S4 q (s3'.trans s4) o4 hd4, (m.nx.at (k'.trans k3) s3'), fun σ4 H4 G4 S4 q k4 s4 o4 => ⟨by omega, H4, S4, q, (k'.trans k3).trans k4, s3'.trans s4, o4, ((e'.trans nw.eh).trans s3.eh).trans s4.eh⟩, fun ds l vs σ4 H4 G4 S4 q s4 o4 g0 h1 no hl hd4 => m.rl ds l vs σ4 H4 G4 S4 q (s3'.trans s4) o4 (s3'.free g0) h1 no hl hd4⟩
  · have e : n = xs.length := by omega
    subst e
    exact .inl ⟨wk.stop G' (e'.trans o'.hg), m.nx σ' H' G' S' (hd S' iv) k' s' o'⟩
/-- while c: body; Inv by a measure -/
theorem sd_while {c : Expr} {body : List Stmt} {Inv : Nat → List Sl → Prop} {n0 : Nat} (h0 : Inv n0 S) (hs : ∀ n S, Inv n S → ∃ b S1, TD F S c b S1 ∧ (b = true → BD F S1 body { P with nx := fun S => ∃ m, m < n ∧ Inv m S, ct := fun S => ∃ m, m < n ∧ Inv m S, bk := P.nx }) ∧ (b = false → P.nx S1))
    (hp : ∀ i, PassesOwn (model (F.X i).prog (F.X i).w) (F.X i).A (F.X i).env (F.X i).xe := by intro _; exact PassesOwn.never) : SD F S (.While c body [] pos) P := by
  refine .mk (t := tWhile (wT F c) (wB F body)) (fun i => ps_while (hp i) (wT_ok i) (wB_ok i)) fun σ H G o D m => ?_
  refine ⟨fun n σ' G' => ∃ H' S', Inv n S' ∧ Kept P.wr σ σ' ∧ Stp (Own σ S) (Own σ' S') H G H' G' ∧ Ok F.K F.bx σ' H' G' S', ⟨n0, H, S, h0, Kept.refl, Stp.refl, o⟩, ?_⟩
  rintro n σ' G' ⟨H', S', iv, k', s', o'⟩
  obtain ⟨b, S1, hc, hb, hf⟩ := hs n S' iv
  refine hc σ' H' G' o' _ fun H1 G1 s1 o1 => ?_
  cases b with
  | true =>
    refine iteT ⟨fun σ2 G2 => ∃ m, m < n ∧ ∃ H2 S2, Inv m S2 ∧ Kept P.wr σ σ2 ∧ Stp (Own σ S) (Own σ2 S2) H G H2 G2 ∧ Ok F.K F.bx σ2 H2 G2 S2, fun σ2 G2 q => q, ?_⟩
    have s1' := s'.trans s1
    refine hb rfl σ' H1 G1 o1 _ ⟨fun σ4 H4 G4 S4 ⟨mm, q1, q2⟩ k4 s4 o4 => ⟨mm, q1, H4, S4, q2, k'.trans k4, s1'.trans s4, o4⟩, fun d v σ4 H4 G4 S4 q s4 o4 hd4 => m.rt d v σ4 H4 G4 S4 q (s1'.trans s4) o4 hd4, m.nx.at k' s1', fun σ4 H4 G4 S4 ⟨mm, q1, q2⟩ k4 s4 o4 => ⟨mm, q1, H4, S4, q2, k'.trans k4, s1'.trans s4, o4⟩, fun ds l vs σ4 H4 G4 S4 q s4 o4 g0 h1 no hl hd4 => m.rl ds l vs σ4 H4 G4 S4 q (s1'.trans s4) o4 (s1'.free g0) h1 no hl hd4⟩
  | false => exact iteF (m.nx σ' H1 G1 S1 (hf rfl) k' (s'.trans s1) o1)

/-! #### what is walked -/
theorem walk_dL {K : PySem.W.Frag} {a : Addr} {vs : List V} (h : SqL K H a vs) (hd : DpAll K H vs xs) : WalkD K (Itl K a) H xs := by
  have w := walk_list (K := K) (a := a) (xs := vs)
  have hl := DpAll.length hd
  refine ⟨fun i G hi e => w.goes i G (by omega) (e.seq h), fun G e => by rw [← hl]; exact w.stops G (e.seq h), fun i H1 G x G' e1 e2 hi y => ?_⟩
  obtain ⟨rfl, hx⟩ := w.yields i G x G' (by omega) ((e1.trans e2).seq h) y
  obtain ⟨d, q1, q2⟩ := DpAll.get' hd hx
  exact ⟨H1, d, New.refl e2, q1, Dp.mono e1 q2⟩
theorem walk_dT {K : PySem.W.Frag} {a : Addr} {vs : List V} (h : SqT K H a vs) (hd : DpAll K H vs xs) : WalkD K (Itt K a) H xs := by
  have w := walk_tup (K := K) (a := a) (xs := vs)
  have hl := DpAll.length hd
  refine ⟨fun i G hi e => w.goes i G (by omega) (sqT_mono e h), fun G e => by rw [← hl]; exact w.stops G (sqT_mono e h), fun i H1 G x G' e1 e2 hi y => ?_⟩
  obtain ⟨rfl, hx⟩ := w.yields i G x G' (by omega) (sqT_mono (e1.trans e2) h) y
  obtain ⟨d, q1, q2⟩ := DpAll.get' hd hx
  exact ⟨H1, d, New.refl e2, q1, Dp.mono e1 q2⟩
theorem id_lst (h : ED F S e (.list xs) S1) : ID F S tg e xs S1 := fun σ H G o R k => ⟨iList F.K (wE F e), fun i => by have := pi_list (X := F.X i) (tg := tg) (wE_ok i (e := e)); rw [F.hK] at this; exact this,
  h σ H G o _ fun v H1 G1 s1 o1 d1 => by
    obtain ⟨q, us, rfl, q1, r1⟩ := lst_ref d1
    exact ⟨q, rfl, ⟨us, o1.hg.seq q1⟩, k _ H1 G1 s1 o1 (walk_dL q1 r1)⟩⟩
theorem id_tup (h : ED F S e (.tuple xs) S1) : ID F S tg e xs S1 := fun σ H G o R k => ⟨iTup F.K (wE F e), fun i => by have := pi_tup (X := F.X i) (tg := tg) (wE_ok i (e := e)); rw [F.hK] at this; exact this,
  h σ H G o _ fun v H1 G1 s1 o1 d1 => by
    obtain ⟨q, us, rfl, q1, r1⟩ := tup_ref d1
    exact ⟨q, rfl, ⟨us, sqT_mono o1.hg q1⟩, k _ H1 G1 s1 o1 (walk_dT q1 r1)⟩⟩
def rgD (n : Nat) : List PyData := (List.range n).map fun (i : Nat) => .int i
theorem rgD_length (n : Nat) : (rgD n).length = n := by simp [rgD]
theorem rgD_get {n k : Nat} (h : k < n) : (rgD n)[k]? = some (.int k) := by simp [rgD, h]
theorem walk_dR {K : PySem.W.Frag} {n : Nat} : WalkD K (Itr 0 n) H (rgD n) := by
  have w := walk_range (lo := 0) (n := n)
  refine ⟨fun i G hi e => w.goes i G (by rw [rgD_length] at hi; exact hi) trivial, fun G e => by rw [rgD_length]; exact w.stops G trivial, fun i H1 G x G' e1 e2 hi y => ?_⟩
  rw [rgD_length] at hi
  obtain ⟨rfl, rfl⟩ := w.yields i G x G' hi trivial y
  refine ⟨H1, _, New.refl e2, rgD_get hi, ?_⟩
  show Dp K H1 (V.int (0 + (i : Int))) _
  rw [Int.zero_add]; exact .int _
theorem id_rng {q : Pos} (h : ED F S e (.int i) S1) (h0 : -(2 ^ 62) ≤ i) (h1 : i < 2 ^ 62) (hg : ∀ i, Gl (F.X i) "range") (hm : F.mg "range" = none) (hs : ∀ i, starEach [e] (F.X i).env = [(false, eval e (F.X i).env)] := by intro _; rfl) (hs2 : ∀ i, starEach [e] (F.X i).env = (false, eval e (F.X i).env) :: starEach [] (F.X i).env := by intro _; rfl) : ID F S tg (.Call (.Name "range" q) [e] [] pos) (rgD i.toNat) S1 := fun σ H G o R k =>
  ⟨iRng1 (tCons (wE F e) tNil), fun n => pi_range1 (hg n) (by rw [F.hm]; exact hm) (pa_cons (wE_ok n) pa_nil (hs2 n)) (hs n), h σ H G o _ fun v H1 G1 s1 o1 d1 => by
    cases d1
    exact ⟨i, rfl, h0, h1, k _ H1 G1 s1 o1 walk_dR⟩⟩

/-! #### comprehensions -/
theorem Fam.blkUn (F : Fam) : F.A.units + 100 < cLine := F.un
/-- the blocks of a comprehension -/
def Fam.blk (F : Fam) (scope : Scope) : Fam where
  ι := F.ι × Shared × Hp × Addr × List (Str × Addr) × List Addr
  X := fun q => (F.X q.1).blk q.2.1 q.2.2.1 scope (compEnvC scope q.2.2.2.2.1 q.2.2.2.1 (F.X q.1).env) q.2.2.2.2.2
  P := F.P
  w := F.w
  K := F.K
  mg := F.mg
  base := F.base
  A := F.A
  N := F.N
  bx := F.bx
  hP := fun q => F.hP q.1
  hw := fun q => F.hw q.1
  hK := fun q => F.hK q.1
  hm := fun q => F.hm q.1
  hb := fun q => F.hb q.1
  hA := fun q => F.hA q.1
  hN := fun q => F.hN q.1
  calm := fun q => F.calm q.1
  nd := F.nd
  un := F.un
theorem wipe_kept : ∀ {vs : List Nat} {σ σ' : L2.St}, σ'.length = σ.length → Kept (· ∈ vs) σ σ' → wipe σ' vs = wipe σ vs := by
  intro vs σ σ' hl hk
  have key : ∀ (vs : List Nat) (τ : L2.St) (k : Nat), (wipe τ vs)[k]? = if k ∈ vs then (if k < τ.length then some none else none) else τ[k]? := by
    intro vs
    induction vs with
    | nil => intro τ k; simp [wipe]
    | cons v r ih =>
      intro τ k
      show ((wipe τ r).set v none)[k]? = _
      by_cases hv : v = k
      · subst hv
        simp only [List.mem_cons, true_or, if_true]
        by_cases hlt : v < τ.length
        · rw [if_pos hlt, List.getElem?_set_self (by rw [wipe_length]; exact hlt)]
        · rw [if_neg hlt, List.getElem?_eq_none (by rw [List.length_set, wipe_length]; omega)]
      · rw [List.getElem?_set_ne hv, ih τ k]
        by_cases hkr : k ∈ r
        · rw [if_pos hkr, if_pos (List.mem_cons_of_mem _ hkr)]
        · rw [if_neg hkr, if_neg fun h => (List.mem_cons.mp h).elim (fun z => hv z.symm) hkr]
  refine List.ext_getElem? fun k => ?_
  rw [key, key, hl]
  by_cases hm : k ∈ vs
  · rw [if_pos hm, if_pos hm]
  · rw [if_neg hm, if_neg hm, hk k hm]
theorem Ok.wipe {K : PySem.W.Frag} {bx : Addr} (o : Ok K bx σ H G S) : ∀ {vs : List Nat}, (∀ v ∈ vs, S[v]? = some .no) → Ok K bx (L2.wipe σ vs) H G S := by
  intro vs hv
  have get : ∀ k, k ∉ vs → (L2.wipe σ vs)[k]? = σ[k]? := fun k hk => wipe_out hk
  have sub : ∀ i q, OwnAt (L2.wipe σ vs) S i q → OwnAt σ S i q := fun i q ⟨q1, s, q2, q3⟩ => by
    by_cases hi : i ∈ vs
    · rw [hv i hi] at q2
      cases q2
      exact q3.elim
    · rw [get i hi] at q1
      exact ⟨q1, s, q2, q3⟩
  refine ⟨o.hg, by rw [wipe_length]; exact o.len, fun i s hs => ?_, fun i j q z z' => o.ap i j q (sub i q z) (sub j q z')⟩
  by_cases hi : i ∈ vs
  · rw [hv i hi] at hs
    cases hs
    trivial
  · rw [get i hi]
    exact o.sl i s hs
theorem own_wipe {vs : List Nat} (hv : ∀ v ∈ vs, S[v]? = some .no) {q : Addr} : Own (L2.wipe σ vs) S q ↔ Own σ S q := by
  constructor
  · rintro ⟨i, q1, s, q2, q3⟩
    by_cases hi : i ∈ vs
    · rw [hv i hi] at q2
      cases q2
      exact q3.elim
    · rw [wipe_out hi] at q1
      exact ⟨i, q1, s, q2, q3⟩
  · rintro ⟨i, q1, s, q2, q3⟩
    by_cases hi : i ∈ vs
    · rw [hv i hi] at q2
      cases q2
      exact q3.elim
    · exact ⟨i, by rw [wipe_out hi]; exact q1, s, q2, q3⟩
theorem tsd_nil : TsD F S [] true S := fun σ H G o Q k => ⟨tYes, fun _ => pts_nil, k H G Stp.refl o⟩
theorem tsd_one (h : TD F S e v S1) : TsD F S [e] v S1 := fun σ H G o Q k => ⟨wT F e, fun i => pts_one (wT_ok i), h σ H G o Q k⟩
theorem Ok.poke {K : PySem.W.Frag} {bx q : Addr} {u : HO} (o : Ok K bx σ H G S) (hn : H q = none) (no : ¬ Own σ S q) : Ok K bx σ H (upd G q u) S := by
  refine ⟨fun q' v hq => ?_, o.len, fun i s hs => (o.sl i s hs).mono (Same.refl _) fun l e ho h1 h2 => ⟨h1, upd_ne fun z => no ⟨i, by rw [← z]; exact ⟨e, s, hs, ho⟩⟩⟩, o.ap⟩
  have : q' ≠ q := fun z => by rw [z, hn] at hq; cases hq
  rw [upd_ne this]; exact o.hg q' v hq
def KeptS (vs : List Nat) (S S2 : List Sl) : Prop := S2.length = S.length ∧ ∀ k : Nat, k ∉ vs → S2[k]? = S[k]?
theorem KeptS.refl {vs : List Nat} : KeptS vs S S := ⟨rfl, fun _ _ => rfl⟩
theorem KeptS.set {vs : List Nat} {k : Nat} {s : Sl} (h : KeptS vs S S1) (hk : k ∈ vs) : KeptS vs S (S1.set k s) := ⟨by rw [List.length_set]; exact h.1, fun i hi => by rw [List.getElem?_set_ne (fun (z : k = i) => hi (by rw [← z]; exact hk))]; exact h.2 i hi⟩
theorem filter_take {α β : Type} (fl : α → Bool) (fn : α → β) (xs : List α) {n : Nat} {x : α} (h : xs[n]? = some x) : ((xs.take (n + 1)).filter fl).map fn = ((xs.take n).filter fl).map fn ++ (if fl x = true then [fn x] else []) := by
  have e : xs.take (n + 1) = xs.take n ++ [x] := by
    rw [List.take_add_one, h]; rfl
  rw [e, List.filter_append, List.map_append]
  congr 1
  cases q : fl x with
  | true => simp [q]
  | false => simp [q]
theorem Stp.poke {A A' : Addr → Prop} {q : Addr} {u : HO} (s : Stp A A' H G H' G') (h : G q = none) : Stp A A' H G H' (upd G' q u) := by
  refine ⟨s.eh, fun a v ha n => ?_, s.sep, s.ow, fun a ha => ?_⟩
  · rw [upd_ne (ne_of_none ha h)]; exact s.eg a v ha n
  · by_cases z : a = q
    · rw [z, upd_same]; exact fun z => nomatch z
    · rw [upd_ne z]; exact s.th a ha
theorem lc_read {elt iter : Expr} {ifs : List Expr} {scope : Scope} {own : List (Str × Nat)} (fl : PyData → Bool) (fn : PyData → PyData) (hi : ID F S tg iter xs S1) (hvs : ∀ v ∈ own.map (·.2), S1[v]? = some .no) (ok : ∀ i, BlkOk F.N (F.X i).env.scope scope own)
    (step : ∀ x ∈ xs, ∃ S2, KeptS (own.map (·.2)) S1 S2 ∧ GD (F.blk scope) (· ∈ own.map (·.2)) S1 tg x S2 ∧ TsD (F.blk scope) S2 ifs (fl x) S2 ∧ (fl x = true → ED (F.blk scope) S2 elt (fn x) S2)) (hl : xs.length ≤ 50000)
    {σ : L2.St} {H G : Hp} (o : Ok F.K F.bx σ H G S) {Q : VK} (kk : ∀ l vs H' G', Stp (Own σ S) (Own σ S1) H G H' G' → Ok F.K F.bx σ H' G' S1 → G l = none → H' l = none → ¬ Own σ S1 l → G' l = some (.lst vs) → DpAll F.K H' vs ((xs.filter fl).map fn) → Q (.ref l) G') :
    tLc (wI F tg iter) (wG (F.blk scope) tg) (wTs (F.blk scope) ifs) (wE (F.blk scope) elt) (own.map (·.2)) σ G Q := by
  generalize hV : own.map (·.2) = vs at *
  refine hi σ H G o _ fun J H1 G1 s1 o1 wk D hD => ?_
  obtain ⟨l1, l2, l3, l4⟩ := o1.lay (u := .lst []) hD
  refine ⟨fun n m G' => m = xs.length - n ∧ n ≤ xs.length ∧ ∃ H' acc, Stp (Own σ S1) (Own σ S1) H1 G1 H' G' ∧ Ok F.K F.bx σ H' G' S1 ∧ H' D = none ∧ G' D = some (.lst acc) ∧ DpAll F.K H' acc (((xs.take n).filter fl).map fn), ⟨xs.length, by simp, Nat.zero_le _, H1, [], l1, l2, l3, upd_same, .nil⟩, ?_⟩
  rintro n m G' ⟨rfl, hn, H', acc, s', o', d1, d2, d3⟩
  by_cases hlt : n < xs.length
  · refine .inr ⟨wk.go n G' hlt (s'.eh.trans o'.hg), fun G2 => n + 1 ≤ xs.length ∧ ∃ H' acc, Stp (Own σ S1) (Own σ S1) H1 G1 H' G2 ∧ Ok F.K F.bx σ H' G2 S1 ∧ H' D = none ∧ G2 D = some (.lst acc) ∧ DpAll F.K H' acc (((xs.take (n + 1)).filter fl).map fn), fun G2 q => ⟨xs.length - (n + 1), by omega, rfl, q⟩, fun v G2 y => ?_⟩
    obtain ⟨H2, d, nw, hx, dd⟩ := wk.yld n H' G' v G2 s'.eh o'.hg hlt y
    obtain ⟨S2, ks, hg, ht, he⟩ := step d (List.mem_of_getElem? hx)
    have ow : Ok F.K F.bx (wipe σ vs) H2 G2 S1 := (o'.wipe hvs).new nw
    have dne : G' D ≠ none := by rw [d2]; exact fun z => nomatch z
    have nD : ¬ Own (wipe σ vs) S1 D := fun z => l4 ((own_wipe hvs).mp z)
    refine hg (wipe σ vs) H2 G2 v ow dd _ fun σ3 H3 G3 k3 s3 o3 => ⟨?_, ?_⟩
    · have e1 : wipe σ3 vs = wipe (wipe σ vs) vs := wipe_kept (by rw [o3.len, ks.1, ow.len]) k3
      rw [e1]
      exact wipe_kept (wipe_length _ _) fun k hk => wipe_out hk
    · refine ht σ3 H3 G3 o3 _ fun H4 G4 s4 o4 => ?_
      -- back to the def's own slots
      have back : ∀ {H5 G5 : Hp}, Stp (Own (wipe σ vs) S1) (Own σ3 S2) H2 G2 H5 G5 → Ok F.K F.bx σ3 H5 G5 S2 → Stp (Own σ S1) (Own σ S1) H1 G1 H5 G5 ∧ Ok F.K F.bx σ H5 G5 S1 ∧ H5 D = none ∧ G5 D = some (.lst acc) ∧ Same H' H5 := fun {H5 G5} s5 o5 => by
        have s25 : Stp (Own σ S1) (Own σ S1) H' G' H5 G5 := by
          refine ⟨nw.eh.trans s5.eh, fun q u hq hn => s5.eg q u (nw.eg q u hq) fun z => hn ((own_wipe hvs).mp z), fun q hq hn hh => s5.sep q (nw.th q hq) (fun z => hn ((own_wipe hvs).mp z)) (nw.sep q hq hh), fun q z => .inl z, fun q hq => s5.th q (nw.th q hq)⟩
        refine ⟨s'.trans s25, ⟨o5.hg, o'.len, fun k s hs => ?_, o'.ap⟩, s25.sep D dne l4 d1, s25.eg D _ d2 l4, s25.eh⟩
        have q := o'.sl k s hs
        cases s with
        | no => trivial
        | dat d =>
          obtain ⟨x, e, h⟩ := q
          exact ⟨x, e, Dp.mono s25.eh h⟩
        | own ds =>
          have hk : k ∉ vs := fun z => by rw [hvs k z] at hs; cases hs
          have q2 := o5.sl k (.own ds) (by rw [ks.2 k hk]; exact hs)
          rw [k3 k hk, wipe_out hk] at q2
          exact q2
        | box b =>
          have hk : k ∉ vs := fun z => by rw [hvs k z] at hs; cases hs
          have q2 := o5.sl k (.box b) (by rw [ks.2 k hk]; exact hs)
          rw [k3 k hk, wipe_out hk] at q2
          exact q2
      have nx : xs[n]? = some d := hx
      cases hf : fl d with
      | true =>
        refine iteT (he hf σ3 H4 G4 o4 _ fun v5 H5 G5 s5 o5 dd5 => ?_)
        obtain ⟨b1, b2, b3, b4, b5⟩ := back ((s3.trans s4).trans s5) o5
        have hlen : acc.length ≤ n := by
          rw [DpAll.length d3, List.length_map]
          exact Nat.le_trans (List.length_filter_le _ _) (by rw [List.length_take]; omega)
        refine ⟨acc, b4, Nat.lt_of_lt_of_le (show acc.length < 100000 by omega) (by decide), hlt, H5, acc ++ [v5], b1.poke hD, b2.poke b3 l4, b3, upd_same, ?_⟩
        rw [filter_take fl fn xs nx, hf, if_pos rfl]
        exact DpAll.append (DpAll.mono b5 d3) (DpAll.one dd5)
      | false =>
        refine iteF ?_
        obtain ⟨b1, b2, b3, b4, b5⟩ := back (s3.trans s4) o4
        refine ⟨hlt, H4, acc, b1, b2, b3, b4, ?_⟩
        rw [filter_take fl fn xs nx, hf, if_neg Bool.false_ne_true, List.append_nil]
        exact DpAll.mono b5 d3
  · have e : n = xs.length := by omega
    subst e
    refine .inl ⟨wk.stop G' (s'.eh.trans o'.hg), ?_⟩
    rw [List.take_length] at d3
    exact kk D acc H' G' (s1.trans s') o' (s1.free hD) d1 l4 d2 d3
theorem ld_lc {elt iter : Expr} {ifs : List Expr} {scope : Scope} {own : List (Str × Nat)} (fl : PyData → Bool) (fn : PyData → PyData) (hi : ID F S tg iter xs S1) (hvs : ∀ v ∈ own.map (·.2), S1[v]? = some .no) (ok : ∀ i, BlkOk F.N (F.X i).env.scope scope own)
    (step : ∀ x ∈ xs, ∃ S2, KeptS (own.map (·.2)) S1 S2 ∧ GD (F.blk scope) (· ∈ own.map (·.2)) S1 tg x S2 ∧ TsD (F.blk scope) S2 ifs (fl x) S2 ∧ (fl x = true → ED (F.blk scope) S2 elt (fn x) S2)) (hl : xs.length ≤ 50000)
    (hfs : ∀ i x, foldedSetIterable iter (F.X i).env x = pure x := by intro _ _; rfl) : LD F S (.ListComp elt [⟨tg, iter, ifs, 0⟩] scope pos) ((xs.filter fl).map fn) S1 := fun σ H G o Q kk =>
  ⟨_, fun i => pe_lc (F.calm i) (by rw [F.hN]; exact F.nd) (wI_ok i) (by rw [F.hN]; exact ok i) (fun s H C cl fp => wG_ok (F := F.blk scope) (i, s, H, C, cl, fp)) (fun s H C cl fp => wTs_ok (F := F.blk scope) (i, s, H, C, cl, fp)) (fun s H C cl fp => wE_ok (F := F.blk scope) (i, s, H, C, cl, fp)) (hfs i), lc_read fl fn hi hvs ok step hl o kk⟩
/-- name = [..], one's own from now on -/
theorem sd_setLc {k : Nat} {yn : Str} {py spos : Pos} {elt iter : Expr} {ifs : List Expr} {scope : Scope} {own : List (Str × Nat)} (fl : PyData → Bool) (fn : PyData → PyData) (hi : ID F S tg iter xs S1) (hvs : ∀ v ∈ own.map (·.2), S1[v]? = some .no) (ok : ∀ i, BlkOk F.N (F.X i).env.scope scope own)
    (step : ∀ x ∈ xs, ∃ S2, KeptS (own.map (·.2)) S1 S2 ∧ GD (F.blk scope) (· ∈ own.map (·.2)) S1 tg x S2 ∧ TsD (F.blk scope) S2 ifs (fl x) S2 ∧ (fl x = true → ED (F.blk scope) S2 elt (fn x) S2)) (hl : xs.length ≤ 50000)
    (hn : P.nx (S1.set k (.own ((xs.filter fl).map fn)))) (hsw : ∀ i, swapsWith (.ListComp elt [⟨tg, iter, ifs, 0⟩] scope pos) (some (.Name yn py)) spos.line (F.X i).env = pure true) (hk : k < S1.length := by first | exact Nat.le_of_ble_eq_true rfl | simp) (hN : F.N[k]? = some yn := by rfl) (hyl : ∀ i, (F.X i).env.scope.names.lookup yn = some .local := by intro _; rfl) (hw : P.wr k := by trivial)
    (hfs : ∀ i x, foldedSetIterable iter (F.X i).env x = pure x := by intro _ _; rfl) : SD F S (.Assign [.Name yn py] (.ListComp elt [⟨tg, iter, ifs, 0⟩] scope pos) spos) P :=
  .mk (fun i => ps_setLc (F.calm i) (by rw [F.hN]; exact F.nd) (by rw [F.hN]; exact hN) (hyl i) (hsw i) (wI_ok i) (by rw [F.hN]; exact ok i) (fun s H C cl fp => wG_ok (F := F.blk scope) (i, s, H, C, cl, fp)) (fun s H C cl fp => wTs_ok (F := F.blk scope) (i, s, H, C, cl, fp)) (fun s H C cl fp => wE_ok (F := F.blk scope) (i, s, H, C, cl, fp)) (hfs i)) fun σ H G o D m =>
    lc_read fl fn hi hvs ok step hl o fun l vs H1 G1 s1 o1 g0 h1 no hl1 hd => by
      obtain ⟨s2, o2⟩ := own_step s1 o1 g0 h1 no hl1 hd hk
      exact m.nx _ H1 G1 _ hn (kept_set hw) s2 o2
end
end Sk


set_option Elab.async false
set_option linter.all false
set_option maxRecDepth 100000
set_option maxHeartbeats 4000000
namespace Sk
open PySem L2
/-! ### zip of lists and tuples in any mix, two and three; enumerate of a tuple -/
/-- true: a list; false: a tuple -/
def SqS (K : PySem.W.Frag) (H : Hp) (b : Bool) (a : Addr) (xs : List V) : Prop := if b then SqL K H a xs else SqT K H a xs
def SeqIs (b : Bool) (h : Heap) (a : Addr) (its : Array Value) : Prop := if b then h.IsList a its else h.IsTuple a its
def SeqIt (b : Bool) (h : Heap) (it a : Addr) (i : Nat) : Prop := if b then h.IsListIter it a i else h.IsTupleIter it a i
theorem SqS.mono {K : PySem.W.Frag} {H H' : Hp} {b : Bool} {a : Addr} {xs : List V} (e : Same H H') (h : SqS K H b a xs) : SqS K H' b a xs := by
  cases b with
  | true => exact e.seq h
  | false => exact sqT_mono e h
theorem sq_of {X : Cx} {pins : List (Addr × Obj)} {σ : L2.St} {H : Hp} {s : Shared} {b : Bool} {a : Addr} {xs : List V} (I : Inv X pins σ H s) (h : SqS X.K H b a xs) : ∃ its : List Value, Vals xs its ∧ SeqIs b s.heap a its.toArray ∧ a < s.heap.objs.size := by
  cases b with
  | true =>
    obtain ⟨its, r, p, _⟩ := I.list h
    exact ⟨its, r, p.isList, p.lt⟩
  | false =>
    obtain ⟨its, r, p, _⟩ := I.tuple h
    exact ⟨its, r, p, p.lt⟩
theorem sq_inj {X : Cx} {pins : List (Addr × Obj)} {σ : L2.St} {H : Hp} {s : Shared} {b : Bool} {a : Addr} {xs ys : List V} (I : Inv X pins σ H s) (h : SqS X.K H b a xs) (h' : SqS X.K H b a ys) : xs = ys := by
  cases b with
  | true => exact I.list_inj h h'
  | false => exact I.tuple_inj h h'
theorem sq_draws {prog : Program} {w : World} {A : Around} (hh : A.handled = none) (b : Bool) (it a : Addr) (hne : a ≠ it) (its : Array Value) : Draws prog w A it [it, a] its.size (fun i v => its[i]? = some v) (fun i h => SeqIt b h it a i ∧ SeqIs b h a its) := by
  cases b with
  | true => exact Draws.list hh it a hne its
  | false => exact Draws.tuple hh it a hne its
theorem SeqIt.live {b : Bool} {h : Heap} {it a : Addr} {i : Nat} (x : SeqIt b h it a i) : ∃ o, h.get? it = some o ∧ ∀ v, o.data ≠ .cell v := by
  cases b with
  | true =>
    obtain ⟨o, e, _, d⟩ := x
    exact ⟨o, e, fun v z => by rw [d] at z; cases z⟩
  | false =>
    obtain ⟨o, e, _, d⟩ := x
    exact ⟨o, e, fun v z => by rw [d] at z; cases z⟩
theorem SeqIt.lift {b : Bool} {h h' : Heap} {it a : Addr} {i : Nat} (x : SeqIt b h it a i) (k : ∀ o, h.get? it = some o → h'.get? it = some o) : SeqIt b h' it a i := by
  cases b with
  | true => exact Heap.IsListIter.at x k
  | false => exact Heap.IsTupleIter.at x k
def seqObj1 (b : Bool) (a : Addr) : Obj := if b then { cls := .type "list_iterator", data := .fields #[.ref a, .int 0 0] } else { cls := .type "tuple_iterator", data := .fields #[.ref a, .int 0 0] }
theorem sq_begins (b : Bool) (a : Addr) (its : Array Value) : Begins (.ref a) (seqObj1 b a) fun h => SeqIs b h a its := by
  cases b with
  | true => exact begins_list a its
  | false => exact begins_tuple a its
theorem sq_iter0 {b : Bool} {h : Heap} {it a : Addr} (e : h.get? it = some (seqObj1 b a)) : SeqIt b h it a 0 := by
  cases b with
  | true => exact ⟨_, e, rfl, rfl⟩
  | false => exact ⟨_, e, rfl, rfl⟩

def ItZ2 (K : PySem.W.Frag) (b1 b2 : Bool) (a1 a2 : Addr) : It :=
  ⟨fun i H => ∃ (xs ys : List V) (x y : V), SqS K H b1 a1 xs ∧ SqS K H b2 a2 ys ∧ xs[i]? = some x ∧ ys[i]? = some y,
   fun i H v H' => ∃ T x y, v = .ref T ∧ H T = none ∧ H' = upd H T (.tup [x, y]) ∧ (∀ xs, SqS K H b1 a1 xs → xs[i]? = some x) ∧ ∀ ys, SqS K H b2 a2 ys → ys[i]? = some y,
   fun i H => ∃ xs ys : List V, SqS K H b1 a1 xs ∧ SqS K H b2 a2 ys ∧ i ≤ xs.length ∧ i ≤ ys.length ∧ (i = xs.length ∨ i = ys.length)⟩
def TnZ2 (b1 b2 : Bool) (z TI TO i1 i2 a1 a2 : Addr) (i : Nat) (h : Heap) : Prop := IsZip h z TI TO .none ∧ IsTupOf2 h TI (.ref i1) (.ref i2) ∧ (∃ x y, IsTupOf2 h TO x y) ∧ SeqIt b1 h i1 a1 i ∧ SeqIt b2 h i2 a2 i
theorem turn_z2 {P : Program} {w : World} {K : PySem.W.Frag} {elts : List Expr} {kk : Nat} {tpos : Pos} {b1 b2 : Bool} {z TI TO i1 i2 a1 a2 : Addr} (S : ZipSep2 z TI TO i1 i2 [i1, a1] [i2, a2]) (n1 : a1 ≠ i1) (n2 : a2 ≠ i2) :
    Turn P w K (.Tuple elts kk tpos) (ItZ2 K b1 b2 a1 a2) [z, TI, TO, i1, i2] z (TnZ2 b1 b2 z TI TO i1 i2 a1 a2) where
  mem := by simp
  obj := fun i h st c hc => by
    obtain ⟨hz, hTI, ⟨x, y, hTO⟩, h1, h2⟩ := st
    have e' : c = z ∨ c = TI ∨ c = TO ∨ c = i1 ∨ c = i2 := by simpa using hc
    rcases e' with rfl | rfl | rfl | rfl | rfl
    · exact ⟨_, hz, fun v q => nomatch q⟩
    · exact ⟨_, hTI, fun v q => nomatch q⟩
    · exact ⟨_, hTO, fun v q => nomatch q⟩
    · exact h1.live
    · exact h2.live
  keep := fun i h h' st k => by
    obtain ⟨hz, hTI, ⟨x, y, hTO⟩, h1, h2⟩ := st
    exact ⟨k z (by simp) _ hz, k TI (by simp) _ hTI, ⟨x, y, k TO (by simp) _ hTO⟩, h1.lift fun o q => k i1 (by simp) o q, h2.lift fun o q => k i2 (by simp) o q⟩
  item := by
    intro X hP hw hK hc i pins s σ H E I hf st hg
    subst hP hw hK
    obtain ⟨hz, hTI, ⟨x0, y0, hTO⟩, h1, h2⟩ := st
    obtain ⟨xs, ys, x, y, hqx, hqy, hx, hy⟩ := hg
    obtain ⟨its, rv, p, _⟩ := sq_of I hqx
    obtain ⟨its2, rv2, p2, _⟩ := sq_of I hqy
    obtain ⟨u, hu, ru⟩ := rv.get hx
    obtain ⟨u2, hu2, ru2⟩ := rv2.get hy
    have hzl : z < s.heap.objs.size := Heap.lt_size hz
    have D1 := sq_draws (prog := X.prog) (w := X.w) (A := X.A.in1) (I.ok.hd hc) b1 i1 a1 n1 its.toArray
    have D2 := sq_draws (prog := X.prog) (w := X.w) (A := X.A.in1) (I.ok.hd hc) b2 i2 a2 n2 its2.toArray
    refine wpAny_pyNext_zipD2_item S D1 D2 hz hTI hTO ⟨h1, p⟩ ⟨h2, p2⟩ (by have := (List.getElem?_eq_some_iff.mp hu).1; simpa using this) (by have := (List.getElem?_eq_some_iff.mp hu2).1; simpa using this) fun w1 w2 h' tk q1 q2 z' TO' st1 st2 hT hsz hk => ?_
    have e1 : w1 = u := by
      have : its.toArray[i]? = some u := by simpa using hu
      rw [q1] at this; exact Option.some.inj this
    have e2 : w2 = u2 := by
      have : its2.toArray[i]? = some u2 := by simpa using hu2
      rw [q2] at this; exact Option.some.inj this
    subst e1; subst e2
    refine ⟨_, rfl, wpAny_letOwnedTupleGo_zip (s := { s with heap := h', toks := tk }) z' fun h'' z'' sb => ?_⟩
    have hT2 := (sb.2 _ (Nat.ne_of_gt hzl)).trans hT
    have new : ObjOk X.prog X.w (upd H s.heap.objs.size (.tup [x, y])) h'' s.heap.objs.size (.tup [x, y]) := ⟨by show 2 ≤ sizeLine; decide, [w1, w2], .cons ru (.cons ru2 .nil), ⟨_, hT2, rfl, _, rfl⟩⟩
    have kk : ∀ c o, c ∉ [z, TI, TO, i1, i2] → s.heap.get? c = some o → h''.get? c = some o := fun c o hb q => by
      simp only [List.mem_cons, List.mem_nil_iff, or_false, not_or] at hb
      exact (sb.2 c hb.1).trans (hk c o hb.1 hb.2.2.1 hb.2.2.2.1 hb.2.2.2.2 q)
    have I1 : Inv X pins σ (upd H s.heap.objs.size (.tup [x, y])) { s with heap := h'', toks := tk } := I.turnedNew (ch := [z, TI, TO, i1, i2]) kk hf (Nat.le_refl _) new
    refine ⟨.ref s.heap.objs.size, _, I1, rfl, ⟨_, x, y, rfl, I.hok.fresh (Nat.le_refl _), rfl, fun l hl => by rw [sq_inj I hl hqx]; exact hx, fun l hl => by rw [sq_inj I hl hqy]; exact hy⟩, ⟨z'', ?_, ⟨w1, w2, ?_⟩, ?_, ?_⟩, fun c hcm => ?_⟩
    · exact (sb.2 _ S.TIz).trans (hk _ _ S.TIz S.TITO S.TIi1 S.TIi2 hTI)
    · exact (sb.2 _ S.TOz).trans TO'
    · exact st1.1.lift fun o q => (sb.2 _ S.zi1.symm).trans q
    · exact st2.1.lift fun o q => (sb.2 _ S.zi2.symm).trans q
    · have hlt : c < s.heap.objs.size := by
        have e' : c = z ∨ c = TI ∨ c = TO ∨ c = i1 ∨ c = i2 := by simpa using hcm
        rcases e' with q | q | q | q | q
        · rw [q]; exact hzl
        · rw [q]; exact Heap.lt_size hTI
        · rw [q]; exact Heap.lt_size hTO
        · obtain ⟨_, e, _⟩ := h1.live; rw [q]; exact Heap.lt_size e
        · obtain ⟨_, e, _⟩ := h2.live; rw [q]; exact Heap.lt_size e
      rw [upd_ne (Nat.ne_of_lt hlt)]
      exact (hf c hcm).1
  done := by
    intro X hP hw hK hc i pins s σ H E I hf st hg
    subst hP hw hK
    obtain ⟨hz, hTI, ⟨x0, y0, hTO⟩, h1, h2⟩ := st
    obtain ⟨xs, ys, hqx, hqy, e1, e2, hend⟩ := hg
    obtain ⟨its, rv, p, _⟩ := sq_of I hqx
    obtain ⟨its2, rv2, p2, _⟩ := sq_of I hqy
    have l1 := rv.length
    have l2 := rv2.length
    have D1 := sq_draws (prog := X.prog) (w := X.w) (A := X.A.in1) (I.ok.hd hc) b1 i1 a1 n1 its.toArray
    have D2 := sq_draws (prog := X.prog) (w := X.w) (A := X.A.in1) (I.ok.hd hc) b2 i2 a2 n2 its2.toArray
    refine wpAny_pyNext_zipD2_end S D1 D2 hz hTI hTO ⟨h1, p⟩ ⟨h2, p2⟩ (by rw [List.size_toArray]; omega) (by rw [List.size_toArray]; omega) (by rw [List.size_toArray, List.size_toArray]; omega) fun h' tk hk => ⟨rfl, I.turnedL (ch := [z, TI, TO, i1, i2]) (fun c o hb q => ?_) hf⟩
    simp only [List.mem_cons, List.mem_nil_iff, or_false, not_or] at hb
    exact hk c o hb.1 hb.2.2.1 hb.2.2.2.1 hb.2.2.2.2 q
  self := fun A i s Q E st h => wpAny_pyIter_zip st.1 h
def iZ2 (K : PySem.W.Frag) (b1 b2 : Bool) (ta : TA) : TI := fun σ H R => ta σ H fun vs H1 => ∃ a1 a2 xs ys, vs = [.ref a1, .ref a2] ∧ SqS K H1 b1 a1 xs ∧ SqS K H1 b2 a2 ys ∧ R (ItZ2 K b1 b2 a1 a2) H1
theorem pi_z2 {X : Cx} {e e2 : Expr} {ta : TA} {p pos tpos : Pos} {elts : List Expr} {kk : Nat} {b1 b2 : Bool} (hg : Gl X "zip") (hm : X.mg "zip" = none) (ha : PA X [e, e2] ta)
    (hs : starEach [e, e2] X.env = (false, eval e X.env) :: starEach [e2] X.env := by rfl) (hpl : (backTo pos (starEach [e2] X.env)).any (·.1) = false := by rfl) :
    PI X (.Tuple elts kk tpos) (.Call (.Name "zip" p) [e, e2] [] pos) (iZ2 X.K b1 b2 ta) := by
  refine ⟨fun pins s σ H R I h => ?_⟩
  refine PyProof.Rows.Call_ (ld_blt I hg hm PyProof.Rows.boot_zip (PyProof.Rows.callWith_type1 (thn (ha.run pos pins s σ H _ I h) fun us s1 ⟨vs, H1, I1, r1, q1⟩ => ?_) hs hpl))
  obtain ⟨a1, a2, xs, ys, ex, hqx, hqy, q⟩ := q1
  subst ex
  obtain ⟨u1, u2, rfl, r, r'⟩ := vals2 r1
  cases r
  cases r'
  obtain ⟨its, rv, p1, l1⟩ := sq_of I1 hqx
  obtain ⟨its2, rv2, p2, l2⟩ := sq_of I1 hqy
  refine zip_begins2 (sq_begins b1 a1 its.toArray) (sq_begins b2 a2 its2.toArray) p1 p2 fun h' hz hTI hTO g1 g2 hsz hk => wpAny_pyIter_zip hz ?_
  have sep := zip_sep2 (N := s1.heap.objs.size) (fp1 := [a1]) (fp2 := [a2]) (fun b hb => by rw [List.mem_singleton.mp hb]; exact l1) (fun b hb => by rw [List.mem_singleton.mp hb]; exact l2)
  refine ⟨s1.heap.objs.size + 4, _, _, _, H1, rfl, I1.kept (t' := s1.toks) hk, turn_z2 sep (Nat.ne_of_lt l1) (Nat.ne_of_lt (Nat.lt_of_lt_of_le l2 (Nat.le_add_right _ 1))), ⟨hz, hTI, ⟨_, _, hTO⟩, sq_iter0 g1, sq_iter0 g2⟩, fun c hcm => ?_, q⟩
  have hle : s1.heap.objs.size ≤ c := by
    simp only [List.mem_cons, List.mem_nil_iff, or_false] at hcm
    rcases hcm with z | z | z | z | z <;> rw [z] <;> first | exact Nat.le_refl _ | exact Nat.le_add_right _ _
  exact I1.fpOk hle (I1.hok.fresh hle)
end Sk


set_option Elab.async false
set_option linter.all false
set_option maxRecDepth 100000
set_option maxHeartbeats 4000000
namespace Sk
open PySem L2
/-! ### three at once -/
def ItZ3 (K : PySem.W.Frag) (b1 b2 b3 : Bool) (a1 a2 a3 : Addr) : It :=
  ⟨fun i H => ∃ (xs ys zs : List V) (x y z : V), SqS K H b1 a1 xs ∧ SqS K H b2 a2 ys ∧ SqS K H b3 a3 zs ∧ xs[i]? = some x ∧ ys[i]? = some y ∧ zs[i]? = some z,
   fun i H v H' => ∃ T x y z, v = .ref T ∧ H T = none ∧ H' = upd H T (.tup [x, y, z]) ∧ (∀ xs, SqS K H b1 a1 xs → xs[i]? = some x) ∧ (∀ ys, SqS K H b2 a2 ys → ys[i]? = some y) ∧ ∀ zs, SqS K H b3 a3 zs → zs[i]? = some z,
   fun i H => ∃ xs ys zs : List V, SqS K H b1 a1 xs ∧ SqS K H b2 a2 ys ∧ SqS K H b3 a3 zs ∧ i ≤ xs.length ∧ i ≤ ys.length ∧ i ≤ zs.length ∧ (i = xs.length ∨ i = ys.length ∨ i = zs.length)⟩
def TnZ3 (b1 b2 b3 : Bool) (z TI TO i1 i2 i3 a1 a2 a3 : Addr) (i : Nat) (h : Heap) : Prop := IsZip h z TI TO .none ∧ IsTupOf3 h TI (.ref i1) (.ref i2) (.ref i3) ∧ (∃ x y u, IsTupOf3 h TO x y u) ∧ SeqIt b1 h i1 a1 i ∧ SeqIt b2 h i2 a2 i ∧ SeqIt b3 h i3 a3 i
theorem sq_lt {its : List Value} {i : Nat} {u : Value} (h : its[i]? = some u) : i < its.toArray.size := by
  have := (List.getElem?_eq_some_iff.mp h).1
  simpa using this
theorem sq_same {its : List Value} {i : Nat} {u v : Value} (h : its[i]? = some u) (q : its.toArray[i]? = some v) : v = u := by
  have h' : its.toArray[i]? = some u := by simpa using h
  rw [q] at h'
  exact Option.some.inj h'
theorem turn_z3 {P : Program} {w : World} {K : PySem.W.Frag} {elts : List Expr} {kk : Nat} {tpos : Pos} {b1 b2 b3 : Bool} {z TI TO i1 i2 i3 a1 a2 a3 : Addr} (S : ZipSep3 z TI TO i1 i2 i3 [i1, a1] [i2, a2] [i3, a3]) (n1 : a1 ≠ i1) (n2 : a2 ≠ i2) (n3 : a3 ≠ i3) :
    Turn P w K (.Tuple elts kk tpos) (ItZ3 K b1 b2 b3 a1 a2 a3) [z, TI, TO, i1, i2, i3] z (TnZ3 b1 b2 b3 z TI TO i1 i2 i3 a1 a2 a3) where
  mem := by simp
  obj := fun i h st c hc => by
    obtain ⟨hz, hTI, ⟨x, y, u, hTO⟩, h1, h2, h3⟩ := st
    simp only [List.mem_cons, List.mem_nil_iff, or_false] at hc
    rcases hc with rfl | rfl | rfl | rfl | rfl | rfl
    · exact ⟨_, hz, fun v q => nomatch q⟩
    · exact ⟨_, hTI, fun v q => nomatch q⟩
    · exact ⟨_, hTO, fun v q => nomatch q⟩
    · exact h1.live
    · exact h2.live
    · exact h3.live
  keep := fun i h h' st k => by
    obtain ⟨hz, hTI, ⟨x, y, u, hTO⟩, h1, h2, h3⟩ := st
    exact ⟨k z (by simp) _ hz, k TI (by simp) _ hTI, ⟨x, y, u, k TO (by simp) _ hTO⟩, h1.lift fun o q => k i1 (by simp) o q, h2.lift fun o q => k i2 (by simp) o q, h3.lift fun o q => k i3 (by simp) o q⟩
  item := by
    intro X hP hw hK hc i pins s σ H E I hf st hg
    subst hP hw hK
    obtain ⟨hz, hTI, ⟨x0, y0, u0, hTO⟩, h1, h2, h3⟩ := st
    obtain ⟨xs, ys, zs, x, y, v, hqx, hqy, hqz, hx, hy, hv⟩ := hg
    obtain ⟨its, rv, p, _⟩ := sq_of I hqx
    obtain ⟨its2, rv2, p2, _⟩ := sq_of I hqy
    obtain ⟨its3, rv3, p3, _⟩ := sq_of I hqz
    obtain ⟨u, hu, ru⟩ := rv.get hx
    obtain ⟨u2, hu2, ru2⟩ := rv2.get hy
    obtain ⟨u3, hu3, ru3⟩ := rv3.get hv
    have hzl : z < s.heap.objs.size := Heap.lt_size hz
    have D1 := sq_draws (prog := X.prog) (w := X.w) (A := X.A.in1) (I.ok.hd hc) b1 i1 a1 n1 its.toArray
    have D2 := sq_draws (prog := X.prog) (w := X.w) (A := X.A.in1) (I.ok.hd hc) b2 i2 a2 n2 its2.toArray
    have D3 := sq_draws (prog := X.prog) (w := X.w) (A := X.A.in1) (I.ok.hd hc) b3 i3 a3 n3 its3.toArray
    refine wpAny_pyNext_zipD3_item S D1 D2 D3 hz hTI hTO ⟨h1, p⟩ ⟨h2, p2⟩ ⟨h3, p3⟩ (sq_lt hu) (sq_lt hu2) (sq_lt hu3) fun w1 w2 w3 h' tk q1 q2 q3 z' TO' st1 st2 st3 hT hsz hk => ?_
    have e1 := sq_same hu q1
    have e2 := sq_same hu2 q2
    have e3 := sq_same hu3 q3
    subst e1; subst e2; subst e3
    refine ⟨_, rfl, wpAny_letOwnedTupleGo_zip (s := { s with heap := h', toks := tk }) z' fun h'' z'' sb => ?_⟩
    have hT2 := (sb.2 _ (Nat.ne_of_gt hzl)).trans hT
    have new : ObjOk X.prog X.w (upd H s.heap.objs.size (.tup [x, y, v])) h'' s.heap.objs.size (.tup [x, y, v]) := ⟨by show 3 ≤ sizeLine; decide, [w1, w2, w3], .cons ru (.cons ru2 (.cons ru3 .nil)), ⟨_, hT2, rfl, _, rfl⟩⟩
    have kk : ∀ c o, c ∉ [z, TI, TO, i1, i2, i3] → s.heap.get? c = some o → h''.get? c = some o := fun c o hb q => by
      simp only [List.mem_cons, List.mem_nil_iff, or_false, not_or] at hb
      exact (sb.2 c hb.1).trans (hk c o hb.1 hb.2.2.1 hb.2.2.2.1 hb.2.2.2.2.1 hb.2.2.2.2.2 q)
    have I1 : Inv X pins σ (upd H s.heap.objs.size (.tup [x, y, v])) { s with heap := h'', toks := tk } := I.turnedNew (ch := [z, TI, TO, i1, i2, i3]) kk hf (Nat.le_refl _) new
    refine ⟨.ref s.heap.objs.size, _, I1, rfl, ⟨_, x, y, v, rfl, I.hok.fresh (Nat.le_refl _), rfl, fun l hl => by rw [sq_inj I hl hqx]; exact hx, fun l hl => by rw [sq_inj I hl hqy]; exact hy, fun l hl => by rw [sq_inj I hl hqz]; exact hv⟩, ⟨z'', ?_, ⟨w1, w2, w3, ?_⟩, ?_, ?_, ?_⟩, fun c hcm => ?_⟩
    · exact (sb.2 _ S.TIz).trans (hk _ _ S.TIz S.TITO S.TIi1 S.TIi2 S.TIi3 hTI)
    · exact (sb.2 _ S.TOz).trans TO'
    · exact st1.1.lift fun o q => (sb.2 _ S.zi1.symm).trans q
    · exact st2.1.lift fun o q => (sb.2 _ S.zi2.symm).trans q
    · exact st3.1.lift fun o q => (sb.2 _ S.zi3.symm).trans q
    · have hlt : c < s.heap.objs.size := by
        simp only [List.mem_cons, List.mem_nil_iff, or_false] at hcm
        rcases hcm with q | q | q | q | q | q
        · rw [q]; exact hzl
        · rw [q]; exact Heap.lt_size hTI
        · rw [q]; exact Heap.lt_size hTO
        · obtain ⟨_, e, _⟩ := h1.live; rw [q]; exact Heap.lt_size e
        · obtain ⟨_, e, _⟩ := h2.live; rw [q]; exact Heap.lt_size e
        · obtain ⟨_, e, _⟩ := h3.live; rw [q]; exact Heap.lt_size e
      rw [upd_ne (Nat.ne_of_lt hlt)]
      exact (hf c hcm).1
  done := by
    intro X hP hw hK hc i pins s σ H E I hf st hg
    subst hP hw hK
    obtain ⟨hz, hTI, ⟨x0, y0, u0, hTO⟩, h1, h2, h3⟩ := st
    obtain ⟨xs, ys, zs, hqx, hqy, hqz, e1, e2, e3, hend⟩ := hg
    obtain ⟨its, rv, p, _⟩ := sq_of I hqx
    obtain ⟨its2, rv2, p2, _⟩ := sq_of I hqy
    obtain ⟨its3, rv3, p3, _⟩ := sq_of I hqz
    have l1 := rv.length
    have l2 := rv2.length
    have l3 := rv3.length
    have D1 := sq_draws (prog := X.prog) (w := X.w) (A := X.A.in1) (I.ok.hd hc) b1 i1 a1 n1 its.toArray
    have D2 := sq_draws (prog := X.prog) (w := X.w) (A := X.A.in1) (I.ok.hd hc) b2 i2 a2 n2 its2.toArray
    have D3 := sq_draws (prog := X.prog) (w := X.w) (A := X.A.in1) (I.ok.hd hc) b3 i3 a3 n3 its3.toArray
    refine wpAny_pyNext_zipD3_end S D1 D2 D3 hz hTI hTO ⟨h1, p⟩ ⟨h2, p2⟩ ⟨h3, p3⟩ (by rw [List.size_toArray]; omega) (by rw [List.size_toArray]; omega) (by rw [List.size_toArray]; omega) (by rw [List.size_toArray, List.size_toArray, List.size_toArray]; omega) fun h' tk hk => ⟨rfl, I.turnedL (ch := [z, TI, TO, i1, i2, i3]) (fun c o hb q => ?_) hf⟩
    simp only [List.mem_cons, List.mem_nil_iff, or_false, not_or] at hb
    exact hk c o hb.1 hb.2.2.1 hb.2.2.2.1 hb.2.2.2.2.1 hb.2.2.2.2.2 q
  self := fun A i s Q E st h => wpAny_pyIter_zip st.1 h
def iZ3 (K : PySem.W.Frag) (b1 b2 b3 : Bool) (ta : TA) : TI := fun σ H R => ta σ H fun vs H1 => ∃ a1 a2 a3 xs ys zs, vs = [.ref a1, .ref a2, .ref a3] ∧ SqS K H1 b1 a1 xs ∧ SqS K H1 b2 a2 ys ∧ SqS K H1 b3 a3 zs ∧ R (ItZ3 K b1 b2 b3 a1 a2 a3) H1
theorem pi_z3 {X : Cx} {e e2 e3 : Expr} {ta : TA} {p pos tpos : Pos} {elts : List Expr} {kk : Nat} {b1 b2 b3 : Bool} (hg : Gl X "zip") (hm : X.mg "zip" = none) (ha : PA X [e, e2, e3] ta)
    (hs : starEach [e, e2, e3] X.env = (false, eval e X.env) :: starEach [e2, e3] X.env := by rfl) (hpl : (backTo pos (starEach [e2, e3] X.env)).any (·.1) = false := by rfl) :
    PI X (.Tuple elts kk tpos) (.Call (.Name "zip" p) [e, e2, e3] [] pos) (iZ3 X.K b1 b2 b3 ta) := by
  refine ⟨fun pins s σ H R I h => ?_⟩
  refine PyProof.Rows.Call_ (ld_blt I hg hm PyProof.Rows.boot_zip (PyProof.Rows.callWith_type1 (thn (ha.run pos pins s σ H _ I h) fun us s1 ⟨vs, H1, I1, r1, q1⟩ => ?_) hs hpl))
  obtain ⟨a1, a2, a3, xs, ys, zs, ex, hqx, hqy, hqz, q⟩ := q1
  subst ex
  obtain ⟨u1, u2, u3, rfl, r, r', r''⟩ : ∃ u1 u2 u3, us = [u1, u2, u3] ∧ RelV (.ref a1) u1 ∧ RelV (.ref a2) u2 ∧ RelV (.ref a3) u3 := by
    cases r1 with
    | cons p1 t1 => cases t1 with
      | cons p2 t2 => cases t2 with
        | cons p3 t3 => cases t3; exact ⟨_, _, _, rfl, p1, p2, p3⟩
  cases r
  cases r'
  cases r''
  obtain ⟨its, rv, p1, l1⟩ := sq_of I1 hqx
  obtain ⟨its2, rv2, p2, l2⟩ := sq_of I1 hqy
  obtain ⟨its3, rv3, p3, l3⟩ := sq_of I1 hqz
  refine zip_begins3 (sq_begins b1 a1 its.toArray) (sq_begins b2 a2 its2.toArray) (sq_begins b3 a3 its3.toArray) p1 p2 p3 fun h' hz hTI hTO g1 g2 g3 hsz hk => wpAny_pyIter_zip hz ?_
  have sep := zip_sep3 (N := s1.heap.objs.size) (fp1 := [a1]) (fp2 := [a2]) (fp3 := [a3]) (fun b hb => by rw [List.mem_singleton.mp hb]; exact l1) (fun b hb => by rw [List.mem_singleton.mp hb]; exact l2) (fun b hb => by rw [List.mem_singleton.mp hb]; exact l3)
  refine ⟨s1.heap.objs.size + 5, _, _, _, H1, rfl, I1.kept (t' := s1.toks) hk, turn_z3 sep (Nat.ne_of_lt l1) (Nat.ne_of_lt (Nat.lt_of_lt_of_le l2 (Nat.le_add_right _ 1))) (Nat.ne_of_lt (Nat.lt_of_lt_of_le l3 (Nat.le_add_right _ 2))), ⟨hz, hTI, ⟨_, _, _, hTO⟩, sq_iter0 g1, sq_iter0 g2, sq_iter0 g3⟩, fun c hcm => ?_, q⟩
  have hle : s1.heap.objs.size ≤ c := by
    simp only [List.mem_cons, List.mem_nil_iff, or_false] at hcm
    rcases hcm with z | z | z | z | z | z <;> rw [z] <;> first | exact Nat.le_refl _ | exact Nat.le_add_right _ _
  exact I1.fpOk hle (I1.hok.fresh hle)

/-! ### enumerate(t) -/
theorem meets_enum1 {v : Value} {ob : Obj} {Hh : Heap → Prop} (B : Begins v ob Hh) :
    PySem.Meets (Builtin.«enumerate.__new__» ⟨[.type "enumerate", v], []⟩) (fun _ R s => Hh s.heap ∧ R (.ok (.ret (.ref (s.heap.push ob).objs.size)))
      { s with heap := (s.heap.push ob).push { cls := .type "enumerate", data := .fields #[.none, .bool false, .ref s.heap.objs.size, rawInt 0, .none, .none] } }) :=
  .of_wp fun prog w A R s h => by
    obtain ⟨hp, gs, dr, tk, os⟩ := s
    obtain ⟨h1, hR⟩ := h
    have hsub := sub_enumerate
    have begins : ∀ {A' : Around} {E : Value → Shared → Prop} {Q : Value → Shared → Prop}, Q (.ref hp.objs.size) ⟨hp.push ob, gs, dr, tk, os⟩ → wpAny (model prog w) A' (pyIter v) Q E ⟨hp, gs, dr, tk, os⟩ := fun q => B.iter prog w _ _ ⟨hp, gs, dr, tk, os⟩ _ h1 q
    wp_walk using begins
    refine wpAny_stack_any fun st => wpAny_pure ?_
    split
    · next c _ _ _ _ _ =>
      cases (c == Value.type "enumerate") <;> (wp_walk using begins; exact ⟨_, rfl, hR⟩)
    · wp_walk using begins
      exact ⟨_, rfl, hR⟩
theorem call_enum1 {prog : Program} {w : World} {A : Around} {E : Value → Shared → Prop} {s : Shared} {v : Value} {ob : Obj} {Hh : Heap → Prop} {Q : Value → Shared → Prop} (B : Begins v ob Hh) (h1 : Hh s.heap)
    (h : ∀ h', IsEnum h' (s.heap.objs.size + 1) s.heap.objs.size 0 .none → h'.get? s.heap.objs.size = some ob → (∀ b o, s.heap.get? b = some o → h'.get? b = some o) → Q (.ref (s.heap.objs.size + 1)) { s with heap := h' }) :
    wpAny (model prog w) A (call (.type "enumerate") [v]) Q E s := by
  have hz : (s.heap.push ob).objs.size = s.heap.objs.size + 1 := Heap.size_push ..
  refine callType_new F.called_enumerate (by decide) (F.typeCall_enumerate_1 _) (F.newCall_enumerate_1 _) (fun obj => F.args_object_init_2 obj _) F.entry_enumerate_new (meets_enum1 B) ⟨h1, ?_⟩
  have he : IsEnum ((s.heap.push ob).push { cls := .type "enumerate", data := .fields #[.none, .bool false, .ref s.heap.objs.size, rawInt 0, .none, .none] }) (s.heap.objs.size + 1) s.heap.objs.size 0 .none := by
    rw [← hz]
    exact Heap.get?_push_size _ rfl
  show _ ∧ _
  rw [hz]
  exact ⟨⟨_, he, rfl⟩, h _ he (Heap.get?_push_of_some _ (Heap.get?_push_size _ B.free)) fun b o q => Heap.get?_push_of_some _ (Heap.get?_push_of_some _ q)⟩
/-- the sequence at a as it stands at each turn, each item in a new pair with its number -/
def ItE (K : PySem.W.Frag) (b : Bool) (a : Addr) : It :=
  ⟨fun i H => ∃ (xs : List V) (x : V), SqS K H b a xs ∧ xs[i]? = some x, fun i H v H' => ∃ T x, v = .ref T ∧ H T = none ∧ H' = upd H T (.tup [.int (i : Nat), x]) ∧ ∀ xs, SqS K H b a xs → xs[i]? = some x, fun i H => ∃ xs : List V, SqS K H b a xs ∧ xs.length = i⟩
theorem turn_enumS {P : Program} {w : World} {K : PySem.W.Frag} {elts : List Expr} {kk : Nat} {tpos : Pos} {b : Bool} {a e it : Addr} (ne : e ≠ it) (na : a ≠ it) (nea : e ≠ a) :
    Turn P w K (.Tuple elts kk tpos) (ItE K b a) [e, it] e (fun i h => (∃ old, IsEnum h e it ((i : Nat) : Int) old) ∧ SeqIt b h it a i) where
  mem := by simp
  obj := fun i h st c hc => by
    obtain ⟨⟨old, he⟩, hi⟩ := st
    simp only [List.mem_cons, List.mem_nil_iff, or_false] at hc
    rcases hc with rfl | rfl
    · exact ⟨_, he, fun v q => nomatch q⟩
    · exact hi.live
  keep := fun i h h' st k => by
    obtain ⟨⟨old, he⟩, hi⟩ := st
    exact ⟨⟨old, k e (by simp) _ he⟩, hi.lift fun o q => k it (by simp) o q⟩
  item := by
    intro X hP hw hK hc i pins s σ H E I hf st hg
    subst hP hw hK
    obtain ⟨⟨old, he⟩, hit⟩ := st
    obtain ⟨xs, x, hq, hx⟩ := hg
    obtain ⟨its, rv, p, _⟩ := sq_of I hq
    obtain ⟨u, hu, ru⟩ := rv.get hx
    have hel : e < s.heap.objs.size := Heap.lt_size he
    have D := sq_draws (prog := X.prog) (w := X.w) (A := X.A.in1) (I.ok.hd hc) b it a na its.toArray
    refine wpAny_pyNext_enum_itemC D he ⟨hit, p⟩ (sq_lt hu) ne (by simp only [List.mem_cons, List.mem_nil_iff, or_false, not_or]; exact ⟨ne, nea⟩) fun w1 h' tk q1 ho st1 hT hsz hk => ?_
    have e1 := sq_same hu q1
    subst e1
    refine ⟨_, rfl, wpAny_letOwnedTupleGo_enum (s := { s with heap := h', toks := tk + 1 }) ho fun h'' he' sb => ?_⟩
    have hT2 := (sb.2 _ (Nat.ne_of_gt hel)).trans hT
    have new : ObjOk X.prog X.w (upd H s.heap.objs.size (.tup [.int (i : Nat), x])) h'' s.heap.objs.size (.tup [.int (i : Nat), x]) := ⟨by show 2 ≤ sizeLine; decide, [.int i tk, w1], .cons ⟨_, rfl⟩ (.cons ru .nil), ⟨_, hT2, rfl, _, rfl⟩⟩
    have kk : ∀ c o, c ∉ [e, it] → s.heap.get? c = some o → h''.get? c = some o := fun c o hb q => by
      simp only [List.mem_cons, List.mem_nil_iff, or_false, not_or] at hb
      exact (sb.2 c hb.1).trans (hk c o hb.1 hb.2 q)
    have I1 : Inv X pins σ (upd H s.heap.objs.size (.tup [.int (i : Nat), x])) { s with heap := h'', toks := tk + 1 } := I.turnedNew (ch := [e, it]) kk hf (Nat.le_refl _) new
    refine ⟨.ref s.heap.objs.size, _, I1, rfl, ⟨_, x, rfl, I.hok.fresh (Nat.le_refl _), rfl, fun l hl => by rw [sq_inj I hl hq]; exact hx⟩, ⟨⟨w1, ?_⟩, st1.1.lift fun o q => (sb.2 it ne.symm).trans q⟩, fun c hcm => ?_⟩
    · have e1 : ((i + 1 : Nat) : Int) = (i : Int) + 1 := by omega
      rw [e1]; exact he'
    · have hlt : c < s.heap.objs.size := by
        simp only [List.mem_cons, List.mem_nil_iff, or_false] at hcm
        rcases hcm with q | q
        · rw [q]; exact hel
        · obtain ⟨_, z, _⟩ := hit.live; rw [q]; exact Heap.lt_size z
      rw [upd_ne (Nat.ne_of_lt hlt)]
      exact (hf c hcm).1
  done := by
    intro X hP hw hK hc i pins s σ H E I hf st hg
    subst hP hw hK
    obtain ⟨⟨old, he⟩, hit⟩ := st
    obtain ⟨xs, hq, hl⟩ := hg
    obtain ⟨its, rv, p, _⟩ := sq_of I hq
    have l1 := rv.length
    have D := sq_draws (prog := X.prog) (w := X.w) (A := X.A.in1) (I.ok.hd hc) b it a na its.toArray
    have hn : its.toArray.size = i := by rw [List.size_toArray]; omega
    obtain ⟨f0, f1, f2, f3, f4, f5⟩ := hf it (by simp)
    exact wpAny_pyNext_enum_endD D he (by rw [hn]; exact ⟨hit, p⟩) fun h' eb => ⟨rfl, I.turned (t' := s.toks) (fun c o hb q => eb c o hb q) f0 f1 f3 f4 f5⟩
  self := fun A i s Q E st h => by
    obtain ⟨⟨_, he⟩, _⟩ := st
    exact wpAny_pyIter_enum he h
def iEnS (K : PySem.W.Frag) (b : Bool) (ta : TA) : TI := fun σ H R => ta σ H fun vs H1 => ∃ a xs, vs = [.ref a] ∧ SqS K H1 b a xs ∧ R (ItE K b a) H1
theorem pi_enS {X : Cx} {e : Expr} {ta : TA} {p pos tpos : Pos} {elts : List Expr} {kk : Nat} {b : Bool} (hg : Gl X "enumerate") (hm : X.mg "enumerate" = none) (ha : PA X [e] ta) (hs : starEach [e] X.env = [(false, eval e X.env)] := by rfl) :
    PI X (.Tuple elts kk tpos) (.Call (.Name "enumerate" p) [e] [] pos) (iEnS X.K b ta) := by
  refine ⟨fun pins s σ H R I h => ?_⟩
  refine PyProof.Rows.Call_ (ld_blt I hg hm PyProof.Rows.boot_enumerate (PyProof.Rows.callWith_type1 (thn (ha.run pos pins s σ H _ I h) fun us s1 ⟨vs, H1, I1, r1, q1⟩ => ?_) hs rfl))
  obtain ⟨a, xs, ex, hq, q⟩ := q1
  subst ex
  obtain ⟨u1, rfl, r⟩ := vals1 r1
  cases r
  obtain ⟨its, rv, p1, l1⟩ := sq_of I1 hq
  refine call_enum1 (sq_begins b a its.toArray) p1 fun h' he g1 hk => wpAny_pyIter_enum he ?_
  refine ⟨s1.heap.objs.size + 1, [s1.heap.objs.size + 1, s1.heap.objs.size], _, _, H1, rfl, I1.kept (t' := s1.toks) hk, turn_enumS (Nat.succ_ne_self _) (Nat.ne_of_lt l1) (Nat.ne_of_gt (Nat.lt_succ_of_lt l1)), ⟨⟨.none, he⟩, sq_iter0 g1⟩, fun c hcm => ?_, q⟩
  have hle : s1.heap.objs.size ≤ c := by
    simp only [List.mem_cons, List.mem_nil_iff, or_false] at hcm
    rcases hcm with z | z <;> rw [z] <;> first | exact Nat.le_refl _ | exact Nat.le_add_right _ _
  exact I1.fpOk hle (I1.hok.fresh hle)
end Sk


set_option Elab.async false
set_option linter.all false
set_option maxRecDepth 100000
set_option maxHeartbeats 4000000
namespace Sk
open PySem L2
/-! ### t[::-1] of a tuple -/
section
variable {prog : Program} {w : World} {A : Around} {E : Value → Shared → Prop} {s : Shared}
theorem rev_adjust (n : Nat) : Builtin.Slice.sliceAdjust none none (-1) (n : Int) = ((n : Int) - 1, -1) := rfl
theorem rev_places (n : Nat) : Builtin.Slice.slicePlaces ((n : Int) - 1) (-1) (-1) = n := by
  unfold Builtin.Slice.slicePlaces
  rw [if_neg (by decide)]
  by_cases h : ((n : Int) - 1) > -1
  · rw [if_pos h]
    have e : (-(-1 : Int)) = 1 := rfl
    rw [e, Int.ediv_one]
    omega
  · rw [if_neg h]
    omega
theorem rev_applied {sl : Addr} {vk : Value} {n : Nat} {Q : Int × Int × Nat → Shared → Prop} (hs : s.heap.IsSliceOf sl .none .none vk) (pk : IsPart vk (some (-1))) (h : Q ((n : Int) - 1, -1, n) s) : wpAny (model prog w) A (Builtin.Slice.sliceApplied (.ref sl) (pure (n : Int))) Q E s := by
  obtain ⟨ob, hob, hcl, hda⟩ := id hs
  unfold Builtin.Slice.sliceApplied Builtin.Slice.sliceFields
  have f0 : ∀ {R : Value → Shared → Prop}, R .none s → wpAny (model prog w) A (field (.ref sl) 0) R E s := fun r => wpAny_field hob hda rfl r
  have f1 : ∀ {R : Value → Shared → Prop}, R .none s → wpAny (model prog w) A (field (.ref sl) 1) R E s := fun r => wpAny_field hob hda rfl r
  have f2 : ∀ {R : Value → Shared → Prop}, R vk s → wpAny (model prog w) A (field (.ref sl) 2) R E s := fun r => wpAny_field hob hda rfl r
  refine wpAny_bind (wpAny_bind (f0 (wpAny_bind (f1 (wpAny_bind (f2 (wpAny_pure ?_)))))))
  refine wpAny_bind (HT.slicePart_ pk ?_)
  show wpAny _ _ (if ((-1 : Int) == 0) = true then _ else _) _ _ s
  rw [if_neg (by decide)]
  refine wpAny_bind (PyProof.Rows.slicePart_none (wpAny_bind (PyProof.Rows.slicePart_none (wpAny_bind (wpAny_pure ?_)))))
  show wpAny _ _ (pure ((n : Int) - 1, (-1 : Int), Builtin.Slice.slicePlaces ((n : Int) - 1) (-1) (-1))) _ _ s
  rw [rev_places]
  exact wpAny_pure h
theorem filterMap_some {α β : Type} {f : α → Option β} {g : α → β} : ∀ {l : List α}, (∀ m ∈ l, f m = some (g m)) → l.filterMap f = l.map g
  | [], _ => rfl
  | a :: r, h => by
    rw [List.filterMap_cons, h a List.mem_cons_self, List.map_cons, filterMap_some fun m hm => h m (List.mem_cons_of_mem _ hm)]
theorem rev_pick (xs : Array Value) : ((List.range xs.size).filterMap fun (m : Nat) => xs[(((xs.size : Nat) : Int) - 1 + (m : Int) * -1).toNat]?).toArray = xs.toList.reverse.toArray := by
  congr 1
  rw [filterMap_some (g := fun m => xs.toList.reverse.getD m .none) fun m hm => ?_]
  · refine List.ext_getElem? fun k => ?_
    rw [List.getElem?_map]
    by_cases hk : k < xs.size
    · rw [List.getElem?_range hk]
      have : k < xs.toList.reverse.length := by rw [List.length_reverse, Array.length_toList]; exact hk
      simp only [Option.map_some, List.getD_eq_getElem?_getD, List.getElem?_eq_getElem this, Option.getD_some]
    · rw [List.getElem?_eq_none (by rw [List.length_range]; omega), List.getElem?_eq_none (by rw [List.length_reverse, Array.length_toList]; omega)]
      rfl
  · have hl : m < xs.size := List.mem_range.mp hm
    have e1 : (((xs.size : Nat) : Int) - 1 + (m : Int) * -1).toNat = xs.size - 1 - m := by omega
    have h1 : xs.size - 1 - m < xs.size := by omega
    have h2 : m < xs.toList.reverse.length := by rw [List.length_reverse, Array.length_toList]; exact hl
    rw [e1, Array.getElem?_eq_getElem h1, List.getD_eq_getElem?_getD, List.getElem?_eq_getElem h2, Option.getD_some, List.getElem_reverse]
    simp
open PyProof.Rows in
theorem getItem_tuple_rev {t sl : Addr} {its : Array Value} {vk : Value} {Q : Value → Shared → Prop} (ht : IsTup s.heap t its) (hs : s.heap.IsSliceOf sl .none .none vk) (pk : IsPart vk (some (-1))) (hz : its.size ≤ sizeLine)
    (h : Q (.ref s.heap.objs.size) { s with heap := s.heap.push { cls := .type "tuple", data := .seq its.toList.reverse.toArray } }) : wpAny (model prog w) A (getItem (.ref t) (.ref sl)) Q E s := by
  obtain ⟨ob, hob, hcl, hda⟩ := id hs
  have ty : s.TypeIs (.ref sl) "slice" := ⟨ob, hob, hcl⟩
  have ok : sizeOk (.seq its.toList.reverse.toArray) := by
    show its.toList.reverse.toArray.size ≤ sizeLine
    rw [List.size_toArray, List.length_reverse, Array.length_toList]; exact hz
  unfold getItem
  try with_reducible refine wpAny_holding ?_
  first | refine wpAny_bind (wpAny_pure ?_) | skip
  refine wpAny_bind (wpAny_sequenceKey ht.typeIs (by decide) ?_)
  refine wpAny_bind (wpAny_callSpecial?_slot (name := Str.ofString "__getitem__") ht.typeIs slot_tuple_getitem (wpAny_call_entry slot_tuple_getitem ht.typeIs entry_tuple_getitem ?_ (args_tuple_getitem _ _)))
  show wpAny _ _ (Builtin.Tuple.tupleItemsOf (.ref t) >>= _) _ _ s
  refine wpAny_bind (tupleItemsOf_ ht (wpAny_bind (wpAny_typeOf ty ?_)))
  rw [if_pos (by decide)]
  refine wpAny_bind (rev_applied hs pk ?_)
  show wpAny _ _ (if ((((its.size : Nat) : Int) - 1) == 0 && (-1 : Int) == 1 && its.size == its.size) = true then _ else _) _ _ s
  rw [if_neg (by simp), rev_pick]
  first
    | exact wpAny_bind (m := Builtin.Tuple.tupleExact _) (wpAny_newObj_type (wpAny_pure ⟨_, rfl, wpAny_pure h⟩) ok)
    | exact wpAny_bind (m := Builtin.Tuple.tupleExact _) (wpAny_newObj_type (wpAny_bind (wpAny_pure (wpAny_pure ⟨_, rfl, wpAny_pure h⟩))) ok)
    | exact wpAny_bind (wpAny_bind (m := Builtin.Tuple.tupleExact _) (wpAny_newObj_type (wpAny_pure (wpAny_pure ⟨_, rfl, wpAny_pure h⟩)) ok))
    | exact wpAny_bind (wpAny_bind (m := Builtin.Tuple.tupleExact _) (wpAny_newObj_type (wpAny_pure ⟨_, rfl, wpAny_pure h⟩) ok))
end

section
variable {X : Cx}
def tRevT (K : PySem.W.Frag) (te : TE) : TE := fun σ H Q => te σ H fun x H1 => ∃ a xs, x = .ref a ∧ SqT K H1 a xs ∧ ∀ p, H1 p = none → Q (.ref p) (upd H1 p (.tup xs.reverse))
theorem pe_revT {e : Expr} {te : TE} {k : Nat} {p1 p2 p3 pos : Pos} (he : PE X e te) : PE X (.Subscript e (.Slice none none (some (.UnaryOp .USub (.Constant (.int 1) k p1) p2)) p3) pos) (tRevT X.K te) := by
  refine ⟨fun pins s σ H Q I h => ?_⟩
  refine PyProof.Rows.Subscript_ (thn (he.run pins s σ H _ I h) fun v s1 ⟨x, H1, I1, r1, q1⟩ => ?_)
  obtain ⟨a, xs, rfl, hx, q⟩ := q1
  cases r1
  have hst : PO X (some (.UnaryOp .USub (.Constant (.int 1) k p1) p2)) (tPart (tUn (rU fun i => .int (-i)) (tC (.int 1)))) := po_some (pe_un un_neg pe_int)
  refine wpAny_Slice (thn (po_none.run pins s1 σ H1 (fun o H2 => o = none ∧ H2 = H1) I1 ⟨rfl, rfl⟩) fun vl s2 ⟨l, H2, I2, pl, el, e2⟩ => ?_)
  subst el; subst e2
  refine thn (po_none.run pins s2 σ H2 (fun o H3 => o = none ∧ H3 = H2) I2 ⟨rfl, rfl⟩) fun vu s3 ⟨u, H3, I3, pu, eu, e3⟩ => ?_
  subst eu; subst e3
  refine thn (hst.run pins s3 σ H3 (fun o H4 => o = some (-1) ∧ H4 = H3) I3 ⟨1, rfl, -1, rfl, rfl, rfl⟩) fun vs s4 ⟨o, H4, I4, ps, eo, e4⟩ => ?_
  subst eo; subst e4
  cases pl
  cases pu
  have I5 : Inv X pins σ H4 { s4 with heap := s4.heap.push { cls := .type "slice", data := .fields #[.none, .none, vs] } } := I4.kept (t' := s4.toks) fun b ob q => Heap.get?_push_of_some _ q
  obtain ⟨its, r, ht, hz⟩ := I5.tuple hx
  have hlen := r.length
  refine PyProof.Rows.tail_any (ops := [.ref a, .ref s4.heap.objs.size]) ht.typeIs (PyProof.Rows.slot_tuple_getitem.lookup) ?_ (by with_unfolding_all rfl)
  refine getItem_tuple_rev ht (Heap.IsSliceOf.new _ .none .none vs) ps (by rw [List.size_toArray]; omega) ?_
  refine ⟨.ref _, _, I5.laid (t' := s4.toks) (o := .tup xs.reverse) (fun b ob q => Heap.get?_push_of_some _ q) (Nat.le_refl _) ?_, rfl, q _ (I5.hok.fresh (Nat.le_refl _))⟩
  exact ⟨by rw [List.length_reverse]; exact hz, its.reverse, r.reverse, ⟨_, Heap.get?_push_size _ rfl, rfl, _, rfl⟩⟩
end
end Sk


set_option Elab.async false
set_option linter.all false
set_option maxRecDepth 100000
set_option maxHeartbeats 4000000
namespace Sk
open PySem L2
section
variable {F : Fam} {S S1 S2 S3 S' : List Sl} {e a b o : Expr} {es rest : List Expr} {d x y z : PyData} {ds xs ys : List PyData} {pos p : Pos} {i j : Int} {σ σ' : L2.St} {H G H' G' : Hp} {u v w : Bool} {P : Po} {s : Stmt} {ss A B : List Stmt} {tg : Expr}
theorem ed_revT {k : Nat} {p1 p2 p3 : Pos} (h : ED F S a (.tuple ds) S1) : ED F S (.Subscript a (.Slice none none (some (.UnaryOp .USub (.Constant (.int 1) k p1) p2)) p3) pos) (.tuple ds.reverse) S1 := .mk (t := tRevT F.K (wE F a)) (fun i => by have := pe_revT (X := F.X i) (wE_ok i (e := a)) (k := k) (p1 := p1) (p2 := p2) (p3 := p3) (pos := pos); rw [F.hK] at this; exact this) fun σ H G o Q kk =>
  h σ H G o _ fun v H1 G1 s1 o1 d1 => by
    obtain ⟨q, us, rfl, q1, r1⟩ := tup_ref d1
    refine ⟨q, us, rfl, sqT_mono o1.hg q1, fun p hp => ?_⟩
    obtain ⟨n, dd⟩ := new_tup o1.hg hp (DpAll.reverse r1)
    exact kk _ _ _ (s1.trans n.stp) (o1.new n) dd

/-! #### zip, enumerate -/
/-- data of a sequence -/
def seqd : Bool → List PyData → PyData
  | true, xs => .list xs
  | false, xs => .tuple xs
theorem seqd_ref {K : PySem.W.Frag} {b : Bool} {v : V} (h : Dp K H v (seqd b ds)) : ∃ a vs, v = .ref a ∧ SqS K H b a vs ∧ DpAll K H vs ds := by
  cases b with
  | true => exact lst_ref h
  | false => exact tup_ref h
def zipD : List PyData → List PyData → List PyData
  | x :: xs, y :: ys => .tuple [x, y] :: zipD xs ys
  | _, _ => []
def zip3D : List PyData → List PyData → List PyData → List PyData
  | x :: xs, y :: ys, z :: zs => .tuple [x, y, z] :: zip3D xs ys zs
  | _, _, _ => []
def enumD (n : Nat) : List PyData → List PyData
  | [] => []
  | x :: xs => .tuple [.int n, x] :: enumD (n + 1) xs
theorem zipD_length : ∀ xs ys : List PyData, (zipD xs ys).length = min xs.length ys.length
  | [], _ => by simp [zipD]
  | _ :: _, [] => by simp [zipD]
  | _ :: xs, _ :: ys => by simp [zipD, zipD_length xs ys]
theorem zip3D_length : ∀ xs ys zs : List PyData, (zip3D xs ys zs).length = min (min xs.length ys.length) zs.length
  | [], _, _ => by simp [zip3D]
  | _ :: _, [], _ => by simp [zip3D]
  | _ :: _, _ :: _, [] => by simp [zip3D]
  | _ :: xs, _ :: ys, _ :: zs => by simp [zip3D, zip3D_length xs ys zs]
theorem enumD_length : ∀ (n : Nat) (xs : List PyData), (enumD n xs).length = xs.length
  | _, [] => rfl
  | n, _ :: xs => by simp [enumD, enumD_length (n + 1) xs]
theorem zipD_get : ∀ {xs ys : List PyData} {k : Nat} {x y : PyData}, xs[k]? = some x → ys[k]? = some y → (zipD xs ys)[k]? = some (.tuple [x, y])
  | [], _, _, _, _, h, _ => by simp at h
  | _ :: _, [], _, _, _, _, h => by simp at h
  | _ :: _, _ :: _, 0, _, _, h, h2 => by simp at h h2; simp [zipD, h, h2]
  | _ :: xs, _ :: ys, k + 1, _, _, h, h2 => by
    simp only [zipD, List.getElem?_cons_succ]
    exact zipD_get (by simpa using h) (by simpa using h2)
theorem zip3D_get : ∀ {xs ys zs : List PyData} {k : Nat} {x y z : PyData}, xs[k]? = some x → ys[k]? = some y → zs[k]? = some z → (zip3D xs ys zs)[k]? = some (.tuple [x, y, z])
  | [], _, _, _, _, _, _, h, _, _ => by simp at h
  | _ :: _, [], _, _, _, _, _, _, h, _ => by simp at h
  | _ :: _, _ :: _, [], _, _, _, _, _, _, h => by simp at h
  | _ :: _, _ :: _, _ :: _, 0, _, _, _, h, h2, h3 => by simp at h h2 h3; simp [zip3D, h, h2, h3]
  | _ :: xs, _ :: ys, _ :: zs, k + 1, _, _, _, h, h2, h3 => by
    simp only [zip3D, List.getElem?_cons_succ]
    exact zip3D_get (by simpa using h) (by simpa using h2) (by simpa using h3)
theorem enumD_get : ∀ {n : Nat} {xs : List PyData} {k : Nat} {x : PyData}, xs[k]? = some x → (enumD n xs)[k]? = some (.tuple [.int (n + k : Nat), x])
  | _, [], _, _, h => by simp at h
  | n, _ :: _, 0, _, h => by simp at h; simp [enumD, h]
  | n, _ :: xs, k + 1, _, h => by
    simp only [enumD, List.getElem?_cons_succ]
    have := enumD_get (n := n + 1) (xs := xs) (k := k) (by simpa using h)
    rw [this]
    have e : n + 1 + k = n + (k + 1) := by omega
    rw [e]
theorem walk_dZ2 {K : PySem.W.Frag} {b1 b2 : Bool} {a1 a2 : Addr} {vs ws : List V} (h1 : SqS K H b1 a1 vs) (h2 : SqS K H b2 a2 ws) (d1 : DpAll K H vs xs) (d2 : DpAll K H ws ys) : WalkD K (ItZ2 K b1 b2 a1 a2) H (zipD xs ys) := by
  have l1 := DpAll.length d1
  have l2 := DpAll.length d2
  have l := zipD_length xs ys
  refine ⟨fun i G hi e => ?_, fun G e => ⟨vs, ws, h1.mono e, h2.mono e, by omega, by omega, by omega⟩, fun i H1 G v G' e1 e2 hi y => ?_⟩
  · have q1 : i < vs.length := by omega
    have q2 : i < ws.length := by omega
    exact ⟨vs, ws, vs[i], ws[i], h1.mono e, h2.mono e, by simp [q1], by simp [q2]⟩
  · obtain ⟨T, x, y, rfl, hT, rfl, f1, f2⟩ := y
    have q1 := f1 _ (h1.mono (e1.trans e2))
    have q2 := f2 _ (h2.mono (e1.trans e2))
    obtain ⟨dx, g1, k1⟩ := DpAll.get' d1 q1
    obtain ⟨dy, g2, k2⟩ := DpAll.get' d2 q2
    obtain ⟨n, dd⟩ := new_tup (K := K) (ds := [dx, dy]) e2 hT (.cons (Dp.mono e1 k1) (.cons (Dp.mono e1 k2) .nil))
    exact ⟨_, _, n, zipD_get g1 g2, dd⟩
theorem walk_dZ3 {K : PySem.W.Frag} {b1 b2 b3 : Bool} {a1 a2 a3 : Addr} {vs ws us : List V} {zs : List PyData} (h1 : SqS K H b1 a1 vs) (h2 : SqS K H b2 a2 ws) (h3 : SqS K H b3 a3 us) (d1 : DpAll K H vs xs) (d2 : DpAll K H ws ys) (d3 : DpAll K H us zs) : WalkD K (ItZ3 K b1 b2 b3 a1 a2 a3) H (zip3D xs ys zs) := by
  have l1 := DpAll.length d1
  have l2 := DpAll.length d2
  have l3 := DpAll.length d3
  have l := zip3D_length xs ys zs
  refine ⟨fun i G hi e => ?_, fun G e => ⟨vs, ws, us, h1.mono e, h2.mono e, h3.mono e, by omega, by omega, by omega, by omega⟩, fun i H1 G v G' e1 e2 hi y => ?_⟩
  · have q1 : i < vs.length := by omega
    have q2 : i < ws.length := by omega
    have q3 : i < us.length := by omega
    exact ⟨vs, ws, us, vs[i], ws[i], us[i], h1.mono e, h2.mono e, h3.mono e, by simp [q1], by simp [q2], by simp [q3]⟩
  · obtain ⟨T, x, y, z, rfl, hT, rfl, f1, f2, f3⟩ := y
    obtain ⟨dx, g1, k1⟩ := DpAll.get' d1 (f1 _ (h1.mono (e1.trans e2)))
    obtain ⟨dy, g2, k2⟩ := DpAll.get' d2 (f2 _ (h2.mono (e1.trans e2)))
    obtain ⟨dz, g3, k3⟩ := DpAll.get' d3 (f3 _ (h3.mono (e1.trans e2)))
    obtain ⟨n, dd⟩ := new_tup (K := K) (ds := [dx, dy, dz]) e2 hT (.cons (Dp.mono e1 k1) (.cons (Dp.mono e1 k2) (.cons (Dp.mono e1 k3) .nil)))
    exact ⟨_, _, n, zip3D_get g1 g2 g3, dd⟩
theorem walk_dE {K : PySem.W.Frag} {b : Bool} {a : Addr} {vs : List V} (h1 : SqS K H b a vs) (d1 : DpAll K H vs xs) : WalkD K (ItE K b a) H (enumD 0 xs) := by
  have l1 := DpAll.length d1
  have l := enumD_length 0 xs
  refine ⟨fun i G hi e => ?_, fun G e => ⟨vs, h1.mono e, by omega⟩, fun i H1 G v G' e1 e2 hi y => ?_⟩
  · have q1 : i < vs.length := by omega
    exact ⟨vs, vs[i], h1.mono e, by simp [q1]⟩
  · obtain ⟨T, x, rfl, hT, rfl, f1⟩ := y
    obtain ⟨dx, g1, k1⟩ := DpAll.get' d1 (f1 _ (h1.mono (e1.trans e2)))
    obtain ⟨n, dd⟩ := new_tup (K := K) (ds := [.int (i : Nat), dx]) e2 hT (.cons (.int _) (.cons (Dp.mono e1 k1) .nil))
    refine ⟨_, _, n, ?_, dd⟩
    have := enumD_get (n := 0) g1
    rw [Nat.zero_add] at this
    exact this
theorem id_zip2 {q : Pos} {elts : List Expr} {kk : Nat} {tpos : Pos} {e1 e2 : Expr} {b1 b2 : Bool} (ha : AD F S [e1, e2] [seqd b1 xs, seqd b2 ys] S1) (hg : ∀ i, Gl (F.X i) "zip") (hm : F.mg "zip" = none)
    (hs : ∀ i, starEach [e1, e2] (F.X i).env = (false, eval e1 (F.X i).env) :: starEach [e2] (F.X i).env := by intro _; rfl) (hpl : ∀ i, (backTo pos (starEach [e2] (F.X i).env)).any (·.1) = false := by intro _; rfl) :
    ID F S (.Tuple elts kk tpos) (.Call (.Name "zip" q) [e1, e2] [] pos) (zipD xs ys) S1 := fun σ H G o R k =>
  ⟨iZ2 F.K b1 b2 (wA F [e1, e2]), fun n => by have := pi_z2 (b1 := b1) (b2 := b2) (elts := elts) (kk := kk) (tpos := tpos) (p := q) (pos := pos) (hg n) (by rw [F.hm]; exact hm) (wA_ok n) (hs n) (hpl n); rw [F.hK] at this; exact this, ha σ H G o _ fun vs H1 G1 s1 o1 d1 => by
    obtain ⟨v1, v2, rfl, q1, q2⟩ := dp2 d1
    obtain ⟨a1, us1, rfl, g1, r1⟩ := seqd_ref q1
    obtain ⟨a2, us2, rfl, g2, r2⟩ := seqd_ref q2
    exact ⟨a1, a2, us1, us2, rfl, g1.mono o1.hg, g2.mono o1.hg, k _ H1 G1 s1 o1 (walk_dZ2 g1 g2 r1 r2)⟩⟩
theorem id_zip3 {q : Pos} {elts : List Expr} {kk : Nat} {tpos : Pos} {e1 e2 e3 : Expr} {b1 b2 b3 : Bool} {zs : List PyData} (ha : AD F S [e1, e2, e3] [seqd b1 xs, seqd b2 ys, seqd b3 zs] S1) (hg : ∀ i, Gl (F.X i) "zip") (hm : F.mg "zip" = none)
    (hs : ∀ i, starEach [e1, e2, e3] (F.X i).env = (false, eval e1 (F.X i).env) :: starEach [e2, e3] (F.X i).env := by intro _; rfl) (hpl : ∀ i, (backTo pos (starEach [e2, e3] (F.X i).env)).any (·.1) = false := by intro _; rfl) :
    ID F S (.Tuple elts kk tpos) (.Call (.Name "zip" q) [e1, e2, e3] [] pos) (zip3D xs ys zs) S1 := fun σ H G o R k =>
  ⟨iZ3 F.K b1 b2 b3 (wA F [e1, e2, e3]), fun n => by have := pi_z3 (b1 := b1) (b2 := b2) (b3 := b3) (elts := elts) (kk := kk) (tpos := tpos) (p := q) (pos := pos) (hg n) (by rw [F.hm]; exact hm) (wA_ok n) (hs n) (hpl n); rw [F.hK] at this; exact this, ha σ H G o _ fun vs H1 G1 s1 o1 d1 => by
    obtain ⟨v1, v2, v3, rfl, q1, q2, q3⟩ : ∃ v1 v2 v3, vs = [v1, v2, v3] ∧ Dp F.K H1 v1 (seqd b1 xs) ∧ Dp F.K H1 v2 (seqd b2 ys) ∧ Dp F.K H1 v3 (seqd b3 zs) := by
      cases d1 with
      | cons p1 t1 =>
        obtain ⟨v2, v3, rfl, p2, p3⟩ := dp2 t1
        exact ⟨_, _, _, rfl, p1, p2, p3⟩
    obtain ⟨a1, us1, rfl, g1, r1⟩ := seqd_ref q1
    obtain ⟨a2, us2, rfl, g2, r2⟩ := seqd_ref q2
    obtain ⟨a3, us3, rfl, g3, r3⟩ := seqd_ref q3
    exact ⟨a1, a2, a3, us1, us2, us3, rfl, g1.mono o1.hg, g2.mono o1.hg, g3.mono o1.hg, k _ H1 G1 s1 o1 (walk_dZ3 g1 g2 g3 r1 r2 r3)⟩⟩
theorem id_enum {q : Pos} {elts : List Expr} {kk : Nat} {tpos : Pos} {e1 : Expr} {b1 : Bool} (ha : AD F S [e1] [seqd b1 xs] S1) (hg : ∀ i, Gl (F.X i) "enumerate") (hm : F.mg "enumerate" = none)
    (hs : ∀ i, starEach [e1] (F.X i).env = [(false, eval e1 (F.X i).env)] := by intro _; rfl) :
    ID F S (.Tuple elts kk tpos) (.Call (.Name "enumerate" q) [e1] [] pos) (enumD 0 xs) S1 := fun σ H G o R k =>
  ⟨iEnS F.K b1 (wA F [e1]), fun n => by have := pi_enS (b := b1) (elts := elts) (kk := kk) (tpos := tpos) (p := q) (pos := pos) (hg n) (by rw [F.hm]; exact hm) (wA_ok n) (hs n); rw [F.hK] at this; exact this, ha σ H G o _ fun vs H1 G1 s1 o1 d1 => by
    obtain ⟨v1, rfl, q1⟩ := dp1 d1
    obtain ⟨a1, us1, rfl, g1, r1⟩ := seqd_ref q1
    exact ⟨a1, us1, rfl, g1.mono o1.hg, k _ H1 G1 s1 o1 (walk_dE g1 r1)⟩⟩

/-! #### sorted -/
def RelD (K : PySem.W.Frag) (H : Hp) (u : Value) (d : PyData) : Prop := ∃ v, RelV v u ∧ Dp K H v d
theorem each_of {K : PySem.W.Frag} : ∀ {vs : List V} {us : List Value} {ds : List PyData}, Vals vs us → DpAll K H vs ds → PySem.W.EachIs (RelD K H) us ds
  | _, _, _, .nil, h => by cases h; exact .nil
  | _, _, _, .cons r t, h => by
    cases h with
    | cons a q => exact .cons ⟨_, r, a⟩ (each_of t q)
theorem of_each {K : PySem.W.Frag} : ∀ {us : List Value} {ds : List PyData}, PySem.W.EachIs (RelD K H) us ds → ∃ vs, Vals vs us ∧ DpAll K H vs ds
  | _, _, .nil => ⟨[], .nil, .nil⟩
  | _, _, .cons ⟨v, r, a⟩ t => by
    obtain ⟨vs, q1, q2⟩ := of_each t
    exact ⟨v :: vs, .cons r q1, .cons a q2⟩
def sortD (ds : List PyData) : List PyData := ds.mergeSort (PySem.W.dataLe false id)
def rSortD (K : PySem.W.Frag) : List V → Hp → VK → Prop := fun vs H Q => ∃ (a : Addr) (xs : List V) (ds : List PyData) (H0 : Hp), vs = [V.ref a] ∧ SqL K H a xs ∧ Same H0 H ∧ DpAll K H0 xs ds ∧ PySem.W.AllAlike ds ∧ PySem.W.Sortable ds ∧ (∀ d ∈ ds, d.depth ≤ 20) ∧ ∀ (ys : List V) (p : Addr), H p = none → DpAll K H0 ys (sortD ds) → Q (.ref p) (upd H p (.lst ys))
theorem cr_sortD {X : Cx} (hu : X.A.units + 100 < cLine) : CallR X (.builtin "sorted") (rSortD X.K) := by
  intro pins s σ H vs us Q I r h
  obtain ⟨l, xs, ds, H0, rfl, hs, h0, hd, ha, hk, hde, q⟩ := h
  obtain ⟨its, rv, hl, hz⟩ := I.list hs
  rw [Vals.ref1 r]
  have len := DpAll.length hd
  have ev : PySem.W.EachIs (RelD X.K H0) its ds := each_of rv hd
  refine PySem.W.sorted_data (R := RelD X.K H0) (enc := id) hl.isList ev (ev.mono fun u d ⟨v, r1, r2⟩ => Dp.reads I d v u (Dp.mono h0 r2) r1) (by rw [List.map_id]; exact ha) (by rw [List.map_id]; exact hk) (by rw [← len]; exact hz) (fun d hm => by have := hde d hm; show X.A.units + 2 + d.depth < cLine; omega) fun out ho he => ?_
  obtain ⟨ys, q1, q2⟩ := of_each he
  obtain ⟨ep, he'⟩ := PyProof.Rows.sortedAll_at s.heap its out.toArray
  have hlen : ys.length ≤ sizeLine := by rw [q1.length, ho, ← len]; exact hz
  exact ⟨.ref _, upd H (s.heap.objs.size + 1) (.lst ys), I.laid (t' := s.toks) (fun _ _ => PyProof.Rows.sortedAll_old) (Nat.le_succ _) ⟨hlen, out, ep, q1, he'⟩, rfl, q ys _ (I.hok.fresh (Nat.le_succ _)) q2⟩
theorem c_sorted (ha : PySem.W.AllAlike ds) (hk : PySem.W.Sortable ds) (hd : ∀ d ∈ ds, d.depth ≤ 20) : CallD F (.builtin "sorted") [.list ds] (.list (sortD ds)) := ⟨rSortD F.K, fun i => by have := cr_sortD (X := F.X i) (by rw [F.hA]; exact F.un); rw [F.hK] at this; exact this, fun H G vs h1 h2 Q k => by
  obtain ⟨v, rfl, h9⟩ := dp1 h2
  obtain ⟨q, us, rfl, q1, r1⟩ := lst_ref h9
  refine ⟨q, us, ds, H, rfl, h1.seq q1, h1, r1, ha, hk, hd, fun ys p hp hy => ?_⟩
  obtain ⟨n, dd⟩ := new_lst h1 hp hy
  exact k _ _ _ n dd⟩
end
end Sk


set_option Elab.async false
set_option linter.all false
set_option maxRecDepth 100000
set_option maxHeartbeats 4000000
namespace Sk
open PySem L2
/-! ### defs -/
/-- the context of a def's body, as a family of one -/
def famOf (P : Program) (w : World) (K : PySem.W.Frag) (mg : Str → Option Value) (base : Heap) (N : List Str) (qual : Str) (scope : Scope) (f : Addr) (cdv : Value) (A : Around) (outer : List Env) (s : Shared) (H : Hp) (E : XK) (bx : Addr) (nd : N.Nodup) (un : (A.deeper (PyProof.Rows.envOfC qual scope s.heap.objs.size f cdv)).units + 100 < cLine) : Fam where
  ι := Unit
  X := fun _ => (cxOf CX0 P w K mg base N qual scope f cdv A outer s H E).nox
  P := P
  w := w
  K := K
  mg := mg
  base := base
  A := A.deeper (PyProof.Rows.envOfC qual scope s.heap.objs.size f cdv)
  N := N
  bx := bx
  hP := fun _ => rfl
  hw := fun _ => rfl
  hK := fun _ => rfl
  hm := fun _ => rfl
  hb := fun _ => rfl
  hA := fun _ => rfl
  hN := fun _ => rfl
  calm := fun _ => rfl
  nd := nd
  un := un
/-- what is to be shown of a body: from S, with k calls left, P holds behind it -/
def Body (P : Program) (w : World) (K : PySem.W.Frag) (mg : Str → Option Value) (base : Heap) (N : List Str) (qual : Str) (scope : Scope) (body : List Stmt) (k : Nat) (S : List Sl) (Q : Po) : Prop :=
  ∀ (f : Addr) (cdv : Value) (A : Around) (outer : List Env) (s : Shared) (H : Hp) (E : XK) (bx : Addr) (nd : N.Nodup) (un), Room k (A.deeper (PyProof.Rows.envOfC qual scope s.heap.objs.size f cdv)) → BD (famOf P w K mg base N qual scope f cdv A outer s H E bx nd un) S body Q
def nos (n : Nat) : List Sl := List.replicate n .no
section
variable {P : Program} {w : World} {K : PySem.W.Frag} {mg : Str → Option Value} {base : Heap} {x qual : Str} {params : Arguments} {body : List Stmt} {scope : Scope} {f : Addr} {fd : FuncData} {N ps : List Str} {k : Nat}
theorem room_un {k : Nat} {A : Around} (h : Room k A) : A.units + 100 < cLine := by have := h.un; omega
theorem start_dat {vs : List V} {ds : List PyData} {H : Hp} (hd : DpAll K H vs ds) : (start N vs).length = (ds.map Sl.dat ++ nos (N.length - ds.length)).length ∧ ∀ (i : Nat) (s : Sl), (ds.map Sl.dat ++ nos (N.length - ds.length))[i]? = some s → (∃ d v, s = .dat d ∧ (start N vs)[i]? = some (some v) ∧ Dp K H v d) ∨ s = .no := by
  have hl := DpAll.length hd
  refine ⟨by simp [L2.start, nos, hl], fun i s h => ?_⟩
  by_cases hi : i < ds.length
  · rw [List.getElem?_append_left (by rw [List.length_map]; exact hi), List.getElem?_map] at h
    cases e : ds[i]? with
    | none => rw [e] at h; cases h
    | some d =>
      rw [e] at h
      obtain ⟨v, h1, h2⟩ := DpAll.get hd e
      refine .inl ⟨d, v, (Option.some.inj h).symm, ?_, h2⟩
      unfold L2.start
      rw [List.getElem?_append_left (by rw [List.length_map, hl]; exact hi), List.getElem?_map, h1]
      rfl
  · rw [List.getElem?_append_right (by rw [List.length_map]; omega)] at h
    have := List.mem_of_getElem? h
    exact .inr (List.eq_of_mem_replicate this)
theorem ok_start {vs : List V} {ds : List PyData} {H G : Hp} {bx : Addr} (hg : Same H G) (hd : DpAll K H vs ds) : Ok K bx (start N vs) H G (ds.map Sl.dat ++ nos (N.length - ds.length)) ∧ ∀ q, ¬ Own (start N vs) (ds.map Sl.dat ++ nos (N.length - ds.length)) q := by
  obtain ⟨hl, hs⟩ := start_dat (N := N) hd
  have no : ∀ i q, ¬ OwnAt (start N vs) (ds.map Sl.dat ++ nos (N.length - ds.length)) i q := fun i q ⟨_, s, h2, h3⟩ => by
    rcases hs i s h2 with ⟨d, v, rfl, _⟩ | rfl
    · exact h3
    · exact h3
  refine ⟨⟨hg, hl, fun i s h => ?_, fun i j q z => absurd z (no i q)⟩, fun q ⟨i, z⟩ => no i q z⟩
  rcases hs i s h with ⟨d, v, rfl, h1, h2⟩ | rfl
  · exact ⟨v, h1, h2⟩
  · trivial
theorem stp_new {A A' : Addr → Prop} {H G H' G' : Hp} (s : Stp A A' H G H' G') (no : ∀ q, ¬ A q) (hg : Same H' G') : New H G H' G' := ⟨s.eh, fun a o h => s.eg a o h (no a), fun a h hn => s.sep a h (no a) hn, hg⟩
/-- a def on data -/
theorem fn_pure {R : List PyData → PyData → Prop} (F : FunD K x qual params body scope [] [] f fd) (Sc : FnScope N ps scope) (mx : mg x = some (.ref f)) (bn : Binds K fd ps []) (len : ∀ ds d, R ds d → ds.length = ps.length)
    (hb : ∀ ds d, R ds d → Body P w K mg base N qual scope body k (ds.map Sl.dat ++ nos (N.length - ds.length)) { nx := fun _ => d = .none, rt := fun d' _ => d' = d }) : FnHas P w K mg base x (k + 1) (PSp K R) := by
  refine ⟨f, fd, ps, F.ok Sc (fun vs G Q E h => ?_) (fun cdv A outer s G vs Q E hr h => ?_), mx, F.kp, bn⟩
  · obtain ⟨H, ds, d, _, h2, h3, _⟩ := h
    rw [DpAll.length h2]; exact len ds d h3
  · obtain ⟨H, ds, d, h1, h2, h3, kk⟩ := h
    obtain ⟨ok, no⟩ := ok_start (N := N) (bx := 0) h1 h2
    have q := hb ds d h3 f cdv A outer s G E 0 Sc.nd (room_un hr) hr _ H G ok { nx := fun _ H' => Q .non H', rt := Q } ⟨fun σ' H' G' S' e _ st o' => ?_, fun d' v σ' H' G' S' e st o' hd => ?_, fun _ _ _ _ z => z.elim, fun _ _ _ _ z => z.elim, fun _ _ _ _ _ _ _ z => z.elim⟩
    · exact ⟨_, (wB_ok (F := famOf P w K mg base N qual scope f cdv A outer s G E 0 Sc.nd (room_un hr)) ()).nox, q⟩
    · subst e; exact kk _ H' G' (stp_new st no o'.hg) .non
    · subst e; exact kk v H' G' (stp_new st no o'.hg) hd
/-- a def that gives a new list, the caller's own -/
def LSp (K : PySem.W.Frag) (R : List PyData → List PyData → Prop) : Sp := fun vs G Q _ => ∃ H ds es, Same H G ∧ DpAll K H vs ds ∧ R ds es ∧ ∀ l us H' G', New H G H' G' → G l = none → H' l = none → G' l = some (.lst us) → DpAll K H' us es → Q (.ref l) G'
theorem fn_list {R : List PyData → List PyData → Prop} (F : FunD K x qual params body scope [] [] f fd) (Sc : FnScope N ps scope) (mx : mg x = some (.ref f)) (bn : Binds K fd ps []) (len : ∀ ds d, R ds d → ds.length = ps.length)
    (hb : ∀ ds es, R ds es → Body P w K mg base N qual scope body k (ds.map Sl.dat ++ nos (N.length - ds.length)) { rl := fun es' => es' = es }) : FnHas P w K mg base x (k + 1) (LSp K R) := by
  refine ⟨f, fd, ps, F.ok Sc (fun vs G Q E h => ?_) (fun cdv A outer s G vs Q E hr h => ?_), mx, F.kp, bn⟩
  · obtain ⟨H, ds, d, _, h2, h3, _⟩ := h
    rw [DpAll.length h2]; exact len ds d h3
  · obtain ⟨H, ds, d, h1, h2, h3, kk⟩ := h
    obtain ⟨ok, no⟩ := ok_start (N := N) (bx := 0) h1 h2
    have q := hb ds d h3 f cdv A outer s G E 0 Sc.nd (room_un hr) hr _ H G ok { nx := fun _ H' => Q .non H', rt := Q } ⟨fun _ _ _ _ z => z.elim, fun _ _ _ _ _ _ z => z.elim, fun _ _ _ _ z => z.elim, fun _ _ _ _ z => z.elim, fun es' l us σ' H' G' S' e st o' g0 h1 _ hl hd => ?_⟩
    · exact ⟨_, (wB_ok (F := famOf P w K mg base N qual scope f cdv A outer s G E 0 Sc.nd (room_un hr)) ()).nox, q⟩
    · subst e; exact kk l us H' G' (stp_new st no o'.hg) g0 h1 hl hd
/-- a def whose first argument is the box -/
def BSp (K : PySem.W.Frag) (R : Int → List PyData → PyData → Int → Prop) : Sp := fun vs G Q _ => ∃ H a b ur ds d b', vs = .ref a :: ur ∧ Same H G ∧ H a = none ∧ G a = some (.lst [.int b]) ∧ DpAll K H ur ds ∧ R b ds d b' ∧
  ∀ v H' G', Stp (· = a) (· = a) H G H' G' → Same H' G' → H' a = none → G' a = some (.lst [.int b']) → Dp K H' v d → Q v G'
theorem ok_startB {ur : List V} {ds : List PyData} {H G : Hp} {a : Addr} {b : Int} (hN : 0 < N.length) (hg : Same H G) (h1 : H a = none) (h2 : G a = some (.lst [.int b])) (hd : DpAll K H ur ds) :
    Ok K a (start N (.ref a :: ur)) H G (.box b :: (ds.map Sl.dat ++ nos (N.length - 1 - ds.length))) ∧ ∀ q, Own (start N (.ref a :: ur)) (.box b :: (ds.map Sl.dat ++ nos (N.length - 1 - ds.length))) q ↔ q = a := by
  obtain ⟨n0, N', rfl⟩ : ∃ n0 N', N = n0 :: N' := by
    cases N with
    | nil => simp at hN
    | cons n0 N' => exact ⟨_, _, rfl⟩
  have est : start (n0 :: N') (.ref a :: ur) = some (.ref a) :: start N' ur := by simp [L2.start]
  have eN : (n0 :: N').length - 1 - ds.length = N'.length - ds.length := by simp
  rw [est, eN]
  obtain ⟨hl, hs⟩ := start_dat (N := N') hd
  have no : ∀ i q, OwnAt (some (.ref a) :: start N' ur) (.box b :: (ds.map Sl.dat ++ nos (N'.length - ds.length))) i q → i = 0 ∧ q = a := fun i q ⟨e1, s, e2, e3⟩ => by
    cases i with
    | zero =>
      simp at e1
      exact ⟨rfl, e1.symm⟩
    | succ i =>
      rcases hs i s (by simpa using e2) with ⟨d, v, rfl, _⟩ | rfl
      · exact e3.elim
      · exact e3.elim
  refine ⟨⟨hg, by simp [hl], fun i s h => ?_, fun i j q z z' => by rw [(no i q z).1, (no j q z').1]⟩, fun q => ⟨fun ⟨i, z⟩ => (no i q z).2, fun z => ⟨0, by rw [z]; rfl, _, rfl, trivial⟩⟩⟩
  cases i with
  | zero =>
    simp at h
    subst h
    exact ⟨rfl, h1, h2⟩
  | succ i =>
    rcases hs i s (by simpa using h) with ⟨d, v, rfl, q1, q2⟩ | rfl
    · exact ⟨v, by simpa using q1, q2⟩
    · trivial
theorem fn_box {R : Int → List PyData → PyData → Int → Prop} (F : FunD K x qual params body scope [] [] f fd) (Sc : FnScope N ps scope) (mx : mg x = some (.ref f)) (bn : Binds K fd ps []) (hN : 0 < N.length) (len : ∀ b ds d b', R b ds d b' → ds.length + 1 = ps.length)
    (hb : ∀ b ds d b', R b ds d b' → Body P w K mg base N qual scope body k (.box b :: (ds.map Sl.dat ++ nos (N.length - 1 - ds.length))) { rt := fun d' S' => d' = d ∧ S'[0]? = some (.box b') }) : FnHas P w K mg base x (k + 1) (BSp K R) := by
  refine ⟨f, fd, ps, F.ok Sc (fun vs G Q E h => ?_) (fun cdv A outer s G vs Q E hr h => ?_), mx, F.kp, bn⟩
  · obtain ⟨H, a, b, ur, ds, d, b', rfl, _, _, _, h2, h3, _⟩ := h
    rw [List.length_cons, DpAll.length h2]; exact len b ds d b' h3
  · obtain ⟨H, a, b, ur, ds, d, b', rfl, h1, g1, g2, h2, h3, kk⟩ := h
    obtain ⟨ok, no⟩ := ok_startB (N := N) hN h1 g1 g2 h2
    have q := hb b ds d b' h3 f cdv A outer s G E a Sc.nd (room_un hr) hr _ H G ok { nx := fun _ H' => Q .non H', rt := Q } ⟨fun _ _ _ _ z => z.elim, fun d' v σ' H' G' S' ⟨e, e2⟩ st o' hd => ?_, fun _ _ _ _ z => z.elim, fun _ _ _ _ z => z.elim, fun _ _ _ _ _ _ _ z => z.elim⟩
    · exact ⟨_, (wB_ok (F := famOf P w K mg base N qual scope f cdv A outer s G E a Sc.nd (room_un hr)) ()).nox, q⟩
    · subst e
      obtain ⟨_, q1, q2⟩ := o'.sl 0 _ e2
      refine kk v H' G' ⟨st.eh, fun q u hq hn => st.eg q u hq fun z => hn ((no q).mp z), fun q hq hn hh => st.sep q hq (fun z => hn ((no q).mp z)) hh, fun q z => .inl z, st.th⟩ o'.hg q1 q2 hd
end

section
variable {F : Fam} {S S1 S2 S3 S' : List Sl} {e a b o : Expr} {es rest : List Expr} {d x y z : PyData} {ds xs ys : List PyData} {pos p : Pos} {i j : Int} {σ σ' : L2.St} {H G H' G' : Hp} {u v w : Bool} {P : Po} {s : Stmt} {ss A B : List Stmt} {tg : Expr}
theorem ld_call {x : Str} {n : Nat} {R : List PyData → List PyData → Prop} (h : FnHas F.P F.w F.K F.mg F.base x n (LSp F.K R)) (hr : Room n F.A) (hg : ∀ i, Gl (F.X i) x) (ha : AD F S (e :: es) ds S1) (hR : R ds xs) (hdb : (x == ("__debug__" : Str)) = false := by decide)
    (he : ∀ i, starEach (e :: es) (F.X i).env = (false, eval e (F.X i).env) :: starEach es (F.X i).env := by intro _; rfl) (hpl : ∀ i, (backTo pos (starEach es (F.X i).env)).any (·.1) = false := by intro _; rfl) : LD F S (.Call (.Name x p) (e :: es) [] pos) xs S1 := by
  obtain ⟨f, fd, ps, hF, hm, hk, hb⟩ := h.ex
  intro σ H G o Q k
  refine ⟨tCall (LSp F.K R) [] E0 (wA F (e :: es)), fun i => pe_call (X := F.X i) (CX := CX0) (k := n) (f := f) (fd := fd) (ps := ps) (by rw [F.hP, F.hw, F.hK, F.hm, F.hb]; exact hF) (by rw [F.hA]; exact hr) (hg i) (by rw [F.hm]; exact hm) (by rw [F.hK]; exact hk) (by rw [F.hK]; exact hb) .nil pass0 (wA_ok i) hdb (he i) (hpl i), ?_⟩
  refine ha σ H G o _ fun vs H1 G1 s1 o1 d1 => ⟨H1, ds, xs, o1.hg, by rw [List.append_nil]; exact d1, hR, fun l us H2 G2 n2 g0 h1 hl hd => k l us H2 G2 (s1.trans n2.stp) (o1.new n2) (s1.free g0) h1 (fun ⟨i, z⟩ => (o1.ownG z).2 g0) hl hd⟩
/-- slot k holds one int for itself -/
def Hold (b : Int) (s : Sl) : Prop := s = .own [.int b] ∨ s = .box b
theorem Ok.hold {K : PySem.W.Frag} {bx : Addr} {b : Int} {sl : Sl} (o : Ok K bx σ H G S) {k : Nat} (hs : S[k]? = some sl) (h : Hold b sl) : ∃ a, σ[k]? = some (some (.ref a)) ∧ H a = none ∧ G a = some (.lst [.int b]) ∧ OwnAt σ S k a ∧ (sl = .box b → a = bx) := by
  have q := o.sl k _ hs
  rcases h with rfl | rfl
  · obtain ⟨l, vs, e, h1, h2, h3⟩ := q
    obtain ⟨v, rfl, q⟩ := dp1 h3
    cases q
    exact ⟨l, e, h1, h2, ⟨e, _, hs, trivial⟩, fun z => nomatch z⟩
  · obtain ⟨e, h1, h2⟩ := q
    exact ⟨bx, e, h1, h2, ⟨e, _, hs, trivial⟩, fun _ => rfl⟩
def reSl (b : Int) : Sl → Sl
  | .own _ => .own [.int b]
  | .box _ => .box b
  | s => s
theorem Ok.rehold {K : PySem.W.Frag} {bx a : Addr} {b b' : Int} {sl : Sl} (o : Ok K bx σ H G S) {k : Nat} (hs : S[k]? = some sl) (h : Hold b sl) (e : σ[k]? = some (some (.ref a))) (st : Stp (· = a) (· = a) H G H' G') (hg : Same H' G') (h1 : H' a = none) (h2 : G' a = some (.lst [.int b'])) :
    Ok K bx σ H' G' (S.set k (reSl b' sl)) ∧ Stp (Own σ S) (Own σ (S.set k (reSl b' sl))) H G H' G' := by
  obtain ⟨a', e', g1, g2, ow, hbx⟩ := o.hold hs h
  rw [e] at e'; cases e'
  have hk : k < S.length := (List.getElem?_eq_some_iff.mp hs).1
  have io : isOwn (reSl b' sl) := by rcases h with rfl | rfl <;> trivial
  have sub : ∀ i q, OwnAt σ (S.set k (reSl b' sl)) i q → OwnAt σ S i q := fun i q ⟨q1, s, q2, q3⟩ => by
    by_cases hi : k = i
    · subst hi
      exact ⟨q1, _, hs, by rcases h with rfl | rfl <;> trivial⟩
    · rw [List.getElem?_set_ne hi] at q2
      exact ⟨q1, s, q2, q3⟩
  refine ⟨⟨hg, by rw [List.length_set]; exact o.len, fun i s hi => ?_, fun i j q z z' => o.ap i j q (sub i q z) (sub j q z')⟩, ⟨st.eh, fun q u hq n => st.eg q u hq fun z => n ⟨k, by rw [z]; exact ow⟩, fun q hq n hh => st.sep q hq (fun z => n ⟨k, by rw [z]; exact ow⟩) hh, fun q ⟨i, z⟩ => .inl ⟨i, sub i q z⟩, st.th⟩⟩
  by_cases hki : k = i
  · subst hki
    rw [List.getElem?_set_self hk] at hi
    cases hi
    rcases h with rfl | rfl
    · exact ⟨a, _, e, h1, h2, .cons (.int _) .nil⟩
    · have := hbx rfl
      subst this
      exact ⟨e, h1, h2⟩
  · rw [List.getElem?_set_ne hki] at hi
    refine (o.sl i s hi).mono st.eh fun l e' ho g1 g2 => ?_
    have hne : ¬ l = a := fun z => hki (o.ap k i l (by rw [z]; exact ow) ⟨e', s, hi, ho⟩)
    obtain ⟨u, hu⟩ := ne_none g2
    exact ⟨st.sep l g2 hne g1, by rw [hu]; exact st.eg l u hu hne⟩
/-- f(box, ..) -/
theorem ed_callBox {k n : Nat} {bv b' : Int} {sl : Sl} {x bn : Str} {q : Pos} {R : Int → List PyData → PyData → Int → Prop} (h : FnHas F.P F.w F.K F.mg F.base x n (BSp F.K R)) (hr : Room n F.A) (hg : ∀ i, Gl (F.X i) x) (hs : S[k]? = some sl) (hh : Hold bv sl) (ha : AD F S es ds S) (hR : R bv ds d b') (hN : F.N[k]? = some bn := by rfl) (hv : ∀ i, Vis (F.X i).env.scope bn := by first | exact fun _ => Or.inl rfl | exact fun _ => Or.inr (Or.inl rfl) | exact fun _ => Or.inr (Or.inr rfl))
    (hd : (bn == ("__debug__" : Str)) = false := by decide) (hcd : (bn == ("__classdict__" : Str)) = false := by decide) (hdb : (x == ("__debug__" : Str)) = false := by decide)
    (he : ∀ i, starEach (.Name bn q :: es) (F.X i).env = (false, eval (.Name bn q) (F.X i).env) :: starEach es (F.X i).env := by intro _; rfl) (hpl : ∀ i, (backTo pos (starEach es (F.X i).env)).any (·.1) = false := by intro _; rfl) : ED F S (.Call (.Name x p) (.Name bn q :: es) [] pos) d (S.set k (reSl b' sl)) := by
  obtain ⟨f, fd, ps, hF, hm, hk, hb⟩ := h.ex
  refine .mk (t := tCall (BSp F.K R) [] E0 (tCons (tVar k) (wA F es))) (fun i => pe_call (X := F.X i) (CX := CX0) (k := n) (f := f) (fd := fd) (ps := ps) (by rw [F.hP, F.hw, F.hK, F.hm, F.hb]; exact hF) (by rw [F.hA]; exact hr) (hg i) (by rw [F.hm]; exact hm) (by rw [F.hK]; exact hk) (by rw [F.hK]; exact hb) .nil pass0 (pa_cons (pe_var (pos := q) (by rw [F.hN]; exact hN) (hv i) hd hcd) (wA_ok i) (he i)) hdb (he i) (hpl i)) fun σ H G o Q kk => ?_
  obtain ⟨a, e, _⟩ := o.hold hs hh
  refine ⟨_, e, ha σ H G o _ fun vs H1 G1 s1 o1 d1 => ?_⟩
  obtain ⟨a', e', h1, h2, ow, _⟩ := o1.hold hs hh
  rw [e] at e'; cases e'
  refine ⟨H1, a, bv, vs ++ [], ds, d, b', rfl, o1.hg, h1, h2, by rw [List.append_nil]; exact d1, hR, fun v H2 G2 st hg2 g1 g2 dd => ?_⟩
  obtain ⟨o2, s2⟩ := o1.rehold hs hh e st hg2 g1 g2
  exact kk v H2 G2 (s1.trans s2) o2 dd
/-- box[0], box[0] = e -/
theorem ed_ixB {k : Nat} {bv : Int} {sl : Sl} {x : Str} {q c : Pos} {kd} (hs : S[k]? = some sl) (hh : Hold bv sl) (hN : F.N[k]? = some x := by rfl) (hv : ∀ i, Vis (F.X i).env.scope x := by first | exact fun _ => Or.inl rfl | exact fun _ => Or.inr (Or.inl rfl) | exact fun _ => Or.inr (Or.inr rfl))
    (hp : PlainIx (.Constant (.int 0) kd c) := by exact fun _ _ => rfl) (hd : (x == ("__debug__" : Str)) = false := by decide) (hcd : (x == ("__classdict__" : Str)) = false := by decide) : ED F S (.Subscript (.Name x q) (.Constant (.int 0) kd c) pos) (.int bv) S := by
  refine .mk (t := tOp (rIxL F.K) (tVar k) (tC (.int 0))) (fun n => by have := pe_ix (ix_list (X := F.X n)) (pe_var (pos := q) (by rw [F.hN]; exact hN) (hv n) hd hcd) pe_int hp (pos := pos); rw [F.hK] at this; exact this) fun σ H G o Q kk => ?_
  obtain ⟨a, e, h1, h2, _⟩ := o.hold hs hh
  exact ⟨_, e, a, [.int bv], 0, .int bv, rfl, rfl, SqL.of h2, rfl, kk _ H G Stp.refl o (.int _)⟩
theorem sd_setB {k : Nat} {bv b' : Int} {sl : Sl} {x : Str} {q sp c : Pos} {kd} (hs : S[k]? = some sl) (hh : Hold bv sl) (he : ED F S e (.int b') S) (hn : P.nx (S.set k (reSl b' sl))) (hN : F.N[k]? = some x := by rfl) (hv : ∀ i, Vis (F.X i).env.scope x := by first | exact fun _ => Or.inl rfl | exact fun _ => Or.inr (Or.inl rfl) | exact fun _ => Or.inr (Or.inr rfl))
    (hd : (x == ("__debug__" : Str)) = false := by decide) (hcd : (x == ("__classdict__" : Str)) = false := by decide)
    (hsub : ∀ i v, assign (.Subscript (.Name x q) (.Constant (.int 0) kd c) sp) (F.X i).env v = (do
      let ov ← holding [v] (eval (.Name x q) (F.X i).env)
      let iv ← holding [v, ov] (eval (.Constant (.int 0) kd c) (F.X i).env)
      standAt sp
      holding [v, ov, iv] (setItem ov iv v)
      release [v, ov, iv] []) := by intro _ _; rfl)
    (hsw : ∀ i, swapsWithSole [.Subscript (.Name x q) (.Constant (.int 0) kd c) sp] e pos.line (F.X i).env = pure false := by intro _; rfl) (hw : ∀ i, swappedStores [.Subscript (.Name x q) (.Constant (.int 0) kd c) sp] e (F.X i).env = pure none := by intro _; rfl)
    (h1 : ∀ i, (assignEach [.Subscript (.Name x q) (.Constant (.int 0) kd c) sp] (F.X i).env).map (·.2) = [assign (.Subscript (.Name x q) (.Constant (.int 0) kd c) sp) (F.X i).env] := by intro _; rfl) : SD F S (.Assign [.Subscript (.Name x q) (.Constant (.int 0) kd c) sp] e pos) P := by
  refine .mk (t := tAsg (wE F e) (gSub (tVar k) (tC (.int 0)) rSetL)) (fun i => ps_asg (wE_ok i) (pg_sub (pe_var (pos := q) (by rw [F.hN]; exact hN) (hv i) hd hcd) pe_int set_list (hsub i)) (hsw i) (hw i) (h1 i)) fun σ H G o D m => ?_
  refine he σ H G o _ fun v H1 G1 s1 o1 d1 => ?_
  cases d1
  obtain ⟨a, e, g1, g2, ow, _⟩ := o1.hold hs hh
  refine ⟨_, e, a, [.int bv], 0, 0, rfl, rfl, g2, rfl, ?_⟩
  have st : Stp (· = a) (· = a) H1 G1 H1 (upd G1 a (.lst [.int b'])) := ⟨Same.refl _, fun q u hq n => by rw [upd_ne n]; exact hq, fun _ _ _ h => h, fun _ z => .inl z, fun q hq => by
    by_cases z : q = a
    · rw [z, upd_same]; exact fun z => nomatch z
    · rw [upd_ne z]; exact hq⟩
  have hg2 : Same H1 (upd G1 a (.lst [.int b'])) := fun q u hq => by
    have : q ≠ a := fun z => by rw [z, g1] at hq; cases hq
    rw [upd_ne this]; exact o1.hg q u hq
  obtain ⟨o2, s2⟩ := o1.rehold hs hh e st hg2 g1 upd_same
  exact m.nx σ _ _ _ hn Kept.refl (s1.trans s2) o2
/-- a, b = e1, e2 -/
theorem sd_par {k1 k2 : Nat} {x y : Str} {e1 e2 : Expr} {d1 d2 : PyData} {px py pt : Pos} {kt kk pt2} (ha : AD F S [e1, e2] [d1, d2] S1) (hn : P.nx ((S1.set k1 (.dat d1)).set k2 (.dat d2))) (hij : k1 ≠ k2 := by decide) (hk1 : k1 < S1.length := by first | exact Nat.le_of_ble_eq_true rfl | simp) (hk2 : k2 < S1.length := by first | exact Nat.le_of_ble_eq_true rfl | simp) (hi : F.N[k1]? = some x := by rfl) (hj : F.N[k2]? = some y := by rfl)
    (hx : ∀ i, (F.X i).env.scope.names.lookup x = some .local := by intro _; rfl) (hy : ∀ i, (F.X i).env.scope.names.lookup y = some .local := by intro _; rfl) (hw1 : P.wr k1 := by trivial) (hw2 : P.wr k2 := by trivial)
    (hw : ∀ i, swappedStores [.Tuple [.Name x px, .Name y py] kt pt] (.Tuple [e1, e2] kk pt2) (F.X i).env = pure (some [x, y]) := by intro _; rfl)
    (hs : ∀ i, swapsWithSole [.Tuple [.Name x px, .Name y py] kt pt] (.Tuple [e1, e2] kk pt2) pos.line (F.X i).env = pure false := by intro _; rfl) : SD F S (.Assign [.Tuple [.Name x px, .Name y py] kt pt] (.Tuple [e1, e2] kk pt2) pos) P :=
  .mk (t := tPar k1 k2 (wA F [e1, e2])) (fun i => ps_par (F.calm i) (by rw [F.hN]; exact F.nd) (by rw [F.hN]; exact hi) (by rw [F.hN]; exact hj) hij (hx i) (hy i) (wA_ok i) (hw i) (hs i)) fun σ H G o D m => ha σ H G o _ fun vs H1 G1 s1 o1 dd => by
    obtain ⟨v, u, rfl, q1, q2⟩ := dp2 dd
    obtain ⟨o2, s2⟩ := o1.put hk1 q1
    obtain ⟨o3, s3⟩ := o2.put (by rw [List.length_set]; exact hk2) q2
    exact ⟨v, u, rfl, m.nx _ H1 G1 _ hn ((kept_set hw1).trans (kept_set hw2)) ((s1.trans s2).trans s3) o3⟩
end
end Sk


set_option Elab.async false
set_option linter.all false
set_option maxRecDepth 100000
set_option maxHeartbeats 4000000
namespace Sk
open PySem L2
/-- the built-in names that the module leaves as they are -/
structure Txt (mg : Str → Option Value) : Prop where
  len : mg "len" = none
  all : mg "all" = none
  sum : mg "sum" = none
  min : mg "min" = none
  max : mg "max" = none
  abs : mg "abs" = none
  divmod : mg "divmod" = none
  sorted : mg "sorted" = none
  isinstance : mg "isinstance" = none
  int : mg "int" = none
  bool : mg "bool" = none
  str : mg "str" = none
  tuple : mg "tuple" = none
  list : mg "list" = none
  range : mg "range" = none
  zip : mg "zip" = none
  enumerate : mg "enumerate" = none
theorem b_len : bootBuiltins "len" = some (.builtin "len") := by decide +kernel
theorem b_all : bootBuiltins "all" = some (.builtin "all") := by decide +kernel
theorem b_sum : bootBuiltins "sum" = some (.builtin "sum") := by decide +kernel
theorem b_min : bootBuiltins "min" = some (.builtin "min") := by decide +kernel
theorem b_max : bootBuiltins "max" = some (.builtin "max") := by decide +kernel
theorem b_abs : bootBuiltins "abs" = some (.builtin "abs") := by decide +kernel
theorem b_divmod : bootBuiltins "divmod" = some (.builtin "divmod") := by decide +kernel
theorem b_sorted : bootBuiltins "sorted" = some (.builtin "sorted") := by decide +kernel
theorem b_isi : bootBuiltins "isinstance" = some (.builtin "isinstance") := by decide +kernel
theorem b_int : bootBuiltins "int" = some (.type "int") := by decide +kernel
theorem b_bool : bootBuiltins "bool" = some (.type "bool") := by decide +kernel
theorem b_str : bootBuiltins "str" = some (.type "str") := by decide +kernel
theorem b_tuple : bootBuiltins "tuple" = some (.type "tuple") := by decide +kernel
theorem b_list : bootBuiltins "list" = some (.type "list") := by decide +kernel
/-- is it an int (a truth is one, too), a truth, a text, a tuple, a list -/
def isI : PyData → Bool
  | .int _ => true
  | .bool _ => true
  | _ => false
def isB : PyData → Bool
  | .bool _ => true
  | _ => false
def isS : PyData → Bool
  | .str _ => true
  | _ => false
def isTu : PyData → Bool
  | .tuple _ => true
  | _ => false
def isLi : PyData → Bool
  | .list _ => true
  | _ => false
theorem kit_int (d : PyData) : kitB (tyN d) "int" = some (isI d) := by cases d <;> (simp only [tyN, isI]; decide +kernel)
theorem kit_bool (d : PyData) : kitB (tyN d) "bool" = some (isB d) := by cases d <;> (simp only [tyN, isB]; decide +kernel)
theorem kit_str (d : PyData) : kitB (tyN d) "str" = some (isS d) := by cases d <;> (simp only [tyN, isS]; decide +kernel)
theorem kit_tuple (d : PyData) : kitB (tyN d) "tuple" = some (isTu d) := by cases d <;> (simp only [tyN, isTu]; decide +kernel)
theorem kit_list (d : PyData) : kitB (tyN d) "list" = some (isLi d) := by cases d <;> (simp only [tyN, isLi]; decide +kernel)
section
variable {F : Fam} {S S1 S2 S3 S' : List Sl} {e a b o : Expr} {es rest : List Expr} {d x y z : PyData} {ds xs ys : List PyData} {pos p q q1 q2 : Pos} {i j : Int} {P : Po} {s : Stmt} {ss A B : List Stmt} {tg : Expr}
theorem vr (k : Nat) {n : Str} (hs : S[k]? = some (.dat d) := by rfl) (hN : F.N[k]? = some n := by rfl) (hv : ∀ i, Vis (F.X i).env.scope n := by first | exact fun _ => Or.inl rfl | exact fun _ => Or.inr (Or.inl rfl) | exact fun _ => Or.inr (Or.inr rfl)) (hd : (n == ("__debug__" : Str)) = false := by decide) (hcd : (n == ("__classdict__" : Str)) = false := by decide) : ED F S (.Name n pos) d S := ed_var hs hN hv hd hcd
/-- a list of one's own, from now on a datum -/
theorem fz (k : Nat) {n : Str} (hs : S[k]? = some (.own ds) := by rfl) (hN : F.N[k]? = some n := by rfl) (hv : ∀ i, Vis (F.X i).env.scope n := by first | exact fun _ => Or.inl rfl | exact fun _ => Or.inr (Or.inl rfl) | exact fun _ => Or.inr (Or.inr rfl)) (hd : (n == ("__debug__" : Str)) = false := by decide) (hcd : (n == ("__classdict__" : Str)) = false := by decide) : ED F S (.Name n pos) (.list ds) (S.set k (.dat (.list ds))) := ed_ownVar hs hN hv hd hcd
theorem e_isi_int (T : Txt F.mg) (ha : ED F S a d S1) (hg : ∀ i, Gl (F.X i) "isinstance" := by intro _; rfl) (hg2 : ∀ i, Gl (F.X i) "int" := by intro _; rfl)
    (he : ∀ i, starEach [a, .Name "int" q2] (F.X i).env = (false, eval a (F.X i).env) :: starEach [.Name "int" q2] (F.X i).env := by intro _; rfl) : ED F S (.Call (.Name "isinstance" q1) [a, .Name "int" q2] [] pos) (.bool (isI d)) S1 := ed_isi ha hg T.isinstance hg2 T.int b_isi b_int (kit_int d) (by decide) (by decide) he
theorem e_isi_bool (T : Txt F.mg) (ha : ED F S a d S1) (hg : ∀ i, Gl (F.X i) "isinstance" := by intro _; rfl) (hg2 : ∀ i, Gl (F.X i) "bool" := by intro _; rfl)
    (he : ∀ i, starEach [a, .Name "bool" q2] (F.X i).env = (false, eval a (F.X i).env) :: starEach [.Name "bool" q2] (F.X i).env := by intro _; rfl) : ED F S (.Call (.Name "isinstance" q1) [a, .Name "bool" q2] [] pos) (.bool (isB d)) S1 := ed_isi ha hg T.isinstance hg2 T.bool b_isi b_bool (kit_bool d) (by decide) (by decide) he
theorem e_isi_str (T : Txt F.mg) (ha : ED F S a d S1) (hg : ∀ i, Gl (F.X i) "isinstance" := by intro _; rfl) (hg2 : ∀ i, Gl (F.X i) "str" := by intro _; rfl)
    (he : ∀ i, starEach [a, .Name "str" q2] (F.X i).env = (false, eval a (F.X i).env) :: starEach [.Name "str" q2] (F.X i).env := by intro _; rfl) : ED F S (.Call (.Name "isinstance" q1) [a, .Name "str" q2] [] pos) (.bool (isS d)) S1 := ed_isi ha hg T.isinstance hg2 T.str b_isi b_str (kit_str d) (by decide) (by decide) he
theorem e_isi_tuple (T : Txt F.mg) (ha : ED F S a d S1) (hg : ∀ i, Gl (F.X i) "isinstance" := by intro _; rfl) (hg2 : ∀ i, Gl (F.X i) "tuple" := by intro _; rfl)
    (he : ∀ i, starEach [a, .Name "tuple" q2] (F.X i).env = (false, eval a (F.X i).env) :: starEach [.Name "tuple" q2] (F.X i).env := by intro _; rfl) : ED F S (.Call (.Name "isinstance" q1) [a, .Name "tuple" q2] [] pos) (.bool (isTu d)) S1 := ed_isi ha hg T.isinstance hg2 T.tuple b_isi b_tuple (kit_tuple d) (by decide) (by decide) he
theorem e_isi_list (T : Txt F.mg) (ha : ED F S a d S1) (hg : ∀ i, Gl (F.X i) "isinstance" := by intro _; rfl) (hg2 : ∀ i, Gl (F.X i) "list" := by intro _; rfl)
    (he : ∀ i, starEach [a, .Name "list" q2] (F.X i).env = (false, eval a (F.X i).env) :: starEach [.Name "list" q2] (F.X i).env := by intro _; rfl) : ED F S (.Call (.Name "isinstance" q1) [a, .Name "list" q2] [] pos) (.bool (isLi d)) S1 := ed_isi ha hg T.isinstance hg2 T.list b_isi b_list (kit_list d) (by decide) (by decide) he
theorem e_lenT (T : Txt F.mg) (ha : ED F S e (.tuple ds) S1) (hg : ∀ i, Gl (F.X i) "len" := by intro _; rfl) (he : ∀ i, starEach [e] (F.X i).env = (false, eval e (F.X i).env) :: starEach [] (F.X i).env := by intro _; rfl) : ED F S (.Call (.Name "len" p) [e] [] pos) (.int ds.length) S1 := ed_callB c_lenT hg T.len b_len (ad_cons ha ad_nil he) (by decide) (by decide) he
theorem e_lenL (T : Txt F.mg) (ha : ED F S e (.list ds) S1) (hg : ∀ i, Gl (F.X i) "len" := by intro _; rfl) (he : ∀ i, starEach [e] (F.X i).env = (false, eval e (F.X i).env) :: starEach [] (F.X i).env := by intro _; rfl) : ED F S (.Call (.Name "len" p) [e] [] pos) (.int ds.length) S1 := ed_callB c_lenL hg T.len b_len (ad_cons ha ad_nil he) (by decide) (by decide) he
/-- len of a list of one's own -/
theorem e_lenO (T : Txt F.mg) (k : Nat) {n : Str} (hs : S[k]? = some (.own ds) := by rfl) (hN : F.N[k]? = some n := by rfl) (hv : ∀ i, Vis (F.X i).env.scope n := by first | exact fun _ => Or.inl rfl | exact fun _ => Or.inr (Or.inl rfl) | exact fun _ => Or.inr (Or.inr rfl)) (hg : ∀ i, Gl (F.X i) "len" := by intro _; rfl) (he : ∀ i, starEach [.Name n q] (F.X i).env = (false, eval (.Name n q) (F.X i).env) :: starEach [] (F.X i).env := by intro _; rfl)
    (hd : (n == ("__debug__" : Str)) = false := by decide) (hcd : (n == ("__classdict__" : Str)) = false := by decide) : ED F S (.Call (.Name "len" p) [.Name n q] [] pos) (.int ds.length) S := by
  refine .mk (t := tCB (fun xs H Q => ∃ p ys, xs = [.ref p] ∧ (SqL F.K H p ys ∨ SqT F.K H p ys) ∧ Q (.int ys.length) H) (tCons (tVar k) tNil)) (fun i => pe_callB (X := F.X i) (by have := call_len_seq (X := F.X i); rw [F.hK] at this; exact this) (hg i) (by rw [F.hm]; exact T.len) b_len (pa_cons (pe_var (pos := q) (by rw [F.hN]; exact hN) (hv i) hd hcd) pa_nil (he i)) (by decide) (by decide) (he i) (by rfl)) fun σ H G o Q kk => ?_
  obtain ⟨l, vs, e, h1, h2, h3, _⟩ := o.own hs
  exact ⟨_, e, l, vs, rfl, .inl (SqL.of h2), kk _ H G Stp.refl o (by rw [DpAll.length h3]; exact .int _)⟩
theorem e_all (T : Txt F.mg) {bs : List Bool} (ha : ED F S e (.list (bs.map .bool)) S1) (hg : ∀ i, Gl (F.X i) "all" := by intro _; rfl) (he : ∀ i, starEach [e] (F.X i).env = (false, eval e (F.X i).env) :: starEach [] (F.X i).env := by intro _; rfl) : ED F S (.Call (.Name "all" p) [e] [] pos) (.bool (bs.all id)) S1 := ed_callB c_all hg T.all b_all (ad_cons ha ad_nil he) (by decide) (by decide) he
theorem e_sum (T : Txt F.mg) {ns : List Int} (ha : ED F S e (.list (ns.map .int)) S1) (hg : ∀ i, Gl (F.X i) "sum" := by intro _; rfl) (he : ∀ i, starEach [e] (F.X i).env = (false, eval e (F.X i).env) :: starEach [] (F.X i).env := by intro _; rfl) : ED F S (.Call (.Name "sum" p) [e] [] pos) (.int ns.sum) S1 := ed_callB c_sum hg T.sum b_sum (ad_cons ha ad_nil he) (by decide) (by decide) he
theorem e_maxL (T : Txt F.mg) {ns : List Int} {m : Int} (ha : ED F S e (.list (ns.map .int)) S1) (h0 : m ∈ ns) (h1 : ∀ y, y ∈ ns → y ≤ m) (hg : ∀ i, Gl (F.X i) "max" := by intro _; rfl) (he : ∀ i, starEach [e] (F.X i).env = (false, eval e (F.X i).env) :: starEach [] (F.X i).env := by intro _; rfl) : ED F S (.Call (.Name "max" p) [e] [] pos) (.int m) S1 := ed_callB (c_max h0 h1) hg T.max b_max (ad_cons ha ad_nil he) (by decide) (by decide) he
theorem e_abs (T : Txt F.mg) (ha : ED F S e (.int i) S1) (hg : ∀ i, Gl (F.X i) "abs" := by intro _; rfl) (he : ∀ i, starEach [e] (F.X i).env = (false, eval e (F.X i).env) :: starEach [] (F.X i).env := by intro _; rfl) : ED F S (.Call (.Name "abs" p) [e] [] pos) (.int i.natAbs) S1 := ed_callB c_abs hg T.abs b_abs (ad_cons ha ad_nil he) (by decide) (by decide) he
theorem e_min (T : Txt F.mg) (ha : AD F S (e :: es) [.int i, .int j] S1) (hg : ∀ i, Gl (F.X i) "min" := by intro _; rfl) (he : ∀ i, starEach (e :: es) (F.X i).env = (false, eval e (F.X i).env) :: starEach es (F.X i).env := by intro _; rfl) (hpl : ∀ i, (backTo pos (starEach es (F.X i).env)).any (·.1) = false := by intro _; rfl) : ED F S (.Call (.Name "min" p) (e :: es) [] pos) (.int (min i j)) S1 := ed_callB c_min2 hg T.min b_min ha (by decide) (by decide) he hpl
theorem e_max (T : Txt F.mg) (ha : AD F S (e :: es) [.int i, .int j] S1) (hg : ∀ i, Gl (F.X i) "max" := by intro _; rfl) (he : ∀ i, starEach (e :: es) (F.X i).env = (false, eval e (F.X i).env) :: starEach es (F.X i).env := by intro _; rfl) (hpl : ∀ i, (backTo pos (starEach es (F.X i).env)).any (·.1) = false := by intro _; rfl) : ED F S (.Call (.Name "max" p) (e :: es) [] pos) (.int (max i j)) S1 := ed_callB c_max2 hg T.max b_max ha (by decide) (by decide) he hpl
theorem e_divmod (T : Txt F.mg) (ha : AD F S (e :: es) [.int i, .int j] S1) (h : CDiv i j) (hg : ∀ i, Gl (F.X i) "divmod" := by intro _; rfl) (he : ∀ i, starEach (e :: es) (F.X i).env = (false, eval e (F.X i).env) :: starEach es (F.X i).env := by intro _; rfl) (hpl : ∀ i, (backTo pos (starEach es (F.X i).env)).any (·.1) = false := by intro _; rfl) : ED F S (.Call (.Name "divmod" p) (e :: es) [] pos) (.tuple [.int (i / j), .int (i % j)]) S1 := ed_callB (c_divmod h) hg T.divmod b_divmod ha (by decide) (by decide) he hpl
theorem e_tuple (T : Txt F.mg) (ha : ED F S e (.list ds) S1) (hg : ∀ i, Gl (F.X i) "tuple" := by intro _; rfl) (he : ∀ i, starEach [e] (F.X i).env = (false, eval e (F.X i).env) :: starEach [] (F.X i).env := by intro _; rfl) : ED F S (.Call (.Name "tuple" p) [e] [] pos) (.tuple ds) S1 := ed_callTy c_tupL hg T.tuple b_tuple (ad_cons ha ad_nil he) (by decide) (by decide) he
theorem e_sorted (T : Txt F.mg) (ha : ED F S e (.list ds) S1) (h1 : PySem.W.AllAlike ds) (h2 : PySem.W.Sortable ds) (h3 : ∀ d ∈ ds, d.depth ≤ 20) (hg : ∀ i, Gl (F.X i) "sorted" := by intro _; rfl) (he : ∀ i, starEach [e] (F.X i).env = (false, eval e (F.X i).env) :: starEach [] (F.X i).env := by intro _; rfl) : ED F S (.Call (.Name "sorted" p) [e] [] pos) (.list (sortD ds)) S1 := ed_callB (c_sorted h1 h2 h3) hg T.sorted b_sorted (ad_cons ha ad_nil he) (by decide) (by decide) he
/-- a def of one's own -/
theorem e_call {f : Str} {n : Nat} {R : List PyData → PyData → Prop} (h : FnHas F.P F.w F.K F.mg F.base f n (PSp F.K R)) (hr : Room n F.A) (ha : AD F S (e :: es) ds S1) (hR : R ds d) (hg : ∀ i, Gl (F.X i) f := by intro _; rfl) (hdb : (f == ("__debug__" : Str)) = false := by decide)
    (he : ∀ i, starEach (e :: es) (F.X i).env = (false, eval e (F.X i).env) :: starEach es (F.X i).env := by intro _; rfl) (hpl : ∀ i, (backTo pos (starEach es (F.X i).env)).any (·.1) = false := by intro _; rfl) : ED F S (.Call (.Name f p) (e :: es) [] pos) d S1 := ed_call h hr hg ha hR hdb he hpl
theorem a1 (ha : ED F S a x S1) (hs : ∀ i, starEach [a] (F.X i).env = (false, eval a (F.X i).env) :: starEach [] (F.X i).env := by intro _; rfl) : AD F S [a] [x] S1 := ad_cons ha ad_nil hs
theorem a2 (ha : ED F S a x S1) (hb : ED F S1 b y S2) (hs : ∀ i, starEach [a, b] (F.X i).env = (false, eval a (F.X i).env) :: starEach [b] (F.X i).env := by intro _; rfl) (hs2 : ∀ i, starEach [b] (F.X i).env = (false, eval b (F.X i).env) :: starEach [] (F.X i).env := by intro _; rfl) : AD F S [a, b] [x, y] S2 := ad_cons ha (ad_cons hb ad_nil hs2) hs
theorem a3 (ha : ED F S a x S1) (hb : ED F S1 b y S2) (ho : ED F S2 o z S3) (hs : ∀ i, starEach [a, b, o] (F.X i).env = (false, eval a (F.X i).env) :: starEach [b, o] (F.X i).env := by intro _; rfl) (hs2 : ∀ i, starEach [b, o] (F.X i).env = (false, eval b (F.X i).env) :: starEach [o] (F.X i).env := by intro _; rfl) (hs3 : ∀ i, starEach [o] (F.X i).env = (false, eval o (F.X i).env) :: starEach [] (F.X i).env := by intro _; rfl) : AD F S [a, b, o] [x, y, z] S3 := ad_cons ha (ad_cons hb (ad_cons ho ad_nil hs3) hs2) hs
theorem i_rng (T : Txt F.mg) (h : ED F S e (.int i) S1) (h0 : 0 ≤ i) (h1 : i ≤ 100000) (hg : ∀ i, Gl (F.X i) "range" := by intro _; rfl) (hs : ∀ i, starEach [e] (F.X i).env = [(false, eval e (F.X i).env)] := by intro _; rfl) (hs2 : ∀ i, starEach [e] (F.X i).env = (false, eval e (F.X i).env) :: starEach [] (F.X i).env := by intro _; rfl) : ID F S tg (.Call (.Name "range" q) [e] [] pos) (rgD i.toNat) S1 := id_rng h (by omega) (by omega) hg T.range hs hs2
/-- a test of a value known to be a truth -/
theorem t_v {v : Bool} (h : ED F S e (.bool v) S1) (he : ∀ i whole, isTrue e (F.X i).env whole = (do let v ← whole; standAt e.pos; holding [v] (truthy v)) := by intro _ _; rfl) : TD F S e v S1 := td_val h he
/-- a target that is a name -/
theorem gn {W : Nat → Prop} (k : Nat) {n : Str} (hk : k < S.length := by first | exact Nat.le_of_ble_eq_true rfl | simp) (hN : F.N[k]? = some n := by rfl) (hx : ∀ i, Loc (F.X i).env.scope n := by first | exact fun _ => .inl rfl | exact fun _ => .inr rfl) (hf : ∀ i, (F.X i).fn n = true ∨ (F.X i).env.scope.names.lookup n = some .local := by first | exact fun _ => .inl rfl | exact fun _ => .inr rfl) (hw : W k := by first | trivial | simp) : GD F W S (.Name n pos) d (S.set k (.dat d)) := gd_name hk hN hx hf hw
theorem gt2 {W : Nat → Prop} {k : Nat} (h1 : GD F W S a x S1) (h2 : GD F W S1 b y S2) (hs1 : ∀ i, (assignEach [a, b] (F.X i).env).map (·.2) = assign a (F.X i).env :: (assignEach [b] (F.X i).env).map (·.2) := by intro _; rfl) (hs2 : ∀ i, (assignEach [b] (F.X i).env).map (·.2) = assign b (F.X i).env :: (assignEach [] (F.X i).env).map (·.2) := by intro _; rfl)
    (hn : ∀ i, (assignEach [a, b] (F.X i).env).length = 2 := by intro _; rfl) (hst : ∀ i, (assignEach [a, b] (F.X i).env).findIdx? (·.1) = none := by intro _; rfl) : GD F W S (.Tuple [a, b] k pos) (.tuple [x, y]) S2 := gd_tup (gsd_cons h1 (gsd_cons h2 gsd_nil hs2) hs1) hn hst
theorem gl2 {W : Nat → Prop} {k : Nat} (h1 : GD F W S a x S1) (h2 : GD F W S1 b y S2) (hs1 : ∀ i, (assignEach [a, b] (F.X i).env).map (·.2) = assign a (F.X i).env :: (assignEach [b] (F.X i).env).map (·.2) := by intro _; rfl) (hs2 : ∀ i, (assignEach [b] (F.X i).env).map (·.2) = assign b (F.X i).env :: (assignEach [] (F.X i).env).map (·.2) := by intro _; rfl)
    (hn : ∀ i, (assignEach [a, b] (F.X i).env).length = 2 := by intro _; rfl) (hst : ∀ i, (assignEach [a, b] (F.X i).env).findIdx? (·.1) = none := by intro _; rfl) : GD F W S (.Tuple [a, b] k pos) (.list [x, y]) S2 := gd_lst (gsd_cons h1 (gsd_cons h2 gsd_nil hs2) hs1) hn hst
theorem gt3 {W : Nat → Prop} {k : Nat} (h1 : GD F W S a x S1) (h2 : GD F W S1 b y S2) (h3 : GD F W S2 o z S3) (hs1 : ∀ i, (assignEach [a, b, o] (F.X i).env).map (·.2) = assign a (F.X i).env :: (assignEach [b, o] (F.X i).env).map (·.2) := by intro _; rfl) (hs2 : ∀ i, (assignEach [b, o] (F.X i).env).map (·.2) = assign b (F.X i).env :: (assignEach [o] (F.X i).env).map (·.2) := by intro _; rfl)
    (hs3 : ∀ i, (assignEach [o] (F.X i).env).map (·.2) = assign o (F.X i).env :: (assignEach [] (F.X i).env).map (·.2) := by intro _; rfl)
    (hn : ∀ i, (assignEach [a, b, o] (F.X i).env).length = 3 := by intro _; rfl) (hst : ∀ i, (assignEach [a, b, o] (F.X i).env).findIdx? (·.1) = none := by intro _; rfl) : GD F W S (.Tuple [a, b, o] k pos) (.tuple [x, y, z]) S3 := gd_tup (gsd_cons h1 (gsd_cons h2 (gsd_cons h3 gsd_nil hs3) hs2) hs1) hn hst
/-- if c: return .. : the rest follows where c does not hold -/
theorem bd_ifRet {c : Expr} {v : Bool} (hc : TD F S c v S1) (h1 : v = true → BD F S1 A { P with nx := fun _ => False }) (h2 : v = false → BD F S1 ss P) : BD F S (.If c A [] pos :: ss) P := by
  cases v with
  | true => exact bd_cons (M := fun _ => False) (sd_if hc h1 (fun h => nomatch h)) (fun _ h => h.elim)
  | false => exact bd_cons (M := fun S' => S' = S1) (sd_if hc (fun h => nomatch h) (fun _ => bd_nil rfl)) (fun _ h => by subst h; exact h2 rfl)
end
end Sk


set_option Elab.async false
set_option linter.all false
set_option maxRecDepth 100000
set_option maxHeartbeats 4000000
namespace Sk
open PySem L2
/-! ### the text by places, the names by slots -/
def top (i : Nat) : Stmt := PySem.Challenge.pw_sackloads_k35_whole_papers.main.body.getD i (.Pass ⟨0, 0, 0, 0⟩)
abbrev s_is_from : Stmt := top 9
abbrev n_is_from : List Str := ["thing", "least"]
theorem sc_is_from : FnScope n_is_from ["thing", "least"] (defScope s_is_from) := ⟨rfl, rfl, rfl, by decide +kernel, rfl, by decide +kernel, by decide +kernel⟩
abbrev s_is_kind : Stmt := top 10
abbrev n_is_kind : List Str := ["thing"]
theorem sc_is_kind : FnScope n_is_kind ["thing"] (defScope s_is_kind) := ⟨rfl, rfl, rfl, by decide +kernel, rfl, by decide +kernel, by decide +kernel⟩
abbrev s_is_store : Stmt := top 11
abbrev n_is_store : List Str := ["thing", "one"]
theorem sc_is_store : FnScope n_is_store ["thing"] (defScope s_is_store) := ⟨rfl, rfl, rfl, by decide +kernel, rfl, by decide +kernel, by decide +kernel⟩
abbrev s_need_store : Stmt := top 12
abbrev n_need_store : List Str := ["store"]
theorem sc_need_store : FnScope n_need_store ["store"] (defScope s_need_store) := ⟨rfl, rfl, rfl, by decide +kernel, rfl, by decide +kernel, by decide +kernel⟩
abbrev s_need_number : Stmt := top 13
abbrev n_need_number : List Str := ["number"]
theorem sc_need_number : FnScope n_need_number ["number"] (defScope s_need_number) := ⟨rfl, rfl, rfl, by decide +kernel, rfl, by decide +kernel, by decide +kernel⟩
abbrev s_need_asked : Stmt := top 14
abbrev n_need_asked : List Str := ["store", "room"]
theorem sc_need_asked : FnScope n_need_asked ["store", "room"] (defScope s_need_asked) := ⟨rfl, rfl, rfl, by decide +kernel, rfl, by decide +kernel, by decide +kernel⟩
abbrev s_need_small : Stmt := top 15
abbrev n_need_small : List Str := ["room"]
theorem sc_need_small : FnScope n_need_small ["room"] (defScope s_need_small) := ⟨rfl, rfl, rfl, by decide +kernel, rfl, by decide +kernel, by decide +kernel⟩
abbrev s_weight_of : Stmt := top 16
abbrev n_weight_of : List Str := ["store", "load", "kind", "often"]
theorem sc_weight_of : FnScope n_weight_of ["store", "load"] (defScope s_weight_of) := ⟨rfl, rfl, rfl, by decide +kernel, rfl, by decide +kernel, by decide +kernel⟩
abbrev s_worth_of : Stmt := top 17
abbrev n_worth_of : List Str := ["store", "load", "kind", "often"]
theorem sc_worth_of : FnScope n_worth_of ["store", "load"] (defScope s_worth_of) := ⟨rfl, rfl, rfl, by decide +kernel, rfl, by decide +kernel, by decide +kernel⟩
abbrev s_most_in : Stmt := top 18
abbrev n_most_in : List Str := ["kind", "room", "alone"]
theorem sc_most_in : FnScope n_most_in ["kind", "room"] (defScope s_most_in) := ⟨rfl, rfl, rfl, by decide +kernel, rfl, by decide +kernel, by decide +kernel⟩
abbrev s_bounded_by : Stmt := top 19
abbrev n_bounded_by : List Str := ["store", "room", "kind"]
theorem sc_bounded_by : FnScope n_bounded_by ["store", "room"] (defScope s_bounded_by) := ⟨rfl, rfl, rfl, by decide +kernel, rfl, by decide +kernel, by decide +kernel⟩
abbrev s_common : Stmt := top 22
abbrev n_common : List Str := ["one", "other"]
theorem sc_common : FnScope n_common ["one", "other"] (defScope s_common) := ⟨rfl, rfl, rfl, by decide +kernel, rfl, by decide +kernel, by decide +kernel⟩
abbrev s_made : Stmt := top 23
abbrev n_made : List Str := ["top", "bottom", "share"]
theorem sc_made : FnScope n_made ["top", "bottom"] (defScope s_made) := ⟨rfl, rfl, rfl, by decide +kernel, rfl, by decide +kernel, by decide +kernel⟩
abbrev s_plus : Stmt := top 24
abbrev n_plus : List Str := ["one", "other"]
theorem sc_plus : FnScope n_plus ["one", "other"] (defScope s_plus) := ⟨rfl, rfl, rfl, by decide +kernel, rfl, by decide +kernel, by decide +kernel⟩
abbrev s_in_order : Stmt := top 25
abbrev n_in_order : List Str := ["store", "place", "left", "found", "best"]
theorem sc_in_order : FnScope n_in_order ["store"] (defScope s_in_order) := ⟨rfl, rfl, rfl, by decide +kernel, rfl, by decide +kernel, by decide +kernel⟩
abbrev s_shares_of : Stmt := top 26
abbrev n_shares_of : List Str := ["store", "room", "found", "place", "weight", "worth", "most"]
theorem sc_shares_of : FnScope n_shares_of ["store", "room"] (defScope s_shares_of) := ⟨rfl, rfl, rfl, by decide +kernel, rfl, by decide +kernel, by decide +kernel⟩
abbrev s_worth_by : Stmt := top 27
abbrev n_worth_by : List Str := ["store", "shares", "found", "kind", "share"]
theorem sc_worth_by : FnScope n_worth_by ["store", "shares"] (defScope s_worth_by) := ⟨rfl, rfl, rfl, by decide +kernel, rfl, by decide +kernel, by decide +kernel⟩
abbrev s_is_price : Stmt := top 28
abbrev n_is_price : List Str := ["thing"]
theorem sc_is_price : FnScope n_is_price ["thing"] (defScope s_is_price) := ⟨rfl, rfl, rfl, by decide +kernel, rfl, by decide +kernel, by decide +kernel⟩
abbrev s_bound_of : Stmt := top 29
abbrev n_bound_of : List Str := ["store", "room", "price", "found", "weight", "worth", "most", "more"]
theorem sc_bound_of : FnScope n_bound_of ["store", "room", "price"] (defScope s_bound_of) := ⟨rfl, rfl, rfl, by decide +kernel, rfl, by decide +kernel, by decide +kernel⟩
abbrev s_price_of : Stmt := top 30
abbrev n_price_of : List Str := ["store", "room", "left", "place", "weight", "worth", "most"]
theorem sc_price_of : FnScope n_price_of ["store", "room"] (defScope s_price_of) := ⟨rfl, rfl, rfl, by decide +kernel, rfl, by decide +kernel, by decide +kernel⟩
abbrev s_some_price : Stmt := top 31
abbrev n_some_price : List Str := ["store", "room"]
theorem sc_some_price : FnScope n_some_price ["store", "room"] (defScope s_some_price) := ⟨rfl, rfl, rfl, by decide +kernel, rfl, by decide +kernel, by decide +kernel⟩
abbrev s_whole_bound : Stmt := top 32
abbrev n_whole_bound : List Str := ["store", "room", "top", "bottom"]
theorem sc_whole_bound : FnScope n_whole_bound ["store", "room"] (defScope s_whole_bound) := ⟨rfl, rfl, rfl, by decide +kernel, rfl, by decide +kernel, by decide +kernel⟩
abbrev s_row_with : Stmt := top 34
abbrev n_row_with : List Str := ["row", "kind", "room", "found", "here", "most", "often"]
theorem sc_row_with : FnScope n_row_with ["row", "kind", "room"] (defScope s_row_with) := ⟨rfl, rfl, rfl, by decide +kernel, rfl, by decide +kernel, by decide +kernel⟩
abbrev s_rows_of : Stmt := top 35
abbrev n_rows_of : List Str := ["store", "room", "rows", "kind"]
theorem sc_rows_of : FnScope n_rows_of ["store", "room"] (defScope s_rows_of) := ⟨rfl, rfl, rfl, by decide +kernel, rfl, by decide +kernel, by decide +kernel⟩
abbrev s_need_table : Stmt := top 36
abbrev n_need_table : List Str := ["store", "room"]
theorem sc_need_table : FnScope n_need_table ["store", "room"] (defScope s_need_table) := ⟨rfl, rfl, rfl, by decide +kernel, rfl, by decide +kernel, by decide +kernel⟩
abbrev s_best_worth : Stmt := top 37
abbrev n_best_worth : List Str := ["store", "room"]
theorem sc_best_worth : FnScope n_best_worth ["store", "room"] (defScope s_best_worth) := ⟨rfl, rfl, rfl, by decide +kernel, rfl, by decide +kernel, by decide +kernel⟩
abbrev s_best_of : Stmt := top 38
abbrev n_best_of : List Str := ["store", "room", "rows", "found", "at", "kind", "behind", "due", "some", "often"]
theorem sc_best_of : FnScope n_best_of ["store", "room"] (defScope s_best_of) := ⟨rfl, rfl, rfl, by decide +kernel, rfl, by decide +kernel, by decide +kernel⟩
abbrev s_is_row : Stmt := top 40
abbrev n_is_row : List Str := ["thing", "room", "one"]
theorem sc_is_row : FnScope n_is_row ["thing", "room"] (defScope s_is_row) := ⟨rfl, rfl, rfl, by decide +kernel, rfl, by decide +kernel, by decide +kernel⟩
abbrev s_covers : Stmt := top 41
abbrev n_covers : List Str := ["row", "later", "kind", "room", "one", "due"]
theorem sc_covers : FnScope n_covers ["row", "later", "kind", "room"] (defScope s_covers) := ⟨rfl, rfl, rfl, by decide +kernel, rfl, by decide +kernel, by decide +kernel⟩
abbrev s_table_bound : Stmt := top 42
abbrev n_table_bound : List Str := ["thing", "store", "room", "row", "later", "kind", "one"]
theorem sc_table_bound : FnScope n_table_bound ["thing", "store", "room"] (defScope s_table_bound) := ⟨rfl, rfl, rfl, by decide +kernel, rfl, by decide +kernel, by decide +kernel⟩
abbrev s_table_paper : Stmt := top 43
abbrev n_table_paper : List Str := ["store", "room", "rows", "kind", "row"]
theorem sc_table_paper : FnScope n_table_paper ["store", "room"] (defScope s_table_paper) := ⟨rfl, rfl, rfl, by decide +kernel, rfl, by decide +kernel, by decide +kernel⟩
abbrev s_without : Stmt := top 44
abbrev n_without : List Str := ["store", "place"]
theorem sc_without : FnScope n_without ["store", "place"] (defScope s_without) := ⟨rfl, rfl, rfl, by decide +kernel, rfl, by decide +kernel, by decide +kernel⟩
abbrev s_below : Stmt := top 45
abbrev n_below : List Str := ["one", "u"]
theorem sc_below : FnScope n_below ["one", "u"] (defScope s_below) := ⟨rfl, rfl, rfl, by decide +kernel, rfl, by decide +kernel, by decide +kernel⟩
abbrev s_is_cut_of : Stmt := top 46
abbrev n_is_cut_of : List Str := ["thing", "store", "room", "u", "found", "kind", "rest", "often", "one"]
theorem sc_is_cut_of : FnScope n_is_cut_of ["thing", "store", "room", "u"] (defScope s_is_cut_of) := ⟨rfl, rfl, rfl, by decide +kernel, rfl, by decide +kernel, by decide +kernel⟩
abbrev s_need_cut : Stmt := top 47
abbrev n_need_cut : List Str := ["store", "room", "u"]
theorem sc_need_cut : FnScope n_need_cut ["store", "room", "u"] (defScope s_need_cut) := ⟨rfl, rfl, rfl, by decide +kernel, rfl, by decide +kernel, by decide +kernel⟩
abbrev s_is_cut : Stmt := top 48
abbrev n_is_cut : List Str := ["thing", "store", "room", "u"]
theorem sc_is_cut : FnScope n_is_cut ["thing", "store", "room", "u"] (defScope s_is_cut) := ⟨rfl, rfl, rfl, by decide +kernel, rfl, by decide +kernel, by decide +kernel⟩
abbrev s_cut_by : Stmt := top 49
abbrev n_cut_by : List Str := ["store", "room", "u", "price", "place", "kind", "rest", "parts", "often"]
theorem sc_cut_by : FnScope n_cut_by ["store", "room", "u"] (defScope s_cut_by) := ⟨rfl, rfl, rfl, by decide +kernel, rfl, by decide +kernel, by decide +kernel⟩
abbrev s_cut_for : Stmt := top 50
abbrev n_cut_for : List Str := ["store", "room", "u"]
theorem sc_cut_for : FnScope n_cut_for ["store", "room", "u"] (defScope s_cut_for) := ⟨rfl, rfl, rfl, by decide +kernel, rfl, by decide +kernel, by decide +kernel⟩
abbrev s_is_single : Stmt := top 52
abbrev n_is_single : List Str := ["store", "kind"]
theorem sc_is_single : FnScope n_is_single ["store"] (defScope s_is_single) := ⟨rfl, rfl, rfl, by decide +kernel, rfl, by decide +kernel, by decide +kernel⟩
abbrev s_need_single : Stmt := top 53
abbrev n_need_single : List Str := ["store"]
theorem sc_need_single : FnScope n_need_single ["store"] (defScope s_need_single) := ⟨rfl, rfl, rfl, by decide +kernel, rfl, by decide +kernel, by decide +kernel⟩
abbrev s_loads_of : Stmt := top 54
abbrev n_loads_of : List Str := ["store", "found", "kind", "longer", "load", "often"]
theorem sc_loads_of : FnScope n_loads_of ["store"] (defScope s_loads_of) := ⟨rfl, rfl, rfl, by decide +kernel, rfl, by decide +kernel, by decide +kernel⟩
abbrev s_halves_of : Stmt := top 55
abbrev n_halves_of : List Str := ["store", "half"]
theorem sc_halves_of : FnScope n_halves_of ["store"] (defScope s_halves_of) := ⟨rfl, rfl, rfl, by decide +kernel, rfl, by decide +kernel, by decide +kernel⟩
abbrev s_unbeaten : Stmt := top 56
abbrev n_unbeaten : List Str := ["store", "found", "load", "some", "heavy", "dear"]
theorem sc_unbeaten : FnScope n_unbeaten ["store"] (defScope s_unbeaten) := ⟨rfl, rfl, rfl, by decide +kernel, rfl, by decide +kernel, by decide +kernel⟩
abbrev s_stair_of : Stmt := top 57
abbrev n_stair_of : List Str := ["store", "room", "worth", "one", "other", "found", "i", "j", "half"]
theorem sc_stair_of : FnScope n_stair_of ["store", "room", "worth"] (defScope s_stair_of) := ⟨rfl, rfl, rfl, by decide +kernel, rfl, by decide +kernel, by decide +kernel⟩
abbrev s_need_stair : Stmt := top 58
abbrev n_need_stair : List Str := ["store", "room", "worth"]
theorem sc_need_stair : FnScope n_need_stair ["store", "room", "worth"] (defScope s_need_stair) := ⟨rfl, rfl, rfl, by decide +kernel, rfl, by decide +kernel, by decide +kernel⟩
abbrev s_stair_for : Stmt := top 59
abbrev n_stair_for : List Str := ["store", "room", "worth"]
theorem sc_stair_for : FnScope n_stair_for ["store", "room", "worth"] (defScope s_stair_for) := ⟨rfl, rfl, rfl, by decide +kernel, rfl, by decide +kernel, by decide +kernel⟩
abbrev s_law_cell : Stmt := top 61
abbrev n_law_cell : List Str := ["script", "k"]
theorem sc_law_cell : FnScope n_law_cell ["script", "k"] (defScope s_law_cell) := ⟨rfl, rfl, rfl, by decide +kernel, rfl, by decide +kernel, by decide +kernel⟩
abbrev s_law_mix : Stmt := top 62
abbrev n_law_mix : List Str := ["cell", "k", "some", "stir"]
theorem sc_law_mix : FnScope n_law_mix ["cell", "k"] (defScope s_law_mix) := ⟨rfl, rfl, rfl, by decide +kernel, rfl, by decide +kernel, by decide +kernel⟩
abbrev s_law_box : Stmt := top 63
abbrev n_law_box : List Str := ["script", "k", "cell", "number", "j"]
theorem sc_law_box : FnScope n_law_box ["script", "k"] (defScope s_law_box) := ⟨rfl, rfl, rfl, by decide +kernel, rfl, by decide +kernel, by decide +kernel⟩
abbrev s_law_take : Stmt := top 64
abbrev n_law_take : List Str := ["box", "many", "left", "digit"]
theorem sc_law_take : FnScope n_law_take ["box", "many"] (defScope s_law_take) := ⟨rfl, rfl, rfl, by decide +kernel, rfl, by decide +kernel, by decide +kernel⟩
abbrev s_law_kind_of : Stmt := top 65
abbrev n_law_kind_of : List Str := ["box", "ends", "way", "heavy", "dear", "often"]
theorem sc_law_kind_of : FnScope n_law_kind_of ["box", "ends"] (defScope s_law_kind_of) := ⟨rfl, rfl, rfl, by decide +kernel, rfl, by decide +kernel, by decide +kernel⟩
abbrev s_law_stocked : Stmt := top 66
abbrev n_law_stocked : List Str := ["box", "most", "ends", "found", "k", "kind"]
theorem sc_law_stocked : FnScope n_law_stocked ["box", "most", "ends"] (defScope s_law_stocked) := ⟨rfl, rfl, rfl, by decide +kernel, rfl, by decide +kernel, by decide +kernel⟩
abbrev s_law : Stmt := top 67
abbrev n_law : List Str := ["script", "k", "box", "store", "room", "best", "paper", "lesser", "u", "cut", "high", "price", "single", "heavy", "dear", "most", "kind"]
theorem sc_law : FnScope n_law ["script"] (defScope s_law) := ⟨rfl, rfl, rfl, by decide +kernel, rfl, by decide +kernel, by decide +kernel⟩
/-- a def as the top leaves it -/
structure Def (K : PySem.W.Frag) (mg : Str → Option Value) (x : Str) (st : Stmt) (ps : List Str) : Prop where
  ex : ∃ f fd, FunD K x x (defArgs st) (defBody st) (defScope st) [] [] f fd ∧ mg x = some (.ref f) ∧ Binds K fd ps []
section
variable {P : Program} {w : World} {K : PySem.W.Frag} {mg : Str → Option Value} {base : Heap} {x : Str} {st : Stmt} {N ps : List Str} {k : Nat}
theorem pure_of {R : List PyData → PyData → Prop} (D : Def K mg x st ps) (Sc : FnScope N ps (defScope st)) (len : ∀ ds d, R ds d → ds.length = ps.length)
    (hb : ∀ ds d, R ds d → Body P w K mg base N x (defScope st) (defBody st) k (ds.map Sl.dat ++ nos (N.length - ds.length)) { nx := fun _ => d = .none, rt := fun d' _ => d' = d }) : FnHas P w K mg base x (k + 1) (PSp K R) := by
  obtain ⟨f, fd, F, m, b⟩ := D.ex
  exact fn_pure F Sc m b len hb
theorem list_of {R : List PyData → List PyData → Prop} (D : Def K mg x st ps) (Sc : FnScope N ps (defScope st)) (len : ∀ ds d, R ds d → ds.length = ps.length)
    (hb : ∀ ds es, R ds es → Body P w K mg base N x (defScope st) (defBody st) k (ds.map Sl.dat ++ nos (N.length - ds.length)) { rl := fun es' => es' = es }) : FnHas P w K mg base x (k + 1) (LSp K R) := by
  obtain ⟨f, fd, F, m, b⟩ := D.ex
  exact fn_list F Sc m b len hb
theorem box_of {R : Int → List PyData → PyData → Int → Prop} (D : Def K mg x st ps) (Sc : FnScope N ps (defScope st)) (hN : 0 < N.length) (len : ∀ b ds d b', R b ds d b' → ds.length + 1 = ps.length)
    (hb : ∀ b ds d b', R b ds d b' → Body P w K mg base N x (defScope st) (defBody st) k (.box b :: (ds.map Sl.dat ++ nos (N.length - 1 - ds.length))) { rt := fun d' S' => d' = d ∧ S'[0]? = some (.box b') }) : FnHas P w K mg base x (k + 1) (BSp K R) := by
  obtain ⟨f, fd, F, m, b⟩ := D.ex
  exact fn_box F Sc m b hN len hb
end
section
variable {F : Fam} {S S1 S2 S3 S' : List Sl} {e a b o : Expr} {es rest : List Expr} {d x y z : PyData} {pos p : Pos} {P : Po} {s : Stmt} {ss A B : List Stmt}
theorem bd_ret (he : ED F S e d S1) (hr : P.rt d S1) : BD F S (.Return (some e) pos :: ss) P := bd_cons (M := fun _ => False) (sd_ret he hr) fun _ h => h.elim
theorem bd_set {k : Nat} {n : Str} {pn : Pos} (he : ED F S e d S1) (hn : BD F (S1.set k (.dat d)) ss P) (hk : k < S1.length := by first | exact Nat.le_of_ble_eq_true rfl | simp) (hN : F.N[k]? = some n := by rfl) (hx : ∀ i, Loc (F.X i).env.scope n := by first | exact fun _ => .inl rfl | exact fun _ => .inr rfl) (hw : P.wr k := by trivial)
    (hs : ∀ i, swapsWith e (some (.Name n pn)) pos.line (F.X i).env = pure false := by intro _; rfl) (hf : ∀ i, (F.X i).fn n = true ∨ (F.X i).env.scope.names.lookup n = some .local := by first | exact fun _ => .inl rfl | exact fun _ => .inr rfl) : BD F S (.Assign [.Name n pn] e pos :: ss) P :=
  bd_cons (M := fun S' => S' = S1.set k (.dat d)) (sd_set he rfl hk hN hx hw hs hf) fun _ h => by subst h; exact hn
theorem bd_own {k : Nat} {n : Str} {pn : Pos} {ds : List PyData} (he : LD F S e ds S1) (hn : BD F (S1.set k (.own ds)) ss P) (hk : k < S1.length := by first | exact Nat.le_of_ble_eq_true rfl | simp) (hN : F.N[k]? = some n := by rfl) (hx : ∀ i, Loc (F.X i).env.scope n := by first | exact fun _ => .inl rfl | exact fun _ => .inr rfl) (hw : P.wr k := by trivial)
    (hs : ∀ i, swapsWith e (some (.Name n pn)) pos.line (F.X i).env = pure false := by intro _; rfl) (hf : ∀ i, (F.X i).fn n = true ∨ (F.X i).env.scope.names.lookup n = some .local := by first | exact fun _ => .inl rfl | exact fun _ => .inr rfl) : BD F S (.Assign [.Name n pn] e pos :: ss) P :=
  bd_cons (M := fun S' => S' = S1.set k (.own ds)) (sd_own he rfl hk hN hx hw hs hf) fun _ h => by subst h; exact hn
theorem bd_drop (he : ED F S e d S1) (hn : BD F S1 ss P) (hs : ∀ i, swapsWith e none pos.line (F.X i).env = pure false := by intro _; rfl) : BD F S (.Expr e pos :: ss) P :=
  bd_cons (M := fun S' => S' = S1) (sd_drop he rfl hs) fun _ h => by subst h; exact hn
/-- if c: raise ..: the way that is not gone -/
theorem bd_skip {c : Expr} {v : Bool} (hc : TD F S c v S1) (hn : BD F S1 ss P) (hv : v = false := by rfl) : BD F S (.If c A [] pos :: ss) P := by subst hv; exact bd_ifRet hc (fun h => nomatch h) fun _ => hn
theorem bd_take {c : Expr} {v : Bool} (hc : TD F S c v S1) (hn : BD F S1 A { P with nx := fun S' => BD F S' ss P }) (hv : v = true := by rfl) : BD F S (.If c A B pos :: ss) P := by
  subst hv; exact bd_cons (M := fun S' => BD F S' ss P) (sd_if hc (fun _ => hn) (fun h => nomatch h)) fun _ h => h
theorem bd_else {c : Expr} {v : Bool} (hc : TD F S c v S1) (hn : BD F S1 B { P with nx := fun S' => BD F S' ss P }) (hv : v = false := by rfl) : BD F S (.If c A B pos :: ss) P := by
  subst hv; exact bd_cons (M := fun S' => BD F S' ss P) (sd_if hc (fun h => nomatch h) (fun _ => hn)) fun _ h => h
theorem bd_end (h : P.nx S) : BD F S [] P := bd_nil h
end
end Sk


set_option Elab.async false
set_option linter.all false
set_option maxRecDepth 100000
set_option maxHeartbeats 4000000
namespace Sk
open PySem L2
def isFrom : PyData → Int → Bool
  | .int i, n => decide (n ≤ i)
  | _, _ => false
section
variable {P : Program} {w : World} {K : PySem.W.Frag} {mg : Str → Option Value} {base : Heap}
def RisFrom (ds : List PyData) (d : PyData) : Prop := ∃ t n, ds = [t, .int n] ∧ d = .bool (isFrom t n)
theorem h_is_from (D : Def K mg "is_from" s_is_from ["thing", "least"]) (T : Txt mg) : FnHas P w K mg base "is_from" 1 (PSp K RisFrom) := by
  refine pure_of D sc_is_from (by rintro _ _ ⟨t, n, rfl, _⟩; rfl) fun ds d ⟨t, n, e1, e2⟩ f cdv A outer s H E bx nd un hr => ?_
  subst e1; subst e2
  cases t with
  | int i => (apply bd_ret; exact ed_andT (e_isi_int T (vr 0)) (ed_andT (ed_not (e_isi_bool T (vr 0))) (ed_one (ed_cmp (vr 0) (vr 1) o_ge))); rfl)
  | bool i => (apply bd_ret; exact ed_andT (e_isi_int T (vr 0)) (ed_andF (ed_not (e_isi_bool T (vr 0)))); rfl)
  | none => (apply bd_ret; exact ed_andF (e_isi_int T (vr 0)); rfl)
  | str _ => (apply bd_ret; exact ed_andF (e_isi_int T (vr 0)); rfl)
  | list _ => (apply bd_ret; exact ed_andF (e_isi_int T (vr 0)); rfl)
  | tuple _ => (apply bd_ret; exact ed_andF (e_isi_int T (vr 0)); rfl)
  | dict _ => (apply bd_ret; exact ed_andF (e_isi_int T (vr 0)); rfl)
end
end Sk


set_option linter.all false
set_option maxHeartbeats 4000000
namespace Sk
/-! ### plain mathematics: loads, rows -/
/-- weight, worth, how often it is there -/
abbrev Kd := Int × Int × Option Int
structure OkK (k : Kd) : Prop where
  w1 : 1 ≤ k.1
  w2 : k.1 ≤ 25
  v1 : 0 ≤ k.2.1
  v2 : k.2.1 ≤ 39
  m : ∀ m, k.2.2 = some m → 0 ≤ m ∧ m ≤ 5
structure OkS (st : List Kd) : Prop where
  len : st.length ≤ 4
  all : ∀ k ∈ st, OkK k
/-- some load of the store that fits r has the worth v -/
inductive Reach : List Kd → Int → Int → Prop
  | nil {r : Int} (h : 0 ≤ r) : Reach [] r 0
  | cons {k : Kd} {st : List Kd} {r v : Int} (t : Int) (h0 : 0 ≤ t) (hm : ∀ m, k.2.2 = some m → t ≤ m) (h : Reach st (r - t * k.1) v) : Reach (k :: st) r (v + t * k.2.1)
theorem Reach.le {st : List Kd} {r r' v : Int} (h : Reach st r v) (hr : r ≤ r') : Reach st r' v := by
  induction h generalizing r' with
  | nil h => exact .nil (by omega)
  | cons t h0 hm h ih => exact .cons t h0 hm (ih (by omega))
theorem Reach.room {st : List Kd} {r v : Int} (h : Reach st r v) (hs : ∀ k ∈ st, OkK k) : 0 ≤ r := by
  induction h with
  | nil h => exact h
  | @cons k st r v t h0 hm h ih =>
    have h1 := ih fun k hk => hs k (List.mem_cons_of_mem _ hk)
    have h2 := (hs k List.mem_cons_self).w1
    have : 0 ≤ t * k.1 := Int.mul_nonneg h0 (by omega)
    omega
theorem Reach.zero {st : List Kd} {r : Int} (hr : 0 ≤ r) (hs : ∀ k ∈ st, OkK k) : Reach st r 0 := by
  induction st with
  | nil => exact .nil hr
  | cons k st ih =>
    have h := Reach.cons (k := k) (r := r) 0 (Int.le_refl 0) (fun m hm => ((hs k List.mem_cons_self).m m hm).1) (by rw [Int.zero_mul, Int.sub_zero]; exact ih fun k hk => hs k (List.mem_cons_of_mem _ hk))
    rw [Int.zero_mul, Int.add_zero] at h
    exact h
theorem Reach.swap {a b : Kd} {st : List Kd} {r v : Int} (h : Reach (a :: b :: st) r v) : Reach (b :: a :: st) r v := by
  cases h with
  | cons t h0 hm h =>
    cases h with
    | @cons _ _ _ v2 t2 g0 gm h =>
      have h' : Reach st (r - t2 * b.1 - t * a.1) v2 := by
        have e : r - t2 * b.1 - t * a.1 = r - t * a.1 - t2 * b.1 := by omega
        rw [e]; exact h
      have q := Reach.cons (k := b) (r := r) t2 g0 gm (Reach.cons (k := a) t h0 hm h')
      have e : v2 + t * a.2.1 + t2 * b.2.1 = v2 + t2 * b.2.1 + t * a.2.1 := by omega
      rw [e] at q; exact q
theorem Reach.perm {st st' : List Kd} (p : st.Perm st') : ∀ {r v : Int}, Reach st r v → Reach st' r v := by
  induction p with
  | nil => intro r v h; exact h
  | cons k _ ih =>
    intro r v h
    cases h with
    | cons t h0 hm h => exact .cons t h0 hm (ih h)
  | swap a b st => intro r v h; exact h.swap
  | trans _ _ i1 i2 => intro r v h; exact i2 (i1 h)
structure IsBest (st : List Kd) (r b : Int) : Prop where
  has : Reach st r b
  top : ∀ v, Reach st r v → v ≤ b
theorem IsBest.one {st : List Kd} {r b b' : Int} (h : IsBest st r b) (h' : IsBest st r b') : b = b' := Int.le_antisymm (h'.top _ h.has) (h.top _ h'.has)
theorem IsBest.perm {st st' : List Kd} {r b : Int} (p : st.Perm st') (h : IsBest st r b) : IsBest st' r b := ⟨h.has.perm p, fun v q => h.top v (q.perm p.symm)⟩
theorem IsBest.nn {st : List Kd} {r b : Int} (h : IsBest st r b) (hr : 0 ≤ r) (hs : ∀ k ∈ st, OkK k) : 0 ≤ b := h.top 0 (.zero hr hs)

/-! ### rows -/
def maxL : List Int → Int
  | [] => 0
  | x :: xs => xs.foldl max x
theorem foldl_max : ∀ (xs : List Int) (x : Int), (xs.foldl max x = x ∨ xs.foldl max x ∈ xs) ∧ x ≤ xs.foldl max x ∧ ∀ y ∈ xs, y ≤ xs.foldl max x
  | [], x => ⟨.inl rfl, Int.le_refl _, fun _ h => by simp at h⟩
  | y :: ys, x => by
    obtain ⟨h1, h2, h3⟩ := foldl_max ys (max x y)
    have e : (y :: ys).foldl max x = ys.foldl max (max x y) := rfl
    rw [e]
    refine ⟨?_, by omega, fun z hz => ?_⟩
    · rcases h1 with h1 | h1
      · rcases Int.le_total x y with q | q
        · right
          rw [h1, Int.max_eq_right q]
          exact List.mem_cons_self
        · left
          rw [h1, Int.max_eq_left q]
      · exact .inr (List.mem_cons_of_mem _ h1)
    · rcases List.mem_cons.mp hz with rfl | hz
      · omega
      · exact h3 z hz
theorem maxL_mem {xs : List Int} (h : xs ≠ []) : maxL xs ∈ xs := by
  cases xs with
  | nil => exact absurd rfl h
  | cons x xs =>
    rcases (foldl_max xs x).1 with q | q
    · show xs.foldl max x ∈ x :: xs
      rw [q]; exact List.mem_cons_self
    · exact List.mem_cons_of_mem _ q
theorem maxL_ge {xs : List Int} {y : Int} (h : y ∈ xs) : y ≤ maxL xs := by
  cases xs with
  | nil => simp at h
  | cons x xs =>
    rcases List.mem_cons.mp h with rfl | h
    · exact (foldl_max xs y).2.1
    · exact (foldl_max xs x).2.2 y h
def rowAt (row : List Int) (r : Int) : Int := row.getD r.toNat 0
def cellL (row : List Int) (w v most here : Int) : List Int := (List.range (most + 1).toNat).map fun (t : Nat) => rowAt row (here - t * w) + t * v
def cell (row : List Int) (w v m here : Int) : Int := maxL (cellL row w v (min m (here / w)) here)
def rowWith (row : List Int) (w v m room : Int) : List Int := (List.range (room + 1).toNat).map fun (h : Nat) => cell row w v m h
def mostIn (k : Kd) (room : Int) : Int := match k.2.2 with
  | none => room / k.1
  | some m => min (room / k.1) m
theorem mostIn_nn {k : Kd} {room : Int} (h : OkK k) (hr : 0 ≤ room) : 0 ≤ mostIn k room := by
  have h1 : 0 ≤ room / k.1 := Int.ediv_nonneg hr (by have := h.w1; omega)
  unfold mostIn
  split
  · exact h1
  · next m e => have := (h.m m e).1; omega
theorem mostIn_le {k : Kd} {room : Int} (h : OkK k) (hr : 0 ≤ room) : mostIn k room ≤ room := by
  have h1 : room / k.1 ≤ room := Int.ediv_le_self _ hr
  unfold mostIn
  split
  · exact h1
  · omega
theorem mostIn_mul {k : Kd} {room t : Int} (h : OkK k) (ht : t ≤ mostIn k room) : t * k.1 ≤ room := by
  have h1 : t ≤ room / k.1 := by
    unfold mostIn at ht
    split at ht
    · exact ht
    · omega
  exact (Int.le_ediv_iff_mul_le (by have := h.w1; omega)).mp h1
theorem mostIn_m {k : Kd} {room t : Int} (ht : t ≤ mostIn k room) : ∀ m, k.2.2 = some m → t ≤ m := by
  intro m e
  unfold mostIn at ht
  rw [e] at ht
  simp only at ht
  omega
theorem le_mostIn {k : Kd} {room t : Int} (h : OkK k) (h1 : t * k.1 ≤ room) (h2 : ∀ m, k.2.2 = some m → t ≤ m) : t ≤ mostIn k room := by
  have q : t ≤ room / k.1 := (Int.le_ediv_iff_mul_le (by have := h.w1; omega)).mpr h1
  unfold mostIn
  split
  · exact q
  · next m e => have := h2 m e; omega
structure RowOk (st : List Kd) (room : Int) (row : List Int) : Prop where
  len : row.length = (room + 1).toNat
  best : ∀ r, 0 ≤ r → r ≤ room → IsBest st r (rowAt row r)
theorem row_nil {room : Int} (hr : 0 ≤ room) : RowOk [] room (List.replicate (room + 1).toNat 0) := by
  refine ⟨List.length_replicate, fun r h0 h1 => ?_⟩
  have e : rowAt (List.replicate (room + 1).toNat 0) r = 0 := by
    unfold rowAt
    rw [List.getD_eq_getElem?_getD, List.getElem?_replicate]
    split <;> rfl
  rw [e]
  exact ⟨.nil h0, fun v h => by cases h; exact Int.le_refl _⟩
theorem rowWith_length (row : List Int) (w v m room : Int) : (rowWith row w v m room).length = (room + 1).toNat := by simp [rowWith]
theorem rowWith_at {row : List Int} {w v m room r : Int} (h0 : 0 ≤ r) (h1 : r ≤ room) : rowAt (rowWith row w v m room) r = cell row w v m r := by
  unfold rowAt rowWith
  have hl : r.toNat < (room + 1).toNat := by omega
  rw [List.getD_eq_getElem?_getD, List.getElem?_map, List.getElem?_range hl]
  show cell row w v m (r.toNat : Int) = _
  rw [Int.toNat_of_nonneg h0]
theorem mem_cellL {row : List Int} {w v most here x : Int} (h : x ∈ cellL row w v most here) : ∃ t : Int, 0 ≤ t ∧ t ≤ most ∧ x = rowAt row (here - t * w) + t * v := by
  unfold cellL at h
  obtain ⟨t, ht, rfl⟩ := List.mem_map.mp h
  have := List.mem_range.mp ht
  exact ⟨t, by omega, by omega, rfl⟩
theorem cellL_mem {row : List Int} {w v most here t : Int} (h0 : 0 ≤ t) (h1 : t ≤ most) : rowAt row (here - t * w) + t * v ∈ cellL row w v most here := by
  unfold cellL
  refine List.mem_map.mpr ⟨t.toNat, List.mem_range.mpr (by omega), ?_⟩
  rw [Int.toNat_of_nonneg h0]
theorem cellL_ne {row : List Int} {w v most here : Int} (h : 0 ≤ most) : cellL row w v most here ≠ [] := by
  intro e
  have := cellL_mem (row := row) (w := w) (v := v) (here := here) (Int.le_refl 0) h
  rw [e] at this
  simp at this
theorem row_cons {st : List Kd} {k : Kd} {room : Int} {row : List Int} (hk : OkK k) (hst : ∀ k ∈ st, OkK k) (h : RowOk st room row) : RowOk (k :: st) room (rowWith row k.1 k.2.1 (mostIn k room) room) := by
  refine ⟨rowWith_length .., fun r h0 h1 => ?_⟩
  rw [rowWith_at h0 h1]
  have hw := hk.w1
  have d0 : 0 ≤ r / k.1 := Int.ediv_nonneg h0 (by omega)
  have d1 : r / k.1 ≤ room / k.1 := Int.ediv_le_ediv (by omega) h1
  have m0 := mostIn_nn hk (show 0 ≤ room by omega)
  have allow : ∀ t, t ≤ min (mostIn k room) (r / k.1) → t * k.1 ≤ r ∧ ∀ m, k.2.2 = some m → t ≤ m := fun t ht => ⟨(Int.le_ediv_iff_mul_le (by omega)).mp (by omega), mostIn_m (k := k) (room := room) (by omega)⟩
  refine ⟨?_, fun v hv => ?_⟩
  · obtain ⟨t, t0, t1, e⟩ := mem_cellL (maxL_mem (cellL_ne (row := row) (w := k.1) (v := k.2.1) (here := r) (show 0 ≤ min (mostIn k room) (r / k.1) by omega)))
    unfold cell
    rw [e]
    obtain ⟨q1, q2⟩ := allow t t1
    have : 0 ≤ t * k.1 := Int.mul_nonneg t0 (by omega)
    exact .cons t t0 q2 (h.best _ (by omega) (by omega)).has
  · cases hv with
    | @cons _ _ _ v t t0 hm hv =>
      have r0 := hv.room hst
      have : 0 ≤ t * k.1 := Int.mul_nonneg t0 (by omega)
      have ht : t ≤ min (mostIn k room) (r / k.1) := by
        have a1 : t ≤ mostIn k room := le_mostIn hk (by omega) hm
        have a2 : t ≤ r / k.1 := (Int.le_ediv_iff_mul_le (by omega)).mpr (by omega)
        omega
      have q := maxL_ge (cellL_mem (row := row) (w := k.1) (v := k.2.1) (here := r) t0 ht)
      have q2 := (h.best (r - t * k.1) (by omega) (by omega)).top v hv
      unfold cell
      omega
/-- a row with a kind of less worth is no greater -/
theorem cell_mono {row : List Int} {w v v' m here : Int} (hv : v' ≤ v) (hm : 0 ≤ m) (hd : 0 ≤ here / w) : cell row w v' m here ≤ cell row w v m here := by
  obtain ⟨t, t0, t1, e⟩ := mem_cellL (maxL_mem (cellL_ne (row := row) (w := w) (v := v') (here := here) (show 0 ≤ min m (here / w) by omega)))
  have q := maxL_ge (cellL_mem (row := row) (w := w) (v := v) (here := here) t0 t1)
  have q2 : t * v' ≤ t * v := Int.mul_le_mul_of_nonneg_left hv t0
  unfold cell
  rw [e]
  omega
/-- the rows of the last kinds -/
def rowsOf (room : Int) : List Kd → List Int
  | [] => List.replicate (room + 1).toNat 0
  | k :: st => rowWith (rowsOf room st) k.1 k.2.1 (mostIn k room) room
theorem rowsOf_ok {room : Int} (hr : 0 ≤ room) : ∀ {st : List Kd}, (∀ k ∈ st, OkK k) → RowOk st room (rowsOf room st)
  | [], _ => row_nil hr
  | k :: st, h => row_cons (h k List.mem_cons_self) (fun q hq => h q (List.mem_cons_of_mem _ hq)) (rowsOf_ok hr fun q hq => h q (List.mem_cons_of_mem _ hq))
def bestW (st : List Kd) (room : Int) : Int := rowAt (rowsOf room st) room
theorem bestW_ok {st : List Kd} {room : Int} (hr : 0 ≤ room) (hs : ∀ k ∈ st, OkK k) : IsBest st room (bestW st room) := (rowsOf_ok hr hs).best room hr (Int.le_refl _)
theorem bestW_rev {st : List Kd} {room : Int} (hr : 0 ≤ room) (hs : ∀ k ∈ st, OkK k) : rowAt (rowsOf room st.reverse) room = bestW st room :=
  ((rowsOf_ok hr (fun k hk => hs k (List.mem_reverse.mp hk))).best room hr (Int.le_refl _)).one ((bestW_ok hr hs).perm (List.reverse_perm st).symm)
end Sk


set_option linter.all false
set_option maxHeartbeats 4000000
namespace Sk
/-! ### the first best load -/
def firstT (due : Int) (f : Int → Int) : Nat → Int → Int
  | 0, t => t
  | n + 1, t => if f t = due then t else firstT due f n (t + 1)
/-- all t below n that reach the due -/
def goodT (due : Int) (f : Int → Int) (n : Nat) : List Int := ((List.range n).map fun (t : Nat) => (t : Int)).filter fun t => decide (f t = due)
def bestL (room0 : Int) : List Kd → Int → List Int
  | [], _ => []
  | k :: st, r => (goodT (rowAt (rowsOf room0 (k :: st)) r) (fun t => rowAt (rowsOf room0 st) (r - t * k.1) + t * k.2.1) (min (mostIn k room0) (r / k.1) + 1).toNat).headD 0 :: bestL room0 st (r - (goodT (rowAt (rowsOf room0 (k :: st)) r) (fun t => rowAt (rowsOf room0 st) (r - t * k.1) + t * k.2.1) (min (mostIn k room0) (r / k.1) + 1).toNat).headD 0 * k.1)
def worthL : List Kd → List Int → Int
  | k :: st, t :: ts => k.2.1 * t + worthL st ts
  | _, _ => 0
theorem goodT_mem {due : Int} {f : Int → Int} {n : Nat} {t : Int} : t ∈ goodT due f n ↔ 0 ≤ t ∧ t < n ∧ f t = due := by
  unfold goodT
  rw [List.mem_filter, List.mem_map]
  constructor
  · rintro ⟨⟨a, ha, rfl⟩, h⟩
    have := List.mem_range.mp ha
    exact ⟨by omega, by omega, of_decide_eq_true h⟩
  · rintro ⟨h0, h1, h2⟩
    exact ⟨⟨t.toNat, List.mem_range.mpr (by omega), by omega⟩, decide_eq_true h2⟩
theorem headD_mem {l : List Int} (h : l ≠ []) : l.headD 0 ∈ l := by
  cases l with
  | nil => exact absurd rfl h
  | cons a l => exact List.mem_cons_self
/-- the way on: some t is good, the first one leads to a rest that fits -/
theorem bestL_step {room0 r : Int} {k : Kd} {st : List Kd} (hs : ∀ q ∈ k :: st, OkK q) (h0 : 0 ≤ r) (h1 : r ≤ room0) : ∃ t ts, goodT (rowAt (rowsOf room0 (k :: st)) r) (fun t => rowAt (rowsOf room0 st) (r - t * k.1) + t * k.2.1) (min (mostIn k room0) (r / k.1) + 1).toNat = t :: ts ∧ 0 ≤ t ∧ t ≤ mostIn k room0 ∧ t * k.1 ≤ r ∧ rowAt (rowsOf room0 st) (r - t * k.1) + t * k.2.1 = rowAt (rowsOf room0 (k :: st)) r := by
  have hk := hs k List.mem_cons_self
  have hw := hk.w1
  have d0 : 0 ≤ r / k.1 := Int.ediv_nonneg h0 (by omega)
  have m0 := mostIn_nn hk (show 0 ≤ room0 by omega)
  have e : rowAt (rowsOf room0 (k :: st)) r = cell (rowsOf room0 st) k.1 k.2.1 (mostIn k room0) r := rowWith_at h0 h1
  obtain ⟨t, t0, t1, et⟩ := mem_cellL (maxL_mem (cellL_ne (row := rowsOf room0 st) (w := k.1) (v := k.2.1) (here := r) (show 0 ≤ min (mostIn k room0) (r / k.1) by omega)))
  have hm : t ∈ goodT (rowAt (rowsOf room0 (k :: st)) r) (fun t => rowAt (rowsOf room0 st) (r - t * k.1) + t * k.2.1) (min (mostIn k room0) (r / k.1) + 1).toNat := by
    refine goodT_mem.mpr ⟨t0, by omega, ?_⟩
    rw [e]
    exact et.symm
  cases q : goodT (rowAt (rowsOf room0 (k :: st)) r) (fun t => rowAt (rowsOf room0 st) (r - t * k.1) + t * k.2.1) (min (mostIn k room0) (r / k.1) + 1).toNat with
  | nil => rw [q] at hm; simp at hm
  | cons a as =>
    have ha : a ∈ goodT (rowAt (rowsOf room0 (k :: st)) r) (fun t => rowAt (rowsOf room0 st) (r - t * k.1) + t * k.2.1) (min (mostIn k room0) (r / k.1) + 1).toNat := by rw [q]; exact List.mem_cons_self
    obtain ⟨a0, a1, a2⟩ := goodT_mem.mp ha
    have a3 : a ≤ r / k.1 := by omega
    exact ⟨a, as, rfl, a0, by omega, (Int.le_ediv_iff_mul_le (by omega)).mp a3, a2⟩
theorem bestL_worth {room0 : Int} : ∀ {st : List Kd} {r : Int}, (∀ q ∈ st, OkK q) → 0 ≤ r → r ≤ room0 → worthL st (bestL room0 st r) = rowAt (rowsOf room0 st) r
  | [], r, _, h0, h1 => by
    show (0 : Int) = rowAt (List.replicate (room0 + 1).toNat 0) r
    unfold rowAt
    rw [List.getD_eq_getElem?_getD, List.getElem?_replicate]
    split <;> rfl
  | k :: st, r, hs, h0, h1 => by
    obtain ⟨t, ts, e, t0, t1, t2, t3⟩ := bestL_step hs h0 h1
    have hw := (hs k List.mem_cons_self).w1
    have : 0 ≤ t * k.1 := Int.mul_nonneg t0 (by omega)
    have ih := bestL_worth (room0 := room0) (st := st) (r := r - t * k.1) (fun q hq => hs q (List.mem_cons_of_mem _ hq)) (by omega) (by omega)
    unfold bestL
    rw [e]
    show k.2.1 * t + worthL st (bestL room0 st (r - t * k.1)) = _
    rw [ih, Int.mul_comm k.2.1 t]
    omega
theorem bestL_length {room0 : Int} : ∀ (st : List Kd) (r : Int), (bestL room0 st r).length = st.length
  | [], _ => rfl
  | k :: st, r => by
    show (bestL room0 st _).length + 1 = _
    rw [bestL_length st]; rfl

/-! ### fractions -/
def cm (a b : Int) : Int := (Nat.gcd a.toNat b.toNat : Nat)
abbrev Fr := Int × Int
def made (t b : Int) : Fr := (t / cm t b, b / cm t b)
def plusF (a b : Fr) : Fr := made (a.1 * b.2 + b.1 * a.2) (a.2 * b.2)
theorem cm_pos {t b : Int} (hb : 0 < b) : 0 < cm t b := by
  unfold cm
  have : 0 < Nat.gcd t.toNat b.toNat := Nat.gcd_pos_of_pos_right _ (by omega)
  omega
theorem cm_dvd {t b : Int} (ht : 0 ≤ t) (hb : 0 ≤ b) : cm t b ∣ t ∧ cm t b ∣ b := by
  unfold cm
  have e1 : (t.toNat : Int) = t := Int.toNat_of_nonneg ht
  have e2 : (b.toNat : Int) = b := Int.toNat_of_nonneg hb
  constructor
  · have := Int.natCast_dvd_natCast.mpr (Nat.gcd_dvd_left t.toNat b.toNat)
    rw [e1] at this; exact this
  · have := Int.natCast_dvd_natCast.mpr (Nat.gcd_dvd_right t.toNat b.toNat)
    rw [e2] at this; exact this
/-- a fraction f stands for c by q -/
def Is (f : Fr) (c q : Int) : Prop := 0 < f.2 ∧ 0 ≤ f.1 ∧ f.1 * q = c * f.2
theorem made_mul {t b : Int} (ht : 0 ≤ t) (hb : 0 < b) : (made t b).1 * cm t b = t ∧ (made t b).2 * cm t b = b := by
  obtain ⟨h1, h2⟩ := cm_dvd ht (Int.le_of_lt hb)
  exact ⟨Int.ediv_mul_cancel h1, Int.ediv_mul_cancel h2⟩
theorem made_pos {t b : Int} (ht : 0 ≤ t) (hb : 0 < b) : 0 < (made t b).2 ∧ 0 ≤ (made t b).1 := by
  obtain ⟨h1, h2⟩ := made_mul ht hb
  have g := cm_pos (t := t) hb
  constructor
  · apply Int.pos_of_mul_pos_left (b := cm t b) _ g
    rw [h2]; exact hb
  · exact Int.ediv_nonneg ht (Int.le_of_lt g)
theorem made_is {t b c q : Int} (ht : 0 ≤ t) (hb : 0 < b) (h : t * q = c * b) : Is (made t b) c q := by
  obtain ⟨p1, p2⟩ := made_pos ht hb
  obtain ⟨h1, h2⟩ := made_mul ht hb
  have g := cm_pos (t := t) hb
  refine ⟨p1, p2, ?_⟩
  have : (made t b).1 * q * cm t b = c * (made t b).2 * cm t b := by
    have e1 : (made t b).1 * q * cm t b = ((made t b).1 * cm t b) * q := by rw [Int.mul_assoc, Int.mul_comm q, ← Int.mul_assoc]
    have e2 : c * (made t b).2 * cm t b = c * ((made t b).2 * cm t b) := by rw [Int.mul_assoc]
    rw [e1, e2, h1, h2, h]
  exact Int.eq_of_mul_eq_mul_right (by omega) this
theorem plus_is {a b : Fr} {c d q : Int} (ha : Is a c q) (hb : Is b d q) : Is (plusF a b) (c + d) q := by
  obtain ⟨a1, a2, a3⟩ := ha
  obtain ⟨b1, b2, b3⟩ := hb
  have n1 : 0 ≤ a.1 * b.2 := Int.mul_nonneg a2 (by omega)
  have n2 : 0 ≤ b.1 * a.2 := Int.mul_nonneg b2 (by omega)
  refine made_is (by omega) (Int.mul_pos a1 b1) ?_
  have e1 : (a.1 * b.2 + b.1 * a.2) * q = a.1 * q * b.2 + b.1 * q * a.2 := by
    rw [Int.add_mul, Int.mul_assoc, Int.mul_comm b.2 q, ← Int.mul_assoc, Int.mul_assoc b.1, Int.mul_comm a.2 q, ← Int.mul_assoc]
  rw [e1, a3, b3, Int.add_mul]
  congr 1
  · rw [Int.mul_assoc]
  · rw [Int.mul_assoc, Int.mul_comm b.2 a.2]
theorem made_cop {t b : Int} (ht : 0 ≤ t) (hb : 0 < b) : cm (made t b).1 (made t b).2 = 1 := by
  obtain ⟨h1, h2⟩ := made_mul ht hb
  obtain ⟨p1, p2⟩ := made_pos ht hb
  have g := cm_pos (t := t) hb
  have n1 : (made t b).1.toNat * (cm t b).toNat = t.toNat := by
    rw [← Int.toNat_mul p2 (by omega), h1]
  have n2 : (made t b).2.toNat * (cm t b).toNat = b.toNat := by
    rw [← Int.toNat_mul (by omega) (by omega), h2]
  unfold cm
  have key : Nat.gcd (made t b).1.toNat (made t b).2.toNat * (cm t b).toNat = (cm t b).toNat := by
    rw [← Nat.gcd_mul_right, n1, n2]
    unfold cm
    simp
  have : 0 < (cm t b).toNat := by omega
  have : Nat.gcd (made t b).1.toNat (made t b).2.toNat = 1 := Nat.eq_of_mul_eq_mul_right this (by rw [Nat.one_mul]; exact key)
  rw [this]; rfl
end Sk


set_option linter.all false
set_option maxHeartbeats 4000000
namespace Sk
/-! ### the order, shares, prices -/
def kd (st : List Kd) (p : Int) : Kd := st.getD p.toNat (1, 0, none)
theorem kd_ok {st : List Kd} {p : Int} (h : ∀ k ∈ st, OkK k) (h0 : 0 ≤ p) (h1 : p < st.length) : OkK (kd st p) := by
  have hl : p.toNat < st.length := by omega
  unfold kd
  rw [List.getD_eq_getElem?_getD, List.getElem?_eq_getElem hl]
  exact h _ (List.getElem_mem hl)
/-- worth by weight: a's is no less than b's -/
def geR (a b : Kd) : Prop := b.2.1 * a.1 ≤ a.2.1 * b.1
theorem geR_trans {a b c : Kd} (hb : 0 < b.1) (ha : 0 < a.1) (hc : 0 < c.1) (h1 : geR a b) (h2 : geR b c) : geR a c := by
  unfold geR at *
  have q1 : b.2.1 * a.1 * c.1 ≤ a.2.1 * b.1 * c.1 := Int.mul_le_mul_of_nonneg_right h1 (Int.le_of_lt hc)
  have q2 : c.2.1 * b.1 * a.1 ≤ b.2.1 * c.1 * a.1 := Int.mul_le_mul_of_nonneg_right h2 (Int.le_of_lt ha)
  have e1 : b.2.1 * c.1 * a.1 = b.2.1 * a.1 * c.1 := by rw [Int.mul_assoc, Int.mul_comm c.1, ← Int.mul_assoc]
  have e2 : c.2.1 * b.1 * a.1 = c.2.1 * a.1 * b.1 := by rw [Int.mul_assoc, Int.mul_comm b.1, ← Int.mul_assoc]
  have e3 : a.2.1 * b.1 * c.1 = a.2.1 * c.1 * b.1 := by rw [Int.mul_assoc, Int.mul_comm b.1, ← Int.mul_assoc]
  have q : c.2.1 * a.1 * b.1 ≤ a.2.1 * c.1 * b.1 := by rw [← e2, ← e3]; exact Int.le_trans q2 (by rw [e1]; exact q1)
  exact Int.le_of_mul_le_mul_right q hb
def pickF (st : List Kd) (b p : Int) : Int := if (kd st p).2.1 * (kd st b).1 > (kd st b).2.1 * (kd st p).1 then p else b
def pick (st : List Kd) : List Int → Int
  | [] => 0
  | p :: r => (p :: r).foldl (pickF st) p
theorem pick_fold {st : List Kd} : ∀ (l : List Int) (b : Int), (∀ p ∈ l, 0 < (kd st p).1) → 0 < (kd st b).1 → (l.foldl (pickF st) b = b ∨ l.foldl (pickF st) b ∈ l) ∧ geR (kd st (l.foldl (pickF st) b)) (kd st b) ∧ ∀ p ∈ l, geR (kd st (l.foldl (pickF st) b)) (kd st p)
  | [], b, _, hb => ⟨.inl rfl, Int.le_refl _, fun _ h => by simp at h⟩
  | p :: r, b, hp, hb => by
    have hpp := hp p List.mem_cons_self
    have hb' : 0 < (kd st (pickF st b p)).1 := by unfold pickF; split <;> assumption
    obtain ⟨h1, h2, h3⟩ := pick_fold r (pickF st b p) (fun q hq => hp q (List.mem_cons_of_mem _ hq)) hb'
    have e : (p :: r).foldl (pickF st) b = r.foldl (pickF st) (pickF st b p) := rfl
    have hw : 0 < (kd st (r.foldl (pickF st) (pickF st b p))).1 := by
      rcases h1 with h1 | h1
      · rw [h1]; exact hb'
      · exact hp _ (List.mem_cons_of_mem _ h1)
    have g1 : geR (kd st (pickF st b p)) (kd st b) ∧ geR (kd st (pickF st b p)) (kd st p) := by
      unfold pickF
      split
      · next h => exact ⟨by unfold geR; omega, Int.le_refl _⟩
      · next h => exact ⟨Int.le_refl _, by unfold geR; omega⟩
    rw [e]
    refine ⟨?_, geR_trans hb' hw hb h2 g1.1, fun q hq => ?_⟩
    · rcases h1 with h1 | h1
      · rw [h1]
        unfold pickF
        split
        · exact .inr List.mem_cons_self
        · exact .inl rfl
      · exact .inr (List.mem_cons_of_mem _ h1)
    · rcases List.mem_cons.mp hq with rfl | hq
      · exact geR_trans hb' hw hpp h2 g1.2
      · exact h3 q hq
theorem pick_ok {st : List Kd} {p : Int} {r : List Int} (hp : ∀ q ∈ p :: r, 0 < (kd st q).1) : pick st (p :: r) ∈ p :: r ∧ ∀ q ∈ p :: r, geR (kd st (pick st (p :: r))) (kd st q) := by
  obtain ⟨h1, _, h3⟩ := pick_fold (p :: r) p hp (hp p List.mem_cons_self)
  refine ⟨?_, h3⟩
  rcases h1 with h1 | h1
  · show (p :: r).foldl (pickF st) p ∈ p :: r
    rw [h1]; exact List.mem_cons_self
  · exact h1
def ordGo (st : List Kd) : Nat → List Int → List Int
  | 0, _ => []
  | _ + 1, [] => []
  | n + 1, p :: r => pick st (p :: r) :: ordGo st n ((p :: r).erase (pick st (p :: r)))
def places (st : List Kd) : List Int := ((List.range st.length).map fun (i : Nat) => (i : Int)).filter fun p => decide (0 < (kd st p).2.1)
def inOrder (st : List Kd) : List Int := ordGo st st.length (places st)
theorem ordGo_perm {st : List Kd} : ∀ (n : Nat) (l : List Int), (∀ p ∈ l, 0 < (kd st p).1) → l.length ≤ n → (ordGo st n l).Perm l
  | 0, [], _, _ => List.Perm.nil
  | 0, _ :: _, _, h => by simp at h
  | _ + 1, [], _, _ => List.Perm.nil
  | n + 1, p :: r, hp, hl => by
    obtain ⟨hm, _⟩ := pick_ok hp
    have le : ((p :: r).erase (pick st (p :: r))).length = r.length := by rw [List.length_erase_of_mem hm]; rfl
    have ih := ordGo_perm n ((p :: r).erase (pick st (p :: r))) (fun q hq => hp q (List.mem_of_mem_erase hq)) (by rw [le]; simp at hl; exact hl)
    exact (List.Perm.cons _ ih).trans (List.perm_cons_erase hm).symm
theorem ordGo_sorted {st : List Kd} : ∀ (n : Nat) (l : List Int), (∀ p ∈ l, 0 < (kd st p).1) → l.length ≤ n → (ordGo st n l).Pairwise fun p q => geR (kd st p) (kd st q)
  | 0, _, _, _ => List.Pairwise.nil
  | _ + 1, [], _, _ => List.Pairwise.nil
  | n + 1, p :: r, hp, hl => by
    obtain ⟨hm, hg⟩ := pick_ok hp
    have le : ((p :: r).erase (pick st (p :: r))).length = r.length := by rw [List.length_erase_of_mem hm]; rfl
    have hp' : ∀ q ∈ (p :: r).erase (pick st (p :: r)), 0 < (kd st q).1 := fun q hq => hp q (List.mem_of_mem_erase hq)
    have hl' : ((p :: r).erase (pick st (p :: r))).length ≤ n := by rw [le]; simp at hl; exact hl
    refine List.Pairwise.cons (fun q hq => ?_) (ordGo_sorted n _ hp' hl')
    exact hg q (List.mem_of_mem_erase ((ordGo_perm n _ hp' hl').mem_iff.mp hq))
theorem mem_places {st : List Kd} {p : Int} : p ∈ places st ↔ 0 ≤ p ∧ p < st.length ∧ 0 < (kd st p).2.1 := by
  unfold places
  rw [List.mem_filter, List.mem_map]
  constructor
  · rintro ⟨⟨i, hi, rfl⟩, h⟩
    have := List.mem_range.mp hi
    exact ⟨by omega, by omega, of_decide_eq_true h⟩
  · rintro ⟨h0, h1, h2⟩
    exact ⟨⟨p.toNat, List.mem_range.mpr (by omega), by omega⟩, decide_eq_true h2⟩
theorem places_nodup (st : List Kd) : (places st).Nodup := by
  unfold places
  rw [List.nodup_iff_pairwise_ne]
  refine List.Pairwise.filter _ ?_
  rw [List.pairwise_map]
  exact List.Pairwise.imp (fun h e => h (by omega)) (List.nodup_iff_pairwise_ne.mp List.nodup_range)
theorem places_length (st : List Kd) : (places st).length ≤ st.length := by
  unfold places
  exact Nat.le_trans (List.length_filter_le _ _) (by simp)
structure OrdOk (st : List Kd) (o : List Int) : Prop where
  mem : ∀ p, p ∈ o ↔ 0 ≤ p ∧ p < st.length ∧ 0 < (kd st p).2.1
  nd : o.Nodup
  srt : o.Pairwise fun p q => geR (kd st p) (kd st q)
theorem inOrder_ok {st : List Kd} (hs : ∀ k ∈ st, OkK k) : OrdOk st (inOrder st) := by
  have hp : ∀ p ∈ places st, 0 < (kd st p).1 := fun p h => by
    obtain ⟨h0, h1, _⟩ := mem_places.mp h
    have := (kd_ok hs h0 h1).w1
    omega
  have pm := ordGo_perm st.length (places st) hp (places_length st)
  exact ⟨fun p => by rw [← mem_places]; exact pm.mem_iff, pm.nodup_iff.mpr (places_nodup st), ordGo_sorted st.length (places st) hp (places_length st)⟩

/-! #### the price, the bound -/
def priceGo (st : List Kd) : List Int → Int → Fr
  | [], _ => (0, 1)
  | p :: r, left => match (kd st p).2.2 with
    | none => made (kd st p).2.1 (kd st p).1
    | some m => if m * (kd st p).1 > left then made (kd st p).2.1 (kd st p).1 else priceGo st r (left - m * (kd st p).1)
def price (st : List Kd) (room : Int) : Fr := priceGo st (inOrder st) room
def bndGo (p q : Int) : List Kd → Fr → Option Fr
  | [], f => some f
  | k :: st, f => if k.2.1 * q - k.1 * p > 0 then match k.2.2 with
      | none => none
      | some m => bndGo p q st (plusF f (made ((k.2.1 * q - k.1 * p) * m) q))
    else bndGo p q st f
def boundF (st : List Kd) (room p q : Int) : Option Fr := bndGo p q st (made (room * p) q)
def more (p q : Int) (k : Kd) : Int := if k.2.1 * q - k.1 * p > 0 then match k.2.2 with
    | none => 0
    | some m => (k.2.1 * q - k.1 * p) * m
  else 0
def NoneOk (p q : Int) (st : List Kd) : Prop := ∀ k ∈ st, k.2.2 = none → k.2.1 * q - k.1 * p ≤ 0
theorem bndGo_is {p q : Int} (hq : 0 < q) : ∀ {st : List Kd} {f : Fr} {c : Int}, (∀ k ∈ st, OkK k) → NoneOk p q st → Is f c q → ∃ g, bndGo p q st f = some g ∧ Is g (c + (st.map (more p q)).sum) q
  | [], f, c, _, _, h => ⟨f, rfl, by simpa using h⟩
  | k :: st, f, c, hs, hn, h => by
    have hs' : ∀ k ∈ st, OkK k := fun q hq => hs q (List.mem_cons_of_mem _ hq)
    have hn' : NoneOk p q st := fun q hq => hn q (List.mem_cons_of_mem _ hq)
    unfold bndGo
    rw [List.map_cons, List.sum_cons]
    by_cases hm : k.2.1 * q - k.1 * p > 0
    · rw [if_pos hm]
      cases e : k.2.2 with
      | none => have := hn k List.mem_cons_self e; omega
      | some m =>
        have m0 := ((hs k List.mem_cons_self).m m e).1
        have em : more p q k = (k.2.1 * q - k.1 * p) * m := by unfold more; rw [if_pos hm, e]
        have hi : Is (made ((k.2.1 * q - k.1 * p) * m) q) (more p q k) q := made_is (Int.mul_nonneg (by omega) m0) hq (by rw [em])
        obtain ⟨g, g1, g2⟩ := bndGo_is hq hs' hn' (plus_is h hi)
        exact ⟨g, g1, by rw [Int.add_assoc] at g2; exact g2⟩
    · rw [if_neg hm]
      have em : more p q k = 0 := by unfold more; rw [if_neg hm]
      obtain ⟨g, g1, g2⟩ := bndGo_is hq hs' hn' h
      exact ⟨g, g1, by rw [em, Int.zero_add]; exact g2⟩
theorem boundF_is {st : List Kd} {room p q : Int} (hr : 0 ≤ room) (hp : 0 ≤ p) (hq : 0 < q) (hs : ∀ k ∈ st, OkK k) (hn : NoneOk p q st) : ∃ g, boundF st room p q = some g ∧ Is g (room * p + (st.map (more p q)).sum) q :=
  bndGo_is hq hs hn (made_is (Int.mul_nonneg hr hp) hq rfl)
/-- no load is worth more than the bound -/
theorem weak {p q : Int} (hp : 0 ≤ p) (hq : 0 < q) {st : List Kd} {r v : Int} (h : Reach st r v) (hs : ∀ k ∈ st, OkK k) (hn : NoneOk p q st) : v * q ≤ r * p + (st.map (more p q)).sum := by
  induction h with
  | nil h => simp; exact Int.mul_nonneg h hp
  | @cons k st r v t t0 tm h ih =>
    have ih := ih (fun q hq => hs q (List.mem_cons_of_mem _ hq)) fun q hq => hn q (List.mem_cons_of_mem _ hq)
    rw [List.map_cons, List.sum_cons]
    have key : t * (k.2.1 * q - k.1 * p) ≤ more p q k := by
      unfold more
      by_cases hm : k.2.1 * q - k.1 * p > 0
      · rw [if_pos hm]
        cases e : k.2.2 with
        | none => have := hn k List.mem_cons_self e; omega
        | some m =>
          show t * (k.2.1 * q - k.1 * p) ≤ (k.2.1 * q - k.1 * p) * m
          rw [Int.mul_comm]
          exact Int.mul_le_mul_of_nonneg_left (tm m e) (by omega)
      · rw [if_neg hm]
        exact Int.mul_nonpos_of_nonneg_of_nonpos t0 (by omega)
    have e1 : (v + t * k.2.1) * q = v * q + t * (k.2.1 * q) := by rw [Int.add_mul, Int.mul_assoc]
    have e2 : (r - t * k.1) * p = r * p - t * (k.1 * p) := by rw [Int.sub_mul, Int.mul_assoc]
    have e3 : t * (k.2.1 * q - k.1 * p) = t * (k.2.1 * q) - t * (k.1 * p) := Int.mul_sub _ _ _
    omega
end Sk


set_option linter.all false
set_option maxHeartbeats 4000000
namespace Sk
def sharesGo (st : List Kd) : List Int → Int → List Fr → List Fr
  | [], _, f => f
  | p :: r, room, f => match (kd st p).2.2 with
    | none => sharesGo st r 0 (f.set p.toNat (made room (kd st p).1))
    | some m => if m * (kd st p).1 > room then sharesGo st r 0 (f.set p.toNat (made room (kd st p).1)) else sharesGo st r (room - m * (kd st p).1) (f.set p.toNat (m, 1))
def shares (st : List Kd) (room : Int) : List Fr := sharesGo st (inOrder st) room (List.replicate st.length (0, 1))
def worthGo : List Kd → List Fr → Fr → Fr
  | k :: st, s :: ss, f => worthGo st ss (plusF f (made (k.2.1 * s.1) s.2))
  | _, _, f => f
def worthS (st : List Kd) (room : Int) : Fr := worthGo st (shares st room) (0, 1)
def wholeB (st : List Kd) (room : Int) : Int := (worthS st room).1 / (worthS st room).2
/-- a share f of a kind comes to c by q -/
def ShIs (k : Kd) (f : Fr) (c q : Int) : Prop := 0 < f.2 ∧ 0 ≤ f.1 ∧ k.2.1 * f.1 * q = c * f.2
structure ShOk (st : List Kd) (q : Int) (f : List Fr) (cs : List Int) : Prop where
  l1 : f.length = st.length
  l2 : cs.length = st.length
  is : ∀ (i : Nat) (k : Kd) (s : Fr) (c : Int), st[i]? = some k → f[i]? = some s → cs[i]? = some c → ShIs k s c q
theorem ShOk.set {st : List Kd} {q : Int} {f : List Fr} {cs : List Int} (h : ShOk st q f cs) {p : Int} {x : Fr} {c : Int} (h0 : 0 ≤ p) (h1 : p < st.length) (hx : ShIs (kd st p) x c q) : ShOk st q (f.set p.toNat x) (cs.set p.toNat c) := by
  refine ⟨by rw [List.length_set]; exact h.l1, by rw [List.length_set]; exact h.l2, fun i k s c' e1 e2 e3 => ?_⟩
  by_cases hi : p.toNat = i
  · subst hi
    rw [List.getElem?_set_self (by rw [h.l1]; omega)] at e2
    rw [List.getElem?_set_self (by rw [h.l2]; omega)] at e3
    cases e2; cases e3
    have : kd st p = k := by unfold kd; rw [List.getD_eq_getElem?_getD, e1]; rfl
    rw [← this]; exact hx
  · rw [List.getElem?_set_ne hi] at e2 e3
    exact h.is i k s c' e1 e2 e3
theorem worthGo_is {q : Int} : ∀ {st : List Kd} {f : List Fr} {cs : List Int} {g : Fr} {c : Int}, (∀ k ∈ st, OkK k) → ShOk st q f cs → Is g c q → Is (worthGo st f g) (c + cs.sum) q
  | [], [], [], g, c, _, _, h => by simpa [worthGo] using h
  | [], _ :: _, _, _, _, _, h, _ => by have := h.l1; simp at this
  | [], [], _ :: _, _, _, _, h, _ => by have := h.l2; simp at this
  | _ :: _, [], _, _, _, _, h, _ => by have := h.l1; simp at this
  | _ :: _, _ :: _, [], _, _, _, h, _ => by have := h.l2; simp at this
  | k :: st, s :: ss, c0 :: cs, g, c, hs, h, hg => by
    obtain ⟨a1, a2, a3⟩ := h.is 0 k s c0 rfl rfl rfl
    have hv := (hs k List.mem_cons_self).v1
    have h1 : Is (made (k.2.1 * s.1) s.2) c0 q := made_is (Int.mul_nonneg hv a2) a1 a3
    have ih := worthGo_is (st := st) (f := ss) (cs := cs) (fun q hq => hs q (List.mem_cons_of_mem _ hq)) ⟨by have := h.l1; simpa using this, by have := h.l2; simpa using this, fun i k s c e1 e2 e3 => h.is (i + 1) k s c (by simpa using e1) (by simpa using e2) (by simpa using e3)⟩ (plus_is hg h1)
    rw [List.sum_cons, ← Int.add_assoc]
    exact ih
theorem sum_set1 : ∀ {l : List Int} {i : Nat} {z y : Int}, l[i]? = some z → (l.set i y).sum = l.sum - z + y
  | [], i, _, _, h => by simp at h
  | a :: r, 0, z, y, h => by
    simp at h; subst h
    simp [List.set, List.sum_cons]; omega
  | a :: r, i + 1, z, y, h => by
    have ih := sum_set1 (l := r) (i := i) (z := z) (y := y) (by simpa using h)
    simp only [List.set, List.sum_cons]
    omega
theorem set_same : ∀ {l : List Int} {i : Nat} {z : Int}, l[i]? = some z → l.set i z = l
  | [], i, _, h => by simp at h
  | a :: r, 0, z, h => by simp at h; subst h; rfl
  | a :: r, i + 1, z, h => by simp only [List.set]; rw [set_same (by simpa using h)]
theorem shis_zero {k : Kd} {q : Int} {w : Int} (hw : 0 < w) : ShIs k (made 0 w) 0 q := by
  obtain ⟨p1, p2⟩ := made_pos (Int.le_refl 0) hw
  have e : (made 0 w).1 = 0 := Int.zero_ediv _
  exact ⟨p1, p2, by rw [e]; simp⟩
theorem shares_zero {st : List Kd} (hs : ∀ k ∈ st, OkK k) {q : Int} : ∀ {o : List Int} {f : List Fr} {cs : List Int}, (∀ p ∈ o, 0 ≤ p ∧ p < st.length) → (∀ p ∈ o, cs[p.toNat]? = some 0) → ShOk st q f cs → ShOk st q (sharesGo st o 0 f) cs
  | [], _, _, _, _, h => h
  | p :: r, f, cs, hp, hc, h => by
    obtain ⟨h0, h1⟩ := hp p List.mem_cons_self
    have hk := kd_ok hs h0 h1
    have hz := hc p List.mem_cons_self
    have hr : ∀ x ∈ r, 0 ≤ x ∧ x < st.length := fun x hx => hp x (List.mem_cons_of_mem _ hx)
    have hcr : ∀ x ∈ r, cs[x.toNat]? = some 0 := fun x hx => hc x (List.mem_cons_of_mem _ hx)
    have hw := hk.w1
    have step : ∀ {x : Fr}, ShIs (kd st p) x 0 q → ShOk st q (f.set p.toNat x) cs := fun hx => by
      have := h.set h0 h1 hx
      rw [set_same hz] at this
      exact this
    have hz' : ShIs (kd st p) (made 0 (kd st p).1) 0 q := shis_zero (by omega)
    unfold sharesGo
    cases e : (kd st p).2.2 with
    | none => exact shares_zero hs hr hcr (step hz')
    | some m =>
      show ShOk st q (if m * (kd st p).1 > 0 then _ else _) cs
      have m0 := (hk.m m e).1
      by_cases hm : m * (kd st p).1 > 0
      · rw [if_pos hm]; exact shares_zero hs hr hcr (step hz')
      · rw [if_neg hm]
        have hm0 : m = 0 := by
          rcases Int.lt_or_eq_of_le m0 with q | q
          · exact absurd (Int.mul_pos q (show 0 < (kd st p).1 by omega)) hm
          · exact q.symm
        subst hm0
        rw [Int.zero_mul, Int.sub_zero]
        exact shares_zero hs hr hcr (step ⟨by decide, by decide, by simp⟩)
theorem shares_main {st : List Kd} (hs : ∀ k ∈ st, OkK k) {p q : Int} : ∀ {o : List Int} {left : Int} {f : List Fr} {cs bs : List Int}, (∀ x ∈ o, 0 ≤ x ∧ x < st.length ∧ 0 < (kd st x).2.1) → o.Nodup → (o.Pairwise fun x y => geR (kd st x) (kd st y)) → 0 ≤ left → priceGo st o left = (p, q) → ShOk st q f cs → (∀ x ∈ o, cs[x.toNat]? = some 0 ∧ bs[x.toNat]? = some 0) → bs.length = st.length →
    0 ≤ p ∧ 0 < q ∧ cm p q = 1 ∧ ((p = 0 ∧ q = 1) ∨ ∃ x ∈ o, p * (kd st x).1 = (kd st x).2.1 * q) ∧ (∀ x ∈ o, (kd st x).2.2 = none → (kd st x).2.1 * q - (kd st x).1 * p ≤ 0) ∧
    ∃ cs' bs' : List Int, ShOk st q (sharesGo st o left f) cs' ∧ bs'.length = st.length ∧ (∀ i : Nat, (i : Int) ∉ o → bs'[i]? = bs[i]?) ∧ (∀ x ∈ o, bs'[x.toNat]? = some (more p q (kd st x))) ∧ cs'.sum + bs.sum = bs'.sum + cs.sum + p * left
  | [], left, f, cs, bs, _, _, _, hl, hp, h, _, hb => by
    cases hp
    refine ⟨Int.le_refl _, by decide, rfl, .inl ⟨rfl, rfl⟩, fun x hx => by simp at hx, cs, bs, h, hb, fun _ _ => rfl, fun x hx => by simp at hx, by omega⟩
  | p0 :: r, left, f, cs, bs, ho, hd, hp2, hl, hp, h, hz, hb => by
    obtain ⟨h0, h1, hv⟩ := ho p0 List.mem_cons_self
    have hk := kd_ok hs h0 h1
    have hw := hk.w1
    obtain ⟨z1, z2⟩ := hz p0 List.mem_cons_self
    have hr : ∀ x ∈ r, 0 ≤ x ∧ x < st.length ∧ 0 < (kd st x).2.1 := fun x hx => ho x (List.mem_cons_of_mem _ hx)
    obtain ⟨hnr, hdr⟩ := List.nodup_cons.mp hd
    obtain ⟨hgr, hpr⟩ := List.pairwise_cons.mp hp2
    have ner : ∀ x ∈ r, p0.toNat ≠ x.toNat := fun x hx e => hnr (by
      have := (hr x hx).1
      have : p0 = x := by omega
      rw [this]; exact hx)
    have lt : ∀ x ∈ r, 0 < (kd st x).1 := fun x hx => by
      have := (kd_ok hs (hr x hx).1 (hr x hx).2.1).w1
      omega
    -- the critical kind
    have crit : made (kd st p0).2.1 (kd st p0).1 = (p, q) → sharesGo st (p0 :: r) left f = sharesGo st r 0 (f.set p0.toNat (made left (kd st p0).1)) → 0 ≤ p ∧ 0 < q ∧ cm p q = 1 ∧ ((p = 0 ∧ q = 1) ∨ ∃ x ∈ p0 :: r, p * (kd st x).1 = (kd st x).2.1 * q) ∧ (∀ x ∈ p0 :: r, (kd st x).2.2 = none → (kd st x).2.1 * q - (kd st x).1 * p ≤ 0) ∧
        ∃ cs' bs' : List Int, ShOk st q (sharesGo st (p0 :: r) left f) cs' ∧ bs'.length = st.length ∧ (∀ i : Nat, (i : Int) ∉ p0 :: r → bs'[i]? = bs[i]?) ∧ (∀ x ∈ p0 :: r, bs'[x.toNat]? = some (more p q (kd st x))) ∧ cs'.sum + bs.sum = bs'.sum + cs.sum + p * left := by
      intro em es
      have mp := made_pos (Int.le_of_lt hv) (show 0 < (kd st p0).1 by omega)
      have mi : Is (made (kd st p0).2.1 (kd st p0).1) (kd st p0).2.1 (kd st p0).1 := made_is (Int.le_of_lt hv) (by omega) rfl
      have mc := made_cop (Int.le_of_lt hv) (show 0 < (kd st p0).1 by omega)
      rw [em] at mp mi mc
      obtain ⟨q0, p0n⟩ := mp
      have eq : p * (kd st p0).1 = (kd st p0).2.1 * q := mi.2.2
      have after : ∀ x ∈ p0 :: r, (kd st x).2.1 * q - (kd st x).1 * p ≤ 0 := fun x hx => by
        have g : geR (kd st p0) (kd st x) := by
          rcases List.mem_cons.mp hx with rfl | hx
          · exact Int.le_refl _
          · exact hgr x hx
        have g2 : (kd st x).2.1 * (kd st p0).1 * q ≤ (kd st p0).2.1 * (kd st x).1 * q := Int.mul_le_mul_of_nonneg_right g (Int.le_of_lt q0)
        have e1 : (kd st x).2.1 * (kd st p0).1 * q = (kd st x).2.1 * q * (kd st p0).1 := by rw [Int.mul_assoc, Int.mul_comm (kd st p0).1 q, ← Int.mul_assoc]
        have e2 : (kd st p0).2.1 * (kd st x).1 * q = (kd st x).1 * p * (kd st p0).1 := by
          rw [Int.mul_assoc, Int.mul_comm (kd st x).1 q, ← Int.mul_assoc, ← eq, Int.mul_comm ((kd st x).1) p, Int.mul_assoc, Int.mul_comm (kd st p0).1, ← Int.mul_assoc]
        rw [e1, e2] at g2
        have := Int.le_of_mul_le_mul_right g2 (show 0 < (kd st p0).1 by omega)
        omega
      have mz : ∀ x ∈ p0 :: r, more p q (kd st x) = 0 := fun x hx => by
        have := after x hx
        unfold more
        rw [if_neg (by omega)]
      obtain ⟨s1, s2⟩ := made_pos hl (show 0 < (kd st p0).1 by omega)
      have si : Is (made left (kd st p0).1) left (kd st p0).1 := made_is hl (by omega) rfl
      have sh : ShIs (kd st p0) (made left (kd st p0).1) (p * left) q := by
        refine ⟨s1, s2, ?_⟩
        have e3 := si.2.2
        have : (kd st p0).2.1 * (made left (kd st p0).1).1 * q = p * ((made left (kd st p0).1).1 * (kd st p0).1) := by
          rw [Int.mul_assoc, Int.mul_comm (made left (kd st p0).1).1 q, ← Int.mul_assoc, ← eq, Int.mul_assoc, Int.mul_comm (kd st p0).1]
        rw [this, e3, Int.mul_assoc]
      have ok1 := h.set h0 h1 sh
      refine ⟨p0n, q0, mc, .inr ⟨p0, List.mem_cons_self, eq⟩, fun x hx _ => after x hx, cs.set p0.toNat (p * left), bs, ?_, hb, fun _ _ => rfl, fun x hx => by rw [mz x hx]; exact (hz x hx).2, ?_⟩
      · rw [es]
        refine shares_zero hs (fun x hx => ⟨(hr x hx).1, (hr x hx).2.1⟩) (fun x hx => ?_) ok1
        rw [List.getElem?_set_ne (ner x hx)]
        exact (hz x (List.mem_cons_of_mem _ hx)).1
      · rw [sum_set1 z1]; omega
    unfold priceGo at hp
    cases e : (kd st p0).2.2 with
    | none =>
      rw [e] at hp
      exact crit hp (by rw [sharesGo, e])
    | some m =>
      rw [e] at hp
      have m0 := (hk.m m e).1
      by_cases hm : m * (kd st p0).1 > left
      · simp only [if_pos hm] at hp
        exact crit hp (by rw [sharesGo, e]; simp only [if_pos hm])
      · simp only [if_neg hm] at hp
        have sh : ShIs (kd st p0) (m, 1) ((kd st p0).2.1 * q * m) q := ⟨show (0 : Int) < 1 by decide, m0, by
          show (kd st p0).2.1 * m * q = (kd st p0).2.1 * q * m * 1
          rw [Int.mul_one, Int.mul_assoc, Int.mul_comm m q, ← Int.mul_assoc]⟩
        have ok1 := h.set h0 h1 sh
        obtain ⟨i1, i2, ic, i3, i4, cs', bs', i5, i6, i7, i8, i9⟩ := shares_main hs (o := r) (left := left - m * (kd st p0).1) (f := f.set p0.toNat (m, 1)) (cs := cs.set p0.toNat ((kd st p0).2.1 * q * m)) (bs := bs.set p0.toNat (((kd st p0).2.1 * q - (kd st p0).1 * p) * m)) hr hdr hpr (by omega) hp ok1 (fun x hx => by
          rw [List.getElem?_set_ne (ner x hx), List.getElem?_set_ne (ner x hx)]
          exact hz x (List.mem_cons_of_mem _ hx)) (by rw [List.length_set]; exact hb)
        have pos : 0 ≤ (kd st p0).2.1 * q - (kd st p0).1 * p := by
          rcases i3 with ⟨rfl, rfl⟩ | ⟨x, hx, ex⟩
          · omega
          · have g := hgr x hx
            have g2 : (kd st x).2.1 * (kd st p0).1 * q ≤ (kd st p0).2.1 * (kd st x).1 * q := Int.mul_le_mul_of_nonneg_right g (Int.le_of_lt i2)
            have e1 : (kd st x).2.1 * (kd st p0).1 * q = (kd st p0).1 * p * (kd st x).1 := by
              rw [Int.mul_assoc, Int.mul_comm (kd st p0).1 q, ← Int.mul_assoc, ← ex, Int.mul_comm (kd st p0).1 p, Int.mul_assoc, Int.mul_comm (kd st x).1, ← Int.mul_assoc]
            have e2 : (kd st p0).2.1 * (kd st x).1 * q = (kd st p0).2.1 * q * (kd st x).1 := by rw [Int.mul_assoc, Int.mul_comm (kd st x).1 q, ← Int.mul_assoc]
            rw [e1, e2] at g2
            have := Int.le_of_mul_le_mul_right g2 (lt x hx)
            omega
        have em : more p q (kd st p0) = ((kd st p0).2.1 * q - (kd st p0).1 * p) * m := by
          unfold more
          by_cases hz : (kd st p0).2.1 * q - (kd st p0).1 * p > 0
          · rw [if_pos hz, e]
          · rw [if_neg hz]
            have : (kd st p0).2.1 * q - (kd st p0).1 * p = 0 := by omega
            rw [this, Int.zero_mul]
        refine ⟨i1, i2, ic, ?_, fun x hx hn => ?_, cs', bs', ?_, i6, fun i hi => ?_, fun x hx => ?_, ?_⟩
        · rcases i3 with i3 | ⟨x, hx, ex⟩
          · exact .inl i3
          · exact .inr ⟨x, List.mem_cons_of_mem _ hx, ex⟩
        · rcases List.mem_cons.mp hx with rfl | hx
          · rw [e] at hn; cases hn
          · exact i4 x hx hn
        · rw [sharesGo, e]
          simp only [if_neg hm]
          exact i5
        · have hne : p0.toNat ≠ i := fun z => hi (by rw [← z, Int.toNat_of_nonneg h0]; exact List.mem_cons_self)
          rw [i7 i fun z => hi (List.mem_cons_of_mem _ z), List.getElem?_set_ne hne]
        · rcases List.mem_cons.mp hx with rfl | hx
          · rw [i7 x.toNat (by rw [Int.toNat_of_nonneg h0]; exact hnr), List.getElem?_set_self (by rw [hb]; omega), em]
          · exact i8 x hx
        · rw [sum_set1 z1, sum_set1 z2] at i9
          have a1 : ((kd st p0).2.1 * q - (kd st p0).1 * p) * m = (kd st p0).2.1 * q * m - (kd st p0).1 * p * m := Int.sub_mul _ _ _
          have a2 : p * (left - m * (kd st p0).1) = p * left - (kd st p0).1 * p * m := by
            rw [Int.mul_sub]
            congr 1
            rw [Int.mul_comm m, ← Int.mul_assoc, Int.mul_comm p]
          rw [a1, a2] at i9
          omega
/-- the price, its bound, the shares' worth -/
structure PriceOk (st : List Kd) (room p q : Int) : Prop where
  p0 : 0 ≤ p
  q0 : 0 < q
  cop : cm p q = 1
  none : NoneOk p q st
theorem price_ok {st : List Kd} {room : Int} (hs : ∀ k ∈ st, OkK k) (hr : 0 ≤ room) : PriceOk st room (price st room).1 (price st room).2 ∧ Is (worthS st room) (room * (price st room).1 + (st.map (more (price st room).1 (price st room).2)).sum) (price st room).2 := by
  have oo := inOrder_ok hs
  have z : ShOk st (price st room).2 (List.replicate st.length (0, 1)) (List.replicate st.length 0) := by
    refine ⟨List.length_replicate, List.length_replicate, fun i k s c e1 e2 e3 => ?_⟩
    have h2 := List.eq_of_mem_replicate (List.mem_of_getElem? e2)
    have h3 := List.eq_of_mem_replicate (List.mem_of_getElem? e3)
    subst h2; subst h3
    exact ⟨by decide, by decide, by simp⟩
  obtain ⟨i1, i2, ic, i3, i4, cs', bs', i5, i6, i7, i8, i9⟩ := shares_main hs (p := (price st room).1) (q := (price st room).2) (o := inOrder st) (left := room) (bs := List.replicate st.length 0) (fun x hx => (oo.mem x).mp hx) oo.nd oo.srt hr rfl z (fun x hx => by
    obtain ⟨h0, h1, _⟩ := (oo.mem x).mp hx
    rw [List.getElem?_replicate, if_pos (by omega)]
    exact ⟨rfl, rfl⟩) List.length_replicate
  have kdi : ∀ {i : Nat} {k : Kd}, st[i]? = some k → kd st (i : Int) = k := fun {i k} h => by
    unfold kd
    rw [List.getD_eq_getElem?_getD, Int.toNat_natCast, h]; rfl
  have low : ∀ {i : Nat} {k : Kd}, st[i]? = some k → (i : Int) ∉ inOrder st → k.2.1 * (price st room).2 - k.1 * (price st room).1 ≤ 0 := fun {i k} h hn => by
    have hk := hs k (List.mem_of_getElem? h)
    have hl := (List.getElem?_eq_some_iff.mp h).1
    have : ¬ 0 < k.2.1 := fun hv => hn ((oo.mem i).mpr ⟨by omega, by omega, by rw [kdi h]; exact hv⟩)
    have v0 := hk.v1
    have e : k.2.1 = 0 := by omega
    have := hk.w1
    have : 0 ≤ k.1 * (price st room).1 := Int.mul_nonneg (by omega) i1
    rw [e, Int.zero_mul]; omega
  have nk : NoneOk (price st room).1 (price st room).2 st := fun k hk hn => by
    obtain ⟨i, hi⟩ := List.getElem?_of_mem hk
    by_cases hm : (i : Int) ∈ inOrder st
    · have := i4 i hm (by rw [kdi hi]; exact hn)
      rw [kdi hi] at this; exact this
    · exact low hi hm
  have eb : bs' = st.map (more (price st room).1 (price st room).2) := by
    refine List.ext_getElem? fun i => ?_
    rw [List.getElem?_map]
    cases hi : st[i]? with
    | none => exact List.getElem?_eq_none (by rw [i6]; exact List.getElem?_eq_none_iff.mp hi)
    | some k =>
      by_cases hm : (i : Int) ∈ inOrder st
      · have := i8 i hm
        rw [kdi hi, Int.toNat_natCast] at this
        exact this
      · have hl := (List.getElem?_eq_some_iff.mp hi).1
        rw [i7 i hm, List.getElem?_replicate, if_pos hl]
        have := low hi hm
        show some 0 = some (more _ _ k)
        unfold more
        rw [if_neg (by omega)]
  refine ⟨⟨i1, i2, ic, nk⟩, ?_⟩
  have w := worthGo_is (g := (0, 1)) (c := 0) hs i5 ⟨by decide, by decide, by simp⟩
  have e : room * (price st room).1 + (st.map (more (price st room).1 (price st room).2)).sum = 0 + cs'.sum := by
    have s0 : ∀ n : Nat, (List.replicate n (0 : Int)).sum = 0 := fun n => by
      induction n with
      | zero => rfl
      | succ n ih => rw [List.replicate_succ, List.sum_cons, ih]; rfl
    rw [s0] at i9
    rw [← eb, Int.mul_comm room]
    omega
  rw [e]
  exact w
end Sk


set_option linter.all false
set_option maxHeartbeats 4000000
namespace Sk
/-- below: a fraction is less than a whole number -/
def belowF (f : Fr) (u : Int) : Bool := decide (f.1 < u * f.2)
theorem below_iff {f : Fr} {c q u : Int} (h : Is f c q) (hq : 0 < q) : f.1 < u * f.2 ↔ c < u * q := by
  obtain ⟨h1, h2, h3⟩ := h
  constructor
  · intro h
    have : f.1 * q < u * f.2 * q := Int.mul_lt_mul_of_pos_right h hq
    rw [h3, Int.mul_assoc, Int.mul_comm f.2 q, ← Int.mul_assoc] at this
    exact Int.lt_of_mul_lt_mul_right this (Int.le_of_lt h1)
  · intro h
    have : c * f.2 < u * q * f.2 := Int.mul_lt_mul_of_pos_right h h1
    rw [← h3, Int.mul_assoc, Int.mul_comm q f.2, ← Int.mul_assoc] at this
    exact Int.lt_of_mul_lt_mul_right this (Int.le_of_lt hq)
/-- the bound of the price at a room: the fraction -/
def bndV (st : List Kd) (room p q : Int) : Int := room * p + (st.map (more p q)).sum
theorem bound_of_price {st : List Kd} {room room' p q : Int} (h : PriceOk st room' p q) (hr : 0 ≤ room) (hs : ∀ k ∈ st, OkK k) : ∃ g, boundF st room p q = some g ∧ Is g (bndV st room p q) q := boundF_is hr h.p0 h.q0 hs h.none
/-- no cut by a price where a load has so much -/
theorem price_not {st : List Kd} {room p q u : Int} {g : Fr} (h : PriceOk st room p q) (hs : ∀ k ∈ st, OkK k) (hg : Is g (bndV st room p q) q) (hu : Reach st room u) : ¬ g.1 < u * g.2 := by
  rw [below_iff hg h.q0]
  have := weak h.p0 h.q0 hu hs h.none
  unfold bndV
  omega
/-- the whole bound and one: a price cut; for less room too -/
theorem price_high {st : List Kd} {room room' : Int} {g : Fr} (hs : ∀ k ∈ st, OkK k) (hr : 0 ≤ room) (hr' : room' ≤ room) (hg : Is g (bndV st room' (price st room).1 (price st room).2) (price st room).2) : g.1 < (wholeB st room + 1) * g.2 := by
  obtain ⟨h, w⟩ := price_ok hs hr
  rw [below_iff hg h.q0]
  have le : bndV st room' (price st room).1 (price st room).2 ≤ bndV st room (price st room).1 (price st room).2 := by
    unfold bndV
    have := Int.mul_le_mul_of_nonneg_right hr' h.p0
    omega
  have lt : (worthS st room).1 < (wholeB st room + 1) * (worthS st room).2 := by
    unfold wholeB
    exact Int.lt_ediv_add_one_mul_self _ w.1
  have := (below_iff w h.q0).mp lt
  unfold bndV at le ⊢
  omega

/-! ### cuts -/
inductive Tr where
  | price (p q : Int)
  | kind (place : Nat) (parts : List Tr)
def without (st : List Kd) (i : Nat) : List Kd := st.set i ((st.getD i (1, 0, none)).1, (st.getD i (1, 0, none)).2.1, some 0)
/-- a cut of such a store, room, worth -/
inductive CutOk : List Kd → Int → Int → Tr → Prop
  | price {st : List Kd} {room u p q : Int} {f : Fr} (hp : 0 ≤ p) (hq : 0 < q) (hc : cm p q = 1) (hb : boundF st room p q = some f) (hf : 0 < f.2) (h : f.1 < u * f.2) : CutOk st room u (.price p q)
  | kind {st : List Kd} {room u : Int} {i : Nat} {k : Kd} {parts : List Tr} (hi : st[i]? = some k) (hk : k.2.2 ≠ some 0) (hl : parts.length = (mostIn k room + 1).toNat)
      (h : ∀ (t : Nat) (tr : Tr), parts[t]? = some tr → CutOk (without st i) (room - t * k.1) (u - t * k.2.1) tr) : CutOk st room u (.kind i parts)
theorem CutOk.more {st : List Kd} {room u u' : Int} {tr : Tr} (h : CutOk st room u tr) (hu : u ≤ u') : CutOk st room u' tr := by
  induction h generalizing u' with
  | price hp hq hc hb hf h => exact .price hp hq hc hb hf (by have := Int.mul_le_mul_of_nonneg_right hu (Int.le_of_lt hf); omega)
  | kind hi hk hl h ih => exact .kind hi hk hl fun t tr ht => ih t tr ht (by omega)
/-- the first kind that is there -/
def firstK (st : List Kd) : Nat := (st.findIdx? fun k => decide (k.2.2 ≠ some 0)).getD 0
def cutGo : Nat → List Kd → Int → Int → Tr
  | 0, _, _, _ => .price 0 1
  | n + 1, st, room, u => if (match boundF st room (price st room).1 (price st room).2 with
      | some f => belowF f u
      | none => false) = true then .price (price st room).1 (price st room).2
    else .kind (firstK st) ((List.range (mostIn (st.getD (firstK st) (1, 0, none)) room + 1).toNat).map fun (t : Nat) => cutGo n (without st (firstK st)) (room - t * (st.getD (firstK st) (1, 0, none)).1) (u - t * (st.getD (firstK st) (1, 0, none)).2.1))
def nz (st : List Kd) : Nat := (st.filter fun k => decide (k.2.2 ≠ some 0)).length
theorem without_ok {st : List Kd} {i : Nat} (hs : ∀ k ∈ st, OkK k) : ∀ k ∈ without st i, OkK k := by
  intro k hk
  unfold without at hk
  rcases List.mem_or_eq_of_mem_set hk with h | h
  · exact hs k h
  · by_cases hi : i < st.length
    · have q := hs _ (List.getElem_mem hi)
      rw [List.getD_eq_getElem?_getD, List.getElem?_eq_getElem hi] at h
      subst h
      exact ⟨q.w1, q.w2, q.v1, q.v2, fun m hm => by cases hm; decide⟩
    · rw [List.set_eq_of_length_le (by omega)] at hk
      exact hs k hk
theorem without_length (st : List Kd) (i : Nat) : (without st i).length = st.length := by unfold without; rw [List.length_set]
theorem nz_without : ∀ {st : List Kd} {i : Nat} {k : Kd}, st[i]? = some k → k.2.2 ≠ some 0 → nz (without st i) + 1 = nz st
  | [], _, _, h, _ => by simp at h
  | a :: st, 0, k, h, hk => by
    simp at h; subst h
    simp [nz, without, hk]
  | a :: st, i + 1, k, h, hk => by
    have ih := nz_without (st := st) (i := i) (k := k) (by simpa using h) hk
    have e : without (a :: st) (i + 1) = a :: without st i := by simp [without]
    rw [e]
    unfold nz at ih ⊢
    rw [List.filter_cons, List.filter_cons]
    split
    · rw [List.length_cons, List.length_cons]; omega
    · exact ih
/-- a load of the store without the kind, and so many of the kind -/
theorem reach_without : ∀ {st : List Kd} {i : Nat} {k : Kd} {r v t : Int}, st[i]? = some k → (∀ q ∈ st, OkK q) → 0 ≤ t → (∀ m, k.2.2 = some m → t ≤ m) → Reach (without st i) r v → Reach st (r + t * k.1) (v + t * k.2.1)
  | [], _, _, _, _, _, h, _, _, _, _ => by simp at h
  | a :: st, 0, k, r, v, t, h, hs, h0, hm, hr => by
    simp at h; subst h
    have e : without (a :: st) 0 = (a.1, a.2.1, some 0) :: st := by simp [without]
    rw [e] at hr
    cases hr with
    | @cons _ _ _ v' t' t0 tm hr =>
      have t1 := tm 0 rfl
      have e0 : t' = 0 := by omega
      subst e0
      simp only [Int.zero_mul, Int.sub_zero, Int.add_zero] at hr ⊢
      refine .cons t h0 hm ?_
      have e2 : r + t * a.1 - t * a.1 = r := by omega
      rw [e2]; exact hr
  | a :: st, i + 1, k, r, v, t, h, hs, h0, hm, hr => by
    have e : without (a :: st) (i + 1) = a :: without st i := by simp [without]
    rw [e] at hr
    cases hr with
    | @cons _ _ _ v' t' t0 tm hr =>
      have ih := reach_without (st := st) (i := i) (k := k) (by simpa using h) (fun q hq => hs q (List.mem_cons_of_mem _ hq)) h0 hm hr
      have q := Reach.cons (k := a) (r := r + t * k.1) t' t0 tm (by
        have e2 : r + t * k.1 - t' * a.1 = r - t' * a.1 + t * k.1 := by omega
        rw [e2]; exact ih)
      have e3 : v' + t * k.2.1 + t' * a.2.1 = v' + t' * a.2.1 + t * k.2.1 := by omega
      rw [e3] at q; exact q
/-- where no kind is there the price cuts every worth above 0 -/
theorem price_none {st : List Kd} {room : Int} (hs : ∀ k ∈ st, OkK k) (hr : 0 ≤ room) (hz : ∀ k ∈ st, k.2.2 = some 0) : price st room = (0, 1) ∧ bndV st room 0 1 = 0 := by
  have go : ∀ {o : List Int}, (∀ x ∈ o, 0 ≤ x ∧ x < st.length) → priceGo st o room = (0, 1) := by
    intro o
    induction o with
    | nil => intro _; rfl
    | cons p r ih =>
      intro h
      obtain ⟨h0, h1⟩ := h p List.mem_cons_self
      have e : (kd st p).2.2 = some 0 := by
        unfold kd
        rw [List.getD_eq_getElem?_getD, List.getElem?_eq_getElem (show p.toNat < st.length by omega)]
        exact hz _ (List.getElem_mem _)
      unfold priceGo
      rw [e]
      simp only [Int.zero_mul, Int.sub_zero]
      rw [if_neg (by omega)]
      exact ih fun x hx => h x (List.mem_cons_of_mem _ hx)
  refine ⟨go fun x hx => ?_, ?_⟩
  · obtain ⟨h0, h1, _⟩ := ((inOrder_ok hs).mem x).mp hx
    exact ⟨h0, h1⟩
  · have sm : ∀ l : List Kd, (∀ k ∈ l, k.2.2 = some 0) → (l.map (more 0 1)).sum = 0 := by
      intro l
      induction l with
      | nil => intro _; rfl
      | cons k l ih =>
        intro h
        rw [List.map_cons, List.sum_cons, ih fun q hq => h q (List.mem_cons_of_mem _ hq)]
        have : more 0 1 k = 0 := by
          unfold more
          rw [h k List.mem_cons_self]
          simp
        rw [this]; rfl
    unfold bndV
    rw [sm st hz, Int.mul_zero]; rfl
theorem firstK_ok {st : List Kd} (h : nz st ≠ 0) : ∃ k, st[firstK st]? = some k ∧ k.2.2 ≠ some 0 := by
  unfold firstK
  cases e : st.findIdx? fun k => decide (k.2.2 ≠ some 0) with
  | none =>
    rw [List.findIdx?_eq_none_iff] at e
    refine absurd ?_ h
    unfold nz
    rw [List.length_eq_zero_iff, List.filter_eq_nil_iff]
    intro k hk
    have := e k hk
    simpa using this
  | some i =>
    obtain ⟨hi, h1, _⟩ := List.findIdx?_eq_some_iff_getElem.mp e
    exact ⟨st[i], by simp [hi], of_decide_eq_true h1⟩
theorem cutGo_ok : ∀ {n : Nat} {st : List Kd} {room u : Int}, (∀ k ∈ st, OkK k) → 0 ≤ room → (∀ v, Reach st room v → v < u) → nz st < n → CutOk st room u (cutGo n st room u)
  | 0, _, _, _, _, _, _, h => by omega
  | n + 1, st, room, u, hs, hr, hu, hn => by
    obtain ⟨po, _⟩ := price_ok hs hr
    obtain ⟨g, g1, g2⟩ := bound_of_price po hr hs
    unfold cutGo
    rw [g1]
    by_cases hb : g.1 < u * g.2
    · have : belowF g u = true := decide_eq_true hb
      simp only [this, if_true]
      exact .price po.p0 po.q0 po.cop g1 g2.1 hb
    · have : belowF g u = false := decide_eq_false hb
      simp only [this, Bool.false_eq_true, if_false]
      have hnz : nz st ≠ 0 := fun z => by
        have hz : ∀ k ∈ st, k.2.2 = some 0 := fun k hk => by
          unfold nz at z
          rw [List.length_eq_zero_iff, List.filter_eq_nil_iff] at z
          have := z k hk
          simpa using this
        obtain ⟨e1, e2⟩ := price_none hs hr hz
        rw [e1] at g2
        obtain ⟨a1, a2, a3⟩ := g2
        rw [e2] at a3
        have u0 := hu 0 (.zero hr hs)
        have : 0 < u * g.2 := Int.mul_pos u0 a1
        apply hb
        omega
      obtain ⟨k, hk, hk0⟩ := firstK_ok hnz
      have ek : st.getD (firstK st) (1, 0, none) = k := by rw [List.getD_eq_getElem?_getD, hk]; rfl
      rw [ek]
      have okk := hs k (List.mem_of_getElem? hk)
      refine .kind hk hk0 (by simp) fun t tr ht => ?_
      have htl : t < (mostIn k room + 1).toNat := by
        have := (List.getElem?_eq_some_iff.mp ht).1
        simpa using this
      rw [List.getElem?_map, List.getElem?_range htl] at ht
      cases ht
      have tm : (t : Int) ≤ mostIn k room := by omega
      refine cutGo_ok (without_ok hs) (by have := mostIn_mul okk tm; omega) (fun v hv => ?_) (by have := nz_without hk hk0; omega)
      have := hu _ ((reach_without hk hs (by omega) (mostIn_m tm) hv).le (r' := room) (by omega))
      omega
end Sk


set_option linter.all false
set_option maxHeartbeats 4000000
namespace Sk
/-! ### single stores: halves and stairs -/
/-- some load has just this weight and this worth -/
inductive Wt : List Kd → Int → Int → Prop
  | nil : Wt [] 0 0
  | cons {k : Kd} {st : List Kd} {h v : Int} (t : Int) (h0 : 0 ≤ t) (hm : ∀ m, k.2.2 = some m → t ≤ m) (q : Wt st h v) : Wt (k :: st) (h + t * k.1) (v + t * k.2.1)
theorem reach_wt {st : List Kd} {r v : Int} : Reach st r v ↔ ∃ h, h ≤ r ∧ Wt st h v := by
  constructor
  · intro h
    induction h with
    | nil h => exact ⟨0, h, .nil⟩
    | cons t h0 hm _ ih =>
      obtain ⟨h, h1, h2⟩ := ih
      exact ⟨_, by omega, .cons t h0 hm h2⟩
  · rintro ⟨h, h1, h2⟩
    induction h2 generalizing r with
    | nil => exact .nil h1
    | cons t h0 hm _ ih => exact .cons t h0 hm (ih (by omega))
theorem wt_append {b : List Kd} : ∀ {a : List Kd} {h v : Int}, Wt (a ++ b) h v ↔ ∃ h1 v1 h2 v2, Wt a h1 v1 ∧ Wt b h2 v2 ∧ h = h1 + h2 ∧ v = v1 + v2
  | [], h, v => by
    constructor
    · intro q
      exact ⟨0, 0, h, v, .nil, q, by omega, by omega⟩
    · rintro ⟨h1, v1, h2, v2, q1, q2, rfl, rfl⟩
      cases q1
      rw [Int.zero_add, Int.zero_add]; exact q2
  | k :: a, h, v => by
    constructor
    · intro q
      cases q with
      | cons t h0 hm q =>
        obtain ⟨h1, v1, h2, v2, q1, q2, rfl, rfl⟩ := (wt_append (a := a)).mp q
        exact ⟨_, _, h2, v2, .cons t h0 hm q1, q2, by omega, by omega⟩
    · rintro ⟨h1, v1, h2, v2, q1, q2, rfl, rfl⟩
      cases q1 with
      | @cons _ _ h v t h0 hm q1 =>
        have := Wt.cons (k := k) t h0 hm ((wt_append (a := a) (b := b)).mpr ⟨h, v, h2, v2, q1, q2, rfl, rfl⟩)
        have e1 : h + h2 + t * k.1 = h + t * k.1 + h2 := by omega
        have e2 : v + v2 + t * k.2.1 = v + t * k.2.1 + v2 := by omega
        rw [e1, e2] at this
        exact this
def Single (st : List Kd) : Prop := ∀ k ∈ st, k.2.2 = some 1
def weightL : List Kd → List Int → Int
  | k :: st, t :: ts => k.1 * t + weightL st ts
  | _, _ => 0
def loadsGo : List Kd → List (List Int) → List (List Int)
  | [], f => f
  | _ :: st, f => loadsGo st (f.flatMap fun l => [l ++ [0], l ++ [1]])
def bits : Nat → List (List Int)
  | 0 => [[]]
  | n + 1 => (bits n).map (0 :: ·) ++ (bits n).map (1 :: ·)
theorem mem_loadsGo : ∀ {st : List Kd} {f : List (List Int)} {l : List Int}, l ∈ loadsGo st f ↔ ∃ p ∈ f, ∃ q ∈ bits st.length, l = p ++ q
  | [], f, l => by simp [loadsGo, bits]
  | k :: st, f, l => by
    unfold loadsGo
    rw [mem_loadsGo (st := st)]
    constructor
    · rintro ⟨p, hp, q, hq, rfl⟩
      obtain ⟨p', hp', h⟩ := List.mem_flatMap.mp hp
      simp only [List.mem_cons, List.mem_nil_iff, or_false] at h
      rcases h with rfl | rfl
      · exact ⟨p', hp', 0 :: q, by simp [bits, hq], by simp⟩
      · exact ⟨p', hp', 1 :: q, by simp [bits, hq], by simp⟩
    · rintro ⟨p, hp, q, hq, rfl⟩
      simp only [List.length_cons, bits, List.mem_append, List.mem_map] at hq
      rcases hq with ⟨q', hq', rfl⟩ | ⟨q', hq', rfl⟩
      · exact ⟨p ++ [0], List.mem_flatMap.mpr ⟨p, hp, by simp⟩, q', hq', by simp⟩
      · exact ⟨p ++ [1], List.mem_flatMap.mpr ⟨p, hp, by simp⟩, q', hq', by simp⟩
theorem bits_length : ∀ {n : Nat} {l : List Int}, l ∈ bits n → l.length = n
  | 0, l, h => by simp [bits] at h; subst h; rfl
  | n + 1, l, h => by
    simp only [bits, List.mem_append, List.mem_map] at h
    rcases h with ⟨q, hq, rfl⟩ | ⟨q, hq, rfl⟩ <;> simp [bits_length hq]
theorem bits_wt : ∀ {st : List Kd} {l : List Int}, Single st → l ∈ bits st.length → Wt st (weightL st l) (worthL st l)
  | [], l, _, h => by simp [bits] at h; subst h; exact .nil
  | k :: st, l, hs, h => by
    have hk := hs k List.mem_cons_self
    simp only [List.length_cons, bits, List.mem_append, List.mem_map] at h
    rcases h with ⟨q, hq, rfl⟩ | ⟨q, hq, rfl⟩
    · have := Wt.cons (k := k) 0 (Int.le_refl 0) (fun m hm => by rw [hk] at hm; cases hm; decide) (bits_wt (st := st) (fun q hq => hs q (List.mem_cons_of_mem _ hq)) hq)
      simpa [weightL, worthL] using this
    · have := Wt.cons (k := k) 1 (by decide) (fun m hm => by rw [hk] at hm; cases hm; decide) (bits_wt (st := st) (fun q hq => hs q (List.mem_cons_of_mem _ hq)) hq)
      simp only [weightL, worthL, Int.mul_one]
      rw [Int.one_mul, Int.one_mul] at this
      rw [Int.add_comm k.1, Int.add_comm k.2.1]; exact this
theorem wt_bits : ∀ {st : List Kd} {h v : Int}, Single st → Wt st h v → ∃ l ∈ bits st.length, weightL st l = h ∧ worthL st l = v
  | [], h, v, _, q => by cases q; exact ⟨[], by simp [bits], rfl, rfl⟩
  | k :: st, h, v, hs, q => by
    have hk := hs k List.mem_cons_self
    cases q with
    | @cons _ _ h v t h0 hm q =>
      obtain ⟨l, hl, e1, e2⟩ := wt_bits (st := st) (fun q hq => hs q (List.mem_cons_of_mem _ hq)) q
      have t1 := hm 1 hk
      have : t = 0 ∨ t = 1 := by omega
      rcases this with rfl | rfl
      · exact ⟨0 :: l, by simp [bits, hl], by simp [weightL, e1], by simp [worthL, e2]⟩
      · exact ⟨1 :: l, by simp [bits, hl], by simp only [weightL]; omega, by simp only [worthL]; omega⟩
def loadsOf (st : List Kd) : List (List Int) := loadsGo st [[]]
theorem mem_loadsOf {st : List Kd} {l : List Int} : l ∈ loadsOf st ↔ l ∈ bits st.length := by
  unfold loadsOf
  rw [mem_loadsGo]
  simp
theorem flat_length : ∀ f : List (List Int), (f.flatMap fun l => [l ++ [0], l ++ [1]]).length = 2 * f.length
  | [] => rfl
  | _ :: f => by simp only [List.flatMap_cons, List.length_append, flat_length f, List.length_cons, List.length_nil]; omega
theorem loadsGo_length : ∀ (st : List Kd) (f : List (List Int)), (loadsGo st f).length = 2 ^ st.length * f.length
  | [], f => by simp [loadsGo]
  | _ :: st, f => by rw [loadsGo, loadsGo_length st, flat_length, List.length_cons, Nat.pow_succ, Nat.mul_assoc]

/-! #### unbeaten loads -/
/-- weight, worth, load -/
abbrev It3 := Int × Int × List Int
def ubStep (acc : List It3) (x : It3) : List It3 := if acc = [] ∨ 0 - x.2.1 > (acc.getLastD (0, 0, [])).2.1 then acc ++ [(x.1, 0 - x.2.1, x.2.2)] else acc
def ubGo (xs : List It3) : List It3 := xs.foldl ubStep []
/-- weight up, worth down -/
def le3 (a b : It3) : Prop := a.1 < b.1 ∨ (a.1 = b.1 ∧ a.2.1 ≤ b.2.1)
structure UbOk (xs ys : List It3) : Prop where
  mem : ∀ y ∈ ys, ∃ x ∈ xs, y.1 = x.1 ∧ y.2.1 = 0 - x.2.1
  cov : ∀ x ∈ xs, ∃ y ∈ ys, y.1 ≤ x.1 ∧ 0 - x.2.1 ≤ y.2.1
  srt : ys.Pairwise fun a b => a.1 ≤ b.1 ∧ a.2.1 < b.2.1
theorem last_max {ys : List It3} (h : ys.Pairwise fun a b => a.1 ≤ b.1 ∧ a.2.1 < b.2.1) : ∀ y ∈ ys, y.1 ≤ (ys.getLastD (0, 0, [])).1 ∧ y.2.1 ≤ (ys.getLastD (0, 0, [])).2.1 := by
  induction ys with
  | nil => intro y hy; simp at hy
  | cons a r ih =>
    intro y hy
    obtain ⟨h1, h2⟩ := List.pairwise_cons.mp h
    cases r with
    | nil =>
      have hy := List.mem_singleton.mp hy; subst hy
      exact ⟨Int.le_refl _, Int.le_refl _⟩
    | cons b r =>
      have e : (a :: b :: r).getLastD (0, 0, []) = (b :: r).getLastD (0, 0, []) := by simp [List.getLastD]
      rw [e]
      rcases List.mem_cons.mp hy with rfl | hy
      · have hb := h1 b List.mem_cons_self
        have hl := ih h2 b List.mem_cons_self
        exact ⟨by omega, by omega⟩
      · exact ih h2 y hy
theorem ub_go : ∀ {ys pre : List It3} {acc : List It3}, UbOk pre acc → ((pre ++ ys).Pairwise le3) → UbOk (pre ++ ys) (ys.foldl ubStep acc)
  | [], pre, acc, h, _ => by rw [List.append_nil]; exact h
  | x :: ys, pre, acc, h, hs => by
    have e : pre ++ x :: ys = (pre ++ [x]) ++ ys := by simp
    rw [e] at hs ⊢
    have hx : ∀ q ∈ pre, le3 q x := fun q hq => by
      have := (List.pairwise_append.mp (List.pairwise_append.mp hs).1).2.2 q hq x (by simp)
      exact this
    refine ub_go (acc := ubStep acc x) ?_ hs
    have heavy : ∀ y ∈ acc, y.1 ≤ x.1 := fun y hy => by
      obtain ⟨q, hq, e1, _⟩ := h.mem y hy
      have := hx q hq
      unfold le3 at this
      omega
    unfold ubStep
    split
    · next hc =>
      refine ⟨fun y hy => ?_, fun q hq => ?_, ?_⟩
      · rcases List.mem_append.mp hy with hy | hy
        · obtain ⟨q, hq, e1⟩ := h.mem y hy
          exact ⟨q, List.mem_append_left _ hq, e1⟩
        · have hy := List.mem_singleton.mp hy; subst hy
          exact ⟨x, by simp, rfl, rfl⟩
      · rcases List.mem_append.mp hq with hq | hq
        · obtain ⟨y, hy, e1⟩ := h.cov q hq
          exact ⟨y, List.mem_append_left _ hy, e1⟩
        · have hq := List.mem_singleton.mp hq; subst hq
          exact ⟨_, List.mem_append_right _ (List.mem_singleton.mpr rfl), Int.le_refl _, Int.le_refl _⟩
      · refine List.pairwise_append.mpr ⟨h.srt, List.pairwise_singleton _ _, fun a ha b hb => ?_⟩
        have hb := List.mem_singleton.mp hb; subst hb
        refine ⟨heavy a ha, ?_⟩
        rcases hc with hc | hc
        · rw [hc] at ha; simp at ha
        · have := (last_max h.srt a ha).2
          show a.2.1 < 0 - x.2.1
          omega
    · next hc =>
      refine ⟨fun y hy => ?_, fun q hq => ?_, h.srt⟩
      · obtain ⟨q, hq, e1⟩ := h.mem y hy
        exact ⟨q, List.mem_append_left _ hq, e1⟩
      · rcases List.mem_append.mp hq with hq | hq
        · exact h.cov q hq
        · have hq := List.mem_singleton.mp hq; subst hq
          have hne : acc ≠ [] := fun z => hc (.inl z)
          have hl : acc.getLastD (0, 0, []) ∈ acc := by
            rw [List.getLastD_eq_getLast?, List.getLast?_eq_getLast hne]
            exact List.getLast_mem hne
          refine ⟨_, hl, heavy _ hl, ?_⟩
          have : ¬ 0 - q.2.1 > (acc.getLastD (0, 0, [])).2.1 := fun z => hc (.inr z)
          omega
theorem ubGo_ok {xs : List It3} (h : xs.Pairwise le3) : UbOk xs (ubGo xs) := by
  have := ub_go (ys := xs) (pre := []) (acc := []) ⟨fun y hy => by simp at hy, fun x hx => by simp at hx, List.Pairwise.nil⟩ (by simpa using h)
  simpa [ubGo] using this
theorem ubGo_length (xs : List It3) : (ubGo xs).length ≤ xs.length := by
  have : ∀ (ys acc : List It3), (ys.foldl ubStep acc).length ≤ acc.length + ys.length := by
    intro ys
    induction ys with
    | nil => intro acc; simp
    | cons x ys ih =>
      intro acc
      have h := ih (ubStep acc x)
      have : (ubStep acc x).length ≤ acc.length + 1 := by
        unfold ubStep
        split
        · simp
        · omega
      simp only [List.foldl_cons, List.length_cons]
      omega
  simpa [ubGo] using this xs []

/-! #### the stair -/
def at3 (xs : List It3) (i : Int) : It3 := xs.getD i.toNat (0, 0, [])
def stairGo (one other : List It3) (room u : Int) : Nat → Int → Int → List (Int × Int) → Option (List (Int × Int))
  | 0, _, _, f => some f
  | n + 1, i, j, f => if i < one.length ∧ 0 ≤ j then
      (if (at3 one i).1 + (at3 other j).1 > room then stairGo one other room u n i (j - 1) (f ++ [(i, j)])
      else if (at3 one i).2.1 + (at3 other j).2.1 ≥ u then none
      else stairGo one other room u n (i + 1) j (f ++ [(i, j)]))
    else some f
theorem at3_mono {xs : List It3} (h : xs.Pairwise fun a b => a.1 ≤ b.1 ∧ a.2.1 < b.2.1) {i j : Int} (h0 : 0 ≤ i) (h1 : i ≤ j) (h2 : j < xs.length) : (at3 xs i).1 ≤ (at3 xs j).1 ∧ (at3 xs i).2.1 ≤ (at3 xs j).2.1 := by
  have li : i.toNat < xs.length := by omega
  have lj : j.toNat < xs.length := by omega
  have ei : at3 xs i = xs[i.toNat] := by unfold at3; rw [List.getD_eq_getElem?_getD, List.getElem?_eq_getElem li]; rfl
  have ej : at3 xs j = xs[j.toNat] := by unfold at3; rw [List.getD_eq_getElem?_getD, List.getElem?_eq_getElem lj]; rfl
  rw [ei, ej]
  rcases Nat.lt_or_ge i.toNat j.toNat with q | q
  · have := List.pairwise_iff_getElem.mp h i.toNat j.toNat li lj q
    exact ⟨this.1, Int.le_of_lt this.2⟩
  · have : i.toNat = j.toNat := by omega
    simp only [this]
    exact ⟨Int.le_refl _, Int.le_refl _⟩
/-- a pair that fits and has so much -/
def Pair (one other : List It3) (room u : Int) : Prop := ∃ a b : Int, 0 ≤ a ∧ a < one.length ∧ 0 ≤ b ∧ b < other.length ∧ (at3 one a).1 + (at3 other b).1 ≤ room ∧ u ≤ (at3 one a).2.1 + (at3 other b).2.1
theorem stair_none {one other : List It3} {room u : Int} (s1 : one.Pairwise fun a b => a.1 ≤ b.1 ∧ a.2.1 < b.2.1) (s2 : other.Pairwise fun a b => a.1 ≤ b.1 ∧ a.2.1 < b.2.1) {a b : Int} (ha : a < one.length) (hb0 : 0 ≤ b) (hf : (at3 one a).1 + (at3 other b).1 ≤ room) (hu : u ≤ (at3 one a).2.1 + (at3 other b).2.1) :
    ∀ (n : Nat) (i j : Int) (f : List (Int × Int)), 0 ≤ i → i ≤ a → b ≤ j → j < other.length → one.length - i + (j + 1) < n → stairGo one other room u n i j f = none
  | 0, i, j, f, h0, h1, h2, h3, hn => by omega
  | n + 1, i, j, f, h0, h1, h2, h3, hn => by
    unfold stairGo
    rw [if_pos ⟨by omega, by omega⟩]
    have m1 := at3_mono s1 h0 h1 ha
    have m2 := at3_mono s2 hb0 h2 h3
    by_cases c1 : (at3 one i).1 + (at3 other j).1 > room
    · rw [if_pos c1]
      have : b ≠ j := fun z => by subst z; omega
      exact stair_none s1 s2 ha hb0 hf hu n i (j - 1) _ h0 h1 (by omega) (by omega) (by omega)
    · rw [if_neg c1]
      by_cases c2 : (at3 one i).2.1 + (at3 other j).2.1 ≥ u
      · rw [if_pos c2]
      · rw [if_neg c2]
        have : i ≠ a := fun z => by subst z; omega
        exact stair_none s1 s2 ha hb0 hf hu n (i + 1) j _ (by omega) (by omega) h2 h3 (by omega)
theorem stair_some {one other : List It3} {room u : Int} (hp : ¬ Pair one other room u) : ∀ (n : Nat) (i j : Int) (f : List (Int × Int)), 0 ≤ i → j < other.length → stairGo one other room u n i j f ≠ none
  | 0, i, j, f, _, _, h => by cases h
  | n + 1, i, j, f, h0, hj, h => by
    unfold stairGo at h
    by_cases c : i < one.length ∧ 0 ≤ j
    · rw [if_pos c] at h
      by_cases c1 : (at3 one i).1 + (at3 other j).1 > room
      · rw [if_pos c1] at h
        exact stair_some hp n i (j - 1) _ h0 (by omega) h
      · rw [if_neg c1] at h
        by_cases c2 : (at3 one i).2.1 + (at3 other j).2.1 ≥ u
        · exact hp ⟨i, j, h0, c.1, c.2, hj, by omega, c2⟩
        · rw [if_neg c2] at h
          exact stair_some hp n (i + 1) j _ (by omega) hj h
    · rw [if_neg c] at h
      cases h
end Sk


set_option Elab.async false
set_option linter.all false
set_option maxRecDepth 100000
set_option maxHeartbeats 4000000
namespace Sk
open PySem L2
/-! ### data of the stores -/
def encO : Option Int → PyData
  | none => .none
  | some m => .int m
def encK (k : Kd) : PyData := .tuple [.int k.1, .int k.2.1, encO k.2.2]
abbrev encSt (st : List Kd) : PyData := .tuple (st.map encK)
def encF (f : Fr) : PyData := .tuple [.int f.1, .int f.2]
def encIs (l : List Int) : PyData := .tuple (l.map .int)
theorem int_inj : ∀ a b : Int, PyData.int a = PyData.int b → a = b := fun _ _ h => by cases h; rfl
theorem encO_inj : ∀ a b : Option Int, encO a = encO b → a = b
  | none, none, _ => rfl
  | none, some _, h => by cases h
  | some _, none, h => by cases h
  | some _, some _, h => by cases h; rfl
theorem encK_inj : ∀ a b : Kd, encK a = encK b → a = b := fun ⟨a, b, c⟩ ⟨a', b', c'⟩ h => by
  simp only [encK, PyData.tuple.injEq, List.cons.injEq, PyData.int.injEq, and_true] at h
  obtain ⟨rfl, rfl, h⟩ := h
  rw [encO_inj _ _ h]
theorem ints_inj : ∀ a b : List Int, a.map PyData.int = b.map .int → a = b
  | [], [], _ => rfl
  | [], _ :: _, h => by cases h
  | _ :: _, [], h => by cases h
  | x :: a, y :: b, h => by
    simp only [List.map_cons, List.cons.injEq, PyData.int.injEq] at h
    rw [h.1, ints_inj a b h.2]
section
variable {F : Fam} {S S1 S2 S3 S' : List Sl} {e a b o : Expr} {es rest : List Expr} {d x y z : PyData} {ds xs ys : List PyData} {pos p q q1 q2 : Pos} {i j : Int} {P : Po} {s : Stmt} {ss A B : List Stmt} {tg : Expr}
noncomputable def undo {α : Type} [Inhabited α] (enc : α → PyData) (x : PyData) : α := by
  classical exact if h : ∃ y, enc y = x then h.choose else default
theorem undo_enc {α : Type} [Inhabited α] {enc : α → PyData} (hi : ∀ a b, enc a = enc b → a = b) (y : α) : undo enc (enc y) = y := by
  have h : ∃ z, enc z = enc y := ⟨y, rfl⟩
  unfold undo
  rw [dif_pos h]
  exact hi _ _ h.choose_spec
theorem filter_enc {α : Type} [Inhabited α] {enc : α → PyData} (hi : ∀ a b, enc a = enc b → a = b) (fl : α → Bool) (g : α → PyData) : ∀ ys : List α, (((ys.map enc).filter fun x => fl (undo enc x)).map fun x => g (undo enc x)) = (ys.filter fl).map g
  | [] => rfl
  | y :: ys => by
    rw [List.map_cons, List.filter_cons, List.filter_cons, undo_enc hi]
    cases fl y with
    | true => simp only [if_true, List.map_cons, undo_enc hi, filter_enc hi fl g ys]
    | false => simp only [Bool.false_eq_true, if_false, filter_enc hi fl g ys]
/-- a comprehension over coded things -/
theorem ld_lcM {α : Type} [Inhabited α] {ts : List α} {elt iter : Expr} {ifs : List Expr} {scope : Scope} (own : List (Str × Nat)) {enc : α → PyData} (inj : ∀ a b, enc a = enc b → a = b) (fl : α → Bool) (g : α → PyData) (hi : ID F S tg iter (ts.map enc) S1) (ok : ∀ i, BlkOk F.N (F.X i).env.scope scope own) (hvs : ∀ v ∈ own.map (·.2), S1[v]? = some .no)
    (step : ∀ t ∈ ts, ∃ S2, KeptS (own.map (·.2)) S1 S2 ∧ GD (F.blk scope) (· ∈ own.map (·.2)) S1 tg (enc t) S2 ∧ TsD (F.blk scope) S2 ifs (fl t) S2 ∧ (fl t = true → ED (F.blk scope) S2 elt (g t) S2)) (hl : ts.length ≤ 50000)
    (hfs : ∀ i x, foldedSetIterable iter (F.X i).env x = pure x := by intro _ _; rfl) : LD F S (.ListComp elt [⟨tg, iter, ifs, 0⟩] scope pos) ((ts.filter fl).map g) S1 := by
  have := ld_lc (pos := pos) (fun x => fl (undo enc x)) (fun x => g (undo enc x)) hi hvs ok (fun x hx => by
    obtain ⟨t, ht, rfl⟩ := List.mem_map.mp hx
    rw [undo_enc inj]
    exact step t ht) (by rw [List.length_map]; exact hl) hfs
  rw [filter_enc inj fl g ts] at this
  exact this
theorem ld_lcA {α : Type} [Inhabited α] {ts : List α} {elt iter : Expr} {scope : Scope} (own : List (Str × Nat)) {enc : α → PyData} (inj : ∀ a b, enc a = enc b → a = b) (g : α → PyData) (hi : ID F S tg iter (ts.map enc) S1) (ok : ∀ i, BlkOk F.N (F.X i).env.scope scope own) (hvs : ∀ v ∈ own.map (·.2), S1[v]? = some .no)
    (step : ∀ t ∈ ts, ∃ S2, KeptS (own.map (·.2)) S1 S2 ∧ GD (F.blk scope) (· ∈ own.map (·.2)) S1 tg (enc t) S2 ∧ ED (F.blk scope) S2 elt (g t) S2) (hl : ts.length ≤ 50000)
    (hfs : ∀ i x, foldedSetIterable iter (F.X i).env x = pure x := by intro _ _; rfl) : LD F S (.ListComp elt [⟨tg, iter, [], 0⟩] scope pos) (ts.map g) S1 := by
  have := ld_lcM (pos := pos) own inj (fun _ => true) g hi ok hvs (fun t ht => by
    obtain ⟨S2, h1, h2, h3⟩ := step t ht
    exact ⟨S2, h1, h2, tsd_nil, fun _ => h3⟩) hl hfs
  rw [List.filter_eq_self.mpr (fun _ _ => rfl)] at this
  exact this
end
section
variable {F : Fam} {S S1 S2 S3 S' : List Sl} {e a b o elt iter : Expr} {ifs : List Expr} {d x y z : PyData} {ds : List PyData} {pos p : Pos} {α : Type} [Inhabited α] {ts : List α} {scope sc : Scope} {N ps : List Str} {enc : α → PyData}
theorem no_lt {k : Nat} (h : S1[k]? = some .no) : k < S1.length := (List.getElem?_eq_some_iff.mp h).1
theorem ld_lc1f (Sc : FnScope N ps sc) (k : Nat) {n : Str} {pn : Pos} (inj : ∀ a b, enc a = enc b → a = b) (fl : α → Bool) (g : α → PyData) (hi : ID F S (.Name n pn) iter (ts.map enc) S1)
    (stf : ∀ t ∈ ts, TsD (F.blk scope) (S1.set k (.dat (enc t))) ifs (fl t) (S1.set k (.dat (enc t))))
    (step : ∀ t ∈ ts, fl t = true → ED (F.blk scope) (S1.set k (.dat (enc t))) elt (g t) (S1.set k (.dat (enc t)))) (hl : ts.length ≤ 50000) (hno : S1[k]? = some .no := by rfl)
    (eN : F.N = N := by rfl) (hsc : ∀ i, (F.X i).env.scope = sc := by intro _; rfl) (ok : blkC N sc scope [(n, k)] = true := by decide +kernel) (hN : F.N[k]? = some n := by rfl) (hx : ∀ i, Loc ((F.blk scope).X i).env.scope n := by first | exact fun _ => .inl rfl | exact fun _ => .inr rfl) (hf : ∀ i, ((F.blk scope).X i).fn n = true ∨ ((F.blk scope).X i).env.scope.names.lookup n = some .local := by first | exact fun _ => .inl rfl | exact fun _ => .inr rfl)
    (hfs : ∀ i x, foldedSetIterable iter (F.X i).env x = pure x := by intro _ _; rfl) : LD F S (.ListComp elt [⟨.Name n pn, iter, ifs, 0⟩] scope pos) ((ts.filter fl).map g) S1 :=
  ld_lcM [(n, k)] inj fl g hi (fun i => by rw [eN, hsc i]; exact blkOk_by ok) (fun v hv => by have := List.mem_singleton.mp hv; subst this; exact hno) (fun t ht => ⟨_, KeptS.refl.set (by simp), gd_name (no_lt hno) hN hx hf (by simp), stf t ht, step t ht⟩) hl hfs
theorem ld_lc1 (Sc : FnScope N ps sc) (k : Nat) {n : Str} {pn : Pos} (inj : ∀ a b, enc a = enc b → a = b) (g : α → PyData) (hi : ID F S (.Name n pn) iter (ts.map enc) S1)
    (step : ∀ t ∈ ts, ED (F.blk scope) (S1.set k (.dat (enc t))) elt (g t) (S1.set k (.dat (enc t)))) (hl : ts.length ≤ 50000) (hno : S1[k]? = some .no := by rfl)
    (eN : F.N = N := by rfl) (hsc : ∀ i, (F.X i).env.scope = sc := by intro _; rfl) (ok : blkC N sc scope [(n, k)] = true := by decide +kernel) (hN : F.N[k]? = some n := by rfl) (hx : ∀ i, Loc ((F.blk scope).X i).env.scope n := by first | exact fun _ => .inl rfl | exact fun _ => .inr rfl) (hf : ∀ i, ((F.blk scope).X i).fn n = true ∨ ((F.blk scope).X i).env.scope.names.lookup n = some .local := by first | exact fun _ => .inl rfl | exact fun _ => .inr rfl)
    (hfs : ∀ i x, foldedSetIterable iter (F.X i).env x = pure x := by intro _ _; rfl) : LD F S (.ListComp elt [⟨.Name n pn, iter, [], 0⟩] scope pos) (ts.map g) S1 :=
  ld_lcA [(n, k)] inj g hi (fun i => by rw [eN, hsc i]; exact blkOk_by ok) (fun v hv => by have := List.mem_singleton.mp hv; subst this; exact hno) (fun t ht => ⟨_, KeptS.refl.set (by simp), gd_name (no_lt hno) hN hx hf (by simp), step t ht⟩) hl hfs
/-- over pairs -/
theorem ld_lc2 (Sc : FnScope N ps sc) (k k2 : Nat) {n n2 : Str} {pn pn2 pt : Pos} {kt : Nat} {x y : α → PyData} (inj : ∀ a b, (PyData.tuple [x a, y a]) = .tuple [x b, y b] → a = b) (g : α → PyData) (hi : ID F S (.Tuple [.Name n pn, .Name n2 pn2] kt pt) iter (ts.map fun t => .tuple [x t, y t]) S1)
    (step : ∀ t ∈ ts, ED (F.blk scope) ((S1.set k (.dat (x t))).set k2 (.dat (y t))) elt (g t) ((S1.set k (.dat (x t))).set k2 (.dat (y t)))) (hl : ts.length ≤ 50000) (hno : S1[k]? = some .no := by rfl) (hno2 : S1[k2]? = some .no := by rfl)
    (eN : F.N = N := by rfl) (hsc : ∀ i, (F.X i).env.scope = sc := by intro _; rfl) (ok : blkC N sc scope [(n, k), (n2, k2)] = true := by decide +kernel) (hN : F.N[k]? = some n := by rfl) (hN2 : F.N[k2]? = some n2 := by rfl) (hx : ∀ i, Loc ((F.blk scope).X i).env.scope n := by first | exact fun _ => .inl rfl | exact fun _ => .inr rfl) (hf : ∀ i, ((F.blk scope).X i).fn n = true ∨ ((F.blk scope).X i).env.scope.names.lookup n = some .local := by first | exact fun _ => .inl rfl | exact fun _ => .inr rfl)
    (hx2 : ∀ i, Loc ((F.blk scope).X i).env.scope n2 := by first | exact fun _ => .inl rfl | exact fun _ => .inr rfl) (hf2 : ∀ i, ((F.blk scope).X i).fn n2 = true ∨ ((F.blk scope).X i).env.scope.names.lookup n2 = some .local := by first | exact fun _ => .inl rfl | exact fun _ => .inr rfl)
    (hfs : ∀ i x, foldedSetIterable iter (F.X i).env x = pure x := by intro _ _; rfl) : LD F S (.ListComp elt [⟨.Tuple [.Name n pn, .Name n2 pn2] kt pt, iter, [], 0⟩] scope pos) (ts.map g) S1 :=
  ld_lcA [(n, k), (n2, k2)] inj g hi (fun i => by rw [eN, hsc i]; exact blkOk_by ok) (fun v hv => by
    simp only [List.map_cons, List.map_nil, List.mem_cons, List.mem_nil_iff, or_false] at hv
    rcases hv with rfl | rfl <;> assumption) (fun t ht => ⟨_, (KeptS.refl.set (by simp)).set (by simp), gt2 (gd_name (no_lt hno) hN hx hf (by simp)) (gd_name (by rw [List.length_set]; exact no_lt hno2) hN2 hx2 hf2 (by simp)), step t ht⟩) hl hfs
/-- over triples -/
theorem ld_lc3 (Sc : FnScope N ps sc) (k k2 k3 : Nat) {n n2 n3 : Str} {pn pn2 pn3 pt : Pos} {kt : Nat} {x y z : α → PyData} (inj : ∀ a b, (PyData.tuple [x a, y a, z a]) = .tuple [x b, y b, z b] → a = b) (g : α → PyData) (hi : ID F S (.Tuple [.Name n pn, .Name n2 pn2, .Name n3 pn3] kt pt) iter (ts.map fun t => .tuple [x t, y t, z t]) S1)
    (step : ∀ t ∈ ts, ED (F.blk scope) (((S1.set k (.dat (x t))).set k2 (.dat (y t))).set k3 (.dat (z t))) elt (g t) (((S1.set k (.dat (x t))).set k2 (.dat (y t))).set k3 (.dat (z t)))) (hl : ts.length ≤ 50000) (hno : S1[k]? = some .no := by rfl) (hno2 : S1[k2]? = some .no := by rfl) (hno3 : S1[k3]? = some .no := by rfl)
    (eN : F.N = N := by rfl) (hsc : ∀ i, (F.X i).env.scope = sc := by intro _; rfl) (ok : blkC N sc scope [(n, k), (n2, k2), (n3, k3)] = true := by decide +kernel) (hN : F.N[k]? = some n := by rfl) (hN2 : F.N[k2]? = some n2 := by rfl) (hN3 : F.N[k3]? = some n3 := by rfl) (hx : ∀ i, Loc ((F.blk scope).X i).env.scope n := by first | exact fun _ => .inl rfl | exact fun _ => .inr rfl) (hf : ∀ i, ((F.blk scope).X i).fn n = true ∨ ((F.blk scope).X i).env.scope.names.lookup n = some .local := by first | exact fun _ => .inl rfl | exact fun _ => .inr rfl)
    (hx2 : ∀ i, Loc ((F.blk scope).X i).env.scope n2 := by first | exact fun _ => .inl rfl | exact fun _ => .inr rfl) (hf2 : ∀ i, ((F.blk scope).X i).fn n2 = true ∨ ((F.blk scope).X i).env.scope.names.lookup n2 = some .local := by first | exact fun _ => .inl rfl | exact fun _ => .inr rfl)
    (hx3 : ∀ i, Loc ((F.blk scope).X i).env.scope n3 := by first | exact fun _ => .inl rfl | exact fun _ => .inr rfl) (hf3 : ∀ i, ((F.blk scope).X i).fn n3 = true ∨ ((F.blk scope).X i).env.scope.names.lookup n3 = some .local := by first | exact fun _ => .inl rfl | exact fun _ => .inr rfl)
    (hfs : ∀ i x, foldedSetIterable iter (F.X i).env x = pure x := by intro _ _; rfl) : LD F S (.ListComp elt [⟨.Tuple [.Name n pn, .Name n2 pn2, .Name n3 pn3] kt pt, iter, [], 0⟩] scope pos) (ts.map g) S1 :=
  ld_lcA [(n, k), (n2, k2), (n3, k3)] inj g hi (fun i => by rw [eN, hsc i]; exact blkOk_by ok) (fun v hv => by
    simp only [List.map_cons, List.map_nil, List.mem_cons, List.mem_nil_iff, or_false] at hv
    rcases hv with rfl | rfl | rfl <;> assumption) (fun t ht => ⟨_, ((KeptS.refl.set (by simp)).set (by simp)).set (by simp), gt3 (gd_name (no_lt hno) hN hx hf (by simp)) (gd_name (by rw [List.length_set]; exact no_lt hno2) hN2 hx2 hf2 (by simp)) (gd_name (by rw [List.length_set, List.length_set]; exact no_lt hno3) hN3 hx3 hf3 (by simp)), step t ht⟩) hl hfs
theorem all_true : ∀ {ds : List PyData}, (∀ d ∈ ds, d = .bool true) → ds = (ds.map fun _ => true).map .bool
  | [], _ => rfl
  | d :: ds, h => by
    rw [List.map_cons, List.map_cons, ← all_true (ds := ds) fun d hd => h d (List.mem_cons_of_mem _ hd), h d List.mem_cons_self]
theorem all_bt {β : Type} {us : List β} : ∀ d ∈ us.map (fun _ => PyData.bool true), d = .bool true := by
  intro d h
  obtain ⟨_, _, rfl⟩ := List.mem_map.mp h
  rfl
theorem e_allT (T : Txt F.mg) (ha : LD F S e ds S1) (h : ∀ d ∈ ds, d = .bool true) (hg : ∀ i, Gl (F.X i) "all" := by intro _; rfl) (he : ∀ i, starEach [e] (F.X i).env = (false, eval e (F.X i).env) :: starEach [] (F.X i).env := by intro _; rfl) : ED F S (.Call (.Name "all" p) [e] [] pos) (.bool true) S1 := by
  rw [all_true h] at ha
  have := e_all (pos := pos) (p := p) T (ed_of_ld ha) hg he
  have e : (List.map (fun _ => true) ds).all id = true := by simp
  rw [e] at this
  exact this
theorem e_tupC (T : Txt F.mg) (ha : LD F S e ds S1) (hg : ∀ i, Gl (F.X i) "tuple" := by intro _; rfl) (he : ∀ i, starEach [e] (F.X i).env = (false, eval e (F.X i).env) :: starEach [] (F.X i).env := by intro _; rfl) : ED F S (.Call (.Name "tuple" p) [e] [] pos) (.tuple ds) S1 := e_tuple T (ed_of_ld ha) hg he
theorem e_sumC (T : Txt F.mg) {g : α → Int} (ha : LD F S e (ts.map fun t => .int (g t)) S1) (hg : ∀ i, Gl (F.X i) "sum" := by intro _; rfl) (he : ∀ i, starEach [e] (F.X i).env = (false, eval e (F.X i).env) :: starEach [] (F.X i).env := by intro _; rfl) : ED F S (.Call (.Name "sum" p) [e] [] pos) (.int (ts.map g).sum) S1 :=
  e_sum (ns := ts.map g) T (by rw [List.map_map]; exact ed_of_ld ha) hg he
end
section
variable {F : Fam} {S S1 S2 S3 S' : List Sl} {e a b o : Expr} {es rest : List Expr} {d x y z : PyData} {pos p : Pos} {P : Po} {s : Stmt} {ss A B : List Stmt}
/-- if c: raise ..: the way that is not gone -/
theorem bd_sk {c : Expr} {v : Bool} (hc : TD F S c v S1) (hv : v = false) (hn : BD F S1 ss P) : BD F S (.If c A [] pos :: ss) P := by subst hv; exact bd_ifRet hc (fun h => nomatch h) fun _ => hn
theorem bd_tk {c : Expr} {v : Bool} (hc : TD F S c v S1) (hv : v = true) (hn : BD F S1 A { P with nx := fun S' => BD F S' ss P }) : BD F S (.If c A B pos :: ss) P := by
  subst hv; exact bd_cons (M := fun S' => BD F S' ss P) (sd_if hc (fun _ => hn) (fun h => nomatch h)) fun _ h => h
theorem bd_el {c : Expr} {v : Bool} (hc : TD F S c v S1) (hv : v = false) (hn : BD F S1 B { P with nx := fun S' => BD F S' ss P }) : BD F S (.If c A B pos :: ss) P := by
  subst hv; exact bd_cons (M := fun S' => BD F S' ss P) (sd_if hc (fun h => nomatch h) (fun _ => hn)) fun _ h => h
end
/-- names with numbers that the text writes down, and the nought -/
structure Num (K : PySem.W.Frag) (mg : Str → Option Value) : Prop where
  kinds : ∃ u, mg "MOST_KINDS" = some u ∧ RelV (.int 12) u
  room : ∃ u, mg "MOST_ROOM" = some u ∧ RelV (.int 200) u
  nought : ∃ v u, mg "NOUGHT" = some u ∧ RelV v u ∧ ∀ H, Dp K H v (encF (0, 1))
section
variable {P : Program} {w : World} {K : PySem.W.Frag} {mg : Str → Option Value} {base : Heap} {F : Fam} {S : List Sl} {pos : Pos}
theorem e_kinds (n : Num F.K F.mg) (hg : ∀ i, Gl (F.X i) "MOST_KINDS" := by intro _; rfl) : ED F S (.Name "MOST_KINDS" pos) (.int 12) S := by
  obtain ⟨u, h, r⟩ := n.kinds
  exact ed_glob hg h r (fun _ => .int _)
theorem e_room (n : Num F.K F.mg) (hg : ∀ i, Gl (F.X i) "MOST_ROOM" := by intro _; rfl) : ED F S (.Name "MOST_ROOM" pos) (.int 200) S := by
  obtain ⟨u, h, r⟩ := n.room
  exact ed_glob hg h r (fun _ => .int _)
theorem e_nought (n : Num F.K F.mg) (hg : ∀ i, Gl (F.X i) "NOUGHT" := by intro _; rfl) : ED F S (.Name "NOUGHT" pos) (encF (0, 1)) S := by
  obtain ⟨v, u, h, r, hd⟩ := n.nought
  exact ed_glob hg h r hd
theorem rF {i n : Int} (h : n ≤ i) : RisFrom [.int i, .int n] (.bool true) := ⟨_, _, rfl, by simp [isFrom, h]⟩
/-! ### stores -/
def RisKind (ds : List PyData) (d : PyData) : Prop := ∃ k, OkK k ∧ ds = [encK k] ∧ d = .bool true
theorem h_is_kind (D : Def K mg "is_kind" s_is_kind ["thing"]) (T : Txt mg) (c1 : FnHas P w K mg base "is_from" 1 (PSp K RisFrom)) : FnHas P w K mg base "is_kind" 2 (PSp K RisKind) := by
  refine pure_of D sc_is_kind (by rintro _ _ ⟨k, _, rfl, _⟩; rfl) fun ds d ⟨⟨wt, v, m⟩, hk, e1, e2⟩ f cdv A outer s H E bx nd un hr => ?_
  subst e1; subst e2
  apply bd_sk
  · exact td_ww (wd_orF (td_not (t_v (e_isi_tuple T (vr 0)))) (wd_or1 (td_cmp (e_lenT T (vr 0)) ed_int o_neI)))
  · rfl
  apply bd_sk
  · exact td_ww (wd_orF (td_not (t_v (e_call c1 hr (a2 (ed_ixT (vr 0) ed_int rfl) ed_int) (rF hk.w1)))) (wd_or1 (td_not (t_v (e_call c1 hr (a2 (ed_ixT (vr 0) ed_int rfl) ed_int) (rF hk.v1))))))
  · rfl
  cases m with
  | none => (apply bd_ret; exact ed_orT (ed_cmp (ed_ixT (vr 0) ed_int rfl) ed_none o_is); rfl)
  | some m =>
    apply bd_ret
    · exact ed_orF (ed_cmp (ed_ixT (vr 0) ed_int rfl) ed_none o_is) (ed_one (e_call c1 hr (a2 (ed_ixT (vr 0) ed_int rfl) ed_int) (rF (hk.m m rfl).1)))
    · rfl

def Rtrue (C : List PyData → Prop) (ds : List PyData) (d : PyData) : Prop := C ds ∧ d = .bool true
def Rnone (C : List PyData → Prop) (ds : List PyData) (d : PyData) : Prop := C ds ∧ d = .none
def CSt (ds : List PyData) : Prop := ∃ st, OkS st ∧ ds = [encSt st]
def CNum (ds : List PyData) : Prop := ∃ i : Int, 0 ≤ i ∧ ds = [.int i]
def CAsk (ds : List PyData) : Prop := ∃ st, ∃ i : Int, OkS st ∧ 0 ≤ i ∧ ds = [encSt st, .int i]
theorem h_is_store (D : Def K mg "is_store" s_is_store ["thing"]) (T : Txt mg) (n : Num K mg) (c1 : FnHas P w K mg base "is_kind" 2 (PSp K RisKind)) : FnHas P w K mg base "is_store" 3 (PSp K (Rtrue CSt)) := by
  refine pure_of D sc_is_store (by rintro _ _ ⟨⟨k, _, rfl⟩, _⟩; rfl) fun ds d ⟨⟨st, hs, e1⟩, e2⟩ f cdv A outer s H E bx nd un hr => ?_
  subst e1; subst e2
  have h12 : decide (((st.map encK).length : Int) ≤ 12) = true := by have := hs.len; simp only [List.length_map]; exact decide_eq_true (by omega)
  apply bd_ret
  · exact ed_andT (e_isi_tuple T (vr 0)) (ed_andT (ed_cmp (e_lenT T (vr 0)) (e_kinds n) o_le) (ed_one (e_allT T (ld_lc1 sc_is_store 1 encK_inj (fun _ => .bool true) (id_tup (vr 0)) (fun k hk => e_call c1 hr (a1 (vr 1)) ⟨k, hs.all k hk, rfl, rfl⟩) (by have := hs.len; omega)) all_bt)) h12)
  · rfl
end
end Sk


set_option Elab.async false
set_option linter.all false
set_option maxRecDepth 100000
set_option maxHeartbeats 4000000
namespace Sk
open PySem L2
section
variable {P : Program} {w : World} {K : PySem.W.Frag} {mg : Str → Option Value} {base : Heap} {F : Fam} {S : List Sl} {pos : Pos}
theorem h_need_store (D : Def K mg "need_store" s_need_store ["store"]) (c1 : FnHas P w K mg base "is_store" 3 (PSp K (Rtrue CSt))) : FnHas P w K mg base "need_store" 4 (PSp K (Rnone CSt)) := by
  refine pure_of D sc_need_store (by rintro _ _ ⟨⟨k, _, rfl⟩, _⟩; rfl) fun ds d ⟨⟨st, hs, e1⟩, e2⟩ f cdv A outer s H E bx nd un hr => ?_
  subst e1; subst e2
  apply bd_sk
  · exact td_not (t_v (e_call c1 hr (a1 (vr 0)) ⟨⟨st, hs, rfl⟩, rfl⟩))
  · rfl
  exact bd_end rfl
theorem h_need_number (D : Def K mg "need_number" s_need_number ["number"]) (c1 : FnHas P w K mg base "is_from" 1 (PSp K RisFrom)) : FnHas P w K mg base "need_number" 2 (PSp K (Rnone CNum)) := by
  refine pure_of D sc_need_number (by rintro _ _ ⟨⟨k, _, rfl⟩, _⟩; rfl) fun ds d ⟨⟨i, hi, e1⟩, e2⟩ f cdv A outer s H E bx nd un hr => ?_
  subst e1; subst e2
  apply bd_sk
  · exact td_not (t_v (e_call c1 hr (a2 (vr 0) ed_int) (rF hi)))
  · rfl
  exact bd_end rfl
theorem h_need_asked (D : Def K mg "need_asked" s_need_asked ["store", "room"]) (c1 : FnHas P w K mg base "need_store" 4 (PSp K (Rnone CSt))) (c2 : FnHas P w K mg base "need_number" 2 (PSp K (Rnone CNum))) : FnHas P w K mg base "need_asked" 5 (PSp K (Rnone CAsk)) := by
  refine pure_of D sc_need_asked (by rintro _ _ ⟨⟨_, k, _, _, rfl⟩, _⟩; rfl) fun ds d ⟨⟨st, i, hs, hi, e1⟩, e2⟩ f cdv A outer s H E bx nd un hr => ?_
  subst e1; subst e2
  refine bd_drop (e_call c1 hr (a1 (vr 0)) ⟨⟨st, hs, rfl⟩, rfl⟩) ?_
  refine bd_drop (e_call c2 (hr.mono (by decide)) (a1 (vr 1)) ⟨⟨i, hi, rfl⟩, rfl⟩) ?_
  exact bd_end rfl
def CSmall (ds : List PyData) : Prop := ∃ i : Int, i ≤ 200 ∧ ds = [.int i]
theorem h_need_small (D : Def K mg "need_small" s_need_small ["room"]) (n : Num K mg) : FnHas P w K mg base "need_small" 1 (PSp K (Rnone CSmall)) := by
  refine pure_of D sc_need_small (by rintro _ _ ⟨⟨k, _, rfl⟩, _⟩; rfl) fun ds d ⟨⟨i, hi, e1⟩, e2⟩ f cdv A outer s H E bx nd un hr => ?_
  subst e1; subst e2
  apply bd_sk
  · exact td_cmp (vr 0) (e_room n) o_gt
  · exact decide_eq_false (by omega)
  exact bd_end rfl
/-! ### loads weighed -/
theorem zip_map {α β : Type} (f : α → PyData) (g : β → PyData) : ∀ (xs : List α) (ys : List β), zipD (xs.map f) (ys.map g) = (xs.zip ys).map fun t => .tuple [f t.1, g t.2]
  | [], _ => by simp [zipD]
  | _ :: _, [] => by simp [zipD]
  | x :: xs, y :: ys => by simp [zipD, zip_map f g xs ys]
theorem i_zip {α β : Type} {e1 e2 : Expr} {q tpos : Pos} {elts : List Expr} {kk : Nat} {S1 : List Sl} (T : Txt F.mg) (b1 b2 : Bool) {f : α → PyData} {g : β → PyData} {xs : List α} {ys : List β} (ha : AD F S [e1, e2] [seqd b1 (xs.map f), seqd b2 (ys.map g)] S1) (hg : ∀ i, Gl (F.X i) "zip" := by intro _; rfl)
    (hs : ∀ i, starEach [e1, e2] (F.X i).env = (false, eval e1 (F.X i).env) :: starEach [e2] (F.X i).env := by intro _; rfl) (hpl : ∀ i, (backTo pos (starEach [e2] (F.X i).env)).any (·.1) = false := by intro _; rfl) :
    ID F S (.Tuple elts kk tpos) (.Call (.Name "zip" q) [e1, e2] [] pos) ((xs.zip ys).map fun t => .tuple [f t.1, g t.2]) S1 := by
  rw [← zip_map]
  exact id_zip2 ha hg T.zip hs hpl
theorem weight_zip : ∀ (st : List Kd) (l : List Int), ((st.zip l).map fun t => t.1.1 * t.2).sum = weightL st l
  | [], l => by cases l <;> rfl
  | _ :: _, [] => rfl
  | k :: st, t :: l => by simp only [List.zip_cons_cons, List.map_cons, List.sum_cons, weight_zip st l, weightL]
theorem worth_zip : ∀ (st : List Kd) (l : List Int), ((st.zip l).map fun t => t.1.2.1 * t.2).sum = worthL st l
  | [], l => by cases l <;> rfl
  | _ :: _, [] => rfl
  | k :: st, t :: l => by simp only [List.zip_cons_cons, List.map_cons, List.sum_cons, worth_zip st l, worthL]
theorem pair_inj {α β : Type} {f : α → PyData} {g : β → PyData} (h1 : ∀ a b, f a = f b → a = b) (h2 : ∀ a b, g a = g b → a = b) : ∀ a b : α × β, (PyData.tuple [f a.1, g a.2]) = .tuple [f b.1, g b.2] → a = b := fun a b h => by
  simp only [PyData.tuple.injEq, List.cons.injEq, and_true] at h
  exact Prod.ext (h1 _ _ h.1) (h2 _ _ h.2)
def Rweigh (g : List Kd → List Int → Int) (ds : List PyData) (d : PyData) : Prop := ∃ st l, OkS st ∧ ds = [encSt st, encIs l] ∧ d = .int (g st l)
theorem k_small {k : Kd} (h : OkK k) {j : Int} : CMul k.1 j ∧ CMul k.2.1 j := by
  have := h.w1; have := h.w2; have := h.v1; have := h.v2
  exact ⟨.inl ⟨by omega, by omega⟩, .inl ⟨by omega, by omega⟩⟩
theorem zip_fst {α β : Type} {a : α} {b : β} : ∀ {xs : List α} {ys : List β}, (a, b) ∈ xs.zip ys → a ∈ xs := fun h => (List.of_mem_zip h).1
theorem h_weight_of (D : Def K mg "weight_of" s_weight_of ["store", "load"]) (T : Txt mg) : FnHas P w K mg base "weight_of" 1 (PSp K (Rweigh weightL)) := by
  refine pure_of D sc_weight_of (by rintro _ _ ⟨_, _, _, rfl, _⟩; rfl) fun ds d ⟨st, l, hs, e1, e2⟩ f cdv A outer s H E bx nd un hr => ?_
  subst e1; subst e2
  rw [← weight_zip]
  apply bd_ret
  · refine e_sumC T (ld_lc2 sc_weight_of 2 3 (x := fun t => encK t.1) (y := fun t => .int t.2) (pair_inj encK_inj int_inj) (fun t => .int (t.1.1 * t.2)) (i_zip T false false (a2 (vr 0) (vr 1))) (fun t ht => ed_bin (ed_ixT (vr 2) ed_int rfl) (vr 3) (o_mul (k_small (hs.all _ (zip_fst ht))).1)) ?_)
    have := hs.len
    rw [List.length_zip]; omega
  · rfl
theorem h_worth_of (D : Def K mg "worth_of" s_worth_of ["store", "load"]) (T : Txt mg) : FnHas P w K mg base "worth_of" 1 (PSp K (Rweigh worthL)) := by
  refine pure_of D sc_worth_of (by rintro _ _ ⟨_, _, _, rfl, _⟩; rfl) fun ds d ⟨st, l, hs, e1, e2⟩ f cdv A outer s H E bx nd un hr => ?_
  subst e1; subst e2
  rw [← worth_zip]
  apply bd_ret
  · refine e_sumC T (ld_lc2 sc_worth_of 2 3 (x := fun t => encK t.1) (y := fun t => .int t.2) (pair_inj encK_inj int_inj) (fun t => .int (t.1.2.1 * t.2)) (i_zip T false false (a2 (vr 0) (vr 1))) (fun t ht => ed_bin (ed_ixT (vr 2) ed_int rfl) (vr 3) (o_mul (k_small (hs.all _ (zip_fst ht))).2)) ?_)
    have := hs.len
    rw [List.length_zip]; omega
  · rfl
/-! ### most_in, bounded_by -/
def RmostIn (ds : List PyData) (d : PyData) : Prop := ∃ k, ∃ r : Int, OkK k ∧ 0 ≤ r ∧ ds = [encK k, .int r] ∧ d = .int (mostIn k r)
theorem k_div {k : Kd} (h : OkK k) {r : Int} : CDiv r k.1 := by
  have := h.w1; have := h.w2
  exact ⟨by omega, by omega⟩
theorem h_most_in (D : Def K mg "most_in" s_most_in ["kind", "room"]) (T : Txt mg) : FnHas P w K mg base "most_in" 1 (PSp K RmostIn) := by
  refine pure_of D sc_most_in (by rintro _ _ ⟨_, _, _, _, rfl, _⟩; rfl) fun ds d ⟨⟨wt, v, m⟩, r, hk, h0, e1, e2⟩ f cdv A outer s H E bx nd un hr => ?_
  subst e1; subst e2
  refine bd_set (k := 2) (ed_bin (vr 1) (ed_ixT (vr 0) ed_int rfl) (o_fdiv (k_div hk))) ?_
  cases m with
  | none =>
    apply bd_tk
    · exact td_cmp (ed_ixT (vr 0) ed_int rfl) ed_none o_is
    · rfl
    · apply bd_ret
      · exact vr 2
      · rfl
  | some m =>
    apply bd_sk
    · exact td_cmp (ed_ixT (vr 0) ed_int rfl) ed_none o_is
    · rfl
    · apply bd_ret
      · exact e_min T (a2 (vr 2) (ed_ixT (vr 0) ed_int rfl))
      · rfl
def bnd (st : List Kd) (r : Int) : List Kd := st.map fun k => (k.1, k.2.1, some (mostIn k r))
def Rbounded (ds : List PyData) (d : PyData) : Prop := ∃ st, ∃ r : Int, OkS st ∧ 0 ≤ r ∧ ds = [encSt st, .int r] ∧ d = encSt (bnd st r)
theorem h_bounded_by (D : Def K mg "bounded_by" s_bounded_by ["store", "room"]) (T : Txt mg) (c1 : FnHas P w K mg base "most_in" 1 (PSp K RmostIn)) : FnHas P w K mg base "bounded_by" 2 (PSp K Rbounded) := by
  refine pure_of D sc_bounded_by (by rintro _ _ ⟨_, _, _, _, rfl, _⟩; rfl) fun ds d ⟨st, r, hs, h0, e1, e2⟩ f cdv A outer s H E bx nd un hr => ?_
  subst e1; subst e2
  apply bd_ret
  · exact e_tupC T (ld_lc1 sc_bounded_by 2 encK_inj (fun k => encK (k.1, k.2.1, some (mostIn k r))) (id_tup (vr 0)) (fun k hk => ed_tup (a3 (ed_ixT (vr 2) ed_int rfl) (ed_ixT (vr 2) ed_int rfl) (e_call c1 hr (a2 (vr 2) (vr 1)) ⟨k, r, hs.all k hk, h0, rfl, rfl⟩))) (by have := hs.len; omega))
  · unfold encSt bnd; rw [List.map_map]; rfl
end
end Sk


set_option Elab.async false
set_option linter.all false
set_option maxRecDepth 100000
set_option maxHeartbeats 4000000
namespace Sk
open PySem L2
section
variable {P : Program} {w : World} {K : PySem.W.Frag} {mg : Str → Option Value} {base : Heap} {F : Fam} {S S1 S2 : List Sl} {pos : Pos} {s : Stmt} {Q : Po} {a b e : Expr} {ds : List PyData} {d : PyData} {i : Int}
theorem bd_1 (h : SD F S s Q) : BD F S [s] Q := bd_cons (M := Q.nx) h fun _ h => bd_nil h
theorem cm_step {a b : Int} (ha : 0 ≤ a) (hb : 0 < b) : cm b (a % b) = cm a b := by
  unfold cm
  have e : (a % b).toNat = a.toNat % b.toNat := by
    have := Int.toNat_emod ha (Int.le_of_lt hb)
    exact this
  rw [e, Nat.gcd_comm, ← Nat.gcd_rec, Nat.gcd_comm]
theorem cm_zero {a : Int} (ha : 0 ≤ a) : cm a 0 = a := by
  unfold cm
  rw [show (0 : Int).toNat = 0 from rfl, Nat.gcd_zero_right]
  omega
def Rcommon (ds : List PyData) (d : PyData) : Prop := ∃ a b : Int, 0 ≤ a ∧ 0 ≤ b ∧ ds = [.int a, .int b] ∧ d = .int (cm a b)
theorem h_common (D : Def K mg "common" s_common ["one", "other"]) : FnHas P w K mg base "common" 1 (PSp K Rcommon) := by
  refine pure_of D sc_common (by rintro _ _ ⟨_, _, _, _, rfl, _⟩; rfl) fun ds d ⟨a, b, ha, hb, e1, e2⟩ f cdv A outer s H E bx nd un hr => ?_
  subst e1; subst e2
  refine bd_cons (M := fun S' => S' = [.dat (.int (cm a b)), .dat (.int 0)]) (sd_while (n0 := b.toNat) (Inv := fun n S' => ∃ x y : Int, 0 ≤ x ∧ 0 ≤ y ∧ cm x y = cm a b ∧ n = y.toNat ∧ S' = [.dat (.int x), .dat (.int y)]) ⟨a, b, ha, hb, rfl, rfl, rfl⟩ ?_) ?_
  · rintro n S' ⟨x, y, hx, hy, hc, hn, rfl⟩
    refine ⟨_, _, td_cmp (vr 1) ed_int o_gt, fun h => ?_, fun h => ?_⟩
    · have h := of_decide_eq_true h
      have hm := Int.emod_nonneg x (by omega : y ≠ 0)
      have hm2 := Int.emod_lt_of_pos x h
      exact bd_1 (sd_par (k1 := 0) (k2 := 1) (a2 (vr 1) (ed_bin (vr 0) (vr 1) (o_mod h))) ⟨(x % y).toNat, by omega, y, x % y, hy, hm, (cm_step hx h).trans hc, rfl, rfl⟩)
    · have h := of_decide_eq_false h
      have : y = 0 := by omega
      subst this
      rw [cm_zero hx] at hc
      rw [hc]
  · rintro S' rfl
    apply bd_ret
    · exact vr 0
    · rfl
def Rmade (ds : List PyData) (d : PyData) : Prop := ∃ a b : Int, 0 ≤ a ∧ 0 < b ∧ b < 1073741824 ∧ ds = [.int a, .int b] ∧ d = encF (made a b)
theorem h_made (D : Def K mg "made" s_made ["top", "bottom"]) (c1 : FnHas P w K mg base "common" 1 (PSp K Rcommon)) : FnHas P w K mg base "made" 2 (PSp K Rmade) := by
  refine pure_of D sc_made (by rintro _ _ ⟨_, _, _, _, _, rfl, _⟩; rfl) fun ds d ⟨a, b, ha, hb, hb2, e1, e2⟩ f cdv A outer s H E bx nd un hr => ?_
  subst e1; subst e2
  have h1 := cm_pos (t := a) hb
  have h2 : cm a b ≤ b := Int.le_of_dvd hb (cm_dvd ha (Int.le_of_lt hb)).2
  have hc : ∀ z : Int, CDiv z (cm a b) := fun z => ⟨h1, by omega⟩
  refine bd_set (k := 2) (e_call c1 hr (a2 (vr 0) (vr 1)) ⟨a, b, ha, Int.le_of_lt hb, rfl, rfl⟩) ?_
  apply bd_ret
  · exact ed_tup (a2 (ed_bin (vr 0) (vr 2) (o_fdiv (hc _))) (ed_bin (vr 1) (vr 2) (o_fdiv (hc _))))
  · rfl
def Big : Int := 1152921504606846976
structure OkF (a b : Fr) : Prop where
  a0 : 0 ≤ a.1
  a1 : a.1 ≤ Big
  a2 : 0 < a.2
  b0 : 0 ≤ b.1
  b1 : b.1 ≤ Big
  b2 : 0 < b.2
  ab : a.2 * b.2 < 1073741824
def Rplus (ds : List PyData) (d : PyData) : Prop := ∃ a b : Fr, OkF a b ∧ ds = [encF a, encF b] ∧ d = encF (plusF a b)
theorem big_mul {i j : Int} (h0 : 0 ≤ i) (h1 : i ≤ Big) : CMul i j := by unfold Big at h1; exact .inl ⟨by omega, by omega⟩
theorem h_plus (D : Def K mg "plus" s_plus ["one", "other"]) (c1 : FnHas P w K mg base "made" 2 (PSp K Rmade)) : FnHas P w K mg base "plus" 3 (PSp K Rplus) := by
  refine pure_of D sc_plus (by rintro _ _ ⟨_, _, _, rfl, _⟩; rfl) fun ds d ⟨⟨a, a'⟩, ⟨b, b'⟩, h, e1, e2⟩ f cdv A outer s H E bx nd un hr => ?_
  subst e1; subst e2
  have a0 := h.a0; have a1' := h.a1; have ap := h.a2; have b0 := h.b0; have b1' := h.b1; have bp := h.b2; have ab := h.ab
  simp only at a0 a1' ap b0 b1' bp ab
  have n1 : 0 ≤ a * b' := Int.mul_nonneg a0 (Int.le_of_lt bp)
  have n2 : 0 ≤ b * a' := Int.mul_nonneg b0 (Int.le_of_lt ap)
  have n3 : 0 < a' * b' := Int.mul_pos ap bp
  have n4 : a' * 1 ≤ a' * b' := Int.mul_le_mul_of_nonneg_left bp (Int.le_of_lt ap)
  rw [Int.mul_one] at n4
  apply bd_ret
  · exact e_call c1 hr (a2 (ed_bin (ed_bin (ed_ixT (vr 0) ed_int rfl) (ed_ixT (vr 1) ed_int rfl) (o_mul (big_mul a0 a1'))) (ed_bin (ed_ixT (vr 1) ed_int rfl) (ed_ixT (vr 0) ed_int rfl) (o_mul (big_mul b0 b1'))) o_add) (ed_bin (ed_ixT (vr 0) ed_int rfl) (ed_ixT (vr 1) ed_int rfl) (o_mul (.inl ⟨by omega, by omega⟩)))) ⟨_, _, Int.add_nonneg n1 n2, n3, ab, rfl, rfl⟩
  · rfl
end
end Sk


set_option Elab.async false
set_option linter.all false
set_option maxRecDepth 100000
set_option maxHeartbeats 4000000
namespace Sk
open PySem L2
section
variable {P : Program} {w : World} {K : PySem.W.Frag} {mg : Str → Option Value} {base : Heap} {F : Fam} {S S1 S2 : List Sl} {pos : Pos} {s : Stmt} {Q : Po} {a b e : Expr} {ds : List PyData} {d : PyData} {i : Int}
theorem ed_neg {n : Int} {j : Nat} {p : Pos} : ED F S (.UnaryOp .USub (.Constant (.int n) j p) pos) (.int (-n)) S := .mk (t := tUn (rU fun i => .int (-i)) (tC (.int n))) (fun _ => pe_un un_neg pe_int) fun σ H G o Q k => ⟨n, rfl, k _ H G Stp.refl o (.int _)⟩
/-! ### rows -/
theorem rgD_some {n k : Nat} {x : PyData} (h : (rgD n)[k]? = some x) : k < n ∧ x = .int k := by
  have hk : k < n := by
    have := (List.getElem?_eq_some_iff.mp h).1
    rw [rgD_length] at this; exact this
  rw [rgD_get hk] at h
  exact ⟨hk, (Option.some.inj h).symm⟩
theorem ed_ixS {bl : Bool} (ha : ED F S a (seqd bl ds) S1) (hb : ED F S1 b (.int i) S2) (h : atI ds i = some d) (hs : PlainIx b := by exact fun _ _ => rfl) : ED F S (.Subscript a b pos) d S2 := by
  cases bl with
  | true => exact ed_ixL ha hb h hs
  | false => exact ed_ixT ha hb h hs
theorem atI_nn {α : Type} {xs : List α} {i : Int} (h0 : 0 ≤ i) (h1 : i < xs.length) : atI xs i = xs[i.toNat]? := by
  unfold atI ixN
  rw [if_pos h0, if_pos h1]
  rfl
theorem atI_last {α : Type} {xs : List α} (h : xs ≠ []) : atI xs (-1) = xs.getLast? := by
  have hl : 0 < xs.length := List.length_pos_iff.mpr h
  unfold atI ixN
  rw [if_neg (by decide), if_pos (by omega)]
  show xs[(-1 + (xs.length : Int)).toNat]? = _
  rw [List.getLast?_eq_getElem?]
  congr 1
  omega
theorem atI_row {row : List Int} {i : Int} (h0 : 0 ≤ i) (h1 : i < row.length) : atI (row.map PyData.int) i = some (.int (rowAt row i)) := by
  rw [atI_nn h0 (by rw [List.length_map]; exact h1), List.getElem?_map]
  unfold rowAt
  rw [List.getD_eq_getElem?_getD]
  have : i.toNat < row.length := by omega
  rw [List.getElem?_eq_getElem this]
  rfl
abbrev encR (row : List Int) : List PyData := row.map .int
theorem nat_inj : ∀ a b : Nat, (PyData.int a) = .int b → a = b := fun a b h => by
  have := int_inj _ _ h
  omega
def RrowWith (ds : List PyData) (d : PyData) : Prop := ∃ (bl : Bool) (row : List Int) (wt v m room : Int), OkK (wt, v, none) ∧ 0 ≤ m ∧ 0 ≤ room ∧ room ≤ 200 ∧ (row.length : Int) = room + 1 ∧ ds = [seqd bl (encR row), encK (wt, v, some m), .int room] ∧ d = .list (encR (rowWith row wt v m room))
def cells (row : List Int) (wt v m : Int) (k : Nat) : List PyData := (List.range k).map fun (h : Nat) => .int (cell row wt v m h)
theorem cells_succ {row : List Int} {wt v m : Int} {k : Nat} : cells row wt v m (k + 1) = cells row wt v m k ++ [.int (cell row wt v m k)] := by
  unfold cells
  rw [List.range_succ, List.map_append]; rfl
theorem cells_all {row : List Int} {wt v m room : Int} : cells row wt v m (room + 1).toNat = encR (rowWith row wt v m room) := by
  unfold cells rowWith encR
  rw [List.map_map]; rfl
theorem h_row_with (D : Def K mg "row_with" s_row_with ["row", "kind", "room"]) (T : Txt mg) : FnHas P w K mg base "row_with" 1 (PSp K RrowWith) := by
  refine pure_of D sc_row_with (by rintro _ _ ⟨_, _, _, _, _, _, _, _, _, _, _, rfl, _⟩; rfl) fun ds d ⟨bl, row, wt, v, m, room, hk, hm, h0, h1, hl, e1, e2⟩ f cdv A outer s H E bx nd un hr => ?_
  subst e1; subst e2
  have w1 : 1 ≤ wt := hk.w1
  have w2 : wt ≤ 25 := hk.w2
  have v1 : 0 ≤ v := hk.v1
  have v2 : v ≤ 39 := hk.v2
  have cw : ∀ z : Int, CMul z wt := fun z => .inr ⟨by omega, by omega⟩
  have cv : ∀ z : Int, CMul z v := fun z => .inr ⟨by omega, by omega⟩
  refine bd_own (k := 3) (ld_lst ad_nil) ?_
  refine bd_cons (M := fun S' => ∃ x4 x5, S' = [.dat (seqd bl (encR row)), .dat (encK (wt, v, some m)), .dat (.int room), .own (cells row wt v m (room + 1).toNat), x4, x5, .no]) (sd_for (Inv := fun k S' => ∃ x4 x5, S' = [.dat (seqd bl (encR row)), .dat (encK (wt, v, some m)), .dat (.int room), .own (cells row wt v m k), x4, x5, .no]) (i_rng T (ed_bin (vr 2) ed_int o_add) (by omega) (by omega)) ⟨.no, .no, rfl⟩ (fun k x S' hx ⟨x4, x5, e⟩ => ?_) (fun S' h => by obtain ⟨x4, x5, e⟩ := h; exact ⟨x4, x5, by rw [e, rgD_length]⟩)) (fun S' ⟨x4, x5, e⟩ => ?_)
  · subst e
    obtain ⟨hk2, rfl⟩ := rgD_some hx
    have hd0 : 0 ≤ (k : Int) / wt := Int.ediv_nonneg (by omega) (by omega)
    have hmm : 0 ≤ min m ((k : Int) / wt) := by rw [Int.min_def]; split <;> omega
    have hmd : (k : Int) / wt * wt ≤ k := Int.ediv_mul_le _ (by omega)
    have hdk : (k : Int) / wt ≤ k := Int.ediv_le_self _ (by omega)
    have hmk : min m ((k : Int) / wt) ≤ (k : Int) / wt := Int.min_le_right _ _
    refine ⟨_, gn 4, ?_⟩
    refine bd_set (k := 5) (e_min T (a2 (ed_ixT (vr 1) ed_int rfl) (ed_bin (vr 4) (ed_ixT (vr 1) ed_int rfl) (o_fdiv ⟨w1, by omega⟩)))) ?_
    refine bd_1 (sd_app (k := 3) (d := .int (cell row wt v m k)) rfl (e_maxL (ns := cellL row wt v (min m ((k : Int) / wt)) k) T (ED.weak (ed_of_ld (ld_lc1 sc_row_with 6 (enc := fun (t : Nat) => .int (t : Int)) nat_inj (fun (t : Nat) => .int (rowAt row ((k : Int) - t * wt) + t * v)) (i_rng T (ed_bin (vr 5) ed_int o_add) (by omega) (by omega)) (fun t ht => ?_) ?_)) ?_) (maxL_mem (cellL_ne hmm)) (fun y hy => maxL_ge hy)) rfl ?_ ⟨_, _, by rw [cells_succ]; rfl⟩)
    · have ht := List.mem_range.mp ht
      have ht2 : (t : Int) ≤ (k : Int) / wt := by omega
      have ht3 : (t : Int) * wt ≤ k := Int.le_trans (Int.mul_le_mul_of_nonneg_right ht2 (by omega)) hmd
      have ht4 : 0 ≤ (t : Int) * wt := Int.mul_nonneg (by omega) (by omega)
      exact ed_bin (ed_ixS (bl := bl) (vr 0) (ed_bin (vr 4) (ed_bin (vr 6) (ed_ixT (vr 1) ed_int rfl) (o_mul (cw _))) o_sub) (atI_row (by omega) (by omega))) (ed_bin (vr 6) (ed_ixT (vr 1) ed_int rfl) (o_mul (cv _))) o_add
    · rw [List.length_range]; omega
    · unfold cellL
      rw [List.map_map]; rfl
    · unfold cells
      rw [List.length_map, List.length_range]; omega
  · subst e
    rw [cells_all]
    apply bd_ret
    · exact fz 3
    · rfl
end
end Sk


set_option Elab.async false
set_option linter.all false
set_option maxRecDepth 100000
set_option maxHeartbeats 4000000
namespace Sk
open PySem L2
section
variable {P : Program} {w : World} {K : PySem.W.Frag} {mg : Str → Option Value} {base : Heap} {F : Fam} {S S1 S2 : List Sl} {pos : Pos} {s : Stmt} {Q : Po} {a b e : Expr} {ds : List PyData} {d : PyData} {i : Int}
/-- the row of the first k of some kinds, the last one last put to it -/
def rowI (room : Int) (L : List Kd) (k : Nat) : List Int := rowsOf room (L.take k).reverse
def rowsD (room : Int) (L : List Kd) (n : Nat) : List PyData := (List.range n).map fun k => .list (encR (rowI room L k))
theorem rowsD_succ {room : Int} {L : List Kd} {n : Nat} : rowsD room L (n + 1) = rowsD room L n ++ [.list (encR (rowI room L n))] := by
  unfold rowsD
  rw [List.range_succ, List.map_append]; rfl
theorem rowsD_length {room : Int} {L : List Kd} {n : Nat} : (rowsD room L n).length = n := by simp [rowsD]
theorem rowsD_last {room : Int} {L : List Kd} {n : Nat} : atI (rowsD room L (n + 1)) (-1) = some (.list (encR (rowI room L n))) := by
  rw [atI_last (by rw [rowsD_succ]; simp), rowsD_succ]
  simp
theorem rowsD_at {room : Int} {L : List Kd} {n : Nat} {i : Int} (h0 : 0 ≤ i) (h1 : i < n) : atI (rowsD room L n) i = some (.list (encR (rowI room L i.toNat))) := by
  rw [atI_nn h0 (by rw [rowsD_length]; exact h1)]
  unfold rowsD
  rw [List.getElem?_map, List.getElem?_range (by omega)]
  rfl
theorem rowI_succ {room : Int} {L : List Kd} {k : Nat} {q : Kd} (h : L[k]? = some q) : rowI room L (k + 1) = rowWith (rowI room L k) q.1 q.2.1 (mostIn q room) room := by
  unfold rowI
  have e : L.take (k + 1) = L.take k ++ [q] := by rw [List.take_add_one, h]; rfl
  rw [e, List.reverse_append]
  rfl
theorem rowI_zero {room : Int} {L : List Kd} : encR (rowI room L 0) = (List.replicate (room + 1).toNat [PyData.int 0]).flatten := by
  unfold rowI encR
  simp only [List.take_zero, List.reverse_nil, rowsOf, List.map_replicate]
  induction (room + 1).toNat with
  | zero => rfl
  | succ n ih => rw [List.replicate_succ, List.replicate_succ, List.flatten_cons, ← ih]; rfl
theorem rowsOf_length {room : Int} : ∀ st : List Kd, (rowsOf room st).length = (room + 1).toNat
  | [] => by simp [rowsOf]
  | k :: st => by rw [rowsOf, rowWith_length]
theorem rowI_length {room : Int} {L : List Kd} {k : Nat} : (rowI room L k).length = (room + 1).toNat := rowsOf_length _
def CRoom (ds : List PyData) : Prop := ∃ st, ∃ r : Int, OkS st ∧ 0 ≤ r ∧ r ≤ 200 ∧ ds = [encSt st, .int r]
def Rrows (ds : List PyData) (d : PyData) : Prop := ∃ st, ∃ r : Int, OkS st ∧ 0 ≤ r ∧ r ≤ 200 ∧ ds = [encSt st, .int r] ∧ d = .list (rowsD r st.reverse (st.length + 1))
theorem bnd_get {st : List Kd} {r : Int} {k : Nat} {x : PyData} (h : ((bnd st r).map encK)[k]? = some x) : ∃ q, st[k]? = some q ∧ x = encK (q.1, q.2.1, some (mostIn q r)) := by
  unfold bnd at h
  rw [List.map_map, List.getElem?_map] at h
  cases e : st[k]? with
  | none => rw [e] at h; cases h
  | some q => rw [e] at h; exact ⟨q, rfl, (Option.some.inj h).symm⟩
theorem bnd_length {st : List Kd} {r : Int} : (bnd st r).length = st.length := by simp [bnd]
theorem okw {k : Kd} (h : OkK k) : OkK (k.1, k.2.1, none) := ⟨h.w1, h.w2, h.v1, h.v2, fun m e => nomatch e⟩
theorem h_rows_of (D : Def K mg "rows_of" s_rows_of ["store", "room"]) (T : Txt mg) (c1 : FnHas P w K mg base "bounded_by" 2 (PSp K Rbounded)) (c2 : FnHas P w K mg base "row_with" 1 (PSp K RrowWith)) : FnHas P w K mg base "rows_of" 3 (PSp K Rrows) := by
  refine pure_of D sc_rows_of (by rintro _ _ ⟨_, _, _, _, _, rfl, _⟩; rfl) fun ds d ⟨st, r, hs, h0, h1, e1, e2⟩ f cdv A outer s H E bx nd un hr => ?_
  subst e1; subst e2
  have hb : (bnd st r).reverse = bnd st.reverse r := by unfold bnd; rw [List.map_reverse]
  have hx : ((bnd st r).map encK).reverse = (bnd st.reverse r).map encK := by rw [← hb, List.map_reverse]
  have hlen := hs.len
  refine bd_own (k := 2) (ds := rowsD r st.reverse 1) (ld_lst (ds := rowsD r st.reverse 1) (a1 (ED.weak (ed_of_ld (ld_rep (i := r + 1) (ld_lst (a1 ed_int)) (ed_bin (vr 1) ed_int o_add) (by omega) (by omega) (by simp; omega))) (by rw [← rowI_zero (L := st.reverse)]))) (by rw [rowsD_length]; omega)) ?_
  refine bd_cons (M := fun S' => ∃ x3, S' = [.dat (encSt st), .dat (.int r), .own (rowsD r st.reverse (st.length + 1)), x3]) (sd_for (xs := (bnd st.reverse r).map encK) (Inv := fun k S' => ∃ x3, S' = [.dat (encSt st), .dat (.int r), .own (rowsD r st.reverse (k + 1)), x3]) (by rw [← hx]; exact id_tup (ed_revT (e_call c1 hr (a2 (vr 0) (vr 1)) ⟨st, r, hs, h0, rfl, rfl⟩))) ⟨.no, rfl⟩ (fun k x S' hx h => ?_) (fun S' h => by obtain ⟨x3, e⟩ := h; exact ⟨x3, by rw [e, List.length_map, bnd_length, List.length_reverse]⟩)) (fun S' h => ?_)
  · obtain ⟨x3, e⟩ := h
    subst e
    obtain ⟨q, hq, rfl⟩ := bnd_get hx
    have hq1 : OkK q := hs.all q (List.mem_reverse.mp (List.mem_of_getElem? hq))
    have hk : k < st.length := by have := (List.getElem?_eq_some_iff.mp hq).1; rw [List.length_reverse] at this; exact this
    refine ⟨_, gn 3, ?_⟩
    exact bd_1 (sd_app (k := 2) (d := .list (encR (rowI r st.reverse (k + 1)))) rfl (e_call c2 (hr.mono (by decide)) (a3 (ed_ixO (k := 2) rfl rfl (by first | exact fun _ => Or.inl rfl | exact fun _ => Or.inr (Or.inl rfl)) ed_neg rfl rowsD_last) (vr 3) (vr 1)) ⟨true, rowI r st.reverse k, q.1, q.2.1, mostIn q r, r, okw hq1, mostIn_nn hq1 h0, h0, h1, by rw [rowI_length]; omega, rfl, by rw [rowI_succ hq]⟩) rfl (by rw [rowsD_length]; omega) ⟨_, by rw [rowsD_succ (n := k + 1)]; rfl⟩)
  · obtain ⟨x3, e⟩ := h
    subst e
    apply bd_ret
    · exact fz 2
    · rfl
def Ctab : List PyData → Prop := CRoom
theorem h_need_table (D : Def K mg "need_table" s_need_table ["store", "room"]) (c1 : FnHas P w K mg base "need_asked" 5 (PSp K (Rnone CAsk))) (c2 : FnHas P w K mg base "need_small" 1 (PSp K (Rnone CSmall))) : FnHas P w K mg base "need_table" 6 (PSp K (Rnone CRoom)) := by
  refine pure_of D sc_need_table (by rintro _ _ ⟨⟨_, k, _, _, _, rfl⟩, _⟩; rfl) fun ds d ⟨⟨st, i, hs, h0, h1, e1⟩, e2⟩ f cdv A outer s H E bx nd un hr => ?_
  subst e1; subst e2
  refine bd_drop (e_call c1 hr (a2 (vr 0) (vr 1)) ⟨⟨st, i, hs, h0, rfl⟩, rfl⟩) ?_
  refine bd_drop (e_call c2 (hr.mono (by decide)) (a1 (vr 1)) ⟨⟨i, h1, rfl⟩, rfl⟩) ?_
  exact bd_end rfl
def Rbest (ds : List PyData) (d : PyData) : Prop := ∃ st, ∃ r : Int, OkS st ∧ 0 ≤ r ∧ r ≤ 200 ∧ ds = [encSt st, .int r] ∧ d = .int (bestW st r)
theorem h_best_worth (D : Def K mg "best_worth" s_best_worth ["store", "room"]) (c1 : FnHas P w K mg base "need_table" 6 (PSp K (Rnone CRoom))) (c2 : FnHas P w K mg base "rows_of" 3 (PSp K Rrows)) : FnHas P w K mg base "best_worth" 7 (PSp K Rbest) := by
  refine pure_of D sc_best_worth (by rintro _ _ ⟨_, _, _, _, _, rfl, _⟩; rfl) fun ds d ⟨st, r, hs, h0, h1, e1, e2⟩ f cdv A outer s H E bx nd un hr => ?_
  subst e1; subst e2
  refine bd_drop (e_call c1 hr (a2 (vr 0) (vr 1)) ⟨⟨st, r, hs, h0, h1, rfl⟩, rfl⟩) ?_
  have e : rowI r st.reverse st.length = rowsOf r st := by
    unfold rowI
    rw [List.take_of_length_le (by simp), List.reverse_reverse]
  apply bd_ret
  · exact ed_ixL (ed_ixL (e_call c2 (hr.mono (by decide)) (a2 (vr 0) (vr 1)) ⟨st, r, hs, h0, h1, rfl, rfl⟩) ed_neg rowsD_last) (vr 1) (atI_row h0 (by rw [rowI_length]; omega))
  · rw [e]; rfl
end
end Sk


set_option Elab.async false
set_option linter.all false
set_option maxRecDepth 100000
set_option maxHeartbeats 4000000
namespace Sk
open PySem L2
section
variable {P : Program} {w : World} {K : PySem.W.Frag} {mg : Str → Option Value} {base : Heap} {F : Fam} {S S1 S2 : List Sl} {pos : Pos} {s : Stmt} {Q : Po} {a b e : Expr} {ds : List PyData} {d : PyData} {i : Int}
theorem enumD_some {xs : List PyData} {k : Nat} {x : PyData} (h : (enumD 0 xs)[k]? = some x) : ∃ y, xs[k]? = some y ∧ x = .tuple [.int k, y] := by
  have hk : k < xs.length := by have := (List.getElem?_eq_some_iff.mp h).1; rw [enumD_length] at this; exact this
  have e := List.getElem?_eq_getElem hk
  have := enumD_get (n := 0) e
  rw [Nat.zero_add, h] at this
  exact ⟨_, e, Option.some.inj this⟩
theorem atI_hd {t : Int} {ts : List Int} : atI ((t :: ts).map PyData.int) 0 = some (.int t) := atI_row (row := t :: ts) (i := 0) (by decide) (by simp only [List.length_cons]; omega)
theorem rowI_rev {r : Int} {st : List Kd} {k : Nat} (h : k ≤ st.length) : rowI r st.reverse (st.length - k) = rowsOf r (st.drop k) := by
  unfold rowI
  rw [List.take_reverse, List.reverse_reverse]
  congr 2
  omega
theorem goodT_succ {due : Int} {f : Int → Int} {n : Nat} : goodT due f (n + 1) = goodT due f n ++ (if f n = due then [(n : Int)] else []) := by
  unfold goodT
  rw [List.range_succ, List.map_append, List.filter_append]
  congr 1
  by_cases h : f n = due
  · simp [h]
  · simp [h]
theorem goodT_length {due : Int} {f : Int → Int} {n : Nat} : (goodT due f n).length ≤ n := by
  unfold goodT
  refine Nat.le_trans (List.length_filter_le _ _) ?_
  simp
def RbestOf (ds : List PyData) (d : PyData) : Prop := ∃ st, ∃ r : Int, OkS st ∧ 0 ≤ r ∧ r ≤ 200 ∧ ds = [encSt st, .int r] ∧ d = encIs (bestL r st r)
theorem h_best_of (D : Def K mg "best_of" s_best_of ["store", "room"]) (T : Txt mg) (c1 : FnHas P w K mg base "bounded_by" 2 (PSp K Rbounded)) (c2 : FnHas P w K mg base "rows_of" 3 (PSp K Rrows)) : FnHas P w K mg base "best_of" 4 (PSp K RbestOf) := by
  refine pure_of D sc_best_of (by rintro _ _ ⟨_, _, _, _, _, rfl, _⟩; rfl) fun ds d ⟨st, r, hs, h0, h1, e1, e2⟩ f cdv A outer s H E bx nd un hr => ?_
  subst e1; subst e2
  have hlen := hs.len
  refine bd_set (k := 2) (e_call c2 hr (a2 (vr 0) (vr 1)) ⟨st, r, hs, h0, h1, rfl, rfl⟩) ?_
  refine bd_set (k := 3) (ed_tup ad_nil) ?_
  refine bd_cons (M := fun S' => ∃ x4 x5 x6 x7 x8 x9 : Sl, ∃ rk : Int, S' = [.dat (encSt st), .dat (.int rk), .dat (.list (rowsD r st.reverse (st.length + 1))), .dat (encIs (bestL r st r)), x4, x5, x6, x7, x8, x9]) (sd_for (xs := enumD 0 ((bnd st r).map encK))
    (Inv := fun k S' => ∃ x4 x5 x6 x7 x8 x9 : Sl, ∃ rk : Int, ∃ fnd : List Int, 0 ≤ rk ∧ rk ≤ r ∧ fnd.length = k ∧ bestL r st r = fnd ++ bestL r (st.drop k) rk ∧ S' = [.dat (encSt st), .dat (.int rk), .dat (.list (rowsD r st.reverse (st.length + 1))), .dat (encIs fnd), x4, x5, x6, x7, x8, x9])
    (id_enum (b1 := false) (a1 (e_call c1 (hr.mono (by decide)) (a2 (vr 0) (vr 1)) ⟨st, r, hs, h0, rfl, rfl⟩)) (fun _ => rfl) T.enumerate) ⟨.no, .no, .no, .no, .no, .no, r, [], h0, Int.le_refl _, rfl, rfl, rfl⟩ (fun k x S' hx h => ?_) (fun S' h => ?_)) (fun S' h => ?_)
  · obtain ⟨x4, x5, x6, x7, x8, x9, rk, fnd, k0, k1, kl, kf, e⟩ := h
    subst e
    obtain ⟨y, hy, rfl⟩ := enumD_some hx
    obtain ⟨q, hq, rfl⟩ := bnd_get hy
    have hk : k < st.length := (List.getElem?_eq_some_iff.mp hq).1
    have hdrop : st.drop k = q :: st.drop (k + 1) := by
      rw [List.drop_eq_getElem_cons hk]
      congr 1
      exact Option.some.inj ((List.getElem?_eq_getElem hk).symm.trans hq)
    have hall : ∀ z ∈ q :: st.drop (k + 1), OkK z := fun z hz => hs.all z (List.mem_of_mem_drop (by rw [hdrop]; exact hz))
    have hqk : OkK q := hall q List.mem_cons_self
    have w1 := hqk.w1
    have w2 := hqk.w2
    have v1 := hqk.v1
    have v2 := hqk.v2
    have cw : ∀ z : Int, CMul z q.1 := fun z => .inr ⟨by omega, by omega⟩
    have cv : ∀ z : Int, CMul z q.2.1 := fun z => .inr ⟨by omega, by omega⟩
    obtain ⟨t, ts, hg, t0, t1, t2, t3⟩ := bestL_step (room0 := r) hall k0 k1
    have m0 := mostIn_nn hqk h0
    have d0 : 0 ≤ rk / q.1 := Int.ediv_nonneg k0 (by omega)
    have d1 : rk / q.1 ≤ rk := Int.ediv_le_self _ k0
    have d2 : rk / q.1 * q.1 ≤ rk := Int.ediv_mul_le _ (by omega)
    have mm : 0 ≤ min (mostIn q r) (rk / q.1) := by rw [Int.min_def]; split <;> omega
    have mm2 : min (mostIn q r) (rk / q.1) ≤ rk / q.1 := Int.min_le_right _ _
    have hbl : bestL r (st.drop k) rk = t :: bestL r (st.drop (k + 1)) (rk - t * q.1) := by
      rw [hdrop]
      show _ :: _ = _
      rw [hg]
      rfl
    have eL : ((st.map encK).length : Int) = st.length := by rw [List.length_map]
    refine ⟨_, gt2 (gn 4) (gn 5), ?_⟩
    refine bd_set (k := 6) (d := .list (encR (rowsOf r (st.drop (k + 1))))) (ed_ixL (vr 2) (ed_bin (ed_bin (e_lenT T (vr 0)) (vr 4) o_sub) ed_int o_sub) ?_) ?_
    · rw [rowsD_at (by omega) (by omega)]
      have e3 : (((st.map encK).length : Int) - (k : Int) - 1).toNat = st.length - (k + 1) := by omega
      rw [e3, rowI_rev (by omega)]
    refine bd_set (k := 7) (d := .int (rowAt (rowsOf r (q :: st.drop (k + 1))) rk)) (ed_ixL (ed_ixL (vr 2) (ed_bin (e_lenT T (vr 0)) (vr 4) o_sub) (d := .list (encR (rowsOf r (q :: st.drop (k + 1))))) ?_) (vr 1) (atI_row k0 (by rw [rowsOf_length]; omega))) ?_
    · rw [rowsD_at (by omega) (by omega)]
      have e3 : (((st.map encK).length : Int) - (k : Int)).toNat = st.length - k := by omega
      rw [e3, rowI_rev (by omega), hdrop]
    refine bd_own (k := 8) (ld_lst ad_nil) ?_
    generalize hF : (fun t : Int => rowAt (rowsOf r (st.drop (k + 1))) (rk - t * q.1) + t * q.2.1) = fT at hg
    generalize hdue : rowAt (rowsOf r (q :: st.drop (k + 1))) rk = due at hg
    refine bd_cons (M := fun S' => ∃ x9, S' = [.dat (encSt st), .dat (.int rk), .dat (.list (rowsD r st.reverse (st.length + 1))), .dat (encIs fnd), .dat (.int k), .dat (encK (q.1, q.2.1, some (mostIn q r))), .dat (.list (encR (rowsOf r (st.drop (k + 1))))), .dat (.int due), .own ((t :: ts).map .int), x9])
      (sd_for (Inv := fun j S' => ∃ x9, S' = [.dat (encSt st), .dat (.int rk), .dat (.list (rowsD r st.reverse (st.length + 1))), .dat (encIs fnd), .dat (.int k), .dat (encK (q.1, q.2.1, some (mostIn q r))), .dat (.list (encR (rowsOf r (st.drop (k + 1))))), .dat (.int due), .own ((goodT due fT j).map .int), x9])
        (i_rng T (ed_bin (e_min T (a2 (ed_ixT (vr 5) ed_int rfl) (ed_bin (vr 1) (ed_ixT (vr 5) ed_int rfl) (o_fdiv (k_div hqk))))) ed_int o_add) (by show 0 ≤ min (mostIn q r) (rk / q.1) + 1; omega) (by show min (mostIn q r) (rk / q.1) + 1 ≤ _; omega)) ⟨x9, rfl⟩ (fun j x S' hx h => ?_) (fun S' h => by obtain ⟨x9, e⟩ := h; exact ⟨x9, by rw [e, rgD_length]; show _ = _; rw [← hg]⟩)) (fun S' h => ?_)
    · obtain ⟨x9, e⟩ := h
      subst e
      obtain ⟨hj, rfl⟩ := rgD_some hx
      have hj2 : (j : Int) ≤ rk / q.1 := by
        have : j < (min (mostIn q r) (rk / q.1) + 1).toNat := hj
        omega
      have hj3 : (j : Int) * q.1 ≤ rk := Int.le_trans (Int.mul_le_mul_of_nonneg_right hj2 (by omega)) d2
      have hj4 : 0 ≤ (j : Int) * q.1 := Int.mul_nonneg (by omega) (by omega)
      have eF : fT j = rowAt (rowsOf r (st.drop (k + 1))) (rk - (j : Int) * q.1) + (j : Int) * q.2.1 := by rw [← hF]
      refine ⟨_, gn 9, ?_⟩
      refine bd_1 (sd_if (v := decide (fT j = due)) (by rw [eF]; exact td_cmp (ed_bin (ed_ixL (vr 6) (ed_bin (vr 1) (ed_bin (vr 9) (ed_ixT (vr 5) ed_int rfl) (o_mul (cw _))) o_sub) (atI_row (by show 0 ≤ rk - (j : Int) * q.1; omega) (by rw [rowsOf_length]; show rk - (j : Int) * q.1 < _; omega))) (ed_bin (vr 9) (ed_ixT (vr 5) ed_int rfl) (o_mul (cv _))) o_add) (vr 7) o_eqI) (fun h => ?_) (fun h => ?_))
      · have h := of_decide_eq_true h
        have hlg := goodT_length (due := due) (f := fT) (n := j)
        exact bd_1 (sd_app (k := 8) rfl (vr 9) rfl (by rw [List.length_map]; omega) ⟨_, by rw [goodT_succ, if_pos h, List.map_append]; rfl⟩)
      · have h := of_decide_eq_false h
        exact bd_end ⟨_, by rw [goodT_succ, if_neg h, List.append_nil]; rfl⟩
    · obtain ⟨x9, e⟩ := h
      subst e
      refine bd_set (k := 3) (ed_bin (vr 3) (ed_tup (a1 (ed_ixO (k := 8) rfl rfl (fun _ => Or.inl rfl) ed_int rfl (atI_hd (t := t) (ts := ts))))) (o_cat (by simp; omega))) ?_
      refine bd_set (k := 1) (ed_bin (vr 1) (ed_bin (ed_ixO (k := 8) rfl rfl (fun _ => Or.inl rfl) ed_int rfl (atI_hd (t := t) (ts := ts))) (ed_ixT (vr 5) ed_int rfl) (o_mul (cw _))) o_sub) ?_
      have tw : 0 ≤ t * q.1 := Int.mul_nonneg t0 (by omega)
      exact bd_end ⟨_, _, _, _, _, _, rk - t * q.1, fnd ++ [t], by omega, by omega, by rw [List.length_append, kl]; rfl, by rw [kf, hbl, List.append_assoc]; rfl, by unfold encIs; rw [List.map_append]; rfl⟩
  · obtain ⟨x4, x5, x6, x7, x8, x9, rk, fnd, k0, k1, kl, kf, e⟩ := h
    rw [enumD_length, List.length_map, bnd_length, List.drop_of_length_le (Nat.le_refl _)] at kf
    exact ⟨x4, x5, x6, x7, x8, x9, rk, by rw [e, kf]; simp [bestL]⟩
  · obtain ⟨x4, x5, x6, x7, x8, x9, rk, e⟩ := h
    subst e
    apply bd_ret
    · exact vr 3
    · rfl
end
end Sk


set_option Elab.async false
set_option linter.all false
set_option maxRecDepth 100000
set_option maxHeartbeats 4000000
namespace Sk
open PySem L2
section
variable {P : Program} {w : World} {K : PySem.W.Frag} {mg : Str → Option Value} {base : Heap} {F : Fam} {S S1 S2 : List Sl} {pos : Pos} {s : Stmt} {Q : Po} {a b e : Expr} {ds : List PyData} {d : PyData} {i : Int}
def RisRow (ds : List PyData) (d : PyData) : Prop := ∃ (row : List Int) (room : Int), (row.length : Int) = room + 1 ∧ room ≤ 200 ∧ (∀ x ∈ row, 0 ≤ x) ∧ ds = [encIs row, .int room] ∧ d = .bool true
theorem h_is_row (D : Def K mg "is_row" s_is_row ["thing", "room"]) (T : Txt mg) (c1 : FnHas P w K mg base "is_from" 1 (PSp K RisFrom)) : FnHas P w K mg base "is_row" 2 (PSp K RisRow) := by
  refine pure_of D sc_is_row (by rintro _ _ ⟨_, _, _, _, _, rfl, _⟩; rfl) fun ds d ⟨row, room, hl, h1, hn, e1, e2⟩ f cdv A outer s H E bx nd un hr => ?_
  subst e1; subst e2
  apply bd_ret
  · exact ed_andT (e_isi_tuple T (vr 0)) (ed_andT (ed_cmp (e_lenT T (vr 0)) (ed_bin (vr 1) ed_int o_add) o_eqI) (ed_one (e_allT T (ld_lc1 sc_is_row 2 int_inj (fun _ => .bool true) (id_tup (vr 0)) (fun x hx => e_call c1 hr (a2 (vr 2) ed_int) (rF (hn x hx))) (by omega)) all_bt)) (decide_eq_true (by rw [List.length_map]; exact hl)))
  · rfl
def Rcovers (ds : List PyData) (d : PyData) : Prop := ∃ (row later : List Int) (wt v m room : Int), OkK (wt, v, none) ∧ 0 ≤ m ∧ 0 ≤ room ∧ room ≤ 200 ∧ (row.length : Int) = room + 1 ∧ (∀ t ∈ later.zip (rowWith row wt v m room), t.2 ≤ t.1) ∧ ds = [encIs row, encIs later, encK (wt, v, some m), .int room] ∧ d = .bool true
theorem h_covers (D : Def K mg "covers" s_covers ["row", "later", "kind", "room"]) (T : Txt mg) (c1 : FnHas P w K mg base "row_with" 1 (PSp K RrowWith)) : FnHas P w K mg base "covers" 2 (PSp K Rcovers) := by
  refine pure_of D sc_covers (by rintro _ _ ⟨_, _, _, _, _, _, _, _, _, _, _, _, rfl, _⟩; rfl) fun ds d ⟨row, later, wt, v, m, room, hk, hm, h0, h1, hl, hc, e1, e2⟩ f cdv A outer s H E bx nd un hr => ?_
  subst e1; subst e2
  apply bd_ret
  · refine e_allT T (ld_lc2 sc_covers 4 5 (ts := later.zip (rowWith row wt v m room)) (x := fun t : Int × Int => .int t.1) (y := fun t : Int × Int => .int t.2) (pair_inj int_inj int_inj) (fun t : Int × Int => .bool (decide (t.2 ≤ t.1))) (i_zip T false true (a2 (vr 1) (e_call c1 hr (a3 (vr 0) (vr 2) (vr 3)) ⟨false, row, wt, v, m, room, hk, hm, h0, h1, hl, rfl, rfl⟩))) (fun t ht => ed_cmp (vr 4) (vr 5) o_ge) ?_) ?_
    · rw [List.length_zip, rowWith_length]; omega
    · intro d hd
      obtain ⟨t, ht, rfl⟩ := List.mem_map.mp hd
      rw [decide_eq_true (hc t ht)]
  · rfl
theorem zip3D_some : ∀ {xs ys zs : List PyData} {k : Nat} {x : PyData}, (zip3D xs ys zs)[k]? = some x → ∃ a b c, xs[k]? = some a ∧ ys[k]? = some b ∧ zs[k]? = some c ∧ x = .tuple [a, b, c] := by
  intro xs ys zs k x h
  have hk : k < (zip3D xs ys zs).length := (List.getElem?_eq_some_iff.mp h).1
  rw [zip3D_length] at hk
  have e1 := List.getElem?_eq_getElem (show k < xs.length by omega)
  have e2 := List.getElem?_eq_getElem (show k < ys.length by omega)
  have e3 := List.getElem?_eq_getElem (show k < zs.length by omega)
  rw [zip3D_get e1 e2 e3] at h
  exact ⟨_, _, _, e1, e2, e3, (Option.some.inj h).symm⟩
theorem cut_tail {xs : List PyData} (h : 1 ≤ xs.length) : cutD xs (some 1) none = xs.drop 1 := by
  unfold cutD
  have e : HT.sIx xs.length 0 (some 1) = 1 := by show min 1 xs.length = 1; omega
  rw [e, HT.sIx_none]
  exact List.take_of_length_le (by rw [List.length_drop]; omega)
theorem map_some {α : Type} {f : α → PyData} {xs : List α} {k : Nat} {x : PyData} (h : (xs.map f)[k]? = some x) : ∃ a, xs[k]? = some a ∧ x = f a := by
  rw [List.getElem?_map] at h
  cases e : xs[k]? with
  | none => rw [e] at h; cases h
  | some q => rw [e] at h; exact ⟨q, rfl, (Option.some.inj h).symm⟩
structure TabOk (st : List Kd) (room : Int) (rows : List (List Int)) : Prop where
  len : rows.length = st.length + 1
  row : ∀ r ∈ rows, (r.length : Int) = room + 1 ∧ ∀ x ∈ r, 0 ≤ x
  cov : ∀ (k : Nat) q a b, st[k]? = some q → rows[k]? = some a → rows[k + 1]? = some b → ∀ t ∈ b.zip (rowWith a q.1 q.2.1 (mostIn q room) room), t.2 ≤ t.1
def RtabBound (ds : List PyData) (d : PyData) : Prop := ∃ (st : List Kd) (room : Int) (rows : List (List Int)), OkS st ∧ 0 ≤ room ∧ room ≤ 200 ∧ TabOk st room rows ∧ ds = [.list (rows.map encIs), encSt st, .int room] ∧ d = .int (rowAt (rows.getD st.length []) room)
theorem h_table_bound (D : Def K mg "table_bound" s_table_bound ["thing", "store", "room"]) (T : Txt mg) (c1 : FnHas P w K mg base "need_table" 6 (PSp K (Rnone CRoom))) (c2 : FnHas P w K mg base "is_row" 2 (PSp K RisRow)) (c3 : FnHas P w K mg base "covers" 2 (PSp K Rcovers)) (c4 : FnHas P w K mg base "bounded_by" 2 (PSp K Rbounded)) : FnHas P w K mg base "table_bound" 7 (PSp K RtabBound) := by
  refine pure_of D sc_table_bound (by rintro _ _ ⟨_, _, _, _, _, _, _, rfl, _⟩; rfl) fun ds d ⟨st, room, rows, hs, h0, h1, ht, e1, e2⟩ f cdv A outer s H E bx nd un hr => ?_
  subst e1; subst e2
  have hlen := hs.len
  have htl := ht.len
  have inj : ∀ a b, encIs a = encIs b → a = b := fun a b h => ints_inj a b (by unfold encIs at h; exact PyData.tuple.inj h)
  refine bd_drop (e_call c1 hr (a2 (vr 1) (vr 2)) ⟨⟨st, room, hs, h0, h1, rfl⟩, rfl⟩) ?_
  apply bd_sk
  · exact td_ww (wd_orF (td_not (t_v (e_isi_list T (vr 0)))) (wd_orF (td_cmp (e_lenL T (vr 0)) (ed_bin (e_lenT T (vr 1)) ed_int o_add) o_neI) (wd_or1 (td_not (t_v (e_allT T (ld_lc1 sc_table_bound 6 inj (fun _ => .bool true) (id_lst (vr 0)) (fun x hx => e_call c2 (hr.mono (by decide)) (a2 (vr 6) (vr 2)) ⟨x, room, (ht.row x hx).1, h1, (ht.row x hx).2, rfl, rfl⟩) (by omega)) all_bt)))) (by rw [decide_eq_true]; rfl; rw [List.length_map, List.length_map, htl]; omega)))
  · rfl
  refine bd_cons (M := fun S' => ∃ x3 x4 x5, S' = [.dat (.list (rows.map encIs)), .dat (encSt st), .dat (.int room), x3, x4, x5, .no]) (sd_for (xs := zip3D (rows.map encIs) ((rows.map encIs).drop 1) ((bnd st room).map encK)) (Inv := fun k S' => ∃ x3 x4 x5, S' = [.dat (.list (rows.map encIs)), .dat (encSt st), .dat (.int room), x3, x4, x5, .no])
    (id_zip3 (b1 := true) (b2 := true) (b3 := false) (a3 (vr 0) (by rw [← cut_tail (by rw [List.length_map]; omega)]; exact ed_of_ld (ld_slL (vr 0) (od_some ed_int) od_none)) (e_call c4 (hr.mono (by decide)) (a2 (vr 1) (vr 2)) ⟨st, room, hs, h0, rfl, rfl⟩)) (fun _ => rfl) T.zip) ⟨.no, .no, .no, rfl⟩ (fun k x S' hx h => ?_) (fun S' h => h)) (fun S' h => ?_)
  · obtain ⟨x3, x4, x5, e⟩ := h
    subst e
    obtain ⟨a0, b0, c0, ha0, hb0, hc, rfl⟩ := zip3D_some hx
    obtain ⟨a, ha, rfl⟩ := map_some ha0
    rw [List.getElem?_drop, Nat.add_comm] at hb0
    obtain ⟨b, hb, rfl⟩ := map_some hb0
    obtain ⟨q, hq, rfl⟩ := bnd_get hc
    have hqk := hs.all q (List.mem_of_getElem? hq)
    refine ⟨_, gt3 (gn 3) (gn 4) (gn 5), ?_⟩
    apply bd_sk
    · exact td_not (t_v (e_call c3 (hr.mono (by decide)) (ad_cons (vr 3) (a3 (vr 4) (vr 5) (vr 2))) ⟨a, b, q.1, q.2.1, mostIn q room, room, okw hqk, mostIn_nn hqk h0, h0, h1, (ht.row a (List.mem_of_getElem? ha)).1, ht.cov k q a b hq ha hb, rfl, rfl⟩))
    · rfl
    exact bd_end ⟨_, _, _, rfl⟩
  · obtain ⟨x3, x4, x5, e⟩ := h
    subst e
    have hl : rows.getD st.length [] ∈ rows := by
      rw [List.getD_eq_getElem?_getD, List.getElem?_eq_getElem (by omega)]
      exact List.getElem_mem _
    have hlr := (ht.row _ hl).1
    have hla : atI (rows.map encIs) (-1) = some (encIs (rows.getD st.length [])) := by
      rw [atI_last (by intro z; have := congrArg List.length z; rw [List.length_map, htl] at this; exact absurd this (Nat.succ_ne_zero _)), List.getLast?_eq_getElem?, List.length_map, List.getElem?_map, List.getD_eq_getElem?_getD, htl, Nat.add_sub_cancel, List.getElem?_eq_getElem (by omega)]
      rfl
    generalize rows.getD st.length [] = last at hl hlr hla
    have hlb : atI (last.map PyData.int) (-1) = some (.int (rowAt last room)) := by
      have hp : last.length = room.toNat + 1 := by omega
      rw [atI_last (by intro z; have := congrArg List.length z; rw [List.length_map, hp] at this; exact absurd this (Nat.succ_ne_zero _)), List.getLast?_eq_getElem?, List.length_map, List.getElem?_map, hp, Nat.add_sub_cancel, List.getElem?_eq_getElem (by omega)]
      unfold rowAt
      rw [List.getD_eq_getElem?_getD, List.getElem?_eq_getElem (by omega)]
      rfl
    apply bd_ret
    · exact ed_ixT (ed_ixL (vr 0) ed_neg hla) ed_neg hlb
    · rfl
def tabRows (st : List Kd) (r : Int) : List (List Int) := (List.range (st.length + 1)).map fun k => rowI r st k
def RtabPaper (ds : List PyData) (d : PyData) : Prop := ∃ st, ∃ r : Int, OkS st ∧ 0 ≤ r ∧ r ≤ 200 ∧ ds = [encSt st, .int r] ∧ d = .list ((tabRows st r).map encIs)
theorem h_table_paper (D : Def K mg "table_paper" s_table_paper ["store", "room"]) (T : Txt mg) (c1 : FnHas P w K mg base "need_table" 6 (PSp K (Rnone CRoom))) (c2 : FnHas P w K mg base "bounded_by" 2 (PSp K Rbounded)) (c3 : FnHas P w K mg base "row_with" 1 (PSp K RrowWith)) : FnHas P w K mg base "table_paper" 7 (PSp K RtabPaper) := by
  refine pure_of D sc_table_paper (by rintro _ _ ⟨_, _, _, _, _, rfl, _⟩; rfl) fun ds d ⟨st, r, hs, h0, h1, e1, e2⟩ f cdv A outer s H E bx nd un hr => ?_
  subst e1; subst e2
  have hlen := hs.len
  refine bd_drop (e_call c1 hr (a2 (vr 0) (vr 1)) ⟨⟨st, r, hs, h0, h1, rfl⟩, rfl⟩) ?_
  refine bd_own (k := 2) (ds := rowsD r st 1) (ld_lst (ds := rowsD r st 1) (a1 (ED.weak (ed_of_ld (ld_rep (i := r + 1) (ld_lst (a1 ed_int)) (ed_bin (vr 1) ed_int o_add) (by omega) (by omega) (by simp; omega))) (by rw [← rowI_zero (L := st)]))) (by rw [rowsD_length]; omega)) ?_
  refine bd_cons (M := fun S' => ∃ x3, S' = [.dat (encSt st), .dat (.int r), .own (rowsD r st (st.length + 1)), x3, .no]) (sd_for (xs := (bnd st r).map encK) (Inv := fun k S' => ∃ x3, S' = [.dat (encSt st), .dat (.int r), .own (rowsD r st (k + 1)), x3, .no]) (id_tup (e_call c2 (hr.mono (by decide)) (a2 (vr 0) (vr 1)) ⟨st, r, hs, h0, rfl, rfl⟩)) ⟨.no, rfl⟩ (fun k x S' hx h => ?_) (fun S' h => by obtain ⟨x3, e⟩ := h; exact ⟨x3, by rw [e, List.length_map, bnd_length]⟩)) (fun S' h => ?_)
  · obtain ⟨x3, e⟩ := h
    subst e
    obtain ⟨q, hq, rfl⟩ := bnd_get hx
    have hq1 : OkK q := hs.all q (List.mem_of_getElem? hq)
    have hk : k < st.length := (List.getElem?_eq_some_iff.mp hq).1
    refine ⟨_, gn 3, ?_⟩
    exact bd_1 (sd_app (k := 2) (d := .list (encR (rowI r st (k + 1)))) rfl (e_call c3 (hr.mono (by decide)) (a3 (ed_ixO (k := 2) rfl rfl (by first | exact fun _ => Or.inl rfl | exact fun _ => Or.inr (Or.inl rfl)) ed_neg rfl rowsD_last) (vr 3) (vr 1)) ⟨true, rowI r st k, q.1, q.2.1, mostIn q r, r, okw hq1, mostIn_nn hq1 h0, h0, h1, by rw [rowI_length]; omega, rfl, by rw [rowI_succ hq]⟩) rfl (by rw [rowsD_length]; omega) ⟨_, by rw [rowsD_succ (n := k + 1)]; rfl⟩)
  · obtain ⟨x3, e⟩ := h
    subst e
    have inj : ∀ a b : List Int, PyData.list (encR a) = .list (encR b) → a = b := fun a b h => ints_inj a b (PyData.list.inj h)
    have e : rowsD r st (st.length + 1) = (tabRows st r).map fun row => .list (encR row) := by unfold tabRows rowsD; rw [List.map_map]; rfl
    rw [e]
    apply bd_ret
    · exact ed_of_ld (ld_lc1 sc_table_paper 4 inj (fun row => encIs row) (id_lst (fz 2)) (fun row hrow => e_tuple T (vr 4)) (by unfold tabRows; simp; omega))
    · rfl
end
end Sk


set_option Elab.async false
set_option linter.all false
set_option maxRecDepth 100000
set_option maxHeartbeats 4000000
namespace Sk
open PySem L2
section
variable {F : Fam} {S S1 S2 S3 S' : List Sl} {e a b o elt iter : Expr} {ifs : List Expr} {d x y z : PyData} {ds xs : List PyData} {pos p : Pos} {α : Type} [Inhabited α] {ts : List α} {scope sc : Scope} {N ps : List Str} {enc : α → PyData} {P : Po} {ss : List Stmt} {tg : Expr}
/-- name = [.. for n in .. if ..], one's own from now on -/
theorem bd_lc1f (Sc : FnScope N ps sc) (k kk : Nat) {n yn : Str} {pn py spos : Pos} (inj : ∀ a b, enc a = enc b → a = b) (fl : α → Bool) (g : α → PyData) (hi : ID F S (.Name n pn) iter (ts.map enc) S1)
    (stf : ∀ t ∈ ts, TsD (F.blk scope) (S1.set k (.dat (enc t))) ifs (fl t) (S1.set k (.dat (enc t))))
    (step : ∀ t ∈ ts, fl t = true → ED (F.blk scope) (S1.set k (.dat (enc t))) elt (g t) (S1.set k (.dat (enc t)))) (hl : ts.length ≤ 50000) (hn : BD F (S1.set kk (.own ((ts.filter fl).map g))) ss P) (hno : S1[k]? = some .no := by rfl)
    (eN : F.N = N := by rfl) (hsc : ∀ i, (F.X i).env.scope = sc := by intro _; rfl) (ok : blkC N sc scope [(n, k)] = true := by decide +kernel) (hN : F.N[k]? = some n := by rfl) (hx : ∀ i, Loc ((F.blk scope).X i).env.scope n := by first | exact fun _ => .inl rfl | exact fun _ => .inr rfl) (hf : ∀ i, ((F.blk scope).X i).fn n = true ∨ ((F.blk scope).X i).env.scope.names.lookup n = some .local := by first | exact fun _ => .inl rfl | exact fun _ => .inr rfl)
    (hsw : ∀ i, swapsWith (.ListComp elt [⟨.Name n pn, iter, ifs, 0⟩] scope pos) (some (.Name yn py)) spos.line (F.X i).env = pure true := by intro _; exact sw_true rfl rfl rfl (by decide +kernel)) (hk : kk < S1.length := by first | exact Nat.le_of_ble_eq_true rfl | simp) (hN2 : F.N[kk]? = some yn := by rfl) (hyl : ∀ i, (F.X i).env.scope.names.lookup yn = some .local := by intro _; rfl) (hw : P.wr kk := by trivial)
    (hfs : ∀ i x, foldedSetIterable iter (F.X i).env x = pure x := by intro _ _; rfl) : BD F S (.Assign [.Name yn py] (.ListComp elt [⟨.Name n pn, iter, ifs, 0⟩] scope pos) spos :: ss) P := by
  refine bd_cons (M := fun S' => S' = S1.set kk (.own ((ts.filter fl).map g))) (sd_setLc (own := [(n, k)]) (fun x => fl (undo enc x)) (fun x => g (undo enc x)) hi (fun v hv => by have := List.mem_singleton.mp hv; subst this; exact hno) (fun i => by rw [eN, hsc i]; exact blkOk_by ok) (fun x hx2 => ?_) (by rw [List.length_map]; exact hl) (by rw [filter_enc inj fl g ts]) hsw hk hN2 hyl hw hfs) fun _ h => by subst h; exact hn
  obtain ⟨t, ht, rfl⟩ := List.mem_map.mp hx2
  rw [undo_enc inj]
  exact ⟨_, KeptS.refl.set (by simp), gd_name (no_lt hno) hN hx hf (by simp), stf t ht, step t ht⟩
theorem td_eqO {op : CmpOp} {f : Bool → Bool} {k : Nat} {x : Str} {q lp : Pos} {r : R2} (hr : ∀ i, OpR (F.X i) (compareOp op) r) (hrd : ∀ u v G Q, (∃ d e, Dp F.K G u d ∧ Dp F.K G v e ∧ SeqAt.shaped d = true ∧ SeqAt.shaped e = true ∧ Q (V.bl (f (PyData.eqv d e))) G) → r u v G Q) (hs : S[k]? = some (.own ds)) (hN : F.N[k]? = some x) (hv : ∀ i, Vis (F.X i).env.scope x) (hsh : SeqAt.shaped (.list ds) = true)
    (hm : ∀ c, behindInMarks op c = false) (hd : (x == ("__debug__" : Str)) = false) (hcd : (x == ("__classdict__" : Str)) = false) : TD F S (.Compare (.Name x q) [op] [.List [] lp] pos) (f ds.isEmpty) S := by
  refine .mk (t := tTest (tOp r (tVar k) (tLst tNil))) (fun i => pt_cmpR (hr i) (pe_var (pos := q) (by rw [F.hN]; exact hN) (hv i) hd hcd) (pe_lst pa_nil) (hm _)) fun σ H G o Q kk => ?_
  obtain ⟨l, vs, e0, h1, h2, h3, ow⟩ := o.own hs
  refine ⟨_, e0, Nat.zero_le _, fun q hq => ?_⟩
  have n := New.laid (o := .lst []) o.hg hq
  refine hrd _ _ _ _ ⟨.list ds, .list [], .lst (SqL.of (same_new hq _ _ _ h2)) (DpAll.mono (o.hg.trans (same_new hq _)) h3), .lst (SqL.of upd_same) .nil, hsh, shaped_nil, ?_⟩
  rw [eqv_nil]
  exact ⟨_, rfl, kk _ _ n.stp (o.new n)⟩
theorem td_eqNil {k : Nat} {x : Str} {q lp : Pos} (hs : S[k]? = some (.own ds)) (hsh : SeqAt.shaped (.list ds) = true) (hN : F.N[k]? = some x := by rfl) (hv : ∀ i, Vis (F.X i).env.scope x := by first | exact fun _ => Or.inl rfl | exact fun _ => Or.inr (Or.inl rfl) | exact fun _ => Or.inr (Or.inr rfl))
    (hd : (x == ("__debug__" : Str)) = false := by decide) (hcd : (x == ("__classdict__" : Str)) = false := by decide) : TD F S (.Compare (.Name x q) [.Eq] [.List [] lp] pos) ds.isEmpty S :=
  td_eqO (r := rEqD F.K) (f := id) (fun i => by have := op_eqD (X := F.X i) (by rw [F.hA]; have := F.un; omega); rw [F.hK] at this; exact this) (fun _ _ _ _ h => h) hs hN hv hsh (fun c => nomark c) hd hcd
theorem td_neNil {k : Nat} {x : Str} {q lp : Pos} (hs : S[k]? = some (.own ds)) (hsh : SeqAt.shaped (.list ds) = true) (hN : F.N[k]? = some x := by rfl) (hv : ∀ i, Vis (F.X i).env.scope x := by first | exact fun _ => Or.inl rfl | exact fun _ => Or.inr (Or.inl rfl) | exact fun _ => Or.inr (Or.inr rfl))
    (hd : (x == ("__debug__" : Str)) = false := by decide) (hcd : (x == ("__classdict__" : Str)) = false := by decide) : TD F S (.Compare (.Name x q) [.NotEq] [.List [] lp] pos) (!ds.isEmpty) S :=
  td_eqO (r := rNeD F.K) (f := fun b => !b) (fun i => by have := op_neD (X := F.X i) (by rw [F.hA]; have := F.un; omega); rw [F.hK] at this; exact this) (fun _ _ _ _ h => h) hs hN hv hsh (fun c => nomark c) hd hcd
/-- for tg in x: body, x a list of one's own that the body leaves alone -/
theorem sd_forO {k : Nat} {n : Str} {q : Pos} {body : List Stmt} {Inv : Nat → List Sl → Prop} (hs0 : S[k]? = some (.own xs)) (hinv : ∀ j S', Inv j S' → S'[k]? = some (.own xs)) (h0 : Inv 0 S)
    (hs : ∀ j x S', xs[j]? = some x → Inv j S' → ∃ S2, GD F (fun i => P.wr i ∧ i ≠ k) S' tg x S2 ∧ BD F S2 body { P with nx := Inv (j + 1), ct := Inv (j + 1), bk := P.nx, wr := fun i => P.wr i ∧ i ≠ k })
    (hd : ∀ S', Inv xs.length S' → P.nx S') (hN : F.N[k]? = some n := by rfl) (hv : ∀ i, Vis (F.X i).env.scope n := by first | exact fun _ => Or.inl rfl | exact fun _ => Or.inr (Or.inl rfl) | exact fun _ => Or.inr (Or.inr rfl))
    (hdb : (n == ("__debug__" : Str)) = false := by decide) (hcd : (n == ("__classdict__" : Str)) = false := by decide)
    (hp : ∀ i, PassesOwn (model (F.X i).prog (F.X i).w) (F.X i).A (F.X i).env (F.X i).xe := by intro _; exact PassesOwn.never) (hfs : ∀ i x, foldedSetIterable (.Name n q) (F.X i).env x = pure x := by intro _ _; rfl) : SD F S (.For tg (.Name n q) body [] pos) P := by
  refine .mk (t := tFor (iList F.K (tVar k)) (wG F tg) (wB F body)) (fun i => ps_for (hp i) (F.calm i) (by have := pi_list (X := F.X i) (tg := tg) (pe_var (pos := q) (by rw [F.hN]; exact hN) (hv i) hdb hcd); rw [F.hK] at this; exact this) (wG_ok i) (wB_ok i) (hfs i)) fun σ H G o D m => ?_
  obtain ⟨l, vs, e0, g1, g2, g3, ow⟩ := o.own hs0
  refine ⟨_, e0, l, rfl, ⟨vs, SqL.of g2⟩, ?_⟩
  have kw : ∀ {σ1 σ2 : L2.St}, Kept (fun i => P.wr i ∧ i ≠ k) σ1 σ2 → Kept P.wr σ1 σ2 := fun h i hi => h i fun z => hi z.1
  refine ⟨fun n mm σ' G' => mm = xs.length - n ∧ n ≤ xs.length ∧ ∃ H' S', Inv n S' ∧ Kept (fun i => P.wr i ∧ i ≠ k) σ σ' ∧ Stp (Own σ S) (Own σ' S') H G H' G' ∧ Ok F.K F.bx σ' H' G' S', ⟨xs.length, by simp, Nat.zero_le _, H, S, h0, Kept.refl, Stp.refl, o⟩, ?_⟩
  rintro n mm σ' G' ⟨rfl, hn, H', S', iv, k', s', o'⟩
  obtain ⟨l2, vs', e1, q1, q2, q3, _⟩ := o'.own (hinv n S' iv)
  have el : l2 = l := by
    rw [k' k (fun z => z.2 rfl), e0] at e1
    cases e1; rfl
  subst el
  have hl := DpAll.length q3
  have wk := walk_list (K := F.K) (a := l2) (xs := vs')
  by_cases hlt : n < xs.length
  · refine .inr ⟨wk.goes n G' (by omega) (SqL.of q2), fun σ2 G2 => n + 1 ≤ xs.length ∧ ∃ H2 S2, Inv (n + 1) S2 ∧ Kept (fun i => P.wr i ∧ i ≠ k) σ σ2 ∧ Stp (Own σ S) (Own σ2 S2) H G H2 G2 ∧ Ok F.K F.bx σ2 H2 G2 S2, fun σ2 G2 q => ⟨xs.length - (n + 1), by omega, rfl, q.1, q.2⟩, fun v G2 y => ?_⟩
    obtain ⟨rfl, hx⟩ := wk.yields n G' v G2 (by omega) (SqL.of q2) y
    obtain ⟨d, hxd, dd⟩ := DpAll.get' q3 hx
    obtain ⟨S2, hg, hb⟩ := hs n d S' hxd iv
    refine hg σ' H' _ v o' dd _ fun σ3 H3 G3 k3 s3 o3 => ?_
    have s3' := s'.trans s3
    refine hb σ3 H3 G3 o3 _ ⟨fun σ4 H4 G4 S4 q k4 s4 o4 => ⟨by omega, H4, S4, q, (k'.trans k3).trans k4, s3'.trans s4, o4⟩, fun d v σ4 H4 G4 S4 q s4 o4 hd4 => m.rt d v σ4 H4 G4 S4 q (s3'.trans s4) o4 hd4, fun σ4 H4 G4 S4 q k4 s4 o4 => m.nx σ4 H4 G4 S4 q (kw ((k'.trans k3).trans k4)) (s3'.trans s4) o4, fun σ4 H4 G4 S4 q k4 s4 o4 => ⟨by omega, H4, S4, q, (k'.trans k3).trans k4, s3'.trans s4, o4⟩, fun ds l vs σ4 H4 G4 S4 q s4 o4 g0 h1 no hl hd4 => m.rl ds l vs σ4 H4 G4 S4 q (s3'.trans s4) o4 (s3'.free g0) h1 no hl hd4⟩
  · have e : n = xs.length := by omega
    subst e
    exact .inl ⟨by rw [← hl]; exact wk.stops G' (SqL.of q2), m.nx σ' H' G' S' (hd S' iv) (kw k') s' o'⟩
theorem lay_ints : ∀ l : List Int, PyData.canLayAll0 (l.map .int) = true ∧ PyData.depthAll (l.map .int) = 0
  | [] => ⟨rfl, rfl⟩
  | x :: l => by
    have := lay_ints l
    simp [PyData.canLayAll0, PyData.depthAll, PyData.canLay0, PyData.depth, this.1, this.2]
theorem sh_ints (l : List Int) : SeqAt.shaped (.list (l.map .int)) = true := by
  unfold SeqAt.shaped
  simp [PyData.canLay0, PyData.depth, (lay_ints l).1, (lay_ints l).2]
end
end Sk


set_option Elab.async false
set_option linter.all false
set_option maxRecDepth 100000
set_option maxHeartbeats 4000000
namespace Sk
open PySem L2
section
variable {P : Program} {w : World} {K : PySem.W.Frag} {mg : Str → Option Value} {base : Heap} {F : Fam} {S S1 S2 : List Sl} {pos : Pos} {s : Stmt} {Q : Po} {a b e : Expr} {ds : List PyData} {d : PyData} {i : Int}
theorem i_rngN {n : Nat} {tg : Expr} {q : Pos} (T : Txt F.mg) (h : ED F S e (.int i) S1) (hi : i = n) (h1 : n ≤ 100000) (hg : ∀ i, Gl (F.X i) "range" := by intro _; rfl) (hs : ∀ i, starEach [e] (F.X i).env = [(false, eval e (F.X i).env)] := by intro _; rfl) (hs2 : ∀ i, starEach [e] (F.X i).env = (false, eval e (F.X i).env) :: starEach [] (F.X i).env := by intro _; rfl) : ID F S tg (.Call (.Name "range" q) [e] [] pos) ((List.range n).map fun (t : Nat) => .int (t : Int)) S1 := by
  subst hi
  have := i_rng (tg := tg) (q := q) (pos := pos) T h (by omega) (by omega) hg hs hs2
  exact this
theorem kd_get {st : List Kd} {p : Int} (h1 : p.toNat < st.length) : st[p.toNat]? = some (kd st p) := by
  unfold kd
  rw [List.getD_eq_getElem?_getD, List.getElem?_eq_getElem h1]
  rfl
theorem atI_kd {st : List Kd} {p : Int} (h0 : 0 ≤ p) (h1 : p < st.length) : atI (st.map encK) p = some (encK (kd st p)) := by
  rw [atI_nn h0 (by rw [List.length_map]; exact h1), List.getElem?_map, kd_get (by omega)]
  rfl
theorem erase_at {l : List Int} {a : Int} (h : a ∈ l) : l[l.idxOf a]? = some a ∧ (∀ m : Nat, m < l.idxOf a → l[m]? ≠ some a) ∧ l.eraseIdx (l.idxOf a) = l.erase a := by
  have hl := List.idxOf_lt_length_of_mem h
  refine ⟨by rw [List.getElem?_eq_getElem hl, List.getElem_idxOf], fun m hm e => ?_, (List.erase_eq_eraseIdx_of_idxOf rfl).symm⟩
  have hml : m < l.length := by omega
  rw [List.getElem?_eq_getElem hml] at e
  have := List.not_of_lt_findIdx (p := (· == a)) (xs := l) (i := m) hm
  rw [Option.some.inj e] at this
  simp at this
def RinOrder (ds : List PyData) (d : PyData) : Prop := ∃ st, OkS st ∧ ds = [encSt st] ∧ d = .list ((inOrder st).map .int)
theorem places_eq {st : List Kd} : ((List.range st.length).filter fun (i : Nat) => decide (0 < (kd st i).2.1)).map (fun (i : Nat) => PyData.int i) = (places st).map .int := by
  unfold places
  rw [List.filter_map, List.map_map]
  rfl
theorem h_in_order (D : Def K mg "in_order" s_in_order ["store"]) (T : Txt mg) : FnHas P w K mg base "in_order" 1 (PSp K RinOrder) := by
  refine pure_of D sc_in_order (by rintro _ _ ⟨_, _, rfl, _⟩; rfl) fun ds d ⟨st, hs, e1, e2⟩ f cdv A outer s H E bx nd un hr => ?_
  subst e1; subst e2
  have hlen := hs.len
  have hall : ∀ l : List Int, (∀ p ∈ l, p ∈ places st) → ∀ p ∈ l, 0 ≤ p ∧ p < st.length ∧ OkK (kd st p) := fun l hl p hp => by
    obtain ⟨q0, q1, _⟩ := mem_places.mp (hl p hp)
    exact ⟨q0, q1, kd_ok hs.all q0 q1⟩
  refine bd_lc1f sc_in_order 1 2 (ts := List.range st.length) (enc := fun (t : Nat) => .int (t : Int)) nat_inj (fun (i : Nat) => decide (0 < (kd st i).2.1)) (fun (i : Nat) => .int i) (i_rngN T (e_lenT T (vr 0)) (by rw [List.length_map]) (by omega)) (fun t ht => ?_) (fun t ht _ => vr 1) (by simp; omega) ?_
  · have ht := List.mem_range.mp ht
    exact tsd_one (td_cmp (ed_ixT (ed_ixT (vr 0) (vr 1) (atI_kd (by omega) (by omega))) ed_int rfl) ed_int o_gt)
  rw [places_eq]
  refine bd_own (k := 3) (ld_lst ad_nil) ?_
  refine bd_cons (M := fun S' => ∃ x1 x2 x4, S' = [.dat (encSt st), x1, x2, .own ((inOrder st).map .int), x4]) (sd_while (n0 := (places st).length) (Inv := fun n S' => ∃ x1 x4, ∃ l fnd : List Int, ∃ fu : Nat, l.length = n ∧ l.length ≤ fu ∧ (∀ p ∈ l, p ∈ places st) ∧ fnd.length + l.length ≤ 100 ∧ inOrder st = fnd ++ ordGo st fu l ∧ S' = [.dat (encSt st), x1, .own (l.map .int), .own (fnd.map .int), x4]) ⟨.no, .no, places st, [], st.length, rfl, places_length st, fun _ h => h, by have := places_length st; show 0 + _ ≤ 100; omega, rfl, rfl⟩ ?_) ?_
  · rintro n S' ⟨x1, x4, l, fnd, fu, hn, hfu, hl, hsm, hio, rfl⟩
    refine ⟨_, _, td_neNil (k := 2) rfl (sh_ints l), fun h => ?_, fun h => ?_⟩
    · obtain ⟨p0, r, rfl⟩ : ∃ p r, l = p :: r := by
        cases l with
        | nil => cases h
        | cons p r => exact ⟨p, r, rfl⟩
      have ha := hall _ hl
      obtain ⟨fu, rfl⟩ : ∃ m, fu = m + 1 := ⟨fu - 1, by simp at hfu; omega⟩
      have hpk := pick_ok (st := st) (p := p0) (r := r) fun q hq => by have := (ha q hq).2.2.w1; omega
      refine bd_set (k := 4) (ed_ixO (k := 2) rfl rfl (fun _ => Or.inl rfl) ed_int rfl (atI_hd (t := p0) (ts := r))) ?_
      refine bd_cons (M := fun S' => ∃ x1, S' = [.dat (encSt st), x1, .own ((p0 :: r).map .int), .own (fnd.map .int), .dat (.int (pick st (p0 :: r)))]) (sd_forO (k := 2) (xs := (p0 :: r).map .int) (Inv := fun j S' => ∃ x1, S' = [.dat (encSt st), x1, .own ((p0 :: r).map .int), .own (fnd.map .int), .dat (.int (((p0 :: r).take j).foldl (pickF st) p0))]) rfl (fun j S' h => by obtain ⟨x1, rfl⟩ := h; rfl) ⟨x1, rfl⟩ (fun j x S' hx h => ?_) (fun S' h => by obtain ⟨x1, e⟩ := h; exact ⟨x1, by rw [e, List.length_map, List.take_length]; rfl⟩)) (fun S' h => ?_)
      · obtain ⟨x1, e⟩ := h
        subst e
        obtain ⟨p, hp, rfl⟩ := map_some hx
        have hp2 := ha p (List.mem_of_getElem? hp)
        have hb : ((p0 :: r).take j).foldl (pickF st) p0 ∈ p0 :: r := by
          rcases (pick_fold (st := st) ((p0 :: r).take j) p0 (fun q hq => by have := (ha q (List.mem_of_mem_take hq)).2.2.w1; omega) (by have := (ha p0 List.mem_cons_self).2.2.w1; omega)).1 with q | q
          · rw [q]; exact List.mem_cons_self
          · exact List.mem_of_mem_take q
        have hb2 := ha _ hb
        have hf : ((p0 :: r).take (j + 1)).foldl (pickF st) p0 = pickF st (((p0 :: r).take j).foldl (pickF st) p0) p := by
          rw [List.take_add_one, hp, List.foldl_append]; rfl
        generalize ((p0 :: r).take j).foldl (pickF st) p0 = bb at hf hb hb2
        refine ⟨_, gn 1 (hw := ⟨trivial, by decide⟩), ?_⟩
        refine bd_1 (sd_if (td_cmp (ed_bin (ed_ixT (ed_ixT (vr 0) (vr 1) (atI_kd hp2.1 hp2.2.1)) ed_int rfl) (ed_ixT (ed_ixT (vr 0) (vr 4) (atI_kd hb2.1 hb2.2.1)) ed_int rfl) (o_mul (k_small hp2.2.2).2)) (ed_bin (ed_ixT (ed_ixT (vr 0) (vr 4) (atI_kd hb2.1 hb2.2.1)) ed_int rfl) (ed_ixT (ed_ixT (vr 0) (vr 1) (atI_kd hp2.1 hp2.2.1)) ed_int rfl) (o_mul (k_small hb2.2.2).2)) o_gt) (fun h => ?_) (fun h => ?_))
        · have h := of_decide_eq_true h
          refine bd_set (k := 4) (vr 1) ?_ (hw := ⟨trivial, by decide⟩)
          exact bd_end ⟨_, by rw [hf]; unfold pickF; rw [if_pos h]; rfl⟩
        · have h := of_decide_eq_false h
          exact bd_end ⟨_, by rw [hf]; unfold pickF; rw [if_neg h]; rfl⟩
      · obtain ⟨x1, e⟩ := h
        subst e
        obtain ⟨r1, r2, r3⟩ := erase_at hpk.1
        have hel := List.length_erase_of_mem hpk.1
        have hll : (p0 :: r).length = r.length + 1 := rfl
        refine bd_cons (M := fun S' => S' = [.dat (encSt st), x1, .own (((p0 :: r).erase (pick st (p0 :: r))).map .int), .own (fnd.map .int), .dat (.int (pick st (p0 :: r)))]) (sd_rem (k := 2) rfl (vr 4) rfl r1 r2 (by rw [r3]; rfl)) ?_
        rintro S' rfl
        refine bd_1 (sd_app (k := 3) rfl (vr 4) rfl (by rw [List.length_map]; omega) ⟨((p0 :: r).erase (pick st (p0 :: r))).length, by omega, _, _, (p0 :: r).erase (pick st (p0 :: r)), fnd ++ [pick st (p0 :: r)], fu, rfl, by omega, fun q hq => hl q (List.mem_of_mem_erase hq), by rw [List.length_append]; show fnd.length + 1 + _ ≤ 100; omega, by rw [hio, List.append_assoc]; rfl, by rw [List.map_append]; rfl⟩)
    · cases l with
      | cons p r => cases h
      | nil =>
        have e : ordGo st fu [] = [] := by cases fu <;> rfl
        rw [e, List.append_nil] at hio
        exact ⟨_, _, _, by rw [hio]⟩
  · rintro S' ⟨x1, x2, x4, rfl⟩
    apply bd_ret
    · exact fz 3
    · rfl
end
end Sk


set_option Elab.async false
set_option linter.all false
set_option maxRecDepth 100000
set_option maxHeartbeats 4000000
namespace Sk
open PySem L2
section
variable {P : Program} {w : World} {K : PySem.W.Frag} {mg : Str → Option Value} {base : Heap} {F : Fam} {S S1 S2 : List Sl} {pos : Pos} {s : Stmt} {Q : Po} {a b e : Expr} {ds : List PyData} {d : PyData} {i : Int}
/-! ### fractions that stay small -/
def bdD : Nat → Int
  | 0 => 1
  | k + 1 => 25 * bdD k
def bdN : Nat → Int
  | 0 => 0
  | k + 1 => 25 * bdN k + 39000 * bdD k
structure Bd (k : Nat) (f : Fr) : Prop where
  n0 : 0 ≤ f.1
  n1 : f.1 ≤ bdN k
  d0 : 0 < f.2
  d1 : f.2 ≤ bdD k
structure Sm (f : Fr) : Prop where
  n0 : 0 ≤ f.1
  n1 : f.1 ≤ 39000
  d0 : 0 < f.2
  d1 : f.2 ≤ 25
theorem Sm.bd {f : Fr} (h : Sm f) : Bd 1 f := ⟨h.n0, by have := h.n1; show f.1 ≤ 39000; omega, h.d0, by have := h.d1; show f.2 ≤ 25; omega⟩
theorem bd_const {k : Nat} (h : k ≤ 4) : bdN k ≤ Big ∧ 25 * bdD k < 1073741824 ∧ 0 ≤ bdN k ∧ 0 ≤ bdD k := by
  rcases k with _ | _ | _ | _ | _ | k
  · exact ⟨by decide, by decide, by decide, by decide⟩
  · exact ⟨by decide, by decide, by decide, by decide⟩
  · exact ⟨by decide, by decide, by decide, by decide⟩
  · exact ⟨by decide, by decide, by decide, by decide⟩
  · exact ⟨by decide, by decide, by decide, by decide⟩
  · omega
theorem made_le {t b : Int} (ht : 0 ≤ t) (hb : 0 < b) : (made t b).1 ≤ t ∧ (made t b).2 ≤ b := ⟨Int.ediv_le_self _ ht, Int.ediv_le_self _ (Int.le_of_lt hb)⟩
theorem made_sm {t b : Int} (ht : 0 ≤ t) (h1 : t ≤ 39000) (hb : 0 < b) (h2 : b ≤ 25) : Sm (made t b) := by
  obtain ⟨q1, q2⟩ := made_le ht hb
  obtain ⟨q3, q4⟩ := made_pos ht hb
  exact ⟨q4, by omega, q3, by omega⟩
theorem bd_ok {k : Nat} {a b : Fr} (hk : k ≤ 4) (ha : Bd k a) (hb : Sm b) : OkF a b := by
  obtain ⟨c1, c2, _, c3⟩ := bd_const hk
  have a1 := ha.n1; have a2 := ha.d1; have b1 := hb.n1; have b2 := hb.d1; have b0 := hb.d0; have a0 := ha.d0
  have h : a.2 * b.2 ≤ bdD k * 25 := Int.mul_le_mul a2 b2 (Int.le_of_lt b0) c3
  exact ⟨ha.n0, by omega, ha.d0, hb.n0, by unfold Big; omega, hb.d0, by omega⟩
theorem bd_plus {k : Nat} {a b : Fr} (hk : k ≤ 4) (ha : Bd k a) (hb : Sm b) : Bd (k + 1) (plusF a b) := by
  obtain ⟨c1, c2, c4, c3⟩ := bd_const hk
  have a1 := ha.n1; have a2 := ha.d1; have b1 := hb.n1; have b2 := hb.d1; have b0 := hb.d0; have a0 := ha.d0; have an := ha.n0; have bn := hb.n0
  have h : a.2 * b.2 ≤ bdD k * 25 := Int.mul_le_mul a2 b2 (Int.le_of_lt b0) c3
  have h2 : a.1 * b.2 ≤ bdN k * 25 := Int.mul_le_mul a1 b2 (Int.le_of_lt b0) c4
  have h3 : b.1 * a.2 ≤ 39000 * bdD k := Int.mul_le_mul b1 a2 (Int.le_of_lt a0) (by decide)
  have p1 : 0 ≤ a.1 * b.2 := Int.mul_nonneg an (Int.le_of_lt b0)
  have p2 : 0 ≤ b.1 * a.2 := Int.mul_nonneg bn (Int.le_of_lt a0)
  have p3 : 0 < a.2 * b.2 := Int.mul_pos a0 b0
  obtain ⟨q1, q2⟩ := made_le (t := a.1 * b.2 + b.1 * a.2) (by omega) p3
  obtain ⟨q3, q4⟩ := made_pos (t := a.1 * b.2 + b.1 * a.2) (by omega) p3
  exact ⟨q4, by show (made _ _).1 ≤ 25 * bdN k + 39000 * bdD k; omega, q3, by show (made _ _).2 ≤ 25 * bdD k; omega⟩
/-! ### shares -/
def restGo (st : List Kd) : List Int → Int → Int
  | [], room => room
  | p :: r, room => match (kd st p).2.2 with
    | none => restGo st r 0
    | some m => if m * (kd st p).1 > room then restGo st r 0 else restGo st r (room - m * (kd st p).1)
theorem rep_map {α : Type} (f : α → PyData) (x : α) : ∀ n : Nat, (List.replicate n [f x]).flatten = (List.replicate n x).map f
  | 0 => rfl
  | n + 1 => by rw [List.replicate_succ, List.replicate_succ, List.flatten_cons, rep_map f x n]; rfl
theorem ld_repF {α : Type} {n : Nat} {x : α} {enc : α → PyData} (ha : LD F S a [enc x] S1) (hb : ED F S1 b (.int i) S2) (hi : i = n) (h1 : n ≤ 100000) : LD F S (.BinOp a .Mult b pos) ((List.replicate n x).map enc) S2 := by
  subst hi
  have h := ld_rep (pos := pos) ha hb (by omega) (by omega) (by simp; omega)
  rw [Int.toNat_natCast, rep_map] at h
  exact h
def RsharesOf (ds : List PyData) (d : PyData) : Prop := ∃ st, ∃ r : Int, OkS st ∧ 0 ≤ r ∧ r ≤ 200 ∧ ds = [encSt st, .int r] ∧ d = .tuple [.tuple ((shares st r).map encF), .int (restGo st (inOrder st) r)]
theorem ixN_nn {n : Nat} {i : Int} (h0 : 0 ≤ i) (h1 : i < n) : ixN n i = some i.toNat := by
  unfold ixN
  rw [if_pos h0, if_pos h1]
theorem ord_get {st : List Kd} (hs : OkS st) {k : Nat} {x : PyData} (h : ((inOrder st).map PyData.int)[k]? = some x) : ∃ p : Int, x = .int p ∧ 0 ≤ p ∧ p < st.length ∧ OkK (kd st p) ∧ (inOrder st).drop k = p :: (inOrder st).drop (k + 1) := by
  obtain ⟨p, hp, rfl⟩ := map_some h
  have hk : k < (inOrder st).length := (List.getElem?_eq_some_iff.mp hp).1
  have hm : p ∈ places st := (ordGo_perm st.length (places st) (fun q hq => by
    obtain ⟨q0, q1, _⟩ := mem_places.mp hq
    have := (kd_ok hs.all q0 q1).w1; omega) (places_length st)).mem_iff.mp (List.mem_of_getElem? hp)
  obtain ⟨q0, q1, _⟩ := mem_places.mp hm
  refine ⟨p, rfl, q0, q1, kd_ok hs.all q0 q1, ?_⟩
  rw [List.drop_eq_getElem_cons hk]
  congr 1
  exact Option.some.inj ((List.getElem?_eq_getElem hk).symm.trans hp)
theorem h_shares_of (D : Def K mg "shares_of" s_shares_of ["store", "room"]) (T : Txt mg) (n : Num K mg) (c1 : FnHas P w K mg base "in_order" 1 (PSp K RinOrder)) (c2 : FnHas P w K mg base "made" 2 (PSp K Rmade)) : FnHas P w K mg base "shares_of" 3 (PSp K RsharesOf) := by
  refine pure_of D sc_shares_of (by rintro _ _ ⟨_, _, _, _, _, rfl, _⟩; rfl) fun ds d ⟨st, r, hs, h0, h1, e1, e2⟩ f cdv A outer s H E bx nd un hr => ?_
  subst e1; subst e2
  have hlen := hs.len
  refine bd_own (k := 2) (ds := (List.replicate st.length ((0, 1) : Fr)).map encF) (ld_repF (enc := encF) (ld_lst (a1 (e_nought n))) (e_lenT T (vr 0)) (by rw [List.length_map]) (by omega)) ?_
  refine bd_cons (M := fun S' => ∃ x3 x4 x5 x6, S' = [.dat (encSt st), .dat (.int (restGo st (inOrder st) r)), .own ((shares st r).map encF), x3, x4, x5, x6]) (sd_for (xs := (inOrder st).map PyData.int) (Inv := fun k S' => ∃ x3 x4 x5 x6, ∃ rm : Int, ∃ fs : List Fr, 0 ≤ rm ∧ rm ≤ 200 ∧ fs.length = st.length ∧ shares st r = sharesGo st ((inOrder st).drop k) rm fs ∧ restGo st (inOrder st) r = restGo st ((inOrder st).drop k) rm ∧ S' = [.dat (encSt st), .dat (.int rm), .own (fs.map encF), x3, x4, x5, x6])
    (id_lst (e_call c1 (hr.mono (by decide)) (a1 (vr 0)) ⟨st, hs, rfl, rfl⟩)) ⟨.no, .no, .no, .no, r, List.replicate st.length (0, 1), h0, h1, by simp, rfl, rfl, rfl⟩ (fun k x S' hx h => ?_) (fun S' h => ?_)) (fun S' h => ?_)
  · obtain ⟨x3, x4, x5, x6, rm, fs, m0, m1, hfl, hsh, hre, e⟩ := h
    subst e
    obtain ⟨p, rfl, p0, p1, hk, hdr⟩ := ord_get hs hx
    rw [hdr] at hsh hre
    have hix : ixN (fs.map encF).length p = some p.toNat := ixN_nn p0 (by rw [List.length_map]; omega)
    have hkd := atI_kd p0 p1
    rcases hkk : kd st p with ⟨wt, v, mo⟩
    rw [hkk] at hk hkd
    have w1 : 1 ≤ wt := hk.w1
    have w2 : wt ≤ 25 := hk.w2
    refine ⟨_, gn 3, ?_⟩
    refine bd_cons (M := fun S' => S' = [.dat (encSt st), .dat (.int rm), .own (fs.map encF), .dat (.int p), .dat (.int wt), .dat (.int v), .dat (encO mo)]) (sd_asg (ed_ixT (vr 0) (vr 3) hkd) (gt3 (gn 4) (gn 5) (gn 6)) rfl) ?_
    rintro S' rfl
    cases mo with
    | none =>
      have es : sharesGo st (p :: (inOrder st).drop (k + 1)) rm fs = sharesGo st ((inOrder st).drop (k + 1)) 0 (fs.set p.toNat (made rm wt)) := by simp only [sharesGo, hkk]
      have er : restGo st (p :: (inOrder st).drop (k + 1)) rm = restGo st ((inOrder st).drop (k + 1)) 0 := by simp only [restGo, hkk]
      apply bd_tk
      · exact td_ww (wd_orT (td_cmp (vr 6) ed_none o_is))
      · rfl
      · refine bd_cons (M := fun S' => S' = [.dat (encSt st), .dat (.int rm), .own ((fs.set p.toNat (made rm wt)).map encF), .dat (.int p), .dat (.int wt), .dat (.int v), .dat (encO none)]) (sd_setO (k := 2) rfl (e_call c2 hr (a2 (vr 1) (vr 4)) ⟨rm, wt, m0, by omega, by omega, rfl, rfl⟩) (vr 3) rfl ⟨_, rfl⟩ hix (by rw [List.map_set]; rfl)) ?_
        rintro S' rfl
        refine bd_set (k := 1) ed_int ?_
        exact bd_end (bd_end ⟨_, _, _, _, 0, fs.set p.toNat (made rm wt), by decide, by decide, by rw [List.length_set]; exact hfl, hsh.trans es, hre.trans er, rfl⟩)
    | some m =>
      have hm := hk.m m rfl
      have cm1 : CMul m wt := .inr ⟨by omega, by omega⟩
      by_cases hc : m * wt > rm
      · have es : sharesGo st (p :: (inOrder st).drop (k + 1)) rm fs = sharesGo st ((inOrder st).drop (k + 1)) 0 (fs.set p.toNat (made rm wt)) := by simp only [sharesGo, hkk]; rw [if_pos hc]
        have er : restGo st (p :: (inOrder st).drop (k + 1)) rm = restGo st ((inOrder st).drop (k + 1)) 0 := by simp only [restGo, hkk]; rw [if_pos hc]
        apply bd_tk
        · exact td_ww (wd_orF (td_cmp (vr 6) ed_none o_is) (wd_or1 (td_cmp (ed_bin (vr 6) (vr 4) (o_mul cm1)) (vr 1) o_gt)))
        · exact decide_eq_true hc
        · refine bd_cons (M := fun S' => S' = [.dat (encSt st), .dat (.int rm), .own ((fs.set p.toNat (made rm wt)).map encF), .dat (.int p), .dat (.int wt), .dat (.int v), .dat (encO (some m))]) (sd_setO (k := 2) rfl (e_call c2 hr (a2 (vr 1) (vr 4)) ⟨rm, wt, m0, by omega, by omega, rfl, rfl⟩) (vr 3) rfl ⟨_, rfl⟩ hix (by rw [List.map_set]; rfl)) ?_
          rintro S' rfl
          refine bd_set (k := 1) ed_int ?_
          exact bd_end (bd_end ⟨_, _, _, _, 0, fs.set p.toNat (made rm wt), by decide, by decide, by rw [List.length_set]; exact hfl, hsh.trans es, hre.trans er, rfl⟩)
      · have es : sharesGo st (p :: (inOrder st).drop (k + 1)) rm fs = sharesGo st ((inOrder st).drop (k + 1)) (rm - m * wt) (fs.set p.toNat (m, 1)) := by simp only [sharesGo, hkk]; rw [if_neg hc]
        have er : restGo st (p :: (inOrder st).drop (k + 1)) rm = restGo st ((inOrder st).drop (k + 1)) (rm - m * wt) := by simp only [restGo, hkk]; rw [if_neg hc]
        have mw : 0 ≤ m * wt := Int.mul_nonneg hm.1 (by omega)
        apply bd_el
        · exact td_ww (wd_orF (td_cmp (vr 6) ed_none o_is) (wd_or1 (td_cmp (ed_bin (vr 6) (vr 4) (o_mul cm1)) (vr 1) o_gt)))
        · exact decide_eq_false hc
        · refine bd_cons (M := fun S' => S' = [.dat (encSt st), .dat (.int rm), .own ((fs.set p.toNat (m, 1)).map encF), .dat (.int p), .dat (.int wt), .dat (.int v), .dat (encO (some m))]) (sd_setO (k := 2) rfl (ed_tup (a2 (vr 6) ed_int)) (vr 3) rfl ⟨_, rfl⟩ hix (by rw [List.map_set]; rfl)) ?_
          rintro S' rfl
          refine bd_set (k := 1) (ed_bin (vr 1) (ed_bin (vr 6) (vr 4) (o_mul cm1)) o_sub) ?_
          exact bd_end (bd_end ⟨_, _, _, _, rm - m * wt, fs.set p.toNat (m, 1), by omega, by omega, by rw [List.length_set]; exact hfl, hsh.trans es, hre.trans er, rfl⟩)
  · obtain ⟨x3, x4, x5, x6, rm, fs, m0, m1, hfl, hsh, hre, e⟩ := h
    rw [List.length_map, List.drop_of_length_le (Nat.le_refl _)] at hsh hre
    exact ⟨x3, x4, x5, x6, by rw [e, hsh, hre]; rfl⟩
  · obtain ⟨x3, x4, x5, x6, e⟩ := h
    subst e
    apply bd_ret
    · exact ed_tup (a2 (e_tuple T (fz 2)) (vr 1))
    · rfl
end
end Sk


set_option Elab.async false
set_option linter.all false
set_option maxRecDepth 100000
set_option maxHeartbeats 4000000
namespace Sk
open PySem L2
section
variable {P : Program} {w : World} {K : PySem.W.Frag} {mg : Str → Option Value} {base : Heap} {F : Fam} {S S1 S2 : List Sl} {pos : Pos} {s : Stmt} {Q : Po} {a b e : Expr} {ds : List PyData} {d : PyData} {i : Int}
theorem zipD_some : ∀ {xs ys : List PyData} {k : Nat} {x : PyData}, (zipD xs ys)[k]? = some x → ∃ a b, xs[k]? = some a ∧ ys[k]? = some b ∧ x = .tuple [a, b] := by
  intro xs ys k x h
  have hk : k < (zipD xs ys).length := (List.getElem?_eq_some_iff.mp h).1
  rw [zipD_length] at hk
  have e1 := List.getElem?_eq_getElem (show k < xs.length by omega)
  have e2 := List.getElem?_eq_getElem (show k < ys.length by omega)
  rw [zipD_get e1 e2] at h
  exact ⟨_, _, e1, e2, (Option.some.inj h).symm⟩
theorem drop_get {α : Type} {xs : List α} {k : Nat} {a : α} (h : xs[k]? = some a) : xs.drop k = a :: xs.drop (k + 1) := by
  have hk := (List.getElem?_eq_some_iff.mp h).1
  rw [List.drop_eq_getElem_cons hk]
  congr 1
  exact Option.some.inj ((List.getElem?_eq_getElem hk).symm.trans h)
/-- a share -/
def ShB (f : Fr) : Prop := 0 ≤ f.1 ∧ f.1 ≤ 200 ∧ 0 < f.2 ∧ f.2 ≤ 25
theorem shares_bd {st : List Kd} (hs : OkS st) : ∀ {o : List Int} {rm : Int} {fs : List Fr}, (∀ p ∈ o, 0 ≤ p ∧ p < st.length) → 0 ≤ rm → rm ≤ 200 → (∀ f ∈ fs, ShB f) → (∀ f ∈ sharesGo st o rm fs, ShB f) ∧ (sharesGo st o rm fs).length = fs.length
  | [], rm, fs, _, _, _, h => ⟨h, rfl⟩
  | p :: o, rm, fs, hp, m0, m1, h => by
    have hk := hp p List.mem_cons_self
    have ho : ∀ q ∈ o, 0 ≤ q ∧ q < st.length := fun q hq => hp q (List.mem_cons_of_mem _ hq)
    have hkk := kd_ok hs.all hk.1 hk.2
    have w1 := hkk.w1
    have w2 := hkk.w2
    have hmd : ShB (made rm (kd st p).1) := by
      obtain ⟨q1, q2⟩ := made_le m0 (show 0 < (kd st p).1 by omega)
      obtain ⟨q3, q4⟩ := made_pos m0 (show 0 < (kd st p).1 by omega)
      exact ⟨q4, by omega, q3, by omega⟩
    have hset : ∀ x, ShB x → ∀ f ∈ fs.set p.toNat x, ShB f := fun x hx f hf => by
      rcases List.mem_or_eq_of_mem_set hf with q | rfl
      · exact h f q
      · exact hx
    unfold sharesGo
    cases hm : (kd st p).2.2 with
    | none =>
      simp only
      have := shares_bd hs ho (by decide) (by decide) (hset _ hmd) (rm := 0)
      rw [List.length_set] at this
      exact this
    | some m =>
      have hmm := hkk.m m hm
      simp only
      split
      · have := shares_bd hs ho (by decide) (by decide) (hset _ hmd) (rm := 0)
        rw [List.length_set] at this
        exact this
      · next hc =>
        have mw : 0 ≤ m * (kd st p).1 := Int.mul_nonneg hmm.1 (by omega)
        have := shares_bd hs ho (rm := rm - m * (kd st p).1) (by omega) (by omega) (hset (m, 1) ⟨hmm.1, by show m ≤ 200; omega, by show (0 : Int) < 1; decide, by show (1 : Int) ≤ 25; decide⟩)
        rw [List.length_set] at this
        exact this
theorem inOrder_in {st : List Kd} (hs : OkS st) : ∀ p ∈ inOrder st, 0 ≤ p ∧ p < st.length := fun p hp => by
  obtain ⟨k, hk, e⟩ := List.mem_iff_getElem.mp hp
  have h : ((inOrder st).map PyData.int)[k]? = some (.int p) := by rw [List.getElem?_map, List.getElem?_eq_getElem hk, e]; rfl
  obtain ⟨q, eq, h0, h1, _⟩ := ord_get hs h
  cases eq
  exact ⟨h0, h1⟩
theorem shares_ok {st : List Kd} (hs : OkS st) {r : Int} (h0 : 0 ≤ r) (h1 : r ≤ 200) : (∀ f ∈ shares st r, ShB f) ∧ (shares st r).length = st.length := by
  have := shares_bd hs (inOrder_in hs) h0 h1 (fs := List.replicate st.length (0, 1)) (fun f hf => by rw [List.eq_of_mem_replicate hf]; exact ⟨by decide, by decide, by decide, by decide⟩)
  rw [List.length_replicate] at this
  exact this
def RworthBy (ds : List PyData) (d : PyData) : Prop := ∃ st, ∃ fs : List Fr, OkS st ∧ (∀ f ∈ fs, ShB f) ∧ fs.length = st.length ∧ ds = [encSt st, .tuple (fs.map encF)] ∧ d = encF (worthGo st fs (0, 1))
theorem sh_sm {k : Kd} (hk : OkK k) {f : Fr} (hf : ShB f) : Sm (made (k.2.1 * f.1) f.2) ∧ 0 ≤ k.2.1 * f.1 := by
  obtain ⟨a, b, c, d⟩ := hf
  have h1 := hk.v1
  have h2 := hk.v2
  have h3 : k.2.1 * f.1 ≤ 39 * 200 := Int.mul_le_mul h2 b a (by decide)
  have h4 : 0 ≤ k.2.1 * f.1 := Int.mul_nonneg h1 a
  exact ⟨made_sm h4 (by omega) c d, h4⟩
theorem h_worth_by (D : Def K mg "worth_by" s_worth_by ["store", "shares"]) (T : Txt mg) (n : Num K mg) (c1 : FnHas P w K mg base "made" 2 (PSp K Rmade)) (c2 : FnHas P w K mg base "plus" 3 (PSp K Rplus)) : FnHas P w K mg base "worth_by" 4 (PSp K RworthBy) := by
  refine pure_of D sc_worth_by (by rintro _ _ ⟨_, _, _, _, _, rfl, _⟩; rfl) fun ds d ⟨st, fs, hs, hf, hl, e1, e2⟩ f cdv A outer s H E bx nd un hr => ?_
  subst e1; subst e2
  have hlen := hs.len
  refine bd_set (k := 2) (e_nought n) ?_
  refine bd_cons (M := fun S' => ∃ x3 x4, S' = [.dat (encSt st), .dat (.tuple (fs.map encF)), .dat (encF (worthGo st fs (0, 1))), x3, x4]) (sd_for (xs := zipD (st.map encK) (fs.map encF)) (Inv := fun k S' => ∃ x3 x4, ∃ g : Fr, Bd k g ∧ worthGo st fs (0, 1) = worthGo (st.drop k) (fs.drop k) g ∧ S' = [.dat (encSt st), .dat (.tuple (fs.map encF)), .dat (encF g), x3, x4])
    (id_zip2 (b1 := false) (b2 := false) (a2 (vr 0) (vr 1)) (fun _ => rfl) T.zip) ⟨.no, .no, (0, 1), ⟨by decide, by decide, by decide, by decide⟩, rfl, rfl⟩ (fun k x S' hx h => ?_) (fun S' h => ?_)) (fun S' h => ?_)
  · obtain ⟨x3, x4, g, hg, hw, e⟩ := h
    subst e
    obtain ⟨a0, b0, ha0, hb0, rfl⟩ := zipD_some hx
    obtain ⟨q, hq, rfl⟩ := map_some ha0
    obtain ⟨sh, hsh, rfl⟩ := map_some hb0
    have hqk := hs.all q (List.mem_of_getElem? hq)
    have hshb := hf sh (List.mem_of_getElem? hsh)
    have hk : k < st.length := (List.getElem?_eq_some_iff.mp hq).1
    rw [drop_get hq, drop_get hsh] at hw
    obtain ⟨sm, snn⟩ := sh_sm hqk hshb
    refine ⟨_, gt2 (gn 3) (gn 4), ?_⟩
    refine bd_set (k := 2) (d := encF (plusF g (made (q.2.1 * sh.1) sh.2))) (e_call c2 hr (a2 (vr 2) (e_call c1 (hr.mono (by decide)) (a2 (ed_bin (ed_ixT (vr 3) ed_int rfl) (ed_ixT (vr 4) ed_int rfl) (o_mul (k_small hqk).2)) (ed_ixT (vr 4) ed_int rfl)) ⟨_, _, snn, hshb.2.2.1, by have := hshb.2.2.2; omega, rfl, rfl⟩)) ⟨g, made (q.2.1 * sh.1) sh.2, bd_ok (by omega) hg sm, rfl, rfl⟩) ?_
    exact bd_end ⟨_, _, plusF g (made (q.2.1 * sh.1) sh.2), bd_plus (by omega) hg sm, hw, rfl⟩
  · obtain ⟨x3, x4, g, hg, hw, e⟩ := h
    rw [zipD_length, List.length_map, List.length_map, hl, Nat.min_self, List.drop_of_length_le (Nat.le_refl _)] at hw
    exact ⟨x3, x4, by rw [e, hw]; simp only [worthGo]⟩
  · obtain ⟨x3, x4, e⟩ := h
    subst e
    apply bd_ret
    · exact vr 2
    · rfl
theorem worth_bd {st : List Kd} : ∀ {fs : List Fr} {g : Fr} {k : Nat}, (∀ q ∈ st, OkK q) → (∀ f ∈ fs, ShB f) → Bd k g → k + st.length ≤ 4 → ∃ j ≤ 4, Bd j (worthGo st fs g) := by
  induction st with
  | nil => intro fs g k _ _ hg h; exact ⟨k, by simpa using h, by cases fs <;> exact hg⟩
  | cons q st ih =>
    intro fs g k hq hf hg h
    cases fs with
    | nil => exact ⟨k, by simp at h; omega, hg⟩
    | cons sh fs =>
      simp only [List.length_cons] at h
      exact ih (k := k + 1) (fun z hz => hq z (List.mem_cons_of_mem _ hz)) (fun z hz => hf z (List.mem_cons_of_mem _ hz)) (bd_plus (by omega) hg (sh_sm (hq q List.mem_cons_self) (hf sh List.mem_cons_self)).1) (by omega)
def RisPrice (ds : List PyData) (d : PyData) : Prop := ∃ f : Fr, 0 ≤ f.1 ∧ 1 ≤ f.2 ∧ cm f.1 f.2 = 1 ∧ ds = [encF f] ∧ d = .bool true
theorem h_is_price (D : Def K mg "is_price" s_is_price ["thing"]) (T : Txt mg) (c1 : FnHas P w K mg base "is_from" 1 (PSp K RisFrom)) (c2 : FnHas P w K mg base "common" 1 (PSp K Rcommon)) : FnHas P w K mg base "is_price" 2 (PSp K RisPrice) := by
  refine pure_of D sc_is_price (by rintro _ _ ⟨_, _, _, _, rfl, _⟩; rfl) fun ds d ⟨⟨p, q⟩, h0, h1, hc, e1, e2⟩ f cdv A outer s H E bx nd un hr => ?_
  subst e1; subst e2
  have h0 : 0 ≤ p := h0
  have h1 : 1 ≤ q := h1
  apply bd_sk
  · exact td_ww (wd_orF (td_not (t_v (e_isi_tuple T (vr 0)))) (wd_orF (td_cmp (e_lenT T (vr 0)) ed_int o_neI) (wd_orF (td_not (t_v (e_call c1 hr (a2 (ed_ixT (vr 0) ed_int rfl) ed_int) (rF h0)))) (wd_or1 (td_not (t_v (e_call c1 hr (a2 (ed_ixT (vr 0) ed_int rfl) ed_int) (rF h1))))))))
  · rfl
  apply bd_ret
  · exact ed_cmp (e_call c2 hr (a2 (ed_ixT (vr 0) ed_int rfl) (ed_ixT (vr 0) ed_int rfl)) ⟨p, q, h0, by omega, rfl, rfl⟩) ed_int o_eqI
  · have : cm p q = 1 := hc
    rw [this]; rfl
def encFo : Option Fr → PyData
  | none => .none
  | some f => encF f
structure OkP (p q : Int) : Prop where
  p0 : 0 ≤ p
  p1 : p ≤ 39
  q0 : 0 < q
  q1 : q ≤ 25
def RboundOf (ds : List PyData) (d : PyData) : Prop := ∃ st, ∃ r p q : Int, OkS st ∧ 0 ≤ r ∧ r ≤ 200 ∧ OkP p q ∧ NoneOk p q st ∧ ds = [encSt st, .int r, encF (p, q)] ∧ d = encFo (boundF st r p q)
theorem h_bound_of (D : Def K mg "bound_of" s_bound_of ["store", "room", "price"]) (T : Txt mg) (c1 : FnHas P w K mg base "made" 2 (PSp K Rmade)) (c2 : FnHas P w K mg base "plus" 3 (PSp K Rplus)) : FnHas P w K mg base "bound_of" 4 (PSp K RboundOf) := by
  refine pure_of D sc_bound_of (by rintro _ _ ⟨_, _, _, _, _, _, _, _, _, rfl, _⟩; rfl) fun ds d ⟨st, r, p, q, hs, h0, h1, hp, hn, e1, e2⟩ f cdv A outer s H E bx nd un hr => ?_
  subst e1; subst e2
  have hlen := hs.len
  have p0 := hp.p0; have p1 := hp.p1; have q0 := hp.q0; have q1 := hp.q1
  have cp : ∀ z : Int, CMul z p := fun z => .inr ⟨by omega, by omega⟩
  have cq : ∀ z : Int, CMul z q := fun z => .inr ⟨by omega, by omega⟩
  have rp : r * p ≤ 200 * 39 := Int.mul_le_mul h1 p1 p0 (by decide)
  have rp0 : 0 ≤ r * p := Int.mul_nonneg h0 p0
  refine bd_set (k := 3) (e_call c1 (hr.mono (by decide)) (a2 (ed_bin (vr 1) (ed_ixT (vr 2) ed_int rfl) (o_mul (cp _))) (ed_ixT (vr 2) ed_int rfl)) ⟨r * p, q, rp0, q0, by omega, rfl, rfl⟩) ?_
  refine bd_cons (M := fun S' => ∃ x4 x5 x6 x7, ∃ g : Fr, boundF st r p q = some g ∧ S' = [.dat (encSt st), .dat (.int r), .dat (encF (p, q)), .dat (encF g), x4, x5, x6, x7]) (sd_for (xs := st.map encK) (Inv := fun k S' => ∃ x4 x5 x6 x7, ∃ g : Fr, Bd (k + 1) g ∧ boundF st r p q = bndGo p q (st.drop k) g ∧ S' = [.dat (encSt st), .dat (.int r), .dat (encF (p, q)), .dat (encF g), x4, x5, x6, x7])
    (id_tup (vr 0)) ⟨.no, .no, .no, .no, made (r * p) q, (made_sm rp0 (by omega) q0 q1).bd, rfl, rfl⟩ (fun k x S' hx h => ?_) (fun S' h => ?_)) (fun S' h => ?_)
  · obtain ⟨x4, x5, x6, x7, g, hg, hb, e⟩ := h
    subst e
    obtain ⟨⟨wt, v, mo⟩, hq, rfl⟩ := map_some hx
    have hk : k < st.length := (List.getElem?_eq_some_iff.mp hq).1
    have hmem := List.mem_of_getElem? hq
    have hqk := hs.all _ hmem
    rw [drop_get hq] at hb
    have w1 : 1 ≤ wt := hqk.w1
    have w2 : wt ≤ 25 := hqk.w2
    have v1 : 0 ≤ v := hqk.v1
    have v2 : v ≤ 39 := hqk.v2
    have hvq : v * q ≤ 39 * 25 := Int.mul_le_mul v2 q1 (Int.le_of_lt q0) (by decide)
    have hwp : 0 ≤ wt * p := Int.mul_nonneg (by omega) p0
    refine ⟨_, gt3 (gn 4) (gn 5) (gn 6), ?_⟩
    refine bd_set (k := 7) (ed_bin (ed_bin (vr 5) (ed_ixT (vr 2) ed_int rfl) (o_mul (cq _))) (ed_bin (vr 4) (ed_ixT (vr 2) ed_int rfl) (o_mul (cp _))) o_sub) ?_
    by_cases hc : v * q - wt * p > 0
    · cases mo with
      | none => exact absurd (hn _ hmem rfl) (by show ¬ (v * q - wt * p ≤ 0); omega)
      | some m =>
        have hm := hqk.m m rfl
        have hmm : (v * q - wt * p) * m ≤ 975 * 5 := Int.mul_le_mul (by omega) hm.2 hm.1 (by decide)
        have hmm0 : 0 ≤ (v * q - wt * p) * m := Int.mul_nonneg (by omega) hm.1
        have sm := made_sm hmm0 (by omega) q0 q1
        have eb : bndGo p q ((wt, v, some m) :: st.drop (k + 1)) g = bndGo p q (st.drop (k + 1)) (plusF g (made ((v * q - wt * p) * m) q)) := by
          simp only [bndGo]
          rw [if_pos hc]
        apply bd_sk
        · exact td_ww (wd_andT (td_cmp (vr 7) ed_int o_gt) (wd_and1 (td_cmp (vr 6) ed_none o_is)) (decide_eq_true hc))
        · rfl
        apply bd_tk
        · exact td_cmp (vr 7) ed_int o_gt
        · exact decide_eq_true hc
        · refine bd_set (k := 3) (d := encF (plusF g (made ((v * q - wt * p) * m) q))) (e_call c2 hr (a2 (vr 3) (e_call c1 (hr.mono (by decide)) (a2 (ed_bin (vr 7) (vr 6) (o_mul (.inr ⟨by omega, by omega⟩))) (ed_ixT (vr 2) ed_int rfl)) ⟨_, _, hmm0, q0, by omega, rfl, rfl⟩)) ⟨g, _, bd_ok (by omega) hg sm, rfl, rfl⟩) ?_
          exact bd_end (bd_end ⟨_, _, _, _, _, bd_plus (by omega) hg sm, hb.trans eb, rfl⟩)
    · have eb : bndGo p q ((wt, v, mo) :: st.drop (k + 1)) g = bndGo p q (st.drop (k + 1)) g := by
        rw [bndGo]
        rw [if_neg hc]
      apply bd_sk
      · exact td_ww (wd_andF (td_cmp (vr 7) ed_int o_gt) (decide_eq_false hc))
      · rfl
      apply bd_sk
      · exact td_cmp (vr 7) ed_int o_gt
      · exact decide_eq_false hc
      have hbd : Bd (k + 2) g := by
        obtain ⟨c1, c2, c3, c4⟩ := bd_const (k := k + 1) (by omega)
        have n1 := hg.n1
        have d1 := hg.d1
        exact ⟨hg.n0, by show g.1 ≤ 25 * bdN (k + 1) + 39000 * bdD (k + 1); omega, hg.d0, by show g.2 ≤ 25 * bdD (k + 1); omega⟩
      exact bd_end ⟨_, _, _, _, g, hbd, hb.trans eb, rfl⟩
  · obtain ⟨x4, x5, x6, x7, g, hg, hb, e⟩ := h
    rw [List.length_map, List.drop_of_length_le (Nat.le_refl _)] at hb
    exact ⟨x4, x5, x6, x7, g, hb, e⟩
  · obtain ⟨x4, x5, x6, x7, g, hb, e⟩ := h
    subst e
    rw [hb]
    apply bd_ret
    · exact vr 3
    · rfl
end
end Sk


set_option Elab.async false
set_option linter.all false
set_option maxRecDepth 100000
set_option maxHeartbeats 4000000
namespace Sk
open PySem L2
section
variable {P : Program} {w : World} {K : PySem.W.Frag} {mg : Str → Option Value} {base : Heap} {F : Fam} {S S1 S2 : List Sl} {pos : Pos} {s : Stmt} {Q : Po} {a b e : Expr} {ds : List PyData} {d : PyData} {i : Int}
def RpriceOf (ds : List PyData) (d : PyData) : Prop := ∃ st, ∃ r : Int, OkS st ∧ 0 ≤ r ∧ r ≤ 200 ∧ ds = [encSt st, .int r] ∧ d = encF (price st r)
theorem h_price_of (D : Def K mg "price_of" s_price_of ["store", "room"]) (n : Num K mg) (c1 : FnHas P w K mg base "in_order" 1 (PSp K RinOrder)) (c2 : FnHas P w K mg base "made" 2 (PSp K Rmade)) : FnHas P w K mg base "price_of" 3 (PSp K RpriceOf) := by
  refine pure_of D sc_price_of (by rintro _ _ ⟨_, _, _, _, _, rfl, _⟩; rfl) fun ds d ⟨st, r, hs, h0, h1, e1, e2⟩ f cdv A outer s H E bx nd un hr => ?_
  subst e1; subst e2
  have hlen := hs.len
  refine bd_set (k := 2) (vr 1) ?_
  refine bd_cons (M := fun S' => price st r = (0, 1)) (sd_for (xs := (inOrder st).map PyData.int) (Inv := fun k S' => ∃ x3 x4 x5 x6, ∃ lf : Int, 0 ≤ lf ∧ price st r = priceGo st ((inOrder st).drop k) lf ∧ S' = [.dat (encSt st), .dat (.int r), .dat (.int lf), x3, x4, x5, x6])
    (id_lst (e_call c1 (hr.mono (by decide)) (a1 (vr 0)) ⟨st, hs, rfl, rfl⟩)) ⟨.no, .no, .no, .no, r, h0, rfl, rfl⟩ (fun k x S' hx h => ?_) (fun S' h => ?_)) (fun S' h => ?_)
  · obtain ⟨x3, x4, x5, x6, lf, m0, hpr, e⟩ := h
    subst e
    obtain ⟨p, rfl, p0, p1, hk, hdr⟩ := ord_get hs hx
    rw [hdr] at hpr
    have hkd := atI_kd p0 p1
    rcases hkk : kd st p with ⟨wt, v, mo⟩
    rw [hkk] at hk hkd
    have w1 : 1 ≤ wt := hk.w1
    have w2 : wt ≤ 25 := hk.w2
    have v1 : 0 ≤ v := hk.v1
    refine ⟨_, gn 3, ?_⟩
    refine bd_cons (M := fun S' => S' = [.dat (encSt st), .dat (.int r), .dat (.int lf), .dat (.int p), .dat (.int wt), .dat (.int v), .dat (encO mo)]) (sd_asg (ed_ixT (vr 0) (vr 3) hkd) (gt3 (gn 4) (gn 5) (gn 6)) rfl) ?_
    rintro S' rfl
    cases mo with
    | none =>
      have es : priceGo st (p :: (inOrder st).drop (k + 1)) lf = made v wt := by simp only [priceGo, hkk]
      apply bd_tk
      · exact td_ww (wd_orT (td_cmp (vr 6) ed_none o_is))
      · rfl
      · apply bd_ret
        · exact e_call c2 hr (a2 (vr 5) (vr 4)) ⟨v, wt, v1, by omega, by omega, rfl, rfl⟩
        · exact congrArg encF (hpr.trans es).symm
    | some m =>
      have hm := hk.m m rfl
      have cm1 : CMul m wt := .inr ⟨by omega, by omega⟩
      by_cases hc : m * wt > lf
      · have es : priceGo st (p :: (inOrder st).drop (k + 1)) lf = made v wt := by simp only [priceGo, hkk]; rw [if_pos hc]
        apply bd_tk
        · exact td_ww (wd_orF (td_cmp (vr 6) ed_none o_is) (wd_or1 (td_cmp (ed_bin (vr 6) (vr 4) (o_mul cm1)) (vr 2) o_gt)))
        · exact decide_eq_true hc
        · apply bd_ret
          · exact e_call c2 hr (a2 (vr 5) (vr 4)) ⟨v, wt, v1, by omega, by omega, rfl, rfl⟩
          · exact congrArg encF (hpr.trans es).symm
      · have es : priceGo st (p :: (inOrder st).drop (k + 1)) lf = priceGo st ((inOrder st).drop (k + 1)) (lf - m * wt) := by simp only [priceGo, hkk]; rw [if_neg hc]
        apply bd_sk
        · exact td_ww (wd_orF (td_cmp (vr 6) ed_none o_is) (wd_or1 (td_cmp (ed_bin (vr 6) (vr 4) (o_mul cm1)) (vr 2) o_gt)))
        · exact decide_eq_false hc
        refine bd_set (k := 2) (ed_bin (vr 2) (ed_bin (vr 6) (vr 4) (o_mul cm1)) o_sub) ?_
        exact bd_end ⟨_, _, _, _, lf - m * wt, by omega, hpr.trans es, rfl⟩
  · obtain ⟨x3, x4, x5, x6, lf, m0, hpr, e⟩ := h
    rw [List.length_map, List.drop_of_length_le (Nat.le_refl _)] at hpr
    exact hpr
  · apply bd_ret
    · exact e_nought n
    · exact congrArg encF h.symm
theorem h_some_price (D : Def K mg "some_price" s_some_price ["store", "room"]) (c1 : FnHas P w K mg base "need_asked" 5 (PSp K (Rnone CAsk))) (c2 : FnHas P w K mg base "price_of" 3 (PSp K RpriceOf)) : FnHas P w K mg base "some_price" 6 (PSp K RpriceOf) := by
  refine pure_of D sc_some_price (by rintro _ _ ⟨_, _, _, _, _, rfl, _⟩; rfl) fun ds d ⟨st, r, hs, h0, h1, e1, e2⟩ f cdv A outer s H E bx nd un hr => ?_
  subst e1; subst e2
  refine bd_drop (e_call c1 hr (a2 (vr 0) (vr 1)) ⟨⟨st, r, hs, h0, rfl⟩, rfl⟩) ?_
  apply bd_ret
  · exact e_call c2 (hr.mono (by decide)) (a2 (vr 0) (vr 1)) ⟨st, r, hs, h0, h1, rfl, rfl⟩
  · rfl
def RwholeB (ds : List PyData) (d : PyData) : Prop := ∃ st, ∃ r : Int, OkS st ∧ 0 ≤ r ∧ r ≤ 200 ∧ ds = [encSt st, .int r] ∧ d = .int (wholeB st r)
theorem h_whole_bound (D : Def K mg "whole_bound" s_whole_bound ["store", "room"]) (c1 : FnHas P w K mg base "need_asked" 5 (PSp K (Rnone CAsk))) (c2 : FnHas P w K mg base "shares_of" 3 (PSp K RsharesOf)) (c3 : FnHas P w K mg base "worth_by" 4 (PSp K RworthBy)) : FnHas P w K mg base "whole_bound" 6 (PSp K RwholeB) := by
  refine pure_of D sc_whole_bound (by rintro _ _ ⟨_, _, _, _, _, rfl, _⟩; rfl) fun ds d ⟨st, r, hs, h0, h1, e1, e2⟩ f cdv A outer s H E bx nd un hr => ?_
  subst e1; subst e2
  have hlen := hs.len
  obtain ⟨sb, sl⟩ := shares_ok hs h0 h1
  obtain ⟨j, hj, bd⟩ := worth_bd (g := (0, 1)) (k := 0) hs.all sb ⟨by decide, by decide, by decide, by decide⟩ (by omega)
  have hc := (bd_const hj).2.1
  have d0 := bd.d0
  have d1 := bd.d1
  refine bd_drop (e_call c1 hr (a2 (vr 0) (vr 1)) ⟨⟨st, r, hs, h0, rfl⟩, rfl⟩) ?_
  refine bd_cons (M := fun S' => S' = [.dat (encSt st), .dat (.int r), .dat (.int (worthS st r).1), .dat (.int (worthS st r).2)]) (sd_asg (d := encF (worthS st r)) (e_call c3 (hr.mono (by decide)) (a2 (vr 0) (ed_ixT (e_call c2 (hr.mono (by decide)) (a2 (vr 0) (vr 1)) ⟨st, r, hs, h0, h1, rfl, rfl⟩) ed_int rfl)) ⟨st, shares st r, hs, sb, sl, rfl, rfl⟩) (gt2 (gn 2) (gn 3)) rfl) ?_
  rintro S' rfl
  apply bd_ret
  · exact ed_bin (vr 2) (vr 3) (o_fdiv ⟨d0, by show (worthGo st (shares st r) (0, 1)).2 < 1073741824; omega⟩)
  · rfl
/-! ### without, below -/
theorem cut_to {xs : List PyData} {i : Nat} (h : i ≤ xs.length) : cutD xs none (some i) = xs.take i := by
  unfold cutD
  have e : HT.sIx xs.length xs.length (some (i : Int)) = i := by rw [HT.sIx_nat]; omega
  rw [e, HT.sIx_none]
  rfl
theorem cut_from {xs : List PyData} {i : Nat} (h : i ≤ xs.length) : cutD xs (some i) none = xs.drop i := by
  unfold cutD
  have e : HT.sIx xs.length 0 (some (i : Int)) = i := by rw [HT.sIx_nat]; omega
  rw [e, HT.sIx_none]
  exact List.take_of_length_le (by rw [List.length_drop]; omega)
def Rwithout (ds : List PyData) (d : PyData) : Prop := ∃ st, ∃ i : Nat, OkS st ∧ i < st.length ∧ ds = [encSt st, .int i] ∧ d = encSt (without st i)
theorem h_without (D : Def K mg "without" s_without ["store", "place"]) : FnHas P w K mg base "without" 1 (PSp K Rwithout) := by
  refine pure_of D sc_without (by rintro _ _ ⟨_, _, _, _, rfl, _⟩; rfl) fun ds d ⟨st, i, hs, hi, e1, e2⟩ f cdv A outer s H E bx nd un hr => ?_
  subst e1; subst e2
  have hlen := hs.len
  have hkd := atI_kd (st := st) (p := (i : Int)) (by omega) (by omega)
  rcases hkk : kd st i with ⟨wt, v, mo⟩
  rw [hkk] at hkd
  have e1 : cutD (st.map encK) none (some (i : Int)) = (st.map encK).take i := cut_to (by rw [List.length_map]; omega)
  have e2 : cutD (st.map encK) (some ((i : Int) + 1)) none = (st.map encK).drop (i + 1) := cut_from (i := i + 1) (by rw [List.length_map]; omega)
  have e3 : encSt (without st i) = .tuple (((st.map encK).take i ++ [encK (wt, v, some 0)]) ++ (st.map encK).drop (i + 1)) := by
    unfold without encSt
    have e4 : st.getD i (1, 0, none) = (wt, v, mo) := hkk
    rw [e4, List.set_eq_take_append_cons_drop, if_pos hi, List.map_append, List.map_take, List.append_assoc]
    rw [List.map_cons, List.map_drop]
    rfl
  rw [e3, ← e1, ← e2]
  have l1 : (cutD (st.map encK) none (some (i : Int))).length ≤ 4 := by rw [e1, List.length_take, List.length_map]; omega
  have l2 : (cutD (st.map encK) (some ((i : Int) + 1)) none).length ≤ 4 := by rw [e2, List.length_drop, List.length_map]; omega
  apply bd_ret
  · exact ed_bin (ed_bin (ed_slT (vr 0) od_none (od_some (vr 1))) (ed_tup (a1 (ed_bin (ed_slT (ed_ixT (vr 0) (vr 1) hkd) od_none (od_some ed_int)) (ed_tup (a1 ed_int)) (o_cat (by show 2 + 1 ≤ 100000; decide))))) (o_cat (by simp only [List.length_singleton]; omega))) (ed_slT (vr 0) (od_some (ed_bin (vr 1) ed_int o_add)) od_none) (o_cat (by simp only [List.length_append, List.length_singleton]; omega))
  · rfl
def Rbelow (ds : List PyData) (d : PyData) : Prop := ∃ f : Fr, ∃ u : Int, 0 < f.2 ∧ f.2 ≤ Big ∧ ds = [encF f, .int u] ∧ d = .bool (belowF f u)
theorem h_below (D : Def K mg "below" s_below ["one", "u"]) : FnHas P w K mg base "below" 1 (PSp K Rbelow) := by
  refine pure_of D sc_below (by rintro _ _ ⟨_, _, _, _, rfl, _⟩; rfl) fun ds d ⟨f, u, h0, h1, e1, e2⟩ f cdv A outer s H E bx nd un hr => ?_
  subst e1; subst e2
  apply bd_ret
  · exact ed_cmp (ed_ixT (vr 0) ed_int rfl) (ed_bin (vr 1) (ed_ixT (vr 0) ed_int rfl) (o_mul (by unfold Big at h1; exact .inr ⟨by omega, by omega⟩))) o_lt
  · rfl
theorem bnd_bd {p q : Int} (hp : OkP p q) : ∀ {st : List Kd} {g f : Fr} {k : Nat}, (∀ z ∈ st, OkK z) → Bd k g → k + st.length ≤ 5 → bndGo p q st g = some f → 0 < f.2 ∧ f.2 ≤ Big := by
  intro st
  induction st with
  | nil =>
    intro g f k _ hg h e
    cases e
    have : k ≤ 5 := by simpa using h
    have h5 : bdD k ≤ Big := by
      rcases Nat.lt_or_ge k 5 with h | h
      · have := (bd_const (k := k) (by omega)).2.1
        unfold Big; omega
      · have : k = 5 := by omega
        subst this; decide
    exact ⟨hg.d0, Int.le_trans hg.d1 h5⟩
  | cons z st ih =>
    intro g f k hz hg h e
    simp only [List.length_cons] at h
    have hzk := hz z List.mem_cons_self
    have hz' : ∀ y ∈ st, OkK y := fun y hy => hz y (List.mem_cons_of_mem _ hy)
    have up : Bd (k + 1) g := by
      obtain ⟨c1, c2, c3, c4⟩ := bd_const (k := k) (by omega)
      have n1 := hg.n1
      have d1 := hg.d1
      exact ⟨hg.n0, by show g.1 ≤ 25 * bdN k + 39000 * bdD k; omega, hg.d0, by show g.2 ≤ 25 * bdD k; omega⟩
    unfold bndGo at e
    by_cases hc : z.2.1 * q - z.1 * p > 0
    · rw [if_pos hc] at e
      cases hm : z.2.2 with
      | none => rw [hm] at e; cases e
      | some m =>
        rw [hm] at e
        have hmk := hzk.m m hm
        have hvq : z.2.1 * q ≤ 39 * 25 := Int.mul_le_mul hzk.v2 hp.q1 (Int.le_of_lt hp.q0) (by decide)
        have hwp : 0 ≤ z.1 * p := Int.mul_nonneg (by have := hzk.w1; omega) hp.p0
        have hmm : (z.2.1 * q - z.1 * p) * m ≤ 975 * 5 := Int.mul_le_mul (by omega) hmk.2 hmk.1 (by decide)
        have hmm0 : 0 ≤ (z.2.1 * q - z.1 * p) * m := Int.mul_nonneg (by omega) hmk.1
        exact ih hz' (bd_plus (by omega) hg (made_sm hmm0 (by omega) hp.q0 hp.q1)) (by omega) e
    · rw [if_neg hc] at e
      exact ih hz' up (by omega) e
theorem bound_bd {st : List Kd} {r p q : Int} {f : Fr} (hs : OkS st) (h0 : 0 ≤ r) (h1 : r ≤ 200) (hp : OkP p q) (h : boundF st r p q = some f) : 0 < f.2 ∧ f.2 ≤ Big := by
  have rp : r * p ≤ 200 * 39 := Int.mul_le_mul h1 hp.p1 hp.p0 (by decide)
  have rp0 : 0 ≤ r * p := Int.mul_nonneg h0 hp.p0
  exact bnd_bd hp (k := 1) hs.all (made_sm rp0 (by omega) hp.q0 hp.q1).bd (by have := hs.len; omega) h
theorem price_okp {st : List Kd} {r : Int} (hs : OkS st) : OkP (price st r).1 (price st r).2 := by
  have key : ∀ (o : List Int) (lf : Int), (∀ p ∈ o, 0 ≤ p ∧ p < st.length) → OkP (priceGo st o lf).1 (priceGo st o lf).2 := by
    intro o
    induction o with
    | nil => intro lf _; show OkP 0 1; exact ⟨by decide, by decide, by decide, by decide⟩
    | cons p o ih =>
      intro lf hp
      have hk := hp p List.mem_cons_self
      have hkk := kd_ok hs.all hk.1 hk.2
      have w1 := hkk.w1; have w2 := hkk.w2; have v1 := hkk.v1; have v2 := hkk.v2
      have hm : OkP (made (kd st p).2.1 (kd st p).1).1 (made (kd st p).2.1 (kd st p).1).2 := by
        obtain ⟨q1, q2⟩ := made_le v1 (show 0 < (kd st p).1 by omega)
        obtain ⟨q3, q4⟩ := made_pos v1 (show 0 < (kd st p).1 by omega)
        exact ⟨q4, by omega, q3, by omega⟩
      unfold priceGo
      cases (kd st p).2.2 with
      | none => exact hm
      | some m =>
        simp only
        split
        · exact hm
        · exact ih _ fun q hq => hp q (List.mem_cons_of_mem _ hq)
  exact key _ _ (inOrder_in hs)
end
end Sk


set_option Elab.async false
set_option linter.all false
set_option maxRecDepth 100000
set_option maxHeartbeats 4000000
namespace Sk
open PySem L2
/-! ### cuts -/
mutual
def encT : Tr → PyData
  | .price p q => .tuple [.str "price", encF (p, q)]
  | .kind i ps => .tuple [.str "kind", .int i, .tuple (encTs ps)]
def encTs : List Tr → List PyData
  | [] => []
  | t :: ts => encT t :: encTs ts
end
theorem encTs_map : ∀ ts : List Tr, encTs ts = ts.map encT
  | [] => rfl
  | t :: ts => by rw [encTs, encTs_map ts]; rfl
inductive CutV : Nat → List Kd → Int → Int → Tr → Bool → Prop
  | price {n : Nat} {st : List Kd} {room u p q : Int} {f : Fr} (hp : OkP p q) (hc : cm p q = 1) (hn : NoneOk p q st) (hb : boundF st room p q = some f) : CutV n st room u (.price p q) (belowF f u)
  | kind {n : Nat} {st : List Kd} {room u : Int} {i : Nat} {k : Kd} {parts : List Tr} (hi : st[i]? = some k) (hk : k.2.2 ≠ some 0) (hl : parts.length = (mostIn k room + 1).toNat)
      (h : ∀ (t : Nat) (tr : Tr), parts[t]? = some tr → CutV n (without st i) (room - t * k.1) (u - t * k.2.1) tr true) : CutV (n + 1) st room u (.kind i parts) true
theorem CutV.more {n : Nat} {st : List Kd} {room u : Int} {tr : Tr} {v : Bool} (h : CutV n st room u tr v) : ∀ {u' : Int}, v = true → OkS st → 0 ≤ room → room ≤ 200 → u ≤ u' → CutV n st room u' tr true := by
  induction h with
  | @price n st room u p q f hp hc hn hb =>
    intro u' hv hs h0 h1 hu
    have hf := (bound_bd hs h0 h1 hp hb).1
    have h := of_decide_eq_true hv
    have := Int.mul_le_mul_of_nonneg_right hu (Int.le_of_lt hf)
    have e : belowF f u' = true := decide_eq_true (by omega)
    rw [← e]
    exact .price hp hc hn hb
  | @kind n st room u i k parts hi hk hl h ih =>
    intro u' _ hs h0 h1 hu
    have hkk := hs.all k (List.mem_of_getElem? hi)
    refine .kind hi hk hl fun t tr ht => ih t tr ht rfl ⟨by rw [without_length]; exact hs.len, without_ok hs.all⟩ ?_ ?_ (by omega)
    · have htl := (List.getElem?_eq_some_iff.mp ht).1
      have := mostIn_mul hkk (t := (t : Int)) (room := room) (by omega)
      omega
    · have : 0 ≤ (t : Int) * k.1 := Int.mul_nonneg (by omega) (by have := hkk.w1; omega)
      omega
theorem cutGo_v : ∀ {n : Nat} {st : List Kd} {room u : Int}, OkS st → 0 ≤ room → (∀ v, Reach st room v → v < u) → nz st < n → CutV n st room u (cutGo n st room u) true
  | 0, _, _, _, _, _, _, h => by omega
  | n + 1, st, room, u, hs, hr, hu, hn => by
    obtain ⟨po, _⟩ := price_ok hs.all hr
    obtain ⟨g, g1, g2⟩ := bound_of_price po hr hs.all
    unfold cutGo
    rw [g1]
    by_cases hb : g.1 < u * g.2
    · have : belowF g u = true := decide_eq_true hb
      simp only [this, if_true]
      have e := CutV.price (n := n + 1) (u := u) (price_okp (r := room) hs) po.cop po.none g1
      rw [this] at e
      exact e
    · have : belowF g u = false := decide_eq_false hb
      simp only [this, Bool.false_eq_true, if_false]
      have hnz : nz st ≠ 0 := fun z => by
        have hz : ∀ k ∈ st, k.2.2 = some 0 := fun k hk => by
          unfold nz at z
          rw [List.length_eq_zero_iff, List.filter_eq_nil_iff] at z
          have := z k hk
          simpa using this
        obtain ⟨e1, e2⟩ := price_none hs.all hr hz
        rw [e1] at g2
        obtain ⟨a1, a2, a3⟩ := g2
        rw [e2] at a3
        have u0 := hu 0 (.zero hr hs.all)
        have : 0 < u * g.2 := Int.mul_pos u0 a1
        apply hb
        omega
      obtain ⟨k, hk, hk0⟩ := firstK_ok hnz
      have ek : st.getD (firstK st) (1, 0, none) = k := by rw [List.getD_eq_getElem?_getD, hk]; rfl
      rw [ek]
      have okk := hs.all k (List.mem_of_getElem? hk)
      refine .kind hk hk0 (by simp) fun t tr ht => ?_
      have htl : t < (mostIn k room + 1).toNat := by
        have := (List.getElem?_eq_some_iff.mp ht).1
        simpa using this
      rw [List.getElem?_map, List.getElem?_range htl] at ht
      cases ht
      have tm : (t : Int) ≤ mostIn k room := by omega
      refine cutGo_v ⟨by rw [without_length]; exact hs.len, without_ok hs.all⟩ (by have := mostIn_mul okk tm; omega) (fun v hv => ?_) (by have := nz_without hk hk0; omega)
      have := hu _ ((reach_without hk hs.all (by omega) (mostIn_m tm) hv).le (r' := room) (by omega))
      omega
section
variable {P : Program} {w : World} {K : PySem.W.Frag} {mg : Str → Option Value} {base : Heap} {F : Fam} {S S1 S2 : List Sl} {pos : Pos} {s : Stmt} {Q : Po} {a b e : Expr} {ds : List PyData} {d : PyData} {i : Int}
theorem o_eq0 {mo : Option Int} (h : mo ≠ some 0) : OpD F (compareOp .Eq) (encO mo) (.int 0) (.bool false) := by
  cases mo with
  | none => exact o_eqS (u := .non) (v := .int 0) rfl rfl rfl
  | some m =>
    have h := o_eqI (F := F) (i := m) (j := 0)
    have e : decide (m = 0) = false := decide_eq_false fun z => by subst z; contradiction
    rw [e] at h
    exact h
theorem o_ne0 {mo : Option Int} : OpD F (compareOp .NotEq) (encO mo) (.int 0) (.bool (decide (mo ≠ some 0))) := by
  cases mo with
  | none => exact o_neS (u := .non) (v := .int 0) rfl rfl rfl
  | some m =>
    have h := o_neI (F := F) (i := m) (j := 0)
    have e : (!decide (m = 0)) = decide ((some m : Option Int) ≠ some 0) := by
      by_cases z : m = 0
      · simp [z]
      · simp [z]
    rw [e] at h
    exact h
def RcutOf (n : Nat) (ds : List PyData) (d : PyData) : Prop := ∃ st, ∃ room u : Int, ∃ tr v, OkS st ∧ 0 ≤ room ∧ room ≤ 200 ∧ CutV n st room u tr v ∧ ds = [encT tr, encSt st, .int room, .int u] ∧ d = .bool v
theorem h_is_cut_of (D : Def K mg "is_cut_of" s_is_cut_of ["thing", "store", "room", "u"]) (T : Txt mg) (c1 : FnHas P w K mg base "is_from" 1 (PSp K RisFrom)) (c2 : FnHas P w K mg base "is_price" 2 (PSp K RisPrice)) (c3 : FnHas P w K mg base "bound_of" 4 (PSp K RboundOf)) (c4 : FnHas P w K mg base "below" 1 (PSp K Rbelow))
    (c5 : FnHas P w K mg base "most_in" 1 (PSp K RmostIn)) (c6 : FnHas P w K mg base "without" 1 (PSp K Rwithout)) : ∀ n : Nat, FnHas P w K mg base "is_cut_of" (5 + n) (PSp K (RcutOf n)) := by
  intro n
  induction n with
  | zero =>
    refine pure_of (k := 4) D sc_is_cut_of (by rintro _ _ ⟨_, _, _, _, _, _, _, _, _, rfl, _⟩; rfl) fun ds d ⟨st, room, u, tr, v, hs, h0, h1, hv, e1, e2⟩ f cdv A outer s H E bx nd un hr => ?_
    subst e1; subst e2
    cases hv with
    | @price _ _ _ _ p q f hp hc hn hb =>
      have hbd := bound_bd hs h0 h1 hp hb
      apply bd_sk
      · exact td_ww (wd_orF (td_not (t_v (e_isi_tuple T (vr 0)))) (wd_orF (td_cmp (e_lenT T (vr 0)) ed_int o_lt) (wd_or1 (td_not (t_v (e_isi_str T (ed_ixT (vr 0) ed_int rfl)))))))
      · rfl
      apply bd_tk
      · exact td_cmp (ed_ixT (vr 0) ed_int rfl) ed_str o_eqT
      · exact decide_eq_true rfl
      · apply bd_sk
        · exact td_ww (wd_orF (td_cmp (e_lenT T (vr 0)) ed_int o_neI) (wd_or1 (td_not (t_v (e_call c2 (hr.mono (by decide)) (a1 (ed_ixT (vr 0) ed_int rfl)) ⟨(p, q), hp.p0, hp.q0, hc, rfl, rfl⟩)))))
        · rfl
        refine bd_set (k := 4) (e_call c3 hr (a3 (vr 1) (vr 2) (ed_ixT (vr 0) ed_int rfl)) ⟨st, room, p, q, hs, h0, h1, hp, hn, rfl, rfl⟩) ?_
        rw [hb]
        apply bd_ret
        · exact ed_andT (ed_cmp (vr 4) ed_none o_isnot) (ed_one (e_call c4 (hr.mono (by decide)) (a2 (vr 4) (vr 3)) ⟨f, u, hbd.1, hbd.2, rfl, rfl⟩))
        · rfl
  | succ n ih =>
    refine pure_of (k := 5 + n) D sc_is_cut_of (by rintro _ _ ⟨_, _, _, _, _, _, _, _, _, rfl, _⟩; rfl) fun ds d ⟨st, room, u, tr, v, hs, h0, h1, hv, e1, e2⟩ f cdv A outer s H E bx nd un hr => ?_
    subst e1; subst e2
    cases hv with
    | @price _ _ _ _ p q f hp hc hn hb =>
      have hbd := bound_bd hs h0 h1 hp hb
      apply bd_sk
      · exact td_ww (wd_orF (td_not (t_v (e_isi_tuple T (vr 0)))) (wd_orF (td_cmp (e_lenT T (vr 0)) ed_int o_lt) (wd_or1 (td_not (t_v (e_isi_str T (ed_ixT (vr 0) ed_int rfl)))))))
      · rfl
      apply bd_tk
      · exact td_cmp (ed_ixT (vr 0) ed_int rfl) ed_str o_eqT
      · exact decide_eq_true rfl
      · apply bd_sk
        · exact td_ww (wd_orF (td_cmp (e_lenT T (vr 0)) ed_int o_neI) (wd_or1 (td_not (t_v (e_call c2 (hr.mono (by omega)) (a1 (ed_ixT (vr 0) ed_int rfl)) ⟨(p, q), hp.p0, hp.q0, hc, rfl, rfl⟩)))))
        · rfl
        refine bd_set (k := 4) (e_call c3 (hr.mono (by omega)) (a3 (vr 1) (vr 2) (ed_ixT (vr 0) ed_int rfl)) ⟨st, room, p, q, hs, h0, h1, hp, hn, rfl, rfl⟩) ?_
        rw [hb]
        apply bd_ret
        · exact ed_andT (ed_cmp (vr 4) ed_none o_isnot) (ed_one (e_call c4 (hr.mono (by omega)) (a2 (vr 4) (vr 3)) ⟨f, u, hbd.1, hbd.2, rfl, rfl⟩))
        · rfl
    | @kind _ _ _ _ i k parts hi hk hl hpt =>
      have hlen := hs.len
      have hil : i < st.length := (List.getElem?_eq_some_iff.mp hi).1
      have ek : kd st i = k := by unfold kd; rw [Int.toNat_natCast, List.getD_eq_getElem?_getD, hi]; rfl
      have hkd := atI_kd (st := st) (p := (i : Int)) (by omega) (by omega)
      rw [ek] at hkd
      have hkk := hs.all k (List.mem_of_getElem? hi)
      have w1 := hkk.w1; have w2 := hkk.w2; have v1 := hkk.v1; have v2 := hkk.v2
      have m0 := mostIn_nn hkk h0
      have hpl : ((encTs parts).length : Int) = mostIn k room + 1 := by rw [encTs_map, List.length_map, hl]; omega
      apply bd_sk
      · exact td_ww (wd_orF (td_not (t_v (e_isi_tuple T (vr 0)))) (wd_orF (td_cmp (e_lenT T (vr 0)) ed_int o_lt) (wd_or1 (td_not (t_v (e_isi_str T (ed_ixT (vr 0) ed_int rfl)))))))
      · rfl
      apply bd_sk
      · exact td_cmp (ed_ixT (vr 0) ed_int rfl) ed_str o_eqT
      · decide
      apply bd_sk
      · exact td_ww (wd_orF (td_cmp (ed_ixT (vr 0) ed_int rfl) ed_str o_neT) (wd_orF (td_cmp (e_lenT T (vr 0)) ed_int o_neI) (wd_orF (td_not (t_v (e_call c1 (hr.mono (by omega)) (a2 (ed_ixT (vr 0) ed_int rfl) ed_int) (rF (by omega))))) (wd_or1 (td_cmp (ed_ixT (vr 0) ed_int rfl) (e_lenT T (vr 1)) o_ge)))) (by decide))
      · exact decide_eq_false (by rw [List.length_map]; omega)
      refine bd_set (k := 5) (ed_ixT (vr 1) (ed_ixT (vr 0) ed_int rfl) hkd) ?_
      apply bd_sk
      · exact td_ww (wd_orF (td_cmp (ed_ixT (vr 5) ed_int rfl) ed_int (o_eq0 hk)) (wd_orF (td_not (t_v (e_isi_tuple T (ed_ixT (vr 0) ed_int rfl)))) (wd_or1 (td_cmp (e_lenT T (ds := encTs parts) (ed_ixT (vr 0) ed_int rfl)) (ed_bin (e_call c5 (hr.mono (by omega)) (a2 (vr 5) (vr 2)) ⟨k, room, hkk, h0, rfl, rfl⟩) ed_int o_add) o_neI))))
      · rw [decide_eq_true hpl]; rfl
      refine bd_set (k := 6) (e_call c6 (hr.mono (by omega)) (a2 (vr 1) (ed_ixT (vr 0) ed_int rfl)) ⟨st, i, hs, hil, rfl, rfl⟩) ?_
      refine bd_cons (M := fun S' => ∃ x7 x8, S' = [.dat (encT (.kind i parts)), .dat (encSt st), .dat (.int room), .dat (.int u), .no, .dat (encK k), .dat (encSt (without st i)), x7, x8]) (sd_for (xs := enumD 0 (encTs parts)) (Inv := fun k' S' => ∃ x7 x8, S' = [.dat (encT (.kind i parts)), .dat (encSt st), .dat (.int room), .dat (.int u), .no, .dat (encK k), .dat (encSt (without st i)), x7, x8])
        (id_enum (b1 := false) (a1 (ed_ixT (vr 0) ed_int rfl)) (fun _ => rfl) T.enumerate) ⟨.no, .no, rfl⟩ (fun t x S' hx h => ?_) (fun S' h => h)) (fun S' h => ?_)
      · obtain ⟨x7, x8, e⟩ := h
        subst e
        obtain ⟨y, hy, rfl⟩ := enumD_some hx
        rw [encTs_map] at hy
        obtain ⟨tr, htr, rfl⟩ := map_some hy
        have htl := (List.getElem?_eq_some_iff.mp htr).1
        have tm := mostIn_mul hkk (t := (t : Int)) (room := room) (by omega)
        have t0 : 0 ≤ (t : Int) * k.1 := Int.mul_nonneg (by omega) (by omega)
        have ht := hpt t tr htr
        refine ⟨_, gt2 (gn 7) (gn 8), ?_⟩
        apply bd_sk
        · exact td_not (t_v (e_call ih hr (ad_cons (vr 8) (a3 (vr 6) (ed_bin (vr 2) (ed_bin (vr 7) (ed_ixT (vr 5) ed_int rfl) (o_mul (.inr ⟨by omega, by omega⟩))) o_sub) (ed_bin (vr 3) (ed_bin (vr 7) (ed_ixT (vr 5) ed_int rfl) (o_mul (.inr ⟨by omega, by omega⟩))) o_sub))) ⟨without st i, _, _, tr, true, ⟨by rw [without_length]; exact hs.len, without_ok hs.all⟩, by omega, by omega, ht, rfl, rfl⟩))
        · rfl
        exact bd_end ⟨_, _, rfl⟩
      · obtain ⟨x7, x8, e⟩ := h
        subst e
        apply bd_ret
        · exact ed_bool
        · rfl
def CNeed (ds : List PyData) : Prop := ∃ st, ∃ room u : Int, OkS st ∧ 0 ≤ room ∧ room ≤ 200 ∧ ds = [encSt st, .int room, .int u]
theorem h_need_cut (D : Def K mg "need_cut" s_need_cut ["store", "room", "u"]) (T : Txt mg) (c1 : FnHas P w K mg base "need_asked" 5 (PSp K (Rnone CAsk))) (c2 : FnHas P w K mg base "need_small" 1 (PSp K (Rnone CSmall))) : FnHas P w K mg base "need_cut" 6 (PSp K (Rnone CNeed)) := by
  refine pure_of D sc_need_cut (by rintro _ _ ⟨⟨_, _, _, _, _, _, rfl⟩, _⟩; rfl) fun ds d ⟨⟨st, r, u, hs, h0, h1, e1⟩, e2⟩ f cdv A outer s H E bx nd un hr => ?_
  subst e1; subst e2
  refine bd_drop (e_call c1 hr (a2 (vr 0) (vr 1)) ⟨⟨st, r, hs, h0, rfl⟩, rfl⟩) ?_
  apply bd_sk
  · exact td_ww (wd_orF (td_not (t_v (e_isi_int T (vr 2)))) (wd_or1 (t_v (e_isi_bool T (vr 2)))))
  · rfl
  refine bd_drop (e_call c2 (hr.mono (by decide)) (a1 (vr 1)) ⟨⟨r, h1, rfl⟩, rfl⟩) ?_
  exact bd_end rfl
theorem h_is_cut (D : Def K mg "is_cut" s_is_cut ["thing", "store", "room", "u"]) (c1 : FnHas P w K mg base "need_cut" 6 (PSp K (Rnone CNeed))) (c2 : FnHas P w K mg base "is_cut_of" 10 (PSp K (RcutOf 5))) : FnHas P w K mg base "is_cut" 11 (PSp K (RcutOf 5)) := by
  refine pure_of D sc_is_cut (by rintro _ _ ⟨_, _, _, _, _, _, _, _, _, rfl, _⟩; rfl) fun ds d ⟨st, room, u, tr, v, hs, h0, h1, hv, e1, e2⟩ f cdv A outer s H E bx nd un hr => ?_
  subst e1; subst e2
  refine bd_drop (e_call c1 (hr.mono (by decide)) (a3 (vr 1) (vr 2) (vr 3)) ⟨⟨st, room, u, hs, h0, h1, rfl⟩, rfl⟩) ?_
  apply bd_ret
  · exact e_call c2 hr (ad_cons (vr 0) (a3 (vr 1) (vr 2) (vr 3))) ⟨st, room, u, tr, v, hs, h0, h1, hv, rfl, rfl⟩
  · rfl
end
end Sk


set_option Elab.async false
set_option linter.all false
set_option maxRecDepth 100000
set_option maxHeartbeats 4000000
namespace Sk
open PySem L2
section
variable {P : Program} {w : World} {K : PySem.W.Frag} {mg : Str → Option Value} {base : Heap} {F : Fam} {S S1 S2 : List Sl} {pos : Pos} {s : Stmt} {Q : Po} {a b e : Expr} {ds : List PyData} {d : PyData} {i : Int}
theorem first_place {st : List Kd} {k : Kd} (hk : st[firstK st]? = some k) (hk0 : k.2.2 ≠ some 0) : ∃ r, (List.range st.length).filter (fun (i : Nat) => decide ((kd st i).2.2 ≠ some 0)) = firstK st :: r := by
  have hl := (List.getElem?_eq_some_iff.mp hk).1
  have ek : kd st (firstK st : Nat) = k := by unfold kd; rw [Int.toNat_natCast, List.getD_eq_getElem?_getD, hk]; rfl
  have hf : (List.range st.length).find? (fun (i : Nat) => decide ((kd st i).2.2 ≠ some 0)) = some (firstK st) := by
    rw [List.find?_range_eq_some]
    refine ⟨by rw [ek]; exact decide_eq_true hk0, List.mem_range.mpr hl, fun j hj => ?_⟩
    have hjl : j < st.length := by omega
    have ej : kd st (j : Nat) = st[j] := by unfold kd; rw [Int.toNat_natCast, List.getD_eq_getElem?_getD, List.getElem?_eq_getElem hjl]; rfl
    rw [ej]
    cases e : st.findIdx? fun k => decide (k.2.2 ≠ some 0) with
    | none =>
      rw [List.findIdx?_eq_none_iff] at e
      have := e _ (List.getElem_mem hjl)
      rw [this]; rfl
    | some i =>
      have ei : firstK st = i := by unfold firstK; rw [e]; rfl
      obtain ⟨hi, h1, h2⟩ := List.findIdx?_eq_some_iff_getElem.mp e
      have h3 := h2 j (by omega)
      simpa using h3
  rw [← List.head?_filter] at hf
  cases h : (List.range st.length).filter (fun (i : Nat) => decide ((kd st i).2.2 ≠ some 0)) with
  | nil => rw [h] at hf; cases hf
  | cons a r => rw [h] at hf; cases hf; exact ⟨r, rfl⟩
def RcutBy (n : Nat) (ds : List PyData) (d : PyData) : Prop := ∃ st, ∃ room u : Int, OkS st ∧ 0 ≤ room ∧ room ≤ 200 ∧ (∀ v, Reach st room v → v < u) ∧ nz st < n ∧ ds = [encSt st, .int room, .int u] ∧ d = encT (cutGo n st room u)
theorem atI_head {x : PyData} {r : List PyData} : atI (x :: r) 0 = some x := by
  rw [atI_nn (by decide) (by simp only [List.length_cons]; omega)]
  rfl
theorem h_cut_by (D : Def K mg "cut_by" s_cut_by ["store", "room", "u"]) (T : Txt mg) (c1 : FnHas P w K mg base "price_of" 3 (PSp K RpriceOf)) (c3 : FnHas P w K mg base "bound_of" 4 (PSp K RboundOf)) (c4 : FnHas P w K mg base "below" 1 (PSp K Rbelow))
    (c5 : FnHas P w K mg base "most_in" 1 (PSp K RmostIn)) (c6 : FnHas P w K mg base "without" 1 (PSp K Rwithout)) : ∀ n : Nat, FnHas P w K mg base "cut_by" (5 + n) (PSp K (RcutBy n)) := by
  intro n
  induction n with
  | zero => exact pure_of (k := 4) D sc_cut_by (by rintro _ _ ⟨_, _, _, _, _, _, _, _, rfl, _⟩; rfl) fun ds d ⟨st, room, u, hs, h0, h1, hv, hn, e1, e2⟩ => absurd hn (Nat.not_lt_zero _)
  | succ n ih =>
    refine pure_of (k := 5 + n) D sc_cut_by (by rintro _ _ ⟨_, _, _, _, _, _, _, _, rfl, _⟩; rfl) fun ds d ⟨st, room, u, hs, h0, h1, hv, hn, e1, e2⟩ f cdv A outer s H E bx nd un hr => ?_
    subst e1; subst e2
    have hlen := hs.len
    obtain ⟨po, _⟩ := price_ok hs.all h0
    obtain ⟨g, g1, g2⟩ := bound_of_price po h0 hs.all
    have hp := price_okp (r := room) hs
    have hbd := bound_bd hs h0 h1 hp g1
    refine bd_set (k := 3) (e_call c1 (hr.mono (by omega)) (a2 (vr 0) (vr 1)) ⟨st, room, hs, h0, h1, rfl, rfl⟩) ?_
    have hcut := cutGo_v hs h0 hv hn
    unfold cutGo
    rw [g1]
    by_cases hb : belowF g u = true
    · simp only [hb, if_true]
      apply bd_tk
      · exact t_v (e_call c4 (hr.mono (by omega)) (a2 (e_call c3 (hr.mono (by omega)) (a3 (vr 0) (vr 1) (vr 3)) ⟨st, room, _, _, hs, h0, h1, hp, po.none, rfl, by rw [g1]; rfl⟩) (vr 2)) ⟨g, u, hbd.1, hbd.2, rfl, rfl⟩)
      · exact hb
      · apply bd_ret
        · exact ed_tup (a2 ed_str (vr 3))
        · rfl
    · have hb := eq_false_of_ne_true hb
      simp only [hb, Bool.false_eq_true, if_false]
      have hnz : nz st ≠ 0 := fun z => by
        have hz : ∀ k ∈ st, k.2.2 = some 0 := fun k hk => by
          unfold nz at z
          rw [List.length_eq_zero_iff, List.filter_eq_nil_iff] at z
          have := z k hk
          simpa using this
        obtain ⟨e1, e2⟩ := price_none hs.all h0 hz
        rw [e1] at g2
        obtain ⟨a1, a2, a3⟩ := g2
        rw [e2] at a3
        have u0 := hv 0 (.zero h0 hs.all)
        have : 0 < u * g.2 := Int.mul_pos u0 a1
        have hb := of_decide_eq_false hb
        apply hb
        omega
      obtain ⟨k, hk, hk0⟩ := firstK_ok hnz
      have ek : st.getD (firstK st) (1, 0, none) = k := by rw [List.getD_eq_getElem?_getD, hk]; rfl
      have ekd : kd st (firstK st : Nat) = k := by unfold kd; rw [Int.toNat_natCast, ek]
      rw [ek]
      have hkk := hs.all k (List.mem_of_getElem? hk)
      have w1 := hkk.w1; have w2 := hkk.w2; have v1 := hkk.v1; have v2 := hkk.v2
      have m0 := mostIn_nn hkk h0
      have ml := mostIn_le hkk h0
      have hil : firstK st < st.length := (List.getElem?_eq_some_iff.mp hk).1
      have hkd := atI_kd (st := st) (p := (firstK st : Nat)) (by omega) (by omega)
      rw [ekd] at hkd
      obtain ⟨rr, hfi⟩ := first_place hk hk0
      generalize hFK : firstK st = fk at *
      apply bd_sk
      · exact t_v (e_call c4 (hr.mono (by omega)) (a2 (e_call c3 (hr.mono (by omega)) (a3 (vr 0) (vr 1) (vr 3)) ⟨st, room, _, _, hs, h0, h1, hp, po.none, rfl, by rw [g1]; rfl⟩) (vr 2)) ⟨g, u, hbd.1, hbd.2, rfl, rfl⟩)
      · exact hb
      refine bd_set (k := 4) (d := .int fk) (ed_ixL (ed_of_ld (ld_lc1f sc_cut_by 4 (ts := List.range st.length) (enc := fun (t : Nat) => .int (t : Int)) nat_inj (fun (i : Nat) => decide ((kd st i).2.2 ≠ some 0)) (fun (i : Nat) => .int i) (i_rngN T (e_lenT T (vr 0)) (by rw [List.length_map]) (by omega)) (fun t ht => ?_) (fun t ht _ => vr 4) (by simp; omega))) ed_int (by rw [hfi]; exact atI_head)) ?_
      · have ht := List.mem_range.mp ht
        exact tsd_one (td_cmp (ed_ixT (ed_ixT (vr 0) (vr 4) (atI_kd (by omega) (by omega))) ed_int rfl) ed_int o_ne0)
      refine bd_set (k := 5) (ed_ixT (vr 0) (vr 4) hkd) ?_
      refine bd_set (k := 6) (e_call c6 (hr.mono (by omega)) (a2 (vr 0) (vr 4)) ⟨st, fk, hs, hil, rfl, rfl⟩) ?_
      refine bd_own (k := 7) (ld_lst ad_nil) ?_
      refine bd_cons (M := fun S' => ∃ x8, S' = [.dat (encSt st), .dat (.int room), .dat (.int u), .dat (encF (price st room)), .dat (.int fk), .dat (encK k), .dat (encSt (without st fk)), .own (((List.range (mostIn k room + 1).toNat).map fun (t : Nat) => cutGo n (without st fk) (room - t * k.1) (u - t * k.2.1)).map encT), x8])
        (sd_for (Inv := fun j S' => ∃ x8, S' = [.dat (encSt st), .dat (.int room), .dat (.int u), .dat (encF (price st room)), .dat (.int fk), .dat (encK k), .dat (encSt (without st fk)), .own (((List.range j).map fun (t : Nat) => cutGo n (without st fk) (room - t * k.1) (u - t * k.2.1)).map encT), x8])
          (i_rng T (ed_bin (e_call c5 (hr.mono (by omega)) (a2 (vr 5) (vr 1)) ⟨k, room, hkk, h0, rfl, rfl⟩) ed_int o_add) (by omega) (by omega)) ⟨.no, rfl⟩ (fun t x S' hx h => ?_) (fun S' h => by obtain ⟨x8, e⟩ := h; exact ⟨x8, by rw [e, rgD_length]⟩)) (fun S' h => ?_)
      · obtain ⟨x8, e⟩ := h
        subst e
        obtain ⟨ht, rfl⟩ := rgD_some hx
        have tm : (t : Int) ≤ mostIn k room := by omega
        have tmm := mostIn_mul hkk tm
        have t0 : 0 ≤ (t : Int) * k.1 := Int.mul_nonneg (by omega) (by omega)
        refine ⟨_, gn 8, ?_⟩
        refine bd_1 (sd_app (k := 7) rfl (e_call ih hr (a3 (vr 6) (ed_bin (vr 1) (ed_bin (vr 8) (ed_ixT (vr 5) ed_int rfl) (o_mul (.inr ⟨by omega, by omega⟩))) o_sub) (ed_bin (vr 2) (ed_bin (vr 8) (ed_ixT (vr 5) ed_int rfl) (o_mul (.inr ⟨by omega, by omega⟩))) o_sub)) ⟨without st fk, _, _, ⟨by rw [without_length]; exact hs.len, without_ok hs.all⟩, by omega, by omega, fun v hvv => ?_, by have := nz_without hk hk0; omega, rfl, rfl⟩) rfl (by simp; omega) ⟨_, by rw [List.range_succ, List.map_append, List.map_append]; rfl⟩)
        have := hv _ ((reach_without hk hs.all (by omega) (mostIn_m tm) hvv).le (r' := room) (by omega))
        omega
      · obtain ⟨x8, e⟩ := h
        subst e
        apply bd_ret
        · exact ed_tup (a3 ed_str (vr 4) (e_tuple T (fz 7)))
        · rw [← encTs_map]; rfl
theorem nz_le (st : List Kd) : nz st ≤ st.length := List.length_filter_le _ _
def cutF (st : List Kd) (room u : Int) : PyData := if u ≤ bestW st room then .none else encT (cutGo 5 st room u)
def RcutFor (ds : List PyData) (d : PyData) : Prop := ∃ st, ∃ room u : Int, OkS st ∧ 0 ≤ room ∧ room ≤ 200 ∧ ds = [encSt st, .int room, .int u] ∧ d = cutF st room u
theorem reach_lt {st : List Kd} {room u : Int} (hs : OkS st) (h0 : 0 ≤ room) (h : ¬ u ≤ bestW st room) : ∀ v, Reach st room v → v < u := fun v hv => by
  have := (bestW_ok h0 hs.all).top v hv
  omega
theorem h_cut_for (D : Def K mg "cut_for" s_cut_for ["store", "room", "u"]) (T : Txt mg) (c1 : FnHas P w K mg base "need_cut" 6 (PSp K (Rnone CNeed))) (c2 : FnHas P w K mg base "best_of" 4 (PSp K RbestOf)) (c3 : FnHas P w K mg base "worth_of" 1 (PSp K (Rweigh worthL))) (c4 : FnHas P w K mg base "cut_by" 10 (PSp K (RcutBy 5))) : FnHas P w K mg base "cut_for" 11 (PSp K RcutFor) := by
  refine pure_of D sc_cut_for (by rintro _ _ ⟨_, _, _, _, _, _, rfl, _⟩; rfl) fun ds d ⟨st, room, u, hs, h0, h1, e1, e2⟩ f cdv A outer s H E bx nd un hr => ?_
  subst e1; subst e2
  have hlen := hs.len
  have hw : worthL st (bestL room st room) = bestW st room := bestL_worth hs.all h0 (Int.le_refl _)
  refine bd_drop (e_call c1 (hr.mono (by decide)) (a3 (vr 0) (vr 1) (vr 2)) ⟨⟨st, room, u, hs, h0, h1, rfl⟩, rfl⟩) ?_
  unfold cutF
  by_cases hc : u ≤ bestW st room
  · rw [if_pos hc]
    apply bd_tk
    · exact td_cmp (e_call c3 (hr.mono (by decide)) (a2 (vr 0) (e_call c2 (hr.mono (by decide)) (a2 (vr 0) (vr 1)) ⟨st, room, hs, h0, h1, rfl, rfl⟩)) ⟨st, _, hs, rfl, rfl⟩) (vr 2) o_ge
    · exact decide_eq_true (by rw [hw]; exact hc)
    · apply bd_ret
      · exact ed_none
      · rfl
  · rw [if_neg hc]
    apply bd_sk
    · exact td_cmp (e_call c3 (hr.mono (by decide)) (a2 (vr 0) (e_call c2 (hr.mono (by decide)) (a2 (vr 0) (vr 1)) ⟨st, room, hs, h0, h1, rfl, rfl⟩)) ⟨st, _, hs, rfl, rfl⟩) (vr 2) o_ge
    · exact decide_eq_false (by rw [hw]; exact hc)
    apply bd_ret
    · exact e_call c4 hr (a3 (vr 0) (vr 1) (vr 2)) ⟨st, room, u, hs, h0, h1, reach_lt hs h0 hc, by have := nz_le st; omega, rfl, rfl⟩
    · rfl
end
end Sk


set_option Elab.async false
set_option linter.all false
set_option maxRecDepth 100000
set_option maxHeartbeats 4000000
namespace Sk
open PySem L2
/-! ### the items, sorted -/
def encI3 (a : It3) : PyData := .tuple [.int a.1, .int a.2.1, encIs a.2.2]
def itemsOf (st : List Kd) : List It3 := (loadsOf st).map fun l => (weightL st l, 0 - worthL st l, l)
noncomputable def sortI (xs : List It3) : List It3 := xs.mergeSort (PySem.W.dataLe false encI3)
theorem sortD_items (xs : List It3) : sortD (xs.map encI3) = (sortI xs).map encI3 :=
  (PySem.W.sort_maps (r := PySem.W.dataLe false encI3) (s := PySem.W.dataLe false id) encI3 fun _ _ _ _ => rfl).symm
theorem alike_ints : ∀ a b : List Int, PySem.W.alikeAll (a.map .int) (b.map .int) = true
  | [], _ => by simp [PySem.W.alikeAll]
  | _ :: _, [] => by simp [PySem.W.alikeAll]
  | _ :: a, _ :: b => by simp [PySem.W.alikeAll, PySem.W.alike, alike_ints a b]
theorem items_alike (xs : List It3) : PySem.W.AllAlike (xs.map encI3) := PySem.W.AllAlike.of fun a b => by
  simp [encI3, encIs, PySem.W.alike, PySem.W.alikeAll, alike_ints]
theorem items_sortable (xs : List It3) : PySem.W.Sortable (xs.map encI3) := .inl fun d hd => by
  obtain ⟨a, _, rfl⟩ := List.mem_map.mp hd
  exact ⟨_, _, rfl⟩
theorem items_depth (xs : List It3) : ∀ d ∈ xs.map encI3, d.depth ≤ 20 := fun d hd => by
  obtain ⟨a, _, rfl⟩ := List.mem_map.mp hd
  simp [encI3, encIs, PyData.depth, PyData.depthAll, (lay_ints a.2.2).2]
theorem le_of_data {a b : It3} (h : PySem.W.dataLe false encI3 a b = true) : le3 a b := by
  have h : (!PySem.W.dataLt (encI3 b) (encI3 a)) = true := h
  unfold encI3 at h
  rw [PySem.W.dataLt_tuple, PySem.W.dataLt_cons (by simp [PySem.W.alike])] at h
  unfold le3
  by_cases e1 : b.1 = a.1
  · rw [if_pos (by simp [PyData.eqv, e1]), PySem.W.dataLt_cons (by simp [PySem.W.alike])] at h
    by_cases e2 : b.2.1 = a.2.1
    · exact .inr ⟨e1.symm, by omega⟩
    · rw [if_neg (by simp [PyData.eqv, e2]), PySem.W.dataLt_int] at h
      simp at h
      exact .inr ⟨e1.symm, h⟩
  · rw [if_neg (by simp [PyData.eqv, e1]), PySem.W.dataLt_int] at h
    simp at h
    exact .inl (by omega)
theorem sortI_le (xs : List It3) : (sortI xs).Pairwise le3 := (PySem.W.sort_pairwise (PySem.W.sortLe_total _ _ _) xs).imp fun h => le_of_data h
theorem sortI_mem {xs : List It3} {x : It3} : x ∈ sortI xs ↔ x ∈ xs := (List.mergeSort_perm xs _).mem_iff
theorem sortI_length (xs : List It3) : (sortI xs).length = xs.length := (List.mergeSort_perm xs _).length_eq
noncomputable def ubOf (st : List Kd) : List It3 := ubGo (sortI (itemsOf st))
theorem ubOf_ok (st : List Kd) : UbOk (sortI (itemsOf st)) (ubOf st) := ubGo_ok (sortI_le _)
theorem ubOf_mem {st : List Kd} (hs : Single st) {y : It3} (h : y ∈ ubOf st) : Wt st y.1 y.2.1 := by
  obtain ⟨x, hx, e1, e2⟩ := (ubOf_ok st).mem y h
  obtain ⟨l, hl, rfl⟩ := List.mem_map.mp (sortI_mem.mp hx)
  have := bits_wt hs (mem_loadsOf.mp hl)
  rw [e1, e2]
  show Wt st (weightL st l) (0 - (0 - worthL st l))
  rw [show (0 : Int) - (0 - worthL st l) = worthL st l by omega]
  exact this
theorem ubOf_cov {st : List Kd} (hs : Single st) {h v : Int} (q : Wt st h v) : ∃ y ∈ ubOf st, y.1 ≤ h ∧ v ≤ y.2.1 := by
  obtain ⟨l, hl, e1, e2⟩ := wt_bits hs q
  obtain ⟨y, hy, y1, y2⟩ := (ubOf_ok st).cov (weightL st l, 0 - worthL st l, l) (sortI_mem.mpr (List.mem_map.mpr ⟨l, mem_loadsOf.mpr hl, rfl⟩))
  simp only at y1 y2
  exact ⟨y, hy, by omega, by omega⟩
theorem at3_mem {xs : List It3} {i : Int} (h0 : 0 ≤ i) (h1 : i < xs.length) : at3 xs i ∈ xs := by
  unfold at3
  rw [List.getD_eq_getElem?_getD, List.getElem?_eq_getElem (by omega)]
  exact List.getElem_mem _
theorem mem_at3 {xs : List It3} {y : It3} (h : y ∈ xs) : ∃ i : Int, 0 ≤ i ∧ i < xs.length ∧ at3 xs i = y := by
  obtain ⟨k, hk, e⟩ := List.mem_iff_getElem.mp h
  refine ⟨k, by omega, by omega, ?_⟩
  unfold at3
  rw [Int.toNat_natCast, List.getD_eq_getElem?_getD, List.getElem?_eq_getElem hk, e]
  rfl
noncomputable def stairV (st : List Kd) (room u : Int) : Option (List (Int × Int)) :=
  stairGo (ubOf (st.take (st.length / 2))) (ubOf (st.drop (st.length / 2))) room u ((ubOf (st.take (st.length / 2))).length + (ubOf (st.drop (st.length / 2))).length + 1) 0 ((ubOf (st.drop (st.length / 2))).length - 1) []
theorem stair_iff {st : List Kd} {room u : Int} (hs : OkS st) (h1 : Single st) (h0 : 0 ≤ room) : stairV st room u = none ↔ u ≤ bestW st room := by
  have s1 : Single (st.take (st.length / 2)) := fun k hk => h1 k (List.mem_of_mem_take hk)
  have s2 : Single (st.drop (st.length / 2)) := fun k hk => h1 k (List.mem_of_mem_drop hk)
  have hb := bestW_ok h0 hs.all
  unfold stairV
  constructor
  · intro h
    have hp : Pair (ubOf (st.take (st.length / 2))) (ubOf (st.drop (st.length / 2))) room u := Classical.byContradiction fun n => stair_some n _ _ _ _ (by decide) (by omega) h
    obtain ⟨a, b, a0, a1, b0, b1, hf, hu⟩ := hp
    have w1 := ubOf_mem s1 (at3_mem a0 a1)
    have w2 := ubOf_mem s2 (at3_mem b0 b1)
    have w : Wt (st.take (st.length / 2) ++ st.drop (st.length / 2)) _ _ := wt_append.mpr ⟨_, _, _, _, w1, w2, rfl, rfl⟩
    rw [List.take_append_drop] at w
    have := hb.top _ (reach_wt.mpr ⟨_, hf, w⟩)
    omega
  · intro h
    obtain ⟨hh, hle, w⟩ := reach_wt.mp hb.has
    rw [← List.take_append_drop (st.length / 2) st] at w
    obtain ⟨w1, v1, w2, v2, q1, q2, e1, e2⟩ := wt_append.mp w
    rw [List.take_append_drop] at e2
    obtain ⟨y1, m1, l1, g1⟩ := ubOf_cov s1 q1
    obtain ⟨y2, m2, l2, g2⟩ := ubOf_cov s2 q2
    obtain ⟨a, a0, a1, ea⟩ := mem_at3 m1
    obtain ⟨b, b0, b1, eb⟩ := mem_at3 m2
    refine stair_none (ubOf_ok _).srt (ubOf_ok _).srt (a := a) (b := b) a1 b0 (by rw [ea, eb]; omega) (by rw [ea, eb]; omega) _ _ _ _ (by decide) a0 (by omega) (by omega) (by omega)
end Sk


set_option Elab.async false
set_option linter.all false
set_option maxRecDepth 100000
set_option maxHeartbeats 4000000
namespace Sk
open PySem L2
section
variable {P : Program} {w : World} {K : PySem.W.Frag} {mg : Str → Option Value} {base : Heap} {F : Fam} {S S1 S2 : List Sl} {pos : Pos} {s : Stmt} {Q : Po} {a b e : Expr} {ds : List PyData} {d : PyData} {i : Int}
def CSing (ds : List PyData) : Prop := ∃ st, OkS st ∧ Single st ∧ ds = [encSt st]
theorem h_is_single (D : Def K mg "is_single" s_is_single ["store"]) (T : Txt mg) : FnHas P w K mg base "is_single" 1 (PSp K (Rtrue CSing)) := by
  refine pure_of D sc_is_single (by rintro _ _ ⟨⟨_, _, _, rfl⟩, _⟩; rfl) fun ds d ⟨⟨st, hs, h1, e1⟩, e2⟩ f cdv A outer s H E bx nd un hr => ?_
  subst e1; subst e2
  apply bd_ret
  · refine e_allT T (ld_lc1 sc_is_single 1 encK_inj (fun _ => .bool true) (id_tup (vr 0)) (fun k hk => ?_) (by have := hs.len; omega)) all_bt
    obtain ⟨wt, v, mo⟩ := k
    have hm : mo = some 1 := h1 _ hk
    subst hm
    exact ed_andT (ed_cmp (ed_ixT (vr 1) ed_int rfl) ed_none o_isnot) (ed_one (ed_cmp (ed_ixT (vr 1) ed_int rfl) ed_int o_le))
  · rfl
theorem h_need_single (D : Def K mg "need_single" s_need_single ["store"]) (c1 : FnHas P w K mg base "is_single" 1 (PSp K (Rtrue CSing))) : FnHas P w K mg base "need_single" 2 (PSp K (Rnone CSing)) := by
  refine pure_of D sc_need_single (by rintro _ _ ⟨⟨_, _, _, rfl⟩, _⟩; rfl) fun ds d ⟨⟨st, hs, h1, e1⟩, e2⟩ f cdv A outer s H E bx nd un hr => ?_
  subst e1; subst e2
  apply bd_sk
  · exact td_not (t_v (e_call c1 hr (a1 (vr 0)) ⟨⟨st, hs, h1, rfl⟩, rfl⟩))
  · rfl
  exact bd_end rfl
def Rloads (ds : List PyData) (d : PyData) : Prop := ∃ st, OkS st ∧ Single st ∧ ds = [encSt st] ∧ d = .list ((loadsOf st).map encIs)
def grow (f : List (List Int)) : List (List Int) := f.flatMap fun l => [l ++ [0], l ++ [1]]
theorem h_loads_of (D : Def K mg "loads_of" s_loads_of ["store"]) (T : Txt mg) : FnHas P w K mg base "loads_of" 1 (PSp K Rloads) := by
  refine pure_of D sc_loads_of (by rintro _ _ ⟨_, _, _, rfl, _⟩; rfl) fun ds d ⟨st, hs, h1, e1, e2⟩ f cdv A outer s H E bx nd un hr => ?_
  subst e1; subst e2
  have hlen := hs.len
  refine bd_set (k := 1) (ed_of_ld (ld_lst (a1 (ed_tup ad_nil)))) ?_
  refine bd_cons (M := fun S' => ∃ x2 x3 x4, S' = [.dat (encSt st), .dat (.list ((loadsOf st).map encIs)), x2, x3, x4, .no]) (sd_for (xs := st.map encK) (Inv := fun k S' => ∃ x2 x3 x4, ∃ g : List (List Int), g.length = 2 ^ k ∧ (∀ l ∈ g, l.length = k) ∧ loadsOf st = loadsGo (st.drop k) g ∧ S' = [.dat (encSt st), .dat (.list (g.map encIs)), x2, x3, x4, .no])
    (id_tup (vr 0)) ⟨.no, .no, .no, [[]], rfl, (fun l hl => by rw [List.mem_singleton.mp hl]; rfl), rfl, rfl⟩ (fun k x S' hx h => ?_) (fun S' h => ?_)) (fun S' h => ?_)
  · obtain ⟨x2, x3, x4, g, hg, hgl, hlo, e⟩ := h
    subst e
    obtain ⟨⟨wt, v, mo⟩, hq, rfl⟩ := map_some hx
    have hm : mo = some 1 := h1 _ (List.mem_of_getElem? hq)
    subst hm
    have hk : k < st.length := (List.getElem?_eq_some_iff.mp hq).1
    have hg16 : g.length ≤ 8 := by
      rw [hg]
      have : k ≤ 3 := by omega
      exact Nat.pow_le_pow_right (by decide) this
    rw [drop_get hq] at hlo
    refine ⟨_, gn 2, ?_⟩
    refine bd_own (k := 3) (ld_lst ad_nil) ?_
    refine bd_cons (M := fun S' => ∃ x4, S' = [.dat (encSt st), .dat (.list (g.map encIs)), .dat (encK (wt, v, some 1)), .own ((grow g).map encIs), x4, .no]) (sd_for (xs := g.map encIs) (Inv := fun j S' => ∃ x4, S' = [.dat (encSt st), .dat (.list (g.map encIs)), .dat (encK (wt, v, some 1)), .own ((grow (g.take j)).map encIs), x4, .no]) (id_lst (vr 1)) ⟨x4, rfl⟩ (fun j x S' hx h => ?_) (fun S' h => by obtain ⟨x4, e⟩ := h; exact ⟨x4, by rw [e, List.length_map, List.take_length]⟩)) (fun S' h => ?_)
    · obtain ⟨x4, e⟩ := h
      subst e
      obtain ⟨l, hl, rfl⟩ := map_some hx
      have hll := hgl l (List.mem_of_getElem? hl)
      have hgr : grow (g.take (j + 1)) = grow (g.take j) ++ [l ++ [0], l ++ [1]] := by
        unfold grow
        rw [List.take_add_one, hl, List.flatMap_append]
        rfl
      have hgl2 : (grow (g.take j)).length = 2 * (g.take j).length := flat_length _
      have htk : (g.take j).length ≤ g.length := List.length_take_le' _ _
      refine ⟨_, gn 4, ?_⟩
      exact bd_1 (sd_ext (k := 3) (xs := (List.range 2).map fun (t : Nat) => .tuple (l.map .int ++ [.int (t : Int)])) rfl (ld_lc1 sc_loads_of 5 (enc := fun (t : Nat) => .int (t : Int)) nat_inj (fun (t : Nat) => .tuple (l.map .int ++ [.int (t : Int)])) (i_rngN T (ed_bin (ed_ixT (vr 2) ed_int rfl) ed_int o_add) rfl (by decide)) (fun t ht => ed_bin (vr 4) (ed_tup (a1 (vr 5))) (o_cat (by simp only [List.length_map, List.length_singleton]; omega))) (by decide)) rfl (by simp only [List.length_map, List.length_range]; omega) ⟨_, by rw [hgr, List.map_append]; simp only [List.map_cons, List.map_nil, encIs, List.map_append]; rfl⟩)
    · obtain ⟨x4, e⟩ := h
      subst e
      refine bd_set (k := 1) (fz 3) ?_
      refine bd_end ⟨_, _, _, grow g, ?_, ?_, hlo, rfl⟩
      · show (g.flatMap _).length = _
        rw [flat_length, hg, Nat.pow_succ, Nat.mul_comm]
      · intro l hl
        obtain ⟨l0, hl0, hl2⟩ := List.mem_flatMap.mp hl
        have := hgl l0 hl0
        simp only [List.mem_cons, List.mem_nil_iff, or_false] at hl2
        rcases hl2 with rfl | rfl <;> simp [this]
  · obtain ⟨x2, x3, x4, g, hg, hgl, hlo, e⟩ := h
    rw [List.length_map, List.drop_of_length_le (Nat.le_refl _)] at hlo
    exact ⟨x2, x3, x4, by rw [e, hlo]; rfl⟩
  · obtain ⟨x2, x3, x4, e⟩ := h
    subst e
    apply bd_ret
    · exact vr 1
    · rfl
def Rhalves (ds : List PyData) (d : PyData) : Prop := ∃ st, OkS st ∧ ds = [encSt st] ∧ d = .tuple ([st.take (st.length / 2), st.drop (st.length / 2)].map encSt)
theorem h_halves_of (D : Def K mg "halves_of" s_halves_of ["store"]) (T : Txt mg) : FnHas P w K mg base "halves_of" 1 (PSp K Rhalves) := by
  refine pure_of D sc_halves_of (by rintro _ _ ⟨_, _, rfl, _⟩; rfl) fun ds d ⟨st, hs, e1, e2⟩ f cdv A outer s H E bx nd un hr => ?_
  subst e1; subst e2
  have eh : ((st.map encK).length : Int) / 2 = ((st.length / 2 : Nat) : Int) := by rw [List.length_map]; omega
  have e1 : cutD (st.map encK) none (some ((st.length / 2 : Nat) : Int)) = (st.take (st.length / 2)).map encK := by rw [cut_to (by rw [List.length_map]; omega), List.map_take]
  have e2 : cutD (st.map encK) (some ((st.length / 2 : Nat) : Int)) none = (st.drop (st.length / 2)).map encK := by rw [cut_from (by rw [List.length_map]; omega), List.map_drop]
  refine bd_set (k := 1) (ed_bin (e_lenT T (vr 0)) ed_int (o_fdiv ⟨by decide, by decide⟩)) ?_
  rw [eh]
  apply bd_ret
  · exact ed_tup (a2 (ed_slT (vr 0) od_none (od_some (vr 1))) (ed_slT (vr 0) (od_some (vr 1)) od_none))
  · rw [e1, e2]; rfl
theorem lay_items : ∀ l : List It3, PyData.canLayAll0 (l.map encI3) = true ∧ PyData.depthAll (l.map encI3) ≤ 2
  | [] => ⟨rfl, by decide⟩
  | x :: l => by
    obtain ⟨h1, h2⟩ := lay_items l
    have := lay_ints x.2.2
    simp [PyData.canLayAll0, PyData.depthAll, PyData.canLay0, PyData.depth, encI3, encIs, this.1, this.2, h1]
    omega
theorem sh_items (l : List It3) : SeqAt.shaped (.list (l.map encI3)) = true := by
  obtain ⟨h1, h2⟩ := lay_items l
  unfold SeqAt.shaped
  simp [PyData.canLay0, PyData.depth, h1]
  omega
def Runb (ds : List PyData) (d : PyData) : Prop := ∃ st, OkS st ∧ Single st ∧ ds = [encSt st] ∧ d = .list ((ubOf st).map encI3)
theorem h_unbeaten (D : Def K mg "unbeaten" s_unbeaten ["store"]) (T : Txt mg) (c1 : FnHas P w K mg base "loads_of" 1 (PSp K Rloads)) (c2 : FnHas P w K mg base "weight_of" 1 (PSp K (Rweigh weightL))) (c3 : FnHas P w K mg base "worth_of" 1 (PSp K (Rweigh worthL))) : FnHas P w K mg base "unbeaten" 2 (PSp K Runb) := by
  refine pure_of D sc_unbeaten (by rintro _ _ ⟨_, _, _, rfl, _⟩; rfl) fun ds d ⟨st, hs, h1, e1, e2⟩ f cdv A outer s H E bx nd un hr => ?_
  subst e1; subst e2
  have hlen := hs.len
  have hll : (loadsOf st).length ≤ 16 := by
    unfold loadsOf
    rw [loadsGo_length]
    show 2 ^ st.length * 1 ≤ 16
    rw [Nat.mul_one]
    exact Nat.pow_le_pow_right (n := 2) (by decide) hlen
  have inj : ∀ a b, encIs a = encIs b → a = b := fun a b h => ints_inj a b (by unfold encIs at h; exact PyData.tuple.inj h)
  refine bd_own (k := 1) (ld_lst ad_nil) ?_
  refine bd_lc1f sc_unbeaten 2 3 (ts := loadsOf st) inj (fun _ => true) (fun l => encI3 (weightL st l, 0 - worthL st l, l)) (id_lst (e_call c1 hr (a1 (vr 0)) ⟨st, hs, h1, rfl, rfl⟩)) (fun _ _ => tsd_nil) (fun l hl _ => ed_tup (a3 (e_call c2 hr (a2 (vr 0) (vr 2)) ⟨st, l, hs, rfl, rfl⟩) (ed_bin ed_int (e_call c3 hr (a2 (vr 0) (vr 2)) ⟨st, l, hs, rfl, rfl⟩) o_sub) (vr 2))) (by omega) ?_
  have hit : ((loadsOf st).filter (fun _ => true)).map (fun l => encI3 (weightL st l, 0 - worthL st l, l)) = (itemsOf st).map encI3 := by
    unfold itemsOf
    rw [List.filter_eq_self.mpr (fun _ _ => rfl), List.map_map]; rfl
  rw [hit]
  refine bd_cons (M := fun S' => ∃ x2 x3 x4 x5, S' = [.dat (encSt st), .own ((ubOf st).map encI3), x2, x3, x4, x5]) (sd_for (xs := (sortI (itemsOf st)).map encI3) (Inv := fun k S' => ∃ x2 x3 x4 x5, S' = [.dat (encSt st), .own ((ubGo ((sortI (itemsOf st)).take k)).map encI3), x2, x3, x4, x5])
    (by rw [← sortD_items]; exact id_lst (e_sorted T (fz 3) (items_alike _) (items_sortable _) (items_depth _))) ⟨.no, _, .no, .no, rfl⟩ (fun k x S' hx h => ?_) (fun S' h => by obtain ⟨x2, x3, x4, x5, e⟩ := h; exact ⟨x2, x3, x4, x5, by rw [e, List.length_map, List.take_length]; rfl⟩)) (fun S' h => ?_)
  · obtain ⟨x2, x3, x4, x5, e⟩ := h
    subst e
    obtain ⟨x, hq, rfl⟩ := map_some hx
    have hst : ubGo ((sortI (itemsOf st)).take (k + 1)) = ubStep (ubGo ((sortI (itemsOf st)).take k)) x := by
      unfold ubGo
      rw [List.take_add_one, hq, List.foldl_append]; rfl
    have hul : (ubGo ((sortI (itemsOf st)).take k)).length ≤ 16 := by
      have h1 := ubGo_length ((sortI (itemsOf st)).take k)
      have h2 := List.length_take_le' k (sortI (itemsOf st))
      rw [sortI_length] at h2
      have h3 : (itemsOf st).length = (loadsOf st).length := by simp [itemsOf]
      omega
    rw [hst]
    generalize ubGo ((sortI (itemsOf st)).take k) = acc at hul
    refine ⟨_, gt3 (gn 4) (gn 5) (gn 2), ?_⟩
    cases hacc : acc with
    | nil =>
      apply bd_tk
      · exact td_ww (wd_orT (td_eqNil (k := 1) rfl (sh_items [])))
      · rfl
      · exact bd_1 (sd_app (k := 1) rfl (ed_tup (a3 (vr 4) (ed_bin ed_int (vr 5) o_sub) (vr 2))) rfl (by decide) (bd_end ⟨_, _, _, _, rfl⟩))
    | cons a0 r =>
      rw [← hacc]
      have hne : acc ≠ [] := by rw [hacc]; exact fun z => nomatch z
      have hem : (acc.map encI3).isEmpty = false := by rw [hacc]; rfl
      have hla : atI (acc.map encI3) (-1) = some (encI3 (acc.getLastD (0, 0, []))) := by
        rw [atI_last (by rw [hacc]; exact fun z => nomatch z), List.getLast?_map, List.getLastD_eq_getLast?]
        rw [List.getLast?_eq_getLast hne]
        rfl
      by_cases hc : 0 - x.2.1 > (acc.getLastD (0, 0, [])).2.1
      · apply bd_tk
        · exact td_ww (wd_orF (td_eqNil (k := 1) rfl (sh_items acc)) (wd_or1 (td_cmp (ed_bin ed_int (vr 5) o_sub) (ed_ixT (ed_ixO (k := 1) rfl rfl (fun _ => Or.inl rfl) ed_neg rfl hla) ed_int rfl) o_gt)) hem)
        · exact decide_eq_true hc
        · exact bd_1 (sd_app (k := 1) rfl (ed_tup (a3 (vr 4) (ed_bin ed_int (vr 5) o_sub) (vr 2))) rfl (by rw [List.length_map]; omega) (bd_end ⟨_, _, _, _, by unfold ubStep; rw [if_pos (.inr hc), List.map_append]; rfl⟩))
      · apply bd_sk
        · exact td_ww (wd_orF (td_eqNil (k := 1) rfl (sh_items acc)) (wd_or1 (td_cmp (ed_bin ed_int (vr 5) o_sub) (ed_ixT (ed_ixO (k := 1) rfl rfl (fun _ => Or.inl rfl) ed_neg rfl hla) ed_int rfl) o_gt)) hem)
        · exact decide_eq_false hc
        exact bd_end ⟨_, _, _, _, by unfold ubStep; rw [if_neg (fun z => z.elim hne hc)]; rfl⟩
  · obtain ⟨x2, x3, x4, x5, e⟩ := h
    subst e
    apply bd_ret
    · exact fz 1
    · rfl
end
end Sk


set_option Elab.async false
set_option linter.all false
set_option maxRecDepth 100000
set_option maxHeartbeats 4000000
namespace Sk
open PySem L2
section
variable {P : Program} {w : World} {K : PySem.W.Frag} {mg : Str → Option Value} {base : Heap} {F : Fam} {S S1 S2 : List Sl} {pos : Pos} {s : Stmt} {Q : Po} {a b e : Expr} {ds : List PyData} {d : PyData} {i : Int}
theorem atI_3 {xs : List It3} {i : Int} (h0 : 0 ≤ i) (h1 : i < xs.length) : atI (xs.map encI3) i = some (encI3 (at3 xs i)) := by
  rw [atI_nn h0 (by rw [List.length_map]; exact h1), List.getElem?_map]
  unfold at3
  rw [List.getD_eq_getElem?_getD, List.getElem?_eq_getElem (by omega)]
  rfl
def encPr (p : Int × Int) : PyData := .tuple [.int p.1, .int p.2]
def encSr : Option (List (Int × Int)) → PyData
  | none => .none
  | some f => .tuple (f.map encPr)
def Rstair (ds : List PyData) (d : PyData) : Prop := ∃ st, ∃ room u : Int, OkS st ∧ Single st ∧ 0 ≤ room ∧ ds = [encSt st, .int room, .int u] ∧ d = encSr (stairV st room u)
theorem encSt_inj : ∀ a b : List Kd, encSt a = encSt b → a = b
  | [], [], _ => rfl
  | [], _ :: _, h => by cases h
  | _ :: _, [], h => by cases h
  | x :: a, y :: b, h => by
    simp only [encSt, List.map_cons, PyData.tuple.injEq, List.cons.injEq] at h
    rw [encK_inj _ _ h.1, encSt_inj a b (by unfold encSt; rw [h.2])]
theorem ubOf_length {st : List Kd} (h : st.length ≤ 4) : (ubOf st).length ≤ 16 := by
  have h1 := ubGo_length (sortI (itemsOf st))
  rw [sortI_length] at h1
  have h3 : (itemsOf st).length = (loadsOf st).length := by simp [itemsOf]
  have h4 : (loadsOf st).length ≤ 16 := by
    unfold loadsOf
    rw [loadsGo_length]
    show 2 ^ st.length * 1 ≤ 16
    rw [Nat.mul_one]
    exact Nat.pow_le_pow_right (n := 2) (by decide) h
  show (ubGo _).length ≤ 16
  omega
theorem h_stair_of (D : Def K mg "stair_of" s_stair_of ["store", "room", "worth"]) (T : Txt mg) (c1 : FnHas P w K mg base "halves_of" 1 (PSp K Rhalves)) (c2 : FnHas P w K mg base "unbeaten" 2 (PSp K Runb)) : FnHas P w K mg base "stair_of" 3 (PSp K Rstair) := by
  refine pure_of D sc_stair_of (by rintro _ _ ⟨_, _, _, _, _, _, rfl, _⟩; rfl) fun ds d ⟨st, room, u, hs, h1, h0, e1, e2⟩ f cdv A outer s H E bx nd un hr => ?_
  subst e1; subst e2
  have hlen := hs.len
  have s1 : Single (st.take (st.length / 2)) := fun k hk => h1 k (List.mem_of_mem_take hk)
  have s2 : Single (st.drop (st.length / 2)) := fun k hk => h1 k (List.mem_of_mem_drop hk)
  have o1 : OkS (st.take (st.length / 2)) := ⟨by rw [List.length_take]; omega, fun k hk => hs.all k (List.mem_of_mem_take hk)⟩
  have o2 : OkS (st.drop (st.length / 2)) := ⟨by rw [List.length_drop]; omega, fun k hk => hs.all k (List.mem_of_mem_drop hk)⟩
  have hal : ∀ t ∈ [st.take (st.length / 2), st.drop (st.length / 2)], OkS t ∧ Single t := fun t ht => by
    simp only [List.mem_cons, List.mem_nil_iff, or_false] at ht
    rcases ht with rfl | rfl
    · exact ⟨o1, s1⟩
    · exact ⟨o2, s2⟩
  refine bd_cons (M := fun S' => S' = [.dat (encSt st), .dat (.int room), .dat (.int u), .dat (.list ((ubOf (st.take (st.length / 2))).map encI3)), .dat (.list ((ubOf (st.drop (st.length / 2))).map encI3)), .no, .no, .no, .no]) (sd_asg (d := .list [.list ((ubOf (st.take (st.length / 2))).map encI3), .list ((ubOf (st.drop (st.length / 2))).map encI3)])
    (ed_of_ld (ld_lc1 sc_stair_of 8 (ts := [st.take (st.length / 2), st.drop (st.length / 2)]) (enc := fun t => encSt t) encSt_inj (fun t => .list ((ubOf t).map encI3)) (id_tup (e_call c1 (hr.mono (by decide)) (a1 (vr 0)) ⟨st, hs, rfl, rfl⟩)) (fun t ht => e_call c2 hr (a1 (vr 8)) ⟨t, (hal t ht).1, (hal t ht).2, rfl, rfl⟩) (by show 2 ≤ 50000; decide))) (gl2 (gn 3) (gn 4)) rfl) ?_
  rintro S' rfl
  unfold stairV
  have l1 := ubOf_length o1.len
  have l2 := ubOf_length o2.len
  generalize ubOf (st.take (st.length / 2)) = one at *
  generalize ubOf (st.drop (st.length / 2)) = other at *
  have el1 : ((one.map encI3).length : Int) = one.length := by rw [List.length_map]
  have el2 : ((other.map encI3).length : Int) = other.length := by rw [List.length_map]
  refine bd_own (k := 5) (ld_lst ad_nil) ?_
  refine bd_cons (M := fun S' => S' = [.dat (encSt st), .dat (.int room), .dat (.int u), .dat (.list (one.map encI3)), .dat (.list (other.map encI3)), .own [], .dat (.int 0), .dat (.int (other.length - 1)), .no]) (sd_par (k1 := 6) (k2 := 7) (a2 ed_int (ed_bin (e_lenL T (vr 4)) ed_int o_sub)) (by rw [el2]; rfl)) ?_
  rintro S' rfl
  refine bd_cons (M := fun S' => ∃ x6 x7, ∃ g, stairGo one other room u (one.length + other.length + 1) 0 (other.length - 1) [] = some g ∧ S' = [.dat (encSt st), .dat (.int room), .dat (.int u), .dat (.list (one.map encI3)), .dat (.list (other.map encI3)), .own (g.map encPr), x6, x7, .no])
    (sd_while (n0 := one.length + other.length + 1) (Inv := fun n S' => ∃ i j : Int, ∃ g, 0 ≤ i ∧ j < other.length ∧ (one.length - i) + (j + 1) < n ∧ g.length + n ≤ 100 ∧ stairGo one other room u (one.length + other.length + 1) 0 (other.length - 1) [] = stairGo one other room u n i j g ∧ S' = [.dat (encSt st), .dat (.int room), .dat (.int u), .dat (.list (one.map encI3)), .dat (.list (other.map encI3)), .own (g.map encPr), .dat (.int i), .dat (.int j), .no])
      ⟨0, other.length - 1, [], by decide, by omega, by omega, by show 0 + _ ≤ 100; omega, rfl, rfl⟩ ?_) ?_
  · rintro n S' ⟨i, j, g, hi0, hj1, hn, hgn, hst, rfl⟩
    by_cases c : i < one.length ∧ 0 ≤ j
    · obtain ⟨ci, cj⟩ := c
      refine ⟨_, _, td_ww (wd_andT (td_cmp (vr 6) (e_lenL T (vr 3)) o_lt) (wd_and1 (td_cmp (vr 7) ed_int o_ge)) (decide_eq_true (by rw [el1]; exact ci))), fun _ => ?_, fun h => absurd cj (of_decide_eq_false h)⟩
      obtain ⟨m, rfl⟩ : ∃ m, n = m + 1 := ⟨n - 1, by omega⟩
      have ha := atI_3 hi0 ci
      have hb := atI_3 cj hj1
      have hun : stairGo one other room u (m + 1) i j g = if (at3 one i).1 + (at3 other j).1 > room then stairGo one other room u m i (j - 1) (g ++ [(i, j)]) else if (at3 one i).2.1 + (at3 other j).2.1 ≥ u then none else stairGo one other room u m (i + 1) j (g ++ [(i, j)]) := by
        conv => lhs; unfold stairGo
        rw [if_pos ⟨ci, cj⟩]
      rw [hun] at hst
      refine bd_cons (M := fun S' => S' = [.dat (encSt st), .dat (.int room), .dat (.int u), .dat (.list (one.map encI3)), .dat (.list (other.map encI3)), .own ((g ++ [(i, j)]).map encPr), .dat (.int i), .dat (.int j), .no]) (sd_app (k := 5) rfl (ed_tup (a2 (vr 6) (vr 7))) rfl (by rw [List.length_map]; omega) (by rw [List.map_append]; rfl)) ?_
      rintro S' rfl
      by_cases c1 : (at3 one i).1 + (at3 other j).1 > room
      · rw [if_pos c1] at hst
        apply bd_tk
        · exact td_cmp (ed_bin (ed_ixT (ed_ixL (vr 3) (vr 6) ha) ed_int rfl) (ed_ixT (ed_ixL (vr 4) (vr 7) hb) ed_int rfl) o_add) (vr 1) o_gt
        · exact decide_eq_true c1
        · refine bd_set (k := 7) (ed_bin (vr 7) ed_int o_sub) ?_
          exact bd_end (bd_end ⟨m, by omega, i, j - 1, g ++ [(i, j)], hi0, by omega, by omega, by rw [List.length_append]; show g.length + 1 + m ≤ 100; omega, hst, rfl⟩)
      · rw [if_neg c1] at hst
        apply bd_el
        · exact td_cmp (ed_bin (ed_ixT (ed_ixL (vr 3) (vr 6) ha) ed_int rfl) (ed_ixT (ed_ixL (vr 4) (vr 7) hb) ed_int rfl) o_add) (vr 1) o_gt
        · exact decide_eq_false c1
        · by_cases c2 : (at3 one i).2.1 + (at3 other j).2.1 ≥ u
          · rw [if_pos c2] at hst
            apply bd_tk
            · exact td_cmp (ed_bin (ed_ixT (ed_ixL (vr 3) (vr 6) ha) ed_int rfl) (ed_ixT (ed_ixL (vr 4) (vr 7) hb) ed_int rfl) o_add) (vr 2) o_ge
            · exact decide_eq_true c2
            · apply bd_ret
              · exact ed_none
              · rw [hst]; rfl
          · rw [if_neg c2] at hst
            apply bd_el
            · exact td_cmp (ed_bin (ed_ixT (ed_ixL (vr 3) (vr 6) ha) ed_int rfl) (ed_ixT (ed_ixL (vr 4) (vr 7) hb) ed_int rfl) o_add) (vr 2) o_ge
            · exact decide_eq_false c2
            · refine bd_set (k := 6) (ed_bin (vr 6) ed_int o_add) ?_
              exact bd_end (bd_end (bd_end ⟨m, by omega, i + 1, j, g ++ [(i, j)], by omega, hj1, by omega, by rw [List.length_append]; show g.length + 1 + m ≤ 100; omega, hst, rfl⟩))
    · have hun : stairGo one other room u n i j g = some g := by
        cases n with
        | zero => rfl
        | succ m =>
          conv => lhs; unfold stairGo
          rw [if_neg c]
      rw [hun] at hst
      by_cases ci : i < one.length
      · have cj : ¬ 0 ≤ j := fun z => c ⟨ci, z⟩
        exact ⟨_, _, td_ww (wd_andT (td_cmp (vr 6) (e_lenL T (vr 3)) o_lt) (wd_and1 (td_cmp (vr 7) ed_int o_ge)) (decide_eq_true (by rw [el1]; exact ci))), fun h => absurd (of_decide_eq_true h) cj, fun _ => ⟨_, _, g, hst, rfl⟩⟩
      · exact ⟨_, _, td_ww (wd_andF (td_cmp (vr 6) (e_lenL T (vr 3)) o_lt) (decide_eq_false (by rw [el1]; exact ci))), fun h => Bool.noConfusion h, fun _ => ⟨_, _, g, hst, rfl⟩⟩
  · rintro S' ⟨x6, x7, g, hg, rfl⟩
    rw [hg]
    apply bd_ret
    · exact e_tuple T (fz 5)
    · rfl
def CNst (ds : List PyData) : Prop := ∃ st, ∃ room u : Int, OkS st ∧ Single st ∧ 0 ≤ room ∧ ds = [encSt st, .int room, .int u]
theorem h_need_stair (D : Def K mg "need_stair" s_need_stair ["store", "room", "worth"]) (T : Txt mg) (c1 : FnHas P w K mg base "need_asked" 5 (PSp K (Rnone CAsk))) (c2 : FnHas P w K mg base "need_single" 2 (PSp K (Rnone CSing))) : FnHas P w K mg base "need_stair" 6 (PSp K (Rnone CNst)) := by
  refine pure_of D sc_need_stair (by rintro _ _ ⟨⟨_, _, _, _, _, _, rfl⟩, _⟩; rfl) fun ds d ⟨⟨st, r, u, hs, h1, h0, e1⟩, e2⟩ f cdv A outer s H E bx nd un hr => ?_
  subst e1; subst e2
  refine bd_drop (e_call c1 hr (a2 (vr 0) (vr 1)) ⟨⟨st, r, hs, h0, rfl⟩, rfl⟩) ?_
  apply bd_sk
  · exact td_ww (wd_orF (td_not (t_v (e_isi_int T (vr 2)))) (wd_or1 (t_v (e_isi_bool T (vr 2)))))
  · rfl
  refine bd_drop (e_call c2 (hr.mono (by decide)) (a1 (vr 0)) ⟨⟨st, hs, h1, rfl⟩, rfl⟩) ?_
  exact bd_end rfl
theorem h_stair_for (D : Def K mg "stair_for" s_stair_for ["store", "room", "worth"]) (c1 : FnHas P w K mg base "need_stair" 6 (PSp K (Rnone CNst))) (c2 : FnHas P w K mg base "stair_of" 3 (PSp K Rstair)) : FnHas P w K mg base "stair_for" 7 (PSp K Rstair) := by
  refine pure_of D sc_stair_for (by rintro _ _ ⟨_, _, _, _, _, _, rfl, _⟩; rfl) fun ds d ⟨st, room, u, hs, h1, h0, e1, e2⟩ f cdv A outer s H E bx nd un hr => ?_
  subst e1; subst e2
  refine bd_drop (e_call c1 hr (a3 (vr 0) (vr 1) (vr 2)) ⟨⟨st, room, u, hs, h1, h0, rfl⟩, rfl⟩) ?_
  apply bd_ret
  · exact e_call c2 (hr.mono (by decide)) (a3 (vr 0) (vr 1) (vr 2)) ⟨st, room, u, hs, h1, h0, rfl, rfl⟩
  · rfl
end
end Sk


set_option Elab.async false
set_option linter.all false
set_option maxRecDepth 100000
set_option maxHeartbeats 4000000
namespace Sk
open PySem L2
section
variable {P : Program} {w : World} {K : PySem.W.Frag} {mg : Str → Option Value} {base : Heap} {F : Fam} {S S1 S2 : List Sl} {pos : Pos} {s : Stmt} {Q : Po} {a b e : Expr} {ds : List PyData} {d : PyData} {i : Int}
/-! ### the law's own defs -/
def Rcell (ds : List PyData) (d : PyData) : Prop := ∃ (ns : List Int) (k : Nat), ds = [.list (ns.map .int), .int k] ∧ d = .int (rowAt ns k)
theorem rowAt_out {ns : List Int} {k : Nat} (h : ¬ k < ns.length) : rowAt ns k = 0 := by
  unfold rowAt
  rw [Int.toNat_natCast, List.getD_eq_getElem?_getD, List.getElem?_eq_none (by omega)]
  rfl
theorem h_cell (D : Def K mg "_law_cell" s_law_cell ["script", "k"]) (T : Txt mg) : FnHas P w K mg base "_law_cell" 1 (PSp K Rcell) := by
  refine pure_of D sc_law_cell (by rintro _ _ ⟨_, _, rfl, _⟩; rfl) fun ds d ⟨ns, k, e1, e2⟩ f cdv A outer s H E bx nd un hr => ?_
  subst e1; subst e2
  by_cases hk : k < ns.length
  · apply bd_tk
    · exact td_cmp (vr 1) (e_lenL T (vr 0)) o_lt
    · exact decide_eq_true (by rw [List.length_map]; omega)
    · apply bd_ret
      · exact ed_ixL (vr 0) (vr 1) (atI_row (by omega) (by omega))
      · rfl
  · apply bd_sk
    · exact td_cmp (vr 1) (e_lenL T (vr 0)) o_lt
    · exact decide_eq_false (by rw [List.length_map]; omega)
    apply bd_ret
    · exact ed_int
    · rw [rowAt_out hk]
def mixL : List Int := [48271, 69621, 16807, 39373, 30269, 40014, 40692, 50021, 61687, 71993, 83869, 95561, 30307]
def stirV (cell k : Int) : Int := ((cell % 2147483647 + 12345) * rowAt mixL (k % 13) + 977 * k + 7919 * (k / 13)) % 1000000007
def mixV (cell k : Int) : Int := (stirV cell k * stirV cell k + 48271 * k) % 1000000007 / 7
def Rmix (ds : List PyData) (d : PyData) : Prop := ∃ c k : Int, ds = [.int c, .int k] ∧ d = .int (mixV c k)
theorem h_mix (D : Def K mg "_law_mix" s_law_mix ["cell", "k"]) : FnHas P w K mg base "_law_mix" 1 (PSp K Rmix) := by
  refine pure_of D sc_law_mix (by rintro _ _ ⟨_, _, rfl, _⟩; rfl) fun ds d ⟨c, k, e1, e2⟩ f cdv A outer s H E bx nd un hr => ?_
  subst e1; subst e2
  have k0 : 0 ≤ k % 13 := Int.emod_nonneg _ (by decide)
  have k1 : k % 13 < 13 := Int.emod_lt_of_pos _ (by decide)
  have c0 : 0 ≤ c % 2147483647 := Int.emod_nonneg _ (by decide)
  have c1 : c % 2147483647 < 2147483647 := Int.emod_lt_of_pos _ (by decide)
  have s0 : 0 ≤ stirV c k := Int.emod_nonneg _ (by decide)
  have s1 : stirV c k < 1000000007 := Int.emod_lt_of_pos _ (by decide)
  refine bd_set (k := 2) (d := .list (encR mixL)) (ed_of_ld (ld_lst (ds := encR mixL) (ad_cons ed_int (ad_cons ed_int (ad_cons ed_int (ad_cons ed_int (ad_cons ed_int (ad_cons ed_int (ad_cons ed_int (ad_cons ed_int (ad_cons ed_int (ad_cons ed_int (a3 ed_int ed_int ed_int))))))))))) (by decide))) ?_
  refine bd_set (k := 3) (ed_bin (ed_bin (ed_bin (ed_bin (ed_bin (vr 0) ed_int (o_mod (by decide))) ed_int o_add) (ed_ixL (vr 2) (ed_bin (vr 1) ed_int (o_mod (by decide))) (atI_row (row := mixL) k0 (by show k % 13 < 13; exact k1))) (o_mul (.inl ⟨by omega, by omega⟩))) (ed_bin ed_int (vr 1) (o_mul (.inl ⟨by decide, by decide⟩))) o_add) (ed_bin ed_int (ed_bin (vr 1) ed_int (o_fdiv ⟨by decide, by decide⟩)) (o_mul (.inl ⟨by decide, by decide⟩))) o_add) ?_
  refine bd_set (k := 3) (d := .int (stirV c k)) (ed_bin (vr 3) ed_int (o_mod (by decide))) ?_
  apply bd_ret
  · exact ed_bin (ed_bin (ed_bin (ed_bin (vr 3) (vr 3) (o_mul (.inl ⟨by omega, by omega⟩))) (ed_bin ed_int (vr 1) (o_mul (.inl ⟨by decide, by decide⟩))) o_add) ed_int (o_mod (by decide))) ed_int (o_fdiv ⟨by decide, by decide⟩)
  · rfl
def numV (c : Int) : Nat → Int
  | 0 => 0
  | n + 1 => numV c n * 142857143 + mixV c n
def boxV (ns : List Int) (k : Nat) : Int := if rowAt ns k % 2 = 0 then ((rowAt ns k).natAbs : Int) / 2 else numV (rowAt ns k) 40
def Rbox (ds es : List PyData) : Prop := ∃ (ns : List Int) (k : Nat), ds = [.list (ns.map .int), .int k] ∧ es = [.int (boxV ns k)]
theorem h_box (D : Def K mg "_law_box" s_law_box ["script", "k"]) (T : Txt mg) (c1 : FnHas P w K mg base "_law_cell" 1 (PSp K Rcell)) (c2 : FnHas P w K mg base "_law_mix" 1 (PSp K Rmix)) : FnHas P w K mg base "_law_box" 2 (LSp K Rbox) := by
  refine list_of D sc_law_box (by rintro _ _ ⟨_, _, rfl, _⟩; rfl) fun ds es ⟨ns, k, e1, e2⟩ f cdv A outer s H E bx nd un hr => ?_
  subst e1; subst e2
  refine bd_set (k := 2) (e_call c1 hr (a2 (vr 0) (vr 1)) ⟨ns, k, rfl, rfl⟩) ?_
  unfold boxV
  generalize rowAt ns k = c
  by_cases hc : c % 2 = 0
  · rw [if_pos hc]
    apply bd_tk
    · exact td_cmp (ed_bin (vr 2) ed_int (o_mod (by decide))) ed_int o_eqI
    · exact decide_eq_true hc
    · exact bd_1 (sd_retL (ld_lst (a1 (ed_bin (e_abs T (vr 2)) ed_int (o_fdiv ⟨by decide, by decide⟩)))) rfl)
  · rw [if_neg hc]
    apply bd_sk
    · exact td_cmp (ed_bin (vr 2) ed_int (o_mod (by decide))) ed_int o_eqI
    · exact decide_eq_false hc
    refine bd_set (k := 3) ed_int ?_
    refine bd_cons (M := fun S' => ∃ x4, S' = [.dat (.list (ns.map .int)), .dat (.int k), .dat (.int c), .dat (.int (numV c 40)), x4]) (sd_for (Inv := fun j S' => ∃ x4, S' = [.dat (.list (ns.map .int)), .dat (.int k), .dat (.int c), .dat (.int (numV c j)), x4]) (i_rng T ed_int (by decide) (by decide)) ⟨.no, rfl⟩ (fun j x S' hx h => ?_) (fun S' h => h)) (fun S' h => ?_)
    · obtain ⟨x4, e⟩ := h
      subst e
      obtain ⟨hj, rfl⟩ := rgD_some hx
      refine ⟨_, gn 4, ?_⟩
      refine bd_set (k := 3) (ed_bin (ed_bin (vr 3) ed_int (o_mul (.inr ⟨by decide, by decide⟩))) (e_call c2 (hr.mono (by decide)) (a2 (vr 2) (vr 4)) ⟨c, j, rfl, rfl⟩) o_add) ?_
      exact bd_end ⟨_, rfl⟩
    · obtain ⟨x4, e⟩ := h
      subst e
      exact bd_1 (sd_retL (ld_lst (a1 (vr 3))) rfl)
def Rtake (b : Int) (ds : List PyData) (d : PyData) (b' : Int) : Prop := ∃ m : Int, 0 < m ∧ m < 1073741824 ∧ ds = [.int m] ∧ d = .int (b % m) ∧ b' = b / m
theorem h_take (D : Def K mg "_law_take" s_law_take ["box", "many"]) (T : Txt mg) : FnHas P w K mg base "_law_take" 1 (BSp K Rtake) := by
  refine box_of D sc_law_take (by decide) (by rintro _ _ _ _ ⟨_, _, _, rfl, _⟩; rfl) fun b ds d b' ⟨m, h0, h1, e1, e2, e3⟩ f cdv A outer s H E bx nd un hr => ?_
  subst e1; subst e2; subst e3
  refine bd_cons (M := fun S' => S' = [.box b, .dat (.int m), .dat (.int (b / m)), .dat (.int (b % m))]) (sd_asg (e_divmod T (a2 (ed_ixB (k := 0) rfl (.inr rfl)) (vr 1)) ⟨h0, h1⟩) (gt2 (gn 2) (gn 3)) rfl) ?_
  rintro S' rfl
  refine bd_cons (M := fun S' => S' = [.box (b / m), .dat (.int m), .dat (.int (b / m)), .dat (.int (b % m))]) (sd_setB (k := 0) rfl (.inr rfl) (vr 2) rfl) ?_
  rintro S' rfl
  apply bd_ret
  · exact vr 3
  · exact ⟨rfl, rfl⟩
end
end Sk


set_option Elab.async false
set_option linter.all false
set_option maxRecDepth 100000
set_option maxHeartbeats 4000000
namespace Sk
open PySem L2
section
variable {P : Program} {w : World} {K : PySem.W.Frag} {mg : Str → Option Value} {base : Heap} {F : Fam} {S S1 S2 : List Sl} {pos : Pos} {s : Stmt} {Q : Po} {a b e : Expr} {ds : List PyData} {d : PyData} {i : Int}
/-- _law_take(box, m) -/
theorem e_take {bv m : Int} {sl : Sl} {p q : Pos} {bn : Str} {n : Nat} (h : FnHas F.P F.w F.K F.mg F.base "_law_take" n (BSp F.K Rtake)) (hr : Room n F.A) (k : Nat) (ha : ED F S a (.int m) S) (h0 : 0 < m) (h1 : m < 1073741824) (hs : S[k]? = some sl := by rfl) (hh : Hold bv sl := by first | exact Or.inr rfl | exact Or.inl rfl) (hN : F.N[k]? = some bn := by rfl) (hg : ∀ i, Gl (F.X i) "_law_take" := by intro _; rfl)
    (hv : ∀ i, Vis (F.X i).env.scope bn := by first | exact fun _ => Or.inl rfl | exact fun _ => Or.inr (Or.inl rfl) | exact fun _ => Or.inr (Or.inr rfl)) (hd : (bn == ("__debug__" : Str)) = false := by decide) (hcd : (bn == ("__classdict__" : Str)) = false := by decide)
    (he1 : ∀ i, starEach [a] (F.X i).env = (false, eval a (F.X i).env) :: starEach [] (F.X i).env := by intro _; rfl) (he : ∀ i, starEach [.Name bn q, a] (F.X i).env = (false, eval (.Name bn q) (F.X i).env) :: starEach [a] (F.X i).env := by intro _; rfl) (hpl : ∀ i, (backTo pos (starEach [a] (F.X i).env)).any (·.1) = false := by intro _; rfl) : ED F S (.Call (.Name "_law_take" p) [.Name bn q, a] [] pos) (.int (bv % m)) (S.set k (reSl (bv / m) sl)) :=
  ed_callBox h hr hg hs hh (ad_cons ha ad_nil he1) ⟨m, h0, h1, rfl, rfl, rfl⟩ hN hv hd hcd (by decide) he hpl
def oftL : List (Option Int) := [some 1, some 1, some 1, some 2, some 3, some 0, some 5, none]
/-- of one kind: heavy, dear, what is left of the box -/
def kind1 (b : Int) : Int × Int × Int :=
  let way := b % 6
  let heavy := 1 + b / 6 % 7
  let dear := b / 6 / 7 % 10
  let b3 := b / 6 / 7 / 10
  let dear1 := if way = 1 then 2 * heavy else dear
  let dear2 := if way = 2 then heavy + b3 % 3 else dear1
  let b4 := if way = 2 then b3 / 3 else b3
  if way = 3 then (1 + b4 % 25, b4 / 25 % 40, b4 / 25 / 40) else (heavy, dear2, b4)
def kindV (b : Int) : Kd := ((kind1 b).1, (kind1 b).2.1, oftL.getD ((kind1 b).2.2 % 8).toNat none)
def kindB (b : Int) : Int := (kind1 b).2.2 / 8
theorem kind1_ok (b : Int) : 1 ≤ (kind1 b).1 ∧ (kind1 b).1 ≤ 25 ∧ 0 ≤ (kind1 b).2.1 ∧ (kind1 b).2.1 ≤ 39 := by
  unfold kind1
  simp only
  repeat' split
  all_goals simp only
  all_goals omega
theorem kindV_ok (b : Int) : OkK (kindV b) := by
  obtain ⟨h1, h2, h3, h4⟩ := kind1_ok b
  refine ⟨h1, h2, h3, h4, fun m hm => ?_⟩
  have h0 : 0 ≤ (kind1 b).2.2 % 8 := Int.emod_nonneg _ (by decide)
  have h8 : (kind1 b).2.2 % 8 < 8 := Int.emod_lt_of_pos _ (by decide)
  have hm : oftL.getD ((kind1 b).2.2 % 8).toNat none = some m := hm
  generalize (kind1 b).2.2 % 8 = z at *
  have : z = 0 ∨ z = 1 ∨ z = 2 ∨ z = 3 ∨ z = 4 ∨ z = 5 ∨ z = 6 ∨ z = 7 := by omega
  rcases this with rfl | rfl | rfl | rfl | rfl | rfl | rfl | rfl
  all_goals first
    | (have e : some 1 = some m := hm; cases e; exact ⟨by decide, by decide⟩)
    | (have e : some 2 = some m := hm; cases e; exact ⟨by decide, by decide⟩)
    | (have e : some 3 = some m := hm; cases e; exact ⟨by decide, by decide⟩)
    | (have e : some 0 = some m := hm; cases e; exact ⟨by decide, by decide⟩)
    | (have e : some 5 = some m := hm; cases e; exact ⟨by decide, by decide⟩)
    | (have e : none = some m := hm; cases e)
theorem atI_oft {z : Int} (h0 : 0 ≤ z) (h8 : z < 8) : atI (oftL.map encO) z = some (encO (oftL.getD z.toNat none)) := by
  rw [atI_nn h0 (by rw [List.length_map]; exact h8), List.getElem?_map, List.getD_eq_getElem?_getD, List.getElem?_eq_getElem (show z.toNat < oftL.length by show z.toNat < 8; omega)]
  rfl
def RkindOf (b : Int) (ds : List PyData) (d : PyData) (b' : Int) : Prop := ds = [.none] ∧ d = encK (kindV b) ∧ b' = kindB b
theorem h_kind_of (D : Def K mg "_law_kind_of" s_law_kind_of ["box", "ends"]) (c1 : FnHas P w K mg base "_law_take" 1 (BSp K Rtake)) : FnHas P w K mg base "_law_kind_of" 2 (BSp K RkindOf) := by
  refine box_of D sc_law_kind_of (by decide) (by rintro _ _ _ _ ⟨rfl, _⟩; rfl) fun b ds d b' ⟨e1, e2, e3⟩ f cdv A outer s H E bx nd un hr => ?_
  subst e1; subst e2; subst e3
  have h60 : 0 ≤ b % 6 := Int.emod_nonneg _ (by decide)
  refine bd_set (k := 2) (e_take c1 hr 0 ed_int (by decide) (by decide)) ?_
  refine bd_cons (M := fun S' => S' = [.box (b / 6 / 7 / 10), .dat .none, .dat (.int (b % 6)), .dat (.int (1 + b / 6 % 7)), .dat (.int (b / 6 / 7 % 10)), .no]) (sd_par (k1 := 3) (k2 := 4) (a2 (ed_bin ed_int (e_take c1 hr 0 ed_int (by decide) (by decide)) o_add) (e_take c1 hr 0 ed_int (by decide) (by decide))) rfl) ?_
  rintro S' rfl
  generalize hd1 : (if b % 6 = 1 then 2 * (1 + b / 6 % 7) else b / 6 / 7 % 10) = dear1
  refine bd_cons (M := fun S' => S' = [.box (b / 6 / 7 / 10), .dat .none, .dat (.int (b % 6)), .dat (.int (1 + b / 6 % 7)), .dat (.int dear1), .no]) (sd_if (td_cmp (vr 2) ed_int o_eqI) (fun h => ?_) (fun h => ?_)) ?_
  · rw [if_pos (of_decide_eq_true h)] at hd1
    refine bd_set (k := 4) (ed_bin ed_int (vr 3) (o_mul (.inl ⟨by decide, by decide⟩))) ?_
    exact bd_end (by rw [← hd1]; rfl)
  · rw [if_neg (of_decide_eq_false h)] at hd1
    exact bd_end (by rw [← hd1])
  rintro S' rfl
  generalize hd2 : (if b % 6 = 2 then 1 + b / 6 % 7 + b / 6 / 7 / 10 % 3 else dear1) = dear2
  generalize hb4 : (if b % 6 = 2 then b / 6 / 7 / 10 / 3 else b / 6 / 7 / 10) = b4
  refine bd_cons (M := fun S' => S' = [.box b4, .dat .none, .dat (.int (b % 6)), .dat (.int (1 + b / 6 % 7)), .dat (.int dear2), .no]) (sd_if (td_cmp (vr 2) ed_int o_eqI) (fun h => ?_) (fun h => ?_)) ?_
  · rw [if_pos (of_decide_eq_true h)] at hd2 hb4
    refine bd_set (k := 4) (ed_bin (vr 3) (e_take c1 hr 0 ed_int (by decide) (by decide)) o_add) ?_
    exact bd_end (by rw [← hd2, ← hb4]; rfl)
  · rw [if_neg (of_decide_eq_false h)] at hd2 hb4
    exact bd_end (by rw [← hd2, ← hb4])
  rintro S' rfl
  have hk1 : kind1 b = if b % 6 = 3 then (1 + b4 % 25, b4 / 25 % 40, b4 / 25 / 40) else (1 + b / 6 % 7, dear2, b4) := by
    unfold kind1
    simp only
    rw [hd1, hd2, hb4]
  refine bd_cons (M := fun S' => S' = [.box (kind1 b).2.2, .dat .none, .dat (.int (b % 6)), .dat (.int (kind1 b).1), .dat (.int (kind1 b).2.1), .no]) (sd_if (td_cmp (vr 2) ed_int o_eqI) (fun h => ?_) (fun h => ?_)) ?_
  · rw [if_pos (of_decide_eq_true h)] at hk1
    refine bd_1 (sd_par (k1 := 3) (k2 := 4) (a2 (ed_bin ed_int (e_take c1 hr 0 ed_int (by decide) (by decide)) o_add) (e_take c1 hr 0 ed_int (by decide) (by decide))) (by rw [hk1]; rfl))
  · rw [if_neg (of_decide_eq_false h)] at hk1
    exact bd_end (by rw [hk1])
  rintro S' rfl
  have h0 : 0 ≤ (kind1 b).2.2 % 8 := Int.emod_nonneg _ (by decide)
  have h8 : (kind1 b).2.2 % 8 < 8 := Int.emod_lt_of_pos _ (by decide)
  unfold kindV kindB
  generalize kind1 b = kk at *
  obtain ⟨k1, k2, k3⟩ := kk
  refine bd_set (k := 5) (d := encO (oftL.getD (k3 % 8).toNat none)) (ed_ixL (ds := oftL.map encO) (ed_of_ld (ld_lst (ds := oftL.map encO) (ad_cons ed_int (ad_cons ed_int (ad_cons ed_int (ad_cons ed_int (ad_cons ed_int (a3 ed_int ed_int (vr 1))))))) (by decide))) (e_take c1 hr 0 ed_int (by decide) (by decide)) (atI_oft h0 h8)) ?_
  apply bd_ret
  · exact ed_tup (a3 (vr 3) (vr 4) (vr 5))
  · exact ⟨rfl, rfl⟩
def stockGo : Nat → List Kd → Int → List Kd × Int
  | 0, f, b => (f, b)
  | n + 1, f, b => if f ≠ [] then (if kindB b % 7 = 6 then stockGo n (f ++ [kd f (kindB b / 7 % f.length)]) (kindB b / 7 / f.length) else stockGo n (f ++ [kindV b]) (kindB b / 7)) else stockGo n (f ++ [kindV b]) (kindB b)
def stockV (b : Int) : List Kd × Int := stockGo (b % 5).toNat [] (b / 5)
theorem stock_ok : ∀ {n : Nat} {f : List Kd} {b : Int}, (∀ k ∈ f, OkK k) → (∀ k ∈ (stockGo n f b).1, OkK k) ∧ (stockGo n f b).1.length = f.length + n
  | 0, f, b, h => ⟨h, rfl⟩
  | n + 1, f, b, h => by
    have add : ∀ {k : Kd}, OkK k → ∀ z ∈ f ++ [k], OkK z := fun {k} hk z hz => by
      rcases List.mem_append.mp hz with q | q
      · exact h z q
      · rw [List.mem_singleton.mp q]; exact hk
    unfold stockGo
    have step : ∀ {k : Kd} {b' : Int}, OkK k → (∀ z ∈ (stockGo n (f ++ [k]) b').1, OkK z) ∧ (stockGo n (f ++ [k]) b').1.length = f.length + (n + 1) := fun {k b'} hk => by
      obtain ⟨q1, q2⟩ := stock_ok (n := n) (b := b') (add hk)
      refine ⟨q1, ?_⟩
      rw [q2, List.length_append]
      show f.length + 1 + n = _
      omega
    split
    · next hne =>
      have hl : 0 < f.length := List.length_pos_iff.mpr hne
      split
      · exact step (kd_ok h (Int.emod_nonneg _ (by omega)) (Int.emod_lt_of_pos _ (by omega)))
      · exact step (kindV_ok b)
    · exact step (kindV_ok b)
theorem stockV_ok (b : Int) : OkS (stockV b).1 := by
  obtain ⟨h1, h2⟩ := stock_ok (n := (b % 5).toNat) (f := []) (b := b / 5) (fun _ h => by simp at h)
  have h5 : b % 5 < 5 := Int.emod_lt_of_pos _ (by decide)
  exact ⟨by show (stockGo _ _ _).1.length ≤ 4; rw [h2]; show 0 + _ ≤ 4; omega, h1⟩
theorem lay_kinds : ∀ l : List Kd, PyData.canLayAll0 (l.map encK) = true ∧ PyData.depthAll (l.map encK) ≤ 1
  | [] => ⟨rfl, by decide⟩
  | ⟨a, b, c⟩ :: l => by
    obtain ⟨h1, h2⟩ := lay_kinds l
    cases c with
    | none => simp [PyData.canLayAll0, PyData.depthAll, PyData.canLay0, PyData.depth, encK, encO, h1]; omega
    | some m => simp [PyData.canLayAll0, PyData.depthAll, PyData.canLay0, PyData.depth, encK, encO, h1]; omega
theorem sh_kinds (l : List Kd) : SeqAt.shaped (.list (l.map encK)) = true := by
  obtain ⟨h1, h2⟩ := lay_kinds l
  unfold SeqAt.shaped
  simp [PyData.canLay0, PyData.depth, h1]
  omega
def Rstocked (b : Int) (ds : List PyData) (d : PyData) (b' : Int) : Prop := ds = [.int 4, .none] ∧ d = encSt (stockV b).1 ∧ b' = (stockV b).2
theorem h_stocked (D : Def K mg "_law_stocked" s_law_stocked ["box", "most", "ends"]) (T : Txt mg) (c1 : FnHas P w K mg base "_law_take" 1 (BSp K Rtake)) (c2 : FnHas P w K mg base "_law_kind_of" 2 (BSp K RkindOf)) : FnHas P w K mg base "_law_stocked" 3 (BSp K Rstocked) := by
  refine box_of D sc_law_stocked (by decide) (by rintro _ _ _ _ ⟨rfl, _⟩; rfl) fun b ds d b' ⟨e1, e2, e3⟩ f cdv A outer s H E bx nd un hr => ?_
  subst e1; subst e2; subst e3
  have h50 : 0 ≤ b % 5 := Int.emod_nonneg _ (by decide)
  have h55 : b % 5 < 5 := Int.emod_lt_of_pos _ (by decide)
  have hr1 := hr.mono (show 1 ≤ 2 by decide)
  refine bd_own (k := 3) (ld_lst ad_nil) ?_
  refine bd_cons (M := fun S' => ∃ x4 x5, S' = [.box (stockV b).2, .dat (.int 4), .dat .none, .own ((stockV b).1.map encK), x4, x5]) (sd_for (Inv := fun j S' => ∃ x4 x5, ∃ bb : Int, ∃ g : List Kd, g.length = j ∧ (∀ k ∈ g, OkK k) ∧ stockV b = stockGo ((b % 5).toNat - j) g bb ∧ S' = [.box bb, .dat (.int 4), .dat .none, .own (g.map encK), x4, x5])
    (i_rng T (e_take c1 hr1 0 (ed_bin (vr 1) ed_int o_add) (by decide) (by decide)) h50 (by show b % 5 ≤ _; omega)) ⟨.no, .no, b / 5, [], rfl, (fun _ h => by simp at h), rfl, rfl⟩ (fun j x S' hx h => ?_) (fun S' h => ?_)) (fun S' h => ?_)
  · obtain ⟨x4, x5, bb, g, hg, hok, hst, e⟩ := h
    subst e
    obtain ⟨hj, rfl⟩ := rgD_some hx
    have hj : j < (b % 5).toNat := hj
    have ej : (b % 5).toNat - j = ((b % 5).toNat - (j + 1)) + 1 := by omega
    rw [ej] at hst
    unfold stockGo at hst
    refine ⟨_, gn 4, ?_⟩
    refine bd_set (k := 5) (ed_callBox (k := 0) c2 hr (fun _ => rfl) rfl (.inr rfl) (a1 (vr 2)) ⟨rfl, rfl, rfl⟩) ?_
    by_cases hne : g = []
    · subst hne
      rw [if_neg (fun h => h rfl)] at hst
      apply bd_sk
      · exact td_ww (wd_andF (td_neNil (k := 3) rfl (sh_kinds [])))
      · rfl
      exact bd_1 (sd_app (k := 3) rfl (vr 5) rfl (by decide) ⟨_, _, kindB bb, [kindV bb], by rw [← hg]; rfl, fun k hk => by rw [List.mem_singleton.mp hk]; exact kindV_ok bb, hst, rfl⟩)
    · rw [if_pos hne] at hst
      have hl : 0 < g.length := List.length_pos_iff.mpr hne
      have hem : (!(g.map encK).isEmpty) = true := by
        cases g with
        | nil => exact absurd rfl hne
        | cons _ _ => rfl
      have el : ((g.map encK).length : Int) = g.length := by rw [List.length_map]
      by_cases h6 : kindB bb % 7 = 6
      · rw [if_pos h6] at hst
        have z0 : 0 ≤ kindB bb / 7 % g.length := Int.emod_nonneg _ (by omega)
        have z1 : kindB bb / 7 % g.length < g.length := Int.emod_lt_of_pos _ (by omega)
        apply bd_tk
        · exact td_ww (wd_andT (td_neNil (k := 3) rfl (sh_kinds g)) (wd_and1 (td_cmp (e_take c1 hr1 0 ed_int (by decide) (by decide)) ed_int o_eqI)) hem)
        · exact decide_eq_true h6
        · refine bd_set (k := 5) (d := encK (kd g (kindB bb / 7 % g.length))) (ed_ixO (k := 3) rfl rfl (fun _ => Or.inl rfl) (e_take (m := (g.map encK).length) c1 hr1 0 (e_lenO T 3) (by omega) (by omega)) rfl (by rw [el]; exact atI_kd z0 z1)) ?_
          refine bd_end ?_
          exact bd_1 (sd_app (k := 3) rfl (vr 5) rfl (by rw [List.length_map]; omega) ⟨_, _, kindB bb / 7 / g.length, g ++ [kd g (kindB bb / 7 % g.length)], by rw [List.length_append, hg]; rfl, fun k hk => by
            rcases List.mem_append.mp hk with q | q
            · exact hok k q
            · rw [List.mem_singleton.mp q]; exact kd_ok hok z0 z1, hst, by rw [List.map_append, el]; rfl⟩)
      · rw [if_neg h6] at hst
        apply bd_sk
        · exact td_ww (wd_andT (td_neNil (k := 3) rfl (sh_kinds g)) (wd_and1 (td_cmp (e_take c1 hr1 0 ed_int (by decide) (by decide)) ed_int o_eqI)) hem)
        · exact decide_eq_false h6
        exact bd_1 (sd_app (k := 3) rfl (vr 5) rfl (by rw [List.length_map]; omega) ⟨_, _, kindB bb / 7, g ++ [kindV bb], by rw [List.length_append, hg]; rfl, fun k hk => by
            rcases List.mem_append.mp hk with q | q
            · exact hok k q
            · rw [List.mem_singleton.mp q]; exact kindV_ok bb, hst, by rw [List.map_append]; rfl⟩)
  · obtain ⟨x4, x5, bb, g, hg, hok, hst, e⟩ := h
    rw [rgD_length] at hg hst
    rw [show (b % (4 + 1)) = b % 5 from rfl, Nat.sub_self] at hst
    exact ⟨x4, x5, by rw [e, hst]; rfl⟩
  · obtain ⟨x4, x5, e⟩ := h
    subst e
    apply bd_ret
    · exact e_tuple T (fz 3)
    · exact ⟨rfl, rfl⟩
end
end Sk


set_option Elab.async false
set_option linter.all false
set_option maxRecDepth 100000
set_option maxHeartbeats 4000000
namespace Sk
open PySem L2
/-! ### the law -/
theorem row_nn {st : List Kd} {r : Int} (h0 : 0 ≤ r) (hs : ∀ k ∈ st, OkK k) : ∀ x ∈ rowsOf r st, 0 ≤ x := fun x hx => by
  obtain ⟨i, hi, e⟩ := List.mem_iff_getElem.mp hx
  have ok := rowsOf_ok h0 hs
  have hl := ok.len
  have hb := ok.best i (by omega) (by omega)
  have : rowAt (rowsOf r st) i = x := by
    unfold rowAt
    rw [Int.toNat_natCast, List.getD_eq_getElem?_getD, List.getElem?_eq_getElem hi, e]
    rfl
  rw [← this]
  exact hb.nn (by omega) hs
theorem tab_get {st : List Kd} {r : Int} {k : Nat} {a : List Int} (h : (tabRows st r)[k]? = some a) : a = rowI r st k ∧ k ≤ st.length := by
  unfold tabRows at h
  have hk : k < st.length + 1 := by
    have := (List.getElem?_eq_some_iff.mp h).1
    simpa using this
  rw [List.getElem?_map, List.getElem?_range hk] at h
  exact ⟨(Option.some.inj h).symm, by omega⟩
theorem zip_maps {α : Type} (f g : α → Int) : ∀ (l : List α) {t : Int × Int}, t ∈ (l.map f).zip (l.map g) → ∃ x ∈ l, t = (f x, g x)
  | [], t, h => by simp at h
  | x :: l, t, h => by
    simp only [List.map_cons, List.zip_cons_cons, List.mem_cons] at h
    rcases h with rfl | h
    · exact ⟨x, List.mem_cons_self, rfl⟩
    · obtain ⟨y, hy, e⟩ := zip_maps f g l h
      exact ⟨y, List.mem_cons_of_mem _ hy, e⟩
theorem tab_ok {st st' : List Kd} {r : Int} (hs : OkS st) (h0 : 0 ≤ r) (hl : st'.length = st.length) (hk : ∀ (k : Nat) q, st'[k]? = some q → ∃ p, st[k]? = some p ∧ q.1 = p.1 ∧ q.2.1 ≤ p.2.1 ∧ q.2.2 = p.2.2) : TabOk st' r (tabRows st r) := by
  refine ⟨by unfold tabRows; simp [hl], fun row hrow => ?_, fun k q a b hq ha hb t ht => ?_⟩
  · obtain ⟨i, hi, e⟩ := List.mem_iff_getElem.mp hrow
    obtain ⟨e2, _⟩ := tab_get (st := st) (r := r) (k := i) (a := row) (by rw [List.getElem?_eq_getElem hi, e])
    subst e2
    refine ⟨by rw [rowI_length]; omega, row_nn h0 fun k hk => hs.all k (List.mem_of_mem_take (List.mem_reverse.mp hk))⟩
  · obtain ⟨p, hp, p1, p2, p3⟩ := hk k q hq
    obtain ⟨ea, _⟩ := tab_get ha
    obtain ⟨eb, _⟩ := tab_get hb
    have hpk := hs.all p (List.mem_of_getElem? hp)
    have em : mostIn q r = mostIn p r := by unfold mostIn; rw [p1, p3]
    rw [ea, eb, rowI_succ hp, em, p1] at ht
    obtain ⟨x, hx, rfl⟩ := zip_maps _ _ _ ht
    exact cell_mono p2 (mostIn_nn hpk h0) (Int.ediv_nonneg (by omega) (by have := hpk.w1; omega))
theorem tab_last {st : List Kd} {r : Int} (hs : OkS st) (h0 : 0 ≤ r) : rowAt ((tabRows st r).getD st.length []) r = bestW st r := by
  unfold tabRows
  rw [List.getD_eq_getElem?_getD, List.getElem?_map, List.getElem?_range (by omega)]
  show rowAt (rowI r st st.length) r = _
  unfold rowI
  rw [List.take_length]
  exact bestW_rev h0 hs.all
def lesser (st : List Kd) : List Kd := st.map fun k => (k.1, max 0 (k.2.1 - 1), k.2.2)
theorem lesser_ok {st : List Kd} (hs : OkS st) : OkS (lesser st) := by
  refine ⟨by unfold lesser; rw [List.length_map]; exact hs.len, fun k hk => ?_⟩
  obtain ⟨q, hq, rfl⟩ := List.mem_map.mp hk
  have h := hs.all q hq
  have := h.v1; have := h.v2
  exact ⟨h.w1, h.w2, by show 0 ≤ max 0 (q.2.1 - 1); omega, by show max 0 (q.2.1 - 1) ≤ 39; omega, h.m⟩
theorem lesser_tab {st : List Kd} {r : Int} (hs : OkS st) (h0 : 0 ≤ r) : TabOk (lesser st) r (tabRows st r) := tab_ok hs h0 (by unfold lesser; simp) fun k q hq => by
  unfold lesser at hq
  rw [List.getElem?_map] at hq
  cases e : st[k]? with
  | none => rw [e] at hq; cases hq
  | some p =>
    rw [e] at hq
    cases hq
    have := (hs.all p (List.mem_of_getElem? e)).v1
    exact ⟨p, rfl, rfl, by show max 0 (p.2.1 - 1) ≤ p.2.1; omega, rfl⟩
def single (st : List Kd) : List Kd := st.map fun k => (k.1, k.2.1, some 1)
theorem single_ok {st : List Kd} (hs : OkS st) : OkS (single st) ∧ Single (single st) := by
  refine ⟨⟨by unfold single; rw [List.length_map]; exact hs.len, fun k hk => ?_⟩, fun k hk => ?_⟩
  · obtain ⟨q, hq, rfl⟩ := List.mem_map.mp hk
    have h := hs.all q hq
    exact ⟨h.w1, h.w2, h.v1, h.v2, fun m hm => by cases hm; decide⟩
  · obtain ⟨q, hq, rfl⟩ := List.mem_map.mp hk
    rfl
theorem cutF_none {st : List Kd} {r u : Int} : isNone (cutF st r u) = decide (u ≤ bestW st r) := by
  unfold cutF
  by_cases h : u ≤ bestW st r
  · rw [if_pos h, decide_eq_true h]; rfl
  · rw [if_neg h, decide_eq_false h]
    cases cutGo 5 st r u <;> rfl
theorem stair_none_b {st : List Kd} {r u : Int} (hs : OkS st) (h1 : Single st) (h0 : 0 ≤ r) : isNone (encSr (stairV st r u)) = decide (u ≤ bestW st r) := by
  have := stair_iff (u := u) hs h1 h0
  cases e : stairV st r u with
  | none => rw [decide_eq_true (this.mp e)]; rfl
  | some f => rw [decide_eq_false fun h => by rw [this.mpr h] at e; cases e]; rfl
end Sk


set_option Elab.async false
set_option linter.all false
set_option maxRecDepth 100000
set_option maxHeartbeats 8000000
namespace Sk
open PySem L2
section
variable {P : Program} {w : World} {K : PySem.W.Frag} {mg : Str → Option Value} {base : Heap} {F : Fam} {S S1 S2 : List Sl} {pos : Pos} {s : Stmt} {Q : Po} {a b e : Expr} {ds : List PyData} {d : PyData} {i : Int}
def Rlaw (ds : List PyData) (d : PyData) : Prop := ∃ ns : List Int, ds = [.list (ns.map .int)] ∧ d = .bool true
/-- what the law calls -/
structure Calls (P : Program) (w : World) (K : PySem.W.Frag) (mg : Str → Option Value) (base : Heap) : Prop where
  box : FnHas P w K mg base "_law_box" 2 (LSp K Rbox)
  stocked : FnHas P w K mg base "_law_stocked" 3 (BSp K Rstocked)
  take : FnHas P w K mg base "_law_take" 1 (BSp K Rtake)
  best : FnHas P w K mg base "best_worth" 7 (PSp K Rbest)
  paper : FnHas P w K mg base "table_paper" 7 (PSp K RtabPaper)
  bound : FnHas P w K mg base "table_bound" 7 (PSp K RtabBound)
  cutFor : FnHas P w K mg base "cut_for" 11 (PSp K RcutFor)
  isCut : FnHas P w K mg base "is_cut" 11 (PSp K (RcutOf 5))
  whole : FnHas P w K mg base "whole_bound" 6 (PSp K RwholeB)
  price : FnHas P w K mg base "some_price" 6 (PSp K RpriceOf)
  stair : FnHas P w K mg base "stair_for" 7 (PSp K Rstair)
theorem trip_inj : ∀ a b : Kd, (PyData.tuple [.int a.1, .int a.2.1, encO a.2.2]) = .tuple [.int b.1, .int b.2.1, encO b.2.2] → a = b := encK_inj
theorem ints_some {us : List Int} {k : Nat} {x : PyData} (h : (us.map PyData.int)[k]? = some x) : ∃ u, x = .int u := by
  obtain ⟨u, _, e⟩ := map_some h
  exact ⟨u, e⟩
theorem law_body (T : Txt mg) (C : Calls P w K mg base) : ∀ ds d, Rlaw ds d → Body P w K mg base n_law "law" (defScope s_law) (defBody s_law) 11 (ds.map Sl.dat ++ nos (n_law.length - ds.length)) { nx := fun _ => d = .none, rt := fun d' _ => d' = d } := by
  intro ds d ⟨ns, e1, e2⟩ f cdv A outer s H E bx nd un hr
  subst e1; subst e2
  refine bd_cons (M := fun S' => True) (sd_for (Inv := fun k S' => ∃ x1 x2 x3 x4 x5 x6 x7 x8 x9 x10 x11 x12, S' = [.dat (.list (ns.map .int)), x1, x2, x3, x4, x5, x6, x7, x8, x9, x10, x11, x12, .no, .no, .no, .no])
    (i_rng T (e_max T (a2 ed_int (e_min T (a2 (e_lenL T (vr 0)) ed_int)))) (by omega) (by omega)) ⟨.no, .no, .no, .no, .no, .no, .no, .no, .no, .no, .no, .no, rfl⟩ (fun k x S' hx h => ?_) (fun S' h => trivial)) (fun S' h => ?_)
  · obtain ⟨x1, x2, x3, x4, x5, x6, x7, x8, x9, x10, x11, x12, e⟩ := h
    subst e
    obtain ⟨hk, rfl⟩ := rgD_some hx
    refine ⟨_, gn 1, ?_⟩
    refine bd_own (k := 2) (ld_call C.box (hr.mono (by decide)) (fun _ => rfl) (a2 (vr 0) (vr 1)) ⟨ns, k, rfl, rfl⟩) ?_
    generalize boxV ns k = b0
    refine bd_set (k := 3) (ed_callBox (k := 2) C.stocked (hr.mono (by decide)) (fun _ => rfl) rfl (.inl rfl) (a2 ed_int ed_none) ⟨rfl, rfl, rfl⟩) ?_
    have hs := stockV_ok b0
    generalize (stockV b0).1 = st at hs
    generalize (stockV b0).2 = b1
    have r0 : 0 ≤ b1 % 16 := Int.emod_nonneg _ (by decide)
    have r1 : b1 % 16 < 16 := Int.emod_lt_of_pos _ (by decide)
    refine bd_set (k := 4) (e_take C.take (hr.mono (by decide)) 2 ed_int (by decide) (by decide)) ?_
    generalize b1 % 16 = r at r0 r1
    generalize b1 / 16 = b2
    have r2 : r ≤ 200 := by omega
    have hb := bestW_ok r0 hs.all
    refine bd_set (k := 5) (e_call C.best (hr.mono (by decide)) (a2 (vr 3) (vr 4)) ⟨st, r, hs, r0, r2, rfl, rfl⟩) ?_
    refine bd_set (k := 6) (e_call C.paper (hr.mono (by decide)) (a2 (vr 3) (vr 4)) ⟨st, r, hs, r0, r2, rfl, rfl⟩) ?_
    apply bd_sk
    · exact td_cmp (e_call C.bound (hr.mono (by decide)) (a3 (vr 6) (vr 3) (vr 4)) ⟨st, r, tabRows st r, hs, r0, r2, tab_ok hs r0 rfl fun _ q h => ⟨q, h, rfl, Int.le_refl _, rfl⟩, rfl, by rw [tab_last hs r0]⟩) (vr 5) o_neI
    · rw [decide_eq_true rfl]; rfl
    refine bd_set (k := 7) (d := encSt (lesser st)) (ED.weak (e_tupC T (ld_lc3 sc_law 13 14 15 (x := fun k : Kd => .int k.1) (y := fun k : Kd => .int k.2.1) (z := fun k : Kd => encO k.2.2) trip_inj (fun k => encK (k.1, max 0 (k.2.1 - 1), k.2.2)) (id_tup (vr 3)) (fun t ht => ed_tup (a3 (vr 13) (e_max T (a2 ed_int (ed_bin (vr 14) ed_int o_sub))) (vr 15))) (by have := hs.len; omega))) (by unfold lesser encSt; rw [List.map_map]; rfl)) ?_
    apply bd_sk
    · exact td_cmp (e_call C.bound (hr.mono (by decide)) (a3 (vr 6) (vr 7) (vr 4)) ⟨lesser st, r, tabRows st r, lesser_ok hs, r0, r2, lesser_tab hs r0, rfl, by rw [show (lesser st).length = st.length by unfold lesser; simp, tab_last hs r0]⟩) (vr 5) o_neI
    · rw [decide_eq_true rfl]; rfl
    refine bd_cons (M := fun S' => ∃ b3 x8 x9, S' = [.dat (.list (ns.map .int)), .dat (.int k), .own [.int b3], .dat (encSt st), .dat (.int r), .dat (.int (bestW st r)), .dat (.list ((tabRows st r).map encIs)), .dat (encSt (lesser st)), x8, x9, x10, x11, x12, .no, .no, .no, .no])
      (sd_for (xs := [bestW st r, bestW st r + 1, bestW st r + 1 + b2 % 9].map .int) (Inv := fun _ S' => ∃ x8 x9, S' = [.dat (.list (ns.map .int)), .dat (.int k), .own [.int (b2 / 9)], .dat (encSt st), .dat (.int r), .dat (.int (bestW st r)), .dat (.list ((tabRows st r).map encIs)), .dat (encSt (lesser st)), x8, x9, x10, x11, x12, .no, .no, .no, .no])
        (id_lst (ed_of_ld (ld_lst (a3 (vr 5) (ed_bin (vr 5) ed_int o_add) (ed_bin (ed_bin (vr 5) ed_int o_add) (e_take C.take (hr.mono (by decide)) 2 ed_int (by decide) (by decide)) o_add))))) ⟨x8, x9, rfl⟩ (fun j x S' hx h => ?_) (fun S' h => ⟨_, h⟩)) (fun S' h => ?_)
    · obtain ⟨x8, x9, e⟩ := h
      subst e
      obtain ⟨u, rfl⟩ := ints_some hx
      refine ⟨_, gn 8, ?_⟩
      refine bd_set (k := 9) (e_call C.cutFor hr (a3 (vr 3) (vr 4) (vr 8)) ⟨st, r, u, hs, r0, r2, rfl, rfl⟩) ?_
      apply bd_sk
      · exact td_cmp (ed_cmp (vr 9) ed_none o_is) (ed_cmp (vr 8) (vr 5) o_le) o_neB
      · rw [cutF_none, decide_eq_true rfl]; rfl
      by_cases hu : u ≤ bestW st r
      · apply bd_sk
        · exact td_cmp (vr 9) ed_none o_isnot
        · rw [cutF_none, decide_eq_true hu]; rfl
        exact bd_end ⟨_, _, rfl⟩
      · have hv := cutGo_v (n := 5) hs r0 (reach_lt hs r0 hu) (by have := nz_le st; have := hs.len; omega)
        have ec : cutF st r u = encT (cutGo 5 st r u) := by unfold cutF; rw [if_neg hu]
        have hn : isNone (encT (cutGo 5 st r u)) = false := by rw [← ec, cutF_none, decide_eq_false hu]
        rw [ec]
        apply bd_tk
        · exact td_cmp (vr 9) ed_none o_isnot
        · rw [hn]; rfl
        · apply bd_sk
          · exact td_ww (wd_orF (td_not (t_v (e_call C.isCut hr (ad_cons (vr 9) (a3 (vr 3) (vr 4) (vr 8))) ⟨st, r, u, _, _, hs, r0, r2, hv, rfl, rfl⟩))) (wd_or1 (td_not (t_v (e_call C.isCut hr (ad_cons (vr 9) (a3 (vr 3) (vr 4) (ed_bin (vr 8) ed_int o_add))) ⟨st, r, u + 2, _, _, hs, r0, r2, hv.more rfl hs r0 r2 (by omega), rfl, rfl⟩)))))
          · rfl
          exact bd_end (bd_end ⟨_, _, rfl⟩)
    · obtain ⟨b3, x8, x9, e⟩ := h
      subst e
      obtain ⟨po, _⟩ := price_ok hs.all r0
      have hop := price_okp (r := r) hs
      refine bd_set (k := 10) (ed_bin (e_call C.whole (hr.mono (by decide)) (a2 (vr 3) (vr 4)) ⟨st, r, hs, r0, r2, rfl, rfl⟩) ed_int o_add) ?_
      refine bd_set (k := 11) (d := encT (.price (price st r).1 (price st r).2)) (ed_tup (a2 ed_str (e_call C.price (hr.mono (by decide)) (a2 (vr 3) (vr 4)) ⟨st, r, hs, r0, r2, rfl, rfl⟩))) ?_
      have r30 : 0 ≤ max 0 (r - 3) := Int.le_max_left _ _
      have r31 : max 0 (r - 3) ≤ r := by omega
      obtain ⟨g, g1, g2⟩ := bound_of_price po r0 hs.all
      obtain ⟨g', g1', g2'⟩ := bound_of_price po r30 hs.all
      have hh : belowF g (wholeB st r + 1) = true := decide_eq_true (price_high hs.all r0 (Int.le_refl _) g2)
      have hh' : belowF g' (wholeB st r + 1) = true := decide_eq_true (price_high hs.all r0 r31 g2')
      have hl : belowF g (bestW st r) = false := decide_eq_false (price_not po hs.all g2 hb.has)
      have v1 := CutV.price (n := 5) (u := wholeB st r + 1) hop po.cop po.none g1
      have v2 := CutV.price (n := 5) (u := wholeB st r + 1) hop po.cop po.none g1'
      have v3 := CutV.price (n := 5) (u := bestW st r) hop po.cop po.none g1
      rw [hh] at v1
      rw [hh'] at v2
      rw [hl] at v3
      apply bd_sk
      · exact td_ww (wd_orF (td_not (t_v (e_call C.isCut hr (ad_cons (vr 11) (a3 (vr 3) (vr 4) (vr 10))) ⟨st, r, _, _, _, hs, r0, r2, v1, rfl, rfl⟩))) (wd_or1 (td_not (t_v (e_call C.isCut hr (ad_cons (vr 11) (a3 (vr 3) (e_max T (a2 ed_int (ed_bin (vr 4) ed_int o_sub))) (vr 10))) ⟨st, _, _, _, _, hs, r30, by omega, v2, rfl, rfl⟩)))))
      · rfl
      apply bd_sk
      · exact t_v (e_call C.isCut hr (ad_cons (vr 11) (a3 (vr 3) (vr 4) (vr 5))) ⟨st, r, _, _, _, hs, r0, r2, v3, rfl, rfl⟩)
      · rfl
      obtain ⟨s1, s2⟩ := single_ok hs
      refine bd_set (k := 12) (d := encSt (single st)) (ED.weak (e_tupC T (ld_lc1 sc_law 16 encK_inj (fun k => encK (k.1, k.2.1, some 1)) (id_tup (vr 3)) (fun t ht => ed_bin (ed_slT (ds := [.int t.1, .int t.2.1, encO t.2.2]) (vr 16) od_none (od_some ed_int)) (ed_tup (a1 ed_int)) (o_cat (by show 2 + 1 ≤ 100000; decide))) (by have := hs.len; omega))) (by unfold single encSt; rw [List.map_map]; rfl)) ?_
      refine bd_1 (sd_for (xs := [bestW st r, bestW st r + 1, 1 + b3 % 30].map .int) (Inv := fun _ S' => ∃ x8, S' = [.dat (.list (ns.map .int)), .dat (.int k), .own [.int (b3 / 30)], .dat (encSt st), .dat (.int r), .dat (.int (bestW st r)), .dat (.list ((tabRows st r).map encIs)), .dat (encSt (lesser st)), x8, x9, .dat (.int (wholeB st r + 1)), .dat (encT (.price (price st r).1 (price st r).2)), .dat (encSt (single st)), .no, .no, .no, .no])
        (id_lst (ed_of_ld (ld_lst (a3 (vr 5) (ed_bin (vr 5) ed_int o_add) (ed_bin ed_int (e_take C.take (hr.mono (by decide)) 2 ed_int (by decide) (by decide)) o_add))))) ⟨x8, rfl⟩ (fun j x S' hx h => ?_) (fun S' h => by obtain ⟨x8, e⟩ := h; exact ⟨_, _, _, _, _, _, _, _, _, _, _, _, e⟩))
      obtain ⟨x8, e⟩ := h
      subst e
      obtain ⟨u, rfl⟩ := ints_some hx
      refine ⟨_, gn 8, ?_⟩
      apply bd_sk
      · exact td_cmp (ed_cmp (e_call C.stair (hr.mono (by decide)) (a3 (vr 12) (vr 4) (vr 8)) ⟨single st, r, u, s1, s2, r0, rfl, rfl⟩) ed_none o_is) (ed_cmp (e_call C.cutFor hr (a3 (vr 12) (vr 4) (vr 8)) ⟨single st, r, u, s1, r0, r2, rfl, rfl⟩) ed_none o_is) o_neB
      · rw [stair_none_b s1 s2 r0, cutF_none, decide_eq_true rfl]; rfl
      exact bd_end ⟨_, rfl⟩
  · apply bd_ret
    · exact ed_bool
    · rfl
end
end Sk


set_option Elab.async false
set_option linter.all false
set_option maxRecDepth 100000
set_option maxHeartbeats 0
namespace Sk
open PySem PySem.Spec PyProof.Rows L2
/-! ### the head: defs, facts -/
def d_is_from : He.DefD := ⟨("is_from", none), "is_from", "is_from", defArgs s_is_from, defBody s_is_from, defScope s_is_from, [], []⟩
def d_is_kind : He.DefD := ⟨("is_kind", none), "is_kind", "is_kind", defArgs s_is_kind, defBody s_is_kind, defScope s_is_kind, [], []⟩
def d_is_store : He.DefD := ⟨("is_store", none), "is_store", "is_store", defArgs s_is_store, defBody s_is_store, defScope s_is_store, [], []⟩
def d_need_store : He.DefD := ⟨("need_store", none), "need_store", "need_store", defArgs s_need_store, defBody s_need_store, defScope s_need_store, [], []⟩
def d_need_number : He.DefD := ⟨("need_number", none), "need_number", "need_number", defArgs s_need_number, defBody s_need_number, defScope s_need_number, [], []⟩
def d_need_asked : He.DefD := ⟨("need_asked", none), "need_asked", "need_asked", defArgs s_need_asked, defBody s_need_asked, defScope s_need_asked, [], []⟩
def d_need_small : He.DefD := ⟨("need_small", none), "need_small", "need_small", defArgs s_need_small, defBody s_need_small, defScope s_need_small, [], []⟩
def d_weight_of : He.DefD := ⟨("weight_of", none), "weight_of", "weight_of", defArgs s_weight_of, defBody s_weight_of, defScope s_weight_of, [], []⟩
def d_worth_of : He.DefD := ⟨("worth_of", none), "worth_of", "worth_of", defArgs s_worth_of, defBody s_worth_of, defScope s_worth_of, [], []⟩
def d_most_in : He.DefD := ⟨("most_in", none), "most_in", "most_in", defArgs s_most_in, defBody s_most_in, defScope s_most_in, [], []⟩
def d_bounded_by : He.DefD := ⟨("bounded_by", none), "bounded_by", "bounded_by", defArgs s_bounded_by, defBody s_bounded_by, defScope s_bounded_by, [], []⟩
def d_common : He.DefD := ⟨("common", none), "common", "common", defArgs s_common, defBody s_common, defScope s_common, [], []⟩
def d_made : He.DefD := ⟨("made", none), "made", "made", defArgs s_made, defBody s_made, defScope s_made, [], []⟩
def d_plus : He.DefD := ⟨("plus", none), "plus", "plus", defArgs s_plus, defBody s_plus, defScope s_plus, [], []⟩
def d_in_order : He.DefD := ⟨("in_order", none), "in_order", "in_order", defArgs s_in_order, defBody s_in_order, defScope s_in_order, [], []⟩
def d_shares_of : He.DefD := ⟨("shares_of", none), "shares_of", "shares_of", defArgs s_shares_of, defBody s_shares_of, defScope s_shares_of, [], []⟩
def d_worth_by : He.DefD := ⟨("worth_by", none), "worth_by", "worth_by", defArgs s_worth_by, defBody s_worth_by, defScope s_worth_by, [], []⟩
def d_is_price : He.DefD := ⟨("is_price", none), "is_price", "is_price", defArgs s_is_price, defBody s_is_price, defScope s_is_price, [], []⟩
def d_bound_of : He.DefD := ⟨("bound_of", none), "bound_of", "bound_of", defArgs s_bound_of, defBody s_bound_of, defScope s_bound_of, [], []⟩
def d_price_of : He.DefD := ⟨("price_of", none), "price_of", "price_of", defArgs s_price_of, defBody s_price_of, defScope s_price_of, [], []⟩
def d_some_price : He.DefD := ⟨("some_price", none), "some_price", "some_price", defArgs s_some_price, defBody s_some_price, defScope s_some_price, [], []⟩
def d_whole_bound : He.DefD := ⟨("whole_bound", none), "whole_bound", "whole_bound", defArgs s_whole_bound, defBody s_whole_bound, defScope s_whole_bound, [], []⟩
def d_row_with : He.DefD := ⟨("row_with", none), "row_with", "row_with", defArgs s_row_with, defBody s_row_with, defScope s_row_with, [], []⟩
def d_rows_of : He.DefD := ⟨("rows_of", none), "rows_of", "rows_of", defArgs s_rows_of, defBody s_rows_of, defScope s_rows_of, [], []⟩
def d_need_table : He.DefD := ⟨("need_table", none), "need_table", "need_table", defArgs s_need_table, defBody s_need_table, defScope s_need_table, [], []⟩
def d_best_worth : He.DefD := ⟨("best_worth", none), "best_worth", "best_worth", defArgs s_best_worth, defBody s_best_worth, defScope s_best_worth, [], []⟩
def d_best_of : He.DefD := ⟨("best_of", none), "best_of", "best_of", defArgs s_best_of, defBody s_best_of, defScope s_best_of, [], []⟩
def d_is_row : He.DefD := ⟨("is_row", none), "is_row", "is_row", defArgs s_is_row, defBody s_is_row, defScope s_is_row, [], []⟩
def d_covers : He.DefD := ⟨("covers", none), "covers", "covers", defArgs s_covers, defBody s_covers, defScope s_covers, [], []⟩
def d_table_bound : He.DefD := ⟨("table_bound", none), "table_bound", "table_bound", defArgs s_table_bound, defBody s_table_bound, defScope s_table_bound, [], []⟩
def d_table_paper : He.DefD := ⟨("table_paper", none), "table_paper", "table_paper", defArgs s_table_paper, defBody s_table_paper, defScope s_table_paper, [], []⟩
def d_without : He.DefD := ⟨("without", none), "without", "without", defArgs s_without, defBody s_without, defScope s_without, [], []⟩
def d_below : He.DefD := ⟨("below", none), "below", "below", defArgs s_below, defBody s_below, defScope s_below, [], []⟩
def d_is_cut_of : He.DefD := ⟨("is_cut_of", none), "is_cut_of", "is_cut_of", defArgs s_is_cut_of, defBody s_is_cut_of, defScope s_is_cut_of, [], []⟩
def d_need_cut : He.DefD := ⟨("need_cut", none), "need_cut", "need_cut", defArgs s_need_cut, defBody s_need_cut, defScope s_need_cut, [], []⟩
def d_is_cut : He.DefD := ⟨("is_cut", none), "is_cut", "is_cut", defArgs s_is_cut, defBody s_is_cut, defScope s_is_cut, [], []⟩
def d_cut_by : He.DefD := ⟨("cut_by", none), "cut_by", "cut_by", defArgs s_cut_by, defBody s_cut_by, defScope s_cut_by, [], []⟩
def d_cut_for : He.DefD := ⟨("cut_for", none), "cut_for", "cut_for", defArgs s_cut_for, defBody s_cut_for, defScope s_cut_for, [], []⟩
def d_is_single : He.DefD := ⟨("is_single", none), "is_single", "is_single", defArgs s_is_single, defBody s_is_single, defScope s_is_single, [], []⟩
def d_need_single : He.DefD := ⟨("need_single", none), "need_single", "need_single", defArgs s_need_single, defBody s_need_single, defScope s_need_single, [], []⟩
def d_loads_of : He.DefD := ⟨("loads_of", none), "loads_of", "loads_of", defArgs s_loads_of, defBody s_loads_of, defScope s_loads_of, [], []⟩
def d_halves_of : He.DefD := ⟨("halves_of", none), "halves_of", "halves_of", defArgs s_halves_of, defBody s_halves_of, defScope s_halves_of, [], []⟩
def d_unbeaten : He.DefD := ⟨("unbeaten", none), "unbeaten", "unbeaten", defArgs s_unbeaten, defBody s_unbeaten, defScope s_unbeaten, [], []⟩
def d_stair_of : He.DefD := ⟨("stair_of", none), "stair_of", "stair_of", defArgs s_stair_of, defBody s_stair_of, defScope s_stair_of, [], []⟩
def d_need_stair : He.DefD := ⟨("need_stair", none), "need_stair", "need_stair", defArgs s_need_stair, defBody s_need_stair, defScope s_need_stair, [], []⟩
def d_stair_for : He.DefD := ⟨("stair_for", none), "stair_for", "stair_for", defArgs s_stair_for, defBody s_stair_for, defScope s_stair_for, [], []⟩
def d_law_cell : He.DefD := ⟨("_law_cell", none), "_law_cell", "_law_cell", defArgs s_law_cell, defBody s_law_cell, defScope s_law_cell, [], []⟩
def d_law_mix : He.DefD := ⟨("_law_mix", none), "_law_mix", "_law_mix", defArgs s_law_mix, defBody s_law_mix, defScope s_law_mix, [], []⟩
def d_law_box : He.DefD := ⟨("_law_box", none), "_law_box", "_law_box", defArgs s_law_box, defBody s_law_box, defScope s_law_box, [], []⟩
def d_law_take : He.DefD := ⟨("_law_take", none), "_law_take", "_law_take", defArgs s_law_take, defBody s_law_take, defScope s_law_take, [], []⟩
def d_law_kind_of : He.DefD := ⟨("_law_kind_of", none), "_law_kind_of", "_law_kind_of", defArgs s_law_kind_of, defBody s_law_kind_of, defScope s_law_kind_of, [], []⟩
def d_law_stocked : He.DefD := ⟨("_law_stocked", none), "_law_stocked", "_law_stocked", defArgs s_law_stocked, defBody s_law_stocked, defScope s_law_stocked, [], []⟩
def d_law : He.DefD := ⟨("law", none), "law", "law", defArgs s_law, defBody s_law, defScope s_law, [], []⟩
def fn : List He.DefD := ([d_is_from, d_is_kind, d_is_store, d_need_store, d_need_number, d_need_asked, d_need_small, d_weight_of, d_worth_of, d_most_in, d_bounded_by, d_common, d_made, d_plus, d_in_order, d_shares_of, d_worth_by, d_is_price, d_bound_of, d_price_of, d_some_price, d_whole_bound, d_row_with, d_rows_of, d_need_table, d_best_worth, d_best_of, d_is_row, d_covers, d_table_bound] : List He.DefD) ++ ([d_table_paper, d_without, d_below, d_is_cut_of, d_need_cut, d_is_cut, d_cut_by, d_cut_for, d_is_single, d_need_single, d_loads_of, d_halves_of, d_unbeaten, d_stair_of, d_need_stair, d_stair_for, d_law_cell, d_law_mix, d_law_box, d_law_take, d_law_kind_of, d_law_stocked, d_law] : List He.DefD)
def fa : List He.Fa := ([.glo "is_from", .glo "is_kind", .glo "is_store", .glo "need_store", .glo "need_number", .glo "need_asked", .glo "need_small", .glo "weight_of", .glo "worth_of", .glo "most_in", .glo "bounded_by", .glo "common", .glo "made", .glo "plus", .glo "in_order", .glo "shares_of", .glo "worth_by", .glo "is_price", .glo "bound_of", .glo "price_of", .glo "some_price", .glo "whole_bound", .glo "row_with", .glo "rows_of", .glo "need_table", .glo "best_worth", .glo "best_of", .glo "is_row", .glo "covers", .glo "table_bound"] : List He.Fa) ++ ([.glo "table_paper", .glo "without", .glo "below", .glo "is_cut_of", .glo "need_cut", .glo "is_cut", .glo "cut_by", .glo "cut_for", .glo "is_single", .glo "need_single", .glo "loads_of", .glo "halves_of", .glo "unbeaten", .glo "stair_of", .glo "need_stair", .glo "stair_for", .glo "_law_cell", .glo "_law_mix", .glo "_law_box", .glo "_law_take", .glo "_law_kind_of", .glo "_law_stocked", .glo "law", .free "len", .free "all", .free "sum", .free "min", .free "max", .free "abs", .free "divmod"] : List He.Fa) ++ ([.free "sorted", .free "isinstance", .free "int", .free "bool", .free "str", .free "tuple", .free "list", .free "range", .free "zip", .free "enumerate", .int "MOST_KINDS" 12, .int "MOST_ROOM" 200, .glo "NOUGHT"] : List He.Fa)
def loose : List Str := (["is_from", "is_kind", "is_store", "need_store", "need_number", "need_asked", "need_small", "weight_of", "worth_of", "most_in", "bounded_by", "common", "made", "plus", "in_order", "shares_of", "worth_by", "is_price", "bound_of", "price_of", "some_price", "whole_bound", "row_with", "rows_of", "need_table", "best_worth", "best_of", "is_row", "covers", "table_bound"] : List Str) ++ (["table_paper", "without", "below", "is_cut_of", "need_cut", "is_cut", "cut_by", "cut_for", "is_single", "need_single", "loads_of", "halves_of", "unbeaten", "stair_of", "need_stair", "stair_for", "_law_cell", "_law_mix", "_law_box", "_law_take", "_law_kind_of", "_law_stocked", "SackError", "NoStore", "NoNumber", "TooMany", "NotSingle", "MOST_KINDS", "MOST_ROOM", "NOUGHT"] : List Str)
theorem txt_of {K : PySem.W.Frag} {h : Heap} {mg : Str → Option Value} (X : K.In h) (G : h.Ns mainGlobals mg) (c : He.SaysD fa fn K) : Txt mg :=
  ⟨He.free_ok X G (c.fact 53 (f := .free "len") rfl), He.free_ok X G (c.fact 54 (f := .free "all") rfl), He.free_ok X G (c.fact 55 (f := .free "sum") rfl), He.free_ok X G (c.fact 56 (f := .free "min") rfl), He.free_ok X G (c.fact 57 (f := .free "max") rfl), He.free_ok X G (c.fact 58 (f := .free "abs") rfl), He.free_ok X G (c.fact 59 (f := .free "divmod") rfl), He.free_ok X G (c.fact 60 (f := .free "sorted") rfl), He.free_ok X G (c.fact 61 (f := .free "isinstance") rfl), He.free_ok X G (c.fact 62 (f := .free "int") rfl), He.free_ok X G (c.fact 63 (f := .free "bool") rfl), He.free_ok X G (c.fact 64 (f := .free "str") rfl), He.free_ok X G (c.fact 65 (f := .free "tuple") rfl), He.free_ok X G (c.fact 66 (f := .free "list") rfl), He.free_ok X G (c.fact 67 (f := .free "range") rfl), He.free_ok X G (c.fact 68 (f := .free "zip") rfl), He.free_ok X G (c.fact 69 (f := .free "enumerate") rfl)⟩
theorem num_of {K : PySem.W.Frag} {h : Heap} {mg : Str → Option Value} (X : K.In h) (G : h.Ns mainGlobals mg) (c : He.SaysD fa fn K) (t : He.tupB K "NOUGHT" [.int 0, .int 1] = true) : Num K mg := by
  obtain ⟨t1, k1⟩ := He.int_ok X G (c.fact 70 (f := .int "MOST_KINDS" 12) rfl)
  obtain ⟨t2, k2⟩ := He.int_ok X G (c.fact 71 (f := .int "MOST_ROOM" 200) rfl)
  exact ⟨⟨_, k1, t1, rfl⟩, ⟨_, k2, t2, rfl⟩, ⟨.ref (He.ga K "NOUGHT"), _, He.glo_ok X G (c.fact 72 (f := .glo "NOUGHT") rfl), rfl, fun H => .tup (He.tupB_ok t H) (.cons (.int 0) (.cons (.int 1) .nil))⟩⟩
section
variable {K : PySem.W.Frag} {h : Heap} {mg : Str → Option Value}
theorem D_is_from (X : K.In h) (G : h.Ns mainGlobals mg) (c : He.SaysD fa fn K) : Def K mg "is_from" s_is_from ["thing", "least"] := by
  obtain ⟨fd, F⟩ := c.def_ 0 (d := d_is_from) rfl
  exact ⟨_, fd, F, He.glo_ok X G (c.fact 0 (f := .glo "is_from") rfl), FunD.bindsN (ps := ["thing", "least"]) F fun _ _ _ _ _ _ us hl => match us, hl with | [_, _], _ => rfl⟩
theorem D_is_kind (X : K.In h) (G : h.Ns mainGlobals mg) (c : He.SaysD fa fn K) : Def K mg "is_kind" s_is_kind ["thing"] := by
  obtain ⟨fd, F⟩ := c.def_ 1 (d := d_is_kind) rfl
  exact ⟨_, fd, F, He.glo_ok X G (c.fact 1 (f := .glo "is_kind") rfl), FunD.bindsN (ps := ["thing"]) F fun _ _ _ _ _ _ us hl => match us, hl with | [_], _ => rfl⟩
theorem D_is_store (X : K.In h) (G : h.Ns mainGlobals mg) (c : He.SaysD fa fn K) : Def K mg "is_store" s_is_store ["thing"] := by
  obtain ⟨fd, F⟩ := c.def_ 2 (d := d_is_store) rfl
  exact ⟨_, fd, F, He.glo_ok X G (c.fact 2 (f := .glo "is_store") rfl), FunD.bindsN (ps := ["thing"]) F fun _ _ _ _ _ _ us hl => match us, hl with | [_], _ => rfl⟩
theorem D_need_store (X : K.In h) (G : h.Ns mainGlobals mg) (c : He.SaysD fa fn K) : Def K mg "need_store" s_need_store ["store"] := by
  obtain ⟨fd, F⟩ := c.def_ 3 (d := d_need_store) rfl
  exact ⟨_, fd, F, He.glo_ok X G (c.fact 3 (f := .glo "need_store") rfl), FunD.bindsN (ps := ["store"]) F fun _ _ _ _ _ _ us hl => match us, hl with | [_], _ => rfl⟩
theorem D_need_number (X : K.In h) (G : h.Ns mainGlobals mg) (c : He.SaysD fa fn K) : Def K mg "need_number" s_need_number ["number"] := by
  obtain ⟨fd, F⟩ := c.def_ 4 (d := d_need_number) rfl
  exact ⟨_, fd, F, He.glo_ok X G (c.fact 4 (f := .glo "need_number") rfl), FunD.bindsN (ps := ["number"]) F fun _ _ _ _ _ _ us hl => match us, hl with | [_], _ => rfl⟩
theorem D_need_asked (X : K.In h) (G : h.Ns mainGlobals mg) (c : He.SaysD fa fn K) : Def K mg "need_asked" s_need_asked ["store", "room"] := by
  obtain ⟨fd, F⟩ := c.def_ 5 (d := d_need_asked) rfl
  exact ⟨_, fd, F, He.glo_ok X G (c.fact 5 (f := .glo "need_asked") rfl), FunD.bindsN (ps := ["store", "room"]) F fun _ _ _ _ _ _ us hl => match us, hl with | [_, _], _ => rfl⟩
theorem D_need_small (X : K.In h) (G : h.Ns mainGlobals mg) (c : He.SaysD fa fn K) : Def K mg "need_small" s_need_small ["room"] := by
  obtain ⟨fd, F⟩ := c.def_ 6 (d := d_need_small) rfl
  exact ⟨_, fd, F, He.glo_ok X G (c.fact 6 (f := .glo "need_small") rfl), FunD.bindsN (ps := ["room"]) F fun _ _ _ _ _ _ us hl => match us, hl with | [_], _ => rfl⟩
theorem D_weight_of (X : K.In h) (G : h.Ns mainGlobals mg) (c : He.SaysD fa fn K) : Def K mg "weight_of" s_weight_of ["store", "load"] := by
  obtain ⟨fd, F⟩ := c.def_ 7 (d := d_weight_of) rfl
  exact ⟨_, fd, F, He.glo_ok X G (c.fact 7 (f := .glo "weight_of") rfl), FunD.bindsN (ps := ["store", "load"]) F fun _ _ _ _ _ _ us hl => match us, hl with | [_, _], _ => rfl⟩
theorem D_worth_of (X : K.In h) (G : h.Ns mainGlobals mg) (c : He.SaysD fa fn K) : Def K mg "worth_of" s_worth_of ["store", "load"] := by
  obtain ⟨fd, F⟩ := c.def_ 8 (d := d_worth_of) rfl
  exact ⟨_, fd, F, He.glo_ok X G (c.fact 8 (f := .glo "worth_of") rfl), FunD.bindsN (ps := ["store", "load"]) F fun _ _ _ _ _ _ us hl => match us, hl with | [_, _], _ => rfl⟩
theorem D_most_in (X : K.In h) (G : h.Ns mainGlobals mg) (c : He.SaysD fa fn K) : Def K mg "most_in" s_most_in ["kind", "room"] := by
  obtain ⟨fd, F⟩ := c.def_ 9 (d := d_most_in) rfl
  exact ⟨_, fd, F, He.glo_ok X G (c.fact 9 (f := .glo "most_in") rfl), FunD.bindsN (ps := ["kind", "room"]) F fun _ _ _ _ _ _ us hl => match us, hl with | [_, _], _ => rfl⟩
theorem D_bounded_by (X : K.In h) (G : h.Ns mainGlobals mg) (c : He.SaysD fa fn K) : Def K mg "bounded_by" s_bounded_by ["store", "room"] := by
  obtain ⟨fd, F⟩ := c.def_ 10 (d := d_bounded_by) rfl
  exact ⟨_, fd, F, He.glo_ok X G (c.fact 10 (f := .glo "bounded_by") rfl), FunD.bindsN (ps := ["store", "room"]) F fun _ _ _ _ _ _ us hl => match us, hl with | [_, _], _ => rfl⟩
theorem D_common (X : K.In h) (G : h.Ns mainGlobals mg) (c : He.SaysD fa fn K) : Def K mg "common" s_common ["one", "other"] := by
  obtain ⟨fd, F⟩ := c.def_ 11 (d := d_common) rfl
  exact ⟨_, fd, F, He.glo_ok X G (c.fact 11 (f := .glo "common") rfl), FunD.bindsN (ps := ["one", "other"]) F fun _ _ _ _ _ _ us hl => match us, hl with | [_, _], _ => rfl⟩
theorem D_made (X : K.In h) (G : h.Ns mainGlobals mg) (c : He.SaysD fa fn K) : Def K mg "made" s_made ["top", "bottom"] := by
  obtain ⟨fd, F⟩ := c.def_ 12 (d := d_made) rfl
  exact ⟨_, fd, F, He.glo_ok X G (c.fact 12 (f := .glo "made") rfl), FunD.bindsN (ps := ["top", "bottom"]) F fun _ _ _ _ _ _ us hl => match us, hl with | [_, _], _ => rfl⟩
theorem D_plus (X : K.In h) (G : h.Ns mainGlobals mg) (c : He.SaysD fa fn K) : Def K mg "plus" s_plus ["one", "other"] := by
  obtain ⟨fd, F⟩ := c.def_ 13 (d := d_plus) rfl
  exact ⟨_, fd, F, He.glo_ok X G (c.fact 13 (f := .glo "plus") rfl), FunD.bindsN (ps := ["one", "other"]) F fun _ _ _ _ _ _ us hl => match us, hl with | [_, _], _ => rfl⟩
theorem D_in_order (X : K.In h) (G : h.Ns mainGlobals mg) (c : He.SaysD fa fn K) : Def K mg "in_order" s_in_order ["store"] := by
  obtain ⟨fd, F⟩ := c.def_ 14 (d := d_in_order) rfl
  exact ⟨_, fd, F, He.glo_ok X G (c.fact 14 (f := .glo "in_order") rfl), FunD.bindsN (ps := ["store"]) F fun _ _ _ _ _ _ us hl => match us, hl with | [_], _ => rfl⟩
theorem D_shares_of (X : K.In h) (G : h.Ns mainGlobals mg) (c : He.SaysD fa fn K) : Def K mg "shares_of" s_shares_of ["store", "room"] := by
  obtain ⟨fd, F⟩ := c.def_ 15 (d := d_shares_of) rfl
  exact ⟨_, fd, F, He.glo_ok X G (c.fact 15 (f := .glo "shares_of") rfl), FunD.bindsN (ps := ["store", "room"]) F fun _ _ _ _ _ _ us hl => match us, hl with | [_, _], _ => rfl⟩
theorem D_worth_by (X : K.In h) (G : h.Ns mainGlobals mg) (c : He.SaysD fa fn K) : Def K mg "worth_by" s_worth_by ["store", "shares"] := by
  obtain ⟨fd, F⟩ := c.def_ 16 (d := d_worth_by) rfl
  exact ⟨_, fd, F, He.glo_ok X G (c.fact 16 (f := .glo "worth_by") rfl), FunD.bindsN (ps := ["store", "shares"]) F fun _ _ _ _ _ _ us hl => match us, hl with | [_, _], _ => rfl⟩
theorem D_is_price (X : K.In h) (G : h.Ns mainGlobals mg) (c : He.SaysD fa fn K) : Def K mg "is_price" s_is_price ["thing"] := by
  obtain ⟨fd, F⟩ := c.def_ 17 (d := d_is_price) rfl
  exact ⟨_, fd, F, He.glo_ok X G (c.fact 17 (f := .glo "is_price") rfl), FunD.bindsN (ps := ["thing"]) F fun _ _ _ _ _ _ us hl => match us, hl with | [_], _ => rfl⟩
theorem D_bound_of (X : K.In h) (G : h.Ns mainGlobals mg) (c : He.SaysD fa fn K) : Def K mg "bound_of" s_bound_of ["store", "room", "price"] := by
  obtain ⟨fd, F⟩ := c.def_ 18 (d := d_bound_of) rfl
  exact ⟨_, fd, F, He.glo_ok X G (c.fact 18 (f := .glo "bound_of") rfl), FunD.bindsN (ps := ["store", "room", "price"]) F fun _ _ _ _ _ _ us hl => match us, hl with | [_, _, _], _ => rfl⟩
theorem D_price_of (X : K.In h) (G : h.Ns mainGlobals mg) (c : He.SaysD fa fn K) : Def K mg "price_of" s_price_of ["store", "room"] := by
  obtain ⟨fd, F⟩ := c.def_ 19 (d := d_price_of) rfl
  exact ⟨_, fd, F, He.glo_ok X G (c.fact 19 (f := .glo "price_of") rfl), FunD.bindsN (ps := ["store", "room"]) F fun _ _ _ _ _ _ us hl => match us, hl with | [_, _], _ => rfl⟩
theorem D_some_price (X : K.In h) (G : h.Ns mainGlobals mg) (c : He.SaysD fa fn K) : Def K mg "some_price" s_some_price ["store", "room"] := by
  obtain ⟨fd, F⟩ := c.def_ 20 (d := d_some_price) rfl
  exact ⟨_, fd, F, He.glo_ok X G (c.fact 20 (f := .glo "some_price") rfl), FunD.bindsN (ps := ["store", "room"]) F fun _ _ _ _ _ _ us hl => match us, hl with | [_, _], _ => rfl⟩
theorem D_whole_bound (X : K.In h) (G : h.Ns mainGlobals mg) (c : He.SaysD fa fn K) : Def K mg "whole_bound" s_whole_bound ["store", "room"] := by
  obtain ⟨fd, F⟩ := c.def_ 21 (d := d_whole_bound) rfl
  exact ⟨_, fd, F, He.glo_ok X G (c.fact 21 (f := .glo "whole_bound") rfl), FunD.bindsN (ps := ["store", "room"]) F fun _ _ _ _ _ _ us hl => match us, hl with | [_, _], _ => rfl⟩
theorem D_row_with (X : K.In h) (G : h.Ns mainGlobals mg) (c : He.SaysD fa fn K) : Def K mg "row_with" s_row_with ["row", "kind", "room"] := by
  obtain ⟨fd, F⟩ := c.def_ 22 (d := d_row_with) rfl
  exact ⟨_, fd, F, He.glo_ok X G (c.fact 22 (f := .glo "row_with") rfl), FunD.bindsN (ps := ["row", "kind", "room"]) F fun _ _ _ _ _ _ us hl => match us, hl with | [_, _, _], _ => rfl⟩
theorem D_rows_of (X : K.In h) (G : h.Ns mainGlobals mg) (c : He.SaysD fa fn K) : Def K mg "rows_of" s_rows_of ["store", "room"] := by
  obtain ⟨fd, F⟩ := c.def_ 23 (d := d_rows_of) rfl
  exact ⟨_, fd, F, He.glo_ok X G (c.fact 23 (f := .glo "rows_of") rfl), FunD.bindsN (ps := ["store", "room"]) F fun _ _ _ _ _ _ us hl => match us, hl with | [_, _], _ => rfl⟩
theorem D_need_table (X : K.In h) (G : h.Ns mainGlobals mg) (c : He.SaysD fa fn K) : Def K mg "need_table" s_need_table ["store", "room"] := by
  obtain ⟨fd, F⟩ := c.def_ 24 (d := d_need_table) rfl
  exact ⟨_, fd, F, He.glo_ok X G (c.fact 24 (f := .glo "need_table") rfl), FunD.bindsN (ps := ["store", "room"]) F fun _ _ _ _ _ _ us hl => match us, hl with | [_, _], _ => rfl⟩
theorem D_best_worth (X : K.In h) (G : h.Ns mainGlobals mg) (c : He.SaysD fa fn K) : Def K mg "best_worth" s_best_worth ["store", "room"] := by
  obtain ⟨fd, F⟩ := c.def_ 25 (d := d_best_worth) rfl
  exact ⟨_, fd, F, He.glo_ok X G (c.fact 25 (f := .glo "best_worth") rfl), FunD.bindsN (ps := ["store", "room"]) F fun _ _ _ _ _ _ us hl => match us, hl with | [_, _], _ => rfl⟩
theorem D_best_of (X : K.In h) (G : h.Ns mainGlobals mg) (c : He.SaysD fa fn K) : Def K mg "best_of" s_best_of ["store", "room"] := by
  obtain ⟨fd, F⟩ := c.def_ 26 (d := d_best_of) rfl
  exact ⟨_, fd, F, He.glo_ok X G (c.fact 26 (f := .glo "best_of") rfl), FunD.bindsN (ps := ["store", "room"]) F fun _ _ _ _ _ _ us hl => match us, hl with | [_, _], _ => rfl⟩
theorem D_is_row (X : K.In h) (G : h.Ns mainGlobals mg) (c : He.SaysD fa fn K) : Def K mg "is_row" s_is_row ["thing", "room"] := by
  obtain ⟨fd, F⟩ := c.def_ 27 (d := d_is_row) rfl
  exact ⟨_, fd, F, He.glo_ok X G (c.fact 27 (f := .glo "is_row") rfl), FunD.bindsN (ps := ["thing", "room"]) F fun _ _ _ _ _ _ us hl => match us, hl with | [_, _], _ => rfl⟩
theorem D_covers (X : K.In h) (G : h.Ns mainGlobals mg) (c : He.SaysD fa fn K) : Def K mg "covers" s_covers ["row", "later", "kind", "room"] := by
  obtain ⟨fd, F⟩ := c.def_ 28 (d := d_covers) rfl
  exact ⟨_, fd, F, He.glo_ok X G (c.fact 28 (f := .glo "covers") rfl), FunD.bindsN (ps := ["row", "later", "kind", "room"]) F fun _ _ _ _ _ _ us hl => match us, hl with | [_, _, _, _], _ => rfl⟩
theorem D_table_bound (X : K.In h) (G : h.Ns mainGlobals mg) (c : He.SaysD fa fn K) : Def K mg "table_bound" s_table_bound ["thing", "store", "room"] := by
  obtain ⟨fd, F⟩ := c.def_ 29 (d := d_table_bound) rfl
  exact ⟨_, fd, F, He.glo_ok X G (c.fact 29 (f := .glo "table_bound") rfl), FunD.bindsN (ps := ["thing", "store", "room"]) F fun _ _ _ _ _ _ us hl => match us, hl with | [_, _, _], _ => rfl⟩
theorem D_table_paper (X : K.In h) (G : h.Ns mainGlobals mg) (c : He.SaysD fa fn K) : Def K mg "table_paper" s_table_paper ["store", "room"] := by
  obtain ⟨fd, F⟩ := c.def_ 30 (d := d_table_paper) rfl
  exact ⟨_, fd, F, He.glo_ok X G (c.fact 30 (f := .glo "table_paper") rfl), FunD.bindsN (ps := ["store", "room"]) F fun _ _ _ _ _ _ us hl => match us, hl with | [_, _], _ => rfl⟩
theorem D_without (X : K.In h) (G : h.Ns mainGlobals mg) (c : He.SaysD fa fn K) : Def K mg "without" s_without ["store", "place"] := by
  obtain ⟨fd, F⟩ := c.def_ 31 (d := d_without) rfl
  exact ⟨_, fd, F, He.glo_ok X G (c.fact 31 (f := .glo "without") rfl), FunD.bindsN (ps := ["store", "place"]) F fun _ _ _ _ _ _ us hl => match us, hl with | [_, _], _ => rfl⟩
theorem D_below (X : K.In h) (G : h.Ns mainGlobals mg) (c : He.SaysD fa fn K) : Def K mg "below" s_below ["one", "u"] := by
  obtain ⟨fd, F⟩ := c.def_ 32 (d := d_below) rfl
  exact ⟨_, fd, F, He.glo_ok X G (c.fact 32 (f := .glo "below") rfl), FunD.bindsN (ps := ["one", "u"]) F fun _ _ _ _ _ _ us hl => match us, hl with | [_, _], _ => rfl⟩
theorem D_is_cut_of (X : K.In h) (G : h.Ns mainGlobals mg) (c : He.SaysD fa fn K) : Def K mg "is_cut_of" s_is_cut_of ["thing", "store", "room", "u"] := by
  obtain ⟨fd, F⟩ := c.def_ 33 (d := d_is_cut_of) rfl
  exact ⟨_, fd, F, He.glo_ok X G (c.fact 33 (f := .glo "is_cut_of") rfl), FunD.bindsN (ps := ["thing", "store", "room", "u"]) F fun _ _ _ _ _ _ us hl => match us, hl with | [_, _, _, _], _ => rfl⟩
theorem D_need_cut (X : K.In h) (G : h.Ns mainGlobals mg) (c : He.SaysD fa fn K) : Def K mg "need_cut" s_need_cut ["store", "room", "u"] := by
  obtain ⟨fd, F⟩ := c.def_ 34 (d := d_need_cut) rfl
  exact ⟨_, fd, F, He.glo_ok X G (c.fact 34 (f := .glo "need_cut") rfl), FunD.bindsN (ps := ["store", "room", "u"]) F fun _ _ _ _ _ _ us hl => match us, hl with | [_, _, _], _ => rfl⟩
theorem D_is_cut (X : K.In h) (G : h.Ns mainGlobals mg) (c : He.SaysD fa fn K) : Def K mg "is_cut" s_is_cut ["thing", "store", "room", "u"] := by
  obtain ⟨fd, F⟩ := c.def_ 35 (d := d_is_cut) rfl
  exact ⟨_, fd, F, He.glo_ok X G (c.fact 35 (f := .glo "is_cut") rfl), FunD.bindsN (ps := ["thing", "store", "room", "u"]) F fun _ _ _ _ _ _ us hl => match us, hl with | [_, _, _, _], _ => rfl⟩
theorem D_cut_by (X : K.In h) (G : h.Ns mainGlobals mg) (c : He.SaysD fa fn K) : Def K mg "cut_by" s_cut_by ["store", "room", "u"] := by
  obtain ⟨fd, F⟩ := c.def_ 36 (d := d_cut_by) rfl
  exact ⟨_, fd, F, He.glo_ok X G (c.fact 36 (f := .glo "cut_by") rfl), FunD.bindsN (ps := ["store", "room", "u"]) F fun _ _ _ _ _ _ us hl => match us, hl with | [_, _, _], _ => rfl⟩
theorem D_cut_for (X : K.In h) (G : h.Ns mainGlobals mg) (c : He.SaysD fa fn K) : Def K mg "cut_for" s_cut_for ["store", "room", "u"] := by
  obtain ⟨fd, F⟩ := c.def_ 37 (d := d_cut_for) rfl
  exact ⟨_, fd, F, He.glo_ok X G (c.fact 37 (f := .glo "cut_for") rfl), FunD.bindsN (ps := ["store", "room", "u"]) F fun _ _ _ _ _ _ us hl => match us, hl with | [_, _, _], _ => rfl⟩
theorem D_is_single (X : K.In h) (G : h.Ns mainGlobals mg) (c : He.SaysD fa fn K) : Def K mg "is_single" s_is_single ["store"] := by
  obtain ⟨fd, F⟩ := c.def_ 38 (d := d_is_single) rfl
  exact ⟨_, fd, F, He.glo_ok X G (c.fact 38 (f := .glo "is_single") rfl), FunD.bindsN (ps := ["store"]) F fun _ _ _ _ _ _ us hl => match us, hl with | [_], _ => rfl⟩
theorem D_need_single (X : K.In h) (G : h.Ns mainGlobals mg) (c : He.SaysD fa fn K) : Def K mg "need_single" s_need_single ["store"] := by
  obtain ⟨fd, F⟩ := c.def_ 39 (d := d_need_single) rfl
  exact ⟨_, fd, F, He.glo_ok X G (c.fact 39 (f := .glo "need_single") rfl), FunD.bindsN (ps := ["store"]) F fun _ _ _ _ _ _ us hl => match us, hl with | [_], _ => rfl⟩
theorem D_loads_of (X : K.In h) (G : h.Ns mainGlobals mg) (c : He.SaysD fa fn K) : Def K mg "loads_of" s_loads_of ["store"] := by
  obtain ⟨fd, F⟩ := c.def_ 40 (d := d_loads_of) rfl
  exact ⟨_, fd, F, He.glo_ok X G (c.fact 40 (f := .glo "loads_of") rfl), FunD.bindsN (ps := ["store"]) F fun _ _ _ _ _ _ us hl => match us, hl with | [_], _ => rfl⟩
theorem D_halves_of (X : K.In h) (G : h.Ns mainGlobals mg) (c : He.SaysD fa fn K) : Def K mg "halves_of" s_halves_of ["store"] := by
  obtain ⟨fd, F⟩ := c.def_ 41 (d := d_halves_of) rfl
  exact ⟨_, fd, F, He.glo_ok X G (c.fact 41 (f := .glo "halves_of") rfl), FunD.bindsN (ps := ["store"]) F fun _ _ _ _ _ _ us hl => match us, hl with | [_], _ => rfl⟩
theorem D_unbeaten (X : K.In h) (G : h.Ns mainGlobals mg) (c : He.SaysD fa fn K) : Def K mg "unbeaten" s_unbeaten ["store"] := by
  obtain ⟨fd, F⟩ := c.def_ 42 (d := d_unbeaten) rfl
  exact ⟨_, fd, F, He.glo_ok X G (c.fact 42 (f := .glo "unbeaten") rfl), FunD.bindsN (ps := ["store"]) F fun _ _ _ _ _ _ us hl => match us, hl with | [_], _ => rfl⟩
theorem D_stair_of (X : K.In h) (G : h.Ns mainGlobals mg) (c : He.SaysD fa fn K) : Def K mg "stair_of" s_stair_of ["store", "room", "worth"] := by
  obtain ⟨fd, F⟩ := c.def_ 43 (d := d_stair_of) rfl
  exact ⟨_, fd, F, He.glo_ok X G (c.fact 43 (f := .glo "stair_of") rfl), FunD.bindsN (ps := ["store", "room", "worth"]) F fun _ _ _ _ _ _ us hl => match us, hl with | [_, _, _], _ => rfl⟩
theorem D_need_stair (X : K.In h) (G : h.Ns mainGlobals mg) (c : He.SaysD fa fn K) : Def K mg "need_stair" s_need_stair ["store", "room", "worth"] := by
  obtain ⟨fd, F⟩ := c.def_ 44 (d := d_need_stair) rfl
  exact ⟨_, fd, F, He.glo_ok X G (c.fact 44 (f := .glo "need_stair") rfl), FunD.bindsN (ps := ["store", "room", "worth"]) F fun _ _ _ _ _ _ us hl => match us, hl with | [_, _, _], _ => rfl⟩
theorem D_stair_for (X : K.In h) (G : h.Ns mainGlobals mg) (c : He.SaysD fa fn K) : Def K mg "stair_for" s_stair_for ["store", "room", "worth"] := by
  obtain ⟨fd, F⟩ := c.def_ 45 (d := d_stair_for) rfl
  exact ⟨_, fd, F, He.glo_ok X G (c.fact 45 (f := .glo "stair_for") rfl), FunD.bindsN (ps := ["store", "room", "worth"]) F fun _ _ _ _ _ _ us hl => match us, hl with | [_, _, _], _ => rfl⟩
theorem D_law_cell (X : K.In h) (G : h.Ns mainGlobals mg) (c : He.SaysD fa fn K) : Def K mg "_law_cell" s_law_cell ["script", "k"] := by
  obtain ⟨fd, F⟩ := c.def_ 46 (d := d_law_cell) rfl
  exact ⟨_, fd, F, He.glo_ok X G (c.fact 46 (f := .glo "_law_cell") rfl), FunD.bindsN (ps := ["script", "k"]) F fun _ _ _ _ _ _ us hl => match us, hl with | [_, _], _ => rfl⟩
theorem D_law_mix (X : K.In h) (G : h.Ns mainGlobals mg) (c : He.SaysD fa fn K) : Def K mg "_law_mix" s_law_mix ["cell", "k"] := by
  obtain ⟨fd, F⟩ := c.def_ 47 (d := d_law_mix) rfl
  exact ⟨_, fd, F, He.glo_ok X G (c.fact 47 (f := .glo "_law_mix") rfl), FunD.bindsN (ps := ["cell", "k"]) F fun _ _ _ _ _ _ us hl => match us, hl with | [_, _], _ => rfl⟩
theorem D_law_box (X : K.In h) (G : h.Ns mainGlobals mg) (c : He.SaysD fa fn K) : Def K mg "_law_box" s_law_box ["script", "k"] := by
  obtain ⟨fd, F⟩ := c.def_ 48 (d := d_law_box) rfl
  exact ⟨_, fd, F, He.glo_ok X G (c.fact 48 (f := .glo "_law_box") rfl), FunD.bindsN (ps := ["script", "k"]) F fun _ _ _ _ _ _ us hl => match us, hl with | [_, _], _ => rfl⟩
theorem D_law_take (X : K.In h) (G : h.Ns mainGlobals mg) (c : He.SaysD fa fn K) : Def K mg "_law_take" s_law_take ["box", "many"] := by
  obtain ⟨fd, F⟩ := c.def_ 49 (d := d_law_take) rfl
  exact ⟨_, fd, F, He.glo_ok X G (c.fact 49 (f := .glo "_law_take") rfl), FunD.bindsN (ps := ["box", "many"]) F fun _ _ _ _ _ _ us hl => match us, hl with | [_, _], _ => rfl⟩
theorem D_law_kind_of (X : K.In h) (G : h.Ns mainGlobals mg) (c : He.SaysD fa fn K) : Def K mg "_law_kind_of" s_law_kind_of ["box", "ends"] := by
  obtain ⟨fd, F⟩ := c.def_ 50 (d := d_law_kind_of) rfl
  exact ⟨_, fd, F, He.glo_ok X G (c.fact 50 (f := .glo "_law_kind_of") rfl), FunD.bindsN (ps := ["box", "ends"]) F fun _ _ _ _ _ _ us hl => match us, hl with | [_, _], _ => rfl⟩
theorem D_law_stocked (X : K.In h) (G : h.Ns mainGlobals mg) (c : He.SaysD fa fn K) : Def K mg "_law_stocked" s_law_stocked ["box", "most", "ends"] := by
  obtain ⟨fd, F⟩ := c.def_ 51 (d := d_law_stocked) rfl
  exact ⟨_, fd, F, He.glo_ok X G (c.fact 51 (f := .glo "_law_stocked") rfl), FunD.bindsN (ps := ["box", "most", "ends"]) F fun _ _ _ _ _ _ us hl => match us, hl with | [_, _, _], _ => rfl⟩
end
def lawAt : Nat := 52
end Sk


set_option Elab.async false
set_option linter.all false
set_option maxRecDepth 100000
set_option maxHeartbeats 0
namespace Sk
open PySem PySem.Spec PyProof.Rows L2
theorem calls_of {P : Program} {w : World} {K : PySem.W.Frag} {mg : Str → Option Value} {base h : Heap} (X : K.In h) (G : h.Ns mainGlobals mg) (c : He.SaysD fa fn K) (t : He.tupB K "NOUGHT" [.int 0, .int 1] = true) : Calls P w K mg base := by
  have T := txt_of X G c
  have n := num_of X G c t
  have isFrom : FnHas P w K mg base "is_from" 1 (PSp K RisFrom) := h_is_from (D_is_from X G c) T
  have isKind := h_is_kind (D_is_kind X G c) T isFrom
  have isStore := h_is_store (D_is_store X G c) T n isKind
  have needStore := h_need_store (D_need_store X G c) isStore
  have needNumber := h_need_number (D_need_number X G c) isFrom
  have needAsked := h_need_asked (D_need_asked X G c) needStore needNumber
  have needSmall : FnHas P w K mg base "need_small" 1 (PSp K (Rnone CSmall)) := h_need_small (D_need_small X G c) n
  have weightOf : FnHas P w K mg base "weight_of" 1 (PSp K (Rweigh weightL)) := h_weight_of (D_weight_of X G c) T
  have worthOf : FnHas P w K mg base "worth_of" 1 (PSp K (Rweigh worthL)) := h_worth_of (D_worth_of X G c) T
  have mostIn : FnHas P w K mg base "most_in" 1 (PSp K RmostIn) := h_most_in (D_most_in X G c) T
  have bounded := h_bounded_by (D_bounded_by X G c) T mostIn
  have common : FnHas P w K mg base "common" 1 (PSp K Rcommon) := h_common (D_common X G c)
  have made := h_made (D_made X G c) common
  have plus := h_plus (D_plus X G c) made
  have inOrder : FnHas P w K mg base "in_order" 1 (PSp K RinOrder) := h_in_order (D_in_order X G c) T
  have sharesOf := h_shares_of (D_shares_of X G c) T n inOrder made
  have worthBy := h_worth_by (D_worth_by X G c) T n made plus
  have isPrice := h_is_price (D_is_price X G c) T isFrom common
  have boundOf := h_bound_of (D_bound_of X G c) T made plus
  have priceOf := h_price_of (D_price_of X G c) n inOrder made
  have somePrice := h_some_price (D_some_price X G c) needAsked priceOf
  have wholeBound := h_whole_bound (D_whole_bound X G c) needAsked sharesOf worthBy
  have rowWith : FnHas P w K mg base "row_with" 1 (PSp K RrowWith) := h_row_with (D_row_with X G c) T
  have rowsOf := h_rows_of (D_rows_of X G c) T bounded rowWith
  have needTable := h_need_table (D_need_table X G c) needAsked needSmall
  have bestWorth := h_best_worth (D_best_worth X G c) needTable rowsOf
  have bestOf := h_best_of (D_best_of X G c) T bounded rowsOf
  have isRow := h_is_row (D_is_row X G c) T isFrom
  have covers := h_covers (D_covers X G c) T rowWith
  have tableBound := h_table_bound (D_table_bound X G c) T needTable isRow covers bounded
  have tablePaper := h_table_paper (D_table_paper X G c) T needTable bounded rowWith
  have without : FnHas P w K mg base "without" 1 (PSp K Rwithout) := h_without (D_without X G c)
  have below : FnHas P w K mg base "below" 1 (PSp K Rbelow) := h_below (D_below X G c)
  have isCutOf := h_is_cut_of (D_is_cut_of X G c) T isFrom isPrice boundOf below mostIn without 5
  have needCut := h_need_cut (D_need_cut X G c) T needAsked needSmall
  have isCut := h_is_cut (D_is_cut X G c) needCut isCutOf
  have cutBy := h_cut_by (D_cut_by X G c) T priceOf boundOf below mostIn without 5
  have cutFor := h_cut_for (D_cut_for X G c) T needCut bestOf worthOf cutBy
  have isSingle : FnHas P w K mg base "is_single" 1 (PSp K (Rtrue CSing)) := h_is_single (D_is_single X G c) T
  have needSingle := h_need_single (D_need_single X G c) isSingle
  have loadsOf : FnHas P w K mg base "loads_of" 1 (PSp K Rloads) := h_loads_of (D_loads_of X G c) T
  have halvesOf : FnHas P w K mg base "halves_of" 1 (PSp K Rhalves) := h_halves_of (D_halves_of X G c) T
  have unbeaten := h_unbeaten (D_unbeaten X G c) T loadsOf weightOf worthOf
  have stairOf := h_stair_of (D_stair_of X G c) T halvesOf unbeaten
  have needStair := h_need_stair (D_need_stair X G c) T needAsked needSingle
  have stairFor := h_stair_for (D_stair_for X G c) needStair stairOf
  have cell : FnHas P w K mg base "_law_cell" 1 (PSp K Rcell) := h_cell (D_law_cell X G c) T
  have mix : FnHas P w K mg base "_law_mix" 1 (PSp K Rmix) := h_mix (D_law_mix X G c)
  have box := h_box (D_law_box X G c) T cell mix
  have take : FnHas P w K mg base "_law_take" 1 (BSp K Rtake) := h_take (D_law_take X G c) T
  have kindOf := h_kind_of (D_law_kind_of X G c) take
  have stocked := h_stocked (D_law_stocked X G c) T take kindOf
  exact ⟨box, stocked, take, bestWorth, tablePaper, tableBound, cutFor, isCut, wholeBound, somePrice, stairFor⟩
theorem fn_pureOk {P : Program} {w : World} {K : PySem.W.Frag} {mg : Str → Option Value} {base : Heap} {x qual : Str} {params : Arguments} {body : List Stmt} {scope : Scope} {f : Addr} {fd : FuncData} {N ps : List Str} {k : Nat} {R : List PyData → PyData → Prop} (F : FunD K x qual params body scope [] [] f fd) (Sc : FnScope N ps scope) (len : ∀ ds d, R ds d → ds.length = ps.length)
    (hb : ∀ ds d, R ds d → Body P w K mg base N qual scope body k (ds.map Sl.dat ++ nos (N.length - ds.length)) { nx := fun _ => d = .none, rt := fun d' _ => d' = d }) : FnOk P w K mg base CX0 (k + 1) f fd ps (PSp K R) := by
  refine F.ok Sc (fun vs G Q E h => ?_) (fun cdv A outer s G vs Q E hr h => ?_)
  · obtain ⟨H, ds, d, _, h2, h3, _⟩ := h
    rw [DpAll.length h2]; exact len ds d h3
  · obtain ⟨H, ds, d, h1, h2, h3, kk⟩ := h
    obtain ⟨ok, no⟩ := ok_start (N := N) (bx := 0) h1 h2
    have q := hb ds d h3 f cdv A outer s G E 0 Sc.nd (room_un hr) hr _ H G ok { nx := fun _ H' => Q .non H', rt := Q } ⟨fun σ' H' G' S' e _ st o' => ?_, fun d' v σ' H' G' S' e st o' hd => ?_, fun _ _ _ _ z => z.elim, fun _ _ _ _ z => z.elim, fun _ _ _ _ _ _ _ z => z.elim⟩
    · exact ⟨_, (wB_ok (F := famOf P w K mg base N qual scope f cdv A outer s G E 0 Sc.nd (room_un hr)) ()).nox, q⟩
    · subst e; exact kk _ H' G' (stp_new st no o'.hg) .non
    · subst e; exact kk v H' G' (stp_new st no o'.hg) hd
theorem facts {P : Program} {w : World} {K : PySem.W.Frag} {h : Heap} {mg : Str → Option Value} {f : Addr} (X : K.In h) (G : h.Ns mainGlobals mg) (hfa : mg ("law" : Str) = some (.ref f)) (c : He.SaysD fa fn K) (t : He.tupB K "NOUGHT" [.int 0, .int 1] = true) :
    ∃ fd : FuncData, (∀ (s : Shared) (v : Value), BindsTo s fd ⟨[v], []⟩ [("script", v)]) ∧ ∀ base : Heap, K.In base → base.Ns mainGlobals mg → FnOk P w K mg base CX0 12 f fd ["script"] (PSp K Rlaw) := by
  obtain ⟨fd, F⟩ := c.def_ lawAt (d := d_law) rfl
  have e := hfa.symm.trans (He.glo_ok X G (c.fact lawAt (f := .glo "law") rfl))
  cases e
  have b := FunD.bindsA (ps := ["script"]) F fun _ _ _ _ _ _ us hl => match us, hl with | [_], _ => rfl
  exact ⟨fd, fun s v => b s [v] rfl, fun base _ _ => fn_pureOk F sc_law (by rintro _ _ ⟨_, rfl, _⟩; rfl) (law_body (txt_of X G c) (calls_of X G c t))⟩
/-! ### the hook: the facts and NOUGHT -/
abbrev AlE : Type := He.AlD × Bool
def obsE (K : PySem.W.Frag) : AlE := (He.obsD fa fn K, He.tupB K "NOUGHT" [.int 0, .int 1])
def valE : AlE := (He.valD fn, true)
def obsEG (g : Addr → Option Obj) : AlE := obsE (He.frG g (He.asD g 4))
def hookE : PySem.W.Hook where
  α := AlE
  obs := fun s => obsEG s.heap.get?
  val := fun _ => valE
  says := fun _ h => ∃ K : PySem.W.Frag, K.In h ∧ obsE K = valE
  of := fun _ _ e => ⟨_, He.frG_in, e⟩
  keeps := fun _ _ _ ⟨K, hK, c⟩ k => ⟨K, PySem.W.Frag.In.keeps hK k, c⟩
theorem obsE_eq {g : Addr → Option Obj} {s : Shared} (h : ∀ a, g a = s.heap.get? a) : obsEG g = hookE.obs s := by
  have e : g = s.heap.get? := funext h
  rw [e] <;> rfl
abbrev R : PySem.W.OpenRow := PySem.W.OpenLaw.row PySem.Challenge.rw_sackloads_k35_whole_papers
def ob (s : PySem.W.SharedT) : AlE := obsEG (HandSHeadRun.getT s)
theorem ob_eq (s : PySem.W.SharedT) : ob s = hookE.obs s.abs := obsE_eq (HandSHeadRun.getT_eq s)
end Sk


set_option Elab.async false
set_option linter.all false
set_option maxRecDepth 100000
set_option maxHeartbeats 0
namespace Sk
open PySem PySem.Spec PyProof.Rows L2
theorem run (w : World) : HandSHeadRun.RunEq R (PySem.W.view R.prog [67]) hookE ob 8000 loose w := by
  intro os
  kernel_rfl
end Sk
open PySem PySem.W PySem.Calls PyProof.Rows
theorem PySem.Challenge.cw_sackloads_k35_whole_papers_holds : PySem.Challenge.rw_sackloads_k35_whole_papers.Holds := by
  w_on; o_law
  refine HandSHeadRun.head_any (r := OpenLaw.row PySem.Challenge.rw_sackloads_k35_whole_papers) (q := view (OpenLaw.row PySem.Challenge.rw_sackloads_k35_whole_papers).prog [67]) (H := Sk.hookE) (ob := Sk.ob) (M := 8000) (loose := Sk.loose) (d := HandSHeadRun.topDef (OpenLaw.row PySem.Challenge.rw_sackloads_k35_whole_papers).prog 67) (kwd := []) Sk.ob_eq
    (by kernel_rfl) (fun s => by kernel_rfl) Sk.run (by kernel_rfl) (by kernel_rfl) (by kernel_rfl) (by rfl) (by first | assumption | decide +kernel) (by decide +kernel) ⟨rfl, rfl, rfl, rfl, rfl, by decide +kernel⟩ ?hw ?hc
  case hw => w_witness2
  case hc =>
    refine L2.walk_ofE (l := PySem.Challenge.rw_sackloads_k35_whole_papers) (n := 63) (k := 12) (x := "script") (CX := L2.CX0) rfl (by decide) (by kernel_rfl) ⟨rfl, by decide, by decide⟩ ?F (fun _ _ _ _ z => z)
    intro w mg fa h Y G hmg0
    obtain ⟨K, KX, c⟩ := Y
    have hmg : mg ("law" : PySem.Str) = some (.ref fa) := by
      have e : (HandSHeadRun.topDef (OpenLaw.row PySem.Challenge.rw_sackloads_k35_whole_papers).prog 67).name = ("law" : PySem.Str) := by kernel_rfl
      rw [← e]
      exact hmg0
    have c1 : He.SaysD Sk.fa Sk.fn K := congrArg (fun z : Sk.AlE => z.1) c
    have c2 : He.tupB K "NOUGHT" [.int 0, .int 1] = true := congrArg (fun z : Sk.AlE => z.2) c
    obtain ⟨fd, hb, hF⟩ := Sk.facts (P := (PySem.Challenge.rw_sackloads_k35_whole_papers).prog) (w := w) KX G hmg c1 c2
    refine ⟨K, fd, Sk.PSp K Sk.Rlaw, KX, hb, fun H a ns hl _ hS => ⟨H, [.list (ns.map .int)], .bool true, fun _ _ h => h, .cons (.lst hS (Sk.DpAll.ofInts ns)) .nil, ⟨ns, rfl, rfl⟩, fun v H' G' _ hd => ?_⟩, hF⟩
    cases hd
    rfl
